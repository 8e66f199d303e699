import PyProof.Rows.All
import Wide.All
import OpenK.AllK
import Wide.FinOn
import HandS.ForMost
import HandS.IsInst
import HandS.Wide
import HandS.Flow
import HandS.TupAny
import HandS.Deep
import HandS.EndBits
import HandS.More
import HandS.TupLe
import HandS.Style
import HandS.FStrTup
import PyProof.Rows.RegStrFacts
import HandS.WordsDict
import HandS.Text
import HandS.Iter
import PyProof.StrBlock2
import PyProof.Rows.StrMul
import HandS.FStr
import PyProof.StrLawsRepr
import HandS.ForExc
import HandS.ExcInit
import HandS.ExcField
import HandS.ExcIs
import HandS.Conv
import PyProof.StrLaws
import PySem.Challenge.RW_wayorring_k30_wrong_rows_of_papers
set_option Elab.async false
set_option linter.all false
set_option maxRecDepth 100000
set_option maxHeartbeats 4000000
/-! M0: a small machine over data D (values without addresses), states Ms, and how a heap bears them. -/
namespace M
open PySem L2

inductive D where
  | non | bl (b : Bool) | int (i : Int) | str (s : Str)
  | tup (ds : List D) | lst (ds : List D) | sc (ds : List D)
  | dct (kds : List (Key × D)) | ref (k : Nat)
deriving Inhabited

inductive Cell where
  | lst (ds : List D) | dct (kds : List (Key × D)) | obj (C : Addr) (fs : List (Str × D)) | dT (kds : List (List Key × D))

inductive Slot where
  | emp | val (d : D) | own (c : Cell)

structure Ms where
  r : List Slot
  m : List Cell

inductive Fl where
  | nx | bk | ct | rt (d : D)

mutual
inductive RV (K : PySem.W.Frag) (F : Hp) (io : List Addr) : V → D → Prop
  | non : RV K F io .non .non
  | bl (b : Bool) : RV K F io (.bl b) (.bl b)
  | int (i : Int) : RV K F io (.int i) (.int i)
  | str (s : Str) : RV K F io (.str s) (.str s)
  | tup {a : Addr} {vs : List V} {ds : List D} : SqT K F a vs → RVs K F io vs ds → RV K F io (.ref a) (.tup ds)
  | lst {a : Addr} {vs : List V} {ds : List D} : F a = some (.lst vs) → RVs K F io vs ds → RV K F io (.ref a) (.lst ds)
  | sc {a : Addr} {vs : List V} {ds : List D} : SqL K F a vs → RVs K F io vs ds → RV K F io (.ref a) (.sc ds)
  | dct {a : Addr} {kvs : List (Key × V)} {kds : List (Key × D)} : F a = some (.dK kvs) → RVk K F io kvs kds → RV K F io (.ref a) (.dct kds)
  | ref {a : Addr} {k : Nat} : io[k]? = some a → RV K F io (.ref a) (.ref k)
inductive RVs (K : PySem.W.Frag) (F : Hp) (io : List Addr) : List V → List D → Prop
  | nil : RVs K F io [] []
  | cons {v : V} {vs : List V} {d : D} {ds : List D} : RV K F io v d → RVs K F io vs ds → RVs K F io (v :: vs) (d :: ds)
inductive RVk (K : PySem.W.Frag) (F : Hp) (io : List Addr) : List (Key × V) → List (Key × D) → Prop
  | nil : RVk K F io [] []
  | cons {k : Key} {v : V} {vs : List (Key × V)} {d : D} {ds : List (Key × D)} : RV K F io v d → RVk K F io vs ds → RVk K F io ((k, v) :: vs) ((k, d) :: ds)
end

section
variable {K : PySem.W.Frag} {F F' : Hp} {io io' : List Addr}
theorem sqT_mono {a : Addr} {vs : List V} (hF : ∀ a o, F a = some o → F' a = some o) (h : SqT K F a vs) : SqT K F' a vs := by
  rcases h with (h | ⟨o, h⟩) | h
  · exact .inl (.inl (hF _ _ h))
  · exact .inl (.inr ⟨o, hF _ _ h⟩)
  · exact .inr h
theorem sqL_mono {a : Addr} {vs : List V} (hF : ∀ a o, F a = some o → F' a = some o) (h : SqL K F a vs) : SqL K F' a vs := by
  rcases h with (h | ⟨o, h⟩) | h
  · exact .inl (.inl (hF _ _ h))
  · exact .inl (.inr ⟨o, hF _ _ h⟩)
  · exact .inr h
theorem pre_get {io io' : List Addr} {k : Nat} {a : Addr} (h : io <+: io') (e : io[k]? = some a) : io'[k]? = some a := by
  obtain ⟨r, rfl⟩ := h
  rw [List.getElem?_append_left (List.getElem?_eq_some_iff.mp e).1]
  exact e
theorem RV.mono (hF : ∀ a o, F a = some o → F' a = some o) (hi : io <+: io') {v : V} {d : D} (h : RV K F io v d) : RV K F' io' v d := by
  refine RV.rec (K := K) (F := F) (io := io) (motive_1 := fun v d _ => RV K F' io' v d) (motive_2 := fun vs ds _ => RVs K F' io' vs ds) (motive_3 := fun vs ds _ => RVk K F' io' vs ds) ?_ ?_ ?_ ?_ ?_ ?_ ?_ ?_ ?_ ?_ ?_ ?_ ?_ h
  · exact .non
  · exact .bl
  · exact .int
  · exact .str
  · exact fun h _ ih => .tup (sqT_mono hF h) ih
  · exact fun h _ ih => .lst (hF _ _ h) ih
  · exact fun h _ ih => .sc (sqL_mono hF h) ih
  · exact fun h _ ih => .dct (hF _ _ h) ih
  · exact fun h => .ref (pre_get hi h)
  · exact .nil
  · exact fun _ _ i1 i2 => .cons i1 i2
  · exact .nil
  · exact fun _ _ i1 i2 => .cons i1 i2
theorem RVs.mono (hF : ∀ a o, F a = some o → F' a = some o) (hi : io <+: io') : ∀ {vs : List V} {ds : List D}, RVs K F io vs ds → RVs K F' io' vs ds
  | _, _, .nil => .nil
  | _, _, .cons h t => .cons (h.mono hF hi) (RVs.mono hF hi t)
theorem RVk.mono (hF : ∀ a o, F a = some o → F' a = some o) (hi : io <+: io') : ∀ {vs : List (Key × V)} {ds : List (Key × D)}, RVk K F io vs ds → RVk K F' io' vs ds
  | _, _, .nil => .nil
  | _, _, .cons h t => .cons (h.mono hF hi) (RVk.mono hF hi t)
theorem RVs.length : ∀ {vs : List V} {ds : List D}, RVs K F io vs ds → vs.length = ds.length
  | _, _, .nil => rfl
  | _, _, .cons _ t => by simp [t.length]
theorem RVs.get : ∀ {vs : List V} {ds : List D} {i : Nat} {d : D}, RVs K F io vs ds → ds[i]? = some d → ∃ v, vs[i]? = some v ∧ RV K F io v d
  | _, _, _, _, .nil, e => by simp at e
  | _, _, 0, _, .cons h _, e => by simp at e; subst e; exact ⟨_, rfl, h⟩
  | _, _, i + 1, _, .cons _ t, e => by simpa using RVs.get (i := i) t (by simpa using e)
theorem RVs.append : ∀ {vs ws : List V} {ds es : List D}, RVs K F io vs ds → RVs K F io ws es → RVs K F io (vs ++ ws) (ds ++ es)
  | _, _, _, _, .nil, s => s
  | _, _, _, _, .cons h t, s => .cons h (t.append s)
theorem RVs.set : ∀ {vs : List V} {ds : List D} {v : V} {d : D} (j : Nat), RVs K F io vs ds → RV K F io v d → RVs K F io (vs.set j v) (ds.set j d)
  | _, _, _, _, _, .nil, _ => .nil
  | _, _, _, _, 0, .cons _ t, h => .cons h t
  | _, _, _, _, j + 1, .cons q t, h => .cons q (RVs.set j t h)
theorem RVs.drop : ∀ {vs : List V} {ds : List D} (n : Nat), RVs K F io vs ds → RVs K F io (vs.drop n) (ds.drop n)
  | _, _, 0, h => h
  | _, _, _ + 1, .nil => .nil
  | _, _, n + 1, .cons _ t => RVs.drop n t
theorem RVs.take : ∀ {vs : List V} {ds : List D} (n : Nat), RVs K F io vs ds → RVs K F io (vs.take n) (ds.take n)
  | _, _, 0, _ => .nil
  | _, _, _ + 1, .nil => .nil
  | _, _, n + 1, .cons h t => .cons h (RVs.take n t)
theorem RVs.dropLast {vs : List V} {ds : List D} (h : RVs K F io vs ds) : RVs K F io vs.dropLast ds.dropLast := by
  rw [List.dropLast_eq_take, List.dropLast_eq_take, h.length]
  exact h.take _
theorem RVs.reverse : ∀ {vs : List V} {ds : List D}, RVs K F io vs ds → RVs K F io vs.reverse ds.reverse
  | _, _, .nil => .nil
  | _, _, .cons h t => by
    rw [List.reverse_cons, List.reverse_cons]
    exact t.reverse.append (.cons h .nil)
theorem RVs.ints (ns : List Int) : RVs K F io (ns.map V.int) (ns.map D.int) := by
  induction ns with
  | nil => exact .nil
  | cons n r ih => exact .cons (.int n) ih
theorem RV.int_inv {v : V} {i : Int} (h : RV K F io v (.int i)) : v = .int i := by cases h; rfl
theorem RV.bl_inv {v : V} {i : Bool} (h : RV K F io v (.bl i)) : v = .bl i := by cases h; rfl
theorem RV.str_inv {v : V} {i : Str} (h : RV K F io v (.str i)) : v = .str i := by cases h; rfl
theorem RV.non_inv {v : V} (h : RV K F io v .non) : v = .non := by cases h; rfl
theorem RV.tup_inv {v : V} {ds : List D} (h : RV K F io v (.tup ds)) : ∃ a vs, v = .ref a ∧ SqT K F a vs ∧ RVs K F io vs ds := by
  cases h with
  | tup h1 h2 => exact ⟨_, _, rfl, h1, h2⟩
theorem RV.lst_inv {v : V} {ds : List D} (h : RV K F io v (.lst ds)) : ∃ a vs, v = .ref a ∧ F a = some (.lst vs) ∧ RVs K F io vs ds := by
  cases h with
  | lst h1 h2 => exact ⟨_, _, rfl, h1, h2⟩
theorem RV.sc_inv {v : V} {ds : List D} (h : RV K F io v (.sc ds)) : ∃ a vs, v = .ref a ∧ SqL K F a vs ∧ RVs K F io vs ds := by
  cases h with
  | sc h1 h2 => exact ⟨_, _, rfl, h1, h2⟩
theorem RV.dct_inv {v : V} {ds : List (Key × D)} (h : RV K F io v (.dct ds)) : ∃ a vs, v = .ref a ∧ F a = some (.dK vs) ∧ RVk K F io vs ds := by
  cases h with
  | dct h1 h2 => exact ⟨_, _, rfl, h1, h2⟩
theorem RV.ref_inv {v : V} {k : Nat} (h : RV K F io v (.ref k)) : ∃ a, v = .ref a ∧ io[k]? = some a := by
  cases h with
  | ref h => exact ⟨_, rfl, h⟩
end

/-- the frozen part, the heap, where the cells stand -/
structure Wd where
  F : Hp
  H : Hp
  io : List Addr

def RF (K : PySem.W.Frag) (W : Wd) : List (Str × V) → List (Str × D) → Prop := Paired fun (p : Str × V) (q : Str × D) => p.1 = q.1 ∧ RV K W.F W.io p.2 q.2
def RT (K : PySem.W.Frag) (W : Wd) : List (List Key × V) → List (List Key × D) → Prop := Paired fun (p : List Key × V) (q : List Key × D) => p.1 = q.1 ∧ RV K W.F W.io p.2 q.2
def CR (K : PySem.W.Frag) (W : Wd) (a : Addr) : Cell → Prop
  | .lst ds => ∃ vs, W.H a = some (.lst vs) ∧ RVs K W.F W.io vs ds
  | .dct kds => ∃ kvs, W.H a = some (.dK kvs) ∧ RVk K W.F W.io kvs kds
  | .obj C fs => ∃ dx fvs, W.H a = some (.ins C dx fvs) ∧ RF K W fvs fs
  | .dT kds => ∃ kvs, W.H a = some (.dT kvs) ∧ RT K W kvs kds

def Own (r : List Slot) (s : L2.St) (b : Addr) : Prop := ∃ (i : Nat) (c : Cell), r[i]? = some (Slot.own c) ∧ s[i]? = some (some (.ref b))
def Mine (W : Wd) (r : List Slot) (s : L2.St) (b : Addr) : Prop := (∃ o, W.F b = some o) ∨ b ∈ W.io ∨ Own r s b

structure Rel (K : PySem.W.Frag) (W : Wd) (S : Ms) (s : L2.St) : Prop where
  sub : ∀ a o, W.F a = some o → W.H a = some o
  nd : W.io.Nodup
  nf : ∀ a ∈ W.io, W.F a = none
  len : W.io.length = S.m.length
  cells : ∀ (k : Nat) c a, S.m[k]? = some c → W.io[k]? = some a → CR K W a c
  sl : s.length = S.r.length
  slots : ∀ (i : Nat) d, S.r[i]? = some (Slot.val d) → ∃ v, s[i]? = some (some v) ∧ RV K W.F W.io v d
  owns : ∀ (i : Nat) c, S.r[i]? = some (Slot.own c) → ∃ a, s[i]? = some (some (.ref a)) ∧ W.F a = none ∧ a ∉ W.io ∧ CR K W a c
  odis : ∀ (i j : Nat) c c' a, S.r[i]? = some (Slot.own c) → S.r[j]? = some (Slot.own c') → s[i]? = some (some (.ref a)) → s[j]? = some (some (.ref a)) → i = j

structure Fr (W : Wd) (r : List Slot) (s : L2.St) (W' : Wd) (r' : List Slot) (s' : L2.St) : Prop where
  fx : ∀ a o, W.F a = some o → W'.F a = some o
  ix : W.io <+: W'.io
  ot : ∀ b o, W.H b = some o → ¬ Mine W r s b → W'.H b = some o ∧ ¬ Mine W' r' s' b
  hp : ∀ b, W'.H b = none → W.H b = none

section
variable {K : PySem.W.Frag} {W W1 W2 : Wd} {S S1 : Ms} {r r1 r2 : List Slot} {s s1 s2 : L2.St}
theorem Fr.refl : Fr W r s W r s := ⟨fun _ _ h => h, List.prefix_refl _, fun _ _ h n => ⟨h, n⟩, fun _ h => h⟩
theorem Fr.trans (a : Fr W r s W1 r1 s1) (b : Fr W1 r1 s1 W2 r2 s2) : Fr W r s W2 r2 s2 :=
  ⟨fun c o h => b.fx c o (a.fx c o h), a.ix.trans b.ix, fun c o h n => let ⟨h1, n1⟩ := a.ot c o h n; b.ot c o h1 n1, fun c h => a.hp c (b.hp c h)⟩
theorem RV.up {v : V} {d : D} (h : RV K W.F W.io v d) (f : Fr W r s W1 r1 s1) : RV K W1.F W1.io v d := h.mono f.fx f.ix
theorem RVs.up {v : List V} {d : List D} (h : RVs K W.F W.io v d) (f : Fr W r s W1 r1 s1) : RVs K W1.F W1.io v d := h.mono f.fx f.ix
theorem RVk.up {v : List (Key × V)} {d : List (Key × D)} (h : RVk K W.F W.io v d) (f : Fr W r s W1 r1 s1) : RVk K W1.F W1.io v d := h.mono f.fx f.ix

def Wd.al (W : Wd) (p : Addr) (o : HO) : Wd := ⟨upd W.F p o, upd W.H p o, W.io⟩
/-- the heap alone is written, at p -/
def Wd.wr (W : Wd) (p : Addr) (o : HO) : Wd := ⟨W.F, upd W.H p o, W.io⟩
def Wd.fz (W : Wd) (p : Addr) (o : HO) : Wd := ⟨upd W.F p o, W.H, W.io⟩
def Wd.cl (W : Wd) (p : Addr) : Wd := ⟨W.F, W.H, W.io ++ [p]⟩

theorem RF.mono {W W' : Wd} (hF : ∀ a o, W.F a = some o → W'.F a = some o) (hi : W.io <+: W'.io) : ∀ {a b}, RF K W a b → RF K W' a b
  | _, _, .nil => .nil
  | _, _, .cons h t => .cons ⟨h.1, h.2.mono hF hi⟩ (RF.mono hF hi t)
theorem RT.mono {W W' : Wd} (hF : ∀ a o, W.F a = some o → W'.F a = some o) (hi : W.io <+: W'.io) : ∀ {a b}, RT K W a b → RT K W' a b
  | _, _, .nil => .nil
  | _, _, .cons h t => .cons ⟨h.1, h.2.mono hF hi⟩ (RT.mono hF hi t)
theorem CR.mono {W W' : Wd} {a : Addr} {c : Cell} (hF : ∀ a o, W.F a = some o → W'.F a = some o) (hi : W.io <+: W'.io) (hH : ∀ o, W.H a = some o → W'.H a = some o) (h : CR K W a c) : CR K W' a c := by
  cases c with
  | lst ds => obtain ⟨vs, h1, h2⟩ := h; exact ⟨vs, hH _ h1, h2.mono hF hi⟩
  | dct ds => obtain ⟨vs, h1, h2⟩ := h; exact ⟨vs, hH _ h1, h2.mono hF hi⟩
  | obj C fs => obtain ⟨dx, fv, h1, h2⟩ := h; exact ⟨dx, fv, hH _ h1, h2.mono hF hi⟩
  | dT ds => obtain ⟨vs, h1, h2⟩ := h; exact ⟨vs, hH _ h1, h2.mono hF hi⟩
theorem CR.there {a : Addr} {c : Cell} (h : CR K W a c) : ∃ o, W.H a = some o := by
  cases c with
  | lst ds => obtain ⟨vs, h1, h2⟩ := h; exact ⟨_, h1⟩
  | dct ds => obtain ⟨vs, h1, h2⟩ := h; exact ⟨_, h1⟩
  | obj C fs => obtain ⟨dx, fv, h1, h2⟩ := h; exact ⟨_, h1⟩
  | dT ds => obtain ⟨vs, h1, h2⟩ := h; exact ⟨_, h1⟩
theorem Rel.ioThere (R : Rel K W S s) {a : Addr} (h : a ∈ W.io) : ∃ o, W.H a = some o := by
  obtain ⟨k, hk, e⟩ := List.getElem_of_mem h
  have h1 : W.io[k]? = some a := by rw [List.getElem?_eq_getElem hk, e]
  have h2 : k < S.m.length := by rw [← R.len]; exact hk
  exact (R.cells k _ a (List.getElem?_eq_getElem h2) h1).there
theorem Rel.freshIo (R : Rel K W S s) {p : Addr} (h : W.H p = none) : p ∉ W.io := fun q => by
  obtain ⟨o, e⟩ := R.ioThere q
  rw [h] at e; cases e
theorem Rel.freshF (R : Rel K W S s) {p : Addr} (h : W.H p = none) : W.F p = none := by
  cases e : W.F p with
  | none => rfl
  | some o => have := R.sub p o e; rw [h] at this; cases this
theorem Rel.freshOwn (R : Rel K W S s) {p : Addr} (h : W.H p = none) : ¬ Own S.r s p := fun ⟨i, c, e1, e2⟩ => by
  obtain ⟨a, h1, _, _, h2⟩ := R.owns i c e1
  rw [e2] at h1; cases h1
  obtain ⟨o, e⟩ := h2.there
  rw [h] at e; cases e

theorem upd_none {H : Hp} {p : Addr} {o : HO} {b : Addr} (h : upd H p o b = none) : H b = none := by
  unfold upd at h
  split at h
  · cases h
  · exact h
theorem upd_keep {H : Hp} {p : Addr} {o : HO} (hp : H p = none) : ∀ a u, H a = some u → upd H p o a = some u := fun a u h => by
  rw [upd_ne (ne_of_none h hp)]; exact h
/-- a new object, frozen at once -/
theorem Rel.al (R : Rel K W S s) {p : Addr} {o : HO} (hp : W.H p = none) : Rel K (W.al p o) S s ∧ Fr W S.r s (W.al p o) S.r s := by
  have fF := R.freshF hp
  have hF : ∀ a u, W.F a = some u → (W.al p o).F a = some u := upd_keep fF
  have hH : ∀ a u, W.H a = some u → (W.al p o).H a = some u := upd_keep hp
  have hi : W.io <+: (W.al p o).io := List.prefix_refl _
  refine ⟨⟨fun a u h => ?_, R.nd, fun a h => ?_, R.len, fun k c a h1 h2 => (R.cells k c a h1 h2).mono hF hi (hH a), R.sl, fun i d h => ?_, fun i c h => ?_, R.odis⟩, ⟨hF, hi, fun b u h n => ⟨hH b u h, fun m => n ?_⟩, fun _ h => upd_none h⟩⟩
  · show upd W.H p o a = some u
    by_cases e : a = p
    · subst e
      have h' : upd W.F a o a = some u := h
      rw [upd_same] at h' ⊢; exact h'
    · have h' : upd W.F p o a = some u := h
      rw [upd_ne e] at h' ⊢; exact R.sub a u h'
  · show upd W.F p o a = none
    have e : a ≠ p := fun e => R.freshIo hp (e ▸ h)
    rw [upd_ne e]; exact R.nf a h
  · obtain ⟨v, e, q⟩ := R.slots i d h
    exact ⟨v, e, q.mono hF hi⟩
  · obtain ⟨a, e, n1, n2, q⟩ := R.owns i c h
    refine ⟨a, e, ?_, n2, q.mono hF hi (hH a)⟩
    have e : a ≠ p := fun e => by obtain ⟨u, z⟩ := q.there; rw [e, hp] at z; cases z
    show upd W.F p o a = none
    rw [upd_ne e]; exact n1
  · rcases m with ⟨u', e⟩ | e | e
    · have e' : upd W.F p o b = some u' := e
      have nb : b ≠ p := ne_of_none h hp
      rw [upd_ne nb] at e'
      exact .inl ⟨u', e'⟩
    · exact .inr (.inl e)
    · exact .inr (.inr e)
/-- a new object that nobody holds yet -/
structure New (K : PySem.W.Frag) (W : Wd) (S : Ms) (s : L2.St) (p : Addr) (c : Cell) : Prop where
  nf : W.F p = none
  ni : p ∉ W.io
  no : ¬ Own S.r s p
  cr : CR K W p c
theorem Rel.wrNew (R : Rel K W S s) {p : Addr} {o : HO} (hp : W.H p = none) : Rel K (W.wr p o) S s ∧ Fr W S.r s (W.wr p o) S.r s := by
  have hF : ∀ a u, W.F a = some u → (W.wr p o).F a = some u := fun _ _ h => h
  have hH : ∀ a u, W.H a = some u → (W.wr p o).H a = some u := upd_keep hp
  have hi : W.io <+: (W.wr p o).io := List.prefix_refl _
  refine ⟨⟨fun a u h => hH a u (R.sub a u h), R.nd, R.nf, R.len, fun k c a h1 h2 => (R.cells k c a h1 h2).mono hF hi (hH a), R.sl, fun i d h => R.slots i d h, fun i c h => ?_, R.odis⟩, ⟨hF, hi, fun b u h n => ⟨hH b u h, n⟩, fun _ h => upd_none h⟩⟩
  obtain ⟨a, e, n1, n2, q⟩ := R.owns i c h
  exact ⟨a, e, n1, n2, q.mono hF hi (hH a)⟩
theorem Rel.newLst (R : Rel K W S s) {p : Addr} {vs : List V} {ds : List D} (hp : W.H p = none) (h : RVs K W.F W.io vs ds) :
    Rel K (W.wr p (.lst vs)) S s ∧ Fr W S.r s (W.wr p (.lst vs)) S.r s ∧ New K (W.wr p (.lst vs)) S s p (.lst ds) := by
  obtain ⟨R1, f1⟩ := R.wrNew (o := .lst vs) hp
  exact ⟨R1, f1, R.freshF hp, R.freshIo hp, R.freshOwn hp, vs, upd_same, h⟩
/-- it is frozen -/
theorem Rel.freeze {W0 : Wd} {r0 : List Slot} {s0 : L2.St} (R : Rel K W S s) (f0 : Fr W0 r0 s0 W S.r s) {p : Addr} {c : Cell} (hp0 : W0.H p = none) (n : New K W S s p c) {o : HO} (ho : W.H p = some o) :
    Rel K (W.fz p o) S s ∧ Fr W0 r0 s0 (W.fz p o) S.r s ∧ (∀ a u, W.F a = some u → (W.fz p o).F a = some u) := by
  have hF : ∀ a u, W.F a = some u → (W.fz p o).F a = some u := upd_keep n.nf
  have hi : W.io <+: (W.fz p o).io := List.prefix_refl _
  refine ⟨⟨fun a u h => ?_, R.nd, fun a h => ?_, R.len, fun k c a e1 e2 => (R.cells k c a e1 e2).mono hF hi (fun _ h => h), R.sl, fun i d h => ?_, fun i c h => ?_, R.odis⟩, ⟨fun a u h => hF a u (f0.fx a u h), f0.ix, fun b u h nm => ?_, f0.hp⟩, hF⟩
  · show W.H a = some u
    have h' : upd W.F p o a = some u := h
    by_cases e : a = p
    · subst e; rw [upd_same] at h'; cases h'; exact ho
    · rw [upd_ne e] at h'; exact R.sub a u h'
  · show upd W.F p _ a = none
    have e : a ≠ p := fun e => n.ni (by rw [← e]; exact h)
    rw [upd_ne e]; exact R.nf a h
  · obtain ⟨v, e, q⟩ := R.slots i d h
    exact ⟨v, e, q.mono hF hi⟩
  · obtain ⟨a, e, n1, n2, q⟩ := R.owns i c h
    refine ⟨a, e, ?_, n2, q.mono hF hi (fun _ h => h)⟩
    show upd W.F p _ a = none
    rw [upd_ne (fun z => n.no ⟨i, c, h, by rw [← z]; exact e⟩)]; exact n1
  · obtain ⟨h1, n1⟩ := f0.ot b u h nm
    refine ⟨h1, fun m => n1 ?_⟩
    rcases m with ⟨u', e⟩ | e | e
    · have e' : upd W.F p o b = some u' := e
      rw [upd_ne (ne_of_none h hp0)] at e'
      exact .inl ⟨u', e'⟩
    · exact .inr (.inl e)
    · exact .inr (.inr e)
theorem Rel.freezeLst {W0 : Wd} {r0 : List Slot} {s0 : L2.St} (R : Rel K W S s) (f0 : Fr W0 r0 s0 W S.r s) {p : Addr} {ds : List D} (hp0 : W0.H p = none) (n : New K W S s p (.lst ds)) :
    ∃ W', W'.H = W.H ∧ Rel K W' S s ∧ Fr W0 r0 s0 W' S.r s ∧ RV K W'.F W'.io (.ref p) (.lst ds) := by
  obtain ⟨vs, h1, h2⟩ := n.cr
  obtain ⟨R1, f1, hF⟩ := R.freeze f0 hp0 n h1
  exact ⟨W.fz p (.lst vs), rfl, R1, f1, .lst upd_same (h2.mono hF (List.prefix_refl _))⟩
theorem Rel.freezeDct {W0 : Wd} {r0 : List Slot} {s0 : L2.St} (R : Rel K W S s) (f0 : Fr W0 r0 s0 W S.r s) {p : Addr} {ds : List (Key × D)} (hp0 : W0.H p = none) (n : New K W S s p (.dct ds)) :
    ∃ W', W'.H = W.H ∧ Rel K W' S s ∧ Fr W0 r0 s0 W' S.r s ∧ RV K W'.F W'.io (.ref p) (.dct ds) := by
  obtain ⟨vs, h1, h2⟩ := n.cr
  obtain ⟨R1, f1, hF⟩ := R.freeze f0 hp0 n h1
  exact ⟨W.fz p (.dK vs), rfl, R1, f1, .dct upd_same (h2.mono hF (List.prefix_refl _))⟩

/-! ### slots -/
theorem own_set {i : Nat} {x : Slot} {v : Option V} {b : Addr} (h : Own (r.set i x) (s.set i v) b) (hl : s.length = r.length) : Own r s b ∨ (∃ c, x = .own c ∧ v = some (.ref b)) := by
  obtain ⟨j, c, e1, e2⟩ := h
  by_cases hj : i = j
  · subst hj
    by_cases hi : i < r.length
    · rw [List.getElem?_set_self hi] at e1
      rw [List.getElem?_set_self (by omega)] at e2
      cases e1; cases e2
      exact .inr ⟨c, rfl, rfl⟩
    · rw [List.getElem?_eq_none (by simpa using hi)] at e1; cases e1
  · rw [List.getElem?_set_ne hj] at e1 e2
    exact .inl ⟨j, c, e1, e2⟩
theorem Rel.setVal (R : Rel K W S s) {i : Nat} {v : V} {d : D} (h : RV K W.F W.io v d) : Rel K W { S with r := S.r.set i (Slot.val d) } (s.set i (some v)) ∧ Fr W S.r s W (S.r.set i (Slot.val d)) (s.set i (some v)) := by
  refine ⟨⟨R.sub, R.nd, R.nf, R.len, R.cells, by simp [R.sl], fun j e hj => ?_, fun j c hj => ?_, fun j k c c' a e1 e2 e3 e4 => ?_⟩, ⟨fun _ _ h => h, List.prefix_refl _, fun b u hb n => ⟨hb, fun m => n ?_⟩, fun _ h => h⟩⟩
  · by_cases e1 : i = j
    · subst e1
      by_cases hi : i < S.r.length
      · rw [List.getElem?_set_self hi] at hj; cases hj
        exact ⟨v, by rw [List.getElem?_set_self (by rw [R.sl]; exact hi)], h⟩
      · rw [List.getElem?_eq_none (by simpa using hi)] at hj; cases hj
    · rw [List.getElem?_set_ne e1] at hj ⊢
      exact R.slots j e hj
  · by_cases e1 : i = j
    · subst e1
      by_cases hi : i < S.r.length
      · rw [List.getElem?_set_self hi] at hj; cases hj
      · rw [List.getElem?_eq_none (by simpa using hi)] at hj; cases hj
    · rw [List.getElem?_set_ne e1] at hj ⊢
      exact R.owns j c hj
  · have q : ∀ j c, (S.r.set i (Slot.val d))[j]? = some (Slot.own c) → i ≠ j := fun j c e z => by
      subst z
      by_cases hi : i < S.r.length
      · rw [List.getElem?_set_self hi] at e; cases e
      · rw [List.getElem?_eq_none (by simpa using hi)] at e; cases e
    have q1 := q j c e1
    have q2 := q k c' e2
    rw [List.getElem?_set_ne q1] at e1 e3
    rw [List.getElem?_set_ne q2] at e2 e4
    exact R.odis j k c c' a e1 e2 e3 e4
  · rcases m with m | m | m
    · exact .inl m
    · exact .inr (.inl m)
    · rcases own_set m R.sl with m | ⟨c, e, _⟩
      · exact .inr (.inr m)
      · cases e
/-- a slot takes a new object for its own -/
theorem Rel.setOwn {W0 : Wd} {r0 : List Slot} {s0 : L2.St} (R : Rel K W S s) (f0 : Fr W0 r0 s0 W S.r s) {i : Nat} {p : Addr} {c : Cell} (hp0 : W0.H p = none) (n : New K W S s p c) :
    Rel K W { S with r := S.r.set i (Slot.own c) } (s.set i (some (.ref p))) ∧ Fr W0 r0 s0 W (S.r.set i (Slot.own c)) (s.set i (some (.ref p))) := by
  have inv : ∀ j c', (S.r.set i (Slot.own c))[j]? = some (Slot.own c') → (j = i ∧ c' = c ∧ i < S.r.length) ∨ (i ≠ j ∧ S.r[j]? = some (Slot.own c')) := fun j c' e => by
    by_cases e1 : i = j
    · subst e1
      by_cases hi : i < S.r.length
      · rw [List.getElem?_set_self hi] at e; cases e; exact .inl ⟨rfl, rfl, hi⟩
      · rw [List.getElem?_eq_none (by simpa using hi)] at e; cases e
    · rw [List.getElem?_set_ne e1] at e; exact .inr ⟨e1, e⟩
  refine ⟨⟨R.sub, R.nd, R.nf, R.len, R.cells, by simp [R.sl], fun j e hj => ?_, fun j c' hj => ?_, fun j k c1 c2 a e1 e2 e3 e4 => ?_⟩, ⟨f0.fx, f0.ix, fun b u hb nm => ?_, f0.hp⟩⟩
  · by_cases e1 : i = j
    · subst e1
      by_cases hi : i < S.r.length
      · rw [List.getElem?_set_self hi] at hj; cases hj
      · rw [List.getElem?_eq_none (by simpa using hi)] at hj; cases hj
    · rw [List.getElem?_set_ne e1] at hj ⊢
      exact R.slots j e hj
  · rcases inv j c' hj with ⟨rfl, rfl, hi⟩ | ⟨ne, e⟩
    · exact ⟨p, by rw [List.getElem?_set_self (by rw [R.sl]; exact hi)], n.nf, n.ni, n.cr⟩
    · rw [List.getElem?_set_ne ne]; exact R.owns j c' e
  · rcases inv j c1 e1 with ⟨rfl, rfl, hi⟩ | ⟨ne, e⟩
    · rcases inv k c2 e2 with ⟨rfl, rfl, _⟩ | ⟨ne', e'⟩
      · rfl
      · rw [List.getElem?_set_self (by rw [R.sl]; exact hi)] at e3; cases e3
        rw [List.getElem?_set_ne ne'] at e4
        exact absurd ⟨k, c2, e', e4⟩ n.no
    · rcases inv k c2 e2 with ⟨rfl, rfl, hi⟩ | ⟨ne', e'⟩
      · rw [List.getElem?_set_self (by rw [R.sl]; exact hi)] at e4; cases e4
        rw [List.getElem?_set_ne ne] at e3
        exact absurd ⟨j, c1, e, e3⟩ n.no
      · rw [List.getElem?_set_ne ne] at e3
        rw [List.getElem?_set_ne ne'] at e4
        exact R.odis j k c1 c2 a e e' e3 e4
  · obtain ⟨h1, n1⟩ := f0.ot b u hb nm
    refine ⟨h1, fun m => n1 ?_⟩
    rcases m with m | m | m
    · exact .inl m
    · exact .inr (.inl m)
    · rcases own_set m R.sl with m | ⟨c', _, e⟩
      · exact .inr (.inr m)
      · cases e
        rw [hp0] at hb; cases hb
/-- a new object becomes a cell -/
theorem Rel.addCell {W0 : Wd} {r0 : List Slot} {s0 : L2.St} (R : Rel K W S s) (f0 : Fr W0 r0 s0 W S.r s) {p : Addr} {c : Cell} (hp0 : W0.H p = none) (n : New K W S s p c) :
    Rel K (W.cl p) { S with m := S.m ++ [c] } s ∧ Fr W0 r0 s0 (W.cl p) S.r s ∧ RV K (W.cl p).F (W.cl p).io (.ref p) (.ref S.m.length) := by
  have hi : W.io <+: (W.cl p).io := List.prefix_append _ _
  have hF : ∀ a u, W.F a = some u → (W.cl p).F a = some u := fun _ _ h => h
  refine ⟨⟨R.sub, ?_, fun a h => ?_, by simp [Wd.cl, R.len], fun k c' a e1 e2 => ?_, R.sl, fun i d h => ?_, fun i c' h => ?_, R.odis⟩, ⟨f0.fx, f0.ix.trans hi, fun b u hb nm => ?_, f0.hp⟩, .ref ?_⟩
  · show (W.io ++ [p]).Nodup
    rw [List.nodup_append]
    exact ⟨R.nd, by simp, fun a ha b hb e => n.ni (by simp at hb; rw [← hb, ← e]; exact ha)⟩
  · rcases List.mem_append.mp h with h | h
    · exact R.nf a h
    · simp at h; subst h; exact n.nf
  · have e2' : (W.io ++ [p])[k]? = some a := e2
    by_cases hk : k < S.m.length
    · rw [List.getElem?_append_left hk] at e1
      rw [List.getElem?_append_left (by rw [R.len]; exact hk)] at e2'
      exact (R.cells k c' a e1 e2').mono hF hi (fun _ h => h)
    · rw [List.getElem?_append_right (by omega)] at e1
      rw [List.getElem?_append_right (by rw [R.len]; omega)] at e2'
      have hk0 : k - S.m.length = 0 := by
        have := (List.getElem?_eq_some_iff.mp e1).1
        simp at this; omega
      rw [hk0] at e1
      rw [R.len, hk0] at e2'
      simp at e1 e2'
      subst e1; subst e2'
      exact n.cr.mono hF hi (fun _ h => h)
  · obtain ⟨v, e, q⟩ := R.slots i d h
    exact ⟨v, e, q.mono hF hi⟩
  · obtain ⟨a, e, n1, n2, q⟩ := R.owns i c' h
    refine ⟨a, e, n1, fun z => ?_, q.mono hF hi (fun _ h => h)⟩
    rcases List.mem_append.mp z with z | z
    · exact n2 z
    · simp at z; subst z; exact n.no ⟨i, c', h, e⟩
  · obtain ⟨h1, n1⟩ := f0.ot b u hb nm
    refine ⟨h1, fun m => n1 ?_⟩
    rcases m with m | m | m
    · exact .inl m
    · rcases List.mem_append.mp m with m | m
      · exact .inr (.inl m)
      · simp at m; subst m; rw [hp0] at hb; cases hb
    · exact .inr (.inr m)
  · show (W.io ++ [p])[S.m.length]? = some p
    rw [List.getElem?_append_right (by rw [R.len]; exact Nat.le_refl _), R.len]
    simp
/-- an own slot is read as a value: frozen -/
theorem Rel.slotFreeze (R : Rel K W S s) {i : Nat} {c : Cell} (hi : S.r[i]? = some (Slot.own c)) {a : Addr} (ha : s[i]? = some (some (.ref a))) {o : HO} (ho : W.H a = some o) {d : D}
    (hd : RV K (W.fz a o).F W.io (.ref a) d) : Rel K (W.fz a o) { S with r := S.r.set i (Slot.val d) } s ∧ Fr W S.r s (W.fz a o) (S.r.set i (Slot.val d)) s := by
  obtain ⟨a', e', n1, n2, q⟩ := R.owns i c hi
  rw [ha] at e'; cases e'
  have hil := (List.getElem?_eq_some_iff.mp hi).1
  have hF : ∀ b u, W.F b = some u → (W.fz a o).F b = some u := upd_keep n1
  have hio : W.io <+: (W.fz a o).io := List.prefix_refl _
  have inv : ∀ j c', (S.r.set i (Slot.val d))[j]? = some (Slot.own c') → i ≠ j ∧ S.r[j]? = some (Slot.own c') := fun j c' e => by
    by_cases e1 : i = j
    · subst e1
      rw [List.getElem?_set_self hil] at e; cases e
    · rw [List.getElem?_set_ne e1] at e; exact ⟨e1, e⟩
  refine ⟨⟨fun b u h => ?_, R.nd, fun b h => ?_, R.len, fun k c' b e1 e2 => (R.cells k c' b e1 e2).mono hF hio (fun _ h => h), by simp [R.sl], fun j e hj => ?_, fun j c' hj => ?_, fun j k c1 c2 b e1 e2 e3 e4 => ?_⟩, ⟨hF, hio, fun b u hb nm => ⟨hb, fun m => nm ?_⟩, fun _ h => h⟩⟩
  · show W.H b = some u
    have h' : upd W.F a o b = some u := h
    by_cases e : b = a
    · subst e; rw [upd_same] at h'; cases h'; exact ho
    · rw [upd_ne e] at h'; exact R.sub b u h'
  · show upd W.F a o b = none
    have e : b ≠ a := fun e => n2 (by rw [← e]; exact h)
    rw [upd_ne e]; exact R.nf b h
  · by_cases e1 : i = j
    · subst e1
      rw [List.getElem?_set_self hil] at hj; cases hj
      exact ⟨_, ha, hd⟩
    · rw [List.getElem?_set_ne e1] at hj
      obtain ⟨v, e, q⟩ := R.slots j e hj
      exact ⟨v, e, q.mono hF hio⟩
  · obtain ⟨ne, e⟩ := inv j c' hj
    obtain ⟨b, e2, m1, m2, q⟩ := R.owns j c' e
    refine ⟨b, e2, ?_, m2, q.mono hF hio (fun _ h => h)⟩
    show upd W.F a o b = none
    have nb : b ≠ a := fun z => by subst z; exact ne (R.odis i j _ _ b hi e ha e2)
    rw [upd_ne nb]; exact m1
  · obtain ⟨_, e1'⟩ := inv j c1 e1
    obtain ⟨_, e2'⟩ := inv k c2 e2
    exact R.odis j k c1 c2 b e1' e2' e3 e4
  · rcases m with ⟨u', e⟩ | m | ⟨j, c', e1, e2⟩
    · have e' : upd W.F a o b = some u' := e
      by_cases e : b = a
      · subst e; exact .inr (.inr ⟨i, c, hi, ha⟩)
      · rw [upd_ne e] at e'; exact .inl ⟨u', e'⟩
    · exact .inr (.inl m)
    · exact .inr (.inr ⟨j, c', (inv j c' e1).2, e2⟩)
theorem Rel.slotLst (R : Rel K W S s) {i : Nat} {ds : List D} (hi : S.r[i]? = some (Slot.own (.lst ds))) : ∃ (a : Addr) (W' : Wd), s[i]? = some (some (.ref a)) ∧ W'.H = W.H ∧ Rel K W' { S with r := S.r.set i (Slot.val (.lst ds)) } s ∧
    Fr W S.r s W' (S.r.set i (Slot.val (.lst ds))) s ∧ RV K W'.F W'.io (.ref a) (.lst ds) := by
  obtain ⟨a, e, n1, n2, vs, h1, h2⟩ := R.owns i _ hi
  have hd : RV K (W.fz a (.lst vs)).F W.io (.ref a) (.lst ds) := .lst upd_same (h2.mono (upd_keep n1) (List.prefix_refl _))
  obtain ⟨R1, f1⟩ := R.slotFreeze hi e h1 hd
  exact ⟨a, W.fz a (.lst vs), e, rfl, R1, f1, hd⟩
theorem Rel.slotDct (R : Rel K W S s) {i : Nat} {ds : List (Key × D)} (hi : S.r[i]? = some (Slot.own (.dct ds))) : ∃ (a : Addr) (W' : Wd), s[i]? = some (some (.ref a)) ∧ W'.H = W.H ∧ Rel K W' { S with r := S.r.set i (Slot.val (.dct ds)) } s ∧
    Fr W S.r s W' (S.r.set i (Slot.val (.dct ds))) s ∧ RV K W'.F W'.io (.ref a) (.dct ds) := by
  obtain ⟨a, e, n1, n2, vs, h1, h2⟩ := R.owns i _ hi
  have hd : RV K (W.fz a (.dK vs)).F W.io (.ref a) (.dct ds) := .dct upd_same (h2.mono (upd_keep n1) (List.prefix_refl _))
  obtain ⟨R1, f1⟩ := R.slotFreeze hi e h1 hd
  exact ⟨a, W.fz a (.dK vs), e, rfl, R1, f1, hd⟩
/-- an own object is changed -/
theorem Rel.wrOwn (R : Rel K W S s) {i : Nat} {c c' : Cell} (hi : S.r[i]? = some (Slot.own c)) {a : Addr} (ha : s[i]? = some (some (.ref a))) {o : HO} (hc : CR K (W.wr a o) a c') :
    Rel K (W.wr a o) { S with r := S.r.set i (Slot.own c') } s ∧ Fr W S.r s (W.wr a o) (S.r.set i (Slot.own c')) s := by
  obtain ⟨a', e', n1, n2, q⟩ := R.owns i c hi
  rw [ha] at e'; cases e'
  have hil := (List.getElem?_eq_some_iff.mp hi).1
  have hF : ∀ b u, W.F b = some u → (W.wr a o).F b = some u := fun _ _ h => h
  have hio : W.io <+: (W.wr a o).io := List.prefix_refl _
  have hH : ∀ b, b ≠ a → ∀ u, W.H b = some u → (W.wr a o).H b = some u := fun b nb u h => by
    show upd W.H a o b = some u
    rw [upd_ne nb]; exact h
  have inv : ∀ j c1, (S.r.set i (Slot.own c'))[j]? = some (Slot.own c1) → (j = i ∧ c1 = c') ∨ (i ≠ j ∧ S.r[j]? = some (Slot.own c1)) := fun j c1 e => by
    by_cases e1 : i = j
    · subst e1
      rw [List.getElem?_set_self hil] at e; cases e; exact .inl ⟨rfl, rfl⟩
    · rw [List.getElem?_set_ne e1] at e; exact .inr ⟨e1, e⟩
  have old : ∀ j c1, (S.r.set i (Slot.own c'))[j]? = some (Slot.own c1) → ∃ c2, S.r[j]? = some (Slot.own c2) := fun j c1 e => by
    rcases inv j c1 e with ⟨rfl, _⟩ | ⟨_, e⟩
    · exact ⟨c, hi⟩
    · exact ⟨c1, e⟩
  refine ⟨⟨fun b u h => hH b (ne_of_none h n1) u (R.sub b u h), R.nd, R.nf, R.len, fun k c1 b e1 e2 => (R.cells k c1 b e1 e2).mono hF hio (hH b fun z => n2 (by rw [← z]; exact List.mem_of_getElem? e2)), by simp [R.sl], fun j e hj => ?_, fun j c1 hj => ?_, fun j k c1 c2 b e1 e2 e3 e4 => ?_⟩, ⟨hF, hio, fun b u hb nm => ?_, fun _ h => upd_none h⟩⟩
  · by_cases e1 : i = j
    · subst e1
      rw [List.getElem?_set_self hil] at hj; cases hj
    · rw [List.getElem?_set_ne e1] at hj
      exact R.slots j e hj
  · rcases inv j c1 hj with ⟨rfl, rfl⟩ | ⟨ne, e⟩
    · exact ⟨a, ha, n1, n2, hc⟩
    · obtain ⟨b, e2, m1, m2, q⟩ := R.owns j c1 e
      exact ⟨b, e2, m1, m2, q.mono hF hio (hH b fun z => by subst z; exact ne (R.odis i j _ _ b hi e ha e2))⟩
  · obtain ⟨d1, q1⟩ := old j c1 e1
    obtain ⟨d2, q2⟩ := old k c2 e2
    exact R.odis j k d1 d2 b q1 q2 e3 e4
  · refine ⟨hH b (fun z => nm (.inr (.inr ⟨i, c, hi, by rw [z]; exact ha⟩))) u hb, fun m => nm ?_⟩
    rcases m with m | m | ⟨j, c1, e1, e2⟩
    · exact .inl m
    · exact .inr (.inl m)
    · obtain ⟨d1, q1⟩ := old j c1 e1
      exact .inr (.inr ⟨j, d1, q1, e2⟩)
/-- a cell is changed -/
theorem Rel.wrCell (R : Rel K W S s) {k : Nat} {c' : Cell} {a : Addr} (ha : W.io[k]? = some a) {o : HO} (hc : CR K (W.wr a o) a c') :
    Rel K (W.wr a o) { S with m := S.m.set k c' } s ∧ Fr W S.r s (W.wr a o) S.r s := by
  have hmem : a ∈ W.io := List.mem_of_getElem? ha
  have n1 := R.nf a hmem
  have hF : ∀ b u, W.F b = some u → (W.wr a o).F b = some u := fun _ _ h => h
  have hio : W.io <+: (W.wr a o).io := List.prefix_refl _
  have hH : ∀ b, b ≠ a → ∀ u, W.H b = some u → (W.wr a o).H b = some u := fun b nb u h => by
    show upd W.H a o b = some u
    rw [upd_ne nb]; exact h
  refine ⟨⟨fun b u h => hH b (ne_of_none h n1) u (R.sub b u h), R.nd, R.nf, by simp [Wd.wr, R.len], fun j c1 b e1 e2 => ?_, R.sl, fun j e hj => R.slots j e hj, fun j c1 hj => ?_, R.odis⟩, ⟨hF, hio, fun b u hb nm => ⟨hH b (fun z => nm (.inr (.inl (by rw [z]; exact hmem)))) u hb, nm⟩, fun _ h => upd_none h⟩⟩
  · have e2' : W.io[j]? = some b := e2
    by_cases hj : k = j
    · subst hj
      rw [ha] at e2'; cases e2'
      have hk := (List.getElem?_eq_some_iff.mp ha).1
      rw [R.len] at hk
      rw [List.getElem?_set_self hk] at e1; cases e1
      exact hc
    · rw [List.getElem?_set_ne hj] at e1
      refine (R.cells j c1 b e1 e2').mono hF hio (hH b fun z => ?_)
      subst z
      obtain ⟨h1, q1⟩ := List.getElem?_eq_some_iff.mp e2'
      obtain ⟨h2, q2⟩ := List.getElem?_eq_some_iff.mp ha
      exact hj ((List.getElem_inj R.nd).mp (q2.trans q1.symm))
  · obtain ⟨b, e2, m1, m2, q⟩ := R.owns j c1 hj
    exact ⟨b, e2, m1, m2, q.mono hF hio (hH b fun z => m2 (by rw [z]; exact hmem))⟩
end
end M

/-! M1: judgements (an expression of the text and its function over states), names, constants, operators, comparisons, tests. -/
namespace M
open PySem L2

abbrev EF := Ms → Option (D × Ms)
abbrev BF := Ms → Option (Bool × Ms)
abbrev AF := Ms → Option (List D × Ms)
abbrev SF := Ms → Option (Fl × Ms)
abbrev GF := D → Ms → Option Ms
abbrev CF := Ms → Option (Cell × Ms)
abbrev OF := Ms → Option (Option Int × Ms)

def TEok (K : PySem.W.Frag) (t : TE) (f : EF) : Prop := ∀ S d S', f S = some (d, S') → ∀ W s (Q : VK), Rel K W S s → (∀ v W', Rel K W' S' s → Fr W S.r s W' S'.r s → RV K W'.F W'.io v d → Q v W'.H) → t s W.H Q
def TTok (K : PySem.W.Frag) (t : TT) (f : BF) : Prop := ∀ S d S', f S = some (d, S') → ∀ W s (Q : Bool → Hp → Prop), Rel K W S s → (∀ W', Rel K W' S' s → Fr W S.r s W' S'.r s → Q d W'.H) → t s W.H Q
def TAok (K : PySem.W.Frag) (t : TA) (f : AF) : Prop := ∀ S d S', f S = some (d, S') → ∀ W s (Q : List V → Hp → Prop), Rel K W S s → (∀ v W', Rel K W' S' s → Fr W S.r s W' S'.r s → RVs K W'.F W'.io v d → Q v W'.H) → t s W.H Q
def TOok (K : PySem.W.Frag) (t : TO) (f : OF) : Prop := ∀ S d S', f S = some (d, S') → ∀ W s (Q : Option Int → Hp → Prop), Rel K W S s → (∀ W', Rel K W' S' s → Fr W S.r s W' S'.r s → Q d W'.H) → t s W.H Q
/-- an expression that makes a new object -/
def TFok (K : PySem.W.Frag) (t : TE) (f : CF) : Prop := ∀ S c S', f S = some (c, S') → ∀ W s (Q : VK), Rel K W S s → (∀ a W', Rel K W' S' s → Fr W S.r s W' S'.r s → W.H a = none → New K W' S' s a c → Q (.ref a) W'.H) → t s W.H Q

def ME (X : Cx) (e : Expr) (f : EF) : Prop := ∃ t, PE X e t ∧ TEok X.K t f
def MT (X : Cx) (e : Expr) (f : BF) : Prop := ∃ t, PT X e t ∧ TTok X.K t f
def MW (X : Cx) (e : Expr) (f : BF) : Prop := ∃ t, PW X e t ∧ TTok X.K t f
def MA (X : Cx) (es : List Expr) (f : AF) : Prop := ∃ t, PA X es t ∧ TAok X.K t f
def MO (X : Cx) (e : Option Expr) (f : OF) : Prop := ∃ t, PO X e t ∧ TOok X.K t f
def MF (X : Cx) (e : Expr) (f : CF) : Prop := ∃ t, PE X e t ∧ TFok X.K t f

/-! ### what is seen without being taken -/
def vw (S : Ms) : D → D
  | .ref k => match S.m[k]? with
    | some (.lst ds) => .lst ds
    | some (.dct kds) => .dct kds
    | _ => .ref k
  | d => d
def RH (K : PySem.W.Frag) (W : Wd) (v : V) : D → Prop
  | .lst ds => ∃ a vs, v = .ref a ∧ W.H a = some (.lst vs) ∧ RVs K W.F W.io vs ds
  | .dct kds => ∃ a kvs, v = .ref a ∧ W.H a = some (.dK kvs) ∧ RVk K W.F W.io kvs kds
  | d => RV K W.F W.io v d
def sees (i : Nat) (S : Ms) : Option D := match S.r[i]? with
  | some (.val d) => some (vw S d)
  | some (.own (.lst ds)) => some (.lst ds)
  | some (.own (.dct kds)) => some (.dct kds)
  | _ => none
def held (i : Nat) (S : Ms) : Bool := match S.r[i]? with
  | some (.val _) => true
  | some (.own _) => true
  | _ => false

section
variable {K : PySem.W.Frag} {W : Wd} {S : Ms} {s : L2.St}
theorem Rel.rh (R : Rel K W S s) {v : V} {d : D} (h : RV K W.F W.io v d) : RH K W v d := by
  cases d with
  | lst ds => obtain ⟨a, vs, e, h1, h2⟩ := h.lst_inv; exact ⟨a, vs, e, R.sub _ _ h1, h2⟩
  | dct ds => obtain ⟨a, vs, e, h1, h2⟩ := h.dct_inv; exact ⟨a, vs, e, R.sub _ _ h1, h2⟩
  | _ => exact h
theorem Rel.vw (R : Rel K W S s) {v : V} {d : D} (h : RV K W.F W.io v d) : RH K W v (vw S d) := by
  cases d with
  | ref k =>
    obtain ⟨a, rfl, e⟩ := h.ref_inv
    show RH K W _ (match S.m[k]? with | some (.lst ds) => D.lst ds | some (.dct kds) => D.dct kds | _ => D.ref k)
    cases em : S.m[k]? with
    | none => exact h
    | some c =>
      have hc := R.cells k c a em e
      cases c with
      | lst ds => obtain ⟨vs, h1, h2⟩ := hc; exact ⟨a, vs, rfl, h1, h2⟩
      | dct ds => obtain ⟨vs, h1, h2⟩ := hc; exact ⟨a, vs, rfl, h1, h2⟩
      | obj C fs => exact h
      | dT ds => exact h
  | _ => exact R.rh h
theorem Rel.sees (R : Rel K W S s) {i : Nat} {d : D} (h : sees i S = some d) : ∃ v, s[i]? = some (some v) ∧ RH K W v d := by
  unfold M.sees at h
  cases e : S.r[i]? with
  | none => rw [e] at h; cases h
  | some x =>
    rw [e] at h
    cases x with
    | emp => cases h
    | val d' =>
      cases h
      obtain ⟨v, e1, q⟩ := R.slots i d' e
      exact ⟨v, e1, R.vw q⟩
    | own c =>
      obtain ⟨a, e1, _, _, q⟩ := R.owns i c e
      cases c with
      | lst ds => cases h; obtain ⟨vs, h1, h2⟩ := q; exact ⟨_, e1, a, vs, rfl, h1, h2⟩
      | dct ds => cases h; obtain ⟨vs, h1, h2⟩ := q; exact ⟨_, e1, a, vs, rfl, h1, h2⟩
      | obj C fs => cases h
      | dT ds => cases h
theorem Rel.held (R : Rel K W S s) {i : Nat} (h : held i S = true) : ∃ v, s[i]? = some (some v) := by
  unfold M.held at h
  cases e : S.r[i]? with
  | none => rw [e] at h; cases h
  | some x =>
    rw [e] at h
    cases x with
    | emp => cases h
    | val d' => obtain ⟨v, e1, q⟩ := R.slots i d' e; exact ⟨v, e1⟩
    | own c => obtain ⟨a, e1, _⟩ := R.owns i c e; exact ⟨_, e1⟩
end

/-! ### names and constants -/
def eVar (i : Nat) : EF := fun S => match S.r[i]? with
  | some (.val d) => some (d, S)
  | some (.own (.lst ds)) => some (.lst ds, { S with r := S.r.set i (.val (.lst ds)) })
  | some (.own (.dct ds)) => some (.dct ds, { S with r := S.r.set i (.val (.dct ds)) })
  | _ => none
def eC (d : D) : EF := fun S => some (d, S)
/-- seen only -/
def eSee (i : Nat) : EF := fun S => (sees i S).bind fun d => some (d, S)

section
variable {X : Cx} {pos : Pos}
theorem te_var {K : PySem.W.Frag} {i : Nat} : TEok K (tVar i) (eVar i) := by
  intro S d S' h W s Q R k
  unfold eVar at h
  cases e : S.r[i]? with
  | none => rw [e] at h; cases h
  | some x =>
    rw [e] at h
    cases x with
    | emp => cases h
    | val d' =>
      cases h
      obtain ⟨v, e1, q⟩ := R.slots i d e
      exact ⟨v, e1, k v W R .refl q⟩
    | own c =>
      cases c with
      | lst ds =>
        cases h
        obtain ⟨a, W', e1, e2, R', f, q⟩ := R.slotLst e
        refine ⟨_, e1, ?_⟩
        rw [← e2]
        exact k _ W' R' f q
      | dct ds =>
        cases h
        obtain ⟨a, W', e1, e2, R', f, q⟩ := R.slotDct e
        refine ⟨_, e1, ?_⟩
        rw [← e2]
        exact k _ W' R' f q
      | obj C fs => cases h
      | dT ds => cases h
theorem me_var (i : Nat) {x : Str} (hN : X.N[i]? = some x := by rfl) (hv : Vis X.env.scope x := by first | exact Or.inl rfl | exact Or.inr (Or.inl rfl) | exact Or.inr (Or.inr rfl)) (hd : (x == ("__debug__" : Str)) = false := by decide)
    (hcd : (x == ("__classdict__" : Str)) = false := by decide) : ME X (.Name x pos) (eVar i) := ⟨_, pe_var hN hv hd hcd, te_var⟩
theorem te_c {K : PySem.W.Frag} {v : V} {d : D} (h : ∀ F io, RV K F io v d) : TEok K (tC v) (eC d) := by
  intro S d' S' e W s Q R k
  cases e
  exact k v W R .refl (h _ _)
theorem me_int {i : Int} {j} : ME X (.Constant (.int i) j pos) (eC (.int i)) := ⟨_, pe_int, te_c fun _ _ => .int i⟩
theorem me_bl {b : Bool} {j} : ME X (.Constant (.bool b) j pos) (eC (.bl b)) := ⟨_, pe_bl, te_c fun _ _ => .bl b⟩
theorem me_non {j} : ME X (.Constant .none j pos) (eC .non) := ⟨_, pe_non, te_c fun _ _ => .non⟩
theorem me_str {x : Str} {j} : ME X (.Constant (.str x) j pos) (eC (.str x)) := ⟨_, pe_str, te_c fun _ _ => .str x⟩
/-- a module's constant -/
theorem me_glob {x : Str} {v : V} {u : Value} {d : D} (hg : Gl X x) (hm : X.mg x = some u) (r : RelV v u) (hd : ∀ F io, RV X.K F io v d) (hdb : (x == ("__debug__" : Str)) = false := by decide) : ME X (.Name x pos) (eC d) :=
  ⟨_, pe_glob hg hm r hdb, te_c hd⟩
end

/-! ### two-place operations -/
/-- f on values does g on data; nothing is frozen, the operands may be only seen -/
def OpM (X : Cx) (f : Value → Value → Sem Value) (g : D → D → Option D) : Prop := ∃ r : R2, OpR X f r ∧ ∀ x y d e z, g d e = some z → ∀ W S s (Q : VK), Rel X.K W S s → RH X.K W x d → RH X.K W y e →
  (∀ v W', Rel X.K W' S s → Fr W S.r s W' S.r s → RV X.K W'.F W'.io v z → Q v W'.H) → r x y W.H Q
def eOp (g : D → D → Option D) (a b : EF) : EF := fun S => (a S).bind fun p => (b p.2).bind fun q => (g (vw q.2 p.1) (vw q.2 q.1)).bind fun z => some (z, q.2)
/-- the left one a name that is only seen; the right one; both -/
def eOpL (g : D → D → Option D) (i : Nat) (b : EF) : EF := fun S => if held i S then (b S).bind fun q => (sees i q.2).bind fun d => (g d (vw q.2 q.1)).bind fun z => some (z, q.2) else none
def eOpR (g : D → D → Option D) (a : EF) (j : Nat) : EF := fun S => (a S).bind fun p => (sees j p.2).bind fun e => (g (vw p.2 p.1) e).bind fun z => some (z, p.2)
section
variable {X : Cx} {pos : Pos} {a b : Expr} {fa fb : EF} {g g' : D → D → Option D} {f : Value → Value → Sem Value}
theorem bind_some {α β : Type} {o : Option α} {k : α → Option β} {z : β} (h : o.bind k = some z) : ∃ x, o = some x ∧ k x = some z := by
  cases o with
  | none => cases h
  | some x => exact ⟨x, rfl, h⟩
theorem OpM.or (h : OpM X f g) (h' : OpM X f g') : OpM X f (fun d e => (g d e).or (g' d e)) := by
  obtain ⟨r, h1, h2⟩ := h
  obtain ⟨r', h1', h2'⟩ := h'
  refine ⟨_, h1.or h1', fun x y d e z hz W S s Q R rx ry k => ?_⟩
  have hz : (g d e).or (g' d e) = some z := hz
  cases q : g d e with
  | some z' =>
    rw [q] at hz
    cases hz
    exact .inl (h2 x y d e _ q W S s Q R rx ry k)
  | none =>
    rw [q] at hz
    exact .inr (h2' x y d e z hz W S s Q R rx ry k)
theorem te_op {K : PySem.W.Frag} {r : R2} {ta tb : TE} (h2 : ∀ x y d e z, g d e = some z → ∀ W S s (Q : VK), Rel K W S s → RH K W x d → RH K W y e → (∀ v W', Rel K W' S s → Fr W S.r s W' S.r s → RV K W'.F W'.io v z → Q v W'.H) → r x y W.H Q)
    (ha : TEok K ta fa) (hb : TEok K tb fb) : TEok K (tOp r ta tb) (eOp g fa fb) := by
  intro S d S' h W s Q R k
  obtain ⟨⟨d1, S1⟩, e1, h⟩ := bind_some h
  obtain ⟨⟨d2, S2⟩, e2, h⟩ := bind_some h
  obtain ⟨z, e3, h⟩ := bind_some h
  cases h
  refine ha S d1 S1 e1 W s _ R fun x W1 R1 f1 q1 => ?_
  refine hb S1 d2 S2 e2 W1 s _ R1 fun y W2 R2 f2 q2 => ?_
  exact h2 x y _ _ d e3 W2 S2 s Q R2 (R2.vw (q1.up f2)) (R2.vw q2) fun v W3 R3 f3 q3 => k v W3 R3 ((f1.trans f2).trans f3) q3
theorem te_opL {K : PySem.W.Frag} {r : R2} {tb : TE} {i : Nat} (h2 : ∀ x y d e z, g d e = some z → ∀ W S s (Q : VK), Rel K W S s → RH K W x d → RH K W y e → (∀ v W', Rel K W' S s → Fr W S.r s W' S.r s → RV K W'.F W'.io v z → Q v W'.H) → r x y W.H Q)
    (hb : TEok K tb fb) : TEok K (tOp r (tVar i) tb) (eOpL g i fb) := by
  intro S d S' h W s Q R k
  unfold eOpL at h
  split at h
  · rename_i hh
    obtain ⟨⟨d2, S2⟩, e2, h⟩ := bind_some h
    obtain ⟨d1, e1, h⟩ := bind_some h
    obtain ⟨z, e3, h⟩ := bind_some h
    cases h
    obtain ⟨x, ex⟩ := R.held hh
    refine ⟨x, ex, ?_⟩
    refine hb S d2 S2 e2 W s _ R fun y W2 R2 f2 q2 => ?_
    obtain ⟨x', ex', rx⟩ := R2.sees e1
    rw [ex] at ex'; cases ex'
    exact h2 x y _ _ d e3 W2 S2 s Q R2 rx (R2.vw q2) fun v W3 R3 f3 q3 => k v W3 R3 (f2.trans f3) q3
  · cases h
theorem te_opR {K : PySem.W.Frag} {r : R2} {ta : TE} {j : Nat} (h2 : ∀ x y d e z, g d e = some z → ∀ W S s (Q : VK), Rel K W S s → RH K W x d → RH K W y e → (∀ v W', Rel K W' S s → Fr W S.r s W' S.r s → RV K W'.F W'.io v z → Q v W'.H) → r x y W.H Q)
    (ha : TEok K ta fa) : TEok K (tOp r ta (tVar j)) (eOpR g fa j) := by
  intro S d S' h W s Q R k
  obtain ⟨⟨d1, S1⟩, e1, h⟩ := bind_some h
  obtain ⟨d2, e2, h⟩ := bind_some h
  obtain ⟨z, e3, h⟩ := bind_some h
  cases h
  refine ha S d1 S1 e1 W s _ R fun x W1 R1 f1 q1 => ?_
  obtain ⟨y, ey, ry⟩ := R1.sees e2
  exact ⟨y, ey, h2 x y _ _ d e3 W1 S1 s Q R1 (R1.vw q1) ry fun v W3 R3 f3 q3 => k v W3 R3 (f1.trans f3) q3⟩

theorem me_op {op : Operator} (ho : OpM X (binaryOp op) g) (ha : ME X a fa) (hb : ME X b fb) : ME X (.BinOp a op b pos) (eOp g fa fb) := by
  obtain ⟨r, h1, h2⟩ := ho
  obtain ⟨ta, p1, q1⟩ := ha
  obtain ⟨tb, p2, q2⟩ := hb
  exact ⟨_, pe_op h1 p1 p2, te_op h2 q1 q2⟩
theorem me_cmp {op : CmpOp} (ho : OpM X (compareOp op) g) (ha : ME X a fa) (hb : ME X b fb) (hm : behindInMarks op b = false := by first | exact nomark _ | rfl) : ME X (.Compare a [op] [b] pos) (eOp g fa fb) := by
  obtain ⟨r, h1, h2⟩ := ho
  obtain ⟨ta, p1, q1⟩ := ha
  obtain ⟨tb, p2, q2⟩ := hb
  exact ⟨_, pe_cmpR h1 p1 p2 hm, te_op h2 q1 q2⟩
theorem me_cmpR {op : CmpOp} {x : Str} {xp : Pos} (j : Nat) (ho : OpM X (compareOp op) g) (ha : ME X a fa) (hN : X.N[j]? = some x := by rfl) (hv : Vis X.env.scope x := by first | exact Or.inl rfl | exact Or.inr (Or.inl rfl) | exact Or.inr (Or.inr rfl))
    (hm : behindInMarks op (.Name x xp) = false := by first | exact nomark _ | rfl) (hd : (x == ("__debug__" : Str)) = false := by decide) (hcd : (x == ("__classdict__" : Str)) = false := by decide) :
    ME X (.Compare a [op] [.Name x xp] pos) (eOpR g fa j) := by
  obtain ⟨r, h1, h2⟩ := ho
  obtain ⟨ta, p1, q1⟩ := ha
  exact ⟨_, pe_cmpR h1 p1 (pe_var hN hv hd hcd) hm, te_opR h2 q1⟩
/-- subscripts -/
def IxM (X : Cx) (g : D → D → Option D) : Prop := ∃ r : R2, IxR X r ∧ ∀ x y d e z, g d e = some z → ∀ W S s (Q : VK), Rel X.K W S s → RH X.K W x d → RH X.K W y e →
  (∀ v W', Rel X.K W' S s → Fr W S.r s W' S.r s → RV X.K W'.F W'.io v z → Q v W'.H) → r x y W.H Q
theorem me_ix (ho : IxM X g) (ha : ME X a fa) (hb : ME X b fb) (hs : PlainIx b := by intro _ _; rfl) : ME X (.Subscript a b pos) (eOp g fa fb) := by
  obtain ⟨r, h1, h2⟩ := ho
  obtain ⟨ta, p1, q1⟩ := ha
  obtain ⟨tb, p2, q2⟩ := hb
  exact ⟨_, pe_ix h1 p1 p2 hs, te_op h2 q1 q2⟩
theorem me_ixV {x : Str} {xp : Pos} (i : Nat) (ho : IxM X g) (hb : ME X b fb) (hs : PlainIx b := by intro _ _; rfl) (hN : X.N[i]? = some x := by rfl) (hv : Vis X.env.scope x := by first | exact Or.inl rfl | exact Or.inr (Or.inl rfl) | exact Or.inr (Or.inr rfl))
    (hd : (x == ("__debug__" : Str)) = false := by decide) (hcd : (x == ("__classdict__" : Str)) = false := by decide) : ME X (.Subscript (.Name x xp) b pos) (eOpL g i fb) := by
  obtain ⟨r, h1, h2⟩ := ho
  obtain ⟨tb, p2, q2⟩ := hb
  exact ⟨_, pe_ix h1 (pe_var hN hv hd hcd) p2 hs, te_opL h2 q2⟩
end

/-! ### the operations on data -/
def LIM : Nat := 1000000
def gAddI : D → D → Option D
  | .int i, .int j => some (.int (i + j))
  | _, _ => none
def gAddS : D → D → Option D
  | .str a, .str b => if a.length + b.length ≤ LIM then some (.str (a ++ b)) else none
  | _, _ => none
def gAddL : D → D → Option D
  | .lst a, .lst b => if a.length + b.length ≤ LIM then some (.lst (a ++ b)) else none
  | _, _ => none
def gSub : D → D → Option D
  | .int i, .int j => some (.int (i - j))
  | _, _ => none
def B64 : Int := 18446744073709551616
def gMul : D → D → Option D
  | .int i, .int j => if (-B64 < i ∧ i < B64) ∨ (-B64 < j ∧ j < B64) then some (.int (i * j)) else none
  | _, _ => none
def BDIV : Int := 10 ^ 50
def gDiv : D → D → Option D
  | .int i, .int j => if 0 < j ∧ j < BDIV then some (.int (i / j)) else none
  | _, _ => none
def gMod : D → D → Option D
  | .int i, .int j => if 0 < j then some (.int (i % j)) else none
  | _, _ => none
def gPow : D → D → Option D
  | .int i, .int j => if 0 ≤ j ∧ j ≤ 1000000 ∧ -B64 < i ∧ i < B64 then some (.int (i ^ j.toNat)) else none
  | _, _ => none
def gI (p : Int → Int → Bool) : D → D → Option D
  | .int i, .int j => some (.bl (p i j))
  | _, _ => none
def gLt := gI fun i j => decide (i < j)
def gLe := gI fun i j => decide (i ≤ j)
def gGt := gI fun i j => decide (j < i)
def gGe := gI fun i j => decide (j ≤ i)
def gIsN : D → D → Option D
  | .non, .non => some (.bl true)
  | .bl _, .non | .int _, .non | .str _, .non | .tup _, .non | .lst _, .non | .sc _, .non | .dct _, .non | .ref _, .non => some (.bl false)
  | _, _ => none
def gNotN (d e : D) : Option D := (gIsN d e).bind fun z => match z with
  | .bl b => some (.bl (!b))
  | _ => none
mutual
def toPy : D → Option PyData
  | .non => some .none
  | .bl b => some (.bool b)
  | .int i => some (.int i)
  | .str s => some (.str s)
  | .tup ds => (toPys ds).map .tuple
  | .lst ds => (toPys ds).map .list
  | .sc _ | .dct _ | .ref _ => none
def toPys : List D → Option (List PyData)
  | [] => some []
  | d :: ds => (toPy d).bind fun p => (toPys ds).bind fun q => some (p :: q)
end
def eqD (d e : D) : Option Bool := (toPy d).bind fun p => (toPy e).bind fun q => if SeqAt.shaped p = true ∧ SeqAt.shaped q = true then some (PyData.eqv p q) else none
def gEq (d e : D) : Option D := (eqD d e).bind fun b => some (.bl b)
def gNe (d e : D) : Option D := (eqD d e).bind fun b => some (.bl (!b))
def gIx : D → D → Option D
  | .tup ds, .int i => atI ds i
  | .lst ds, .int i => atI ds i
  | .sc ds, .int i => atI ds i
  | .str z, .int i => if z.length ≤ LIM then (atI z.cps.toList i).bind fun c => some (.str ⟨#[c]⟩) else none
  | _, _ => none

section
variable {X : Cx}
theorem lim_line : LIM ≤ sizeLine := by rw [sizeLine_eq]; decide
theorem rhI {K : PySem.W.Frag} {W : Wd} {x : V} {i : Int} (h : RH K W x (.int i)) : x = .int i := RV.int_inv h
theorem rhS {K : PySem.W.Frag} {W : Wd} {x : V} {i : Str} (h : RH K W x (.str i)) : x = .str i := RV.str_inv h
/-- ints in -/
theorem opM_I0 {f : Value → Value → Sem Value} {g : Int → Int → V} {gd : Int → Int → D} {G : D → D → Option D} (h : OpR X f (rI0 g)) (hG : ∀ d e z, G d e = some z → ∃ i j, d = .int i ∧ e = .int j ∧ z = gd i j)
    (hv : ∀ i j F io, RV X.K F io (g i j) (gd i j)) : OpM X f G := by
  refine ⟨_, h, fun x y d e z hz W S s Q R rx ry k => ?_⟩
  obtain ⟨i, j, rfl, rfl, rfl⟩ := hG d e z hz
  exact ⟨i, j, rhI rx, rhI ry, k _ W R .refl (hv i j _ _)⟩
theorem opM_I {f : Value → Value → Sem Value} {C : Int → Int → Prop} {g : Int → Int → V} {gd : Int → Int → D} {G : D → D → Option D} (h : OpR X f (rI C g)) (hG : ∀ d e z, G d e = some z → ∃ i j, d = .int i ∧ e = .int j ∧ z = gd i j ∧ C i j)
    (hv : ∀ i j F io, RV X.K F io (g i j) (gd i j)) : OpM X f G := by
  refine ⟨_, h, fun x y d e z hz W S s Q R rx ry k => ?_⟩
  obtain ⟨i, j, rfl, rfl, rfl, c⟩ := hG d e z hz
  exact ⟨i, j, rhI rx, rhI ry, c, k _ W R .refl (hv i j _ _)⟩
theorem oAddI : OpM X (binaryOp .Add) gAddI := opM_I0 (gd := fun i j => .int (i + j)) op_add (fun d e z h => by
  unfold gAddI at h; split at h <;> cases h; exact ⟨_, _, rfl, rfl, rfl⟩) fun i j _ _ => .int _
theorem oSub : OpM X (binaryOp .Sub) gSub := opM_I0 (gd := fun i j => .int (i - j)) op_sub (fun d e z h => by
  unfold gSub at h; split at h <;> cases h; exact ⟨_, _, rfl, rfl, rfl⟩) fun i j _ _ => .int _
theorem oMul : OpM X (binaryOp .Mult) gMul := opM_I (gd := fun i j => .int (i * j)) op_mul (fun d e z h => by
  unfold gMul at h
  split at h
  · split at h
    · rename_i c; cases h; exact ⟨_, _, rfl, rfl, rfl, c⟩
    · cases h
  · cases h) fun i j _ _ => .int _
theorem log_bdiv {j : Int} (h0 : 0 < j) (h : j < BDIV) : j.natAbs.log2 < 9000 := by
  have e : j.natAbs < 10 ^ 50 := by unfold BDIV at h; omega
  have e2 : j.natAbs < 2 ^ 200 := Nat.lt_trans e (by decide)
  have := PySem.Flt.log2_lt_of (k := 200) (by decide) e2
  omega
theorem oDiv : OpM X (binaryOp .FloorDiv) gDiv := opM_I (gd := fun i j => .int (i / j)) op_fdivW (fun d e z h => by
  unfold gDiv at h
  split at h
  · split at h
    · rename_i c; cases h; exact ⟨_, _, rfl, rfl, rfl, c.1, log_bdiv c.1 c.2⟩
    · cases h
  · cases h) fun i j _ _ => .int _
theorem oMod : OpM X (binaryOp .Mod) gMod := opM_I (gd := fun i j => .int (i % j)) op_mod (fun d e z h => by
  unfold gMod at h
  split at h
  · split at h
    · rename_i c; cases h; exact ⟨_, _, rfl, rfl, rfl, c⟩
    · cases h
  · cases h) fun i j _ _ => .int _
theorem oPow : OpM X (binaryOp .Pow) gPow := opM_I (gd := fun i j => .int (i ^ j.toNat)) op_pow (fun d e z h => by
  unfold gPow at h
  split at h
  · split at h
    · rename_i c
      cases h
      refine ⟨_, _, rfl, rfl, rfl, c.1, c.2.1, ?_⟩
      have := c.2.2
      unfold B64 at this
      omega
    · cases h
  · cases h) fun i j _ _ => .int _
theorem oLt : OpM X (compareOp .Lt) gLt := opM_I0 (gd := fun i j => .bl (decide (i < j))) op_lt (fun d e z h => by
  unfold gLt gI at h; split at h <;> cases h; exact ⟨_, _, rfl, rfl, rfl⟩) fun i j _ _ => .bl _
theorem oLe : OpM X (compareOp .LtE) gLe := opM_I0 (gd := fun i j => .bl (decide (i ≤ j))) op_le (fun d e z h => by
  unfold gLe gI at h; split at h <;> cases h; exact ⟨_, _, rfl, rfl, rfl⟩) fun i j _ _ => .bl _
theorem oGt : OpM X (compareOp .Gt) gGt := opM_I0 (gd := fun i j => .bl (decide (j < i))) op_gt (fun d e z h => by
  unfold gGt gI at h; split at h <;> cases h; exact ⟨_, _, rfl, rfl, rfl⟩) fun i j _ _ => .bl _
theorem oGe : OpM X (compareOp .GtE) gGe := opM_I0 (gd := fun i j => .bl (decide (j ≤ i))) op_ge (fun d e z h => by
  unfold gGe gI at h; split at h <;> cases h; exact ⟨_, _, rfl, rfl, rfl⟩) fun i j _ _ => .bl _
theorem oAddS : OpM X (binaryOp .Add) gAddS := by
  refine ⟨_, op_add_str, fun x y d e z hz W S s Q R rx ry k => ?_⟩
  unfold gAddS at hz
  split at hz
  · split at hz
    · rename_i a b c
      cases hz
      exact ⟨a, b, rhS rx, rhS ry, Nat.le_trans c lim_line, k _ W R .refl (.str _)⟩
    · cases hz
  · cases hz
theorem oAddL : OpM X (binaryOp .Add) gAddL := by
  refine ⟨_, op_cat, fun x y d e z hz W S s Q R rx ry k => ?_⟩
  unfold gAddL at hz
  split at hz
  · split at hz
    · rename_i a b c
      cases hz
      obtain ⟨l, xs, rfl, h1, h2⟩ := rx
      obtain ⟨m, zs, rfl, h3, h4⟩ := ry
      refine ⟨l, m, xs, zs, rfl, rfl, h1, h3, by rw [h2.length, h4.length]; exact Nat.le_trans c lim_line, fun p hp => ?_⟩
      obtain ⟨R1, f1⟩ := R.al (o := .lst (xs ++ zs)) hp
      exact k _ _ R1 f1 (.lst upd_same ((h2.append h4).up f1))
    · cases hz
  · cases hz
def gAddT : D → D → Option D
  | .tup a, .tup b => if a.length + b.length ≤ LIM then some (.tup (a ++ b)) else none
  | _, _ => none
theorem rvs_nil {K : PySem.W.Frag} {F : Hp} {io : List Addr} {vs : List V} {ds : List D} (h : RVs K F io vs ds) : vs = [] ↔ ds = [] := by cases h <;> simp
theorem oAddT : OpM X (binaryOp .Add) gAddT := by
  refine ⟨_, op_catA, fun x y d e z hz W S s Q R rx ry k => ?_⟩
  unfold gAddT at hz
  split at hz
  · split at hz
    · rename_i a b c
      cases hz
      obtain ⟨l, xs, rfl, h1, h2⟩ := RV.tup_inv rx
      obtain ⟨m, zs, rfl, h3, h4⟩ := RV.tup_inv ry
      refine ⟨l, m, xs, zs, rfl, rfl, sqT_mono R.sub h1, sqT_mono R.sub h3, by rw [h2.length, h4.length]; exact Nat.le_trans c lim_line, fun e => ?_, fun _ e => ?_, fun _ _ p hp => ?_⟩
      · have e' := (rvs_nil h2).mp e
        subst e'
        exact k _ W R .refl ry
      · have e' := (rvs_nil h4).mp e
        subst e'
        exact k _ W R .refl (by rw [List.append_nil]; exact rx)
      · obtain ⟨R1, f1⟩ := R.al (o := .tup (xs ++ zs)) hp
        exact k _ _ R1 f1 (.tup (.of upd_same) ((h2.append h4).up f1))
    · cases hz
  · cases hz
def gAdd : D → D → Option D := fun d e => (gAddI d e).or ((gAddS d e).or ((gAddL d e).or (gAddT d e)))
theorem oAdd : OpM X (binaryOp .Add) gAdd := oAddI.or (oAddS.or (oAddL.or oAddT))

theorem rh_isN {K : PySem.W.Frag} {W : Wd} {x : V} {d e z : D} (h : gIsN d e = some z) (rx : RH K W x d) (ry : ∀ {y}, RH K W y e → y = .non) : z = .bl (decide (x = .non)) := by
  cases e <;> cases d <;> first
    | (cases h; cases (RV.non_inv rx); rfl)
    | (cases h; cases rx; rfl)
    | (cases h; obtain ⟨a, vs, rfl, _⟩ := rx; rfl)
    | cases h
theorem gIsN_right {d e z : D} (h : gIsN d e = some z) : e = .non := by
  cases e <;> cases d <;> first | rfl | cases h
theorem oIsN : OpM X (compareOp .Is) gIsN := by
  refine ⟨_, op_isN, fun x y d e z hz W S s Q R rx ry k => ?_⟩
  have e1 := gIsN_right hz
  subst e1
  have e2 := rh_isN hz rx (fun h => RV.non_inv h)
  subst e2
  exact ⟨RV.non_inv ry, k _ W R .refl (.bl _)⟩
theorem oNotN : OpM X (compareOp .IsNot) gNotN := by
  refine ⟨_, op_notN, fun x y d e z hz W S s Q R rx ry k => ?_⟩
  obtain ⟨z1, h1, h2⟩ := bind_some hz
  have e1 := gIsN_right h1
  subst e1
  have e2 := rh_isN h1 rx (fun h => RV.non_inv h)
  subst e2
  cases h2
  exact ⟨RV.non_inv ry, k _ W R .refl (.bl _)⟩
theorem RV.dp {K : PySem.W.Frag} {F H : Hp} {io : List Addr} (hF : ∀ a o, F a = some o → H a = some o) {v : V} {d : D} (h : RV K F io v d) : ∀ p, toPy d = some p → Dp K H v p := by
  refine RV.rec (K := K) (F := F) (io := io) (motive_1 := fun v d _ => ∀ p, toPy d = some p → Dp K H v p) (motive_2 := fun vs ds _ => ∀ ps, toPys ds = some ps → DpAll K H vs ps) (motive_3 := fun _ _ _ => True) ?_ ?_ ?_ ?_ ?_ ?_ ?_ ?_ ?_ ?_ ?_ ?_ ?_ h
  · intro p e; cases e; exact .non
  · intro b p e; cases e; exact .bl b
  · intro i p e; cases e; exact .int i
  · intro i p e; cases e; exact .str i
  · intro a vs ds h1 _ ih p e
    simp only [toPy, Option.map_eq_some_iff] at e
    obtain ⟨ps, e1, rfl⟩ := e
    exact .tup (sqT_mono hF h1) (ih ps e1)
  · intro a vs ds h1 _ ih p e
    simp only [toPy, Option.map_eq_some_iff] at e
    obtain ⟨ps, e1, rfl⟩ := e
    exact .lst (.of (hF _ _ h1)) (ih ps e1)
  · intro a vs ds _ _ _ p e; cases e
  · intro a vs ds _ _ _ p e; cases e
  · intro a k _ p e; cases e
  · intro ps e; cases e; exact .nil
  · intro v vs d ds _ _ i1 i2 ps e
    simp only [toPys] at e
    obtain ⟨p, e1, e⟩ := bind_some e
    obtain ⟨q, e2, e⟩ := bind_some e
    cases e
    exact .cons (i1 p e1) (i2 q e2)
  · trivial
  · intros; trivial
theorem RVs.dp {K : PySem.W.Frag} {F H : Hp} {io : List Addr} (hF : ∀ a o, F a = some o → H a = some o) : ∀ {vs : List V} {ds : List D}, RVs K F io vs ds → ∀ ps, toPys ds = some ps → DpAll K H vs ps
  | _, _, .nil, ps, e => by cases e; exact .nil
  | _, _, .cons h t, ps, e => by
    simp only [toPys] at e
    obtain ⟨p, e1, e⟩ := bind_some e
    obtain ⟨q, e2, e⟩ := bind_some e
    cases e
    exact .cons (h.dp hF p e1) (t.dp hF q e2)
theorem rh_dp {K : PySem.W.Frag} {W : Wd} {S : Ms} {s : L2.St} (R : Rel K W S s) {v : V} {d : D} (h : RH K W v d) {p : PyData} (e : toPy d = some p) : Dp K W.H v p := by
  cases d with
  | lst ds =>
    obtain ⟨a, vs, rfl, h1, h2⟩ := h
    simp only [toPy, Option.map_eq_some_iff] at e
    obtain ⟨ps, e1, rfl⟩ := e
    exact .lst (.of h1) (h2.dp R.sub ps e1)
  | dct ds => cases e
  | _ => exact RV.dp R.sub h p e
theorem oEq (hu : X.A.units + 64 < cLine) : OpM X (compareOp .Eq) gEq := by
  refine ⟨_, op_eqD hu, fun x y d e z hz W S s Q R rx ry k => ?_⟩
  obtain ⟨b, hb, hz⟩ := bind_some hz
  cases hz
  obtain ⟨p, hp, hb⟩ := bind_some hb
  obtain ⟨q, hq, hb⟩ := bind_some hb
  split at hb
  · rename_i c
    cases hb
    exact ⟨p, q, rh_dp R rx hp, rh_dp R ry hq, c.1, c.2, k _ W R .refl (.bl _)⟩
  · cases hb
theorem oNe (hu : X.A.units + 64 < cLine) : OpM X (compareOp .NotEq) gNe := by
  refine ⟨_, op_neD hu, fun x y d e z hz W S s Q R rx ry k => ?_⟩
  obtain ⟨b, hb, hz⟩ := bind_some hz
  cases hz
  obtain ⟨p, hp, hb⟩ := bind_some hb
  obtain ⟨q, hq, hb⟩ := bind_some hb
  split at hb
  · rename_i c
    cases hb
    exact ⟨p, q, rh_dp R rx hp, rh_dp R ry hq, c.1, c.2, k _ W R .refl (.bl _)⟩
  · cases hb
theorem atI_rv {K : PySem.W.Frag} {F : Hp} {io : List Addr} {vs : List V} {ds : List D} (h : RVs K F io vs ds) {i : Int} {d : D} (e : atI ds i = some d) : ∃ v, atI vs i = some v ∧ RV K F io v d := by
  unfold atI at e ⊢
  rw [← h.length] at e
  obtain ⟨j, e1, e2⟩ := bind_some e
  obtain ⟨v, e3, q⟩ := h.get e2
  exact ⟨v, by rw [e1]; exact e3, q⟩
theorem oIx : IxM X gIx := by
  refine ⟨_, ix_seq, fun x y d e z hz W S s Q R rx ry k => ?_⟩
  unfold gIx at hz
  split at hz
  · obtain ⟨a, vs, rfl, h1, h2⟩ := RV.tup_inv rx
    obtain ⟨v, e1, q⟩ := atI_rv h2 hz
    exact .inr (.inl ⟨a, vs, _, v, rfl, rhI ry, sqT_mono R.sub h1, e1, k _ W R .refl q⟩)
  · obtain ⟨a, vs, rfl, h1, h2⟩ := rx
    obtain ⟨v, e1, q⟩ := atI_rv h2 hz
    exact .inl ⟨a, vs, _, v, rfl, rhI ry, .of h1, e1, k _ W R .refl q⟩
  · obtain ⟨a, vs, rfl, h1, h2⟩ := RV.sc_inv rx
    obtain ⟨v, e1, q⟩ := atI_rv h2 hz
    exact .inl ⟨a, vs, _, v, rfl, rhI ry, sqL_mono R.sub h1, e1, k _ W R .refl q⟩
  · split at hz
    · rename_i z' i c
      obtain ⟨c', e1, e2⟩ := bind_some hz
      cases e2
      exact .inr (.inr ⟨z', i, c', rhS rx, rhI ry, Nat.le_trans c lim_line, e1, k _ W R .refl (.str _)⟩)
    · cases hz
  · cases hz
end
end M

/-! M2: tests, displays, slices, calls of built-ins, what a loop walks, list comprehensions. -/
namespace M
open PySem L2

/-! ### tests -/
def bOf (f : EF) : BF := fun S => (f S).bind fun p => match p.1 with
  | .bl b => some (b, p.2)
  | _ => none
def gTru : D → Option Bool
  | .non => some false
  | .bl b => some b
  | .int i => some (i != 0)
  | .str y => if y.length ≤ LIM then some ((y.length : Int) != 0) else none
  | .lst ds => some (!ds.isEmpty)
  | .tup ds => some (!ds.isEmpty)
  | .sc ds => some (!ds.isEmpty)
  | .dct ds => some (!ds.isEmpty)
  | .ref _ => none
def bTru (f : EF) : BF := fun S => (f S).bind fun p => (gTru (vw p.2 p.1)).bind fun b => some (b, p.2)
def bTruV (i : Nat) : BF := fun S => (sees i S).bind fun d => (gTru d).bind fun b => some (b, S)
def bAnd (f g : BF) : BF := fun S => (f S).bind fun p => if p.1 then g p.2 else some (false, p.2)
def bOr (f g : BF) : BF := fun S => (f S).bind fun p => if p.1 then some (true, p.2) else g p.2
def bNot (f : BF) : BF := fun S => (f S).bind fun p => some (!p.1, p.2)
def eAnd (f g : EF) : EF := fun S => (f S).bind fun p => match p.1 with
  | .bl true => g p.2
  | .bl false => some (.bl false, p.2)
  | _ => none
def eOr (f g : EF) : EF := fun S => (f S).bind fun p => match p.1 with
  | .bl true => some (.bl true, p.2)
  | .bl false => g p.2
  | _ => none
def eNot (f : EF) : EF := fun S => (f S).bind fun p => match p.1 with
  | .bl b => some (.bl (!b), p.2)
  | _ => none
def eIf (t : BF) (f g : EF) : EF := fun S => (t S).bind fun p => if p.1 then f p.2 else g p.2
def gNeg : D → Option D
  | .int i => some (.int (-i))
  | _ => none
def eUn (g : D → Option D) (f : EF) : EF := fun S => (f S).bind fun p => (g p.1).bind fun z => some (z, p.2)

section
variable {X : Cx} {pos : Pos} {a b c e : Expr} {fa fb : EF} {ga gb : BF} {g : D → D → Option D} {rest : List Expr}
theorem tt_of {K : PySem.W.Frag} {t : TE} {f : EF} (h : TEok K t f) : TTok K (fun s H Q => t s H fun x H1 => ∃ k, x = .bl k ∧ Q k H1) (bOf f) := by
  intro S d S' q W s Q R k
  obtain ⟨⟨d1, S1⟩, e1, q⟩ := bind_some q
  simp only at q
  split at q
  · rename_i b
    cases q
    exact h S _ _ e1 W s _ R fun v W1 R1 f1 q1 => ⟨_, q1.bl_inv, k W1 R1 f1⟩
  · cases q
theorem mt_val (h : ME X e fa) (he : ∀ whole, isTrue e X.env whole = (do let v ← whole; standAt e.pos; holding [v] (truthy v)) := by intro _; rfl) : MT X e (bOf fa) := by
  obtain ⟨t, p, q⟩ := h
  exact ⟨_, pt_val p he, tt_of q⟩
theorem mt_cmp {op : CmpOp} (ho : OpM X (compareOp op) g) (ha : ME X a fa) (hb : ME X b fb) (hm : behindInMarks op b = false := by first | exact nomark _ | rfl) : MT X (.Compare a [op] [b] pos) (bOf (eOp g fa fb)) := by
  obtain ⟨r, h1, h2⟩ := ho
  obtain ⟨ta, p1, q1⟩ := ha
  obtain ⟨tb, p2, q2⟩ := hb
  exact ⟨_, pt_cmpR h1 p1 p2 hm, tt_of (te_op h2 q1 q2)⟩
theorem mt_cmpR {op : CmpOp} {x : Str} {xp : Pos} (j : Nat) (ho : OpM X (compareOp op) g) (ha : ME X a fa) (hN : X.N[j]? = some x := by rfl) (hv : Vis X.env.scope x := by first | exact Or.inl rfl | exact Or.inr (Or.inl rfl) | exact Or.inr (Or.inr rfl))
    (hm : behindInMarks op (.Name x xp) = false := by first | exact nomark _ | rfl) (hd : (x == ("__debug__" : Str)) = false := by decide) (hcd : (x == ("__classdict__" : Str)) = false := by decide) :
    MT X (.Compare a [op] [.Name x xp] pos) (bOf (eOpR g fa j)) := by
  obtain ⟨r, h1, h2⟩ := ho
  obtain ⟨ta, p1, q1⟩ := ha
  exact ⟨_, pt_cmpR h1 p1 (pe_var hN hv hd hcd) hm, tt_of (te_opR h2 q1)⟩
theorem tru_of {K : PySem.W.Frag} {W : Wd} {S : Ms} {s : L2.St} (R : Rel K W S s) {v : V} {d : D} (h : RH K W v d) {b : Bool} (e : gTru d = some b) : TruV K v W.H b := by
  cases d with
  | non => cases e; cases RV.non_inv h; rfl
  | bl b => cases e; cases RV.bl_inv h; rfl
  | int i => cases e; cases RV.int_inv h; rfl
  | str y =>
    have e : (if y.length ≤ LIM then some ((y.length : Int) != 0) else none) = some b := e
    split at e
    · rename_i c; cases e; cases RV.str_inv h; exact ⟨Nat.le_trans c lim_line, rfl⟩
    · cases e
  | tup ds => cases e; obtain ⟨a, vs, rfl, h1, h2⟩ := RV.tup_inv h; exact .inr (.inl ⟨vs, sqT_mono R.sub h1, by cases h2 <;> rfl⟩)
  | lst ds => cases e; obtain ⟨a, vs, rfl, h1, h2⟩ := h; exact .inl ⟨vs, .of h1, by cases h2 <;> rfl⟩
  | sc ds => cases e; obtain ⟨a, vs, rfl, h1, h2⟩ := RV.sc_inv h; exact .inl ⟨vs, sqL_mono R.sub h1, by cases h2 <;> rfl⟩
  | dct ds => cases e; obtain ⟨a, vs, rfl, h1, h2⟩ := h; exact .inr (.inr ⟨vs, h1, by cases h2 <;> rfl⟩)
  | ref k => cases e
theorem mt_tru (h : ME X e fa) (he : ∀ whole, isTrue e X.env whole = (do let v ← whole; standAt e.pos; holding [v] (truthy v)) := by intro _; rfl) : MT X e (bTru fa) := by
  obtain ⟨t, p, q⟩ := h
  refine ⟨_, pt_truth p he, fun S d S' h W s Q R k => ?_⟩
  obtain ⟨⟨d1, S1⟩, e1, h⟩ := bind_some h
  obtain ⟨b, e2, h⟩ := bind_some h
  cases h
  exact q S _ _ e1 W s _ R fun v W1 R1 f1 q1 => ⟨_, tru_of R1 (R1.vw q1) e2, k W1 R1 f1⟩
theorem mt_truV {x : Str} {xp : Pos} (i : Nat) (hN : X.N[i]? = some x := by rfl) (hv : Vis X.env.scope x := by first | exact Or.inl rfl | exact Or.inr (Or.inl rfl) | exact Or.inr (Or.inr rfl))
    (hd : (x == ("__debug__" : Str)) = false := by decide) (hcd : (x == ("__classdict__" : Str)) = false := by decide) : MT X (.Name x xp) (bTruV i) := by
  refine ⟨_, pt_truth (pe_var hN hv hd hcd) (by intro _; rfl), fun S d S' h W s Q R k => ?_⟩
  obtain ⟨d1, e1, h⟩ := bind_some h
  obtain ⟨b, e2, h⟩ := bind_some h
  cases h
  obtain ⟨v, e3, q⟩ := R.sees e1
  exact ⟨v, e3, _, tru_of R q e2, k W R .refl⟩
theorem mw_and1 (ha : MT X a ga) : MW X (.BoolOp .And [a] pos) ga := by
  obtain ⟨t, p, q⟩ := ha
  exact ⟨_, pw_and1 p, q⟩
theorem mw_or1 (ha : MT X a ga) : MW X (.BoolOp .Or [a] pos) ga := by
  obtain ⟨t, p, q⟩ := ha
  exact ⟨_, pw_or1 p, q⟩
theorem mw_and (ha : MT X a ga) (hb : MW X (.BoolOp .And (b :: rest) pos) gb) : MW X (.BoolOp .And (a :: b :: rest) pos) (bAnd ga gb) := by
  obtain ⟨t, p, q⟩ := ha
  obtain ⟨u, p', q'⟩ := hb
  refine ⟨_, pw_and p p', fun S d S' h W s Q R k => ?_⟩
  obtain ⟨⟨c, S1⟩, e1, h⟩ := bind_some h
  refine q S _ _ e1 W s _ R fun W1 R1 f1 => ?_
  cases c with
  | true => exact q' S1 _ _ h W1 s _ R1 fun W2 R2 f2 => k W2 R2 (f1.trans f2)
  | false => cases h; exact k W1 R1 f1
theorem mw_or (ha : MT X a ga) (hb : MW X (.BoolOp .Or (b :: rest) pos) gb) : MW X (.BoolOp .Or (a :: b :: rest) pos) (bOr ga gb) := by
  obtain ⟨t, p, q⟩ := ha
  obtain ⟨u, p', q'⟩ := hb
  refine ⟨_, pw_or p p', fun S d S' h W s Q R k => ?_⟩
  obtain ⟨⟨c, S1⟩, e1, h⟩ := bind_some h
  refine q S _ _ e1 W s _ R fun W1 R1 f1 => ?_
  cases c with
  | false => exact q' S1 _ _ h W1 s _ R1 fun W2 R2 f2 => k W2 R2 (f1.trans f2)
  | true => cases h; exact k W1 R1 f1
theorem mt_w (h : MW X e ga) : MT X e ga := by
  obtain ⟨t, p, q⟩ := h
  exact ⟨_, p.pt, q⟩
theorem mt_not (h : MT X e ga) : MT X (.UnaryOp .Not e pos) (bNot ga) := by
  obtain ⟨t, p, q⟩ := h
  refine ⟨_, pt_not p, fun S d S' h W s Q R k => ?_⟩
  obtain ⟨⟨c, S1⟩, e1, h⟩ := bind_some h
  cases h
  exact q S _ _ e1 W s _ R fun W1 R1 f1 => k W1 R1 f1
theorem me_one {op} (h : ME X a fa) : ME X (.BoolOp op [a] pos) fa := by
  obtain ⟨t, p, q⟩ := h
  exact ⟨_, pe_one p, q⟩
theorem me_and (ha : ME X a fa) (hb : ME X (.BoolOp .And (b :: rest) pos) fb) : ME X (.BoolOp .And (a :: b :: rest) pos) (eAnd fa fb) := by
  obtain ⟨t, p, q⟩ := ha
  obtain ⟨u, p', q'⟩ := hb
  refine ⟨_, pe_and p p', fun S d S' h W s Q R k => ?_⟩
  obtain ⟨⟨c, S1⟩, e1, h⟩ := bind_some h
  refine q S _ _ e1 W s _ R fun v W1 R1 f1 r1 => ?_
  simp only at h
  split at h
  · exact ⟨true, r1.bl_inv, q' S1 _ _ h W1 s _ R1 fun v W2 R2 f2 r2 => k v W2 R2 (f1.trans f2) r2⟩
  · cases h; exact ⟨false, r1.bl_inv, k _ W1 R1 f1 (.bl _)⟩
  · cases h
theorem me_or (ha : ME X a fa) (hb : ME X (.BoolOp .Or (b :: rest) pos) fb) : ME X (.BoolOp .Or (a :: b :: rest) pos) (eOr fa fb) := by
  obtain ⟨t, p, q⟩ := ha
  obtain ⟨u, p', q'⟩ := hb
  refine ⟨_, pe_or p p', fun S d S' h W s Q R k => ?_⟩
  obtain ⟨⟨c, S1⟩, e1, h⟩ := bind_some h
  refine q S _ _ e1 W s _ R fun v W1 R1 f1 r1 => ?_
  simp only at h
  split at h
  · cases h; exact ⟨true, r1.bl_inv, k _ W1 R1 f1 (.bl _)⟩
  · exact ⟨false, r1.bl_inv, q' S1 _ _ h W1 s _ R1 fun v W2 R2 f2 r2 => k v W2 R2 (f1.trans f2) r2⟩
  · cases h
theorem me_not (ha : ME X a fa) : ME X (.UnaryOp .Not a pos) (eNot fa) := by
  obtain ⟨t, p, q⟩ := ha
  refine ⟨_, pe_not p, fun S d S' h W s Q R k => ?_⟩
  obtain ⟨⟨c, S1⟩, e1, h⟩ := bind_some h
  refine q S _ _ e1 W s _ R fun v W1 R1 f1 r1 => ?_
  simp only at h
  split at h
  · cases h; exact ⟨_, r1.bl_inv, k _ W1 R1 f1 (.bl _)⟩
  · cases h
theorem me_if (hc : MT X c ga) (ha : ME X a fa) (hb : ME X b fb) : ME X (.IfExp c a b pos) (eIf ga fa fb) := by
  obtain ⟨t, p, q⟩ := hc
  obtain ⟨ta, p1, q1⟩ := ha
  obtain ⟨tb, p2, q2⟩ := hb
  refine ⟨_, pe_ifExp p p1 p2, fun S d S' h W s Q R k => ?_⟩
  obtain ⟨⟨c, S1⟩, e1, h⟩ := bind_some h
  refine q S _ _ e1 W s _ R fun W1 R1 f1 => ?_
  cases c with
  | true => exact q1 S1 _ _ h W1 s _ R1 fun v W2 R2 f2 r2 => k v W2 R2 (f1.trans f2) r2
  | false => exact q2 S1 _ _ h W1 s _ R1 fun v W2 R2 f2 r2 => k v W2 R2 (f1.trans f2) r2
theorem me_neg (ha : ME X a fa) : ME X (.UnaryOp .USub a pos) (eUn gNeg fa) := by
  obtain ⟨t, p, q⟩ := ha
  refine ⟨_, pe_un un_neg p, fun S d S' h W s Q R k => ?_⟩
  obtain ⟨⟨c, S1⟩, e1, h⟩ := bind_some h
  obtain ⟨z, e2, h⟩ := bind_some h
  cases h
  refine q S _ _ e1 W s _ R fun v W1 R1 f1 r1 => ?_
  simp only at e2
  unfold gNeg at e2
  split at e2
  · cases e2; exact ⟨_, r1.int_inv, k _ W1 R1 f1 (.int _)⟩
  · cases e2
end

/-! ### argument lists, displays -/
def aNil : AF := fun S => some ([], S)
def aCons (f : EF) (g : AF) : AF := fun S => (f S).bind fun p => (g p.2).bind fun q => some (p.1 :: q.1, q.2)
def eTup (f : AF) : EF := fun S => (f S).bind fun p => if p.1.length ≤ LIM then some (.tup p.1, p.2) else none
def cLst (f : AF) : CF := fun S => (f S).bind fun p => if p.1.length ≤ LIM then some (.lst p.1, p.2) else none
def eNew (f : CF) : EF := fun S => (f S).bind fun p => match p.1 with
  | .lst ds => some (.lst ds, p.2)
  | .dct ds => some (.dct ds, p.2)
  | _ => none
section
variable {X : Cx} {pos : Pos} {e : Expr} {es : List Expr} {f : EF} {g : AF} {c : CF}
theorem ma_nil : MA X [] aNil := ⟨_, pa_nil, fun S d S' h W s Q R k => by cases h; exact k _ W R .refl .nil⟩
theorem ma_cons (h : ME X e f) (hr : MA X es g) (hs : starEach (e :: es) X.env = (false, eval e X.env) :: starEach es X.env := by rfl) : MA X (e :: es) (aCons f g) := by
  obtain ⟨t, p, q⟩ := h
  obtain ⟨u, p', q'⟩ := hr
  refine ⟨_, pa_cons p p' hs, fun S d S' h W s Q R k => ?_⟩
  obtain ⟨⟨d1, S1⟩, e1, h⟩ := bind_some h
  obtain ⟨⟨d2, S2⟩, e2, h⟩ := bind_some h
  cases h
  refine q S _ _ e1 W s _ R fun v W1 R1 f1 r1 => ?_
  exact q' S1 _ _ e2 W1 s _ R1 fun vs W2 R2 f2 r2 => k _ W2 R2 (f1.trans f2) (.cons (r1.up f2) r2)
theorem me_tup {k} (h : MA X es g) : ME X (.Tuple es k pos) (eTup g) := by
  obtain ⟨t, p, q⟩ := h
  refine ⟨_, pe_tup p, fun S d S' h W s Q R k => ?_⟩
  obtain ⟨⟨ds, S1⟩, e1, h⟩ := bind_some h
  simp only at h
  split at h
  · rename_i c
    cases h
    refine q S _ _ e1 W s _ R fun vs W1 R1 f1 r1 => ?_
    refine ⟨by rw [r1.length]; exact Nat.le_trans c lim_line, fun p hp => ?_⟩
    obtain ⟨R2, f2⟩ := R1.al (o := .tup vs) hp
    exact k _ _ R2 (f1.trans f2) (.tup (.of upd_same) (r1.up f2))
  · cases h
theorem mf_lst (h : MA X es g) : MF X (.List es pos) (cLst g) := by
  obtain ⟨t, p, q⟩ := h
  refine ⟨_, pe_lst p, fun S d S' h W s Q R k => ?_⟩
  obtain ⟨⟨ds, S1⟩, e1, h⟩ := bind_some h
  simp only at h
  split at h
  · rename_i c
    cases h
    refine q S _ _ e1 W s _ R fun vs W1 R1 f1 r1 => ?_
    refine ⟨by rw [r1.length]; exact Nat.le_trans c lim_line, fun p hp => ?_⟩
    obtain ⟨R2, f2, n⟩ := R1.newLst hp r1
    exact k _ _ R2 (f1.trans f2) (f1.hp _ hp) n
  · cases h
theorem me_new (h : MF X e c) : ME X e (eNew c) := by
  obtain ⟨t, p, q⟩ := h
  refine ⟨t, p, fun S d S' h W s Q R k => ?_⟩
  obtain ⟨⟨c, S1⟩, e1, h⟩ := bind_some h
  refine q S _ _ e1 W s _ R fun a W1 R1 f1 hp n => ?_
  cases c with
  | lst ds =>
    cases h
    obtain ⟨W2, e2, R2, f2, r⟩ := R1.freezeLst f1 hp n
    rw [← e2]
    exact k _ W2 R2 f2 r
  | dct ds =>
    cases h
    obtain ⟨W2, e2, R2, f2, r⟩ := R1.freezeDct f1 hp n
    rw [← e2]
    exact k _ W2 R2 f2 r
  | obj C fs => cases h
  | dT ds => cases h
end

/-! ### slices -/
def cutD (xs : List D) (lo hi : Option Int) : List D := (xs.drop (HT.sIx xs.length 0 lo)).take (HT.sIx xs.length xs.length hi - HT.sIx xs.length 0 lo)
def oNone : OF := fun S => some (none, S)
def oSome (f : EF) : OF := fun S => (f S).bind fun p => match p.1 with
  | .int i => some (some i, p.2)
  | _ => none
def gSl (d : D) (lo hi : Option Int) : Option D := match d with
  | .tup ds => some (.tup (cutD ds lo hi))
  | .str z => if z.length ≤ LIM then some (.str (cutS z lo hi)) else none
  | _ => none
def gSlL (d : D) (lo hi : Option Int) : Option Cell := match d with
  | .lst ds => some (.lst (cutD ds lo hi))
  | .sc ds => some (.lst (cutD ds lo hi))
  | _ => none
def eSl (f : EF) (l h : OF) : EF := fun S => (f S).bind fun p => (l p.2).bind fun q => (h q.2).bind fun r => (gSl p.1 q.1 r.1).bind fun z => some (z, r.2)
def cSl (f : EF) (l h : OF) : CF := fun S => (f S).bind fun p => (l p.2).bind fun q => (h q.2).bind fun r => (gSlL (vw r.2 p.1) q.1 r.1).bind fun z => some (z, r.2)
def cSlV (i : Nat) (l h : OF) : CF := fun S => if held i S then (l S).bind fun q => (h q.2).bind fun r => (sees i r.2).bind fun d => (gSlL d q.1 r.1).bind fun z => some (z, r.2) else none
section
variable {X : Cx} {pos p2 : Pos} {e : Expr} {lo hi : Option Expr} {f : EF} {l h : OF}
theorem mo_none : MO X none oNone := ⟨_, po_none, fun S d S' h W s Q R k => by cases h; exact k W R .refl⟩
theorem mo_some (h : ME X e f) : MO X (some e) (oSome f) := by
  obtain ⟨t, p, q⟩ := h
  refine ⟨_, po_some p, fun S d S' h W s Q R k => ?_⟩
  obtain ⟨⟨d1, S1⟩, e1, h⟩ := bind_some h
  simp only at h
  split at h
  · cases h
    exact q S _ _ e1 W s _ R fun v W1 R1 f1 r1 => ⟨_, r1.int_inv, k W1 R1 f1⟩
  · cases h
theorem cut_rv {K : PySem.W.Frag} {F : Hp} {io : List Addr} {vs : List V} {ds : List D} (r : RVs K F io vs ds) (lo hi : Option Int) : RVs K F io (cutV vs lo hi) (cutD ds lo hi) := by
  unfold cutV cutD
  rw [r.length]
  exact (r.drop _).take _
theorem me_sl (he : ME X e f) (hl : MO X lo l) (hh : MO X hi h) : ME X (.Subscript e (.Slice lo hi none p2) pos) (eSl f l h) := by
  obtain ⟨t, p, q⟩ := he
  obtain ⟨tl, pl, ql⟩ := hl
  obtain ⟨th, ph, qh⟩ := hh
  refine ⟨_, pe_slice (sl_tupA.or sl_str) p pl ph, fun S d S' hz W s Q R k => ?_⟩
  obtain ⟨⟨d1, S1⟩, e1, hz⟩ := bind_some hz
  obtain ⟨⟨d2, S2⟩, e2, hz⟩ := bind_some hz
  obtain ⟨⟨d3, S3⟩, e3, hz⟩ := bind_some hz
  obtain ⟨z, e4, hz⟩ := bind_some hz
  cases hz
  refine q S _ _ e1 W s _ R fun v W1 R1 f1 r1 => ?_
  refine ql S1 _ _ e2 W1 s _ R1 fun W2 R2 f2 => ?_
  refine qh S2 _ _ e3 W2 s _ R2 fun W3 R3 f3 => ?_
  have r3 := (r1.up f2).up f3
  have ff := (f1.trans f2).trans f3
  simp only at e4
  unfold gSl at e4
  split at e4
  · cases e4
    obtain ⟨a, vs, rfl, h1, h2⟩ := r3.tup_inv
    refine .inl ⟨a, vs, rfl, sqT_mono R3.sub h1, fun w => ?_, fun _ p hp => ?_⟩
    · refine k _ W3 R3 ff (.tup h1 ?_)
      have e : cutV vs d2 d3 = vs := by unfold cutV; rw [w.1, w.2]; simp
      rw [← e]
      exact cut_rv h2 _ _
    · obtain ⟨R4, f4⟩ := R3.al (o := .tup (cutV vs d2 d3)) hp
      exact k _ _ R4 (ff.trans f4) (.tup (.of upd_same) ((cut_rv h2 _ _).up f4))
  · split at e4
    · rename_i c
      cases e4
      exact .inr ⟨_, r3.str_inv, Nat.le_trans c lim_line, k _ W3 R3 ff (.str _)⟩
    · cases e4
  · cases e4
theorem sl_new {K : PySem.W.Frag} {W0 W : Wd} {S : Ms} {s : L2.St} {r0 : List Slot} (R : Rel K W S s) (f0 : Fr W0 r0 s W S.r s) {v : V} {d : D} {lo hi : Option Int} {c : Cell} (r : RH K W v d) (e : gSlL d lo hi = some c) {Q : VK}
    (k : ∀ a W', Rel K W' S s → Fr W0 r0 s W' S.r s → W0.H a = none → New K W' S s a c → Q (.ref a) W'.H) : rSlL K v lo hi W.H Q := by
  unfold gSlL at e
  split at e
  · cases e
    obtain ⟨a, vs, rfl, h1, h2⟩ := r
    refine ⟨a, vs, rfl, .of h1, fun p hp => ?_⟩
    obtain ⟨R4, f4, n⟩ := R.newLst hp (cut_rv h2 lo hi)
    exact k _ _ R4 (f0.trans f4) (f0.hp _ hp) n
  · cases e
    obtain ⟨a, vs, rfl, h1, h2⟩ := RV.sc_inv r
    refine ⟨a, vs, rfl, sqL_mono R.sub h1, fun p hp => ?_⟩
    obtain ⟨R4, f4, n⟩ := R.newLst hp (cut_rv h2 lo hi)
    exact k _ _ R4 (f0.trans f4) (f0.hp _ hp) n
  · cases e
theorem mf_sl (he : ME X e f) (hl : MO X lo l) (hh : MO X hi h) : MF X (.Subscript e (.Slice lo hi none p2) pos) (cSl f l h) := by
  obtain ⟨t, p, q⟩ := he
  obtain ⟨tl, pl, ql⟩ := hl
  obtain ⟨th, ph, qh⟩ := hh
  refine ⟨_, pe_slice sl_list p pl ph, fun S d S' hz W s Q R k => ?_⟩
  obtain ⟨⟨d1, S1⟩, e1, hz⟩ := bind_some hz
  obtain ⟨⟨d2, S2⟩, e2, hz⟩ := bind_some hz
  obtain ⟨⟨d3, S3⟩, e3, hz⟩ := bind_some hz
  obtain ⟨z, e4, hz⟩ := bind_some hz
  cases hz
  refine q S _ _ e1 W s _ R fun v W1 R1 f1 r1 => ?_
  refine ql S1 _ _ e2 W1 s _ R1 fun W2 R2 f2 => ?_
  refine qh S2 _ _ e3 W2 s _ R2 fun W3 R3 f3 => ?_
  exact sl_new R3 ((f1.trans f2).trans f3) (R3.vw ((r1.up f2).up f3)) e4 k
theorem mf_slV {x : Str} {xp : Pos} (i : Nat) (hl : MO X lo l) (hh : MO X hi h) (hN : X.N[i]? = some x := by rfl) (hv : Vis X.env.scope x := by first | exact Or.inl rfl | exact Or.inr (Or.inl rfl) | exact Or.inr (Or.inr rfl))
    (hd : (x == ("__debug__" : Str)) = false := by decide) (hcd : (x == ("__classdict__" : Str)) = false := by decide) : MF X (.Subscript (.Name x xp) (.Slice lo hi none p2) pos) (cSlV i l h) := by
  obtain ⟨tl, pl, ql⟩ := hl
  obtain ⟨th, ph, qh⟩ := hh
  refine ⟨_, pe_slice sl_list (pe_var hN hv hd hcd) pl ph, fun S d S' hz W s Q R k => ?_⟩
  unfold cSlV at hz
  split at hz
  · rename_i hh
    obtain ⟨⟨d2, S2⟩, e2, hz⟩ := bind_some hz
    obtain ⟨⟨d3, S3⟩, e3, hz⟩ := bind_some hz
    obtain ⟨d1, e1, hz⟩ := bind_some hz
    obtain ⟨z, e4, hz⟩ := bind_some hz
    cases hz
    obtain ⟨v, ev⟩ := R.held hh
    refine ⟨v, ev, ?_⟩
    refine ql S _ _ e2 W s _ R fun W2 R2 f2 => ?_
    refine qh S2 _ _ e3 W2 s _ R2 fun W3 R3 f3 => ?_
    obtain ⟨v', ev', r⟩ := R3.sees e1
    rw [ev] at ev'; cases ev'
    exact sl_new R3 (f2.trans f3) r e4 k
  · cases hz
end

/-! ### built-ins that are called -/
/-- of one value that may be only seen; of several -/
def CallM (X : Cx) (f : Value) (g : D → Option D) : Prop := ∃ r, CallR X f r ∧ ∀ x d z, g d = some z → ∀ W S s (Q : VK), Rel X.K W S s → RH X.K W x d → (∀ v W', Rel X.K W' S s → Fr W S.r s W' S.r s → RV X.K W'.F W'.io v z → Q v W'.H) → r [x] W.H Q
def CallMF (X : Cx) (f : Value) (g : D → Option Cell) : Prop := ∃ r, CallR X f r ∧ ∀ x d c, g d = some c → ∀ W S s (Q : VK), Rel X.K W S s → RH X.K W x d → (∀ p o, W.H p = none → New X.K (W.wr p o) S s p c → Rel X.K (W.wr p o) S s → Fr W S.r s (W.wr p o) S.r s → Q (.ref p) (upd W.H p o)) → r [x] W.H Q
def CallMs (X : Cx) (f : Value) (g : List D → Option D) : Prop := ∃ r, CallR X f r ∧ ∀ xs ds z, g ds = some z → ∀ W S s (Q : VK), Rel X.K W S s → RVs X.K W.F W.io xs ds → (∀ v W', Rel X.K W' S s → Fr W S.r s W' S.r s → RV X.K W'.F W'.io v z → Q v W'.H) → r xs W.H Q
def eCall (g : D → Option D) (f : EF) : EF := fun S => (f S).bind fun p => (g (vw p.2 p.1)).bind fun z => some (z, p.2)
def eCallV (g : D → Option D) (i : Nat) : EF := fun S => (sees i S).bind fun d => (g d).bind fun z => some (z, S)
def cCall (g : D → Option Cell) (f : EF) : CF := fun S => (f S).bind fun p => (g (vw p.2 p.1)).bind fun z => some (z, p.2)
def cCallV (g : D → Option Cell) (i : Nat) : CF := fun S => (sees i S).bind fun d => (g d).bind fun z => some (z, S)
def eCalls (g : List D → Option D) (f : AF) : EF := fun S => (f S).bind fun p => (g p.1).bind fun z => some (z, p.2)
section
variable {X : Cx} {x y : Str} {p pos yp : Pos} {e : Expr} {es : List Expr} {id T : String} {f : EF} {fs : AF} {g : D → Option D} {gc : D → Option Cell} {gs : List D → Option D}
theorem tc_one {K : PySem.W.Frag} {r : List V → Hp → VK → Prop} {t : TE} (h : ∀ x d z, g d = some z → ∀ W S s (Q : VK), Rel K W S s → RH K W x d → (∀ v W', Rel K W' S s → Fr W S.r s W' S.r s → RV K W'.F W'.io v z → Q v W'.H) → r [x] W.H Q) (q : TEok K t f) :
    TEok K (tCB r (tCons t tNil)) (eCall g f) := by
  intro S d S' hz W s Q R k
  obtain ⟨⟨d1, S1⟩, e1, hz⟩ := bind_some hz
  obtain ⟨z, e2, hz⟩ := bind_some hz
  cases hz
  refine q S _ _ e1 W s _ R fun v W1 R1 f1 r1 => ?_
  exact h v _ _ e2 W1 S1 s _ R1 (R1.vw r1) fun v W2 R2 f2 r2 => k v W2 R2 (f1.trans f2) r2
theorem tc_oneV {K : PySem.W.Frag} {r : List V → Hp → VK → Prop} {i : Nat} (h : ∀ x d z, g d = some z → ∀ W S s (Q : VK), Rel K W S s → RH K W x d → (∀ v W', Rel K W' S s → Fr W S.r s W' S.r s → RV K W'.F W'.io v z → Q v W'.H) → r [x] W.H Q) :
    TEok K (tCB r (tCons (tVar i) tNil)) (eCallV g i) := by
  intro S d S' hz W s Q R k
  obtain ⟨d1, e1, hz⟩ := bind_some hz
  obtain ⟨z, e2, hz⟩ := bind_some hz
  cases hz
  obtain ⟨v, ev, rv⟩ := R.sees e1
  exact ⟨v, ev, h v _ _ e2 W S s _ R rv k⟩
theorem tc_new {K : PySem.W.Frag} {r : List V → Hp → VK → Prop} {t : TE} (h : ∀ x d c, gc d = some c → ∀ W S s (Q : VK), Rel K W S s → RH K W x d → (∀ p o, W.H p = none → New K (W.wr p o) S s p c → Rel K (W.wr p o) S s → Fr W S.r s (W.wr p o) S.r s → Q (.ref p) (upd W.H p o)) → r [x] W.H Q) (q : TEok K t f) :
    TFok K (tCB r (tCons t tNil)) (cCall gc f) := by
  intro S d S' hz W s Q R k
  obtain ⟨⟨d1, S1⟩, e1, hz⟩ := bind_some hz
  obtain ⟨z, e2, hz⟩ := bind_some hz
  cases hz
  refine q S _ _ e1 W s _ R fun v W1 R1 f1 r1 => ?_
  exact h v _ _ e2 W1 S1 s _ R1 (R1.vw r1) fun p o hp n R2 f2 => k p _ R2 (f1.trans f2) (f1.hp _ hp) n
theorem tc_newV {K : PySem.W.Frag} {r : List V → Hp → VK → Prop} {i : Nat} (h : ∀ x d c, gc d = some c → ∀ W S s (Q : VK), Rel K W S s → RH K W x d → (∀ p o, W.H p = none → New K (W.wr p o) S s p c → Rel K (W.wr p o) S s → Fr W S.r s (W.wr p o) S.r s → Q (.ref p) (upd W.H p o)) → r [x] W.H Q) :
    TFok K (tCB r (tCons (tVar i) tNil)) (cCallV gc i) := by
  intro S d S' hz W s Q R k
  obtain ⟨d1, e1, hz⟩ := bind_some hz
  obtain ⟨z, e2, hz⟩ := bind_some hz
  cases hz
  obtain ⟨v, ev, rv⟩ := R.sees e1
  exact ⟨v, ev, h v _ _ e2 W S s _ R rv fun p o hp n R2 f2 => k p _ R2 f2 hp n⟩
theorem tc_s {K : PySem.W.Frag} {r : List V → Hp → VK → Prop} {t : TA} (h : ∀ xs ds z, gs ds = some z → ∀ W S s (Q : VK), Rel K W S s → RVs K W.F W.io xs ds → (∀ v W', Rel K W' S s → Fr W S.r s W' S.r s → RV K W'.F W'.io v z → Q v W'.H) → r xs W.H Q) (q : TAok K t fs) :
    TEok K (tCB r t) (eCalls gs fs) := by
  intro S d S' hz W s Q R k
  obtain ⟨⟨d1, S1⟩, e1, hz⟩ := bind_some hz
  obtain ⟨z, e2, hz⟩ := bind_some hz
  cases hz
  refine q S _ _ e1 W s _ R fun v W1 R1 f1 r1 => ?_
  exact h v _ _ e2 W1 S1 s _ R1 r1 fun v W2 R2 f2 r2 => k v W2 R2 (f1.trans f2) r2
theorem me_callB (hc : CallM X (.builtin id) g) (hg : Gl X x) (hm : X.mg x = none) (hv : bootBuiltins x = some (.builtin id)) (ha : ME X e f) (hn : x ≠ "__name__" := by decide) (hdb : (x == ("__debug__" : Str)) = false := by decide)
    (hs : starEach [e] X.env = (false, eval e X.env) :: starEach [] X.env := by rfl) (hpl : (backTo pos (starEach [] X.env)).any (·.1) = false := by rfl) : ME X (.Call (.Name x p) [e] [] pos) (eCall g f) := by
  obtain ⟨r, h1, h2⟩ := hc
  obtain ⟨t, p, q⟩ := ha
  exact ⟨_, pe_callB h1 hg hm hv (pa_cons p pa_nil hs) hn hdb hs hpl, tc_one h2 q⟩
theorem me_callBV (i : Nat) (hc : CallM X (.builtin id) g) (hg : Gl X x) (hm : X.mg x = none) (hv : bootBuiltins x = some (.builtin id)) (hN : X.N[i]? = some y := by rfl) (hy : Vis X.env.scope y := by first | exact Or.inl rfl | exact Or.inr (Or.inl rfl) | exact Or.inr (Or.inr rfl))
    (hn : x ≠ "__name__" := by decide) (hdb : (x == ("__debug__" : Str)) = false := by decide) (hd : (y == ("__debug__" : Str)) = false := by decide) (hcd : (y == ("__classdict__" : Str)) = false := by decide)
    (hs : starEach [.Name y yp] X.env = (false, eval (.Name y yp) X.env) :: starEach [] X.env := by rfl) (hpl : (backTo pos (starEach [] X.env)).any (·.1) = false := by rfl) : ME X (.Call (.Name x p) [.Name y yp] [] pos) (eCallV g i) := by
  obtain ⟨r, h1, h2⟩ := hc
  exact ⟨_, pe_callB h1 hg hm hv (pa_cons (pe_var hN hy hd hcd) pa_nil hs) hn hdb hs hpl, tc_oneV h2⟩
theorem me_callT (hc : CallM X (.type T) g) (hg : Gl X x) (hm : X.mg x = none) (hv : bootBuiltins x = some (.type T)) (ha : ME X e f) (hn : x ≠ "__name__" := by decide) (hdb : (x == ("__debug__" : Str)) = false := by decide)
    (hs : starEach [e] X.env = (false, eval e X.env) :: starEach [] X.env := by rfl) (hpl : (backTo pos (starEach [] X.env)).any (·.1) = false := by rfl) : ME X (.Call (.Name x p) [e] [] pos) (eCall g f) := by
  obtain ⟨r, h1, h2⟩ := hc
  obtain ⟨t, p, q⟩ := ha
  exact ⟨_, pe_callTy h1 hg hm hv (pa_cons p pa_nil hs) hn hdb hs hpl, tc_one h2 q⟩
theorem me_callTV (i : Nat) (hc : CallM X (.type T) g) (hg : Gl X x) (hm : X.mg x = none) (hv : bootBuiltins x = some (.type T)) (hN : X.N[i]? = some y := by rfl) (hy : Vis X.env.scope y := by first | exact Or.inl rfl | exact Or.inr (Or.inl rfl) | exact Or.inr (Or.inr rfl))
    (hn : x ≠ "__name__" := by decide) (hdb : (x == ("__debug__" : Str)) = false := by decide) (hd : (y == ("__debug__" : Str)) = false := by decide) (hcd : (y == ("__classdict__" : Str)) = false := by decide)
    (hs : starEach [.Name y yp] X.env = (false, eval (.Name y yp) X.env) :: starEach [] X.env := by rfl) (hpl : (backTo pos (starEach [] X.env)).any (·.1) = false := by rfl) : ME X (.Call (.Name x p) [.Name y yp] [] pos) (eCallV g i) := by
  obtain ⟨r, h1, h2⟩ := hc
  exact ⟨_, pe_callTy h1 hg hm hv (pa_cons (pe_var hN hy hd hcd) pa_nil hs) hn hdb hs hpl, tc_oneV h2⟩
theorem mf_callT (hc : CallMF X (.type T) gc) (hg : Gl X x) (hm : X.mg x = none) (hv : bootBuiltins x = some (.type T)) (ha : ME X e f) (hn : x ≠ "__name__" := by decide) (hdb : (x == ("__debug__" : Str)) = false := by decide)
    (hs : starEach [e] X.env = (false, eval e X.env) :: starEach [] X.env := by rfl) (hpl : (backTo pos (starEach [] X.env)).any (·.1) = false := by rfl) : MF X (.Call (.Name x p) [e] [] pos) (cCall gc f) := by
  obtain ⟨r, h1, h2⟩ := hc
  obtain ⟨t, p, q⟩ := ha
  exact ⟨_, pe_callTy h1 hg hm hv (pa_cons p pa_nil hs) hn hdb hs hpl, tc_new h2 q⟩
theorem mf_callTV (i : Nat) (hc : CallMF X (.type T) gc) (hg : Gl X x) (hm : X.mg x = none) (hv : bootBuiltins x = some (.type T)) (hN : X.N[i]? = some y := by rfl) (hy : Vis X.env.scope y := by first | exact Or.inl rfl | exact Or.inr (Or.inl rfl) | exact Or.inr (Or.inr rfl))
    (hn : x ≠ "__name__" := by decide) (hdb : (x == ("__debug__" : Str)) = false := by decide) (hd : (y == ("__debug__" : Str)) = false := by decide) (hcd : (y == ("__classdict__" : Str)) = false := by decide)
    (hs : starEach [.Name y yp] X.env = (false, eval (.Name y yp) X.env) :: starEach [] X.env := by rfl) (hpl : (backTo pos (starEach [] X.env)).any (·.1) = false := by rfl) : MF X (.Call (.Name x p) [.Name y yp] [] pos) (cCallV gc i) := by
  obtain ⟨r, h1, h2⟩ := hc
  exact ⟨_, pe_callTy h1 hg hm hv (pa_cons (pe_var hN hy hd hcd) pa_nil hs) hn hdb hs hpl, tc_newV h2⟩
theorem me_callBs (hc : CallMs X (.builtin id) gs) (hg : Gl X x) (hm : X.mg x = none) (hv : bootBuiltins x = some (.builtin id)) (ha : MA X (e :: es) fs) (hn : x ≠ "__name__" := by decide) (hdb : (x == ("__debug__" : Str)) = false := by decide)
    (hs : starEach (e :: es) X.env = (false, eval e X.env) :: starEach es X.env := by rfl) (hpl : (backTo pos (starEach es X.env)).any (·.1) = false := by rfl) : ME X (.Call (.Name x p) (e :: es) [] pos) (eCalls gs fs) := by
  obtain ⟨r, h1, h2⟩ := hc
  obtain ⟨t, p, q⟩ := ha
  exact ⟨_, pe_callB h1 hg hm hv p hn hdb hs hpl, tc_s h2 q⟩
end

/-! which -/
def gLen : D → Option D
  | .str z => if z.length ≤ LIM then some (.int z.length) else none
  | .lst ds | .tup ds | .sc ds => some (.int ds.length)
  | _ => none
def gInt : D → Option D
  | .int i => some (.int i)
  | .bl k => some (.int (if k then 1 else 0))
  | _ => none
def gAbs : D → Option D
  | .int i => some (.int (if i < 0 then -i else i))
  | _ => none
noncomputable def gStr : D → Option D
  | .int i => @ite (Option D) (-BDIV < i ∧ i < BDIV) (Classical.propDecidable _) (some (.str (toString i))) none
  | _ => none
theorem gStr_pos {i : Int} (h : -BDIV < i ∧ i < BDIV) : gStr (.int i) = some (.str (Str.ofString (toString i))) := by
  show @ite (Option D) (-BDIV < i ∧ i < BDIV) (Classical.propDecidable _) (some (.str (toString i))) none = _
  rw [if_pos h]
def gMax2 : List D → Option D
  | [.int i, .int j] => some (.int (if j > i then j else i))
  | _ => none
def gMin2 : List D → Option D
  | [.int i, .int j] => some (.int (if j < i then j else i))
  | _ => none
def boolsD : List D → Option (List Bool)
  | [] => some []
  | .bl b :: r => (boolsD r).bind fun q => some (b :: q)
  | _ => none
def intsD : List D → Option (List Int)
  | [] => some []
  | .int b :: r => (intsD r).bind fun q => some (b :: q)
  | _ => none
def gAll : D → Option D
  | .lst ds => (boolsD ds).bind fun q => some (.bl (q.all id))
  | _ => none
def gAny : D → Option D
  | .lst ds => (boolsD ds).bind fun q => some (.bl (q.any id))
  | _ => none
def gSum : D → Option D
  | .lst ds => (intsD ds).bind fun q => some (.int q.sum)
  | _ => none
def gList : D → Option Cell
  | .lst ds | .tup ds | .sc ds => some (.lst ds)
  | _ => none
def gTuple : D → Option D
  | .lst ds | .tup ds | .sc ds => some (.tup ds)
  | _ => none
def tyName : D → Option String
  | .non => some "NoneType" | .bl _ => some "bool" | .int _ => some "int" | .str _ => some "str"
  | .tup _ => some "tuple" | .lst _ => some "list" | .dct _ => some "dict"
  | _ => none
def gIsi (T : String) (d : D) : Option D := (tyName d).bind fun n => (kitB n T).bind fun b => some (.bl b)
section
variable {X : Cx}
theorem boolsRv {K : PySem.W.Frag} {F : Hp} {io : List Addr} : ∀ {vs : List V} {ds : List D} {bs : List Bool}, RVs K F io vs ds → boolsD ds = some bs → vs = bs.map V.bl
  | _, _, _, .nil, e => by cases e; rfl
  | _, _, _, @RVs.cons _ _ _ v vs d ds h t, e => by
    cases d with
    | bl b =>
      have e : (boolsD ds).bind (fun q => some (b :: q)) = some _ := e
      obtain ⟨q, e1, e⟩ := bind_some e
      cases e
      rw [h.bl_inv, boolsRv t e1]; rfl
    | _ => cases e
theorem intsRv {K : PySem.W.Frag} {F : Hp} {io : List Addr} : ∀ {vs : List V} {ds : List D} {bs : List Int}, RVs K F io vs ds → intsD ds = some bs → vs = bs.map V.int
  | _, _, _, .nil, e => by cases e; rfl
  | _, _, _, @RVs.cons _ _ _ v vs d ds h t, e => by
    cases d with
    | int b =>
      have e : (intsD ds).bind (fun q => some (b :: q)) = some _ := e
      obtain ⟨q, e1, e⟩ := bind_some e
      cases e
      rw [h.int_inv, intsRv t e1]; rfl
    | _ => cases e
theorem cLen : CallM X (.builtin "len") gLen := by
  refine ⟨_, call_len, fun x d z hz W S s Q R rx k => ?_⟩
  unfold gLen at hz
  split at hz
  · split at hz
    · rename_i c; cases hz; cases rhS rx; exact ⟨_, _, rfl, ⟨Nat.le_trans c lim_line, rfl⟩, k _ W R .refl (.int _)⟩
    · cases hz
  · cases hz
    obtain ⟨a, vs, rfl, h1, h2⟩ := rx
    exact ⟨_, _, rfl, .inl ⟨vs, .of h1, rfl⟩, by rw [h2.length]; exact k _ W R .refl (.int _)⟩
  · cases hz
    obtain ⟨a, vs, rfl, h1, h2⟩ := RV.tup_inv rx
    exact ⟨_, _, rfl, .inr ⟨vs, sqT_mono R.sub h1, rfl⟩, by rw [h2.length]; exact k _ W R .refl (.int _)⟩
  · cases hz
    obtain ⟨a, vs, rfl, h1, h2⟩ := RV.sc_inv rx
    exact ⟨_, _, rfl, .inl ⟨vs, sqL_mono R.sub h1, rfl⟩, by rw [h2.length]; exact k _ W R .refl (.int _)⟩
  · cases hz
theorem cInt : CallM X (.type "int") gInt := by
  refine ⟨_, call_int1, fun x d z hz W S s Q R rx k => ?_⟩
  unfold gInt at hz
  split at hz
  · cases hz; cases rhI rx; exact .inl ⟨_, rfl, k _ W R .refl (.int _)⟩
  · cases hz; cases RV.bl_inv rx; exact .inr ⟨_, rfl, k _ W R .refl (.int _)⟩
  · cases hz
theorem cAbs : CallM X (.builtin "abs") gAbs := by
  refine ⟨_, call_abs, fun x d z hz W S s Q R rx k => ?_⟩
  unfold gAbs at hz
  split at hz
  · cases hz; cases rhI rx; exact ⟨_, rfl, k _ W R .refl (.int _)⟩
  · cases hz
theorem cStr : CallM X (.type "str") gStr := by
  refine ⟨_, call_str_int, fun x d z hz W S s Q R rx k => ?_⟩
  unfold gStr at hz
  split at hz
  · split at hz
    · rename_i c
      cases hz
      cases rhI rx
      refine ⟨_, rfl, ?_, k _ W R .refl (.str _)⟩
      rename_i i
      have e : i.natAbs < 10 ^ 50 := by unfold BDIV at c; omega
      have e2 : i.natAbs < 2 ^ 200 := Nat.lt_trans e (by decide)
      have := PySem.Flt.log2_lt_of (k := 200) (by decide) e2
      omega
    · cases hz
  · cases hz
theorem cMax2 (hc : X.calm = true) : CallMs X (.builtin "max") gMax2 := by
  refine ⟨_, call_max2 hc, fun xs ds z hz W S s Q R rx k => ?_⟩
  unfold gMax2 at hz
  split at hz
  · cases hz
    cases rx with
    | cons h t => cases t with
      | cons h' t' => cases t'; cases h.int_inv; cases h'.int_inv; exact ⟨_, _, rfl, k _ W R .refl (.int _)⟩
  · cases hz
theorem cMin2 (hc : X.calm = true) : CallMs X (.builtin "min") gMin2 := by
  refine ⟨_, call_min2 hc, fun xs ds z hz W S s Q R rx k => ?_⟩
  unfold gMin2 at hz
  split at hz
  · cases hz
    cases rx with
    | cons h t => cases t with
      | cons h' t' => cases t'; cases h.int_inv; cases h'.int_inv; exact ⟨_, _, rfl, k _ W R .refl (.int _)⟩
  · cases hz
theorem cAll (hc : X.calm = true) : CallM X (.builtin "all") gAll := by
  refine ⟨_, cr_all hc, fun x d z hz W S s Q R rx k => ?_⟩
  unfold gAll at hz
  split at hz
  · obtain ⟨q, e1, hz⟩ := bind_some hz
    cases hz
    obtain ⟨a, vs, rfl, h1, h2⟩ := rx
    exact ⟨a, q, rfl, by rw [← boolsRv h2 e1]; exact .of h1, k _ W R .refl (.bl _)⟩
  · cases hz
theorem cAny (hc : X.calm = true) : CallM X (.builtin "any") gAny := by
  refine ⟨_, cr_any hc, fun x d z hz W S s Q R rx k => ?_⟩
  unfold gAny at hz
  split at hz
  · obtain ⟨q, e1, hz⟩ := bind_some hz
    cases hz
    obtain ⟨a, vs, rfl, h1, h2⟩ := rx
    exact ⟨a, q, rfl, by rw [← boolsRv h2 e1]; exact .of h1, k _ W R .refl (.bl _)⟩
  · cases hz
theorem cSum (hc : X.calm = true) : CallM X (.builtin "sum") gSum := by
  refine ⟨_, cr_sum hc, fun x d z hz W S s Q R rx k => ?_⟩
  unfold gSum at hz
  split at hz
  · obtain ⟨q, e1, hz⟩ := bind_some hz
    cases hz
    obtain ⟨a, vs, rfl, h1, h2⟩ := rx
    exact ⟨a, q, rfl, by rw [← intsRv h2 e1]; exact .of h1, k _ W R .refl (.int _)⟩
  · cases hz
theorem cList : CallMF X (.type "list") gList := by
  refine ⟨_, call_list_of, fun x d c hz W S s Q R rx k => ?_⟩
  have fin : ∀ {vs : List V} {ds : List D}, RVs X.K W.F W.io vs ds → ∀ l, W.H l = none → (∀ p o, W.H p = none → New X.K (W.wr p o) S s p (.lst ds) → Rel X.K (W.wr p o) S s → Fr W S.r s (W.wr p o) S.r s → Q (.ref p) (upd W.H p o)) → Q (.ref l) (upd W.H l (.lst vs)) := fun {vs ds} h l hl k => by
    obtain ⟨R2, f2, n⟩ := R.newLst hl h
    exact k l _ hl n R2 f2
  unfold gList at hz
  split at hz
  · cases hz
    obtain ⟨a, vs, rfl, h1, h2⟩ := rx
    exact ⟨a, vs, rfl, .inl (.of h1), fun l hl => fin h2 l hl k⟩
  · cases hz
    obtain ⟨a, vs, rfl, h1, h2⟩ := RV.tup_inv rx
    exact ⟨a, vs, rfl, .inr (sqT_mono R.sub h1), fun l hl => fin h2 l hl k⟩
  · cases hz
    obtain ⟨a, vs, rfl, h1, h2⟩ := RV.sc_inv rx
    exact ⟨a, vs, rfl, .inl (sqL_mono R.sub h1), fun l hl => fin h2 l hl k⟩
  · cases hz
theorem cTuple : CallM X (.type "tuple") gTuple := by
  refine ⟨_, call_tuple_of, fun x d c hz W S s Q R rx k => ?_⟩
  have fin : ∀ {vs : List V} {ds : List D}, RVs X.K W.F W.io vs ds → c = .tup ds → ∀ l, W.H l = none → Q (.ref l) (upd W.H l (.tup vs)) := fun {vs ds} h e l hl => by
    subst e
    obtain ⟨R2, f2⟩ := R.al (o := .tup vs) hl
    exact k _ _ R2 f2 (.tup (.of upd_same) (h.up f2))
  unfold gTuple at hz
  split at hz
  · cases hz
    obtain ⟨a, vs, rfl, h1, h2⟩ := rx
    exact ⟨a, vs, rfl, .inl ⟨.of h1, fun l hl => fin h2 rfl l hl⟩⟩
  · cases hz
    obtain ⟨a, vs, rfl, h1, h2⟩ := RV.tup_inv rx
    exact ⟨a, vs, rfl, .inr ⟨sqT_mono R.sub h1, k _ W R .refl rx⟩⟩
  · cases hz
    obtain ⟨a, vs, rfl, h1, h2⟩ := RV.sc_inv rx
    exact ⟨a, vs, rfl, .inl ⟨sqL_mono R.sub h1, fun l hl => fin h2 rfl l hl⟩⟩
  · cases hz
theorem tyx {K : PySem.W.Frag} {W : Wd} {S : Ms} {s : L2.St} (R : Rel K W S s) {v : V} {d : D} {n : String} (h : RV K W.F W.io v d) (e : tyName d = some n) : TyX K W.H v (.type n) := by
  cases d with
  | non => cases e; cases h.non_inv; exact .base .non
  | bl b => cases e; cases h.bl_inv; exact .base (.bl _)
  | int b => cases e; cases h.int_inv; exact .base (.int _)
  | str b => cases e; cases h.str_inv; exact .base (.str _)
  | tup ds =>
    cases e
    obtain ⟨a, vs, rfl, h1, h2⟩ := h.tup_inv
    rcases sqT_mono R.sub h1 with (h1 | ⟨o, h1⟩) | ⟨o, its, k, e1, e2, _⟩
    · exact .base (.tup h1)
    · exact .fTuple h1
    · exact .kTuple e1 e2
  | lst ds => cases e; obtain ⟨a, vs, rfl, h1, h2⟩ := h.lst_inv; exact .base (.lst (R.sub _ _ h1))
  | dct ds => cases e; obtain ⟨a, vs, rfl, h1, h2⟩ := h.dct_inv; exact .base (.dK (R.sub _ _ h1))
  | sc ds => cases e
  | ref k => cases e
/-- isinstance(e, T), T a built-in class -/
def eIsi (T : String) (f : EF) : EF := fun S => (f S).bind fun p => (gIsi T p.1).bind fun z => some (z, p.2)
theorem me_isi {e : Expr} {y : Str} {T : String} {f : EF} {p pos yp : Pos} (hg : Gl X "isinstance") (hm : X.mg "isinstance" = none) (hgy : Gl X y) (hmy : X.mg y = none) (hv : bootBuiltins y = some (.type T)) (ha : ME X e f)
    (hb : bootBuiltins "isinstance" = some (.builtin "isinstance") := by decide +kernel) (hny : y ≠ "__name__" := by decide) (hdy : (y == ("__debug__" : Str)) = false := by decide) (hn : ("isinstance" : Str) ≠ "__name__" := by decide)
    (hs : starEach [e, .Name y yp] X.env = (false, eval e X.env) :: starEach [.Name y yp] X.env := by rfl) (hpl : (backTo pos (starEach [.Name y yp] X.env)).any (·.1) = false := by rfl)
    (hs2 : starEach [.Name y yp] X.env = (false, eval (.Name y yp) X.env) :: starEach [] X.env := by rfl) : ME X (.Call (.Name "isinstance" p) [e, .Name y yp] [] pos) (eIsi T f) := by
  obtain ⟨t, p, q⟩ := ha
  refine ⟨_, pe_callB call_isi hg hm hb (pa_cons p (pa_cons (pe_bltn (v := .ty T) hgy hmy hv rfl hny hdy) pa_nil hs2) hs) hn (by decide) hs hpl, fun S d S' hz W s Q R k => ?_⟩
  obtain ⟨⟨d1, S1⟩, e1, hz⟩ := bind_some hz
  obtain ⟨z, e2, hz⟩ := bind_some hz
  cases hz
  refine q S _ _ e1 W s _ R fun v W1 R1 f1 r1 => ?_
  obtain ⟨n, e3, e2⟩ := bind_some e2
  obtain ⟨b, e4, e2⟩ := bind_some e2
  cases e2
  exact ⟨v, .ty T, .type n, .type T, b, rfl, .ty T, tyx R1 r1 e3, kit_ty e4, k _ W1 R1 f1 (.bl _)⟩
end
end M

/-! M3: statements, targets, loops, defs and their calls. -/
namespace M
open PySem PySem.Spec L2

def flQ (K : PySem.W.Frag) (D : Ends) (s : L2.St) (W : Wd) : Fl → Prop
  | .nx => D.nx s W.H
  | .bk => D.bk s W.H
  | .ct => D.ct s W.H
  | .rt d => ∀ v, RV K W.F W.io v d → D.rt v W.H
def TSok (K : PySem.W.Frag) (t : TS) (f : SF) : Prop := ∀ S fl S', f S = some (fl, S') → ∀ W s (D : Ends), Rel K W S s → (∀ W' s', Rel K W' S' s' → Fr W S.r s W' S'.r s' → flQ K D s' W' fl) → t D s W.H
def TGok (K : PySem.W.Frag) (t : TG) (g : GF) : Prop := ∀ d S S', g d S = some S' → ∀ W s v (Q : L2.St → Hp → Prop), Rel K W S s → RV K W.F W.io v d → (∀ W' s', Rel K W' S' s' → Fr W S.r s W' S'.r s' → Q s' W'.H) → t v s W.H Q
def TGsok (K : PySem.W.Frag) (t : TGs) (g : List D → Ms → Option Ms) : Prop := ∀ d S S', g d S = some S' → ∀ W s v (Q : L2.St → Hp → Prop), Rel K W S s → RVs K W.F W.io v d → (∀ W' s', Rel K W' S' s' → Fr W S.r s W' S'.r s' → Q s' W'.H) → t v s W.H Q
def MS (X : Cx) (st : Stmt) (f : SF) : Prop := ∃ t, PS X st t ∧ TSok X.K t f
def MSs (X : Cx) (st : List Stmt) (f : SF) : Prop := ∃ t, PSs X st t ∧ TSok X.K t f
def MG (X : Cx) (tg : Expr) (g : GF) : Prop := ∃ t, PG X tg t ∧ TGok X.K t g
def MGs (X : Cx) (tg : List Expr) (g : List D → Ms → Option Ms) : Prop := ∃ t, PGs X tg t ∧ TGsok X.K t g

/-! ### blocks and small statements -/
def sNil : SF := fun S => some (.nx, S)
def sSeq (f g : SF) : SF := fun S => (f S).bind fun p => match p.1 with
  | .nx => g p.2
  | fl => some (fl, p.2)
def sBk : SF := fun S => some (.bk, S)
def sCt : SF := fun S => some (.ct, S)
def sExpr (f : EF) : SF := fun S => (f S).bind fun p => some (.nx, p.2)
def sRet (f : EF) : SF := fun S => (f S).bind fun p => some (.rt p.1, p.2)
def sRetN : SF := fun S => some (.rt .non, S)
def sIf (c : BF) (f g : SF) : SF := fun S => (c S).bind fun p => if p.1 then f p.2 else g p.2
section
variable {X : Cx} {st : Stmt} {rest a b : List Stmt} {f g : SF} {e c : Expr} {fe : EF} {fc : BF} {pos : Pos}
theorem mss_nil : MSs X [] sNil := ⟨_, pss_nil, fun S fl S' h W s D R k => by cases h; exact k W s R .refl⟩
theorem mss_cons (h1 : MS X st f) (h2 : MSs X rest g) : MSs X (st :: rest) (sSeq f g) := by
  obtain ⟨t, p, q⟩ := h1
  obtain ⟨u, p', q'⟩ := h2
  refine ⟨_, pss_cons p p', fun S fl S' h W s D R k => ?_⟩
  obtain ⟨⟨fl1, S1⟩, e1, h⟩ := bind_some h
  refine q S fl1 S1 e1 W s { D with nx := u D } R fun W1 s1 R1 f1 => ?_
  cases fl1 with
  | nx => exact q' S1 fl S' h W1 s1 D R1 fun W2 s2 R2 f2 => k W2 s2 R2 (f1.trans f2)
  | bk => cases h; exact k W1 s1 R1 f1
  | ct => cases h; exact k W1 s1 R1 f1
  | rt d => cases h; exact k W1 s1 R1 f1
theorem mss_one (h1 : MS X st f) : MSs X [st] f := by
  obtain ⟨t, p, q⟩ := h1
  exact ⟨_, pss_one p, q⟩
theorem ms_pass : MS X (.Pass pos) sNil := ⟨_, ps_pass, fun S fl S' h W s D R k => by cases h; exact k W s R .refl⟩
theorem ms_break : MS X (.Break pos) sBk := ⟨_, ps_break, fun S fl S' h W s D R k => by cases h; exact k W s R .refl⟩
theorem ms_cont : MS X (.Continue pos) sCt := ⟨_, ps_continue, fun S fl S' h W s D R k => by cases h; exact k W s R .refl⟩
theorem ms_expr (he : ME X e fe) (hs : swapsWith e none pos.line X.env = pure false := by rfl) : MS X (.Expr e pos) (sExpr fe) := by
  obtain ⟨t, p, q⟩ := he
  refine ⟨_, ps_expr p hs, fun S fl S' h W s D R k => ?_⟩
  obtain ⟨⟨d1, S1⟩, e1, h⟩ := bind_some h
  cases h
  exact q S _ _ e1 W s _ R fun v W1 R1 f1 r1 => k W1 s R1 f1
theorem ms_ret (he : ME X e fe) : MS X (.Return (some e) pos) (sRet fe) := by
  obtain ⟨t, p, q⟩ := he
  refine ⟨_, ps_ret p, fun S fl S' h W s D R k => ?_⟩
  obtain ⟨⟨d1, S1⟩, e1, h⟩ := bind_some h
  cases h
  exact q S _ _ e1 W s _ R fun v W1 R1 f1 r1 => k W1 s R1 f1 v r1
theorem ms_retN : MS X (.Return none pos) sRetN := ⟨_, ps_retN, fun S fl S' h W s D R k => by cases h; exact k W s R .refl .non .non⟩
theorem ms_if (hc : MT X c fc) (ha : MSs X a f) (hb : MSs X b g) : MS X (.If c a b pos) (sIf fc f g) := by
  obtain ⟨t, p, q⟩ := hc
  obtain ⟨ta, pa, qa⟩ := ha
  obtain ⟨tb, pb, qb⟩ := hb
  refine ⟨_, ps_if p pa pb, fun S fl S' h W s D R k => ?_⟩
  obtain ⟨⟨c, S1⟩, e1, h⟩ := bind_some h
  refine q S _ _ e1 W s _ R fun W1 R1 f1 => ?_
  cases c with
  | true => exact qa S1 _ _ h W1 s D R1 fun W2 s2 R2 f2 => k W2 s2 R2 (f1.trans f2)
  | false => exact qb S1 _ _ h W1 s D R1 fun W2 s2 R2 f2 => k W2 s2 R2 (f1.trans f2)
end

/-! ### targets, assignments -/
def gNm (i : Nat) : GF := fun d S => some { S with r := S.r.set i (.val d) }
def gsNil : List D → Ms → Option Ms := fun ds S => if ds.isEmpty then some S else none
def gsCons (g : GF) (h : List D → Ms → Option Ms) : List D → Ms → Option Ms := fun ds S => match ds with
  | d :: r => (g d S).bind fun S1 => h r S1
  | [] => none
def gTp (n : Nat) (g : List D → Ms → Option Ms) : GF := fun d S => match d with
  | .tup ds => if ds.length = n then g ds S else none
  | _ => none
/-- the list in slot i is given another form -/
def modL (i : Nat) (h : List D → Option (List D)) (S : Ms) : Option Ms := match S.r[i]? with
  | some (.own (.lst ds)) => (h ds).bind fun es => some { S with r := S.r.set i (.own (.lst es)) }
  | some (.val (.ref k)) => match S.m[k]? with
    | some (.lst ds) => (h ds).bind fun es => some { S with m := S.m.set k (.lst es) }
    | _ => none
  | _ => none
def setAt (d e : D) (ds : List D) : Option (List D) := match e with
  | .int k => (ixN ds.length k).bind fun j => some (ds.set j d)
  | _ => none
def gSubV (i : Nat) (f : EF) : GF := fun d S => if held i S then (f S).bind fun p => modL i (setAt d p.1) p.2 else none
def isL (i : Nat) (S : Ms) : Bool := match sees i S with
  | some (.lst _) => true
  | _ => false
def eApp (i : Nat) (f : EF) : EF := fun S => if isL i S then (f S).bind fun p => (modL i (fun ds => if ds.length < LIM then some (ds ++ [p.1]) else none) p.2).bind fun S' => some (.non, S') else none
def eExt (i : Nat) (f : EF) : EF := fun S => if isL i S then (f S).bind fun p => match p.1 with
  | .lst es => (modL i (fun ds => if ds.length + es.length < LIM then some (ds ++ es) else none) p.2).bind fun S' => some (.non, S')
  | _ => none else none
def eRevs (i : Nat) : EF := fun S => (modL i (fun ds => some ds.reverse) S).bind fun S' => some (.non, S')
def ePop (i : Nat) : EF := fun S => match sees i S with
  | some (.lst ds) => match ds[ds.length - 1]? with
    | some d => (modL i (fun ds => some ds.dropLast) S).bind fun S' => some (d, S')
    | none => none
  | _ => none
def sAsg (f : EF) (g : GF) : SF := fun S => (f S).bind fun p => (g p.1 p.2).bind fun S' => some (.nx, S')
def sOwn (i : Nat) (c : CF) : SF := fun S => (c S).bind fun p => some (.nx, { p.2 with r := p.2.r.set i (.own p.1) })
def sCell (i : Nat) (c : CF) : SF := fun S => (c S).bind fun p => some (.nx, { r := p.2.r.set i (.val (.ref p.2.m.length)), m := p.2.m ++ [p.1] })
def sAug (i : Nat) (op : Int → Int → Int) (f : EF) : SF := fun S => match S.r[i]? with
  | some (.val (.int a)) => (f S).bind fun p => match p.1 with
    | .int b => some (.nx, { p.2 with r := p.2.r.set i (.val (.int (op a b))) })
    | _ => none
  | _ => none

section
variable {X : Cx} {pos : Pos} {x : Str} {xp : Pos} {e tg : Expr} {es : List Expr} {fe : EF} {fc : CF} {g : GF} {gs : List D → Ms → Option Ms}
theorem tg_name {K : PySem.W.Frag} {i : Nat} : TGok K (gName i) (gNm i) := by
  intro d S S' h W s v Q R r k
  cases h
  obtain ⟨R1, f1⟩ := R.setVal (i := i) r
  exact k W _ R1 f1
theorem mg_name (i : Nat) (hN : X.N.Nodup) (hi : X.N[i]? = some x := by rfl) (hx : Loc X.env.scope x := by first | exact Or.inl rfl | exact Or.inr rfl) (hf : X.fn x = true ∨ X.env.scope.names.lookup x = some .local := by first | exact .inl rfl | exact .inr rfl) : MG X (.Name x xp) (gNm i) :=
  ⟨_, pg_name hN hi hx hf, tg_name⟩
theorem mgs_nil : MGs X [] gsNil := ⟨_, pgs_nil, fun d S S' h W s v Q R r k => by
  unfold gsNil at h
  split at h
  · rename_i c
    cases h
    cases r with
    | nil => exact ⟨rfl, k W s R .refl⟩
    | cons _ _ => cases c
  · cases h⟩
theorem mgs_cons (h1 : MG X e g) (h2 : MGs X es gs) (hs : (assignEach (e :: es) X.env).map (·.2) = assign e X.env :: (assignEach es X.env).map (·.2) := by rfl) : MGs X (e :: es) (gsCons g gs) := by
  obtain ⟨t, p, q⟩ := h1
  obtain ⟨u, p', q'⟩ := h2
  refine ⟨_, pgs_cons p p' hs, fun d S S' h W s v Q R r k => ?_⟩
  unfold gsCons at h
  cases r with
  | nil => cases h
  | @cons v vs d ds r1 r2 =>
    obtain ⟨S1, e1, h⟩ := bind_some h
    exact ⟨v, vs, rfl, q d S S1 e1 W s v _ R r1 fun W1 s1 R1 f1 => q' ds S1 S' h W1 s1 vs _ R1 (r2.up f1) fun W2 s2 R2 f2 => k W2 s2 R2 (f1.trans f2)⟩
theorem mg_tup {k n : Nat} (hc : X.calm = true) (h : MGs X es gs) (hn : (assignEach es X.env).length = n := by rfl) (hst : (assignEach es X.env).findIdx? (·.1) = none := by rfl) : MG X (.Tuple es k pos) (gTp n gs) := by
  obtain ⟨t, p, q⟩ := h
  refine ⟨_, pg_tup hc p hn hst, fun d S S' h W s v Q R r k => ?_⟩
  unfold gTp at h
  split at h
  · split at h
    · rename_i c
      obtain ⟨a, vs, rfl, h1, h2⟩ := r.tup_inv
      exact ⟨a, vs, rfl, sqT_mono R.sub h1, by rw [h2.length]; exact c, q _ S S' h W s vs Q R h2 k⟩
    · cases h
  · cases h
theorem modL_ok {K : PySem.W.Frag} {W : Wd} {S S' : Ms} {s : L2.St} (R : Rel K W S s) {i : Nat} {h : List D → Option (List D)} (e : modL i h S = some S') : ∃ a ds es vs, s[i]? = some (some (.ref a)) ∧ sees i S = some (.lst ds) ∧ h ds = some es ∧ W.H a = some (.lst vs) ∧ RVs K W.F W.io vs ds ∧
    ∀ ws, RVs K W.F W.io ws es → Rel K (W.wr a (.lst ws)) S' s ∧ Fr W S.r s (W.wr a (.lst ws)) S'.r s := by
  unfold modL at e
  split at e
  · rename_i ds q
    obtain ⟨es, e1, e⟩ := bind_some e
    cases e
    obtain ⟨a, e2, n1, n2, vs, h1, h2⟩ := R.owns i _ q
    refine ⟨a, ds, es, vs, e2, by unfold sees; rw [q], e1, h1, h2, fun ws r => ?_⟩
    exact R.wrOwn q e2 (c' := .lst es) ⟨ws, upd_same, r⟩
  · rename_i k q
    split at e
    · rename_i ds q2
      obtain ⟨es, e1, e⟩ := bind_some e
      cases e
      obtain ⟨v, e2, r⟩ := R.slots i _ q
      obtain ⟨a, rfl, e3⟩ := r.ref_inv
      obtain ⟨vs, h1, h2⟩ := R.cells k _ a q2 e3
      refine ⟨a, ds, es, vs, e2, by unfold sees; rw [q]; show some (vw S (.ref k)) = _; unfold vw; simp only [q2], e1, h1, h2, fun ws r => ?_⟩
      exact R.wrCell e3 (c' := .lst es) ⟨ws, upd_same, r⟩
    · cases e
  · cases e
theorem mg_sub (i : Nat) {ie : Expr} {fi : EF} (hi : ME X ie fi) (hN : X.N[i]? = some x := by rfl) (hv : Vis X.env.scope x := by first | exact Or.inl rfl | exact Or.inr (Or.inl rfl) | exact Or.inr (Or.inr rfl))
    (hd : (x == ("__debug__" : Str)) = false := by decide) (hcd : (x == ("__classdict__" : Str)) = false := by decide)
    (ha : ∀ v, assign (.Subscript (.Name x xp) ie pos) X.env v = (do
      let ov ← holding [v] (eval (.Name x xp) X.env)
      let iv ← holding [v, ov] (eval ie X.env)
      standAt pos
      holding [v, ov, iv] (setItem ov iv v)
      release [v, ov, iv] []) := by intro _; rfl) : MG X (.Subscript (.Name x xp) ie pos) (gSubV i fi) := by
  obtain ⟨t, p, q⟩ := hi
  refine ⟨_, pg_sub (pe_var hN hv hd hcd) p set_list ha, fun d S S' h W s v Q R r k => ?_⟩
  unfold gSubV at h
  split at h
  · rename_i hh
    obtain ⟨⟨d1, S1⟩, e1, h⟩ := bind_some h
    obtain ⟨u, eu⟩ := R.held hh
    refine ⟨u, eu, ?_⟩
    refine q S _ _ e1 W s _ R fun y W1 R1 f1 r1 => ?_
    obtain ⟨a, ds, es, vs, e2, _, e3, h1, h2, kk⟩ := modL_ok R1 h
    rw [eu] at e2; cases e2
    unfold setAt at e3
    simp only at e3
    split at e3
    · obtain ⟨j, e4, e3⟩ := bind_some e3
      cases e3
      obtain ⟨R2, f2⟩ := kk _ (h2.set j (r.up f1))
      exact ⟨a, vs, _, j, rfl, r1.int_inv, h1, by rw [h2.length]; exact e4, k _ _ R2 (f1.trans f2)⟩
    · cases e3
  · cases h
theorem isL_ok {K : PySem.W.Frag} {W : Wd} {S : Ms} {s : L2.St} (R : Rel K W S s) {i : Nat} (h : isL i S = true) : ∃ v, s[i]? = some (some v) ∧ tyV K "list" v W.H := by
  unfold isL at h
  split at h
  · rename_i ds e
    obtain ⟨v, e1, a, vs, rfl, h1, h2⟩ := R.sees e
    exact ⟨_, e1, .inl ⟨rfl, vs, .of h1⟩⟩
  · cases h
theorem me_app (i : Nat) {apos : Pos} (he : ME X e fe) (hN : X.N[i]? = some x := by rfl) (hv : Vis X.env.scope x := by first | exact Or.inl rfl | exact Or.inr (Or.inl rfl) | exact Or.inr (Or.inr rfl))
    (hd : (x == ("__debug__" : Str)) = false := by decide) (hcd : (x == ("__classdict__" : Str)) = false := by decide)
    (hbase : attributeBase (.Name x xp) "append" X.env (eval (.Name x xp) X.env) = eval (.Name x xp) X.env := by rfl)
    (hfew : ((backTo pos (starEach [e] X.env)).all (fun x => !x.1) && (backToKw pos (keywordEach [] X.env)).all (fun x => x.1.isSome)
      && decide ([e].length + ([] : List Keyword).length + (if ([] : List Keyword).isEmpty then 0 else 1) < 30)) = true := by rfl)
    (hline : (apos.endLine == pos.line) = true := by rfl) (hs : starEach [e] X.env = (false, eval e X.env) :: starEach [] X.env := by rfl) (hplain : (backTo pos (starEach [] X.env)).any (·.1) = false := by rfl) :
    ME X (.Call (.Attribute (.Name x xp) "append" apos) [e] [] pos) (eApp i fe) := by
  obtain ⟨t, p, q⟩ := he
  refine ⟨_, pe_bm PySem.F.plainAttrs_list PySem.F.slot_list_append PySem.F.type_list_append mt_append (pe_var hN hv hd hcd) (pa_cons p pa_nil hs) hbase hfew hline hs hplain, fun S d S' h W s Q R k => ?_⟩
  unfold eApp at h
  split at h
  · rename_i hh
    obtain ⟨⟨d1, S1⟩, e1, h⟩ := bind_some h
    obtain ⟨S2, e2, h⟩ := bind_some h
    cases h
    obtain ⟨u, eu, ty⟩ := isL_ok R hh
    refine ⟨u, eu, ty, ?_⟩
    refine q S _ _ e1 W s _ R fun y W1 R1 f1 r1 => ?_
    obtain ⟨a, ds, es, vs, e3, _, e4, h1, h2, kk⟩ := modL_ok R1 e2
    rw [eu] at e3; cases e3
    split at e4
    · rename_i c
      cases e4
      obtain ⟨R2, f2⟩ := kk _ (h2.append (.cons r1 .nil))
      exact ⟨a, vs, y, rfl, rfl, h1, by rw [h2.length]; exact Nat.lt_of_lt_of_le c lim_line, k _ _ R2 (f1.trans f2) .non⟩
    · cases e4
  · cases h
theorem me_ext (i : Nat) {apos : Pos} (he : ME X e fe) (hN : X.N[i]? = some x := by rfl) (hv : Vis X.env.scope x := by first | exact Or.inl rfl | exact Or.inr (Or.inl rfl) | exact Or.inr (Or.inr rfl))
    (hd : (x == ("__debug__" : Str)) = false := by decide) (hcd : (x == ("__classdict__" : Str)) = false := by decide)
    (hbase : attributeBase (.Name x xp) "extend" X.env (eval (.Name x xp) X.env) = eval (.Name x xp) X.env := by rfl)
    (hfew : ((backTo pos (starEach [e] X.env)).all (fun x => !x.1) && (backToKw pos (keywordEach [] X.env)).all (fun x => x.1.isSome)
      && decide ([e].length + ([] : List Keyword).length + (if ([] : List Keyword).isEmpty then 0 else 1) < 30)) = true := by rfl)
    (hline : (apos.endLine == pos.line) = true := by rfl) (hs : starEach [e] X.env = (false, eval e X.env) :: starEach [] X.env := by rfl) (hplain : (backTo pos (starEach [] X.env)).any (·.1) = false := by rfl) :
    ME X (.Call (.Attribute (.Name x xp) "extend" apos) [e] [] pos) (eExt i fe) := by
  obtain ⟨t, p, q⟩ := he
  refine ⟨_, pe_bm PySem.F.plainAttrs_list PySem.F.slot_list_extend PySem.F.type_list_extend mt_extend (pe_var hN hv hd hcd) (pa_cons p pa_nil hs) hbase hfew hline hs hplain, fun S d S' h W s Q R k => ?_⟩
  unfold eExt at h
  split at h
  · rename_i hh
    obtain ⟨⟨d1, S1⟩, e1, h⟩ := bind_some h
    simp only at h
    split at h
    · obtain ⟨S2, e2, h⟩ := bind_some h
      cases h
      obtain ⟨u, eu, ty⟩ := isL_ok R hh
      refine ⟨u, eu, ty, ?_⟩
      refine q S _ _ e1 W s _ R fun y W1 R1 f1 r1 => ?_
      obtain ⟨b, zs, rfl, g1, g2⟩ := r1.lst_inv
      obtain ⟨a, ds, es, vs, e3, _, e4, h1, h2, kk⟩ := modL_ok R1 e2
      rw [eu] at e3; cases e3
      split at e4
      · rename_i c
        cases e4
        obtain ⟨R2, f2⟩ := kk _ (h2.append g2)
        exact ⟨a, b, vs, zs, rfl, rfl, h1, R1.sub _ _ g1, by rw [h2.length, g2.length]; exact Nat.le_of_lt (Nat.lt_of_lt_of_le c lim_line), k _ _ R2 (f1.trans f2) .non⟩
      · cases e4
    · cases h
  · cases h
theorem me_revs (i : Nat) {apos : Pos} (hN : X.N[i]? = some x := by rfl) (hv : Vis X.env.scope x := by first | exact Or.inl rfl | exact Or.inr (Or.inl rfl) | exact Or.inr (Or.inr rfl))
    (hd : (x == ("__debug__" : Str)) = false := by decide) (hcd : (x == ("__classdict__" : Str)) = false := by decide)
    (hbase : attributeBase (.Name x xp) "reverse" X.env (eval (.Name x xp) X.env) = eval (.Name x xp) X.env := by rfl) (hline : (apos.endLine == pos.line) = true := by rfl) :
    ME X (.Call (.Attribute (.Name x xp) "reverse" apos) [] [] pos) (eRevs i) := by
  refine ⟨_, pe_bm0 PySem.F.plainAttrs_list PySem.F.slot_list_reverse PySem.F.type_list_reverse mt_reverse (pe_var hN hv hd hcd) hbase hline, fun S d S' h W s Q R k => ?_⟩
  obtain ⟨S2, e2, h⟩ := bind_some h
  cases h
  obtain ⟨a, ds, es, vs, e3, e5, e4, h1, h2, kk⟩ := modL_ok R e2
  cases e4
  obtain ⟨R2, f2⟩ := kk _ h2.reverse
  exact ⟨_, e3, .inl ⟨rfl, vs, .of h1⟩, a, vs, rfl, rfl, h1, k _ _ R2 f2 .non⟩
theorem me_pop (i : Nat) {apos : Pos} (hN : X.N[i]? = some x := by rfl) (hv : Vis X.env.scope x := by first | exact Or.inl rfl | exact Or.inr (Or.inl rfl) | exact Or.inr (Or.inr rfl))
    (hd : (x == ("__debug__" : Str)) = false := by decide) (hcd : (x == ("__classdict__" : Str)) = false := by decide)
    (hbase : attributeBase (.Name x xp) "pop" X.env (eval (.Name x xp) X.env) = eval (.Name x xp) X.env := by rfl) (hline : (apos.endLine == pos.line) = true := by rfl) :
    ME X (.Call (.Attribute (.Name x xp) "pop" apos) [] [] pos) (ePop i) := by
  refine ⟨_, pe_bm0 PySem.F.plainAttrs_list PySem.F.slot_list_pop PySem.F.type_list_pop mt_pop (pe_var hN hv hd hcd) hbase hline, fun S d S' h W s Q R k => ?_⟩
  unfold ePop at h
  split at h
  · rename_i ds0 e0
    split at h
    · rename_i d0 ed
      obtain ⟨S2, e2, h⟩ := bind_some h
      cases h
      obtain ⟨a, ds, es, vs, e3, e5, e4, h1, h2, kk⟩ := modL_ok R e2
      rw [e0] at e5; cases e5
      cases e4
      obtain ⟨R2, f2⟩ := kk _ h2.dropLast
      obtain ⟨v, ev, rv⟩ := h2.get ed
      exact ⟨_, e3, .inl ⟨rfl, vs, .of h1⟩, a, vs, v, rfl, rfl, h1, by rw [h2.length]; exact ev, k v _ R2 f2 (rv.up f2)⟩
    · cases h
  · cases h
theorem ms_asg (he : ME X e fe) (hg : MG X tg g) (hs : swapsWithSole [tg] e pos.line X.env = pure false := by rfl) (hw : swappedStores [tg] e X.env = pure none := by rfl)
    (h1 : (assignEach [tg] X.env).map (·.2) = [assign tg X.env] := by rfl) : MS X (.Assign [tg] e pos) (sAsg fe g) := by
  obtain ⟨t, p, q⟩ := he
  obtain ⟨u, p', q'⟩ := hg
  refine ⟨_, ps_asg p p' hs hw h1, fun S fl S' h W s D R k => ?_⟩
  obtain ⟨⟨d1, S1⟩, e1, h⟩ := bind_some h
  obtain ⟨S2, e2, h⟩ := bind_some h
  cases h
  exact q S _ _ e1 W s _ R fun v W1 R1 f1 r1 => q' d1 S1 _ e2 W1 s v _ R1 r1 fun W2 s2 R2 f2 => k W2 s2 R2 (f1.trans f2)
theorem ms_set (i : Nat) (hN : X.N.Nodup) (he : ME X e fe) (hi : X.N[i]? = some x := by rfl) (hx : Loc X.env.scope x := by first | exact Or.inl rfl | exact Or.inr rfl) (hs : swapsWith e (some (.Name x xp)) pos.line X.env = pure false := by rfl)
    (hf : X.fn x = true ∨ X.env.scope.names.lookup x = some .local := by first | exact .inl rfl | exact .inr rfl) : MS X (.Assign [.Name x xp] e pos) (sAsg fe (gNm i)) := by
  obtain ⟨t, p, q⟩ := he
  refine ⟨_, ps_set hN hi hx p hs hf, fun S fl S' h W s D R k => ?_⟩
  obtain ⟨⟨d1, S1⟩, e1, h⟩ := bind_some h
  obtain ⟨S2, e2, h⟩ := bind_some h
  cases h
  exact q S _ _ e1 W s _ R fun v W1 R1 f1 r1 => tg_name (i := i) d1 S1 _ e2 W1 s v _ R1 r1 fun W2 s2 R2 f2 => k W2 s2 R2 (f1.trans f2)
theorem ts_own {K : PySem.W.Frag} {i : Nat} {t : TE} (q : TFok K t fc) : TSok K (tAsg t (gName i)) (sOwn i fc) := by
  intro S fl S' h W s D R k
  obtain ⟨⟨c1, S1⟩, e1, h⟩ := bind_some h
  cases h
  refine q S _ _ e1 W s _ R fun a W1 R1 f1 hp n => ?_
  obtain ⟨R2, f2⟩ := R1.setOwn f1 (i := i) hp n
  exact k W1 _ R2 f2
theorem ts_cell {K : PySem.W.Frag} {i : Nat} {t : TE} (q : TFok K t fc) : TSok K (tAsg t (gName i)) (sCell i fc) := by
  intro S fl S' h W s D R k
  obtain ⟨⟨c1, S1⟩, e1, h⟩ := bind_some h
  cases h
  refine q S _ _ e1 W s _ R fun a W1 R1 f1 hp n => ?_
  obtain ⟨R2, f2, r2⟩ := R1.addCell f1 hp n
  obtain ⟨R3, f3⟩ := R2.setVal (i := i) r2
  exact k (W1.cl a) _ R3 (f2.trans f3)
theorem ms_own (i : Nat) (hN : X.N.Nodup) (he : MF X e fc) (hi : X.N[i]? = some x := by rfl) (hx : Loc X.env.scope x := by first | exact Or.inl rfl | exact Or.inr rfl) (hs : swapsWith e (some (.Name x xp)) pos.line X.env = pure false := by rfl)
    (hf : X.fn x = true ∨ X.env.scope.names.lookup x = some .local := by first | exact .inl rfl | exact .inr rfl) : MS X (.Assign [.Name x xp] e pos) (sOwn i fc) := by
  obtain ⟨t, p, q⟩ := he
  exact ⟨_, ps_set hN hi hx p hs hf, ts_own q⟩
theorem ms_cell (i : Nat) (hN : X.N.Nodup) (he : MF X e fc) (hi : X.N[i]? = some x := by rfl) (hx : Loc X.env.scope x := by first | exact Or.inl rfl | exact Or.inr rfl) (hs : swapsWith e (some (.Name x xp)) pos.line X.env = pure false := by rfl)
    (hf : X.fn x = true ∨ X.env.scope.names.lookup x = some .local := by first | exact .inl rfl | exact .inr rfl) : MS X (.Assign [.Name x xp] e pos) (sCell i fc) := by
  obtain ⟨t, p, q⟩ := he
  exact ⟨_, ps_set hN hi hx p hs hf, ts_cell q⟩
theorem ms_aug (i : Nat) {op : Operator} {f : Int → Int → Int} (ho : PIp X op (ipI f)) (hN : X.N.Nodup) (he : ME X e fe) (hi : X.N[i]? = some x := by rfl) (hx : Loc X.env.scope x := by first | exact Or.inl rfl | exact Or.inr rfl)
    (hf : X.fn x = true ∨ X.env.scope.names.lookup x = some .local := by first | exact .inl rfl | exact .inr rfl) : MS X (.AugAssign (.Name x xp) op e pos) (sAug i f fe) := by
  obtain ⟨t, p, q⟩ := he
  refine ⟨_, ps_aug hN hi hx p ho hf, fun S fl S' h W s D R k => ?_⟩
  unfold sAug at h
  split at h
  · rename_i a ea
    obtain ⟨⟨d1, S1⟩, e1, h⟩ := bind_some h
    simp only at h
    split at h
    · cases h
      obtain ⟨v, ev, rv⟩ := R.slots i _ ea
      cases rv.int_inv
      refine ⟨_, ev, q S _ _ e1 W s _ R fun w W1 R1 f1 r1 => ?_⟩
      obtain ⟨R2, f2⟩ := R1.setVal (i := i) (RV.int (f a _))
      exact ⟨_, _, rfl, r1.int_inv, k W1 _ R2 (f1.trans f2)⟩
    · cases h
  · cases h
end

/-! ### what a loop walks -/
structure Yl (K : PySem.W.Frag) (J : It) (W : Wd) (ds : List D) : Prop where
  go : ∀ W2 S s, Rel K W2 S s → (∀ a o, W.F a = some o → W2.F a = some o) → W.io <+: W2.io → ∀ i d, ds[i]? = some d → J.go i W2.H ∧ ∀ x H', J.yld i W2.H x H' → ∃ W3, W3.H = H' ∧ Rel K W3 S s ∧ Fr W2 S.r s W3 S.r s ∧ RV K W3.F W3.io x d
  stop : ∀ W2 S s, Rel K W2 S s → (∀ a o, W.F a = some o → W2.F a = some o) → W.io <+: W2.io → J.stop ds.length W2.H
def TIok (K : PySem.W.Frag) (wi : TI) (f : AF) : Prop := ∀ S ds S', f S = some (ds, S') → ∀ W s (Rr : It → Hp → Prop), Rel K W S s → (∀ J W', Rel K W' S' s → Fr W S.r s W' S'.r s → Yl K J W' ds → Rr J W'.H) → wi s W.H Rr
def MI (X : Cx) (tg it : Expr) (f : AF) : Prop := ∃ wi, PI X tg it wi ∧ TIok X.K wi f
/-- a list, a tuple -/
def seqD : D → Option (List D)
  | .lst ds | .tup ds | .sc ds => some ds
  | _ => none
def iSeq (f : EF) : AF := fun S => (f S).bind fun p => (seqD p.1).bind fun ds => some (ds, p.2)
def rngD (lo : Int) (n : Nat) : List D := (List.range n).map fun i => .int (lo + (i : Nat))
open Classical in
noncomputable def iRg1 (f : EF) : AF := fun S => (f S).bind fun p => match p.1 with
  | .int n => if -B61 ≤ n ∧ n ≤ B61 then some (rngD 0 n.toNat, p.2) else none
  | _ => none
where B61 : Int := 2000000000000000000
open Classical in
noncomputable def iRg2 (f g : EF) : AF := fun S => (f S).bind fun p => (g p.2).bind fun q => match p.1, q.1 with
  | .int a, .int b => if -iRg1.B61 ≤ a ∧ a ≤ iRg1.B61 ∧ -iRg1.B61 ≤ b ∧ b ≤ iRg1.B61 then some (rngD a (b - a).toNat, q.2) else none
  | _, _ => none
section
variable {X : Cx} {tg e a b : Expr} {fe fa fb : EF}
open PySem.Spec PyProof.Rows in
theorem pi_seq {l : Expr} {tl : TE} (hl : PE X l tl) : PI X tg l (fun s H R => tl s H fun x H1 => (∃ a, x = .ref a ∧ (∃ xs, SqL X.K H1 a xs) ∧ R (Itl X.K a) H1) ∨ (∃ a, x = .ref a ∧ (∃ xs, SqT X.K H1 a xs) ∧ R (Itt X.K a) H1)) := by
  refine ⟨fun pins s σ H R I h => ?_⟩
  refine thn (hl.run pins s σ H _ I h) fun v s1 ⟨x, H1, I1, r1, q1⟩ => ?_
  rcases q1 with ⟨a, e, ⟨xs, hq⟩, q⟩ | ⟨a, e, ⟨xs, hq⟩, q⟩
  · subst e
    cases r1
    obtain ⟨its, rv, p, hz⟩ := I1.list hq
    refine wpAny_pyIter_list p.isList ?_
    refine ⟨s1.heap.objs.size, [s1.heap.objs.size], _, _, H1, rfl, I1.kept (t' := s1.toks) fun b o e => Heap.get?_push_of_some _ e, turn_list a _, ⟨_, Heap.get?_push_size _ rfl, rfl, rfl⟩, fun b hb => ?_, q⟩
    have e : b = s1.heap.objs.size := by simpa using hb
    subst e
    exact I1.fpOk (Nat.le_refl _) (I1.hok.fresh (Nat.le_refl _))
  · subst e
    cases r1
    obtain ⟨its, rv, p, hz⟩ := I1.tuple hq
    refine wpAny_pyIter_tuple (show s1.heap.IsTuple a its.toArray from p) ?_
    refine ⟨s1.heap.objs.size, [s1.heap.objs.size], _, _, H1, rfl, I1.kept (t' := s1.toks) fun b o e => Heap.get?_push_of_some _ e, turn_tuple a _, ⟨_, Heap.get?_push_size _ rfl, rfl, rfl⟩, fun b hb => ?_, q⟩
    have e : b = s1.heap.objs.size := by simpa using hb
    subst e
    exact I1.fpOk (Nat.le_refl _) (I1.hok.fresh (Nat.le_refl _))
theorem yl_list {K : PySem.W.Frag} {W : Wd} {a : Addr} {vs : List V} {ds : List D} (h : ∀ W2 : Wd, (∀ a o, W.F a = some o → W2.F a = some o) → (∀ a o, W2.F a = some o → W2.H a = some o) → SqL K W2.H a vs) (r : RVs K W.F W.io vs ds) : Yl K (Itl K a) W ds := by
  refine ⟨fun W2 S s R hF hi i d e => ?_, fun W2 S s R hF hi => ?_⟩
  · obtain ⟨v, ev, rv⟩ := r.get e
    refine ⟨⟨vs, v, h W2 hF R.sub, ev⟩, fun x H' y => ⟨W2, y.1.symm, R, .refl, ?_⟩⟩
    have := y.2 vs (h W2 hF R.sub)
    rw [ev] at this; cases this
    exact rv.mono hF hi
  · exact ⟨vs, h W2 hF R.sub, by rw [r.length]; exact Nat.le_refl _⟩
theorem yl_tup {K : PySem.W.Frag} {W : Wd} {a : Addr} {vs : List V} {ds : List D} (h : ∀ W2 : Wd, (∀ a o, W.F a = some o → W2.F a = some o) → (∀ a o, W2.F a = some o → W2.H a = some o) → SqT K W2.H a vs) (r : RVs K W.F W.io vs ds) : Yl K (Itt K a) W ds := by
  refine ⟨fun W2 S s R hF hi i d e => ?_, fun W2 S s R hF hi => ?_⟩
  · obtain ⟨v, ev, rv⟩ := r.get e
    refine ⟨⟨vs, v, h W2 hF R.sub, ev⟩, fun x H' y => ⟨W2, y.1.symm, R, .refl, ?_⟩⟩
    have := y.2 vs (h W2 hF R.sub)
    rw [ev] at this; cases this
    exact rv.mono hF hi
  · exact ⟨vs, h W2 hF R.sub, by rw [r.length]; exact Nat.le_refl _⟩
theorem yl_rng {K : PySem.W.Frag} {W : Wd} {lo : Int} {n : Nat} : Yl K (Itr lo n) W (rngD lo n) := by
  refine ⟨fun W2 S s R hF hi i d e => ?_, fun W2 S s R hF hi => ?_⟩
  · unfold rngD at e
    rw [List.getElem?_map] at e
    have hl : i < n := by
      have := (List.getElem?_eq_some_iff.mp (Option.map_eq_some_iff.mp e).choose_spec.1).1
      simpa using this
    rw [List.getElem?_range hl] at e
    cases e
    refine ⟨hl, fun x H' y => ⟨W2, y.1.symm, R, .refl, ?_⟩⟩
    rw [y.2]
    exact .int _
  · show n ≤ (rngD lo n).length
    simp [rngD]
theorem mi_seq (he : ME X e fe) : MI X tg e (iSeq fe) := by
  obtain ⟨t, p, q⟩ := he
  refine ⟨_, pi_seq p, fun S ds S' h W s Rr R k => ?_⟩
  obtain ⟨⟨d1, S1⟩, e1, h⟩ := bind_some h
  obtain ⟨ds', e2, h⟩ := bind_some h
  cases h
  refine q S _ _ e1 W s _ R fun v W1 R1 f1 r1 => ?_
  simp only at e2
  unfold seqD at e2
  split at e2
  · cases e2
    obtain ⟨a, vs, rfl, h1, h2⟩ := r1.lst_inv
    exact .inl ⟨a, rfl, ⟨vs, .of (R1.sub _ _ h1)⟩, k _ W1 R1 f1 (yl_list (fun W2 hF hs => .of (hs _ _ (hF _ _ h1))) h2)⟩
  · cases e2
    obtain ⟨a, vs, rfl, h1, h2⟩ := r1.tup_inv
    exact .inr ⟨a, rfl, ⟨vs, sqT_mono R1.sub h1⟩, k _ W1 R1 f1 (yl_tup (fun W2 hF hs => sqT_mono hs (sqT_mono hF h1)) h2)⟩
  · cases e2
    obtain ⟨a, vs, rfl, h1, h2⟩ := r1.sc_inv
    exact .inl ⟨a, rfl, ⟨vs, sqL_mono R1.sub h1⟩, k _ W1 R1 f1 (yl_list (fun W2 hF hs => sqL_mono hs (sqL_mono hF h1)) h2)⟩
  · cases e2
theorem mi_rg1 {p pos : Pos} (hg : Gl X "range") (hm : X.mg "range" = none) (ha : ME X a fa) (hs : starEach [a] X.env = [(false, eval a X.env)] := by rfl) : MI X tg (.Call (.Name "range" p) [a] [] pos) (iRg1 fa) := by
  obtain ⟨t, p, q⟩ := ha
  refine ⟨_, pi_range1 hg hm (pa_cons p pa_nil hs) hs, fun S ds S' h W s Rr R k => ?_⟩
  obtain ⟨⟨d1, S1⟩, e1, h⟩ := bind_some h
  simp only at h
  split at h
  · split at h
    · rename_i n c
      cases h
      refine q S _ _ e1 W s _ R fun v W1 R1 f1 r1 => ?_
      cases r1.int_inv
      unfold iRg1.B61 at c
      refine ⟨n, rfl, by omega, by omega, ?_⟩
      have := k (Itr 0 n.toNat) W1 R1 f1 yl_rng
      simpa using this
    · cases h
  · cases h
theorem mi_rg2 {p pos : Pos} (hg : Gl X "range") (hm : X.mg "range" = none) (ha : ME X a fa) (hb : ME X b fb) (hs : starEach [a, b] X.env = [(false, eval a X.env), (false, eval b X.env)] := by rfl) (hs2 : starEach [b] X.env = [(false, eval b X.env)] := by rfl)
    (hs3 : starEach [a, b] X.env = (false, eval a X.env) :: starEach [b] X.env := by rfl) (hs4 : starEach [b] X.env = (false, eval b X.env) :: starEach [] X.env := by rfl) :
    MI X tg (.Call (.Name "range" p) [a, b] [] pos) (iRg2 fa fb) := by
  obtain ⟨t, p, q⟩ := ha
  obtain ⟨t', p', q'⟩ := hb
  refine ⟨_, pi_range2 hg hm (pa_cons p (pa_cons p' pa_nil hs4) hs3) hs hs2, fun S ds S' h W s Rr R k => ?_⟩
  obtain ⟨⟨d1, S1⟩, e1, h⟩ := bind_some h
  obtain ⟨⟨d2, S2⟩, e2, h⟩ := bind_some h
  simp only at h
  split at h
  · split at h
    · rename_i c
      cases h
      refine q S _ _ e1 W s _ R fun v W1 R1 f1 r1 => ?_
      refine q' S1 _ _ e2 W1 s _ R1 fun v2 W2 R2 f2 r2 => ?_
      cases r1.int_inv
      cases r2.int_inv
      unfold iRg1.B61 at c
      exact ⟨_, _, rfl, ⟨by omega, by omega, by omega, by omega⟩, k _ W2 R2 (f1.trans f2) yl_rng⟩
    · cases h
  · cases h
end

/-! ### for, while -/
def forM (g : GF) (b : SF) : List D → Ms → Option (Fl × Ms)
  | [], S => some (.nx, S)
  | d :: ds, S => (g d S).bind fun S1 => (b S1).bind fun p => match p.1 with
    | .nx => forM g b ds p.2
    | .ct => forM g b ds p.2
    | .bk => some (.nx, p.2)
    | .rt v => some (.rt v, p.2)
def sFor (f : AF) (g : GF) (b : SF) : SF := fun S => (f S).bind fun p => forM g b p.1 p.2
def whileM (c : BF) (b : SF) : Nat → Ms → Option (Fl × Ms)
  | 0, _ => none
  | n + 1, S => (c S).bind fun p => if p.1 then (b p.2).bind fun q => match q.1 with
      | .nx => whileM c b n q.2
      | .ct => whileM c b n q.2
      | .bk => some (.nx, q.2)
      | .rt v => some (.rt v, q.2)
    else some (.nx, p.2)
def WMAX : Nat := 1000000
def sWhile (c : BF) (b : SF) : SF := whileM c b WMAX
section
variable {X : Cx} {tg it c : Expr} {body : List Stmt} {fi : AF} {g : GF} {fb : SF} {fc : BF} {pos : Pos}
theorem ms_for (hc : X.calm = true) (hi : MI X tg it fi) (hg : MG X tg g) (hb : MSs X body fb) (hp : PassesOwn (model X.prog X.w) X.A X.env X.xe := by exact PassesOwn.never)
    (hs : ∀ x, foldedSetIterable it X.env x = pure x := by intro _; rfl) : MS X (.For tg it body [] pos) (sFor fi g fb) := by
  obtain ⟨wi, pi, qi⟩ := hi
  obtain ⟨tgt, pg, qg⟩ := hg
  obtain ⟨tb, pb, qb⟩ := hb
  refine ⟨_, ps_for hp hc pi pg pb hs, fun S fl S' h W s D R k => ?_⟩
  obtain ⟨⟨ds, S1⟩, e1, h⟩ := bind_some h
  refine qi S ds S1 e1 W s _ R fun J W1 R1 f1 Y => ?_
  refine ⟨fun i m s2 H2 => m = ds.length - i ∧ i ≤ ds.length ∧ ∃ W2 S2, W2.H = H2 ∧ Rel X.K W2 S2 s2 ∧ Fr W1 S1.r s W2 S2.r s2 ∧ forM g fb (ds.drop i) S2 = some (fl, S'), ⟨ds.length, rfl, Nat.zero_le _, W1, S1, rfl, R1, .refl, h⟩, ?_⟩
  rintro i m s2 H2 ⟨rfl, hi, W2, S2, rfl, R2, f2, e2⟩
  by_cases hlt : i < ds.length
  · have ed : ds[i]? = some ds[i] := List.getElem?_eq_getElem hlt
    obtain ⟨go, yl⟩ := Y.go W2 S2 s2 R2 f2.fx f2.ix i _ ed
    rw [List.drop_eq_getElem_cons hlt] at e2
    obtain ⟨S3, e3, e2⟩ := bind_some e2
    obtain ⟨⟨fl1, S4⟩, e4, e2⟩ := bind_some e2
    refine .inr ⟨go, fun s3 H3 => i + 1 ≤ ds.length ∧ ∃ W3 S3, W3.H = H3 ∧ Rel X.K W3 S3 s3 ∧ Fr W1 S1.r s W3 S3.r s3 ∧ forM g fb (ds.drop (i + 1)) S3 = some (fl, S'), ?_, fun x H' y => ?_⟩
    · rintro s3 H3 ⟨hl, W3, S3, rfl, R3, f3, e5⟩
      exact ⟨_, by omega, rfl, hl, W3, S3, rfl, R3, f3, e5⟩
    · obtain ⟨W3, rfl, R3, f3, r3⟩ := yl x H' y
      refine qg _ S2 S3 e3 W3 s2 x _ R3 r3 fun W4 s4 R4 f4 => ?_
      refine qb S3 fl1 S4 e4 W4 s4 _ R4 fun W5 s5 R5 f5 => ?_
      have ff := ((f2.trans f3).trans f4).trans f5
      cases fl1 with
      | nx => exact ⟨hlt, W5, S4, rfl, R5, ff, e2⟩
      | ct => exact ⟨hlt, W5, S4, rfl, R5, ff, e2⟩
      | bk => cases e2; exact k W5 s5 R5 (f1.trans ff)
      | rt d => cases e2; exact k W5 s5 R5 (f1.trans ff)
  · have ei : i = ds.length := by omega
    subst ei
    rw [List.drop_length] at e2
    cases e2
    exact .inl ⟨Y.stop W2 _ s2 R2 f2.fx f2.ix, k W2 s2 R2 (f1.trans f2)⟩
theorem ms_while (hc : MT X c fc) (hb : MSs X body fb) (hp : PassesOwn (model X.prog X.w) X.A X.env X.xe := by exact PassesOwn.never) : MS X (.While c body [] pos) (sWhile fc fb) := by
  obtain ⟨tc, pc, qc⟩ := hc
  obtain ⟨tb, pb, qb⟩ := hb
  refine ⟨_, ps_while hp pc pb, fun S fl S' h W s D R k => ?_⟩
  refine ⟨fun m s2 H2 => ∃ W2 S2, W2.H = H2 ∧ Rel X.K W2 S2 s2 ∧ Fr W S.r s W2 S2.r s2 ∧ whileM fc fb m S2 = some (fl, S'), ⟨WMAX, W, S, rfl, R, .refl, h⟩, ?_⟩
  rintro m s2 H2 ⟨W2, S2, rfl, R2, f2, e2⟩
  cases m with
  | zero => cases e2
  | succ n =>
    obtain ⟨⟨b, S3⟩, e3, e2⟩ := bind_some e2
    refine qc S2 _ _ e3 W2 s2 _ R2 fun W3 R3 f3 => ?_
    cases b with
    | true =>
      obtain ⟨⟨fl1, S4⟩, e4, e2⟩ := bind_some e2
      refine ⟨fun s4 H4 => ∃ W2 S2, W2.H = H4 ∧ Rel X.K W2 S2 s4 ∧ Fr W S.r s W2 S2.r s4 ∧ whileM fc fb n S2 = some (fl, S'), fun s4 H4 z => ⟨n, Nat.lt_succ_self n, z⟩, ?_⟩
      refine qb S3 fl1 S4 e4 W3 s2 _ R3 fun W5 s5 R5 f5 => ?_
      have ff := (f2.trans f3).trans f5
      cases fl1 with
      | nx => exact ⟨W5, S4, rfl, R5, ff, e2⟩
      | ct => exact ⟨W5, S4, rfl, R5, ff, e2⟩
      | bk => cases e2; exact k W5 s5 R5 ff
      | rt d => cases e2; exact k W5 s5 R5 ff
    | false => cases e2; exact k W3 s2 R3 (f2.trans f3)
end

/-! ### defs -/
abbrev FF := List D → List Cell → Option (D × List Cell)
def fnM (N : Nat) (b : SF) : FF := fun ds m => (b ⟨ds.map Slot.val ++ List.replicate (N - ds.length) .emp, m⟩).bind fun p => match p.1 with
  | .rt d => some (d, p.2.m)
  | .nx => some (.non, p.2.m)
  | _ => none
def spM (K : PySem.W.Frag) (n : Nat) (f : FF) : Sp := fun vs H Q _ => vs.length = n ∧ ∃ W ds m d m', W.H = H ∧ Rel K W ⟨[], m⟩ [] ∧ RVs K W.F W.io vs ds ∧ f ds m = some (d, m') ∧
  ∀ v W', Rel K W' ⟨[], m'⟩ [] → Fr W [] [] W' [] [] → RV K W'.F W'.io v d → Q v W'.H
def eFn (n : Nat) (f : FF) (a : AF) : EF := fun S => (a S).bind fun p => if p.1.length = n then (f p.1 p.2.m).bind fun q => some (q.1, { p.2 with m := q.2 }) else none
section
variable {K : PySem.W.Frag} {W W' : Wd} {S : Ms} {s : L2.St} {m : List Cell}
theorem Rel.bare (R : Rel K W S s) : Rel K W ⟨[], S.m⟩ [] := ⟨R.sub, R.nd, R.nf, R.len, R.cells, rfl, fun i d h => by simp at h, fun i c h => by simp at h, fun i j c c' a h => by simp at h⟩
theorem not_own {b : Addr} : ¬ Own [] [] b := fun ⟨i, c, h, _⟩ => by simp at h
/-- behind a call: the caller's slots are as they were -/
theorem Rel.back (R : Rel K W S s) (R' : Rel K W' ⟨[], m⟩ []) (f : Fr W [] [] W' [] []) : Rel K W' { S with m := m } s ∧ Fr W S.r s W' S.r s := by
  have mi : ∀ {b}, Mine W [] [] b ↔ (∃ o, W.F b = some o) ∨ b ∈ W.io := fun {b} => ⟨fun h => by
    rcases h with h | h | h
    · exact .inl h
    · exact .inr h
    · exact absurd h not_own, fun h => by
    rcases h with h | h
    · exact .inl h
    · exact .inr (.inl h)⟩
  have keep : ∀ (i : Nat) (c : Cell) (a : Addr), S.r[i]? = some (Slot.own c) → s[i]? = some (some (V.ref a)) → W.F a = none → a ∉ W.io → CR K W a c → W'.F a = none ∧ a ∉ W'.io ∧ CR K W' a c := fun i c a h1 h2 n1 n2 q => by
    obtain ⟨o, ho⟩ := q.there
    obtain ⟨g1, g2⟩ := f.ot a o ho (fun z => by
      rcases mi.mp z with ⟨u, z⟩ | z
      · rw [n1] at z; cases z
      · exact n2 z)
    refine ⟨?_, fun z => g2 (.inr (.inl z)), q.mono f.fx f.ix fun o' h' => ?_⟩
    · cases e : W'.F a with
      | none => rfl
      | some u => exact absurd (.inl ⟨u, e⟩) g2
    · rw [ho] at h'; cases h'; exact g1
  refine ⟨⟨R'.sub, R'.nd, R'.nf, R'.len, R'.cells, R.sl, fun i d h => ?_, fun i c h => ?_, R.odis⟩, ⟨f.fx, f.ix, fun b o h n => ?_, f.hp⟩⟩
  · obtain ⟨v, e, q⟩ := R.slots i d h
    exact ⟨v, e, q.up f⟩
  · obtain ⟨a, e, n1, n2, q⟩ := R.owns i c h
    obtain ⟨g1, g2, g3⟩ := keep i c a h e n1 n2 q
    exact ⟨a, e, g1, g2, g3⟩
  · obtain ⟨g1, g2⟩ := f.ot b o h fun z => n (by
      rcases mi.mp z with z | z
      · exact .inl z
      · exact .inr (.inl z))
    refine ⟨g1, fun z => ?_⟩
    rcases z with z | z | z
    · exact g2 (.inl z)
    · exact g2 (.inr (.inl z))
    · exact n (.inr (.inr z))
theorem start_rel {n : Nat} {vs : List V} {ds : List D} {N : List Str} (R : Rel K W ⟨[], m⟩ []) (r : RVs K W.F W.io vs ds) : Rel K W ⟨ds.map Slot.val ++ List.replicate (N.length - ds.length) .emp, m⟩ (L2.start N vs) := by
  have own : ∀ i c, (ds.map Slot.val ++ List.replicate (N.length - ds.length) Slot.emp)[i]? = some (Slot.own c) → False := fun i c h => by
    have := List.mem_of_getElem? h
    simp at this
  refine ⟨R.sub, R.nd, R.nf, R.len, R.cells, ?_, fun i d h => ?_, fun i c h => absurd h (own i c), fun i j c c' a h => absurd h (own i c)⟩
  · unfold L2.start
    simp [r.length]
  · by_cases hi : i < ds.length
    · rw [List.getElem?_append_left (by simpa using hi), List.getElem?_map] at h
      cases e : ds[i]? with
      | none => rw [e] at h; cases h
      | some d' =>
        rw [e] at h; cases h
        obtain ⟨v, ev, rv⟩ := r.get e
        refine ⟨v, ?_, rv⟩
        unfold L2.start
        rw [List.getElem?_append_left (by rw [List.length_map, r.length]; exact hi), List.getElem?_map, ev]
        rfl
    · rw [List.getElem?_append_right (by simpa using Nat.le_of_not_lt hi)] at h
      have := List.mem_of_getElem? h
      simp at this
theorem end_rel (R : Rel K W S s) : Rel K W ⟨[], S.m⟩ [] := R.bare
theorem end_fr {W0 : Wd} {S0 : Ms} {s0 : L2.St} (h0 : ∀ b, ¬ Own S0.r s0 b) (f : Fr W0 S0.r s0 W S.r s) : Fr W0 [] [] W [] [] := by
  refine ⟨f.fx, f.ix, fun b o h n => ?_, f.hp⟩
  obtain ⟨g1, g2⟩ := f.ot b o h fun z => n (by
    rcases z with z | z | z
    · exact .inl z
    · exact .inr (.inl z)
    · exact absurd z (h0 b))
  refine ⟨g1, fun z => g2 ?_⟩
  rcases z with z | z | z
  · exact .inl z
  · exact .inr (.inl z)
  · exact absurd z not_own
end
section
variable {P : Program} {w : World} {K : PySem.W.Frag} {mg : Str → Option Value} {base : Heap}
/-- THE RULE: a def of the text answers as its machine function -/
theorem fn_ok {x qual : Str} {st : Stmt} {f : Addr} {fd : FuncData} {N ps : List Str} {k : Nat} {b : SF} (F : Fun K x qual st f fd) (S : FnScope N ps (defScope st))
    (hb : ∀ (cdv : Value) (A : Around) (outer : List Env) (s : Shared) (H : Hp) (E : XK), Room k (A.deeper (PyProof.Rows.envOfC qual (defScope st) s.heap.objs.size f cdv)) →
      MSs (cxOf CX0 P w K mg base N qual (defScope st) f cdv A outer s H E).nox (defBody st) b) : FnOk P w K mg base CX0 (k + 1) f fd ps (spM K ps.length (fnM N.length b)) := by
  refine F.ok S (fun vs H Q E h => h.1) (fun cdv A outer s H vs Q E hr h => ?_)
  obtain ⟨hl, W, ds, m, d, m', rfl, R, r, e, kk⟩ := h
  obtain ⟨t, p, q⟩ := hb cdv A outer s W.H E hr
  refine ⟨t, p, ?_⟩
  unfold fnM at e
  obtain ⟨⟨fl, S'⟩, e1, e⟩ := bind_some e
  have own : ∀ b, ¬ Own (ds.map Slot.val ++ List.replicate (N.length - ds.length) Slot.emp) (L2.start N vs) b := fun b ⟨i, c, h, _⟩ => by
    have := List.mem_of_getElem? h
    simp at this
  refine q _ fl S' e1 W (L2.start N vs) _ (start_rel (n := 0) R r) fun W' s' R' f' => ?_
  have f0 := end_fr (S0 := ⟨ds.map Slot.val ++ List.replicate (N.length - ds.length) Slot.emp, m⟩) own f'
  cases fl with
  | nx => cases e; exact kk .non W' R'.bare f0 .non
  | rt d => cases e; exact fun v rv => kk v W' R'.bare f0 rv
  | bk => cases e
  | ct => cases e
end
section
variable {X : Cx} {CX : CXT} {k n : Nat} {f : Addr} {fd : FuncData} {ps : List Str} {ff : FF} {E : XK} {x : Str} {p pos : Pos} {e : Expr} {es : List Expr} {fa : AF}
theorem te_fn {K : PySem.W.Frag} {t : TA} (q : TAok K t fa) : TEok K (tCall (spM K n ff) [] E t) (eFn n ff fa) := by
  intro S d S' h W s Q R kk
  obtain ⟨⟨ds, S1⟩, e1, h⟩ := bind_some h
  simp only at h
  split at h
  · rename_i hn
    obtain ⟨⟨d1, m1⟩, e2, h⟩ := bind_some h
    cases h
    refine q S _ _ e1 W s _ R fun vs W1 R1 f1 r1 => ?_
    refine ⟨by rw [List.append_nil, r1.length]; exact hn, W1, ds, S1.m, _, m1, rfl, R1.bare, by rw [List.append_nil]; exact r1, e2, fun v W2 R2 f2 r2 => ?_⟩
    obtain ⟨R3, f3⟩ := R1.back R2 f2
    exact kk v W2 R3 (f1.trans f3) r2
  · cases h
theorem me_fn (G : FnOk X.prog X.w X.K X.mg X.base CX0 k f fd ps (spM X.K n ff)) (hr : Room k X.A) (hm : X.mg x = some (.ref f)) (hk : PySem.W.keepIn X.K (.ref f) = true) (hb : Binds X.K fd ps []) (ha : MA X (e :: es) fa)
    (hg : Gl X x := by rfl) (hdb : (x == ("__debug__" : Str)) = false := by decide) (he : starEach (e :: es) X.env = (false, eval e X.env) :: starEach es X.env := by rfl) (hpl : (backTo pos (starEach es X.env)).any (·.1) = false := by rfl) :
    ME X (.Call (.Name x p) (e :: es) [] pos) (eFn n ff fa) := by
  obtain ⟨t, p, q⟩ := ha
  exact ⟨_, pe_call G hr hg hm hk hb .nil pass0 p hdb he hpl, te_fn q⟩
theorem me_fn0 (G : FnOk X.prog X.w X.K X.mg X.base CX0 k f fd ps (spM X.K n ff)) (hr : Room k X.A) (hm : X.mg x = some (.ref f)) (hk : PySem.W.keepIn X.K (.ref f) = true) (hb : Binds X.K fd ps [])
    (hg : Gl X x := by rfl) (hdb : (x == ("__debug__" : Str)) = false := by decide) : ME X (.Call (.Name x p) [] [] pos) (eFn n ff aNil) :=
  ⟨_, pe_call0 G hr hg hm hk hb .nil pass0 hdb, te_fn (fun S d S' h W s Q R k => by cases h; exact k _ W R .refl .nil)⟩
/-- the same answers by another function -/
theorem spM_imp {K : PySem.W.Frag} {f g : FF} (h : ∀ ds m d m', g ds m = some (d, m') → f ds m = some (d, m')) : ∀ vs H Q E, spM K n g vs H Q E → spM K n f vs H Q E := fun vs H Q E ⟨hl, W, ds, m, d, m', e, R, r, q, k⟩ => ⟨hl, W, ds, m, d, m', e, R, r, h _ _ _ _ q, k⟩
end
end M

/-! M4: list comprehensions. -/
namespace M
open PySem PySem.Spec L2

def wipeR (r : List Slot) : List Nat → List Slot
  | [] => r
  | v :: vs => (wipeR r vs).set v .emp
/-- the block's own slots as they were -/
def restR (r0 r : List Slot) : List Nat → List Slot
  | [] => r
  | v :: vs => match r0[v]? with
    | some x => (restR r0 r vs).set v x
    | none => restR r0 r vs
def MTs (X : Cx) (cs : List Expr) (f : BF) : Prop := ∃ t, PTs X cs t ∧ TTok X.K t f
def bYes : BF := fun S => some (true, S)
def lcM (g : GF) (t : BF) (f : EF) (vs : List Nat) : List D → List D → Ms → Option (List D × Ms)
  | [], acc, S => some (acc, S)
  | d :: ds, acc, S => (g d { S with r := wipeR S.r vs }).bind fun S1 => (t S1).bind fun p => if p.1 then (f p.2).bind fun q => if acc.length < LIM then lcM g t f vs ds (acc ++ [q.1]) { q.2 with r := restR S.r q.2.r vs } else none
    else lcM g t f vs ds acc { p.2 with r := restR S.r p.2.r vs }
def cLc (fi : AF) (g : GF) (t : BF) (f : EF) (vs : List Nat) : CF := fun S => (fi S).bind fun p => (lcM g t f vs p.1 [] p.2).bind fun q => some (.lst q.1, q.2)

section
variable {K : PySem.W.Frag} {W W' : Wd} {S S' : Ms} {s s' : L2.St}
theorem wipeR_len (r : List Slot) : ∀ vs, (wipeR r vs).length = r.length
  | [] => rfl
  | v :: vs => by unfold wipeR; rw [List.length_set, wipeR_len r vs]
theorem restR_len (r0 r : List Slot) : ∀ vs, (restR r0 r vs).length = r.length
  | [] => rfl
  | v :: vs => by
    unfold restR
    split
    · rw [List.length_set, restR_len r0 r vs]
    · exact restR_len r0 r vs
theorem wipeR_get {r : List Slot} {i : Nat} {x : Slot} : ∀ {vs : List Nat}, (wipeR r vs)[i]? = some x → x = .emp ∨ (i ∉ vs ∧ r[i]? = some x)
  | [], h => .inr ⟨by simp, h⟩
  | v :: vs, h => by
    unfold wipeR at h
    by_cases e : v = i
    · subst e
      by_cases hv : v < (wipeR r vs).length
      · rw [List.getElem?_set_self hv] at h; cases h; exact .inl rfl
      · rw [List.getElem?_eq_none (by simpa using hv)] at h; cases h
    · rw [List.getElem?_set_ne e] at h
      rcases wipeR_get h with h | ⟨h1, h2⟩
      · exact .inl h
      · exact .inr ⟨by simp [Ne.symm e, h1], h2⟩
theorem restR_get {r0 r : List Slot} {i : Nat} (hl : r.length = r0.length) : ∀ {vs : List Nat}, (restR r0 r vs)[i]? = if i ∈ vs then r0[i]? else r[i]?
  | [] => by simp [restR]
  | v :: vs => by
    unfold restR
    have ih := restR_get (r0 := r0) (r := r) (i := i) hl (vs := vs)
    by_cases e : v = i
    · subst e
      rw [if_pos (by simp)]
      split
      · rename_i x hx
        rw [hx, List.getElem?_set_self (by rw [restR_len, hl]; exact (List.getElem?_eq_some_iff.mp hx).1)]
      · rename_i hx
        rw [ih, hx]
        split
        · rfl
        · rw [List.getElem?_eq_none_iff] at hx ⊢; omega
    · have e2 : (i ∈ v :: vs) ↔ i ∈ vs := by simp [Ne.symm e]
      split
      · rw [List.getElem?_set_ne e, ih]; simp [e2]
      · rw [ih]; simp [e2]
theorem wipe_get {i : Nat} : ∀ {vs : List Nat}, i ∉ vs → (wipe s vs)[i]? = s[i]?
  | [], _ => rfl
  | v :: vs, h => by
    unfold wipe
    have h1 : v ≠ i := fun e => h (by simp [e])
    rw [List.getElem?_set_ne h1]
    exact wipe_get fun z => h (by simp [z])
theorem Rel.wipe (R : Rel K W S s) (vs : List Nat) : Rel K W { S with r := wipeR S.r vs } (L2.wipe s vs) ∧ Fr W S.r s W (wipeR S.r vs) (L2.wipe s vs) := by
  have own : ∀ (i : Nat) (c : Cell), (wipeR S.r vs)[i]? = some (Slot.own c) → i ∉ vs ∧ S.r[i]? = some (Slot.own c) := fun i c h => by
    rcases wipeR_get h with h | h
    · cases h
    · exact h
  refine ⟨⟨R.sub, R.nd, R.nf, R.len, R.cells, by rw [wipe_length, wipeR_len, R.sl], fun i d h => ?_, fun i c h => ?_, fun i j c c' a h1 h2 h3 h4 => ?_⟩, ⟨fun _ _ h => h, List.prefix_refl _, fun b o h n => ⟨h, fun m => n ?_⟩, fun _ h => h⟩⟩
  · rcases wipeR_get h with h | ⟨h1, h2⟩
    · cases h
    · obtain ⟨v, e, q⟩ := R.slots i d h2
      exact ⟨v, by rw [wipe_get h1]; exact e, q⟩
  · obtain ⟨h1, h2⟩ := own i c h
    obtain ⟨a, e, q⟩ := R.owns i c h2
    exact ⟨a, by rw [wipe_get h1]; exact e, q⟩
  · obtain ⟨i1, i2⟩ := own i c h1
    obtain ⟨j1, j2⟩ := own j c' h2
    rw [wipe_get i1] at h3
    rw [wipe_get j1] at h4
    exact R.odis i j c c' a i2 j2 h3 h4
  · rcases m with m | m | ⟨i, c, m1, m2⟩
    · exact .inl m
    · exact .inr (.inl m)
    · obtain ⟨i1, i2⟩ := own i c m1
      rw [wipe_get i1] at m2
      exact .inr (.inr ⟨i, c, i2, m2⟩)
theorem wipe_at {i : Nat} {vs : List Nat} (e : L2.wipe s' vs = L2.wipe s vs) (h : i ∉ vs) : s'[i]? = s[i]? := by
  rw [← wipe_get (s := s') h, ← wipe_get (s := s) h, e]
theorem Rel.rest {vs : List Nat} (R : Rel K W S s) (R' : Rel K W' S' s') (f : Fr W (wipeR S.r vs) (L2.wipe s vs) W' S'.r s') (e : L2.wipe s' vs = L2.wipe s vs) :
    Rel K W' { S' with r := restR S.r S'.r vs } s ∧ Fr W S.r s W' (restR S.r S'.r vs) s := by
  have hlen : S'.r.length = S.r.length := by
    have := congrArg List.length e
    rw [wipe_length, wipe_length] at this
    rw [← R'.sl, ← R.sl, this]
  have get : ∀ (i : Nat), (restR S.r S'.r vs)[i]? = if i ∈ vs then S.r[i]? else S'.r[i]? := fun i => restR_get hlen
  have keep : ∀ (i : Nat) (c : Cell) (a : Addr), i ∈ vs → S.r[i]? = some (Slot.own c) → s[i]? = some (some (V.ref a)) → W'.F a = none ∧ a ∉ W'.io ∧ ¬ Own S'.r s' a ∧ CR K W' a c := fun i c a hi h1 h2 => by
    obtain ⟨a', e1, n1, n2, q⟩ := R.owns i c h1
    rw [h2] at e1; cases e1
    obtain ⟨o, ho⟩ := q.there
    obtain ⟨g1, g2⟩ := f.ot a o ho (fun z => by
      rcases z with ⟨u, z⟩ | z | ⟨j, c', z1, z2⟩
      · rw [n1] at z; cases z
      · exact n2 z
      · rcases wipeR_get z1 with z | ⟨z3, z4⟩
        · cases z
        · rw [wipe_get z3] at z2
          have := R.odis i j c c' a h1 z4 h2 z2
          subst this
          exact z3 hi)
    refine ⟨?_, fun z => g2 (.inr (.inl z)), fun z => g2 (.inr (.inr z)), q.mono f.fx f.ix fun o' h' => ?_⟩
    · cases e : W'.F a with
      | none => rfl
      | some u => exact absurd (.inl ⟨u, e⟩) g2
    · rw [ho] at h'; cases h'; exact g1
  refine ⟨⟨R'.sub, R'.nd, R'.nf, R'.len, R'.cells, by show s.length = (restR S.r S'.r vs).length; rw [restR_len, hlen, R.sl], fun i d h => ?_, fun i c h => ?_, fun i j c c' a h1 h2 h3 h4 => ?_⟩, ⟨f.fx, f.ix, fun b o h n => ?_, f.hp⟩⟩
  · have h : (restR S.r S'.r vs)[i]? = some (Slot.val d) := h
    rw [get] at h
    split at h
    · obtain ⟨v, e1, q⟩ := R.slots i d h
      exact ⟨v, e1, q.mono f.fx f.ix⟩
    · rename_i hi
      obtain ⟨v, e1, q⟩ := R'.slots i d h
      exact ⟨v, by rw [← wipe_at e hi]; exact e1, q⟩
  · have h : (restR S.r S'.r vs)[i]? = some (Slot.own c) := h
    rw [get] at h
    split at h
    · rename_i hi
      obtain ⟨a, e1, _⟩ := R.owns i c h
      obtain ⟨g1, g2, _, g3⟩ := keep i c a hi h e1
      exact ⟨a, e1, g1, g2, g3⟩
    · rename_i hi
      obtain ⟨a, e1, q⟩ := R'.owns i c h
      exact ⟨a, by rw [← wipe_at e hi]; exact e1, q⟩
  · have h1 : (restR S.r S'.r vs)[i]? = some (Slot.own c) := h1
    have h2 : (restR S.r S'.r vs)[j]? = some (Slot.own c') := h2
    rw [get] at h1 h2
    split at h1
    · rename_i hi
      split at h2
      · exact R.odis i j c c' a h1 h2 h3 h4
      · rename_i hj
        obtain ⟨_, _, g, _⟩ := keep i c a hi h1 h3
        exact absurd ⟨j, c', h2, by rw [wipe_at e hj]; exact h4⟩ g
    · rename_i hi
      split at h2
      · rename_i hj
        obtain ⟨_, _, g, _⟩ := keep j c' a hj h2 h4
        exact absurd ⟨i, c, h1, by rw [wipe_at e hi]; exact h3⟩ g
      · rename_i hj
        exact R'.odis i j c c' a h1 h2 (by rw [wipe_at e hi]; exact h3) (by rw [wipe_at e hj]; exact h4)
  · obtain ⟨g1, g2⟩ := f.ot b o h fun z => n (by
      rcases z with z | z | ⟨i, c, z1, z2⟩
      · exact .inl z
      · exact .inr (.inl z)
      · rcases wipeR_get z1 with z | ⟨z3, z4⟩
        · cases z
        · rw [wipe_get z3] at z2
          exact .inr (.inr ⟨i, c, z4, z2⟩))
    refine ⟨g1, fun z => ?_⟩
    rcases z with z | z | ⟨i, c, z1, z2⟩
    · exact g2 (.inl z)
    · exact g2 (.inr (.inl z))
    · rw [get] at z1
      split at z1
      · exact n (.inr (.inr ⟨i, c, z1, z2⟩))
      · rename_i hi
        exact g2 (.inr (.inr ⟨i, c, z1, by rw [wipe_at e hi]; exact z2⟩))
/-- a new object that stands apart stays so -/
theorem New.keep {W0 W1 : Wd} {S0 S1 : Ms} {s0 s1 : L2.St} {p : Addr} {c : Cell} (n : New K W0 S0 s0 p c) (f : Fr W0 S0.r s0 W1 S1.r s1) : New K W1 S1 s1 p c := by
  obtain ⟨o, ho⟩ := n.cr.there
  obtain ⟨g1, g2⟩ := f.ot p o ho (fun z => by
    rcases z with ⟨u, z⟩ | z | z
    · rw [n.nf] at z; cases z
    · exact n.ni z
    · exact n.no z)
  refine ⟨?_, fun z => g2 (.inr (.inl z)), fun z => g2 (.inr (.inr z)), n.cr.mono f.fx f.ix fun o' h' => ?_⟩
  · cases e : W1.F p with
    | none => rfl
    | some u => exact absurd (.inl ⟨u, e⟩) g2
  · rw [ho] at h'; cases h'; exact g1
/-- it is written -/
theorem Rel.wrApart (R : Rel K W S s) {p : Addr} {c c' : Cell} {o : HO} (n : New K W S s p c) (hc : CR K (W.wr p o) p c') : Rel K (W.wr p o) S s ∧ New K (W.wr p o) S s p c' := by
  have hF : ∀ b u, W.F b = some u → (W.wr p o).F b = some u := fun _ _ h => h
  have hio : W.io <+: (W.wr p o).io := List.prefix_refl _
  have hH : ∀ b, b ≠ p → ∀ u, W.H b = some u → (W.wr p o).H b = some u := fun b nb u h => by
    show upd W.H p o b = some u
    rw [upd_ne nb]; exact h
  refine ⟨⟨fun b u h => hH b (ne_of_none h n.nf) u (R.sub b u h), R.nd, R.nf, R.len, fun k c1 b e1 e2 => (R.cells k c1 b e1 e2).mono hF hio (hH b fun z => n.ni (by rw [← z]; exact List.mem_of_getElem? e2)), R.sl, fun i d h => R.slots i d h, fun i c1 h => ?_, R.odis⟩, ⟨n.nf, n.ni, n.no, hc⟩⟩
  obtain ⟨a, e, m1, m2, q⟩ := R.owns i c1 h
  exact ⟨a, e, m1, m2, q.mono hF hio (hH a fun z => n.no ⟨i, c1, h, by rw [← z]; exact e⟩)⟩
end

/-- a target that stores into the slots vs alone -/
structure KG (vs : List Nat) (t : TG) : Prop where
  mono : ∀ v s H (Q Q' : L2.St → Hp → Prop), (∀ s H, Q s H → Q' s H) → t v s H Q → t v s H Q'
  keep : ∀ v s H (Q : L2.St → Hp → Prop), t v s H Q → t v s H fun s2 H2 => L2.wipe s2 vs = L2.wipe s vs ∧ Q s2 H2
structure KGs (vs : List Nat) (t : TGs) : Prop where
  mono : ∀ v s H (Q Q' : L2.St → Hp → Prop), (∀ s H, Q s H → Q' s H) → t v s H Q → t v s H Q'
  keep : ∀ v s H (Q : L2.St → Hp → Prop), t v s H Q → t v s H fun s2 H2 => L2.wipe s2 vs = L2.wipe s vs ∧ Q s2 H2
theorem wipe_set {i : Nat} {x : Option V} : ∀ {vs : List Nat} {s : L2.St}, i ∈ vs → L2.wipe (s.set i x) vs = L2.wipe s vs
  | [], _, h => by simp at h
  | v :: vs, s, h => by
    unfold L2.wipe
    by_cases e : i ∈ vs
    · rw [wipe_set e]
    · have ev : v = i := by
        rcases List.mem_cons.mp h with h | h
        · exact h.symm
        · exact absurd h e
      subst ev
      apply List.ext_getElem?
      intro j
      by_cases hj : v = j
      · subst hj
        by_cases hl : v < s.length
        · rw [List.getElem?_set_self (by rw [wipe_length, List.length_set]; exact hl), List.getElem?_set_self (by rw [wipe_length]; exact hl)]
        · rw [List.getElem?_eq_none (by rw [List.length_set, wipe_length, List.length_set]; omega), List.getElem?_eq_none (by rw [List.length_set, wipe_length]; omega)]
      · rw [List.getElem?_set_ne hj, List.getElem?_set_ne hj]
        have go : ∀ (ws : List Nat), (L2.wipe (s.set v x) ws)[j]? = (L2.wipe s ws)[j]? := fun ws => by
          induction ws with
          | nil => exact List.getElem?_set_ne hj
          | cons w ws ih =>
            unfold L2.wipe
            by_cases hw : w = j
            · subst hw
              by_cases hl : w < s.length
              · rw [List.getElem?_set_self (by rw [wipe_length, List.length_set]; exact hl), List.getElem?_set_self (by rw [wipe_length]; exact hl)]
              · rw [List.getElem?_eq_none (by rw [List.length_set, wipe_length, List.length_set]; omega), List.getElem?_eq_none (by rw [List.length_set, wipe_length]; omega)]
            · rw [List.getElem?_set_ne hw, List.getElem?_set_ne hw, ih]
        exact go vs
theorem wipe_wipe {vs : List Nat} {s : L2.St} : L2.wipe (L2.wipe s vs) vs = L2.wipe s vs := by
  have go : ∀ (ws : List Nat), (∀ x ∈ ws, x ∈ vs) → L2.wipe (L2.wipe s ws) vs = L2.wipe s vs := fun ws => by
    induction ws with
    | nil => intro _; rfl
    | cons w ws ih =>
      intro h
      show L2.wipe ((L2.wipe s ws).set w none) vs = _
      rw [wipe_set (h w (by simp)), ih fun x hx => h x (by simp [hx])]
  exact go vs fun _ h => h
theorem kg_name {i : Nat} {vs : List Nat} (h : i ∈ vs) : KG vs (gName i) := ⟨fun v s H Q Q' m q => m _ _ q, fun v s H Q q => ⟨wipe_set h, q⟩⟩
theorem kgs_nil {vs : List Nat} : KGs vs gNil := ⟨fun v s H Q Q' m q => ⟨q.1, m _ _ q.2⟩, fun v s H Q q => ⟨q.1, rfl, q.2⟩⟩
theorem kgs_cons {vs : List Nat} {t : TG} {u : TGs} (h1 : KG vs t) (h2 : KGs vs u) : KGs vs (gCons t u) :=
  ⟨fun v s H Q Q' m ⟨a, r, e, q⟩ => ⟨a, r, e, h1.mono _ _ _ _ _ (fun s H q => h2.mono _ _ _ _ _ m q) q⟩,
   fun v s H Q ⟨a, r, e, q⟩ => ⟨a, r, e, h1.mono _ _ _ _ _ (fun s1 H1 z => h2.mono _ _ _ _ _ (fun s2 H2 z2 => ⟨z2.1.trans z.1, z2.2⟩) (h2.keep _ _ _ _ z.2)) (h1.keep _ _ _ _ q)⟩⟩
theorem kg_tup {K : PySem.W.Frag} {n : Nat} {vs : List Nat} {u : TGs} (h : KGs vs u) : KG vs (gTup K n u) :=
  ⟨fun v s H Q Q' m ⟨a, xs, e, h1, h2, q⟩ => ⟨a, xs, e, h1, h2, h.mono _ _ _ _ _ m q⟩, fun v s H Q ⟨a, xs, e, h1, h2, q⟩ => ⟨a, xs, e, h1, h2, h.keep _ _ _ _ q⟩⟩
/-- such a target, with its function -/
def MGk (X : Cx) (vs : List Nat) (tg : Expr) (g : GF) : Prop := ∃ t, PG X tg t ∧ TGok X.K t g ∧ KG vs t

theorem tf_lc {K : PySem.W.Frag} {wi : TI} {tg : TG} {tt : TT} {te : TE} {vs : List Nat} {fi : AF} {g : GF} {ft : BF} {fe : EF} (qi : TIok K wi fi) (qg : TGok K tg g) (qt : TTok K tt ft) (qe : TEok K te fe)
    (hw : KG vs tg) : TFok K (tLc wi tg tt te vs) (cLc fi g ft fe vs) := by
  intro S c S' h W s Q R k
  obtain ⟨⟨ds, S1⟩, e1, h⟩ := bind_some h
  obtain ⟨⟨acc, S2⟩, e2, h⟩ := bind_some h
  cases h
  refine qi S ds S1 e1 W s _ R fun J W1 R1 f1 Y => ?_
  intro A hA
  obtain ⟨R1', f1', n1⟩ := R1.newLst (ds := []) hA .nil
  have hA0 : W.H A = none := f1.hp A hA
  refine ⟨fun i m H2 => m = ds.length - i ∧ i ≤ ds.length ∧ ∃ W2 S3 acc2, W2.H = H2 ∧ Rel K W2 S3 s ∧ Fr W1 S1.r s W2 S3.r s ∧ New K W2 S3 s A (.lst acc2) ∧ lcM g ft fe vs (ds.drop i) acc2 S3 = some (acc, S2), ⟨ds.length, rfl, Nat.zero_le _, _, S1, [], rfl, R1', f1', n1, e2⟩, ?_⟩
  rintro i m H2 ⟨rfl, hi, W2, S3, acc2, rfl, R2, f2, n2, e3⟩
  by_cases hlt : i < ds.length
  · have ed : ds[i]? = some ds[i] := List.getElem?_eq_getElem hlt
    obtain ⟨go, yl⟩ := Y.go W2 S3 s R2 f2.fx f2.ix i _ ed
    rw [List.drop_eq_getElem_cons hlt] at e3
    obtain ⟨S4, e4, e3⟩ := bind_some e3
    obtain ⟨⟨b, S5⟩, e5, e3⟩ := bind_some e3
    refine .inr ⟨go, fun H3 => i + 1 ≤ ds.length ∧ ∃ W3 S6 acc3, W3.H = H3 ∧ Rel K W3 S6 s ∧ Fr W1 S1.r s W3 S6.r s ∧ New K W3 S6 s A (.lst acc3) ∧ lcM g ft fe vs (ds.drop (i + 1)) acc3 S6 = some (acc, S2), ?_, fun x H' y => ?_⟩
    · rintro H3 ⟨hl, W3, S6, acc3, rfl, z⟩
      exact ⟨_, by omega, rfl, hl, W3, S6, acc3, rfl, z⟩
    · obtain ⟨W3, rfl, R3, f3, r3⟩ := yl x H' y
      have n3 := n2.keep (S1 := S3) f3
      obtain ⟨Rw, fw⟩ := R3.wipe vs
      refine hw.mono _ _ _ _ _ (fun s2 H2 z => z) (hw.mono _ _ _ (fun s2 H2 => L2.wipe s2 vs = L2.wipe (L2.wipe s vs) vs ∧ (L2.wipe s2 vs = L2.wipe s vs → tt s2 H2 fun b H3 => if b = true then te s2 H3 fun y H4 => ∃ acc, H4 A = some (.lst acc) ∧ acc.length < sizeLine ∧ (i + 1 ≤ ds.length ∧ ∃ W3 S6 acc3, W3.H = upd H4 A (.lst (acc ++ [y])) ∧ Rel K W3 S6 s ∧ Fr W1 S1.r s W3 S6.r s ∧ New K W3 S6 s A (.lst acc3) ∧ lcM g ft fe vs (ds.drop (i + 1)) acc3 S6 = some _) else (i + 1 ≤ ds.length ∧ ∃ W3 S6 acc3, W3.H = H3 ∧ Rel K W3 S6 s ∧ Fr W1 S1.r s W3 S6.r s ∧ New K W3 S6 s A (.lst acc3) ∧ lcM g ft fe vs (ds.drop (i + 1)) acc3 S6 = some _))) _ (fun s2 H2 z => ⟨z.1.trans wipe_wipe, z.2 (z.1.trans wipe_wipe)⟩) (hw.keep _ _ _ _ ?_))
      refine qg _ _ S4 e4 W3 _ x _ Rw r3 fun W4 s4 R4 f4 hs4 => ?_
      refine qt S4 b S5 e5 W4 s4 _ R4 fun W5 R5 f5 => ?_
      have f45 := f4.trans f5
      cases b with
      | false =>
        rw [if_neg Bool.false_ne_true]
        obtain ⟨R6, f6⟩ := R3.rest R5 f45 hs4
        exact ⟨hlt, W5, _, acc2, rfl, R6, (f2.trans f3).trans f6, n3.keep (S1 := { S5 with r := restR S3.r S5.r vs }) f6, e3⟩
      | true =>
        rw [if_pos rfl]
        rw [if_pos rfl] at e3
        obtain ⟨⟨d, S6⟩, e6, e3⟩ := bind_some e3
        simp only at e3
        split at e3
        · rename_i hlim
          refine qe S5 d S6 e6 W5 s4 _ R5 fun y W6 R6 f6 r6 => ?_
          obtain ⟨R7, f7⟩ := R3.rest R6 (f45.trans f6) hs4
          have n7 := n3.keep (S1 := { S6 with r := restR S3.r S6.r vs }) f7
          obtain ⟨vs7, h7, r7⟩ := n7.cr
          refine ⟨vs7, h7, by rw [r7.length]; exact Nat.lt_of_lt_of_le hlim lim_line, hlt, ?_⟩
          obtain ⟨R8, n8⟩ := R7.wrApart (c' := .lst (acc2 ++ [d])) (o := .lst (vs7 ++ [y])) n7 ⟨_, upd_same, r7.append (.cons r6 .nil)⟩
          refine ⟨_, _, acc2 ++ [d], rfl, R8, ?_, n8, e3⟩
          have ff := (f2.trans f3).trans f7
          refine ⟨ff.fx, ff.ix, fun b o h n => ?_, fun b h => ff.hp b (upd_none h)⟩
          obtain ⟨g1, g2⟩ := ff.ot b o h n
          have nb : b ≠ A := fun z => by rw [z, hA] at h; cases h
          exact ⟨by show upd _ A _ b = _; rw [upd_ne nb]; exact g1, g2⟩
        · cases e3
  · have ei : i = ds.length := by omega
    subst ei
    rw [List.drop_length] at e3
    cases e3
    exact .inl ⟨Y.stop W2 _ s R2 f2.fx f2.ix, k A W2 R2 (f1.trans f2) hA0 n2⟩

section
variable {X : Cx} {pos spos : Pos} {elt tg iter : Expr} {ifs : List Expr} {scope : Scope} {vs : List Nat} {own : List (Str × Nat)} {fi : AF} {g : GF} {ft : BF} {fe : EF} {t1 : TG} {t2 : TT} {t3 : TE}
theorem mts_nil : MTs X [] bYes := ⟨_, pts_nil, fun S d S' h W s Q R k => by cases h; exact k W R .refl⟩
theorem mts_one {c : Expr} (h : MT X c ft) : MTs X [c] ft := by
  obtain ⟨t, p, q⟩ := h
  exact ⟨_, pts_one p, q⟩
/-- what is said in the block: for every way the block may stand -/
def Blk (X : Cx) (scope : Scope) (R : Cx → Prop) : Prop := ∀ (s : Shared) (H : Hp) (C : Addr) (cl : List (Str × Addr)) (fp : List Addr), R (X.blk s H scope (compEnvC scope cl C X.env) fp)
/-! one reading for all of them -/
def tOf (K : PySem.W.Frag) (f : EF) : TE := fun s H Q => ∃ S d S' W, W.H = H ∧ Rel K W S s ∧ f S = some (d, S') ∧ ∀ v W', Rel K W' S' s → Fr W S.r s W' S'.r s → RV K W'.F W'.io v d → Q v W'.H
def ttOf (K : PySem.W.Frag) (f : BF) : TT := fun s H Q => ∃ S d S' W, W.H = H ∧ Rel K W S s ∧ f S = some (d, S') ∧ ∀ W', Rel K W' S' s → Fr W S.r s W' S'.r s → Q d W'.H
def tgOf (K : PySem.W.Frag) (vs : List Nat) (g : GF) : TG := fun v s H Q => ∃ d S S' W, W.H = H ∧ Rel K W S s ∧ RV K W.F W.io v d ∧ g d S = some S' ∧ ∀ W' s', L2.wipe s' vs = L2.wipe s vs → Rel K W' S' s' → Fr W S.r s W' S'.r s' → Q s' W'.H
theorem tOf_ok {K : PySem.W.Frag} : TEok K (tOf K fe) fe := fun S d S' h W s Q R k => ⟨S, d, S', W, rfl, R, h, k⟩
theorem ttOf_ok {K : PySem.W.Frag} : TTok K (ttOf K ft) ft := fun S d S' h W s Q R k => ⟨S, d, S', W, rfl, R, h, k⟩
theorem tgOf_ok {K : PySem.W.Frag} {vs : List Nat} : TGok K (tgOf K vs g) g := fun d S S' h W s v Q R r k => ⟨d, S, S', W, rfl, R, r, h, fun W' s' _ => k W' s'⟩
theorem tgOf_k {K : PySem.W.Frag} {vs : List Nat} : KG vs (tgOf K vs g) :=
  ⟨fun v s H Q Q' m ⟨d, S, S', W, e, R, r, h, k⟩ => ⟨d, S, S', W, e, R, r, h, fun W' s' e R' f => m _ _ (k W' s' e R' f)⟩,
   fun v s H Q ⟨d, S, S', W, e, R, r, h, k⟩ => ⟨d, S, S', W, e, R, r, h, fun W' s' e R' f => ⟨e, k W' s' e R' f⟩⟩⟩
theorem ME.pe {e : Expr} (h : ME X e fe) : PE X e (tOf X.K fe) := by
  obtain ⟨t, p, q⟩ := h
  exact ⟨fun pins s σ H Q I ⟨S, d, S', W, e, R, h, k⟩ => p.run pins s σ H Q I (by subst e; exact q S d S' h W σ Q R k)⟩
theorem MTs.pt (h : MTs X ifs ft) : PTs X ifs (ttOf X.K ft) := by
  obtain ⟨t, p, q⟩ := h
  exact ⟨fun pins s σ H Q I ⟨S, d, S', W, e, R, h, k⟩ => p.run pins s σ H Q I (by subst e; exact q S d S' h W σ Q R k)⟩
theorem MGk.pg {vs : List Nat} (h : MGk X vs tg g) : PG X tg (tgOf X.K vs g) := by
  obtain ⟨t, p, q, kg⟩ := h
  refine ⟨fun pins s σ H v u Q I r ⟨d, S, S', W, e, R, rv, h, k⟩ => p.run pins s σ H v u Q I r ?_⟩
  subst e
  refine kg.mono _ _ _ _ _ (fun s' H' z => ?_) (kg.keep _ _ _ _ (q d S S' h W σ v (fun s' H' => ∃ W', W'.H = H' ∧ Rel X.K W' S' s' ∧ Fr W S.r σ W' S'.r s') R rv fun W' s' R' f => ⟨W', rfl, R', f⟩))
  obtain ⟨e, W', rfl, R', f⟩ := z
  exact k W' s' e R' f
theorem mgk_name {x : Str} {xp : Pos} {vs : List Nat} (i : Nat) (hN : X.N.Nodup) (hm : i ∈ vs := by decide) (hi : X.N[i]? = some x := by rfl) (hx : Loc X.env.scope x := by first | exact Or.inl rfl | exact Or.inr rfl) (hf : X.fn x = true ∨ X.env.scope.names.lookup x = some .local := by first | exact .inl rfl | exact .inr rfl) :
    MGk X vs (.Name x xp) (gNm i) := ⟨_, pg_name hN hi hx hf, tg_name, kg_name hm⟩
def MGsk (X : Cx) (vs : List Nat) (tg : List Expr) (g : List D → Ms → Option Ms) : Prop := ∃ t, PGs X tg t ∧ TGsok X.K t g ∧ KGs vs t
theorem mgsk_nil {vs : List Nat} : MGsk X vs [] gsNil := by
  refine ⟨_, pgs_nil, fun d S S' h W s v Q R r k => ?_, kgs_nil⟩
  unfold gsNil at h
  split at h
  · rename_i c
    cases h
    cases r with
    | nil => exact ⟨rfl, k W s R .refl⟩
    | cons _ _ => cases c
  · cases h
theorem mgsk_cons {e : Expr} {es : List Expr} {vs : List Nat} {gs : List D → Ms → Option Ms} (h1 : MGk X vs e g) (h2 : MGsk X vs es gs) (hs : (assignEach (e :: es) X.env).map (·.2) = assign e X.env :: (assignEach es X.env).map (·.2) := by rfl) : MGsk X vs (e :: es) (gsCons g gs) := by
  obtain ⟨t, p, q, kg⟩ := h1
  obtain ⟨u, p', q', kg'⟩ := h2
  refine ⟨_, pgs_cons p p' hs, fun d S S' h W s v Q R r k => ?_, kgs_cons kg kg'⟩
  unfold gsCons at h
  cases r with
  | nil => cases h
  | @cons v vs d ds r1 r2 =>
    obtain ⟨S1, e1, h⟩ := bind_some h
    exact ⟨v, vs, rfl, q d S S1 e1 W s v _ R r1 fun W1 s1 R1 f1 => q' ds S1 S' h W1 s1 vs _ R1 (r2.up f1) fun W2 s2 R2 f2 => k W2 s2 R2 (f1.trans f2)⟩
theorem mgk_tup {es : List Expr} {k n : Nat} {vs : List Nat} {gs : List D → Ms → Option Ms} (hc : X.calm = true) (h : MGsk X vs es gs) (hn : (assignEach es X.env).length = n := by rfl) (hst : (assignEach es X.env).findIdx? (·.1) = none := by rfl) : MGk X vs (.Tuple es k pos) (gTp n gs) := by
  obtain ⟨t, p, q, kg⟩ := h
  refine ⟨_, pg_tup hc p hn hst, fun d S S' h W s v Q R r k => ?_, kg_tup kg⟩
  unfold gTp at h
  split at h
  · split at h
    · rename_i c
      obtain ⟨a, vs, rfl, h1, h2⟩ := r.tup_inv
      exact ⟨a, vs, rfl, sqT_mono R.sub h1, by rw [h2.length]; exact c, q _ S S' h W s vs Q R h2 k⟩
    · cases h
  · cases h
theorem mf_lc (hc : X.calm = true) (hN : X.N.Nodup) (hi : MI X tg iter fi) (ok : BlkOk X.N X.env.scope scope own)
    (hg : Blk X scope fun Y => MGk Y vs tg g) (ht : Blk X scope fun Y => MTs Y ifs ft) (he : Blk X scope fun Y => ME Y elt fe)
    (hvs : own.map (·.2) = vs := by rfl) (hs : ∀ x, foldedSetIterable iter X.env x = pure x := by intro _; rfl) : MF X (.ListComp elt [⟨tg, iter, ifs, 0⟩] scope pos) (cLc fi g ft fe vs) := by
  subst hvs
  obtain ⟨wi, pi, qi⟩ := hi
  exact ⟨_, pe_lc hc hN pi ok (fun s H C cl fp => (hg s H C cl fp).pg) (fun s H C cl fp => (ht s H C cl fp).pt) (fun s H C cl fp => (he s H C cl fp).pe) hs, tf_lc qi tgOf_ok ttOf_ok tOf_ok tgOf_k⟩
theorem te_new {K : PySem.W.Frag} {t : TE} {c : CF} (q : TFok K t c) : TEok K t (eNew c) := by
  intro S d S' h W s Q R k
  obtain ⟨⟨c, S1⟩, e1, h⟩ := bind_some h
  refine q S _ _ e1 W s _ R fun a W1 R1 f1 hp n => ?_
  cases c with
  | lst ds =>
    cases h
    obtain ⟨W2, e2, R2, f2, r⟩ := R1.freezeLst f1 hp n
    rw [← e2]
    exact k _ W2 R2 f2 r
  | dct ds =>
    cases h
    obtain ⟨W2, e2, R2, f2, r⟩ := R1.freezeDct f1 hp n
    rw [← e2]
    exact k _ W2 R2 f2 r
  | obj C fs => cases h
  | dT ds => cases h
theorem ts_val {K : PySem.W.Frag} {i : Nat} {t : TE} (q : TEok K t fe) : TSok K (tAsg t (gName i)) (sAsg fe (gNm i)) := by
  intro S fl S' h W s D R k
  obtain ⟨⟨d1, S1⟩, e1, h⟩ := bind_some h
  obtain ⟨S2, e2, h⟩ := bind_some h
  cases h
  exact q S _ _ e1 W s _ R fun v W1 R1 f1 r1 => tg_name (i := i) d1 S1 _ e2 W1 s v _ R1 r1 fun W2 s2 R2 f2 => k W2 s2 R2 (f1.trans f2)
variable {y : Str} {py : Pos}
theorem ps_lc (i : Nat) (hc : X.calm = true) (hN : X.N.Nodup) (hi : MI X tg iter fi) (ok : BlkOk X.N X.env.scope scope own)
    (hg : Blk X scope fun Y => MGk Y vs tg g) (ht : Blk X scope fun Y => MTs Y ifs ft) (he : Blk X scope fun Y => ME Y elt fe)
    (hsw : swapsWith (.ListComp elt [⟨tg, iter, ifs, 0⟩] scope pos) (some (.Name y py)) spos.line X.env = pure true) (hy : X.N[i]? = some y) (hyl : X.env.scope.names.lookup y = some .local)
    (hvs : own.map (·.2) = vs) (hs : ∀ x, foldedSetIterable iter X.env x = pure x) : ∃ t, PS X (.Assign [.Name y py] (.ListComp elt [⟨tg, iter, ifs, 0⟩] scope pos) spos) (tAsg t (gName i)) ∧ TFok X.K t (cLc fi g ft fe vs) := by
  subst hvs
  obtain ⟨wi, pi, qi⟩ := hi
  exact ⟨_, ps_setLc hc hN hy hyl hsw pi ok (fun s H C cl fp => (hg s H C cl fp).pg) (fun s H C cl fp => (ht s H C cl fp).pt) (fun s H C cl fp => (he s H C cl fp).pe) hs, tf_lc qi tgOf_ok ttOf_ok tOf_ok tgOf_k⟩
theorem ms_setLc (i : Nat) (hc : X.calm = true) (hN : X.N.Nodup) (hi : MI X tg iter fi) (ok : BlkOk X.N X.env.scope scope own)
    (hg : Blk X scope fun Y => MGk Y vs tg g) (ht : Blk X scope fun Y => MTs Y ifs ft) (he : Blk X scope fun Y => ME Y elt fe)
    (hsw : swapsWith (.ListComp elt [⟨tg, iter, ifs, 0⟩] scope pos) (some (.Name y py)) spos.line X.env = pure true) (hy : X.N[i]? = some y := by rfl) (hyl : X.env.scope.names.lookup y = some .local := by rfl)
    (hvs : own.map (·.2) = vs := by rfl) (hs : ∀ x, foldedSetIterable iter X.env x = pure x := by intro _; rfl) : MS X (.Assign [.Name y py] (.ListComp elt [⟨tg, iter, ifs, 0⟩] scope pos) spos) (sAsg (eNew (cLc fi g ft fe vs)) (gNm i)) := by
  obtain ⟨t, p, q⟩ := ps_lc i hc hN hi ok hg ht he hsw hy hyl hvs hs
  exact ⟨_, p, ts_val (te_new q)⟩
theorem ms_ownLc (i : Nat) (hc : X.calm = true) (hN : X.N.Nodup) (hi : MI X tg iter fi) (ok : BlkOk X.N X.env.scope scope own)
    (hg : Blk X scope fun Y => MGk Y vs tg g) (ht : Blk X scope fun Y => MTs Y ifs ft) (he : Blk X scope fun Y => ME Y elt fe)
    (hsw : swapsWith (.ListComp elt [⟨tg, iter, ifs, 0⟩] scope pos) (some (.Name y py)) spos.line X.env = pure true) (hy : X.N[i]? = some y := by rfl) (hyl : X.env.scope.names.lookup y = some .local := by rfl)
    (hvs : own.map (·.2) = vs := by rfl) (hs : ∀ x, foldedSetIterable iter X.env x = pure x := by intro _; rfl) : MS X (.Assign [.Name y py] (.ListComp elt [⟨tg, iter, ifs, 0⟩] scope pos) spos) (sOwn i (cLc fi g ft fe vs)) := by
  obtain ⟨t, p, q⟩ := ps_lc i hc hN hi ok hg ht he hsw hy hyl hvs hs
  exact ⟨_, p, ts_own q⟩
theorem ms_cellLc (i : Nat) (hc : X.calm = true) (hN : X.N.Nodup) (hi : MI X tg iter fi) (ok : BlkOk X.N X.env.scope scope own)
    (hg : Blk X scope fun Y => MGk Y vs tg g) (ht : Blk X scope fun Y => MTs Y ifs ft) (he : Blk X scope fun Y => ME Y elt fe)
    (hsw : swapsWith (.ListComp elt [⟨tg, iter, ifs, 0⟩] scope pos) (some (.Name y py)) spos.line X.env = pure true) (hy : X.N[i]? = some y := by rfl) (hyl : X.env.scope.names.lookup y = some .local := by rfl)
    (hvs : own.map (·.2) = vs := by rfl) (hs : ∀ x, foldedSetIterable iter X.env x = pure x := by intro _; rfl) : MS X (.Assign [.Name y py] (.ListComp elt [⟨tg, iter, ifs, 0⟩] scope pos) spos) (sCell i (cLc fi g ft fe vs)) := by
  obtain ⟨t, p, q⟩ := ps_lc i hc hN hi ok hg ht he hsw hy hyl hvs hs
  exact ⟨_, p, ts_cell q⟩
end
end M

/-! M5: chains of comparisons, in, slices of every kind, defs in short, the law's end. -/
namespace M
open PySem PySem.Spec L2

/-! ### a < b < c -/
def eChain (g g' : D → D → Option D) (a b c : EF) : EF := fun S => (a S).bind fun p => (b p.2).bind fun q => (g (vw q.2 p.1) (vw q.2 q.1)).bind fun z => match z with
  | .bl true => (c q.2).bind fun r => (g' (vw r.2 q.1) (vw r.2 r.1)).bind fun z => some (z, r.2)
  | .bl false => some (.bl false, q.2)
  | _ => none
section
variable {X : Cx} {pos p2 : Pos} {a b c e : Expr} {fa fb fc : EF} {g g' : D → D → Option D} {op op' : CmpOp}
theorem te_chain {K : PySem.W.Frag} {r r' : R2} {ta tb tc : TE} (h : ∀ x y d e z, g d e = some z → ∀ W S s (Q : VK), Rel K W S s → RH K W x d → RH K W y e → (∀ v W', Rel K W' S s → Fr W S.r s W' S.r s → RV K W'.F W'.io v z → Q v W'.H) → r x y W.H Q)
    (h' : ∀ x y d e z, g' d e = some z → ∀ W S s (Q : VK), Rel K W S s → RH K W x d → RH K W y e → (∀ v W', Rel K W' S s → Fr W S.r s W' S.r s → RV K W'.F W'.io v z → Q v W'.H) → r' x y W.H Q)
    (ha : TEok K ta fa) (hb : TEok K tb fb) (hc : TEok K tc fc) : TEok K (tChain r r' ta tb tc) (eChain g g' fa fb fc) := by
  intro S d S' q W s Q R k
  obtain ⟨⟨d1, S1⟩, e1, q⟩ := bind_some q
  obtain ⟨⟨d2, S2⟩, e2, q⟩ := bind_some q
  obtain ⟨z, e3, q⟩ := bind_some q
  refine ha S d1 S1 e1 W s _ R fun x W1 R1 f1 q1 => ?_
  refine hb S1 d2 S2 e2 W1 s _ R1 fun y W2 R2 f2 q2 => ?_
  refine h x y _ _ z e3 W2 S2 s _ R2 (R2.vw (q1.up f2)) (R2.vw q2) fun v W3 R3 f3 q3 => ?_
  simp only at q
  split at q
  · obtain ⟨⟨d3, S3⟩, e4, q⟩ := bind_some q
    obtain ⟨z', e5, q⟩ := bind_some q
    cases q
    refine ⟨true, q3.bl_inv, ?_⟩
    rw [if_pos rfl]
    refine hc S2 d3 S3 e4 W3 s _ R3 fun w W4 R4 f4 q4 => ?_
    exact h' y w _ _ _ e5 W4 S3 s Q R4 (R4.vw ((q2.up f3).up f4)) (R4.vw q4) fun v W5 R5 f5 q5 => k v W5 R5 ((((f1.trans f2).trans f3).trans f4).trans f5) q5
  · cases q
    refine ⟨false, q3.bl_inv, ?_⟩
    rw [if_neg Bool.false_ne_true]
    exact k _ W3 R3 ((f1.trans f2).trans f3) (.bl _)
  · cases q
theorem me_chain (ho : OpM X (compareOp op) g) (ho' : OpM X (compareOp op') g') (ha : ME X a fa) (hb : ME X b fb) (hc : ME X c fc) (hm : lastMarks [op, op'] [b, c] = false := by with_unfolding_all rfl) :
    ME X (.Compare a [op, op'] [b, c] pos) (eChain g g' fa fb fc) := by
  obtain ⟨r, h1, h2⟩ := ho
  obtain ⟨r', h1', h2'⟩ := ho'
  obtain ⟨ta, p1, q1⟩ := ha
  obtain ⟨tb, p2, q2⟩ := hb
  obtain ⟨tc, p3, q3⟩ := hc
  exact ⟨_, pe_chain h1 h1' p1 p2 p3 hm, te_chain h2 h2' q1 q2 q3⟩
theorem mt_chain (ho : OpM X (compareOp op) g) (ho' : OpM X (compareOp op') g') (ha : ME X a fa) (hb : ME X b fb) (hc : ME X c fc) (hm : lastMarks [op, op'] [b, c] = false := by with_unfolding_all rfl) :
    MT X (.Compare a [op, op'] [b, c] pos) (bOf (eChain g g' fa fb fc)) := by
  obtain ⟨r, h1, h2⟩ := ho
  obtain ⟨r', h1', h2'⟩ := ho'
  obtain ⟨ta, p1, q1⟩ := ha
  obtain ⟨tb, p2, q2⟩ := hb
  obtain ⟨tc, p3, q3⟩ := hc
  exact ⟨_, pt_chain h1 h1' p1 p2 p3 hm, tt_of (te_chain h2 h2' q1 q2 q3)⟩
end

/-! ### operands that are only seen -/
section
variable {X : Cx} {pos xp : Pos} {a b : Expr} {fa fb : EF} {g : D → D → Option D} {x : Str}
theorem me_opLv {op : Operator} (i : Nat) (ho : OpM X (binaryOp op) g) (hb : ME X b fb) (hN : X.N[i]? = some x := by rfl) (hv : Vis X.env.scope x := by first | exact Or.inl rfl | exact Or.inr (Or.inl rfl) | exact Or.inr (Or.inr rfl))
    (hd : (x == ("__debug__" : Str)) = false := by decide) (hcd : (x == ("__classdict__" : Str)) = false := by decide) : ME X (.BinOp (.Name x xp) op b pos) (eOpL g i fb) := by
  obtain ⟨r, h1, h2⟩ := ho
  obtain ⟨tb, p2, q2⟩ := hb
  exact ⟨_, pe_op h1 (pe_var hN hv hd hcd) p2, te_opL h2 q2⟩
theorem me_opRv {op : Operator} (j : Nat) (ho : OpM X (binaryOp op) g) (ha : ME X a fa) (hN : X.N[j]? = some x := by rfl) (hv : Vis X.env.scope x := by first | exact Or.inl rfl | exact Or.inr (Or.inl rfl) | exact Or.inr (Or.inr rfl))
    (hd : (x == ("__debug__" : Str)) = false := by decide) (hcd : (x == ("__classdict__" : Str)) = false := by decide) : ME X (.BinOp a op (.Name x xp) pos) (eOpR g fa j) := by
  obtain ⟨r, h1, h2⟩ := ho
  obtain ⟨ta, p1, q1⟩ := ha
  exact ⟨_, pe_op h1 p1 (pe_var hN hv hd hcd), te_opR h2 q1⟩
theorem me_cmpL {op : CmpOp} (i : Nat) (ho : OpM X (compareOp op) g) (hb : ME X b fb) (hN : X.N[i]? = some x := by rfl) (hv : Vis X.env.scope x := by first | exact Or.inl rfl | exact Or.inr (Or.inl rfl) | exact Or.inr (Or.inr rfl))
    (hm : behindInMarks op b = false := by first | exact nomark _ | rfl) (hd : (x == ("__debug__" : Str)) = false := by decide) (hcd : (x == ("__classdict__" : Str)) = false := by decide) : ME X (.Compare (.Name x xp) [op] [b] pos) (eOpL g i fb) := by
  obtain ⟨r, h1, h2⟩ := ho
  obtain ⟨tb, p2, q2⟩ := hb
  exact ⟨_, pe_cmpR h1 (pe_var hN hv hd hcd) p2 hm, te_opL h2 q2⟩
theorem mt_cmpL {op : CmpOp} (i : Nat) (ho : OpM X (compareOp op) g) (hb : ME X b fb) (hN : X.N[i]? = some x := by rfl) (hv : Vis X.env.scope x := by first | exact Or.inl rfl | exact Or.inr (Or.inl rfl) | exact Or.inr (Or.inr rfl))
    (hm : behindInMarks op b = false := by first | exact nomark _ | rfl) (hd : (x == ("__debug__" : Str)) = false := by decide) (hcd : (x == ("__classdict__" : Str)) = false := by decide) : MT X (.Compare (.Name x xp) [op] [b] pos) (bOf (eOpL g i fb)) := by
  obtain ⟨r, h1, h2⟩ := ho
  obtain ⟨tb, p2, q2⟩ := hb
  exact ⟨_, pt_cmpR h1 (pe_var hN hv hd hcd) p2 hm, tt_of (te_opL h2 q2)⟩
end

/-! ### x in xs, flat items -/
def flatD : D → Bool
  | .non | .bl _ | .int _ | .str _ => true
  | _ => false
def eqF (d e : D) : Bool := match toPy d, toPy e with
  | some p, some q => PyData.eqv p q
  | _, _ => false
def gInF (neg : Bool) (d e : D) : Option D := match e with
  | .lst ds | .tup ds => if flatD d = true ∧ ds.all flatD = true then some (.bl (if neg then !(ds.any fun y => eqF y d) else ds.any fun y => eqF y d)) else none
  | _ => none
def gInL (neg : Bool) (d e : D) : Option D := match e with
  | .lst ds => (toPy d).bind fun p => (toPys ds).bind fun ps => if SeqAt.shaped p = true ∧ SeqAt.shaped (.list ps) = true then some (.bl (if neg then !(ps.any fun z => PyData.eqv z p) else ps.any fun z => PyData.eqv z p)) else none
  | _ => none
def gInT (neg : Bool) (d e : D) : Option D := match e with
  | .tup ds => if flatD d = true ∧ ds.all flatD = true then some (.bl (if neg then !(ds.any fun y => eqF y d) else ds.any fun y => eqF y d)) else none
  | _ => none
def gIn (neg : Bool) (d e : D) : Option D := (gInL neg d e).or (gInT neg d e)
section
variable {X : Cx} {K : PySem.W.Frag} {F : Hp} {io : List Addr}
theorem eqF_ok {x y : V} {d e : D} (rx : RV K F io x d) (ry : RV K F io y e) (hd : flatD d = true) (he : flatD e = true) : flatV x = true ∧ eqV y x = eqF e d := by
  cases rx <;> cases ry <;> first
    | (cases hd; done)
    | (cases he; done)
    | (refine ⟨rfl, ?_⟩; simp [eqV, eqF, toPy, PyData.eqv]; done)
    | (refine ⟨rfl, ?_⟩; rename_i a b; cases a <;> simp [eqV, eqF, toPy, PyData.eqv]; done)
    | (refine ⟨rfl, ?_⟩; rename_i a b; cases b <;> simp [eqV, eqF, toPy, PyData.eqv]; done)
theorem flat_of {x : V} {d : D} (r : RV K F io x d) (h : flatD d = true) : flatV x = true := by
  cases r <;> first | rfl | cases h
theorem flats_of : ∀ {xs : List V} {ds : List D}, RVs K F io xs ds → ds.all flatD = true → xs.all flatV = true
  | _, _, .nil, _ => rfl
  | _, _, .cons h t, e => by
    simp only [List.all_cons, Bool.and_eq_true] at e ⊢
    exact ⟨flat_of h e.1, flats_of t e.2⟩
theorem any_of {x : V} {d : D} (r : RV K F io x d) (h : flatD d = true) : ∀ {xs : List V} {ds : List D}, RVs K F io xs ds → ds.all flatD = true → inV x xs = ds.any fun y => eqF y d
  | _, _, .nil, _ => rfl
  | _, _, @RVs.cons _ _ _ v vs e es hv t, he => by
    simp only [List.all_cons, Bool.and_eq_true] at he
    show (eqV v x || inV x vs) = (eqF e d || es.any fun y => eqF y d)
    rw [(eqF_ok r hv h he.1).2, any_of r h t he.2]
theorem oInL (hu : X.A.units + 65 < cLine) : OpM X (compareOp .In) (gInL false) := by
  refine ⟨_, op_inD hu, fun x y d e z hz W S s Q R rx ry k => ?_⟩
  unfold gInL at hz
  split at hz
  · obtain ⟨p, hp, hz⟩ := bind_some hz
    obtain ⟨ps, hps, hz⟩ := bind_some hz
    split at hz
    · rename_i c
      cases hz
      exact ⟨p, ps, rh_dp R rx hp, rh_dp R ry (by simp only [toPy, hps]; rfl), c.1, c.2, k _ W R .refl (.bl _)⟩
    · cases hz
  · cases hz
theorem oNotInL (hu : X.A.units + 65 < cLine) : OpM X (compareOp .NotIn) (gInL true) := by
  refine ⟨_, op_notInD hu, fun x y d e z hz W S s Q R rx ry k => ?_⟩
  unfold gInL at hz
  split at hz
  · obtain ⟨p, hp, hz⟩ := bind_some hz
    obtain ⟨ps, hps, hz⟩ := bind_some hz
    split at hz
    · rename_i c
      cases hz
      exact ⟨p, ps, rh_dp R rx hp, rh_dp R ry (by simp only [toPy, hps]; rfl), c.1, c.2, k _ W R .refl (.bl _)⟩
    · cases hz
  · cases hz
theorem rh_flat {W : Wd} {x : V} {d : D} (h : RH K W x d) (f : flatD d = true) : RV K W.F W.io x d := by
  cases d <;> first | exact h | cases f
theorem oInT : OpM X (compareOp .In) (gInT false) := by
  refine ⟨_, op_in_seq, fun x y d e z hz W S s Q R rx ry k => ?_⟩
  unfold gInT at hz
  split at hz
  · split at hz
    · rename_i c
      cases hz
      obtain ⟨a, vs, rfl, h1, h2⟩ := RV.tup_inv ry
      have rd := rh_flat rx c.1
      refine ⟨a, vs, rfl, .inr (sqT_mono R.sub h1), flat_of rd c.1, flats_of h2 c.2, ?_⟩
      rw [any_of rd c.1 h2 c.2]
      exact k _ W R .refl (.bl _)
    · cases hz
  · cases hz
theorem oNotInT : OpM X (compareOp .NotIn) (gInT true) := by
  refine ⟨_, op_notIn_seq, fun x y d e z hz W S s Q R rx ry k => ?_⟩
  unfold gInT at hz
  split at hz
  · split at hz
    · rename_i c
      cases hz
      obtain ⟨a, vs, rfl, h1, h2⟩ := RV.tup_inv ry
      have rd := rh_flat rx c.1
      refine ⟨a, vs, rfl, .inr (sqT_mono R.sub h1), flat_of rd c.1, flats_of h2 c.2, ?_⟩
      rw [any_of rd c.1 h2 c.2]
      exact k _ W R .refl (.bl _)
    · cases hz
  · cases hz
theorem oIn (hu : X.A.units + 65 < cLine) : OpM X (compareOp .In) (gIn false) := (oInL hu).or oInT
theorem oNotIn (hu : X.A.units + 65 < cLine) : OpM X (compareOp .NotIn) (gIn true) := (oNotInL hu).or oNotInT
end
theorem u65 {k : Nat} {A : Around} (r : Room k A) : A.units + 65 < cLine := by have := r.un; omega

/-! ### slices of every kind, the list's frozen -/
def gSl3 (d : D) (lo hi : Option Int) : Option D := match d with
  | .lst ds => some (.lst (cutD ds lo hi))
  | .sc ds => some (.lst (cutD ds lo hi))
  | .tup ds => some (.tup (cutD ds lo hi))
  | .str z => if z.length ≤ LIM then some (.str (cutS z lo hi)) else none
  | _ => none
def eSl3 (f : EF) (l h : OF) : EF := fun S => (f S).bind fun p => (l p.2).bind fun q => (h q.2).bind fun r => (gSl3 (vw r.2 p.1) q.1 r.1).bind fun z => some (z, r.2)
section
variable {X : Cx} {pos p2 : Pos} {e : Expr} {lo hi : Option Expr} {f : EF} {l h : OF}
theorem me_sl3 (he : ME X e f) (hl : MO X lo l) (hh : MO X hi h) : ME X (.Subscript e (.Slice lo hi none p2) pos) (eSl3 f l h) := by
  obtain ⟨t, p, q⟩ := he
  obtain ⟨tl, pl, ql⟩ := hl
  obtain ⟨th, ph, qh⟩ := hh
  refine ⟨_, pe_slice (sl_list.or (sl_tupA.or sl_str)) p pl ph, fun S d S' hz W s Q R k => ?_⟩
  obtain ⟨⟨d1, S1⟩, e1, hz⟩ := bind_some hz
  obtain ⟨⟨d2, S2⟩, e2, hz⟩ := bind_some hz
  obtain ⟨⟨d3, S3⟩, e3, hz⟩ := bind_some hz
  obtain ⟨z, e4, hz⟩ := bind_some hz
  cases hz
  refine q S _ _ e1 W s _ R fun v W1 R1 f1 r1 => ?_
  refine ql S1 _ _ e2 W1 s _ R1 fun W2 R2 f2 => ?_
  refine qh S2 _ _ e3 W2 s _ R2 fun W3 R3 f3 => ?_
  have r3 := R3.vw ((r1.up f2).up f3)
  have ff := (f1.trans f2).trans f3
  simp only at e4
  generalize vw S3 d1 = w at e4 r3
  unfold gSl3 at e4
  split at e4
  · cases e4
    obtain ⟨a, vs, rfl, h1, h2⟩ := r3
    refine .inl ⟨a, vs, rfl, .of h1, fun p hp => ?_⟩
    obtain ⟨R4, f4⟩ := R3.al (o := .lst (cutV vs d2 d3)) hp
    exact k _ _ R4 (ff.trans f4) (.lst upd_same ((cut_rv h2 _ _).up f4))
  · cases e4
    obtain ⟨a, vs, rfl, h1, h2⟩ := RV.sc_inv r3
    refine .inl ⟨a, vs, rfl, sqL_mono R3.sub h1, fun p hp => ?_⟩
    obtain ⟨R4, f4⟩ := R3.al (o := .lst (cutV vs d2 d3)) hp
    exact k _ _ R4 (ff.trans f4) (.lst upd_same ((cut_rv h2 _ _).up f4))
  · cases e4
    obtain ⟨a, vs, rfl, h1, h2⟩ := RV.tup_inv r3
    refine .inr (.inl ⟨a, vs, rfl, sqT_mono R3.sub h1, fun w => ?_, fun _ p hp => ?_⟩)
    · refine k _ W3 R3 ff (.tup h1 ?_)
      have e : cutV vs d2 d3 = vs := by unfold cutV; rw [w.1, w.2]; simp
      rw [← e]
      exact cut_rv h2 _ _
    · obtain ⟨R4, f4⟩ := R3.al (o := .tup (cutV vs d2 d3)) hp
      exact k _ _ R4 (ff.trans f4) (.tup (.of upd_same) ((cut_rv h2 _ _).up f4))
  · split at e4
    · rename_i c
      cases e4
      exact .inr (.inr ⟨_, RV.str_inv r3, Nat.le_trans c lim_line, k _ W3 R3 ff (.str _)⟩)
    · cases e4
  · cases e4
end

/-! ### defs in short -/
structure Fnn (P : Program) (w : World) (K : PySem.W.Frag) (mg : Str → Option Value) (base : Heap) (k : Nat) (x : Str) (ps : List Str) (ff : FF) : Prop where
  ex : ∃ (f : Addr) (fd : FuncData), FnOk P w K mg base CX0 k f fd ps (spM K ps.length ff) ∧ mg x = some (.ref f) ∧ PySem.W.keepIn K (.ref f) = true ∧ Binds K fd ps []
section
variable {X : Cx} {k n : Nat} {ps : List Str} {ff gg : FF} {x : Str} {p pos : Pos} {e : Expr} {es : List Expr} {fa : AF}
theorem me_f (G : Fnn X.prog X.w X.K X.mg X.base k x ps ff) (hr : Room k X.A) (ha : MA X (e :: es) fa)
    (hn : ps.length = n := by rfl) (hg : Gl X x := by rfl) (hdb : (x == ("__debug__" : Str)) = false := by decide) (he : starEach (e :: es) X.env = (false, eval e X.env) :: starEach es X.env := by rfl) (hpl : (backTo pos (starEach es X.env)).any (·.1) = false := by rfl) :
    ME X (.Call (.Name x p) (e :: es) [] pos) (eFn n ff fa) := by
  obtain ⟨f, fd, G, hm, hk, hb⟩ := G.ex
  rw [hn] at G
  exact me_fn G hr hm hk hb ha hg hdb he hpl
theorem me_f0 (G : Fnn X.prog X.w X.K X.mg X.base k x [] ff) (hr : Room k X.A) (hg : Gl X x := by rfl) (hdb : (x == ("__debug__" : Str)) = false := by decide) : ME X (.Call (.Name x p) [] [] pos) (eFn 0 ff aNil) := by
  obtain ⟨f, fd, G, hm, hk, hb⟩ := G.ex
  exact me_fn0 G hr hm hk hb hg hdb
theorem Fnn.imp {P : Program} {w : World} {K : PySem.W.Frag} {mg : Str → Option Value} {base : Heap} (G : Fnn P w K mg base k x ps ff) (h : ∀ ds m d m', gg ds m = some (d, m') → ff ds m = some (d, m')) : Fnn P w K mg base k x ps gg := by
  obtain ⟨f, fd, G, r⟩ := G.ex
  exact ⟨f, fd, G.imp (spM_imp h), r⟩
end
section
variable {P : Program} {w : World} {K : PySem.W.Frag} {mg : Str → Option Value} {base : Heap}
theorem fnn {x qual : Str} {st : Stmt} {f : Addr} {fd : FuncData} {N ps : List Str} {k : Nat} {b : SF} (F : Fun K x qual st f fd) (hm : mg x = some (.ref f)) (S : FnScope N ps (defScope st))
    (hbi : ∀ (kV doc pm : Value) (an : Option Addr) (cdv ct : Value) (us : List Value), us.length = ps.length → bindArgs (PySem.W.fnOf x qual (defArgs st) (defBody st) (defScope st) .none kV doc pm an cdv ct) ⟨us, []⟩ = pure (ps.zip us))
    (hb : ∀ (cdv : Value) (A : Around) (outer : List Env) (s : Shared) (H : Hp) (E : XK), Room k (A.deeper (PyProof.Rows.envOfC qual (defScope st) s.heap.objs.size f cdv)) →
      MSs (cxOf CX0 P w K mg base N qual (defScope st) f cdv A outer s H E).nox (defBody st) b) : Fnn P w K mg base (k + 1) x ps (fnM N.length b) :=
  ⟨f, fd, fn_ok F S hb, hm, F.kp, F.binds hbi⟩
/-- the law's own: what is asked of the machine is that it gives True -/
theorem law_sp {K : PySem.W.Frag} {H : Hp} {a : Addr} {ns : List Int} {ff : FF} {m' : List Cell} (hS : SqL K H a (ns.map V.int)) (h : ff [.sc (ns.map D.int)] [] = some (.bl true, m')) {E : XK} : spM K 1 ff [.ref a] H (fun v _ => v = .bl true) E :=
  ⟨rfl, ⟨H, H, []⟩, [.sc (ns.map D.int)], [], .bl true, m', rfl, ⟨fun _ _ h => h, List.nodup_nil, fun a h => by simp at h, rfl, fun k c a h => by simp at h, rfl, fun i d h => by simp at h, fun i c h => by simp at h, fun i j c c' a h => by simp at h⟩,
    .cons (.sc hS (RVs.ints ns)) .nil, h, fun v W' _ _ r => r.bl_inv⟩
end
end M

/-! M6: the machine's functions, applied to a state: rows for simp. -/
namespace M
open PySem PySem.Spec L2
section
variable {S : Ms} {f g h : EF} {a b : AF} {t u : BF} {p q : SF} {G : GF} {c : CF} {i j n : Nat} {d e : D} {o : D → D → Option D} {k : D → Option D}
@[simp] theorem sNil_ap : sNil S = some (.nx, S) := rfl
@[simp] theorem sBk_ap : sBk S = some (.bk, S) := rfl
@[simp] theorem sCt_ap : sCt S = some (.ct, S) := rfl
@[simp] theorem sRetN_ap : sRetN S = some (.rt .non, S) := rfl
@[simp] theorem sSeq_ap : sSeq p q S = (p S).bind fun x => match x.1 with | .nx => q x.2 | fl => some (fl, x.2) := rfl
@[simp] theorem sExpr_ap : sExpr f S = (f S).bind fun x => some (.nx, x.2) := rfl
@[simp] theorem sRet_ap : sRet f S = (f S).bind fun x => some (.rt x.1, x.2) := rfl
@[simp] theorem sIf_ap : sIf t p q S = (t S).bind fun x => if x.1 then p x.2 else q x.2 := rfl
@[simp] theorem sAsg_ap : sAsg f G S = (f S).bind fun x => (G x.1 x.2).bind fun S' => some (.nx, S') := rfl
@[simp] theorem sOwn_ap : sOwn i c S = (c S).bind fun x => some (.nx, ⟨x.2.r.set i (.own x.1), x.2.m⟩) := rfl
@[simp] theorem sCell_ap : sCell i c S = (c S).bind fun x => some (.nx, ⟨x.2.r.set i (.val (.ref x.2.m.length)), x.2.m ++ [x.1]⟩) := rfl
@[simp] theorem sFor_ap : sFor a G p S = (a S).bind fun x => forM G p x.1 x.2 := rfl
theorem sWhile_ap : sWhile t p S = whileM t p WMAX S := rfl
@[simp] theorem gNm_ap : gNm i d S = some ⟨S.r.set i (.val d), S.m⟩ := rfl
@[simp] theorem gTp_tup {ds : List D} {gs : List D → Ms → Option Ms} : gTp n gs (.tup ds) S = if ds.length = n then gs ds S else none := rfl
@[simp] theorem gsNil_ap : gsNil [] S = some S := rfl
@[simp] theorem gsCons_ap {ds : List D} {gs : List D → Ms → Option Ms} : gsCons G gs (d :: ds) S = (G d S).bind fun S1 => gs ds S1 := rfl
@[simp] theorem eC_ap : eC d S = some (d, S) := rfl
@[simp] theorem eVar_ap : eVar i S = match S.r[i]? with
  | some (.val d) => some (d, S)
  | some (.own (.lst ds)) => some (.lst ds, ⟨S.r.set i (.val (.lst ds)), S.m⟩)
  | some (.own (.dct ds)) => some (.dct ds, ⟨S.r.set i (.val (.dct ds)), S.m⟩)
  | _ => none := rfl
@[simp] theorem sees_ap : sees i S = match S.r[i]? with
  | some (.val d) => some (vw S d)
  | some (.own (.lst ds)) => some (.lst ds)
  | some (.own (.dct kds)) => some (.dct kds)
  | _ => none := rfl
@[simp] theorem held_ap : held i S = match S.r[i]? with
  | some (.val _) => true
  | some (.own _) => true
  | _ => false := rfl
@[simp] theorem vw_non : vw S .non = .non := rfl
@[simp] theorem vw_bl {x} : vw S (.bl x) = .bl x := rfl
@[simp] theorem vw_int {x} : vw S (.int x) = .int x := rfl
@[simp] theorem vw_str {x} : vw S (.str x) = .str x := rfl
@[simp] theorem vw_tup {x} : vw S (.tup x) = .tup x := rfl
@[simp] theorem vw_lst {x} : vw S (.lst x) = .lst x := rfl
@[simp] theorem vw_sc {x} : vw S (.sc x) = .sc x := rfl
@[simp] theorem vw_dct {x} : vw S (.dct x) = .dct x := rfl
@[simp] theorem vw_ref {x} : vw S (.ref x) = match S.m[x]? with
    | some (.lst ds) => .lst ds
    | some (.dct kds) => .dct kds
    | _ => .ref x := rfl
@[simp] theorem eOp_ap : eOp o f g S = (f S).bind fun x => (g x.2).bind fun y => (o (vw y.2 x.1) (vw y.2 y.1)).bind fun z => some (z, y.2) := rfl
@[simp] theorem eOpL_ap : eOpL o i f S = if held i S then (f S).bind fun y => (sees i y.2).bind fun x => (o x (vw y.2 y.1)).bind fun z => some (z, y.2) else none := rfl
@[simp] theorem eOpR_ap : eOpR o f j S = (f S).bind fun x => (sees j x.2).bind fun y => (o (vw x.2 x.1) y).bind fun z => some (z, x.2) := rfl
@[simp] theorem bOf_ap : bOf f S = (f S).bind fun x => match x.1 with | .bl b => some (b, x.2) | _ => none := rfl
@[simp] theorem bTru_ap : bTru f S = (f S).bind fun x => (gTru (vw x.2 x.1)).bind fun b => some (b, x.2) := rfl
@[simp] theorem bTruV_ap : bTruV i S = (sees i S).bind fun x => (gTru x).bind fun b => some (b, S) := rfl
@[simp] theorem bAnd_ap : bAnd t u S = (t S).bind fun x => if x.1 then u x.2 else some (false, x.2) := rfl
@[simp] theorem bOr_ap : bOr t u S = (t S).bind fun x => if x.1 then some (true, x.2) else u x.2 := rfl
@[simp] theorem bNot_ap : bNot t S = (t S).bind fun x => some (!x.1, x.2) := rfl
@[simp] theorem bYes_ap : bYes S = some (true, S) := rfl
@[simp] theorem eAnd_ap : eAnd f g S = (f S).bind fun x => match x.1 with | .bl true => g x.2 | .bl false => some (.bl false, x.2) | _ => none := rfl
@[simp] theorem eOr_ap : eOr f g S = (f S).bind fun x => match x.1 with | .bl true => some (.bl true, x.2) | .bl false => g x.2 | _ => none := rfl
@[simp] theorem eNot_ap : eNot f S = (f S).bind fun x => match x.1 with | .bl b => some (.bl (!b), x.2) | _ => none := rfl
@[simp] theorem eIf_ap : eIf t f g S = (t S).bind fun x => if x.1 then f x.2 else g x.2 := rfl
@[simp] theorem eUn_ap : eUn k f S = (f S).bind fun x => (k x.1).bind fun z => some (z, x.2) := rfl
@[simp] theorem aNil_ap : aNil S = some ([], S) := rfl
@[simp] theorem aCons_ap : aCons f a S = (f S).bind fun x => (a x.2).bind fun y => some (x.1 :: y.1, y.2) := rfl
@[simp] theorem eTup_ap : eTup a S = (a S).bind fun x => if x.1.length ≤ LIM then some (.tup x.1, x.2) else none := rfl
@[simp] theorem cLst_ap : cLst a S = (a S).bind fun x => if x.1.length ≤ LIM then some (.lst x.1, x.2) else none := rfl
@[simp] theorem eNew_ap : eNew c S = (c S).bind fun x => match x.1 with | .lst ds => some (.lst ds, x.2) | .dct ds => some (.dct ds, x.2) | _ => none := rfl
@[simp] theorem oNone_ap : oNone S = some (none, S) := rfl
@[simp] theorem oSome_ap : oSome f S = (f S).bind fun x => match x.1 with | .int i => some (some i, x.2) | _ => none := rfl
@[simp] theorem eSl3_ap {l r : OF} : eSl3 f l r S = (f S).bind fun x => (l x.2).bind fun y => (r y.2).bind fun w => (gSl3 (vw w.2 x.1) y.1 w.1).bind fun z => some (z, w.2) := rfl
@[simp] theorem cSl_ap {l r : OF} : cSl f l r S = (f S).bind fun x => (l x.2).bind fun y => (r y.2).bind fun w => (gSlL (vw w.2 x.1) y.1 w.1).bind fun z => some (z, w.2) := rfl
@[simp] theorem eCall_ap : eCall k f S = (f S).bind fun x => (k (vw x.2 x.1)).bind fun z => some (z, x.2) := rfl
@[simp] theorem eCallV_ap : eCallV k i S = (sees i S).bind fun x => (k x).bind fun z => some (z, S) := rfl
@[simp] theorem cCall_ap {k : D → Option Cell} : cCall k f S = (f S).bind fun x => (k (vw x.2 x.1)).bind fun z => some (z, x.2) := rfl
@[simp] theorem cCallV_ap {k : D → Option Cell} : cCallV k i S = (sees i S).bind fun x => (k x).bind fun z => some (z, S) := rfl
@[simp] theorem eCalls_ap {k : List D → Option D} : eCalls k a S = (a S).bind fun x => (k x.1).bind fun z => some (z, x.2) := rfl
@[simp] theorem eIsi_ap {T : String} : eIsi T f S = (f S).bind fun x => (gIsi T x.1).bind fun z => some (z, x.2) := rfl
@[simp] theorem eFn_ap {ff : FF} : eFn n ff a S = (a S).bind fun x => if x.1.length = n then (ff x.1 x.2.m).bind fun y => some (y.1, ⟨x.2.r, y.2⟩) else none := rfl
@[simp] theorem iSeq_ap : iSeq f S = (f S).bind fun x => (seqD x.1).bind fun ds => some (ds, x.2) := rfl
@[simp] theorem seqD_lst {ds} : seqD (.lst ds) = some ds := rfl
@[simp] theorem seqD_tup {ds} : seqD (.tup ds) = some ds := rfl
@[simp] theorem seqD_sc {ds} : seqD (.sc ds) = some ds := rfl
open Classical in
@[simp] theorem iRg1_ap : iRg1 f S = (f S).bind fun x => match x.1 with | .int n => if -2000000000000000000 ≤ n ∧ n ≤ 2000000000000000000 then some (rngD 0 n.toNat, x.2) else none | _ => none := rfl
open Classical in
@[simp] theorem iRg2_ap : iRg2 f g S = (f S).bind fun x => (g x.2).bind fun y => match x.1, y.1 with | .int a, .int b => if -2000000000000000000 ≤ a ∧ a ≤ 2000000000000000000 ∧ -2000000000000000000 ≤ b ∧ b ≤ 2000000000000000000 then some (rngD a (b - a).toNat, y.2) else none | _, _ => none := rfl
@[simp] theorem eApp_ap : eApp i f S = if isL i S then (f S).bind fun x => (modL i (fun ds => if ds.length < LIM then some (ds ++ [x.1]) else none) x.2).bind fun S' => some (.non, S') else none := rfl
@[simp] theorem isL_ap : isL i S = match sees i S with | some (.lst _) => true | _ => false := rfl
@[simp] theorem modL_ap {x : List D → Option (List D)} : modL i x S = match S.r[i]? with
  | some (.own (.lst ds)) => (x ds).bind fun es => some ⟨S.r.set i (.own (.lst es)), S.m⟩
  | some (.val (.ref k)) => match S.m[k]? with
    | some (.lst ds) => (x ds).bind fun es => some ⟨S.r, S.m.set k (.lst es)⟩
    | _ => none
  | _ => none := rfl
@[simp] theorem gSubV_ap : gSubV i f d S = if held i S then (f S).bind fun x => modL i (setAt d x.1) x.2 else none := rfl
@[simp] theorem setAt_ap {x : Int} {ds : List D} : setAt d (.int x) ds = (ixN ds.length x).bind fun j => some (ds.set j d) := rfl
@[simp] theorem forM_nil : forM G p [] S = some (.nx, S) := rfl
theorem forM_cons {ds : List D} : forM G p (d :: ds) S = (G d S).bind fun S1 => (p S1).bind fun x => match x.1 with
    | .nx => forM G p ds x.2
    | .ct => forM G p ds x.2
    | .bk => some (.nx, x.2)
    | .rt v => some (.rt v, x.2) := rfl
@[simp] theorem cLc_ap {vs : List Nat} : cLc a G t f vs S = (a S).bind fun x => (lcM G t f vs x.1 [] x.2).bind fun y => some (.lst y.1, y.2) := rfl
/-! operations -/
@[simp] theorem gAdd_int {x y : Int} : gAdd (.int x) (.int y) = some (.int (x + y)) := rfl
@[simp] theorem gAdd_str {x y : Str} : gAdd (.str x) (.str y) = if x.length + y.length ≤ LIM then some (.str (x ++ y)) else none := by
  show ((gAddI _ _).or ((gAddS _ _).or ((gAddL _ _).or (gAddT _ _)))) = _
  simp only [gAddI, gAddS, gAddL, gAddT]; split <;> rfl
@[simp] theorem gAdd_lst {x y : List D} : gAdd (.lst x) (.lst y) = if x.length + y.length ≤ LIM then some (.lst (x ++ y)) else none := by
  show ((gAddI _ _).or ((gAddS _ _).or ((gAddL _ _).or (gAddT _ _)))) = _
  simp only [gAddI, gAddS, gAddL, gAddT]; split <;> rfl
@[simp] theorem gAdd_tup {x y : List D} : gAdd (.tup x) (.tup y) = if x.length + y.length ≤ LIM then some (.tup (x ++ y)) else none := by
  show ((gAddI _ _).or ((gAddS _ _).or ((gAddL _ _).or (gAddT _ _)))) = _
  simp only [gAddI, gAddS, gAddL, gAddT]; split <;> rfl
@[simp] theorem gSub_int {x y : Int} : gSub (.int x) (.int y) = some (.int (x - y)) := rfl
@[simp] theorem gMul_int {x y : Int} : gMul (.int x) (.int y) = if (-18446744073709551616 < x ∧ x < 18446744073709551616) ∨ (-18446744073709551616 < y ∧ y < 18446744073709551616) then some (.int (x * y)) else none := rfl
theorem gDiv_int {x y : Int} : gDiv (.int x) (.int y) = if 0 < y ∧ y < BDIV then some (.int (x / y)) else none := rfl
@[simp] theorem gDiv_ok {x y : Int} (h0 : 0 < y) (h : y < 100000000000000000000000000000000000000000000000000) : gDiv (.int x) (.int y) = some (.int (x / y)) := by
  rw [gDiv_int, if_pos ⟨h0, by unfold BDIV; exact h⟩]
@[simp] theorem gMod_int {x y : Int} : gMod (.int x) (.int y) = if 0 < y then some (.int (x % y)) else none := rfl
theorem gPow_int {x y : Int} : gPow (.int x) (.int y) = if 0 ≤ y ∧ y ≤ 1000000 ∧ -18446744073709551616 < x ∧ x < 18446744073709551616 then some (.int (x ^ y.toNat)) else none := rfl
@[simp] theorem gNeg_int {x : Int} : gNeg (.int x) = some (.int (-x)) := rfl
@[simp] theorem gLt_int {x y : Int} : gLt (.int x) (.int y) = some (.bl (decide (x < y))) := rfl
@[simp] theorem gLe_int {x y : Int} : gLe (.int x) (.int y) = some (.bl (decide (x ≤ y))) := rfl
@[simp] theorem gGt_int {x y : Int} : gGt (.int x) (.int y) = some (.bl (decide (y < x))) := rfl
@[simp] theorem gGe_int {x y : Int} : gGe (.int x) (.int y) = some (.bl (decide (y ≤ x))) := rfl
theorem shaped_int {x : Int} : SeqAt.shaped (.int x) = true := by simp [SeqAt.shaped, PyData.canLay0, PyData.depth]
theorem shaped_str {x : Str} (h : PyData.strOk x = true) : SeqAt.shaped (.str x) = true := by simp [SeqAt.shaped, PyData.canLay0, PyData.depth, h]
theorem shaped_bool {x : Bool} : SeqAt.shaped (.bool x) = true := by simp [SeqAt.shaped, PyData.canLay0, PyData.depth]
theorem shaped_none : SeqAt.shaped .none = true := by simp [SeqAt.shaped, PyData.canLay0, PyData.depth]
@[simp] theorem eqD_int {x y : Int} : eqD (.int x) (.int y) = some (decide (x = y)) := by
  simp [eqD, toPy, shaped_int, PyData.eqv, Bool.beq_eq_decide_eq]
@[simp] theorem eqD_str {x y : Str} (hx : PyData.strOk x = true) (hy : PyData.strOk y = true) : eqD (.str x) (.str y) = some (decide (x = y)) := by
  simp [eqD, toPy, shaped_str hx, shaped_str hy, PyData.eqv, Bool.beq_eq_decide_eq]
@[simp] theorem eqD_bl {x y : Bool} : eqD (.bl x) (.bl y) = some (decide (x = y)) := by
  simp [eqD, toPy, shaped_bool, PyData.eqv, Bool.beq_eq_decide_eq]
@[simp] theorem gEq_ap : gEq d e = (eqD d e).bind fun b => some (.bl b) := rfl
@[simp] theorem gNe_ap : gNe d e = (eqD d e).bind fun b => some (.bl (!b)) := rfl
@[simp] theorem gIx_tup {ds : List D} {x : Int} : gIx (.tup ds) (.int x) = atI ds x := rfl
@[simp] theorem gIx_lst {ds : List D} {x : Int} : gIx (.lst ds) (.int x) = atI ds x := rfl
@[simp] theorem gIx_sc {ds : List D} {x : Int} : gIx (.sc ds) (.int x) = atI ds x := rfl
@[simp] theorem gLen_lst {ds : List D} : gLen (.lst ds) = some (.int ds.length) := rfl
@[simp] theorem gLen_tup {ds : List D} : gLen (.tup ds) = some (.int ds.length) := rfl
@[simp] theorem gLen_sc {ds : List D} : gLen (.sc ds) = some (.int ds.length) := rfl
@[simp] theorem gInt_int {x : Int} : gInt (.int x) = some (.int x) := rfl
@[simp] theorem gInt_bl {x : Bool} : gInt (.bl x) = some (.int (if x then 1 else 0)) := rfl
@[simp] theorem gAbs_int {x : Int} : gAbs (.int x) = some (.int (if x < 0 then -x else x)) := rfl
@[simp] theorem gMax2_int {x y : Int} : gMax2 [.int x, .int y] = some (.int (if y > x then y else x)) := rfl
@[simp] theorem gMin2_int {x y : Int} : gMin2 [.int x, .int y] = some (.int (if y < x then y else x)) := rfl
@[simp] theorem gList_lst {ds : List D} : gList (.lst ds) = some (.lst ds) := rfl
@[simp] theorem gList_tup {ds : List D} : gList (.tup ds) = some (.lst ds) := rfl
@[simp] theorem gList_sc {ds : List D} : gList (.sc ds) = some (.lst ds) := rfl
@[simp] theorem gTuple_lst {ds : List D} : gTuple (.lst ds) = some (.tup ds) := rfl
@[simp] theorem gTuple_tup {ds : List D} : gTuple (.tup ds) = some (.tup ds) := rfl
@[simp] theorem gTuple_sc {ds : List D} : gTuple (.sc ds) = some (.tup ds) := rfl
@[simp] theorem gTru_bl {x : Bool} : gTru (.bl x) = some x := rfl
@[simp] theorem gTru_int {x : Int} : gTru (.int x) = some (x != 0) := rfl
@[simp] theorem gTru_lst {ds : List D} : gTru (.lst ds) = some (!ds.isEmpty) := rfl
@[simp] theorem gTru_tup {ds : List D} : gTru (.tup ds) = some (!ds.isEmpty) := rfl
@[simp] theorem gTru_non : gTru .non = some false := rfl
@[simp] theorem isN_non : gIsN .non .non = some (.bl true) := rfl
@[simp] theorem isN_int {x} : gIsN (.int x) .non = some (.bl false) := rfl
@[simp] theorem isN_bl {x} : gIsN (.bl x) .non = some (.bl false) := rfl
@[simp] theorem isN_str {x} : gIsN (.str x) .non = some (.bl false) := rfl
@[simp] theorem isN_tup {x} : gIsN (.tup x) .non = some (.bl false) := rfl
@[simp] theorem isN_lst {x} : gIsN (.lst x) .non = some (.bl false) := rfl
@[simp] theorem notN_ap : gNotN d e = (gIsN d e).bind fun z => match z with | .bl b => some (.bl (!b)) | _ => none := rfl
@[simp] theorem gSl3_lst {ds : List D} {l r : Option Int} : gSl3 (.lst ds) l r = some (.lst (cutD ds l r)) := rfl
@[simp] theorem gSl3_tup {ds : List D} {l r : Option Int} : gSl3 (.tup ds) l r = some (.tup (cutD ds l r)) := rfl
@[simp] theorem gSlL_lst {ds : List D} {l r : Option Int} : gSlL (.lst ds) l r = some (.lst (cutD ds l r)) := rfl
end
theorem fnM_ap {N : Nat} {b : SF} {ds : List D} {m : List Cell} : fnM N b ds m = (b ⟨ds.map Slot.val ++ List.replicate (N - ds.length) .emp, m⟩).bind fun p => match p.1 with
  | .rt d => some (d, p.2.m)
  | .nx => some (.non, p.2.m)
  | _ => none := rfl
/-! places -/
theorem ixN_nat {n i : Nat} (h : i < n) : ixN n (i : Int) = some i := by
  unfold ixN
  rw [if_pos (Int.natCast_nonneg _), if_pos (by omega)]
  simp
theorem ixN_pos {n : Nat} {i : Int} (h0 : 0 ≤ i) (h : i < n) : ixN n i = some i.toNat := by
  unfold ixN
  rw [if_pos h0, if_pos h]
theorem atI_pos {α : Type} {xs : List α} {i : Int} (h0 : 0 ≤ i) (h : i < xs.length) : atI xs i = xs[i.toNat]? := by
  unfold atI
  rw [ixN_pos h0 h]; rfl
@[simp] theorem atI_0 {α : Type} {x : α} {xs : List α} : atI (x :: xs) 0 = some x := by
  rw [atI_pos (by decide) (by simp only [List.length_cons]; omega)]; rfl
@[simp] theorem atI_1 {α : Type} {x y : α} {xs : List α} : atI (x :: y :: xs) 1 = some y := by
  rw [atI_pos (by decide) (by simp only [List.length_cons]; omega)]; rfl
@[simp] theorem atI_2 {α : Type} {x y z : α} {xs : List α} : atI (x :: y :: z :: xs) 2 = some z := by
  rw [atI_pos (by decide) (by simp only [List.length_cons]; omega)]; rfl
@[simp] theorem atI_3 {α : Type} {x y z w : α} {xs : List α} : atI (x :: y :: z :: w :: xs) 3 = some w := by
  rw [atI_pos (by decide) (by simp only [List.length_cons]; omega)]; rfl
@[simp] theorem atI_4 {α : Type} {x0 x1 x2 x3 x4 : α} {xs : List α} : atI (x0 :: x1 :: x2 :: x3 :: x4 :: xs) 4 = some x4 := by
  rw [atI_pos (by decide) (by simp only [List.length_cons]; omega)]; rfl
@[simp] theorem atI_5 {α : Type} {x0 x1 x2 x3 x4 x5 : α} {xs : List α} : atI (x0 :: x1 :: x2 :: x3 :: x4 :: x5 :: xs) 5 = some x5 := by
  rw [atI_pos (by decide) (by simp only [List.length_cons]; omega)]; rfl
@[simp] theorem atI_6 {α : Type} {x0 x1 x2 x3 x4 x5 x6 : α} {xs : List α} : atI (x0 :: x1 :: x2 :: x3 :: x4 :: x5 :: x6 :: xs) 6 = some x6 := by
  rw [atI_pos (by decide) (by simp only [List.length_cons]; omega)]; rfl
@[simp] theorem atI_7 {α : Type} {x0 x1 x2 x3 x4 x5 x6 x7 : α} {xs : List α} : atI (x0 :: x1 :: x2 :: x3 :: x4 :: x5 :: x6 :: x7 :: xs) 7 = some x7 := by
  rw [atI_pos (by decide) (by simp only [List.length_cons]; omega)]; rfl
@[simp] theorem atI_8 {α : Type} {x0 x1 x2 x3 x4 x5 x6 x7 x8 : α} {xs : List α} : atI (x0 :: x1 :: x2 :: x3 :: x4 :: x5 :: x6 :: x7 :: x8 :: xs) 8 = some x8 := by
  rw [atI_pos (by decide) (by simp only [List.length_cons]; omega)]; rfl
@[simp] theorem atI_9 {α : Type} {x0 x1 x2 x3 x4 x5 x6 x7 x8 x9 : α} {xs : List α} : atI (x0 :: x1 :: x2 :: x3 :: x4 :: x5 :: x6 :: x7 :: x8 :: x9 :: xs) 9 = some x9 := by
  rw [atI_pos (by decide) (by simp only [List.length_cons]; omega)]; rfl
@[simp] theorem atI_10 {α : Type} {x0 x1 x2 x3 x4 x5 x6 x7 x8 x9 x10 : α} {xs : List α} : atI (x0 :: x1 :: x2 :: x3 :: x4 :: x5 :: x6 :: x7 :: x8 :: x9 :: x10 :: xs) 10 = some x10 := by
  rw [atI_pos (by decide) (by simp only [List.length_cons]; omega)]; rfl
@[simp] theorem atI_11 {α : Type} {x0 x1 x2 x3 x4 x5 x6 x7 x8 x9 x10 x11 : α} {xs : List α} : atI (x0 :: x1 :: x2 :: x3 :: x4 :: x5 :: x6 :: x7 :: x8 :: x9 :: x10 :: x11 :: xs) 11 = some x11 := by
  rw [atI_pos (by decide) (by simp only [List.length_cons]; omega)]; rfl
theorem lim_ok {n : Nat} (h : n ≤ 1000000) : n ≤ LIM := h
@[simp] theorem LIM_eq : LIM = 1000000 := rfl
end M

/-! M7: data of a known kind: == of it; isinstance. -/
namespace M
open PySem PySem.Spec L2
/-- == of such data is equality; n bounds the depth -/
structure Ek {α : Type} [DecidableEq α] (e : α → D) (n : Nat) : Prop where
  py : ∀ x, ∃ p, toPy (e x) = some p ∧ PyData.canLay0 p = true ∧ PyData.depth p ≤ n
  eq : ∀ x y p q, toPy (e x) = some p → toPy (e y) = some q → PyData.eqv p q = decide (x = y)
section
variable {α β γ : Type} [DecidableEq α] [DecidableEq β] [DecidableEq γ] {e : α → D} {f : β → D} {g : γ → D} {n k l : Nat}
theorem Ek.eqD (h : Ek e n) (hn : n ≤ 64) (x y : α) : eqD (e x) (e y) = some (decide (x = y)) := by
  obtain ⟨p, h1, h2, h3⟩ := h.py x
  obtain ⟨q, g1, g2, g3⟩ := h.py y
  unfold M.eqD
  rw [h1, g1]
  show (if SeqAt.shaped p = true ∧ SeqAt.shaped q = true then some (PyData.eqv p q) else none) = _
  rw [if_pos ⟨by unfold SeqAt.shaped; rw [h2, decide_eq_true (by omega : p.depth ≤ 64)]; rfl, by unfold SeqAt.shaped; rw [g2, decide_eq_true (by omega : q.depth ≤ 64)]; rfl⟩, h.eq x y p q h1 g1]
theorem ek_int : Ek D.int 1 := ⟨fun x => ⟨.int x, rfl, rfl, by simp [PyData.depth]⟩, fun x y p q h1 h2 => by cases h1; cases h2; simp [PyData.eqv, Bool.beq_eq_decide_eq]⟩
theorem ek_bl : Ek D.bl 1 := ⟨fun x => ⟨.bool x, rfl, rfl, by simp [PyData.depth]⟩, fun x y p q h1 h2 => by cases h1; cases h2; simp [PyData.eqv, Bool.beq_eq_decide_eq]⟩
/-- texts that are texts -/
abbrev SOk := { x : Str // PyData.strOk x = true }
theorem ek_str : Ek (fun x : SOk => D.str x.1) 1 := ⟨fun x => ⟨.str x.1, rfl, by simp [PyData.canLay0, x.2], by simp [PyData.depth]⟩, fun x y p q h1 h2 => by cases h1; cases h2; simp [PyData.eqv, Bool.beq_eq_decide_eq, Subtype.ext_iff]⟩
theorem ek_all (h : Ek e n) : (∀ xs : List α, ∃ ps, toPys (xs.map e) = some ps ∧ PyData.canLayAll0 ps = true ∧ PyData.depthAll ps ≤ n) ∧ ∀ (xs ys : List α) ps qs, toPys (xs.map e) = some ps → toPys (ys.map e) = some qs → PyData.eqvAll ps qs = decide (xs = ys) := by
  constructor
  · intro xs
    induction xs with
    | nil => exact ⟨[], rfl, rfl, by simp [PyData.depthAll]⟩
    | cons x xs ih =>
      obtain ⟨ps, h1, h2, h3⟩ := ih
      obtain ⟨p, g1, g2, g3⟩ := h.py x
      refine ⟨p :: ps, by simp [toPys, g1, h1], by simp [PyData.canLayAll0, g2, h2], ?_⟩
      simp only [PyData.depthAll]
      omega
  · intro xs
    induction xs with
    | nil =>
      intro ys ps qs h1 h2
      cases h1
      cases ys with
      | nil => cases h2; rfl
      | cons y ys =>
        simp only [List.map_cons, toPys] at h2
        obtain ⟨q, e1, h2⟩ := bind_some h2
        obtain ⟨qs', e2, h2⟩ := bind_some h2
        cases h2
        simp [PyData.eqvAll]
    | cons x xs ih =>
      intro ys ps qs h1 h2
      simp only [List.map_cons, toPys] at h1
      obtain ⟨p, e1, h1⟩ := bind_some h1
      obtain ⟨ps', e2, h1⟩ := bind_some h1
      cases h1
      cases ys with
      | nil => cases h2; simp [PyData.eqvAll]
      | cons y ys =>
        simp only [List.map_cons, toPys] at h2
        obtain ⟨q, e3, h2⟩ := bind_some h2
        obtain ⟨qs', e4, h2⟩ := bind_some h2
        cases h2
        simp only [PyData.eqvAll]
        rw [h.eq x y p q e1 e3, ih ys ps' qs' e2 e4]
        by_cases a : x = y <;> by_cases b : xs = ys <;> simp [a, b]
theorem ek_lst (h : Ek e n) : Ek (fun xs : List α => D.lst (xs.map e)) (n + 1) := by
  obtain ⟨h1, h2⟩ := ek_all h
  refine ⟨fun xs => ?_, fun xs ys p q e1 e2 => ?_⟩
  · obtain ⟨ps, a, b, c⟩ := h1 xs
    exact ⟨.list ps, by simp [toPy, a], by simpa [PyData.canLay0] using b, by simp only [PyData.depth]; omega⟩
  · simp only [toPy, Option.map_eq_some_iff] at e1 e2
    obtain ⟨ps, a, rfl⟩ := e1
    obtain ⟨qs, b, rfl⟩ := e2
    simpa [PyData.eqv] using h2 xs ys ps qs a b
theorem ek_tps (h : Ek e n) : Ek (fun xs : List α => D.tup (xs.map e)) (n + 1) := by
  obtain ⟨h1, h2⟩ := ek_all h
  refine ⟨fun xs => ?_, fun xs ys p q e1 e2 => ?_⟩
  · obtain ⟨ps, a, b, c⟩ := h1 xs
    exact ⟨.tuple ps, by simp [toPy, a], by simpa [PyData.canLay0] using b, by simp only [PyData.depth]; omega⟩
  · simp only [toPy, Option.map_eq_some_iff] at e1 e2
    obtain ⟨ps, a, rfl⟩ := e1
    obtain ⟨qs, b, rfl⟩ := e2
    simpa [PyData.eqv] using h2 xs ys ps qs a b
theorem ek_t2 (h1 : Ek e n) (h2 : Ek f k) : Ek (fun x : α × β => D.tup [e x.1, f x.2]) (max n k + 1) := by
  refine ⟨fun x => ?_, fun x y p q e1 e2 => ?_⟩
  · obtain ⟨p, a, b, c⟩ := h1.py x.1
    obtain ⟨p', a', b', c'⟩ := h2.py x.2
    refine ⟨.tuple [p, p'], by simp [toPy, toPys, a, a'], by simp [PyData.canLay0, PyData.canLayAll0, b, b'], ?_⟩
    simp only [PyData.depth, PyData.depthAll]
    omega
  · obtain ⟨p1, a1, _⟩ := h1.py x.1
    obtain ⟨p2, a2, _⟩ := h2.py x.2
    obtain ⟨q1, b1, _⟩ := h1.py y.1
    obtain ⟨q2, b2, _⟩ := h2.py y.2
    simp only [toPy, toPys, a1, a2, b1, b2, Option.bind_some, Option.map_some, Option.some.injEq] at e1 e2
    subst e1; subst e2
    obtain ⟨x1, x2⟩ := x
    obtain ⟨y1, y2⟩ := y
    simp only [PyData.eqv, PyData.eqvAll, h1.eq _ _ _ _ a1 b1, h2.eq _ _ _ _ a2 b2, Bool.and_true]
    by_cases a : x1 = y1 <;> by_cases b : x2 = y2 <;> simp [a, b]
theorem ek_t3 (h1 : Ek e n) (h2 : Ek f k) (h3 : Ek g l) : Ek (fun x : α × β × γ => D.tup [e x.1, f x.2.1, g x.2.2]) (max n (max k l) + 1) := by
  refine ⟨fun x => ?_, fun x y p q e1 e2 => ?_⟩
  · obtain ⟨p, a, b, c⟩ := h1.py x.1
    obtain ⟨p', a', b', c'⟩ := h2.py x.2.1
    obtain ⟨p'', a'', b'', c''⟩ := h3.py x.2.2
    refine ⟨.tuple [p, p', p''], by simp [toPy, toPys, a, a', a''], by simp [PyData.canLay0, PyData.canLayAll0, b, b', b''], ?_⟩
    simp only [PyData.depth, PyData.depthAll]
    omega
  · obtain ⟨p1, a1, _⟩ := h1.py x.1
    obtain ⟨p2, a2, _⟩ := h2.py x.2.1
    obtain ⟨p3, a3, _⟩ := h3.py x.2.2
    obtain ⟨q1, b1, _⟩ := h1.py y.1
    obtain ⟨q2, b2, _⟩ := h2.py y.2.1
    obtain ⟨q3, b3, _⟩ := h3.py y.2.2
    simp only [toPy, toPys, a1, a2, a3, b1, b2, b3, Option.bind_some, Option.map_some, Option.some.injEq] at e1 e2
    subst e1; subst e2
    obtain ⟨x1, x2, x3⟩ := x
    obtain ⟨y1, y2, y3⟩ := y
    simp only [PyData.eqv, PyData.eqvAll, h1.eq _ _ _ _ a1 b1, h2.eq _ _ _ _ a2 b2, h3.eq _ _ _ _ a3 b3, Bool.and_true]
    by_cases a : x1 = y1 <;> by_cases b : x2 = y2 <;> by_cases c : x3 = y3 <;> simp [a, b, c]
end
/-! isinstance -/
theorem isi_of {T n : String} {d : D} {b : Bool} (h1 : tyName d = some n) (h2 : kitB n T = some b) : gIsi T d = some (.bl b) := by
  unfold gIsi
  rw [h1]
  show (kitB n T).bind _ = _
  rw [h2]; rfl
@[simp] theorem isi_non_int  : gIsi "int" .non = some (.bl false) := isi_of (n := "NoneType") rfl (by decide +kernel)
@[simp] theorem isi_non_bool  : gIsi "bool" .non = some (.bl false) := isi_of (n := "NoneType") rfl (by decide +kernel)
@[simp] theorem isi_non_str  : gIsi "str" .non = some (.bl false) := isi_of (n := "NoneType") rfl (by decide +kernel)
@[simp] theorem isi_non_list  : gIsi "list" .non = some (.bl false) := isi_of (n := "NoneType") rfl (by decide +kernel)
@[simp] theorem isi_non_tuple  : gIsi "tuple" .non = some (.bl false) := isi_of (n := "NoneType") rfl (by decide +kernel)
@[simp] theorem isi_non_dict  : gIsi "dict" .non = some (.bl false) := isi_of (n := "NoneType") rfl (by decide +kernel)
@[simp] theorem isi_bl_int {x : Bool} : gIsi "int" (.bl x) = some (.bl true) := isi_of (n := "bool") rfl (by decide +kernel)
@[simp] theorem isi_bl_bool {x : Bool} : gIsi "bool" (.bl x) = some (.bl true) := isi_of (n := "bool") rfl (by decide +kernel)
@[simp] theorem isi_bl_str {x : Bool} : gIsi "str" (.bl x) = some (.bl false) := isi_of (n := "bool") rfl (by decide +kernel)
@[simp] theorem isi_bl_list {x : Bool} : gIsi "list" (.bl x) = some (.bl false) := isi_of (n := "bool") rfl (by decide +kernel)
@[simp] theorem isi_bl_tuple {x : Bool} : gIsi "tuple" (.bl x) = some (.bl false) := isi_of (n := "bool") rfl (by decide +kernel)
@[simp] theorem isi_bl_dict {x : Bool} : gIsi "dict" (.bl x) = some (.bl false) := isi_of (n := "bool") rfl (by decide +kernel)
@[simp] theorem isi_int_int {x : Int} : gIsi "int" (.int x) = some (.bl true) := isi_of (n := "int") rfl (by decide +kernel)
@[simp] theorem isi_int_bool {x : Int} : gIsi "bool" (.int x) = some (.bl false) := isi_of (n := "int") rfl (by decide +kernel)
@[simp] theorem isi_int_str {x : Int} : gIsi "str" (.int x) = some (.bl false) := isi_of (n := "int") rfl (by decide +kernel)
@[simp] theorem isi_int_list {x : Int} : gIsi "list" (.int x) = some (.bl false) := isi_of (n := "int") rfl (by decide +kernel)
@[simp] theorem isi_int_tuple {x : Int} : gIsi "tuple" (.int x) = some (.bl false) := isi_of (n := "int") rfl (by decide +kernel)
@[simp] theorem isi_int_dict {x : Int} : gIsi "dict" (.int x) = some (.bl false) := isi_of (n := "int") rfl (by decide +kernel)
@[simp] theorem isi_str_int {x : Str} : gIsi "int" (.str x) = some (.bl false) := isi_of (n := "str") rfl (by decide +kernel)
@[simp] theorem isi_str_bool {x : Str} : gIsi "bool" (.str x) = some (.bl false) := isi_of (n := "str") rfl (by decide +kernel)
@[simp] theorem isi_str_str {x : Str} : gIsi "str" (.str x) = some (.bl true) := isi_of (n := "str") rfl (by decide +kernel)
@[simp] theorem isi_str_list {x : Str} : gIsi "list" (.str x) = some (.bl false) := isi_of (n := "str") rfl (by decide +kernel)
@[simp] theorem isi_str_tuple {x : Str} : gIsi "tuple" (.str x) = some (.bl false) := isi_of (n := "str") rfl (by decide +kernel)
@[simp] theorem isi_str_dict {x : Str} : gIsi "dict" (.str x) = some (.bl false) := isi_of (n := "str") rfl (by decide +kernel)
@[simp] theorem isi_tup_int {x : List D} : gIsi "int" (.tup x) = some (.bl false) := isi_of (n := "tuple") rfl (by decide +kernel)
@[simp] theorem isi_tup_bool {x : List D} : gIsi "bool" (.tup x) = some (.bl false) := isi_of (n := "tuple") rfl (by decide +kernel)
@[simp] theorem isi_tup_str {x : List D} : gIsi "str" (.tup x) = some (.bl false) := isi_of (n := "tuple") rfl (by decide +kernel)
@[simp] theorem isi_tup_list {x : List D} : gIsi "list" (.tup x) = some (.bl false) := isi_of (n := "tuple") rfl (by decide +kernel)
@[simp] theorem isi_tup_tuple {x : List D} : gIsi "tuple" (.tup x) = some (.bl true) := isi_of (n := "tuple") rfl (by decide +kernel)
@[simp] theorem isi_tup_dict {x : List D} : gIsi "dict" (.tup x) = some (.bl false) := isi_of (n := "tuple") rfl (by decide +kernel)
@[simp] theorem isi_lst_int {x : List D} : gIsi "int" (.lst x) = some (.bl false) := isi_of (n := "list") rfl (by decide +kernel)
@[simp] theorem isi_lst_bool {x : List D} : gIsi "bool" (.lst x) = some (.bl false) := isi_of (n := "list") rfl (by decide +kernel)
@[simp] theorem isi_lst_str {x : List D} : gIsi "str" (.lst x) = some (.bl false) := isi_of (n := "list") rfl (by decide +kernel)
@[simp] theorem isi_lst_list {x : List D} : gIsi "list" (.lst x) = some (.bl true) := isi_of (n := "list") rfl (by decide +kernel)
@[simp] theorem isi_lst_tuple {x : List D} : gIsi "tuple" (.lst x) = some (.bl false) := isi_of (n := "list") rfl (by decide +kernel)
@[simp] theorem isi_lst_dict {x : List D} : gIsi "dict" (.lst x) = some (.bl false) := isi_of (n := "list") rfl (by decide +kernel)
end M

/-! more methods of own lists: pop at a place, insert, index; is and is not of truths -/
namespace M
open PySem PySem.Spec L2
theorem opq {p : Prop} (h : p) : p := h
section
variable {X : Cx} {x : Str} {xp pos : Pos} {e e2 : Expr} {fe fe2 : EF}
def posAt (i : Int) (n : Nat) : Option Nat := if -1000000 ≤ i ∧ i ≤ 1000000 then seqIndex? i n else none
def ePopAt (i : Nat) (f : EF) : EF := fun S => if isL i S then (f S).bind fun p => match p.1 with
    | .int j => (sees i p.2).bind fun d => match d with
      | .lst ds => (posAt j ds.length).bind fun k => (ds[k]?).bind fun z => (modL i (fun ds => some (ds.eraseIdx k)) p.2).bind fun S' => some (z, S')
      | _ => none
    | _ => none
  else none
def eIns (i : Nat) (f g : EF) : EF := fun S => if isL i S then (f S).bind fun p => (g p.2).bind fun q => match p.1 with
    | .int j => if 0 ≤ j ∧ j ≤ 1000000 then (modL i (fun ds => if ds.length < LIM then some (ds.take j.toNat ++ [q.1] ++ ds.drop j.toNat) else none) q.2).bind fun S' => some (.non, S') else none
    | _ => none
  else none
theorem RVs_take {K : PySem.W.Frag} {F : Hp} {io : List Addr} : ∀ {vs : List V} {ds : List D} (n : Nat), RVs K F io vs ds → RVs K F io (vs.take n) (ds.take n)
  | _, _, 0, _ => by simp; exact .nil
  | _, _, n + 1, .nil => .nil
  | _, _, n + 1, .cons h t => .cons h (RVs_take n t)
theorem RVs_drop {K : PySem.W.Frag} {F : Hp} {io : List Addr} : ∀ {vs : List V} {ds : List D} (n : Nat), RVs K F io vs ds → RVs K F io (vs.drop n) (ds.drop n)
  | _, _, 0, h => h
  | _, _, n + 1, .nil => .nil
  | _, _, n + 1, .cons h t => RVs_drop n t
theorem RVs_erase {K : PySem.W.Frag} {F : Hp} {io : List Addr} : ∀ {vs : List V} {ds : List D} (n : Nat), RVs K F io vs ds → RVs K F io (vs.eraseIdx n) (ds.eraseIdx n)
  | _, _, _, .nil => .nil
  | _, _, 0, .cons h t => t
  | _, _, n + 1, .cons h t => .cons h (RVs_erase n t)
theorem me_popAt (i : Nat) {apos : Pos} (he : ME X e fe) (hN : X.N[i]? = some x := by rfl) (hv : Vis X.env.scope x := by first | exact Or.inl rfl | exact Or.inr (Or.inl rfl) | exact Or.inr (Or.inr rfl))
    (hd : (x == ("__debug__" : Str)) = false := by decide) (hcd : (x == ("__classdict__" : Str)) = false := by decide)
    (hbase : attributeBase (.Name x xp) "pop" X.env (eval (.Name x xp) X.env) = eval (.Name x xp) X.env := by rfl)
    (hfew : ((backTo pos (starEach [e] X.env)).all (fun x => !x.1) && (backToKw pos (keywordEach [] X.env)).all (fun x => x.1.isSome)
      && decide ([e].length + ([] : List Keyword).length + (if ([] : List Keyword).isEmpty then 0 else 1) < 30)) = true := by rfl)
    (hline : (apos.endLine == pos.line) = true := by rfl) (hs : starEach [e] X.env = (false, eval e X.env) :: starEach [] X.env := by rfl) (hplain : (backTo pos (starEach [] X.env)).any (·.1) = false := by rfl) :
    ME X (.Call (.Attribute (.Name x xp) "pop" apos) [e] [] pos) (ePopAt i fe) := by
  obtain ⟨t, p, q⟩ := he
  refine ⟨_, pe_bm PySem.F.plainAttrs_list PySem.F.slot_list_pop PySem.F.type_list_pop mt_popAt (pe_var hN hv hd hcd) (pa_cons p pa_nil hs) hbase hfew hline hs hplain, fun S d S' h W s Q R k => ?_⟩
  unfold ePopAt at h
  split at h
  · rename_i hh
    obtain ⟨⟨d1, S1⟩, e1, h⟩ := bind_some h
    simp only at h
    split at h
    · rename_i j
      obtain ⟨d2, ed, h⟩ := bind_some h
      split at h
      · rename_i ds0
        obtain ⟨kk0, ek, h⟩ := bind_some h
        obtain ⟨z, ez, h⟩ := bind_some h
        obtain ⟨S2, e2, h⟩ := bind_some h
        cases h
        obtain ⟨u, eu, ty⟩ := isL_ok R hh
        refine ⟨u, eu, ty, ?_⟩
        refine q S _ _ e1 W s _ R fun y W1 R1 f1 r1 => ?_
        cases r1.int_inv
        obtain ⟨a, ds, es, vs, e3, e5, e4, h1, h2, kk⟩ := modL_ok R1 e2
        rw [eu] at e3; cases e3
        rw [ed] at e5; cases e5
        cases e4
        unfold posAt at ek
        split at ek
        · rename_i hb
          obtain ⟨R2, f2⟩ := kk _ (RVs_erase kk0 h2)
          obtain ⟨v, ev, rv⟩ := h2.get ez
          exact ⟨a, vs, j, kk0, v, rfl, rfl, h1, by omega, by omega, by rw [h2.length]; exact ek, ev, k v _ R2 (f1.trans f2) (rv.up f2)⟩
        · cases ek
      · cases h
    · cases h
  · cases h
theorem me_ins (i : Nat) {apos : Pos} (he : ME X e fe) (he2 : ME X e2 fe2) (hN : X.N[i]? = some x := by rfl) (hv : Vis X.env.scope x := by first | exact Or.inl rfl | exact Or.inr (Or.inl rfl) | exact Or.inr (Or.inr rfl))
    (hd : (x == ("__debug__" : Str)) = false := by decide) (hcd : (x == ("__classdict__" : Str)) = false := by decide)
    (hbase : attributeBase (.Name x xp) "insert" X.env (eval (.Name x xp) X.env) = eval (.Name x xp) X.env := by rfl)
    (hfew : ((backTo pos (starEach [e, e2] X.env)).all (fun x => !x.1) && (backToKw pos (keywordEach [] X.env)).all (fun x => x.1.isSome)
      && decide ([e, e2].length + ([] : List Keyword).length + (if ([] : List Keyword).isEmpty then 0 else 1) < 30)) = true := by rfl)
    (hline : (apos.endLine == pos.line) = true := by rfl) (hs : starEach [e, e2] X.env = (false, eval e X.env) :: starEach [e2] X.env := by rfl) (hs2 : starEach [e2] X.env = (false, eval e2 X.env) :: starEach [] X.env := by rfl) (hplain : (backTo pos (starEach [e2] X.env)).any (·.1) = false := by rfl) :
    ME X (.Call (.Attribute (.Name x xp) "insert" apos) [e, e2] [] pos) (eIns i fe fe2) := by
  obtain ⟨t, p, q⟩ := he
  obtain ⟨t2, p2, q2⟩ := he2
  refine ⟨_, pe_bm PySem.F.plainAttrs_list PySem.F.slot_list_insert PySem.F.type_list_insert mt_insert (pe_var hN hv hd hcd) (pa_cons p (pa_cons p2 pa_nil hs2) hs) hbase hfew hline hs hplain, fun S d S' h W s Q R k => ?_⟩
  unfold eIns at h
  split at h
  · rename_i hh
    obtain ⟨⟨d1, S1⟩, e1, h⟩ := bind_some h
    obtain ⟨⟨d2, S2⟩, e3, h⟩ := bind_some h
    simp only at h
    split at h
    · rename_i j dj
      split at h
      · rename_i hb
        obtain ⟨S3, e4, h⟩ := bind_some h
        cases h
        obtain ⟨u, eu, ty⟩ := isL_ok R hh
        refine ⟨u, eu, ty, ?_⟩
        refine q S _ _ e1 W s _ R fun y W1 R1 f1 r1 => ?_
        cases r1.int_inv
        refine q2 S1 _ _ e3 W1 s _ R1 fun y2 W2 R2 f2 r2 => ?_
        obtain ⟨a, ds, es, vs, e5, _, e6, h1, h2, kk⟩ := modL_ok R2 e4
        rw [eu] at e5; cases e5
        split at e6
        · rename_i c
          cases e6
          obtain ⟨R3, f3⟩ := kk _ (((RVs_take j.toNat h2).append (.cons r2 .nil)).append (RVs_drop j.toNat h2))
          exact ⟨a, vs, j, y2, rfl, rfl, h1, by rw [h2.length]; exact Nat.lt_of_lt_of_le c lim_line, hb.1, by omega, k _ _ R3 ((f1.trans f2).trans f3) .non⟩
        · cases e6
      · cases h
    · cases h
  · cases h
def firstAt (ns : List Int) (y : Int) : Option Nat := if y ∈ ns then some (ns.findIdx (· == y)) else none
def eIdx (i : Nat) (f : EF) : EF := fun S => if isL i S then (f S).bind fun p => match p.1 with
    | .int y => (sees i p.2).bind fun d => match d with
      | .lst ds => (intsD ds).bind fun ns => (firstAt ns y).bind fun j => some (.int (j : Nat), p.2)
      | _ => none
    | _ => none
  else none
theorem me_idx (i : Nat) {apos : Pos} (he : ME X e fe) (hN : X.N[i]? = some x := by rfl) (hv : Vis X.env.scope x := by first | exact Or.inl rfl | exact Or.inr (Or.inl rfl) | exact Or.inr (Or.inr rfl))
    (hd : (x == ("__debug__" : Str)) = false := by decide) (hcd : (x == ("__classdict__" : Str)) = false := by decide)
    (hbase : attributeBase (.Name x xp) "index" X.env (eval (.Name x xp) X.env) = eval (.Name x xp) X.env := by rfl)
    (hfew : ((backTo pos (starEach [e] X.env)).all (fun x => !x.1) && (backToKw pos (keywordEach [] X.env)).all (fun x => x.1.isSome)
      && decide ([e].length + ([] : List Keyword).length + (if ([] : List Keyword).isEmpty then 0 else 1) < 30)) = true := by rfl)
    (hline : (apos.endLine == pos.line) = true := by rfl) (hs : starEach [e] X.env = (false, eval e X.env) :: starEach [] X.env := by rfl) (hplain : (backTo pos (starEach [] X.env)).any (·.1) = false := by rfl) :
    ME X (.Call (.Attribute (.Name x xp) "index" apos) [e] [] pos) (eIdx i fe) := by
  obtain ⟨t, p, q⟩ := he
  refine ⟨_, pe_bm PySem.F.plainAttrs_list PySem.F.slot_list_index PySem.F.type_list_index mt_index (pe_var hN hv hd hcd) (pa_cons p pa_nil hs) hbase hfew hline hs hplain, fun S d S' h W s Q R k => ?_⟩
  unfold eIdx at h
  split at h
  · rename_i hh
    obtain ⟨⟨d1, S1⟩, e1, h⟩ := bind_some h
    simp only at h
    split at h
    · rename_i y0
      obtain ⟨d2, ed, h⟩ := bind_some h
      split at h
      · rename_i ds0 _
        obtain ⟨ns, en, h⟩ := bind_some h
        obtain ⟨j, ej, h⟩ := bind_some h
        cases h
        obtain ⟨u, eu, ty⟩ := isL_ok R hh
        refine ⟨u, eu, ty, ?_⟩
        refine q S _ _ e1 W s _ R fun y W1 R1 f1 r1 => ?_
        cases r1.int_inv
        obtain ⟨v, e3, a, vs, rfl, h1, h2⟩ := R1.sees ed
        rw [eu] at e3; cases e3
        have hv := intsRv h2 en
        subst hv
        unfold firstAt at ej
        split at ej
        · rename_i hm
          cases ej
          have hl : ns.findIdx (· == y0) < ns.length := List.findIdx_lt_length_of_exists ⟨y0, hm, by simp⟩
          have hz : ns[ns.findIdx (· == y0)]? = some y0 := by
            rw [List.getElem?_eq_getElem hl]
            have := List.findIdx_getElem (w := hl)
            simpa using this
          refine ⟨a, _, .int y0, _, .int y0, rfl, rfl, .of h1, rfl, by simp [flatV], by rw [List.getElem?_map, hz]; rfl, by simp [eqV], fun n z' hn hz' => ?_, k _ _ R1 f1 (.int _)⟩
          rw [List.getElem?_map] at hz'
          have hnl : n < ns.length := by omega
          rw [List.getElem?_eq_getElem hnl] at hz'
          cases hz'
          have := List.not_of_lt_findIdx hn
          simpa [eqV] using this
        · cases ej
      · cases h
    · cases h
  · cases h
/-- is, is not: with None, or of truths -/
def gIs : D → D → Option D
  | .bl a, .bl b => some (.bl (decide (a = b)))
  | _, _ => none
def gIsnt : D → D → Option D
  | .bl a, .bl b => some (.bl (!decide (a = b)))
  | _, _ => none
theorem oIs : OpM X (compareOp .Is) gIs := by
  refine ⟨_, op_is_bl, fun x y d e z hz W S s Q R rx ry k => ?_⟩
  cases d <;> cases e <;> first | cases hz | skip
  exact ⟨_, _, RV.bl_inv rx, RV.bl_inv ry, k _ W R .refl (.bl _)⟩
theorem oIsnt : OpM X (compareOp .IsNot) gIsnt := by
  refine ⟨_, op_isnot_bl, fun x y d e z hz W S s Q R rx ry k => ?_⟩
  cases d <;> cases e <;> first | cases hz | skip
  exact ⟨_, _, RV.bl_inv rx, RV.bl_inv ry, k _ W R .refl (.bl _)⟩
variable {S : Ms} {i : Nat} {f g : EF}
@[simp] theorem cSlV_ap {l h : OF} : cSlV i l h S = if held i S then (l S).bind fun q => (h q.2).bind fun r => (sees i r.2).bind fun d => (gSlL d q.1 r.1).bind fun z => some (z, r.2) else none := rfl
@[simp] theorem ePopAt_ap : ePopAt i f S = if isL i S then (f S).bind fun p => match p.1 with
    | .int j => (sees i p.2).bind fun d => match d with
      | .lst ds => (posAt j ds.length).bind fun k => (ds[k]?).bind fun z => (modL i (fun ds => some (ds.eraseIdx k)) p.2).bind fun S' => some (z, S')
      | _ => none
    | _ => none
  else none := rfl
@[simp] theorem eIns_ap : eIns i f g S = if isL i S then (f S).bind fun p => (g p.2).bind fun q => match p.1 with
    | .int j => if 0 ≤ j ∧ j ≤ 1000000 then (modL i (fun ds => if ds.length < LIM then some (ds.take j.toNat ++ [q.1] ++ ds.drop j.toNat) else none) q.2).bind fun S' => some (.non, S') else none
    | _ => none
  else none := rfl
@[simp] theorem eIdx_ap : eIdx i f S = if isL i S then (f S).bind fun p => match p.1 with
    | .int y => (sees i p.2).bind fun d => match d with
      | .lst ds => (intsD ds).bind fun ns => (firstAt ns y).bind fun j => some (.int (j : Nat), p.2)
      | _ => none
    | _ => none
  else none := rfl
@[simp] theorem gIs_bl {a b : Bool} : gIs (.bl a) (.bl b) = some (.bl (decide (a = b))) := rfl
@[simp] theorem gIsnt_bl {a b : Bool} : gIsnt (.bl a) (.bl b) = some (.bl (!decide (a = b))) := rfl
theorem lcM_nil {g : GF} {t : BF} {f : EF} {vs : List Nat} {acc : List D} {S : Ms} : lcM g t f vs [] acc S = some (acc, S) := rfl
theorem lcM_cons {g : GF} {t : BF} {f : EF} {vs : List Nat} {d : D} {ds acc : List D} {S : Ms} : lcM g t f vs (d :: ds) acc S = (g d ⟨wipeR S.r vs, S.m⟩).bind fun S1 => (t S1).bind fun p => if p.1 then (f p.2).bind fun q => if acc.length < LIM then lcM g t f vs ds (acc ++ [q.1]) ⟨restR S.r q.2.r vs, q.2.m⟩ else none
    else lcM g t f vs ds acc ⟨restR S.r p.2.r vs, p.2.m⟩ := rfl
/-- one turn of a comprehension -/
def stepC (g : GF) (t : BF) (f : EF) (vs : List Nat) (S : Ms) (d : D) : Option (Option D × Ms) := (g d ⟨wipeR S.r vs, S.m⟩).bind fun S1 => (t S1).bind fun p => if p.1 then (f p.2).bind fun q => some (some q.1, ⟨restR S.r q.2.r vs, q.2.m⟩)
    else some (none, ⟨restR S.r p.2.r vs, p.2.m⟩)
theorem lc_gen {α : Type} {g : GF} {t : BF} {f : EF} {vs : List Nat} {S : Ms} (enc : α → D) (F : α → Option D) : ∀ (xs : List α) (acc : List D), (∀ x ∈ xs, stepC g t f vs S (enc x) = some (F x, S)) → acc.length + xs.length ≤ 1000000 →
    lcM g t f vs (xs.map enc) acc S = some (acc ++ xs.filterMap F, S) := by
  intro xs
  induction xs with
  | nil => intro acc _ _; simp [lcM_nil]
  | cons x xs ih =>
    intro acc h hl
    have h1 := h x (by simp)
    have h2 : ∀ y ∈ xs, stepC g t f vs S (enc y) = some (F y, S) := fun y hy => h y (by simp [hy])
    simp only [List.length_cons] at hl
    rw [List.map_cons, lcM_cons]
    unfold stepC at h1
    obtain ⟨S1, e1, h1⟩ := bind_some h1
    obtain ⟨⟨b, S2⟩, e2, h1⟩ := bind_some h1
    rw [e1]
    simp only [Option.bind_some, e2]
    cases b with
    | true =>
      simp only [if_true] at h1 ⊢
      obtain ⟨⟨z, S3⟩, e3, h1⟩ := bind_some h1
      simp only [Option.some.injEq, Prod.mk.injEq] at h1
      obtain ⟨hF, hS⟩ := h1
      rw [e3]
      simp only [Option.bind_some]
      rw [if_pos (show acc.length < LIM by unfold LIM; omega)]
      rw [hS, ih _ h2 (by simp only [List.length_append, List.length_cons, List.length_nil]; omega)]
      rw [List.filterMap_cons, ← hF]
      simp
    | false =>
      simp only [Bool.false_eq_true, if_false, Option.some.injEq, Prod.mk.injEq] at h1 ⊢
      obtain ⟨hF, hS⟩ := h1
      rw [hS, ih _ h2 (by omega)]
      rw [List.filterMap_cons, ← hF]
theorem lc_map {α : Type} {g : GF} {t : BF} {f : EF} {vs : List Nat} {S : Ms} (enc : α → D) (F : α → D) (xs : List α) (h : ∀ x ∈ xs, stepC g t f vs S (enc x) = some (some (F x), S)) (hl : xs.length ≤ 1000000) :
    lcM g t f vs (xs.map enc) [] S = some (xs.map F, S) := by
  rw [lc_gen enc (fun x => some (F x)) xs [] h (by simpa using hl)]
  simp [List.filterMap_eq_map']
/-- a loop by an invariant of what is left -/
theorem forM_inv {α : Type} {g : GF} {b : SF} (enc : α → D) (Inv : List α → Ms → Prop) (h : ∀ x rest S, Inv (x :: rest) S → ∃ S1 S2, g (enc x) S = some S1 ∧ (b S1 = some (.nx, S2) ∨ b S1 = some (.ct, S2)) ∧ Inv rest S2) : ∀ (xs : List α) (S : Ms), Inv xs S →
    ∃ S', forM g b (xs.map enc) S = some (.nx, S') ∧ Inv [] S' := by
  intro xs
  induction xs with
  | nil => intro S i; exact ⟨S, rfl, i⟩
  | cons x xs ih =>
    intro S i
    obtain ⟨S1, S2, e1, e2, i2⟩ := h x xs S i
    obtain ⟨S', e, i'⟩ := ih S2 i2
    refine ⟨S', ?_, i'⟩
    rw [List.map_cons, forM_cons, e1]
    rcases e2 with e2 | e2 <;> simp [e2, e]
end
end M

/-! own classes: instances are cells; attributes, methods, making -/
namespace M
open PySem PySem.Spec L2
def putD (f : Str) (v : D) : List (Str × D) → List (Str × D)
  | [] => [(f, v)]
  | (g, x) :: r => if g = f then (g, v) :: r else (g, x) :: putD f v r
def lkD (f : Str) : List (Str × D) → Option D
  | [] => none
  | (g, x) :: r => if g = f then some x else lkD f r
section
variable {K : PySem.W.Frag} {W : Wd}
theorem RF.put {f : Str} {v : V} {d : D} (h : RV K W.F W.io v d) : ∀ {fv : List (Str × V)} {fd : List (Str × D)}, RF K W fv fd → RF K W (putF f v fv) (putD f d fd)
  | _, _, .nil => .cons ⟨rfl, h⟩ .nil
  | (g, x) :: r, (g', y) :: r', .cons a t => by
    obtain ⟨e, q⟩ := a
    cases e
    show RF K W (if g = f then _ else _) (if g = f then _ else _)
    by_cases hg : g = f
    · rw [if_pos hg, if_pos hg]; exact .cons ⟨rfl, h⟩ t
    · rw [if_neg hg, if_neg hg]; exact .cons ⟨rfl, q⟩ (RF.put h t)
theorem RF.look {f : Str} {d : D} : ∀ {fv : List (Str × V)} {fd : List (Str × D)}, RF K W fv fd → lkD f fd = some d → ∃ v, fv.lookup f = some v ∧ RV K W.F W.io v d
  | _, _, .nil, e => by cases e
  | (g, x) :: r, (g', y) :: r', .cons a t, e => by
    obtain ⟨ee, q⟩ := a
    cases ee
    unfold lkD at e
    by_cases hg : g = f
    · rw [if_pos hg] at e
      cases e
      refine ⟨x, ?_, q⟩
      have hb : (f == g) = true := beq_iff_eq.mpr hg.symm
      simp only [List.lookup, hb]
    · rw [if_neg hg] at e
      obtain ⟨v, e1, e2⟩ := RF.look t e
      refine ⟨v, ?_, e2⟩
      have hb : (f == g) = false := beq_eq_false_iff_ne.mpr fun z => hg z.symm
      simp only [List.lookup, hb, e1]
theorem RF.lookN {f : Str} : ∀ {fv : List (Str × V)} {fd : List (Str × D)}, RF K W fv fd → lkD f fd = none → fv.lookup f = none
  | _, _, .nil, e => rfl
  | (g, x) :: r, (g', y) :: r', .cons a t, e => by
    obtain ⟨ee, q⟩ := a
    cases ee
    unfold lkD at e
    by_cases hg : g = f
    · rw [if_pos hg] at e; cases e
    · rw [if_neg hg] at e
      have hb : (f == g) = false := beq_eq_false_iff_ne.mpr fun z => hg z.symm
      simp only [List.lookup, hb]
      exact RF.lookN t e
theorem RF.len : ∀ {fv : List (Str × V)} {fd : List (Str × D)}, RF K W fv fd → fv.length = fd.length
  | _, _, .nil => rfl
  | _, _, .cons _ t => congrArg (· + 1) (RF.len t)
end
/-- the instance of the class C that d tells -/
def objAt (C : Addr) (S : Ms) (d : D) : Option (Nat × List (Str × D)) := match d with
  | .ref k => match S.m[k]? with
    | some (.obj C' fs) => if C' = C then some (k, fs) else none
    | _ => none
  | _ => none
theorem objAt_ok {K : PySem.W.Frag} {W : Wd} {S : Ms} {s : L2.St} {C : Addr} {d : D} {v : V} {k : Nat} {fs : List (Str × D)} (R : Rel K W S s) (r : RV K W.F W.io v d) (h : objAt C S d = some (k, fs)) :
    d = .ref k ∧ S.m[k]? = some (.obj C fs) ∧ ∃ a dx fv, v = .ref a ∧ W.io[k]? = some a ∧ W.H a = some (.ins C dx fv) ∧ RF K W fv fs := by
  unfold objAt at h
  split at h
  · rename_i k0
    split at h
    · rename_i C' fs' e
      split at h
      · rename_i c
        subst c
        cases h
        obtain ⟨a, rfl, e1⟩ := r.ref_inv
        obtain ⟨dx, fv, h1, h2⟩ := R.cells _ _ a e e1
        exact ⟨rfl, e, a, dx, fv, rfl, e1, h1, h2⟩
      · cases h
    · cases h
  · cases h
def eFld (C : Addr) (a : Str) (f : EF) : EF := fun S => (f S).bind fun p => (objAt C p.2 p.1).bind fun q => (lkD a q.2).bind fun d => some (d, p.2)
def sFldM (C : Addr) (a : Str) (fo fe : EF) : SF := fun S => (fe S).bind fun p => (fo p.2).bind fun q => (objAt C q.2 q.1).bind fun r => if r.2.length < 1000 then some (.nx, ⟨q.2.r, q.2.m.set r.1 (.obj C (putD a p.1 r.2))⟩) else none
/-- a new list or dict goes into an attribute: as a cell -/
def sFldC (C : Addr) (a : Str) (fo : EF) (fc : CF) : SF := fun S => (fc S).bind fun p => (fo ⟨p.2.r, p.2.m ++ [p.1]⟩).bind fun q => (objAt C q.2 q.1).bind fun r => if r.2.length < 1000 then some (.nx, ⟨q.2.r, q.2.m.set r.1 (.obj C (putD a (.ref p.2.m.length) r.2))⟩) else none
def sFldAugM (C : Addr) (a : Str) (op : Int → Int → Int) (fo fe : EF) : SF := fun S => (fo S).bind fun q => (objAt C q.2 q.1).bind fun r => match lkD a r.2 with
  | some (.int i) => (fe q.2).bind fun p => match p.1 with
    | .int j => (objAt C p.2 q.1).bind fun r' => if r'.2.length < 1000 then some (.nx, ⟨p.2.r, p.2.m.set r'.1 (.obj C (putD a (.int (op i j)) r'.2))⟩) else none
    | _ => none
  | _ => none
def eMake (C : Addr) (n : Nat) (ff : FF) (fa : AF) : EF := fun S => (fa S).bind fun p => if p.1.length + 1 = n then (ff (.ref p.2.m.length :: p.1) (p.2.m ++ [.obj C []])).bind fun q => match q.1 with
    | .non => some (.ref p.2.m.length, ⟨p.2.r, q.2⟩)
    | _ => none
  else none
def eMeth (C : Addr) (m : Str) (n : Nat) (ff : FF) (fo : EF) (fa : AF) : EF := fun S => (fo S).bind fun o => (objAt C o.2 o.1).bind fun r => match lkD m r.2 with
  | none => (fa o.2).bind fun p => if p.1.length + 1 = n then (ff (o.1 :: p.1) p.2.m).bind fun q => some (q.1, ⟨p.2.r, q.2⟩) else none
  | some _ => none
structure Fmm (P : Program) (w : World) (K : PySem.W.Frag) (mg : Str → Option Value) (base : Heap) (k : Nat) (C : Addr) (m : Str) (ps : List Str) (ff : FF) : Prop where
  ex : ∃ (f : Addr) (fd : FuncData), FnOk P w K mg base CX0 k f fd ps (spM K ps.length ff) ∧ Meth K C m f ∧ Binds K fd ps []
structure Fii (P : Program) (w : World) (K : PySem.W.Frag) (mg : Str → Option Value) (base : Heap) (k : Nat) (C : Addr) (ps : List Str) (ff : FF) : Prop where
  ex : ∃ (f : Addr) (fd : FuncData), FnOk P w K mg base CX0 k f fd ps (spM K ps.length ff) ∧ Mk K C f ∧ Binds K fd ps []
section
variable {X : Cx} {C : Addr} {a m : Str} {e o value : Expr} {es : List Expr} {fe fo : EF} {fa : AF} {fc : CF} {pos pos' apos p : Pos} {ps : List Str} {n k : Nat} {ff : FF} {x : Str}
theorem me_fld (c : Cls X.K C) (na : NoAttr X.K C a) (he : ME X e fe) (hb : attributeBase e a X.env (eval e X.env) = eval e X.env := by rfl) : ME X (.Attribute e a pos) (eFld C a fe) := by
  obtain ⟨t, p, q⟩ := he
  refine ⟨_, pe_fld p hb, fun S d S' h W s Q R k => ?_⟩
  obtain ⟨⟨d1, S1⟩, e1, h⟩ := bind_some h
  obtain ⟨⟨k1, fs⟩, e2, h⟩ := bind_some h
  obtain ⟨d2, e3, h⟩ := bind_some h
  cases h
  refine q S _ _ e1 W s _ R fun v W1 R1 f1 r1 => ?_
  obtain ⟨_, _, b, dx, fv, rfl, _, h1, h2⟩ := objAt_ok R1 r1 e2
  obtain ⟨v2, e4, r2⟩ := h2.look e3
  exact ⟨b, C, dx, fv, v2, rfl, h1, c, na, e4, k v2 W1 R1 f1 r2⟩
theorem ms_fld (c : Cls X.K C) (na : NoAttr X.K C a) (ho : ME X o fo) (he : ME X value fe) (hs : swapsWith value (some (.Attribute o a pos')) pos.line X.env = pure false := by rfl) : MS X (.Assign [.Attribute o a pos'] value pos) (sFldM C a fo fe) := by
  obtain ⟨t, p, q⟩ := ho
  obtain ⟨t2, p2, q2⟩ := he
  refine ⟨_, ps_fld p p2 hs, fun S fl S' h W s D R k => ?_⟩
  obtain ⟨⟨d1, S1⟩, e1, h⟩ := bind_some h
  obtain ⟨⟨d2, S2⟩, e2, h⟩ := bind_some h
  obtain ⟨⟨k1, fs⟩, e3, h⟩ := bind_some h
  simp only at h
  split at h
  · rename_i hl
    cases h
    refine q2 S _ _ e1 W s _ R fun y W1 R1 f1 r1 => ?_
    refine q S1 _ _ e2 W1 s _ R1 fun v W2 R2 f2 r2 => ?_
    obtain ⟨_, _, b, dx, fv, rfl, hio, h1, h2⟩ := objAt_ok R2 r2 e3
    obtain ⟨R3, f3⟩ := R2.wrCell (o := .ins C dx (putF a y fv)) hio (c' := .obj C (putD a d1 fs)) ⟨dx, _, upd_same, h2.put (r1.up f2)⟩
    exact ⟨b, C, dx, fv, rfl, h1, c, na, by rw [h2.len]; exact hl, k (W2.wr b _) _ R3 ((f1.trans f2).trans f3)⟩
  · cases h
theorem ms_fldC (c : Cls X.K C) (na : NoAttr X.K C a) (ho : ME X o fo) (he : MF X value fc) (hs : swapsWith value (some (.Attribute o a pos')) pos.line X.env = pure false := by rfl) : MS X (.Assign [.Attribute o a pos'] value pos) (sFldC C a fo fc) := by
  obtain ⟨t, p, q⟩ := ho
  obtain ⟨t2, p2, q2⟩ := he
  refine ⟨_, ps_fld p p2 hs, fun S fl S' h W s D R k => ?_⟩
  obtain ⟨⟨d1, S1⟩, e1, h⟩ := bind_some h
  obtain ⟨⟨d2, S2⟩, e2, h⟩ := bind_some h
  obtain ⟨⟨k1, fs⟩, e3, h⟩ := bind_some h
  simp only at h
  split at h
  · rename_i hl
    cases h
    refine q2 S _ _ e1 W s _ R fun y W1 R1 f1 hp nw => ?_
    obtain ⟨R1', f1', r1⟩ := R1.addCell f1 hp nw
    refine q _ _ _ e2 (W1.cl y) s _ R1' fun v W2 R2 f2 r2 => ?_
    obtain ⟨_, _, b, dx, fv, rfl, hio, h1, h2⟩ := objAt_ok R2 r2 e3
    obtain ⟨R3, f3⟩ := R2.wrCell (o := .ins C dx (putF a (.ref y) fv)) hio (c' := .obj C (putD a (.ref S1.m.length) fs)) ⟨dx, _, upd_same, h2.put (r1.up f2)⟩
    exact ⟨b, C, dx, fv, rfl, h1, c, na, by rw [h2.len]; exact hl, k (W2.wr b _) _ R3 ((f1'.trans f2).trans f3)⟩
  · cases h
theorem ms_fldAug {op : Operator} {f : Int → Int → Int} (hop : InOp X op (fun x y H Q => ∃ i j, x = .int i ∧ y = .int j ∧ Q (.int (f i j)) H)) (c : Cls X.K C) (na : NoAttr X.K C a) (ho : ME X o fo) (he : ME X value fe) : MS X (.AugAssign (.Attribute o a pos') op value pos) (sFldAugM C a f fo fe) := by
  obtain ⟨t, p, q⟩ := ho
  obtain ⟨t2, p2, q2⟩ := he
  refine ⟨_, ps_fldaug p p2 hop, fun S fl S' h W s D R k => ?_⟩
  obtain ⟨⟨d1, S1⟩, e1, h⟩ := bind_some h
  obtain ⟨⟨k1, fs⟩, e2, h⟩ := bind_some h
  simp only at h
  split at h
  · rename_i i ei
    obtain ⟨⟨d2, S2⟩, e3, h⟩ := bind_some h
    simp only at h
    split at h
    · rename_i j
      obtain ⟨⟨k2, fs2⟩, e4, h⟩ := bind_some h
      simp only at h
      split at h
      · rename_i hl
        cases h
        refine q S _ _ e1 W s _ R fun v W1 R1 f1 r1 => ?_
        obtain ⟨_, _, b, dx, fv, rfl, hio, h1, h2⟩ := objAt_ok R1 r1 e2
        obtain ⟨v2, e5, r2⟩ := h2.look ei
        cases r2.int_inv
        refine ⟨b, C, dx, fv, _, rfl, h1, c, na, e5, ?_⟩
        refine q2 S1 _ _ e3 W1 s _ R1 fun y W2 R2 f2 r3 => ?_
        cases r3.int_inv
        obtain ⟨_, _, b', dx', fv', eb, hio', h1', h2'⟩ := objAt_ok R2 (r1.up f2) e4
        cases eb
        obtain ⟨R3, f3⟩ := R2.wrCell (o := .ins C dx' (putF a (.int (f i j)) fv')) hio' (c' := .obj C (putD a (.int (f i j)) fs2)) ⟨dx', _, upd_same, h2'.put (.int _)⟩
        exact ⟨i, j, rfl, rfl, dx', fv', h1', by rw [h2'.len]; exact hl, k (W2.wr b _) _ R3 ((f1.trans f2).trans f3)⟩
      · cases h
    · cases h
  · cases h
theorem ma_nil0 {K : PySem.W.Frag} : TAok K tNil aNil := fun S d S' h W s Q R k => by cases h; exact k _ W R .refl .nil
theorem te_meth {ps : List Str} {t : TE} {ta : TA} {E : XK} (q : TEok X.K t fo) (qa : TAok X.K ta fa) : TEok X.K (tMeth C m (spM X.K n ff) [] E t ta) (eMeth C m n ff fo fa) := by
  intro S d S' h W s Q R k
  obtain ⟨⟨d1, S1⟩, e1, h⟩ := bind_some h
  obtain ⟨⟨k1, fs⟩, e2, h⟩ := bind_some h
  simp only at h
  split at h
  · rename_i el
    obtain ⟨⟨ds, S2⟩, e3, h⟩ := bind_some h
    simp only at h
    split at h
    · rename_i hn
      obtain ⟨⟨d3, m3⟩, e4, h⟩ := bind_some h
      cases h
      refine q S _ _ e1 W s _ R fun v W1 R1 f1 r1 => ?_
      obtain ⟨_, _, b, dx, fv, rfl, hio, h1, h2⟩ := objAt_ok R1 r1 e2
      refine ⟨b, dx, fv, rfl, h1, h2.lookN el, ?_⟩
      refine qa S1 _ _ e3 W1 s _ R1 fun vs W2 R2 f2 r2 => ?_
      refine ⟨by simp only [List.append_nil, List.length_cons]; rw [r2.length]; exact hn, W2, _, S2.m, _, _, rfl, R2.bare, by rw [List.append_nil]; exact .cons (r1.up f2) r2, e4, fun v W3 R3 f3 r3 => ?_⟩
      obtain ⟨R4, f4⟩ := R2.back R3 f3
      exact k v W3 R4 ((f1.trans f2).trans f4) r3
    · cases h
  · cases h
theorem me_meth (c : Cls X.K C) (G : Fmm X.prog X.w X.K X.mg X.base k C m ps ff) (hr : Room k X.A) (ho : ME X o fo) (ha : MA X (e :: es) fa) (hn : ps.length = n := by rfl) {pl : Sem Bool}
    (hst : starEach (e :: es) X.env = (false, eval e X.env) :: starEach es X.env := by rfl) (hpl : (backTo pos (starEach es X.env)).any (·.1) = false := by rfl)
    (ht : eval (.Call (.Attribute o m apos) (e :: es) [] pos) X.env = (do
      let ov ← eval o X.env
      standAt apos.atName
      let (f, first) ← holding [ov] (getMethod ov m pl)
      callWith pos f first (backTo pos (starEach (e :: es) X.env)) (backToKw pos (keywordEach [] X.env))) := by rfl) :
    ME X (.Call (.Attribute o m apos) (e :: es) [] pos) (eMeth C m n ff fo fa) := by
  obtain ⟨t, p, q⟩ := ho
  obtain ⟨t2, p2, q2⟩ := ha
  obtain ⟨f, fd, F, M, B⟩ := G.ex
  rw [hn] at F
  exact ⟨_, pe_meth (pl := pl) p c M F hr B .nil pass0 p2 hst hpl ht, te_meth (ps := ps) q q2⟩
theorem me_meth0 (c : Cls X.K C) (G : Fmm X.prog X.w X.K X.mg X.base k C m ps ff) (hr : Room k X.A) (ho : ME X o fo) (hn : ps.length = n := by rfl) {pl : Sem Bool}
    (ht : eval (.Call (.Attribute o m apos) [] [] pos) X.env = (do
      let ov ← eval o X.env
      standAt apos.atName
      let (f, first) ← holding [ov] (getMethod ov m pl)
      callWith pos f first (backTo pos (starEach [] X.env)) (backToKw pos (keywordEach [] X.env))) := by rfl) :
    ME X (.Call (.Attribute o m apos) [] [] pos) (eMeth C m n ff fo aNil) := by
  obtain ⟨t, p, q⟩ := ho
  obtain ⟨f, fd, F, M, B⟩ := G.ex
  rw [hn] at F
  exact ⟨_, pe_meth0 (pl := pl) p c M F hr B .nil pass0 ht, te_meth (ps := ps) q ma_nil0⟩
theorem te_make {ta : TA} {E : XK} (qa : TAok X.K ta fa) : TEok X.K (tMake C (spM X.K n ff) [] E ta) (eMake C n ff fa) := by
  intro S d S' h W s Q R k
  obtain ⟨⟨ds, S1⟩, e1, h⟩ := bind_some h
  simp only at h
  split at h
  · rename_i hn
    obtain ⟨⟨d2, m2⟩, e2, h⟩ := bind_some h
    simp only at h
    split at h
    · cases h
      refine qa S _ _ e1 W s _ R fun vs W1 R1 f1 r1 => ?_
      intro x dx nx ndx ne
      obtain ⟨R2, f2⟩ := R1.wrNew (o := .own x) ndx
      have nx2 : (W1.wr dx (.own x)).H x = none := by
        show upd W1.H dx _ x = none
        rw [upd_ne ne.symm]; exact nx
      obtain ⟨R3, f3⟩ := R2.wrNew (o := .ins C dx []) nx2
      have nw : New X.K ((W1.wr dx (.own x)).wr x (.ins C dx [])) S1 s x (.obj C []) :=
        ⟨R1.freshF nx, R1.freshIo nx, R1.freshOwn nx, dx, [], upd_same, .nil⟩
      obtain ⟨R4, f4, r4⟩ := R3.addCell (f2.trans f3) nx nw
      refine ⟨by simp only [List.append_nil, List.length_cons]; rw [r1.length]; exact hn, _, _, _, _, _, rfl, R4.bare, by rw [List.append_nil]; exact .cons r4 (r1.up f4), e2, fun v W5 R5 f5 r5 => ?_⟩
      obtain ⟨R6, f6⟩ := R4.back R5 f5
      exact ⟨r5.non_inv, k _ W5 R6 ((f1.trans f4).trans f6) (r4.up f6)⟩
    · cases h
  · cases h
theorem me_make (G : Fii X.prog X.w X.K X.mg X.base k C ps ff) (hr : Room (k + 1) X.A) (hm : X.mg x = some (.ref C)) (ha : MA X (e :: es) fa) (hn : ps.length = n := by rfl)
    (hg : Gl X x := by rfl) (hdb : (x == ("__debug__" : Str)) = false := by decide) (he : starEach (e :: es) X.env = (false, eval e X.env) :: starEach es X.env := by rfl) (hpl : (backTo pos (starEach es X.env)).any (·.1) = false := by rfl) :
    ME X (.Call (.Name x p) (e :: es) [] pos) (eMake C n ff fa) := by
  obtain ⟨t2, p2, q2⟩ := ha
  obtain ⟨f, fd, F, M, B⟩ := G.ex
  rw [hn] at F
  exact ⟨_, pe_make M F hr hg hm B .nil pass0 p2 hdb he hpl, te_make q2⟩
theorem me_make0 (G : Fii X.prog X.w X.K X.mg X.base k C ps ff) (hr : Room (k + 1) X.A) (hm : X.mg x = some (.ref C)) (hn : ps.length = n := by rfl)
    (hg : Gl X x := by rfl) (hdb : (x == ("__debug__" : Str)) = false := by decide) : ME X (.Call (.Name x p) [] [] pos) (eMake C n ff aNil) := by
  obtain ⟨f, fd, F, M, B⟩ := G.ex
  rw [hn] at F
  exact ⟨_, pe_make0 M F hr hg hm B .nil pass0 hdb, te_make ma_nil0⟩
end
section
variable {P : Program} {w : World} {K : PySem.W.Frag} {mg : Str → Option Value} {base : Heap}
theorem fmm {x qual : Str} {st : Stmt} {f C : Addr} {fd : FuncData} {N ps : List Str} {k : Nat} {b : SF} (F : Fun K x qual st f fd) (hm : Meth K C x f) (S : FnScope N ps (defScope st))
    (hbi : ∀ (kV doc pm : Value) (an : Option Addr) (cdv ct : Value) (us : List Value), us.length = ps.length → bindArgs (PySem.W.fnOf x qual (defArgs st) (defBody st) (defScope st) .none kV doc pm an cdv ct) ⟨us, []⟩ = pure (ps.zip us))
    (hb : ∀ (cdv : Value) (A : Around) (outer : List Env) (s : Shared) (H : Hp) (E : XK), Room k (A.deeper (PyProof.Rows.envOfC qual (defScope st) s.heap.objs.size f cdv)) →
      MSs (cxOf CX0 P w K mg base N qual (defScope st) f cdv A outer s H E).nox (defBody st) b) : Fmm P w K mg base (k + 1) C x ps (fnM N.length b) :=
  ⟨f, fd, fn_ok F S hb, hm, F.binds hbi⟩
theorem fii {x qual : Str} {st : Stmt} {f C : Addr} {fd : FuncData} {N ps : List Str} {k : Nat} {b : SF} (F : Fun K x qual st f fd) (hm : Mk K C f) (S : FnScope N ps (defScope st))
    (hbi : ∀ (kV doc pm : Value) (an : Option Addr) (cdv ct : Value) (us : List Value), us.length = ps.length → bindArgs (PySem.W.fnOf x qual (defArgs st) (defBody st) (defScope st) .none kV doc pm an cdv ct) ⟨us, []⟩ = pure (ps.zip us))
    (hb : ∀ (cdv : Value) (A : Around) (outer : List Env) (s : Shared) (H : Hp) (E : XK), Room k (A.deeper (PyProof.Rows.envOfC qual (defScope st) s.heap.objs.size f cdv)) →
      MSs (cxOf CX0 P w K mg base N qual (defScope st) f cdv A outer s H E).nox (defBody st) b) : Fii P w K mg base (k + 1) C ps (fnM N.length b) :=
  ⟨f, fd, fn_ok F S hb, hm, F.binds hbi⟩
end
/-- what is asked of the law, with no address in it -/
def spLw (K : PySem.W.Frag) : Sp := fun vs H Q _ => ∃ (a : Addr) (ns : List Int), vs = [.ref a] ∧ SqL K H a (ns.map V.int) ∧ ns.length ≤ 63 ∧ (∀ z ∈ ns, Builtin.Int.intBits z ≤ 1048576) ∧ ∀ v H', v = .bl true → Q v H'
theorem spLw_imp {K : PySem.W.Frag} {ff : FF} (h : ∀ ns : List Int, ns.length ≤ 63 → (∀ z ∈ ns, Builtin.Int.intBits z ≤ 1048576) → ∃ m, ff [.sc (ns.map D.int)] [] = some (.bl true, m)) : ∀ vs H Q E, spLw K vs H Q E → spM K 1 ff vs H Q E := fun vs H Q E ⟨a, ns, e, hS, hl, hb, k⟩ => by
  obtain ⟨m', em⟩ := h ns hl hb
  subst e
  exact ⟨rfl, ⟨H, H, []⟩, [.sc (ns.map D.int)], [], .bl true, m', rfl, ⟨fun _ _ h => h, List.nodup_nil, fun a h => by simp at h, rfl, fun k c a h => by simp at h, rfl, fun i d h => by simp at h, fun i c h => by simp at h, fun i j c c' a h => by simp at h⟩,
    .cons (.sc hS (RVs.ints ns)) .nil, em, fun v W' _ _ r => k v _ r.bl_inv⟩
section
variable {C : Addr} {a m : Str} {S : Ms} {f fo fe : EF} {fa : AF} {fc : CF} {n : Nat} {ff : FF} {op : Int → Int → Int}
@[simp] theorem eFld_ap : eFld C a f S = (f S).bind fun p => (objAt C p.2 p.1).bind fun q => (lkD a q.2).bind fun d => some (d, p.2) := rfl
@[simp] theorem sFldM_ap : sFldM C a fo fe S = (fe S).bind fun p => (fo p.2).bind fun q => (objAt C q.2 q.1).bind fun r => if r.2.length < 1000 then some (.nx, ⟨q.2.r, q.2.m.set r.1 (.obj C (putD a p.1 r.2))⟩) else none := rfl
@[simp] theorem sFldC_ap : sFldC C a fo fc S = (fc S).bind fun p => (fo ⟨p.2.r, p.2.m ++ [p.1]⟩).bind fun q => (objAt C q.2 q.1).bind fun r => if r.2.length < 1000 then some (.nx, ⟨q.2.r, q.2.m.set r.1 (.obj C (putD a (.ref p.2.m.length) r.2))⟩) else none := rfl
@[simp] theorem sFldAugM_ap : sFldAugM C a op fo fe S = (fo S).bind fun q => (objAt C q.2 q.1).bind fun r => match lkD a r.2 with
  | some (.int i) => (fe q.2).bind fun p => match p.1 with
    | .int j => (objAt C p.2 q.1).bind fun r' => if r'.2.length < 1000 then some (.nx, ⟨p.2.r, p.2.m.set r'.1 (.obj C (putD a (.int (op i j)) r'.2))⟩) else none
    | _ => none
  | _ => none := rfl
@[simp] theorem eMake_ap : eMake C n ff fa S = (fa S).bind fun p => if p.1.length + 1 = n then (ff (.ref p.2.m.length :: p.1) (p.2.m ++ [.obj C []])).bind fun q => match q.1 with
    | .non => some (.ref p.2.m.length, ⟨p.2.r, q.2⟩)
    | _ => none
  else none := rfl
@[simp] theorem eMeth_ap : eMeth C m n ff fo fa S = (fo S).bind fun o => (objAt C o.2 o.1).bind fun r => match lkD m r.2 with
  | none => (fa o.2).bind fun p => if p.1.length + 1 = n then (ff (o.1 :: p.1) p.2.m).bind fun q => some (q.1, ⟨p.2.r, q.2⟩) else none
  | some _ => none := rfl
@[simp] theorem objAt_ref {k : Nat} : objAt C S (.ref k) = match S.m[k]? with
    | some (.obj C' fs) => if C' = C then some (k, fs) else none
    | _ => none := rfl
@[simp] theorem lkD_nil : lkD a [] = none := rfl
@[simp] theorem lkD_cons {g : Str} {x : D} {r : List (Str × D)} : lkD a ((g, x) :: r) = if g = a then some x else lkD a r := rfl
@[simp] theorem putD_nil {v : D} : putD a v [] = [(a, v)] := rfl
@[simp] theorem putD_cons {g : Str} {x v : D} {r : List (Str × D)} : putD a v ((g, x) :: r) = if g = a then (g, v) :: r else (g, x) :: putD a v r := rfl
end
end M

/-! dicts with tuple keys (as cells), lists in attributes, lists of lists that change, [::-1] -/
namespace M
open PySem PySem.Spec L2
/-! keys -/
def keyD : D → Option Key
  | .int i => some (.inl i)
  | .str s => some (.inr s)
  | _ => none
def keysD : List D → Option (List Key)
  | [] => some []
  | d :: r => (keyD d).bind fun k => (keysD r).bind fun q => some (k :: q)
theorem keysD_ok {K : PySem.W.Frag} {F : Hp} {io : List Addr} : ∀ {vs : List V} {ds : List D} {ks : List Key}, RVs K F io vs ds → keysD ds = some ks → vs = ks.map kV
  | _, _, _, .nil, h => by cases h; rfl
  | _, _, _, .cons r t, h => by
    obtain ⟨k, e1, h⟩ := bind_some h
    obtain ⟨q, e2, h⟩ := bind_some h
    cases h
    have ih := keysD_ok t e2
    subst ih
    unfold keyD at e1
    split at e1
    · cases e1; cases r.int_inv; rfl
    · cases e1; cases r.str_inv; rfl
    · cases e1
abbrev KF := Ms → Option (List Key × Ms)
def TKok (K : PySem.W.Frag) (t : TE) (f : KF) : Prop := ∀ S ks S', f S = some (ks, S') → ∀ W s (Q : VK), Rel K W S s → (∀ b W', Rel K W' S' s → Fr W S.r s W' S'.r s → W'.F b = some (.tup (ks.map kV)) → Q (.ref b) W'.H) → t s W.H Q
def MKy (X : Cx) (e : Expr) (f : KF) : Prop := ∃ t, PE X e t ∧ TKok X.K t f
def kTup (a : AF) : KF := fun S => (a S).bind fun p => (keysD p.1).bind fun ks => if p.1.length ≤ LIM then some (ks, p.2) else none
/-- what is kept under a key -/
def vT (kds : List (List Key × D)) (k : List Key) : Option D := match kds with
  | [] => none
  | (j, d) :: r => if j = k then some d else vT r k
def pT (kds : List (List Key × D)) (k : List Key) (d : D) : List (List Key × D) := if (vT kds k).isSome then kds.map fun kd => if kd.1 = k then (kd.1, d) else kd else kds ++ [(k, d)]
section
variable {K : PySem.W.Frag} {W : Wd}
theorem RT.look {k : List Key} : ∀ {kvs : List (List Key × V)} {kds : List (List Key × D)}, RT K W kvs kds → (vT kds k = none → valV kvs k = none) ∧ ∀ d, vT kds k = some d → ∃ v, valV kvs k = some v ∧ RV K W.F W.io v d
  | _, _, .nil => ⟨fun _ => rfl, fun d h => by cases h⟩
  | (j, x) :: r, (j', y) :: r', .cons a t => by
    obtain ⟨e, q⟩ := a
    cases e
    obtain ⟨i1, i2⟩ := RT.look (k := k) t
    unfold vT
    by_cases h : j = k
    · rw [if_pos h, valV_pos (p := (j, x)) h]
      exact ⟨(fun z => by cases z), (fun d z => by cases z; exact ⟨x, rfl, q⟩)⟩
    · rw [if_neg h, valV_neg (p := (j, x)) h]
      exact ⟨i1, i2⟩
theorem RT.len : ∀ {kvs : List (List Key × V)} {kds : List (List Key × D)}, RT K W kvs kds → kvs.length = kds.length
  | _, _, .nil => rfl
  | _, _, .cons _ t => congrArg (· + 1) (RT.len t)
theorem RT.repl {k : List Key} {v : V} {d : D} (h : RV K W.F W.io v d) : ∀ {kvs : List (List Key × V)} {kds : List (List Key × D)}, RT K W kvs kds → RT K W (kvs.map fun kv => if kv.1 = k then (kv.1, v) else kv) (kds.map fun kd => if kd.1 = k then (kd.1, d) else kd)
  | _, _, .nil => .nil
  | (j, x) :: r, (j', y) :: r', .cons a t => by
    obtain ⟨e, q⟩ := a
    cases e
    refine .cons ?_ (RT.repl h t)
    by_cases c : j = k
    · dsimp only; rw [if_pos c, if_pos c]; exact ⟨rfl, h⟩
    · dsimp only; rw [if_neg c, if_neg c]; exact ⟨rfl, q⟩
theorem RT.snoc {k : List Key} {v : V} {d : D} (h : RV K W.F W.io v d) : ∀ {kvs : List (List Key × V)} {kds : List (List Key × D)}, RT K W kvs kds → RT K W (kvs ++ [(k, v)]) (kds ++ [(k, d)])
  | _, _, .nil => .cons ⟨rfl, h⟩ .nil
  | _, _, .cons a t => .cons a (RT.snoc h t)
theorem RT.put {k : List Key} {v : V} {d : D} (h : RV K W.F W.io v d) {kvs : List (List Key × V)} {kds : List (List Key × D)} (r : RT K W kvs kds) : RT K W (putK kvs k v) (pT kds k d) := by
  unfold putK pT
  have hs : (kvs.any fun kv => decide (kv.1 = k)) = (vT kds k).isSome := by
    rw [valV_any]
    obtain ⟨i1, i2⟩ := r.look (k := k)
    cases e : vT kds k with
    | none => rw [i1 e]; rfl
    | some d' => obtain ⟨v', e', _⟩ := i2 d' e; rw [e']; rfl
  rw [hs]
  split
  · exact r.repl h
  · exact r.snoc h
end
/-- the dict that d tells -/
def dTAt (S : Ms) (d : D) : Option (Nat × List (List Key × D)) := match d with
  | .ref k => match S.m[k]? with
    | some (.dT kds) => some (k, kds)
    | _ => none
  | _ => none
theorem dTAt_ok {K : PySem.W.Frag} {W : Wd} {S : Ms} {s : L2.St} {d : D} {v : V} {k : Nat} {kds : List (List Key × D)} (R : Rel K W S s) (r : RV K W.F W.io v d) (h : dTAt S d = some (k, kds)) :
    d = .ref k ∧ ∃ a kvs, v = .ref a ∧ W.io[k]? = some a ∧ W.H a = some (.dT kvs) ∧ RT K W kvs kds := by
  unfold dTAt at h
  split at h
  · rename_i k0
    split at h
    · rename_i kds' e
      cases h
      obtain ⟨a, rfl, e1⟩ := r.ref_inv
      obtain ⟨kvs, h1, h2⟩ := R.cells _ _ a e e1
      exact ⟨rfl, a, kvs, rfl, e1, h1, h2⟩
    · cases h
  · cases h
def eDGetT (fd : EF) (fk : KF) : EF := fun S => (fd S).bind fun p => (fk p.2).bind fun q => (dTAt q.2 p.1).bind fun r => (vT r.2 q.1).bind fun d => some (d, q.2)
def bDInT (neg : Bool) (fk : KF) (fd : EF) : BF := fun S => (fk S).bind fun q => (fd q.2).bind fun p => (dTAt p.2 p.1).bind fun r => some (xor neg (vT r.2 q.1).isSome, p.2)
def sDPutT (fd : EF) (fk : KF) (fv : EF) : SF := fun S => (fv S).bind fun v => (fd v.2).bind fun p => (fk p.2).bind fun q => (dTAt q.2 p.1).bind fun r => if r.2.length < LIM then some (.nx, ⟨q.2.r, q.2.m.set r.1 (.dT (pT r.2 q.1 v.1))⟩) else none
def cDT : CF := fun S => some (.dT [], S)
/-- the list that d tells, as a cell -/
def lAt (S : Ms) (d : D) : Option (Nat × List D) := match d with
  | .ref k => match S.m[k]? with
    | some (.lst ds) => some (k, ds)
    | _ => none
  | _ => none
theorem lAt_ok {K : PySem.W.Frag} {W : Wd} {S : Ms} {s : L2.St} {d : D} {v : V} {k : Nat} {ds : List D} (R : Rel K W S s) (r : RV K W.F W.io v d) (h : lAt S d = some (k, ds)) :
    d = .ref k ∧ ∃ a vs, v = .ref a ∧ W.io[k]? = some a ∧ W.H a = some (.lst vs) ∧ RVs K W.F W.io vs ds := by
  unfold lAt at h
  split at h
  · rename_i k0
    split at h
    · rename_i kds' e
      cases h
      obtain ⟨a, rfl, e1⟩ := r.ref_inv
      obtain ⟨kvs, h1, h2⟩ := R.cells _ _ a e e1
      exact ⟨rfl, a, kvs, rfl, e1, h1, h2⟩
    · cases h
  · cases h
def eAppE (fo fe : EF) : EF := fun S => (fo S).bind fun p => (lAt p.2 p.1).bind fun _ => (fe p.2).bind fun q => (lAt q.2 p.1).bind fun r => if r.2.length < LIM then some (.non, ⟨q.2.r, q.2.m.set r.1 (.lst (r.2 ++ [q.1]))⟩) else none
def gSubE (fo fi : EF) : GF := fun d S => (fo S).bind fun p => (fi p.2).bind fun q => (lAt q.2 p.1).bind fun r => match q.1 with
  | .int i => (ixN r.2.length i).bind fun j => some ⟨q.2.r, q.2.m.set r.1 (.lst (r.2.set j d))⟩
  | _ => none
/-- a new object, kept as a cell -/
def eCel (c : CF) : EF := fun S => (c S).bind fun p => some (.ref p.2.m.length, ⟨p.2.r, p.2.m ++ [p.1]⟩)
def cRev (f : EF) : CF := fun S => (f S).bind fun p => (seqD p.1).bind fun ds => match p.1 with
  | .tup _ => none
  | _ => some (.lst ds.reverse, p.2)
section
variable {X : Cx} {e o i value : Expr} {es : List Expr} {fe fo fi fd : EF} {fk : KF} {fa : AF} {fc : CF} {pos pos' apos p1 p2 p3 : Pos} {k : Nat}
theorem mk_tup (h : MA X es fa) : MKy X (.Tuple es k pos) (kTup fa) := by
  obtain ⟨t, p, q⟩ := h
  refine ⟨_, pe_tup p, fun S d S' h W s Q R k => ?_⟩
  obtain ⟨⟨ds, S1⟩, e1, h⟩ := bind_some h
  obtain ⟨ks, e2, h⟩ := bind_some h
  simp only at h
  split at h
  · rename_i c
    cases h
    refine q S _ _ e1 W s _ R fun vs W1 R1 f1 r1 => ?_
    refine ⟨by rw [r1.length]; exact Nat.le_trans c lim_line, fun p hp => ?_⟩
    have hk := keysD_ok r1 e2
    obtain ⟨R2, f2⟩ := R1.al (o := .tup vs) hp
    exact k p _ R2 (f1.trans f2) (by rw [← hk]; exact upd_same)
  · cases h
theorem me_dgetT (hu : X.A.units + 1 < cLine) (ho : ME X o fd) (hi : MKy X i fk) (hs : NoSl i := by intro _ _; rfl) : ME X (.Subscript o i pos) (eDGetT fd fk) := by
  obtain ⟨t, p, q⟩ := ho
  obtain ⟨t2, p2, q2⟩ := hi
  refine ⟨_, pe_dget hu p p2 hs, fun S d S' h W s Q R k => ?_⟩
  obtain ⟨⟨d1, S1⟩, e1, h⟩ := bind_some h
  obtain ⟨⟨ks, S2⟩, e2, h⟩ := bind_some h
  obtain ⟨⟨k1, kds⟩, e3, h⟩ := bind_some h
  obtain ⟨d2, e4, h⟩ := bind_some h
  cases h
  refine q S _ _ e1 W s _ R fun v W1 R1 f1 r1 => ?_
  refine q2 S1 _ _ e2 W1 s _ R1 fun b W2 R2 f2 hb => ?_
  obtain ⟨_, a, kvs, rfl, _, h1, h2⟩ := dTAt_ok R2 (r1.up f2) e3
  obtain ⟨v2, e5, r2⟩ := h2.look.2 _ e4
  exact ⟨a, v2, rfl, .inr ⟨kvs, ks, b, .inl h1, rfl, R2.sub _ _ hb, e5.symm⟩, k v2 W2 R2 (f1.trans f2) r2⟩
theorem RT.isSome {K : PySem.W.Frag} {W : Wd} {k : List Key} {kvs : List (List Key × V)} {kds : List (List Key × D)} (r : RT K W kvs kds) : (valV kvs k).isSome = (vT kds k).isSome := by
  obtain ⟨i1, i2⟩ := r.look (k := k)
  cases e : vT kds k with
  | none => rw [i1 e]; rfl
  | some d' => obtain ⟨v', e', _⟩ := i2 d' e; rw [e']; rfl
theorem mt_dinT (hu : X.A.units + 1 < cLine) (hi : MKy X i fk) (ho : ME X o fd) (h1 : behindInMarks .In o = false := by rfl) : MT X (.Compare i [.In] [o] pos) (bDInT false fk fd) := by
  obtain ⟨t, p, q⟩ := ho
  obtain ⟨t2, p2, q2⟩ := hi
  refine ⟨_, pt_cmp (pc_din hu p2 p) h1, fun S d S' h W s Q R k => ?_⟩
  obtain ⟨⟨ks, S1⟩, e1, h⟩ := bind_some h
  obtain ⟨⟨d1, S2⟩, e2, h⟩ := bind_some h
  obtain ⟨⟨k1, kds⟩, e3, h⟩ := bind_some h
  cases h
  refine q2 S _ _ e1 W s _ R fun b W1 R1 f1 hb => ?_
  refine q S1 _ _ e2 W1 s _ R1 fun v W2 R2 f2 r2 => ?_
  obtain ⟨_, a, kvs, rfl, _, g1, g2⟩ := dTAt_ok R2 r2 e3
  refine ⟨a, valV kvs ks, rfl, .inr ⟨kvs, ks, b, .inl g1, rfl, R2.sub _ _ (f2.fx _ _ hb), rfl⟩, _, rfl, ?_⟩
  rw [g2.isSome]
  have := k W2 R2 (f1.trans f2)
  simpa using this
theorem mt_dnotinT (hu : X.A.units + 1 < cLine) (hi : MKy X i fk) (ho : ME X o fd) (h1 : behindInMarks .NotIn o = false := by rfl) : MT X (.Compare i [.NotIn] [o] pos) (bDInT true fk fd) := by
  obtain ⟨t, p, q⟩ := ho
  obtain ⟨t2, p2, q2⟩ := hi
  refine ⟨_, pt_cmp (pc_dnotin hu p2 p) h1, fun S d S' h W s Q R k => ?_⟩
  obtain ⟨⟨ks, S1⟩, e1, h⟩ := bind_some h
  obtain ⟨⟨d1, S2⟩, e2, h⟩ := bind_some h
  obtain ⟨⟨k1, kds⟩, e3, h⟩ := bind_some h
  cases h
  refine q2 S _ _ e1 W s _ R fun b W1 R1 f1 hb => ?_
  refine q S1 _ _ e2 W1 s _ R1 fun v W2 R2 f2 r2 => ?_
  obtain ⟨_, a, kvs, rfl, _, g1, g2⟩ := dTAt_ok R2 r2 e3
  refine ⟨a, valV kvs ks, rfl, .inr ⟨kvs, ks, b, .inl g1, rfl, R2.sub _ _ (f2.fx _ _ hb), rfl⟩, _, rfl, ?_⟩
  rw [g2.isSome]
  have := k W2 R2 (f1.trans f2)
  simpa using this
theorem ms_dputT (hu : X.A.units + 1 < cLine) (ho : ME X o fd) (hi : MKy X i fk) (hv : ME X value fe) (hs : swapsWith value (some (.Subscript o i pos')) pos.line X.env = pure false := by rfl) :
    MS X (.Assign [.Subscript o i pos'] value pos) (sDPutT fd fk fe) := by
  obtain ⟨t, p, q⟩ := ho
  obtain ⟨t2, p2, q2⟩ := hi
  obtain ⟨t3, p3, q3⟩ := hv
  refine ⟨_, ps_dput hu p p2 p3 hs, fun S fl S' h W s D R k => ?_⟩
  obtain ⟨⟨dv, S1⟩, e1, h⟩ := bind_some h
  obtain ⟨⟨d1, S2⟩, e2, h⟩ := bind_some h
  obtain ⟨⟨ks, S3⟩, e3, h⟩ := bind_some h
  obtain ⟨⟨k1, kds⟩, e4, h⟩ := bind_some h
  simp only at h
  split at h
  · rename_i hl
    cases h
    refine q3 S _ _ e1 W s _ R fun v W1 R1 f1 r1 => ?_
    refine q S1 _ _ e2 W1 s _ R1 fun y W2 R2 f2 r2 => ?_
    refine q2 S2 _ _ e3 W2 s _ R2 fun b W3 R3 f3 hb => ?_
    obtain ⟨_, a, kvs, rfl, hio, g1, g2⟩ := dTAt_ok R3 (r2.up f3) e4
    obtain ⟨R4, f4⟩ := R3.wrCell (o := .dT (putK kvs ks v)) hio (c' := .dT (pT kds ks dv)) ⟨_, upd_same, g2.put ((r1.up f2).up f3)⟩
    exact ⟨a, _, rfl, .inr ⟨kvs, ks, b, g1, rfl, R3.sub _ _ hb, by rw [g2.len]; exact Nat.lt_of_lt_of_le hl lim_line, rfl⟩, k (W3.wr a _) _ R4 (((f1.trans f2).trans f3).trans f4)⟩
  · cases h
theorem mf_dT : MF X (.Dict [] [] pos) cDT := by
  refine ⟨_, pe_dnewT, fun S c S' h W s Q R k => ?_⟩
  cases h
  intro p hp
  obtain ⟨R1, f1⟩ := R.wrNew (o := .dT []) hp
  exact k p _ R1 f1 hp ⟨R.freshF hp, R.freshIo hp, R.freshOwn hp, [], upd_same, .nil⟩
theorem me_appE (ho : ME X o fo) (he : ME X e fe)
    (hbase : attributeBase o "append" X.env (eval o X.env) = eval o X.env := by rfl)
    (hfew : ((backTo pos (starEach [e] X.env)).all (fun x => !x.1) && (backToKw pos (keywordEach [] X.env)).all (fun x => x.1.isSome)
      && decide ([e].length + ([] : List Keyword).length + (if ([] : List Keyword).isEmpty then 0 else 1) < 30)) = true := by rfl)
    (hline : (apos.endLine == pos.line) = true := by rfl) (hs : starEach [e] X.env = (false, eval e X.env) :: starEach [] X.env := by rfl) (hplain : (backTo pos (starEach [] X.env)).any (·.1) = false := by rfl) :
    ME X (.Call (.Attribute o "append" apos) [e] [] pos) (eAppE fo fe) := by
  obtain ⟨t, p, q⟩ := ho
  obtain ⟨t2, p2, q2⟩ := he
  refine ⟨_, pe_bm PySem.F.plainAttrs_list PySem.F.slot_list_append PySem.F.type_list_append mt_append p (pa_cons p2 pa_nil hs) hbase hfew hline hs hplain, fun S d S' h W s Q R k => ?_⟩
  obtain ⟨⟨d1, S1⟩, e1, h⟩ := bind_some h
  obtain ⟨⟨k0, ds0⟩, e0, h⟩ := bind_some h
  obtain ⟨⟨d2, S2⟩, e2, h⟩ := bind_some h
  obtain ⟨⟨k1, ds⟩, e3, h⟩ := bind_some h
  simp only at h
  split at h
  · rename_i hl
    cases h
    refine q S _ _ e1 W s _ R fun v W1 R1 f1 r1 => ?_
    obtain ⟨_, a, vs0, rfl, _, g0, _⟩ := lAt_ok R1 r1 e0
    refine ⟨.inl ⟨rfl, vs0, .of g0⟩, ?_⟩
    refine q2 S1 _ _ e2 W1 s _ R1 fun y W2 R2 f2 r2 => ?_
    obtain ⟨_, a', vs, ea, hio, g1, g2⟩ := lAt_ok R2 (r1.up f2) e3
    cases ea
    obtain ⟨R3, f3⟩ := R2.wrCell (o := .lst (vs ++ [y])) hio (c' := .lst (ds ++ [d2])) ⟨_, upd_same, g2.append (.cons r2 .nil)⟩
    exact ⟨a, vs, y, rfl, rfl, g1, by rw [g2.length]; exact Nat.lt_of_lt_of_le hl lim_line, k _ (W2.wr a _) R3 ((f1.trans f2).trans f3) .non⟩
  · cases h
theorem mg_subE {ie : Expr} (ho : ME X o fo) (hi : ME X ie fi)
    (ha : ∀ v, assign (.Subscript o ie pos) X.env v = (do
      let ov ← holding [v] (eval o X.env)
      let iv ← holding [v, ov] (eval ie X.env)
      standAt pos
      holding [v, ov, iv] (setItem ov iv v)
      release [v, ov, iv] []) := by intro _; rfl) : MG X (.Subscript o ie pos) (gSubE fo fi) := by
  obtain ⟨t, p, q⟩ := ho
  obtain ⟨t2, p2, q2⟩ := hi
  refine ⟨_, pg_sub p p2 set_list ha, fun d S S' h W s v Q R r k => ?_⟩
  obtain ⟨⟨d1, S1⟩, e1, h⟩ := bind_some h
  obtain ⟨⟨d2, S2⟩, e2, h⟩ := bind_some h
  obtain ⟨⟨k1, ds⟩, e3, h⟩ := bind_some h
  simp only at h
  split at h
  · rename_i i0 _
    obtain ⟨j, e4, h⟩ := bind_some h
    cases h
    refine q S _ _ e1 W s _ R fun y W1 R1 f1 r1 => ?_
    refine q2 S1 _ _ e2 W1 s _ R1 fun z W2 R2 f2 r2 => ?_
    cases r2.int_inv
    obtain ⟨_, a, vs, rfl, hio, g1, g2⟩ := lAt_ok R2 (r1.up f2) e3
    obtain ⟨R3, f3⟩ := R2.wrCell (o := .lst (vs.set j v)) hio (c' := .lst (ds.set j d)) ⟨_, upd_same, g2.set j ((r.up f1).up f2)⟩
    exact ⟨a, vs, i0, j, rfl, rfl, g1, by rw [g2.length]; exact e4, k (W2.wr a _) _ R3 ((f1.trans f2).trans f3)⟩
  · cases h
theorem me_cel (h : MF X e fc) : ME X e (eCel fc) := by
  obtain ⟨t, p, q⟩ := h
  refine ⟨t, p, fun S d S' h W s Q R k => ?_⟩
  obtain ⟨⟨c, S1⟩, e1, h⟩ := bind_some h
  cases h
  refine q S _ _ e1 W s _ R fun a W1 R1 f1 hp n => ?_
  obtain ⟨R2, f2, r2⟩ := R1.addCell f1 hp n
  exact k _ (W1.cl a) R2 f2 r2
theorem mf_rev (he : ME X e fe) : MF X (.Subscript e (.Slice none none (some (.UnaryOp .USub (.Constant (.int 1) k p1) p2)) p3) pos) (cRev fe) := by
  obtain ⟨t, p, q⟩ := he
  refine ⟨_, pe_revL p, fun S c S' h W s Q R k => ?_⟩
  obtain ⟨⟨d1, S1⟩, e1, h⟩ := bind_some h
  obtain ⟨ds, e2, h⟩ := bind_some h
  refine q S _ _ e1 W s _ R fun v W1 R1 f1 r1 => ?_
  simp only at e2 h
  have fin : ∀ a vs, SqL X.K W1.H a vs → RVs X.K W1.F W1.io vs ds → some (Cell.lst ds.reverse, S1) = some (c, S') → ∃ a' xs, V.ref a = .ref a' ∧ SqL X.K W1.H a' xs ∧ ∀ p, W1.H p = none → Q (.ref p) (upd W1.H p (.lst xs.reverse)) := fun a vs h1 h2 h => by
    cases h
    refine ⟨a, vs, rfl, h1, fun p hp => ?_⟩
    obtain ⟨R2, f2, n⟩ := R1.newLst hp h2.reverse
    exact k _ _ R2 (f1.trans f2) (f1.hp _ hp) n
  unfold seqD at e2
  split at e2
  · cases e2
    obtain ⟨a, vs, rfl, h1, h2⟩ := r1.lst_inv
    exact fin a vs (.of (R1.sub _ _ h1)) h2 h
  · cases h
  · cases e2
    obtain ⟨a, vs, rfl, h1, h2⟩ := r1.sc_inv
    exact fin a vs (sqL_mono R1.sub h1) h2 h
  · cases e2
theorem u1 {k : Nat} {A : Around} (r : Room k A) : A.units + 1 < cLine := by have := u65 r; omega
end
section
variable {S : Ms} {fe fo fi fd : EF} {fk : KF} {fa : AF} {fc : CF} {d : D} {b : Bool}
@[simp] theorem kTup_ap : kTup fa S = (fa S).bind fun p => (keysD p.1).bind fun ks => if p.1.length ≤ LIM then some (ks, p.2) else none := rfl
@[simp] theorem eDGetT_ap : eDGetT fd fk S = (fd S).bind fun p => (fk p.2).bind fun q => (dTAt q.2 p.1).bind fun r => (vT r.2 q.1).bind fun d => some (d, q.2) := rfl
@[simp] theorem bDInT_ap : bDInT b fk fd S = (fk S).bind fun q => (fd q.2).bind fun p => (dTAt p.2 p.1).bind fun r => some (xor b (vT r.2 q.1).isSome, p.2) := rfl
@[simp] theorem sDPutT_ap : sDPutT fd fk fe S = (fe S).bind fun v => (fd v.2).bind fun p => (fk p.2).bind fun q => (dTAt q.2 p.1).bind fun r => if r.2.length < LIM then some (.nx, ⟨q.2.r, q.2.m.set r.1 (.dT (pT r.2 q.1 v.1))⟩) else none := rfl
@[simp] theorem cDT_ap : cDT S = some (.dT [], S) := rfl
@[simp] theorem eAppE_ap : eAppE fo fe S = (fo S).bind fun p => (lAt p.2 p.1).bind fun _ => (fe p.2).bind fun q => (lAt q.2 p.1).bind fun r => if r.2.length < LIM then some (.non, ⟨q.2.r, q.2.m.set r.1 (.lst (r.2 ++ [q.1]))⟩) else none := rfl
@[simp] theorem gSubE_ap : gSubE fo fi d S = (fo S).bind fun p => (fi p.2).bind fun q => (lAt q.2 p.1).bind fun r => match q.1 with
  | .int i => (ixN r.2.length i).bind fun j => some ⟨q.2.r, q.2.m.set r.1 (.lst (r.2.set j d))⟩
  | _ => none := rfl
@[simp] theorem eCel_ap : eCel fc S = (fc S).bind fun p => some (.ref p.2.m.length, ⟨p.2.r, p.2.m ++ [p.1]⟩) := rfl
@[simp] theorem cRev_ap : cRev fe S = (fe S).bind fun p => (seqD p.1).bind fun ds => match p.1 with
  | .tup _ => none
  | _ => some (.lst ds.reverse, p.2) := rfl
@[simp] theorem keysD_nil : keysD [] = some [] := rfl
@[simp] theorem keysD_int {i : Int} {r : List D} : keysD (.int i :: r) = (keysD r).bind fun q => some (Sum.inl i :: q) := rfl
@[simp] theorem keysD_str {i : Str} {r : List D} : keysD (.str i :: r) = (keysD r).bind fun q => some (Sum.inr i :: q) := rfl
@[simp] theorem dTAt_ref {k : Nat} : dTAt S (.ref k) = match S.m[k]? with
    | some (.dT kds) => some (k, kds)
    | _ => none := rfl
@[simp] theorem lAt_ref {k : Nat} : lAt S (.ref k) = match S.m[k]? with
    | some (.lst kds) => some (k, kds)
    | _ => none := rfl
end
theorem vT_put (kds : List (List Key × D)) (k j : List Key) (d : D) : vT (pT kds k d) j = if k = j then some d else vT kds j := by
  have hm : ∀ kds : List (List Key × D), vT (kds.map fun kd => if kd.1 = k then (kd.1, d) else kd) j = (vT kds j).map fun x => if k = j then d else x := by
    intro kds
    induction kds with
    | nil => rfl
    | cons p r ih =>
      obtain ⟨q, x⟩ := p
      rw [List.map_cons]
      by_cases h : q = k
      · subst h
        simp only [if_true, vT]
        by_cases h2 : q = j
        · simp [h2]
        · simp only [if_neg h2, ih]
      · simp only [if_neg h, vT]
        by_cases h2 : q = j
        · subst h2
          have : ¬ k = q := fun z => h z.symm
          simp [this]
        · simp only [if_neg h2, ih]
  have ha : ∀ kds : List (List Key × D), vT kds k = none → vT (kds ++ [(k, d)]) j = if k = j then some d else vT kds j := by
    intro kds
    induction kds with
    | nil => intro _; rfl
    | cons p r ih =>
      obtain ⟨q, x⟩ := p
      intro hn
      unfold vT at hn
      by_cases h : q = k
      · rw [if_pos h] at hn; cases hn
      · rw [if_neg h] at hn
        show (if q = j then some x else vT (r ++ [(k, d)]) j) = if k = j then some d else (if q = j then some x else vT r j)
        rw [ih hn]
        by_cases h2 : q = j
        · subst h2
          have : ¬ k = q := fun z => h z.symm
          simp [this]
        · simp [h2]
  unfold pT
  cases e : vT kds k with
  | none => simp only [Option.isSome_none, Bool.false_eq_true, if_false]; exact ha kds e
  | some x =>
    simp only [Option.isSome_some, if_true]
    rw [hm]
    by_cases h : k = j
    · subst h; rw [e]; simp
    · simp only [if_neg h]
      cases vT kds j <;> rfl
theorem pT_len (kds : List (List Key × D)) (k : List Key) (d : D) : (pT kds k d).length ≤ kds.length + 1 := by
  unfold pT
  split
  · simp
  · simp
end M

/-! comprehensions over a list that is a cell (it must stay as it is) -/
namespace M
open PySem PySem.Spec L2
/-- the value that a statement assigns, the scope of a comprehension -/
def asgV (s : Stmt) : Expr := match s with
  | .Assign _ v _ => v
  | _ => .Constant .none 0 ⟨0, 0, 0, 0⟩
def lcS (e : Expr) : Scope := match e with
  | .ListComp _ _ s _ => s
  | _ => { kind := .function, names := [], isGenerator := false, isCoroutine := false }
abbrev CiF := Ms → Option ((Nat × List D) × Ms)
structure YlC (K : PySem.W.Frag) (J : It) (W : Wd) (k : Nat) (ds : List D) : Prop where
  go : ∀ W2 S s, Rel K W2 S s → W.io <+: W2.io → S.m[k]? = some (.lst ds) → ∀ i d, ds[i]? = some d → J.go i W2.H ∧ ∀ x H', J.yld i W2.H x H' → ∃ W3, W3.H = H' ∧ Rel K W3 S s ∧ Fr W2 S.r s W3 S.r s ∧ RV K W3.F W3.io x d
  stop : ∀ W2 S s, Rel K W2 S s → W.io <+: W2.io → S.m[k]? = some (.lst ds) → J.stop ds.length W2.H
def TIokC (K : PySem.W.Frag) (wi : TI) (f : CiF) : Prop := ∀ S k ds S', f S = some ((k, ds), S') → ∀ W s (Rr : It → Hp → Prop), Rel K W S s → (∀ J W', Rel K W' S' s → Fr W S.r s W' S'.r s → YlC K J W' k ds → Rr J W'.H) → wi s W.H Rr
def MIc (X : Cx) (tg it : Expr) (f : CiF) : Prop := ∃ wi, PI X tg it wi ∧ TIokC X.K wi f
def iCel (f : EF) : CiF := fun S => (f S).bind fun p => (lAt p.2 p.1).bind fun q => some (q, p.2)
theorem mi_cel {X : Cx} {tg e : Expr} {fe : EF} (he : ME X e fe) : MIc X tg e (iCel fe) := by
  obtain ⟨t, p, q⟩ := he
  refine ⟨_, pi_list p, fun S kk ds S' h W s Rr R k => ?_⟩
  obtain ⟨⟨d1, S1⟩, e1, h⟩ := bind_some h
  obtain ⟨⟨k2, ds2⟩, e2, h⟩ := bind_some h
  cases h
  refine q S _ _ e1 W s _ R fun v W1 R1 f1 r1 => ?_
  obtain ⟨hd, a, vs, rfl, hio, h1, h2⟩ := lAt_ok R1 r1 e2
  refine ⟨a, rfl, ⟨vs, .of h1⟩, k _ W1 R1 f1 ⟨fun W2 S2 s2 R2 hi hg i d ed => ?_, fun W2 S2 s2 R2 hi hg => ?_⟩⟩
  · obtain ⟨vs2, g1, g2⟩ := R2.cells _ _ a hg (pre_get hi hio)
    obtain ⟨v, ev, rv⟩ := g2.get ed
    refine ⟨⟨vs2, v, .of g1, ev⟩, fun x H' y => ⟨W2, y.1.symm, R2, .refl, ?_⟩⟩
    have := y.2 vs2 (.of g1)
    rw [ev] at this; cases this
    exact rv
  · obtain ⟨vs2, g1, g2⟩ := R2.cells _ _ a hg (pre_get hi hio)
    exact ⟨vs2, .of g1, by rw [g2.length]; exact Nat.le_refl _⟩
open Classical in
noncomputable def lcMC (k : Nat) (all : List D) (g : GF) (t : BF) (f : EF) (vs : List Nat) : List D → List D → Ms → Option (List D × Ms)
  | [], acc, S => if S.m[k]? = some (.lst all) then some (acc, S) else none
  | d :: ds, acc, S => if S.m[k]? = some (.lst all) then (g d { S with r := wipeR S.r vs }).bind fun S1 => (t S1).bind fun p => if p.1 then (f p.2).bind fun q => if acc.length < LIM then lcMC k all g t f vs ds (acc ++ [q.1]) { q.2 with r := restR S.r q.2.r vs } else none
    else lcMC k all g t f vs ds acc { p.2 with r := restR S.r p.2.r vs } else none
open Classical in
theorem lcMC_nil' {k : Nat} {all : List D} {g : GF} {t : BF} {f : EF} {vs : List Nat} {acc : List D} {S : Ms} : lcMC k all g t f vs [] acc S = if S.m[k]? = some (.lst all) then some (acc, S) else none := rfl
open Classical in
theorem lcMC_cons' {k : Nat} {all : List D} {g : GF} {t : BF} {f : EF} {vs : List Nat} {d : D} {ds acc : List D} {S : Ms} : lcMC k all g t f vs (d :: ds) acc S = if S.m[k]? = some (.lst all) then (g d { S with r := wipeR S.r vs }).bind fun S1 => (t S1).bind fun p => if p.1 then (f p.2).bind fun q => if acc.length < LIM then lcMC k all g t f vs ds (acc ++ [q.1]) { q.2 with r := restR S.r q.2.r vs } else none
    else lcMC k all g t f vs ds acc { p.2 with r := restR S.r p.2.r vs } else none := rfl
noncomputable def cLcC (fi : CiF) (g : GF) (t : BF) (f : EF) (vs : List Nat) : CF := fun S => (fi S).bind fun p => (lcMC p.1.1 p.1.2 g t f vs p.1.2 [] p.2).bind fun q => some (.lst q.1, q.2)
theorem tf_lcC {K : PySem.W.Frag} {wi : TI} {tg : TG} {tt : TT} {te : TE} {vs : List Nat} {fi : CiF} {g : GF} {ft : BF} {fe : EF} (qi : TIokC K wi fi) (qg : TGok K tg g) (qt : TTok K tt ft) (qe : TEok K te fe)
    (hw : KG vs tg) : TFok K (tLc wi tg tt te vs) (cLcC fi g ft fe vs) := by
  intro S c S' h W s Q R k
  obtain ⟨⟨⟨kk, ds⟩, S1⟩, e1, h⟩ := bind_some h
  obtain ⟨⟨acc, S2⟩, e2, h⟩ := bind_some h
  cases h
  refine qi S kk ds S1 e1 W s _ R fun J W1 R1 f1 Y => ?_
  intro A hA
  obtain ⟨R1', f1', n1⟩ := R1.newLst (ds := []) hA .nil
  have hA0 : W.H A = none := f1.hp A hA
  refine ⟨fun i m H2 => m = ds.length - i ∧ i ≤ ds.length ∧ ∃ W2 S3 acc2, W2.H = H2 ∧ Rel K W2 S3 s ∧ Fr W1 S1.r s W2 S3.r s ∧ New K W2 S3 s A (.lst acc2) ∧ lcMC kk ds g ft fe vs (ds.drop i) acc2 S3 = some (acc, S2), ⟨ds.length, rfl, Nat.zero_le _, _, S1, [], rfl, R1', f1', n1, e2⟩, ?_⟩
  rintro i m H2 ⟨rfl, hi, W2, S3, acc2, rfl, R2, f2, n2, e3⟩
  by_cases hlt : i < ds.length
  · have ed : ds[i]? = some ds[i] := List.getElem?_eq_getElem hlt
    rw [List.drop_eq_getElem_cons hlt, lcMC_cons'] at e3
    split at e3
    rotate_left
    · cases e3
    rename_i hg
    obtain ⟨go, yl⟩ := Y.go W2 S3 s R2 f2.ix hg i _ ed
    obtain ⟨S4, e4, e3⟩ := bind_some e3
    obtain ⟨⟨b, S5⟩, e5, e3⟩ := bind_some e3
    refine .inr ⟨go, fun H3 => i + 1 ≤ ds.length ∧ ∃ W3 S6 acc3, W3.H = H3 ∧ Rel K W3 S6 s ∧ Fr W1 S1.r s W3 S6.r s ∧ New K W3 S6 s A (.lst acc3) ∧ lcMC kk ds g ft fe vs (ds.drop (i + 1)) acc3 S6 = some (acc, S2), ?_, fun x H' y => ?_⟩
    · rintro H3 ⟨hl, W3, S6, acc3, rfl, z⟩
      exact ⟨_, by omega, rfl, hl, W3, S6, acc3, rfl, z⟩
    · obtain ⟨W3, rfl, R3, f3, r3⟩ := yl x H' y
      have n3 := n2.keep (S1 := S3) f3
      obtain ⟨Rw, fw⟩ := R3.wipe vs
      refine hw.mono _ _ _ _ _ (fun s2 H2 z => z) (hw.mono _ _ _ (fun s2 H2 => L2.wipe s2 vs = L2.wipe (L2.wipe s vs) vs ∧ (L2.wipe s2 vs = L2.wipe s vs → tt s2 H2 fun b H3 => if b = true then te s2 H3 fun y H4 => ∃ acc, H4 A = some (.lst acc) ∧ acc.length < sizeLine ∧ (i + 1 ≤ ds.length ∧ ∃ W3 S6 acc3, W3.H = upd H4 A (.lst (acc ++ [y])) ∧ Rel K W3 S6 s ∧ Fr W1 S1.r s W3 S6.r s ∧ New K W3 S6 s A (.lst acc3) ∧ lcMC kk ds g ft fe vs (ds.drop (i + 1)) acc3 S6 = some _) else (i + 1 ≤ ds.length ∧ ∃ W3 S6 acc3, W3.H = H3 ∧ Rel K W3 S6 s ∧ Fr W1 S1.r s W3 S6.r s ∧ New K W3 S6 s A (.lst acc3) ∧ lcMC kk ds g ft fe vs (ds.drop (i + 1)) acc3 S6 = some _))) _ (fun s2 H2 z => ⟨z.1.trans wipe_wipe, z.2 (z.1.trans wipe_wipe)⟩) (hw.keep _ _ _ _ ?_))
      refine qg _ _ S4 e4 W3 _ x _ Rw r3 fun W4 s4 R4 f4 hs4 => ?_
      refine qt S4 b S5 e5 W4 s4 _ R4 fun W5 R5 f5 => ?_
      have f45 := f4.trans f5
      cases b with
      | false =>
        rw [if_neg Bool.false_ne_true]
        obtain ⟨R6, f6⟩ := R3.rest R5 f45 hs4
        exact ⟨hlt, W5, _, acc2, rfl, R6, (f2.trans f3).trans f6, n3.keep (S1 := { S5 with r := restR S3.r S5.r vs }) f6, e3⟩
      | true =>
        rw [if_pos rfl]
        rw [if_pos rfl] at e3
        obtain ⟨⟨d, S6⟩, e6, e3⟩ := bind_some e3
        simp only at e3
        split at e3
        · rename_i hlim
          refine qe S5 d S6 e6 W5 s4 _ R5 fun y W6 R6 f6 r6 => ?_
          obtain ⟨R7, f7⟩ := R3.rest R6 (f45.trans f6) hs4
          have n7 := n3.keep (S1 := { S6 with r := restR S3.r S6.r vs }) f7
          obtain ⟨vs7, h7, r7⟩ := n7.cr
          refine ⟨vs7, h7, by rw [r7.length]; exact Nat.lt_of_lt_of_le hlim lim_line, hlt, ?_⟩
          obtain ⟨R8, n8⟩ := R7.wrApart (c' := .lst (acc2 ++ [d])) (o := .lst (vs7 ++ [y])) n7 ⟨_, upd_same, r7.append (.cons r6 .nil)⟩
          refine ⟨_, _, acc2 ++ [d], rfl, R8, ?_, n8, e3⟩
          have ff := (f2.trans f3).trans f7
          refine ⟨ff.fx, ff.ix, fun b o h n => ?_, fun b h => ff.hp b (upd_none h)⟩
          obtain ⟨g1, g2⟩ := ff.ot b o h n
          have nb : b ≠ A := fun z => by rw [z, hA] at h; cases h
          exact ⟨by show upd _ A _ b = _; rw [upd_ne nb]; exact g1, g2⟩
        · cases e3
  · have ei : i = ds.length := by omega
    subst ei
    rw [List.drop_length, lcMC_nil'] at e3
    split at e3
    rotate_left
    · cases e3
    rename_i hg
    cases e3
    exact .inl ⟨Y.stop W2 _ s R2 f2.ix hg, k A W2 R2 (f1.trans f2) hA0 n2⟩


section
variable {X : Cx} {pos spos : Pos} {elt tg iter : Expr} {ifs : List Expr} {scope : Scope} {vs : List Nat} {own : List (Str × Nat)} {fi : CiF} {g : GF} {ft : BF} {fe : EF} {t1 : TG} {t2 : TT} {t3 : TE}
theorem mf_lcC (hc : X.calm = true) (hN : X.N.Nodup) (hi : MIc X tg iter fi) (ok : BlkOk X.N X.env.scope scope own)
    (hg : Blk X scope fun Y => MGk Y vs tg g) (ht : Blk X scope fun Y => MTs Y ifs ft) (he : Blk X scope fun Y => ME Y elt fe)
    (hvs : own.map (·.2) = vs := by rfl) (hs : ∀ x, foldedSetIterable iter X.env x = pure x := by intro _; rfl) : MF X (.ListComp elt [⟨tg, iter, ifs, 0⟩] scope pos) (cLcC fi g ft fe vs) := by
  subst hvs
  obtain ⟨wi, pi, qi⟩ := hi
  exact ⟨_, pe_lc hc hN pi ok (fun s H C cl fp => (hg s H C cl fp).pg) (fun s H C cl fp => (ht s H C cl fp).pt) (fun s H C cl fp => (he s H C cl fp).pe) hs, tf_lcC qi tgOf_ok ttOf_ok tOf_ok tgOf_k⟩
end
@[simp] theorem cLcC_ap {fi : CiF} {g : GF} {t : BF} {f : EF} {vs : List Nat} {S : Ms} : cLcC fi g t f vs S = (fi S).bind fun p => (lcMC p.1.1 p.1.2 g t f vs p.1.2 [] p.2).bind fun q => some (.lst q.1, q.2) := rfl
@[simp] theorem iCel_ap {f : EF} {S : Ms} : iCel f S = (f S).bind fun p => (lAt p.2 p.1).bind fun q => some (q, p.2) := rfl
theorem lcMC_map {α : Type} {kk : Nat} {all : List D} {g : GF} {t : BF} {f : EF} {vs : List Nat} {S : Ms} (hS : S.m[kk]? = some (.lst all)) (enc : α → D) (F : α → D) : ∀ (xs : List α) (acc : List D), (∀ x ∈ xs, stepC g t f vs S (enc x) = some (some (F x), S)) → acc.length + xs.length ≤ 1000000 →
    lcMC kk all g t f vs (xs.map enc) acc S = some (acc ++ xs.map F, S) := by
  intro xs
  induction xs with
  | nil => intro acc _ _; rw [List.map_nil, lcMC_nil', if_pos hS]; simp
  | cons x xs ih =>
    intro acc h hl
    have h1 := h x (by simp)
    have h2 : ∀ y ∈ xs, stepC g t f vs S (enc y) = some (some (F y), S) := fun y hy => h y (by simp [hy])
    simp only [List.length_cons] at hl
    rw [List.map_cons, lcMC_cons', if_pos hS]
    unfold stepC at h1
    obtain ⟨S1, e1, h1⟩ := bind_some h1
    obtain ⟨⟨b, S2⟩, e2, h1⟩ := bind_some h1
    rw [e1]
    simp only [Option.bind_some, e2]
    cases b with
    | true =>
      simp only [if_true] at h1 ⊢
      obtain ⟨⟨z, S3⟩, e3, h1⟩ := bind_some h1
      simp only [Option.some.injEq, Prod.mk.injEq] at h1
      obtain ⟨hF, hS'⟩ := h1
      rw [e3]
      simp only [Option.bind_some]
      rw [if_pos (show acc.length < LIM by unfold LIM; omega)]
      rw [hS', ih _ h2 (by simp only [List.length_append, List.length_cons, List.length_nil]; omega), hF]
      simp
    | false =>
      simp only [Bool.false_eq_true, if_false, Option.some.injEq, Prod.mk.injEq] at h1
      exact absurd h1.1 (by simp)
end M

/-! M12: repr of plain data; defs that run where no repr is under way (FnG) -/
namespace M
open PySem PySem.Spec L2
/-! how long a text may be -/
theorem int_len16 {i : Int} (h : i.natAbs < 1000000000000000) : (Str.ofString (toString i)).length ≤ 16 := by
  have e : ∀ n : Nat, n < 1000000000000000 → (TL.numL n).length ≤ 15 := fun n hn => TL.numL_len (by omega) hn
  have tl : ∀ z : Str, z.length = (TL.tl z).length := fun z => rfl
  rw [tl]
  cases i with
  | ofNat n =>
    have := e n (by simpa using h)
    rw [show Int.ofNat n = ((n : Nat) : Int) from rfl, TL.tl_num]
    omega
  | negSucc n =>
    have h1 := e (n + 1) (by simpa using h)
    have h2 := TL.tl_num (n + 1)
    rw [TL.tl_ofString] at h2 ⊢
    have h3 : ((toString (Int.negSucc n)).toList).map Char.toNat = 45 :: TL.numL (n + 1) := by
      show (("-" ++ toString (n + 1)).toList).map Char.toNat = 45 :: TL.numL (n + 1)
      rw [String.toList_append, List.map_append]
      show [45] ++ ((toString (n + 1)).toList).map Char.toNat = _
      exact congrArg (List.cons 45) h2
    rw [h3]
    simp only [List.length_cons]
    omega
mutual
def szP : PyData → Nat
  | .int i => if i.natAbs < 1000000000000000 then 16 else 1921
  | .none | .bool _ => 5
  | .str x => (reprText x).length
  | .list xs | .tuple xs => szPs xs + 2
  | .dict _ => 0
def szPs : List PyData → Nat
  | [] => 0
  | x :: xs => szP x + 2 + szPs xs
end
theorem listText_le (ts : List Str) : (listText ts).length ≤ piled ts + 2 := by
  cases ts with
  | nil => decide +kernel
  | cons t r =>
    have h := textFrom_length_pos r 1 (("[" : Str) ++ (if (0 : Nat) > 0 then ", " else "" : String) ++ t) (by decide)
    have e : ((("[" : Str) ++ (if (0 : Nat) > 0 then ", " else "" : String) ++ t)).length = 1 + t.length := by
      rw [strLen_append, strLen_append]; rfl
    have x : (listText (t :: r)).length = (textFrom 1 (("[" : Str) ++ (if (0 : Nat) > 0 then ", " else "" : String) ++ t) r).length + 1 := by
      unfold listText
      rw [strLen_append]; rfl
    rw [x, h, e, piled_cons]; omega
mutual
theorem shown_le : ∀ p : PyData, p.showable = true → p.hasDict = false → p.shown.length ≤ szP p
  | .int i, h, _ => by
    simp only [PyData.showable, decide_eq_true_eq] at h
    simp only [PyData.shown, szP]
    split
    · rename_i c; exact int_len16 c
    · exact PyProof.Rows.int_text_len_1921 h
  | .none, _, _ => by decide +kernel
  | .bool b, _, _ => by cases b <;> decide +kernel
  | .str x, _, _ => by simp only [PyData.shown, szP]; exact Nat.le_refl _
  | .list xs, h, n => by
    simp only [PyData.showable] at h
    simp only [PyData.hasDict] at n
    simp only [PyData.shown, szP]
    have := shown_les xs h n
    have := listText_le (PyData.shownAll xs)
    omega
  | .tuple xs, h, n => by
    simp only [PyData.showable] at h
    simp only [PyData.hasDict] at n
    simp only [PyData.shown, szP]
    have := shown_les xs h n
    have := fmt_text (PyData.shownAll xs)
    omega
  | .dict _, _, n => by simp [PyData.hasDict] at n
theorem shown_les : ∀ ps : List PyData, PyData.showableAll ps = true → PyData.hasDictAll ps = false → piled (PyData.shownAll ps) ≤ szPs ps
  | [], _, _ => by simp [PyData.shownAll, piled, szPs]
  | p :: ps, h, n => by
    simp only [PyData.showableAll, Bool.and_eq_true] at h
    simp only [PyData.hasDictAll, Bool.or_eq_false_iff] at n
    simp only [PyData.shownAll, szPs, piled_cons]
    have := shown_le p h.1 n.1
    have := shown_les ps h.2 n.2
    omega
end
/-! repr -/
def isSeqP : PyData → Bool
  | .list _ | .tuple _ => true
  | _ => false
def reprOk (p : PyData) : Prop := p.showable = true ∧ p.hasDict = false ∧ p.depth ≤ 60 ∧ szP p ≤ LIM ∧ isSeqP p = true
instance (p : PyData) : Decidable (reprOk p) := inferInstanceAs (Decidable (_ ∧ _))
def gRepr (d : D) : Option D := (toPy d).bind fun p => if reprOk p then some (.str p.shown) else none
section
variable {X : Cx}
theorem call_reprD (hg : X.A.guards = some []) (hu : X.A.units + 64 < cLine) : CallR X (.builtin "repr") (fun xs H Q => ∃ v p, xs = [v] ∧ Dp X.K H v p ∧ reprOk p ∧ Q (.str p.shown) H) := by
  rintro pins s σ H xs us Q I r ⟨v, p, rfl, hd, ⟨h1, h2, h3, h4, h5⟩, q⟩
  obtain ⟨u, rfl, rv⟩ := vals1 r
  obtain ⟨as, rd⟩ := Dp.reads I p v u hd rv
  have hz : p.shown.length ≤ sizeLine := Nat.le_trans (shown_le p h1 h2) (Nat.le_trans h4 lim_line)
  have isr : ∃ a, v = .ref a := by
    cases hd with
    | lst _ _ => exact ⟨_, rfl⟩
    | tup _ _ => exact ⟨_, rfl⟩
    | non => cases h5
    | bl _ => cases h5
    | int _ => cases h5
    | str _ => cases h5
  obtain ⟨a, rfl⟩ := isr
  obtain rfl : u = Value.ref a := rv
  exact repr_of_reads' rd h1 (PyData.noDict_hsm h2) hg (by omega) (fun _ _ z => z) (fun h' t tk hk => ⟨V.str p.shown, H, I.kept hk, ⟨t, rfl⟩, q⟩) hz
theorem cRepr (hg : X.A.guards = some []) (hu : X.A.units + 64 < cLine) : CallM X (.builtin "repr") gRepr := by
  refine ⟨_, call_reprD hg hu, fun x d z hz W S s Q R rx k => ?_⟩
  obtain ⟨p, hp, hz⟩ := bind_some hz
  split at hz
  · rename_i c
    cases hz
    exact ⟨x, p, rfl, rh_dp R rx hp, c, k _ W R .refl (.str _)⟩
  · cases hz
/-- == of two texts -/
def gEqS : D → D → Option D
  | .str a, .str b => some (.bl (decide (a = b)))
  | _, _ => none
theorem oEqS : OpM X (compareOp .Eq) gEqS := by
  refine ⟨_, op_eq, fun x y d e z hz W S s Q R rx ry k => ?_⟩
  unfold gEqS at hz
  split at hz
  · rename_i a b
    cases hz
    cases rhS rx
    cases rhS ry
    refine ⟨rfl, ?_⟩
    have : decide (V.str a = V.str b) = decide (a = b) := by rw [Bool.eq_iff_iff]; simp
    rw [this]
    exact k _ W R .refl (.bl _)
  · cases hz
end

open PyProof.Rows
/-! ### defs that run where no repr is under way -/
structure FnG (P : Program) (w : World) (K : PySem.W.Frag) (mg : Str → Option Value) (base : Heap) (k : Nat) (f : Addr) (fd : FuncData) (ps : List Str) (sp : Sp) : Prop where
  ln : ∀ vs H Q E, sp vs H Q E → vs.length = ps.length
  go : ∀ (A : Around) (out : List Env) (s : Shared) (H : Hp) (ar : Args) (us : List Value) (vs : List V) (Q : VK) (E : XK), Room k A → A.guards = some [] → Env0 P w K mg base A out s H →
    BindsTo s fd ar (ps.zip us) → Vals vs us → sp vs H Q E → codeAny (model P w) A (.call (.ref f) ar) (L2.CR CX0 out P w H s Q E) s
def GdOk (A : Around) : Prop := A.guards = some []
section
variable {P : Program} {w : World} {K : PySem.W.Frag} {mg : Str → Option Value} {base : Heap} {x qual : Str} {st : Stmt} {f : Addr} {fd : FuncData} {N ps : List Str} {k : Nat} {b : SF} {sp : Sp}
theorem FnG.imp (F : FnG P w K mg base k f fd ps sp) {sp' : Sp} (h : ∀ vs H Q E, sp' vs H Q E → sp vs H Q E) : FnG P w K mg base k f fd ps sp' :=
  ⟨fun _ _ _ _ q => F.ln _ _ _ _ (h _ _ _ _ q), fun A out s H ar us vs Q E r g e bd v q => F.go A out s H ar us vs Q E r g e bd v (h _ _ _ _ q)⟩
theorem fng_of (F : Fun K x qual st f fd) (S : FnScope N ps (defScope st)) (hl : ∀ vs H Q E, sp vs H Q E → vs.length = ps.length)
    (hb : ∀ (cdv : Value) (A : Around) (out : List Env) (s : Shared) (H : Hp) (vs : List V) (Q : VK) (E : XK), Room k (A.deeper (PyProof.Rows.envOfC qual (defScope st) s.heap.objs.size f cdv)) → A.guards = some [] → sp vs H Q E →
      ∃ t, PSs (cxOf CX0 P w K mg base N qual (defScope st) f cdv A out s H E) (defBody st) t ∧ t { nx := fun _ H1 => Q .non H1, rt := Q } (L2.start N vs) H) : FnG P w K mg base (k + 1) f fd ps sp := by
  obtain ⟨oc, od, kV, doc, pm, an, cdv, ct, osl, rfl, lk, hc⟩ := F.ex
  refine ⟨hl, fun A out s H ar us vs Q E room gd e0 bd rv hs => ?_⟩
  have kp : ∀ a o, base.get? a = some o → s.heap.get? a = some o := fun a o z => (e0.bs a o z).1
  have hK := e0.mod.kin.keeps kp
  refine codeAny_call_function room.depth (hK _ _ lk) rfl S.co S.gen rfl (PySem.W.codeRec_of hK hc) (bd _ _ _ _ ?_)
  refine wpAny_newFunctionEnv_cells S.kind (fun y hy => ?_) fun env eq s1 ic => ?_
  · rcases S.par y.1 (List.of_mem_zip hy).1 with z | z
    · exact Or.inl z
    · exact Or.inr ⟨z, PySem.W.cellsFrom_some _ _ _ (Or.inl z)⟩
  · subst eq
    refine ⟨(e0.mod.nolimit.keeps kp).keeps ic.toInCall.keep, codeAny_func ?_⟩
    obtain ⟨t, p, q⟩ := hb cdv A out s H vs Q E (room.deeper _) gd hs
    refine wpAny_mono (p.run [] s1 _ H _ (inv_start S room.hd e0 (hl _ _ _ _ hs) rv ic) q) (fun r s' z => ?_) fun _ _ z => z
    cases r with
    | ret u => obtain ⟨v, σ1, H1, J, r1, q1⟩ := z; exact ⟨v, H1, J.os, J.bare, J.base, J.hok, r1, q1⟩
    | next => obtain ⟨σ1, H1, J, q1⟩ := z; exact ⟨.non, H1, J.os, J.bare, J.base, J.hok, rfl, q1⟩
    | brk => obtain ⟨_, _, _, z⟩ := z; exact z.elim
    | cont => obtain ⟨_, _, _, z⟩ := z; exact z.elim
theorem fng_ok (F : Fun K x qual st f fd) (S : FnScope N ps (defScope st))
    (hb : ∀ (cdv : Value) (A : Around) (out : List Env) (s : Shared) (H : Hp) (E : XK), Room k (A.deeper (PyProof.Rows.envOfC qual (defScope st) s.heap.objs.size f cdv)) → A.guards = some [] →
      MSs (cxOf CX0 P w K mg base N qual (defScope st) f cdv A out s H E).nox (defBody st) b) : FnG P w K mg base (k + 1) f fd ps (spM K ps.length (fnM N.length b)) := by
  refine fng_of F S (fun vs H Q E h => h.1) (fun cdv A outer s H vs Q E hr hg h => ?_)
  obtain ⟨hl, W, ds, m, d, m', rfl, R, r, e, kk⟩ := h
  obtain ⟨t, p, q⟩ := hb cdv A outer s W.H E hr hg
  refine ⟨t, p.nox, ?_⟩
  unfold fnM at e
  obtain ⟨⟨fl, S'⟩, e1, e⟩ := bind_some e
  have own : ∀ b, ¬ Own (ds.map Slot.val ++ List.replicate (N.length - ds.length) Slot.emp) (L2.start N vs) b := fun b ⟨i, c, h, _⟩ => by
    have := List.mem_of_getElem? h
    simp at this
  refine q _ fl S' e1 W (L2.start N vs) _ (start_rel (n := 0) R r) fun W' s' R' f' => ?_
  have f0 := end_fr (S0 := ⟨ds.map Slot.val ++ List.replicate (N.length - ds.length) Slot.emp, m⟩) own f'
  cases fl with
  | nx => cases e; exact kk .non W' R'.bare f0 .non
  | rt d => cases e; exact fun v rv => kk v W' R'.bare f0 rv
  | bk => cases e
  | ct => cases e
end
/-- a def by its name, where no repr is under way -/
structure Fng (P : Program) (w : World) (K : PySem.W.Frag) (mg : Str → Option Value) (base : Heap) (k : Nat) (x : Str) (ps : List Str) (ff : FF) : Prop where
  ex : ∃ (f : Addr) (fd : FuncData), FnG P w K mg base k f fd ps (spM K ps.length ff) ∧ mg x = some (.ref f) ∧ PySem.W.keepIn K (.ref f) = true ∧ Binds K fd ps []
section
variable {X : Cx} {k n : Nat} {f : Addr} {fd : FuncData} {ps : List Str} {ff : FF} {sp : Sp} {x : Str} {p pos : Pos} {e : Expr} {es : List Expr} {fa : AF} {t : TA}
theorem run_fg {pins : List (Addr × Obj)} {σ : L2.St} {H : Hp} {s : Shared} {Q : VK} {us : List Value} {vs : List V} (F : FnG X.prog X.w X.K X.mg X.base k f fd ps sp) (hr : Room k X.A) (hg : X.A.guards = some []) (hb : Binds X.K fd ps [])
    (I : Inv X pins σ H s) (r : Vals vs us) (h : sp vs H Q E0) : wpAny (model X.prog X.w) X.A (call (.ref f) us) (EP X pins σ Q) X.xe s := by
  have hl : us.length = ps.length := r.length.symm.trans (F.ln _ _ _ _ h)
  have bd : BindsTo s fd ⟨us, []⟩ (ps.zip us) := by
    have z := hb s us I.kIn (by rw [List.append_nil]; exact hl)
    rwa [List.append_nil] at z
  refine wpAny_call (codeAny_mono (F.go X.A X.stack s H _ us vs Q E0 hr hg I.env0 bd r h) fun res s1 hq => ?_)
  cases res with
  | error e => exact hq.elim
  | ok fl => cases fl with
    | ret u => exact I.after hq
    | next => exact hq.elim
    | brk => exact hq.elim
    | cont => exact hq.elim
theorem me_g (G : Fng X.prog X.w X.K X.mg X.base k x ps ff) (hr : Room k X.A) (hgd : X.A.guards = some []) (ha : MA X (e :: es) fa) (hn : ps.length = n := by rfl)
    (hg : Gl X x := by rfl) (hdb : (x == ("__debug__" : Str)) = false := by decide) (he : starEach (e :: es) X.env = (false, eval e X.env) :: starEach es X.env := by rfl) (hpl : (backTo pos (starEach es X.env)).any (·.1) = false := by rfl) :
    ME X (.Call (.Name x p) (e :: es) [] pos) (eFn n ff fa) := by
  obtain ⟨f, fd, G, hm, hk, hb⟩ := G.ex
  rw [hn] at G
  obtain ⟨t, pa, qa⟩ := ha
  refine ⟨tCall (spM X.K n ff) [] E0 t, ⟨fun pins s σ H Q I h => ?_⟩, te_fn qa⟩
  refine wpAny_Call_Name_kw (ld_glob I hg hm (PySem.W.callWith_K (h₀ := X.base) I.ok.mod.kin hk (thn (pa.run pos pins s σ H _ I h) fun us s1 z => ?_) he hpl) hdb)
  obtain ⟨vs, H1, I1, r, q⟩ := z
  rw [List.append_nil] at q
  exact ⟨I1.kIn, run_fg G hr hgd hb I1 r q⟩
theorem me_g0 (G : Fng X.prog X.w X.K X.mg X.base k x [] ff) (hr : Room k X.A) (hgd : X.A.guards = some []) (hg : Gl X x := by rfl) (hdb : (x == ("__debug__" : Str)) = false := by decide) : ME X (.Call (.Name x p) [] [] pos) (eFn 0 ff aNil) := by
  obtain ⟨f, fd, G, hm, hk, hb⟩ := G.ex
  refine ⟨tCall (spM X.K 0 ff) [] E0 tNil, ⟨fun pins s σ H Q I h => ?_⟩, te_fn (fun S d S' h W s Q R k => by cases h; exact k _ W R .refl .nil)⟩
  exact wpAny_Call_Name_kw (ld_glob I hg hm (PySem.W.callWith_K0 I.kIn hk (run_fg (us := []) G hr hgd hb I .nil h)) hdb)
end
section
variable {P : Program} {w : World} {K : PySem.W.Frag} {mg : Str → Option Value} {base : Heap}
theorem fng {x qual : Str} {st : Stmt} {f : Addr} {fd : FuncData} {N ps : List Str} {k : Nat} {b : SF} (F : Fun K x qual st f fd) (hm : mg x = some (.ref f)) (S : FnScope N ps (defScope st))
    (hbi : ∀ (kV doc pm : Value) (an : Option Addr) (cdv ct : Value) (us : List Value), us.length = ps.length → bindArgs (PySem.W.fnOf x qual (defArgs st) (defBody st) (defScope st) .none kV doc pm an cdv ct) ⟨us, []⟩ = pure (ps.zip us))
    (hb : ∀ (cdv : Value) (A : Around) (out : List Env) (s : Shared) (H : Hp) (E : XK), Room k (A.deeper (PyProof.Rows.envOfC qual (defScope st) s.heap.objs.size f cdv)) → A.guards = some [] →
      MSs (cxOf CX0 P w K mg base N qual (defScope st) f cdv A out s H E).nox (defBody st) b) : Fng P w K mg base (k + 1) x ps (fnM N.length b) :=
  ⟨f, fd, fng_ok F S hb, hm, F.kp, F.binds hbi⟩
end
/-! ### the head, for such a law -/
/-- an abstract heap that knows the script, or nothing -/
theorem script_heap {P : Program} {w : World} {K : PySem.W.Frag} {s : Shared} {a : Addr} {vs : List Value} {ns : List Int} (KX : K.In s.heap) (ha : s.heap.get? a = some { cls := .type "list", data := .seq vs.toArray }) (hi : IntsAre vs ns) (hl : ns.length ≤ sizeLine) :
    ∃ H : Hp, Only H ∧ SqL K H a (ns.map V.int) ∧ HOk P w H s.heap ∧ ∀ b, H b ≠ none → b = a ∧ K.lookup a = none := by
  have rv := vals_ints hi
  have ln := hi.length
  cases hk : K.lookup a with
  | some o =>
    have e := KX a o hk
    rw [ha] at e
    cases e
    exact ⟨fun _ => none, fun _ => Or.inl rfl, Or.inr ⟨_, vs.toArray, _, hk, rfl, rfl, rfl, by rw [List.size_toArray, ln]; exact hl, by simpa using rv⟩, fun b u z => (by cases (show (none : Option HO) = some u from z)), fun b z => absurd rfl z⟩
  | none =>
    let o : Obj := { cls := .type "list", data := .seq vs.toArray }
    have at_a : (fun b => if b = a then some (HO.frz o (.lst (ns.map V.int))) else none) a = some (HO.frz o (.lst (ns.map V.int))) := if_pos rfl
    refine ⟨fun b => if b = a then some (.frz o (.lst (ns.map V.int))) else none, fun b => ?_, Or.inl (Or.inr ⟨o, at_a⟩), fun b u z => ?_, fun b z => ?_⟩
    · by_cases h : b = a
      · right; exact ⟨_, _, if_pos h⟩
      · left; exact if_neg h
    · by_cases h : b = a
      · subst h
        cases at_a.symm.trans z
        exact ⟨ha, by rw [List.length_map]; exact hl, vs, _, rv, ha⟩
      · cases (if_neg h).symm.trans z
    · by_cases h : b = a
      · exact ⟨h, rfl⟩
      · exact absurd (if_neg h) z
theorem law_callG {P : Program} {w : World} {K : PySem.W.Frag} {mg mb : Str → Option Value} {k : Nat} {fa a : Addr} {fd : FuncData} {x : Str} {sp : Sp} {s : Shared} {vs : List Value} {ns : List Int}
    (KX : K.In s.heap) (hm : s.heap.Ns mainGlobals mg) (hb : s.heap.Ns builtinsNs mb) (hbb : ∀ y : Str, y ≠ "__name__" → mb y = bootBuiltins y) (hn : s.heap.NoLimit) (hg : s.gens = #[])
    (ha : s.heap.get? a = some { cls := .type "list", data := .seq vs.toArray }) (hi : IntsAre vs ns) (hl : ns.length ≤ sizeLine) (hr : Room k callerA)
    (F : ∀ B : Heap, K.In B → B.Ns mainGlobals mg → FnG P w K mg B k fa fd [x] sp) (hx : ∀ (s : Shared) (u : Value), BindsTo s fd ⟨[u], []⟩ [(x, u)])
    (hs : ∀ H : Hp, Only H → SqL K H a (ns.map V.int) → sp [.ref a] H (fun v _ => v = .bl true) fun _ _ _ => False) :
    codeAny (model P w) callerA (.call (.ref fa) ⟨[.ref a], []⟩) (fun r s' => r = .ok (.ret (.bool true)) ∧ OldK s.heap s'.heap ∧ s'.os = s.os ∧ AllBare s'.gens) s := by
  obtain ⟨H, hO, hS, ok, hA⟩ := script_heap (P := P) (w := w) KX ha hi hl
  have free : ∀ {b : Addr} {o : Obj}, s.heap.get? b = some o → (b = a → False) → (hidT s.heap H).get? b = some o := fun {b o} e n => hidT_get e (by
    cases q : H b with
    | none => rfl
    | some u => exact (n (hA b (by rw [q]; simp)).1).elim)
  have nsF : ∀ {b : Addr} {m : Str → Option Value}, s.heap.Ns b m → (hidT s.heap H).Ns b m := fun {b m} ⟨o, es, ep, e, d, r⟩ => ⟨o, es, ep, free e (fun z => by
    subst z
    rw [ha] at e; cases e
    cases (show Data.seq vs.toArray _ = Data.dict es ep from d)), d, r⟩
  have hK : K.In (hidT s.heap H) := fun b o e => hidT_get (KX b o e) (by
    cases q : H b with
    | none => rfl
    | some u =>
      obtain ⟨z, n⟩ := hA b (by rw [q]; simp)
      subst z
      rw [n] at e; cases e)
  have M : Mod K mg (hidT s.heap H) := by
    obtain ⟨mc, c1, c2⟩ := hn
    exact ⟨hK, nsF hm, ⟨mb, nsF hb, hbb⟩, mc, nsF c1, c2⟩
  have e0 : Env0 P w K mg (hidT s.heap H) callerA [] s H :=
    ⟨rfl, M, fun _ _ e => of_hidT e, Nat.le_of_eq (hidT_size _ _), trivial, fun b z => absurd (show b ∈ ([] : List Addr) from z) (by simp), ok, .of_eq hg⟩
  refine codeAny_mono ((F _ hK (nsF hm)).go callerA [] s H ⟨[.ref a], []⟩ [.ref a] [.ref a] _ _ hr rfl e0 (hx s _) (.cons rfl .nil) (hs H hO hS)) fun res s1 h => ?_
  cases res with
  | error e => exact h.elim
  | ok fl => cases fl with
    | next => exact h.elim
    | brk => exact h.elim
    | cont => exact h.elim
    | ret u =>
      obtain ⟨v, H1, os, ba, un, ok1, r, q⟩ := h
      cases (show v = V.bl true from q)
      cases (show u = Value.bool true from r)
      refine ⟨rfl, OldK.of_keep fun b o e => ?_, os, ba⟩
      cases z : H b with
      | none => exact un.keep b o e z (fun y => absurd (show b ∈ ([] : List Addr) from y) (by simp)) (by simp)
      | some u =>
        rcases hO b with y | ⟨ob, xs, y⟩
        · rw [z] at y; cases y
        · obtain ⟨e1, _⟩ := ok b _ y
          obtain ⟨e2, _⟩ := ok1 b _ (un.frzs b ob _ y)
          rw [e] at e1; cases e1
          exact e2
theorem walk_ofG {l : PySem.W.OpenLaw} {n k : Nat} {q : Program} {loose : List Str} {XP : (Str → Option Value) → Heap → Prop} {YP : World → Heap → Prop} {d : DefRec} {K : Params → PySem.W.Frag} {sp : World → Sp} {x : Str}
    (hn : l.most = some n) (hz : n ≤ sizeLine) (hd : d.params.defaults = []) (hr : Room k callerA) (hY : ∀ (w : World) (h : Heap), YP w h → (K w.params).In h)
    (F : ∀ (w : World) (mg : Str → Option Value) (fa : Addr) (h : Heap), (K w.params).In h → h.Ns mainGlobals mg → mg d.name = some (.ref fa) →
      ∃ fd : FuncData, (∀ (s : Shared) (u : Value), BindsTo s fd ⟨[u], []⟩ [(x, u)]) ∧ ∀ B : Heap, (K w.params).In B → B.Ns mainGlobals mg → FnG l.prog w (K w.params) mg B k fa fd [x] (sp w))
    (hs : ∀ (w : World) (H : Hp) (a : Addr) (ns : List Int), ns.length ≤ n → (∀ z ∈ ns, Builtin.Int.intBits z ≤ 1048576) → Only H → SqL (K w.params) H a (ns.map V.int) → sp w [.ref a] H (fun v _ => v = .bl true) fun _ _ _ => False) :
    PySem.W.WalkO q loose XP YP l.row.toRowW d [] (fun f vs => PySem.call f vs) := by
  refine Att.attach_callB hn hd fun w s₀ s mg mb fa o pm cd doc a vs ns G Y ho hfd hcd hmg hobj hi hlen hb hg => ?_
  obtain ⟨fd, hx, hF⟩ := F w mg fa _ (hY w _ Y) G.T.g hmg
  exact law_callG (hY w _ Y) G.T.g G.T.b G.T.builtins G.T.nolimit hg hobj hi (Nat.le_trans hlen hz) hr hF hx fun H hO hS => hs w H a ns hlen hb hO hS
/-! ### a list display that may walk a cell or not -/
def isCelE (f : EF) (S : Ms) : Bool := match f S with
  | some (.ref _, _) => true
  | _ => false
def cIte (P : Ms → Bool) (a b : CF) : CF := fun S => if P S = true then a S else b S
theorem mf_ite {X : Cx} {e : Expr} {P : Ms → Bool} {a b : CF} (h1 : MF X e a) (h2 : MF X e b) : MF X e (cIte P a b) := by
  obtain ⟨t1, p1, q1⟩ := h1
  obtain ⟨t2, p2, q2⟩ := h2
  refine ⟨fun s H Q => t1 s H Q ∨ t2 s H Q, ⟨fun pins s σ H Q I h => ?_⟩, fun S c S' h W s Q R k => ?_⟩
  · rcases h with h | h
    · exact p1.run pins s σ H Q I h
    · exact p2.run pins s σ H Q I h
  · unfold cIte at h
    split at h
    · exact Or.inl (q1 S c S' h W s Q R k)
    · exact Or.inr (q2 S c S' h W s Q R k)
@[simp] theorem cIte_ap {P : Ms → Bool} {a b : CF} {S : Ms} : cIte P a b S = if P S = true then a S else b S := rfl
end M

/-! M13: dicts with ints and texts for keys; defs that call themselves; index among texts -/
namespace M
open PySem PySem.Spec L2 PyProof.Rows
def lkK (kds : List (Key × D)) (k : Key) : Option D := match kds with
  | [] => none
  | (j, d) :: r => if j = k then some d else lkK r k
def ptK (kds : List (Key × D)) (k : Key) (d : D) : List (Key × D) := if (lkK kds k).isSome then kds.map fun kd => if kd.1 = k then (kd.1, d) else kd else kds ++ [(k, d)]
def dK : Key → D
  | .inl i => .int i
  | .inr s => .str s
section
variable {K : PySem.W.Frag} {F : Hp} {io : List Addr}
theorem RVk.look {k : Key} : ∀ {kvs : List (Key × V)} {kds : List (Key × D)}, RVk K F io kvs kds → (lkK kds k = none → valV kvs k = none) ∧ ∀ d, lkK kds k = some d → ∃ v, valV kvs k = some v ∧ RV K F io v d
  | _, _, .nil => ⟨fun _ => rfl, fun d h => by cases h⟩
  | (j, x) :: r, (_, y) :: r', .cons q t => by
    obtain ⟨i1, i2⟩ := RVk.look (k := k) t
    unfold lkK
    by_cases h : j = k
    · rw [if_pos h, valV_pos (p := (j, x)) h]
      exact ⟨(fun z => by cases z), (fun d z => by cases z; exact ⟨x, rfl, q⟩)⟩
    · rw [if_neg h, valV_neg (p := (j, x)) h]
      exact ⟨i1, i2⟩
theorem RVk.len : ∀ {kvs : List (Key × V)} {kds : List (Key × D)}, RVk K F io kvs kds → kvs.length = kds.length
  | _, _, .nil => rfl
  | _, _, .cons _ t => congrArg (· + 1) (RVk.len t)
theorem RVk.repl {k : Key} {v : V} {d : D} (h : RV K F io v d) : ∀ {kvs : List (Key × V)} {kds : List (Key × D)}, RVk K F io kvs kds → RVk K F io (kvs.map fun kv => if kv.1 = k then (kv.1, v) else kv) (kds.map fun kd => if kd.1 = k then (kd.1, d) else kd)
  | _, _, .nil => .nil
  | (j, x) :: r, (_, y) :: r', .cons q t => by
    have ih := RVk.repl (k := k) h t
    rw [List.map_cons, List.map_cons]
    by_cases c : j = k
    · dsimp only; rw [if_pos c, if_pos c]; exact .cons h ih
    · dsimp only; rw [if_neg c, if_neg c]; exact .cons q ih
theorem RVk.snoc {k : Key} {v : V} {d : D} (h : RV K F io v d) : ∀ {kvs : List (Key × V)} {kds : List (Key × D)}, RVk K F io kvs kds → RVk K F io (kvs ++ [(k, v)]) (kds ++ [(k, d)])
  | _, _, .nil => .cons h .nil
  | _, _, .cons a t => .cons a (RVk.snoc h t)
theorem RVk.put {k : Key} {v : V} {d : D} (h : RV K F io v d) {kvs : List (Key × V)} {kds : List (Key × D)} (r : RVk K F io kvs kds) : RVk K F io (putK kvs k v) (ptK kds k d) := by
  unfold putK ptK
  have hs : (kvs.any fun kv => decide (kv.1 = k)) = (lkK kds k).isSome := by
    rw [valV_any]
    obtain ⟨i1, i2⟩ := r.look (k := k)
    cases e : lkK kds k with
    | none => rw [i1 e]; rfl
    | some d' => obtain ⟨v', e', _⟩ := i2 d' e; rw [e']; rfl
  rw [hs]
  split
  · exact r.repl h
  · exact r.snoc h
theorem RVk.keys : ∀ {kvs : List (Key × V)} {kds : List (Key × D)}, RVk K F io kvs kds → RVs K F io (kvs.map fun kv => kV kv.1) (kds.map fun kd => dK kd.1)
  | _, _, .nil => .nil
  | (j, x) :: r, (_, y) :: r', .cons q t => by
    refine .cons ?_ (RVk.keys t)
    cases j with
    | inl i => exact .int i
    | inr s => exact .str s
theorem keyD_rh {W : Wd} {y : V} {e : D} {k : Key} (h : keyD e = some k) (r : RH K W y e) : y = kV k := by
  unfold keyD at h
  split at h
  · cases h; exact rhI r
  · cases h; exact rhS r
  · cases h
theorem keyD_rv {y : V} {e : D} {k : Key} (h : keyD e = some k) (r : RV K F io y e) : y = kV k := by
  unfold keyD at h
  split at h
  · cases h; exact r.int_inv
  · cases h; exact r.str_inv
  · cases h
end
/-! reading -/
def gIxK (d e : D) : Option D := match d with
  | .dct kds => (keyD e).bind fun k => lkK kds k
  | _ => none
def orG (g g' : D → D → Option D) : D → D → Option D := fun d e => (g d e).or (g' d e)
def gIx2 : D → D → Option D := orG gIx gIxK
def rDG : R2 := fun x y H Q => ∃ a v, x = .ref a ∧ DGet H a y (some v) ∧ Q v H
theorem rDG_ok {K : PySem.W.Frag} : ∀ x y d e z, gIxK d e = some z → ∀ W S s (Q : VK), Rel K W S s → RH K W x d → RH K W y e → (∀ v W', Rel K W' S s → Fr W S.r s W' S.r s → RV K W'.F W'.io v z → Q v W'.H) → rDG x y W.H Q := by
  intro x y d e z h W S s Q R rx ry k
  unfold gIxK at h
  split at h
  · rename_i kds
    obtain ⟨key, e1, h⟩ := bind_some h
    obtain ⟨a, kvs, rfl, h1, h2⟩ := rx
    obtain ⟨v, e2, q⟩ := h2.look.2 _ h
    refine ⟨a, v, rfl, ?_, k v W R .refl q⟩
    rw [keyD_rh e1 ry, ← e2]
    exact .k h1
  · cases h
section
variable {X : Cx} {pos xp : Pos} {a b e : Expr} {fa fb fe : EF} {g g' : D → D → Option D} {x : Str}
theorem me_ixK (hu : X.A.units + 1 < cLine) (ha : ME X a fa) (hb : ME X b fb) (hs : NoSl b := by intro _ _; rfl) : ME X (.Subscript a b pos) (eOp gIxK fa fb) := by
  obtain ⟨ta, p1, q1⟩ := ha
  obtain ⟨tb, p2, q2⟩ := hb
  exact ⟨tOp rDG ta tb, pe_dget hu p1 p2 hs, te_op rDG_ok q1 q2⟩
theorem me_ixKV (hu : X.A.units + 1 < cLine) (i : Nat) (hb : ME X b fb) (hs : NoSl b := by intro _ _; rfl) (hN : X.N[i]? = some x := by rfl) (hv : Vis X.env.scope x := by first | exact Or.inl rfl | exact Or.inr (Or.inl rfl) | exact Or.inr (Or.inr rfl))
    (hd : (x == ("__debug__" : Str)) = false := by decide) (hcd : (x == ("__classdict__" : Str)) = false := by decide) : ME X (.Subscript (.Name x xp) b pos) (eOpL gIxK i fb) := by
  obtain ⟨tb, p2, q2⟩ := hb
  exact ⟨tOp rDG (tVar i) tb, pe_dget hu (pe_var hN hv hd hcd) p2 hs, te_opL rDG_ok q2⟩
theorem or_some {α : Type} {o p : Option α} {z : α} (h : o.or p = some z) : o = some z ∨ p = some z := by
  cases o with
  | none => exact .inr h
  | some x => exact .inl h
theorem me_or2 (h1 : ME X e (eOp g fa fb)) (h2 : ME X e (eOp g' fa fb)) : ME X e (eOp (orG g g') fa fb) := by
  obtain ⟨t1, p1, q1⟩ := h1
  obtain ⟨t2, p2, q2⟩ := h2
  refine ⟨fun s H Q => t1 s H Q ∨ t2 s H Q, ⟨fun pins s σ H Q I h => ?_⟩, fun S d S' h W s Q R k => ?_⟩
  · rcases h with h | h
    · exact p1.run pins s σ H Q I h
    · exact p2.run pins s σ H Q I h
  · obtain ⟨p, e1, h⟩ := bind_some h
    obtain ⟨q, e2, h⟩ := bind_some h
    obtain ⟨z, e3, h⟩ := bind_some h
    rcases or_some e3 with e3 | e3
    · exact .inl (q1 S d S' (by show (fa S).bind _ = _; rw [e1]; show (fb p.2).bind _ = _; rw [e2]; show (g _ _).bind _ = _; rw [e3]; exact h) W s Q R k)
    · exact .inr (q2 S d S' (by show (fa S).bind _ = _; rw [e1]; show (fb p.2).bind _ = _; rw [e2]; show (g' _ _).bind _ = _; rw [e3]; exact h) W s Q R k)
theorem me_or2V {i : Nat} (h1 : ME X e (eOpL g i fb)) (h2 : ME X e (eOpL g' i fb)) : ME X e (eOpL (orG g g') i fb) := by
  obtain ⟨t1, p1, q1⟩ := h1
  obtain ⟨t2, p2, q2⟩ := h2
  refine ⟨fun s H Q => t1 s H Q ∨ t2 s H Q, ⟨fun pins s σ H Q I h => ?_⟩, fun S d S' h W s Q R k => ?_⟩
  · rcases h with h | h
    · exact p1.run pins s σ H Q I h
    · exact p2.run pins s σ H Q I h
  · unfold eOpL at h
    split at h
    · rename_i hh
      obtain ⟨q, e2, h⟩ := bind_some h
      obtain ⟨y, e1, h⟩ := bind_some h
      obtain ⟨z, e3, h⟩ := bind_some h
      rcases or_some e3 with e3 | e3
      · exact .inl (q1 S d S' (by unfold eOpL; rw [if_pos hh, e2]; show (sees i q.2).bind _ = _; rw [e1]; show (g _ _).bind _ = _; rw [e3]; exact h) W s Q R k)
      · exact .inr (q2 S d S' (by unfold eOpL; rw [if_pos hh, e2]; show (sees i q.2).bind _ = _; rw [e1]; show (g' _ _).bind _ = _; rw [e3]; exact h) W s Q R k)
    · cases h
theorem me_ix2 (hu : X.A.units + 1 < cLine) (ha : ME X a fa) (hb : ME X b fb) (hs : PlainIx b := by intro _ _; rfl) : ME X (.Subscript a b pos) (eOp gIx2 fa fb) := me_or2 (me_ix oIx ha hb hs) (me_ixK hu ha hb hs)
theorem me_ix2V (hu : X.A.units + 1 < cLine) (i : Nat) (hb : ME X b fb) (hs : PlainIx b := by intro _ _; rfl) (hN : X.N[i]? = some x := by rfl) (hv : Vis X.env.scope x := by first | exact Or.inl rfl | exact Or.inr (Or.inl rfl) | exact Or.inr (Or.inr rfl))
    (hd : (x == ("__debug__" : Str)) = false := by decide) (hcd : (x == ("__classdict__" : Str)) = false := by decide) : ME X (.Subscript (.Name x xp) b pos) (eOpL gIx2 i fb) := me_or2V (me_ixV i oIx hb hs hN hv hd hcd) (me_ixKV hu i hb hs hN hv hd hcd)
end
/-! writing -/
def modD (i : Nat) (h : List (Key × D) → Option (List (Key × D))) (S : Ms) : Option Ms := match S.r[i]? with
  | some (.own (.dct ds)) => (h ds).bind fun es => some { S with r := S.r.set i (.own (.dct es)) }
  | some (.val (.ref k)) => match S.m[k]? with
    | some (.dct ds) => (h ds).bind fun es => some { S with m := S.m.set k (.dct es) }
    | _ => none
  | _ => none
def putAt (d e : D) (kds : List (Key × D)) : Option (List (Key × D)) := (keyD e).bind fun k => if kds.length < LIM then some (ptK kds k d) else none
def gSubK (i : Nat) (f : EF) : GF := fun d S => if held i S then (f S).bind fun p => modD i (putAt d p.1) p.2 else none
def gAlt (g g' : GF) : GF := fun d S => (g d S).or (g' d S)
theorem modD_ok {K : PySem.W.Frag} {W : Wd} {S S' : Ms} {s : L2.St} (R : Rel K W S s) {i : Nat} {h : List (Key × D) → Option (List (Key × D))} (e : modD i h S = some S') : ∃ a ds es vs, s[i]? = some (some (.ref a)) ∧ h ds = some es ∧ W.H a = some (.dK vs) ∧ RVk K W.F W.io vs ds ∧
    ∀ ws, RVk K W.F W.io ws es → Rel K (W.wr a (.dK ws)) S' s ∧ Fr W S.r s (W.wr a (.dK ws)) S'.r s := by
  unfold modD at e
  split at e
  · rename_i ds q
    obtain ⟨es, e1, e⟩ := bind_some e
    cases e
    obtain ⟨a, e2, n1, n2, vs, h1, h2⟩ := R.owns i _ q
    refine ⟨a, ds, es, vs, e2, e1, h1, h2, fun ws r => ?_⟩
    exact R.wrOwn q e2 (c' := .dct es) ⟨ws, upd_same, r⟩
  · rename_i k q
    split at e
    · rename_i ds q2
      obtain ⟨es, e1, e⟩ := bind_some e
      cases e
      obtain ⟨v, e2, r⟩ := R.slots i _ q
      obtain ⟨a, rfl, e3⟩ := r.ref_inv
      obtain ⟨vs, h1, h2⟩ := R.cells k _ a q2 e3
      refine ⟨a, ds, es, vs, e2, e1, h1, h2, fun ws r => ?_⟩
      exact R.wrCell e3 (c' := .dct es) ⟨ws, upd_same, r⟩
    · cases e
  · cases e
section
variable {X : Cx} {pos xp : Pos} {x : Str} {e : Expr} {g g' : GF}
theorem set_dict (hu : X.A.units + 1 < cLine) : PSet X (fun o i v H Q => ∃ a H', o = .ref a ∧ DPut H a i v H' ∧ Q H') := by
  rintro pins s σ H o i v ov iv u Q I ro ri rv ⟨a, H', rfl, g, q⟩
  obtain rfl : ov = Value.ref a := ro
  exact d_setItem hu I g ri rv fun s' I' => ⟨H', I', q⟩
theorem mg_subK (hu : X.A.units + 1 < cLine) (i : Nat) {ie : Expr} {fi : EF} (hi : ME X ie fi) (hN : X.N[i]? = some x := by rfl) (hv : Vis X.env.scope x := by first | exact Or.inl rfl | exact Or.inr (Or.inl rfl) | exact Or.inr (Or.inr rfl))
    (hd : (x == ("__debug__" : Str)) = false := by decide) (hcd : (x == ("__classdict__" : Str)) = false := by decide)
    (ha : ∀ v, assign (.Subscript (.Name x xp) ie pos) X.env v = (do
      let ov ← holding [v] (eval (.Name x xp) X.env)
      let iv ← holding [v, ov] (eval ie X.env)
      standAt pos
      holding [v, ov, iv] (setItem ov iv v)
      release [v, ov, iv] []) := by intro _; rfl) : MG X (.Subscript (.Name x xp) ie pos) (gSubK i fi) := by
  obtain ⟨t, p, q⟩ := hi
  refine ⟨_, pg_sub (pe_var hN hv hd hcd) p (set_dict hu) ha, fun d S S' h W s v Q R r k => ?_⟩
  unfold gSubK at h
  split at h
  · rename_i hh
    obtain ⟨⟨d1, S1⟩, e1, h⟩ := bind_some h
    obtain ⟨u, eu⟩ := R.held hh
    refine ⟨u, eu, ?_⟩
    refine q S _ _ e1 W s _ R fun y W1 R1 f1 r1 => ?_
    obtain ⟨a, ds, es, vs, e2, e3, h1, h2, kk⟩ := modD_ok R1 h
    rw [eu] at e2; cases e2
    obtain ⟨key, ek, e3⟩ := bind_some e3
    split at e3
    · rename_i hl
      cases e3
      obtain ⟨R2, f2⟩ := kk _ (h2.put (k := key) (r.up f1))
      refine ⟨a, _, rfl, ?_, k _ _ R2 (f1.trans f2)⟩
      rw [keyD_rv ek r1]
      exact .k h1 (by rw [h2.len]; exact Nat.lt_of_lt_of_le hl lim_line)
    · cases e3
  · cases h
theorem mg_alt (h1 : MG X e g) (h2 : MG X e g') : MG X e (gAlt g g') := by
  obtain ⟨t1, p1, q1⟩ := h1
  obtain ⟨t2, p2, q2⟩ := h2
  refine ⟨fun v s H Q => t1 v s H Q ∨ t2 v s H Q, ⟨fun pins s σ H v u Q I r h => ?_⟩, fun d S S' h W s v Q R r k => ?_⟩
  · rcases h with h | h
    · exact p1.run pins s σ H v u Q I r h
    · exact p2.run pins s σ H v u Q I r h
  · rcases or_some h with h | h
    · exact .inl (q1 d S S' h W s v Q R r k)
    · exact .inr (q2 d S S' h W s v Q R r k)
end
/-! {}, len, list -/
def cDK : CF := fun S => some (.dct [], S)
section
variable {X : Cx} {pos : Pos}
theorem mf_dK : MF X (.Dict [] [] pos) cDK := by
  refine ⟨_, pe_dnewK, fun S c S' h W s Q R k => ?_⟩
  cases h
  intro p hp
  obtain ⟨R1, f1⟩ := R.wrNew (o := .dK []) hp
  exact k p _ R1 f1 hp ⟨R.freshF hp, R.freshIo hp, R.freshOwn hp, [], upd_same, .nil⟩
def orC (g g' : D → Option D) : D → Option D := fun d => (g d).or (g' d)
theorem CallM.or {f : Value} {g g' : D → Option D} (h : CallM X f g) (h' : CallM X f g') : CallM X f (orC g g') := by
  obtain ⟨r, a, b⟩ := h
  obtain ⟨r', a', b'⟩ := h'
  refine ⟨_, a.or a', fun x d z e W S s Q R rx k => ?_⟩
  rcases or_some e with e | e
  · exact .inl (b x d z e W S s Q R rx k)
  · exact .inr (b' x d z e W S s Q R rx k)
def orF (g g' : D → Option Cell) : D → Option Cell := fun d => (g d).or (g' d)
theorem CallMF.or {f : Value} {g g' : D → Option Cell} (h : CallMF X f g) (h' : CallMF X f g') : CallMF X f (orF g g') := by
  obtain ⟨r, a, b⟩ := h
  obtain ⟨r', a', b'⟩ := h'
  refine ⟨_, a.or a', fun x d z e W S s Q R rx k => ?_⟩
  rcases or_some e with e | e
  · exact .inl (b x d z e W S s Q R rx k)
  · exact .inr (b' x d z e W S s Q R rx k)
def gLenK : D → Option D
  | .dct kds => some (.int kds.length)
  | _ => none
theorem cLenK : CallM X (.builtin "len") gLenK := by
  refine ⟨_, call_lenD, fun x d z e W S s Q R rx k => ?_⟩
  unfold gLenK at e
  split at e
  · cases e
    obtain ⟨a, kvs, rfl, h1, h2⟩ := rx
    exact ⟨a, kvs, rfl, h1, by rw [h2.len]; exact k _ W R .refl (.int _)⟩
  · cases e
def gLen2 := orC gLen gLenK
theorem cLen2 : CallM X (.builtin "len") gLen2 := cLen.or cLenK
def gListK : D → Option Cell
  | .dct kds => some (.lst (kds.map fun kd => dK kd.1))
  | _ => none
theorem cListK (hc : X.calm = true) : CallMF X (.type "list") gListK := by
  refine ⟨_, call_listD hc, fun x d c e W S s Q R rx k => ?_⟩
  unfold gListK at e
  split at e
  · cases e
    obtain ⟨a, kvs, rfl, h1, h2⟩ := rx
    refine ⟨a, kvs, rfl, .inl h1, fun p hp => ?_⟩
    obtain ⟨R2, f2, n⟩ := R.newLst hp h2.keys
    exact k p _ hp n R2 f2
  · cases e
def gList2 := orF gList gListK
theorem cList2 (hc : X.calm = true) : CallMF X (.type "list") gList2 := cList.or (cListK hc)
end
/-! a def that calls itself -/
theorem mss_none {X : Cx} {st : List Stmt} : MSs X st (fun _ => none) := ⟨fun _ _ _ => False, ⟨fun _ _ _ _ _ _ h => h.elim⟩, fun S fl S' h => by cases h⟩
/-! index in a list -/
def firstP (d : PyData) : List PyData → Option Nat
  | [] => none
  | p :: ps => if PyData.eqv p d = true then some 0 else (firstP d ps).map (· + 1)
theorem firstP_ok {d : PyData} : ∀ {ps : List PyData} {j : Nat}, firstP d ps = some j → (∃ z, ps[j]? = some z ∧ PyData.eqv z d = true) ∧ ∀ (m : Nat) (z : PyData), m < j → ps[m]? = some z → PyData.eqv z d = false
  | [], _, h => by cases h
  | p :: ps, j, h => by
    unfold firstP at h
    split at h
    · rename_i c
      cases h
      exact ⟨⟨p, rfl, c⟩, fun m z hm => absurd hm (Nat.not_lt_zero _)⟩
    · rename_i c
      cases e : firstP d ps with
      | none => rw [e] at h; cases h
      | some i =>
        rw [e] at h
        cases h
        obtain ⟨⟨z, h1, h2⟩, h3⟩ := firstP_ok e
        refine ⟨⟨z, by simpa using h1, h2⟩, fun m z hm hz => ?_⟩
        cases m with
        | zero =>
          simp only [List.getElem?_cons_zero, Option.some.injEq] at hz
          subst hz
          simpa using c
        | succ m => exact h3 m z (Nat.lt_of_succ_lt_succ hm) (by simpa using hz)
def gIdx (x y : D) : Option D := match x with
  | .lst ds => (toPys ds).bind fun ps => (toPy y).bind fun d => if SeqAt.shaped (.list ps) = true ∧ SeqAt.shaped d = true then (firstP d ps).map fun j => .int (j : Nat) else none
  | _ => none
def eIdxE (fo fe : EF) : EF := fun S => (fo S).bind fun p => match p.1 with
  | .lst ds => (fe p.2).bind fun q => (gIdx (.lst ds) (vw q.2 q.1)).bind fun z => some (z, q.2)
  | _ => none
theorem me_idxE {X : Cx} {o e : Expr} {fo fe : EF} {apos pos : Pos} (hu : X.A.units + 65 < cLine) (ho : ME X o fo) (he : ME X e fe)
    (hbase : attributeBase o "index" X.env (eval o X.env) = eval o X.env := by rfl)
    (hfew : ((backTo pos (starEach [e] X.env)).all (fun x => !x.1) && (backToKw pos (keywordEach [] X.env)).all (fun x => x.1.isSome)
      && decide ([e].length + ([] : List Keyword).length + (if ([] : List Keyword).isEmpty then 0 else 1) < 30)) = true := by rfl)
    (hline : (apos.endLine == pos.line) = true := by rfl) (hs : starEach [e] X.env = (false, eval e X.env) :: starEach [] X.env := by rfl) (hplain : (backTo pos (starEach [] X.env)).any (·.1) = false := by rfl) :
    ME X (.Call (.Attribute o "index" apos) [e] [] pos) (eIdxE fo fe) := by
  obtain ⟨t, p, q⟩ := ho
  obtain ⟨t2, p2, q2⟩ := he
  refine ⟨_, pe_bm PySem.F.plainAttrs_list PySem.F.slot_list_index PySem.F.type_list_index (mt_indexD hu) p (pa_cons p2 pa_nil hs) hbase hfew hline hs hplain, fun S d S' h W s Q R k => ?_⟩
  obtain ⟨⟨d1, S1⟩, e1, h⟩ := bind_some h
  simp only at h
  split at h
  · rename_i ds
    obtain ⟨⟨d2, S2⟩, e2, h⟩ := bind_some h
    obtain ⟨z, e3, h⟩ := bind_some h
    cases h
    refine q S _ _ e1 W s _ R fun v W1 R1 f1 r1 => ?_
    have r1' := r1
    obtain ⟨a, vs, rfl, h1, h2⟩ := r1'.lst_inv
    refine ⟨.inl ⟨rfl, vs, .of (R1.sub _ _ h1)⟩, ?_⟩
    refine q2 S1 _ _ e2 W1 s _ R1 fun y W2 R2 f2 r2 => ?_
    simp only at e3
    unfold gIdx at e3
    obtain ⟨ps, c1, e3⟩ := bind_some e3
    obtain ⟨pd, c2, e3⟩ := bind_some e3
    split at e3
    · rename_i sh
      cases e4 : firstP pd ps with
      | none => rw [e4] at e3; cases e3
      | some j =>
        rw [e4] at e3
        cases e3
        obtain ⟨⟨zz, hz1, hz2⟩, hz3⟩ := firstP_ok e4
        exact ⟨a, y, pd, ps, j, zz, rfl, rfl, RV.dp R2.sub (r1.up f2) _ (by simp [toPy, c1]), rh_dp R2 (R2.vw r2) c2, sh.1, sh.2, hz1, hz2, hz3, k _ W2 R2 (f1.trans f2) (.int _)⟩
    · cases e3
  · cases h
section
variable {S : Ms} {f fo fe : EF} {i : Nat} {d e : D} {kds : List (Key × D)} {ds : List D} {g g' : GF}
@[simp] theorem gIx2_lst : gIx2 (.lst ds) e = gIx (.lst ds) e := by unfold gIx2 orG; simp [gIxK]
@[simp] theorem gIx2_tup : gIx2 (.tup ds) e = gIx (.tup ds) e := by unfold gIx2 orG; simp [gIxK]
@[simp] theorem gIx2_sc : gIx2 (.sc ds) e = gIx (.sc ds) e := by unfold gIx2 orG; simp [gIxK]
@[simp] theorem gIx2_str {x : Str} : gIx2 (.str x) e = gIx (.str x) e := by unfold gIx2 orG; simp [gIxK]
@[simp] theorem gIx2_dctS {x : Str} : gIx2 (.dct kds) (.str x) = lkK kds (.inr x) := by unfold gIx2 orG gIx; simp [gIxK, keyD]
@[simp] theorem gIx2_dctI {x : Int} : gIx2 (.dct kds) (.int x) = lkK kds (.inl x) := by unfold gIx2 orG gIx; simp [gIxK, keyD]
@[simp] theorem gLen2_lst : gLen2 (.lst ds) = some (.int ds.length) := rfl
@[simp] theorem gLen2_tup : gLen2 (.tup ds) = some (.int ds.length) := rfl
@[simp] theorem gLen2_sc : gLen2 (.sc ds) = some (.int ds.length) := rfl
@[simp] theorem gLen2_dct : gLen2 (.dct kds) = some (.int kds.length) := rfl
@[simp] theorem gList2_lst : gList2 (.lst ds) = some (.lst ds) := rfl
@[simp] theorem gList2_tup : gList2 (.tup ds) = some (.lst ds) := rfl
@[simp] theorem gList2_sc : gList2 (.sc ds) = some (.lst ds) := rfl
@[simp] theorem gList2_dct : gList2 (.dct kds) = some (.lst (kds.map fun kd => dK kd.1)) := rfl
@[simp] theorem modD_ap {x : List (Key × D) → Option (List (Key × D))} : modD i x S = match S.r[i]? with
  | some (.own (.dct ds)) => (x ds).bind fun es => some ⟨S.r.set i (.own (.dct es)), S.m⟩
  | some (.val (.ref k)) => match S.m[k]? with
    | some (.dct ds) => (x ds).bind fun es => some ⟨S.r, S.m.set k (.dct es)⟩
    | _ => none
  | _ => none := rfl
@[simp] theorem gSubK_ap : gSubK i f d S = if held i S then (f S).bind fun p => modD i (putAt d p.1) p.2 else none := rfl
@[simp] theorem gAlt_ap : gAlt g g' d S = (g d S).or (g' d S) := rfl
@[simp] theorem putAt_str {x : Str} : putAt d (.str x) kds = if kds.length < LIM then some (ptK kds (.inr x) d) else none := rfl
@[simp] theorem putAt_int {x : Int} : putAt d (.int x) kds = if kds.length < LIM then some (ptK kds (.inl x) d) else none := rfl
@[simp] theorem cDK_ap : cDK S = some (.dct [], S) := rfl
@[simp] theorem eIdxE_ap : eIdxE fo fe S = (fo S).bind fun p => match p.1 with
  | .lst ds => (fe p.2).bind fun q => (gIdx (.lst ds) (vw q.2 q.1)).bind fun z => some (z, q.2)
  | _ => none := rfl
@[simp] theorem lkK_nil {k : Key} : lkK [] k = none := rfl
@[simp] theorem lkK_cons {j k : Key} {r : List (Key × D)} : lkK ((j, d) :: r) k = if j = k then some d else lkK r k := rfl
end
end M

/-! M14: texts; a module's constants -/
namespace M
open PySem PySem.Spec L2 PyProof.Rows
theorem me_globS {X : Cx} {pos : Pos} {x z : Str} (h : ∃ t, X.mg x = some (.str z t)) (hg : Gl X x := by rfl) (hdb : (x == ("__debug__" : Str)) = false := by decide) : ME X (.Name x pos) (eC (.str z)) := by
  obtain ⟨t, h⟩ := h
  exact me_glob (v := .str z) hg h ⟨t, rfl⟩ (fun _ _ => .str z) hdb
theorem me_globI {X : Cx} {pos : Pos} {x : Str} {n : Int} (h : ∃ t, X.mg x = some (.int n t)) (hg : Gl X x := by rfl) (hdb : (x == ("__debug__" : Str)) = false := by decide) : ME X (.Name x pos) (eC (.int n)) := by
  obtain ⟨t, h⟩ := h
  exact me_glob (v := .int n) hg h ⟨t, rfl⟩ (fun _ _ => .int n) hdb
/-- a tuple of texts that the module holds -/
def strsB : List Value → List Str → Bool
  | [], [] => true
  | .str y _ :: us, z :: zs => decide (y = z) && strsB us zs
  | _, _ => false
theorem strsB_ok : ∀ {us : List Value} {zs : List Str}, strsB us zs = true → Vals (zs.map V.str) us
  | [], [], _ => .nil
  | [], _ :: _, h => by simp [strsB] at h
  | u :: us, zs, h => by
    cases u <;> cases zs <;> simp [strsB] at h
    obtain ⟨rfl, h⟩ := h
    exact .cons ⟨_, rfl⟩ (strsB_ok h)
theorem rvs_strs {K : PySem.W.Frag} {F : Hp} {io : List Addr} : ∀ zs : List Str, RVs K F io (zs.map V.str) (zs.map D.str)
  | [] => .nil
  | z :: zs => .cons (.str z) (rvs_strs zs)
def KStrs (K : PySem.W.Frag) (u : Value) (zs : List Str) : Prop := ∃ a, u = .ref a ∧ ∃ (o : Obj) (its : Array Value) (n : Nat), K.lookup a = some o ∧ o.cls = .type "tuple" ∧ o.data = .seq its n ∧ its.size ≤ sizeLine ∧ strsB its.toList zs = true
theorem me_globT {X : Cx} {pos : Pos} {x : Str} {zs : List Str} (h : ∃ u, X.mg x = some u ∧ KStrs X.K u zs) (hg : Gl X x := by rfl) (hdb : (x == ("__debug__" : Str)) = false := by decide) : ME X (.Name x pos) (eC (.tup (zs.map D.str))) := by
  obtain ⟨u, h, a, rfl, o, its, n, h1, h2, h3, h4, h5⟩ := h
  exact me_glob (v := .ref a) hg h rfl (fun _ _ => .tup (.inr ⟨o, its, n, h1, h2, h3, h4, strsB_ok h5⟩) (rvs_strs zs)) hdb
/-! in -/
def gInS (neg : Bool) (d e : D) : Option D := match d, e with
  | .str x, .str z => match x.cps.toList with
    | [c] => some (.bl (xor neg (decide (c ∈ z.cps.toList))))
    | _ => none
  | _, _ => none
theorem one_str {x : Str} {c : Nat} (h : x.cps.toList = [c]) : x = ⟨#[c]⟩ := Str.ext' (Array.toList_inj.mp h)
theorem oInS {X : Cx} : OpM X (compareOp .In) (gInS false) := by
  refine ⟨_, op_in_sign, fun x y d e z hz W S s Q R rx ry k => ?_⟩
  unfold gInS at hz
  split at hz
  · split at hz
    · rename_i c h
      cases hz
      cases rhS rx; cases rhS ry
      refine ⟨c, _, by rw [one_str h], rfl, ?_⟩
      have kk := k _ W R .refl (.bl _)
      simpa only [Bool.false_xor] using kk
    · cases hz
  · cases hz
theorem oNotInS {X : Cx} : OpM X (compareOp .NotIn) (gInS true) := by
  refine ⟨_, op_notIn_sign, fun x y d e z hz W S s Q R rx ry k => ?_⟩
  unfold gInS at hz
  split at hz
  · split at hz
    · rename_i c h
      cases hz
      cases rhS rx; cases rhS ry
      refine ⟨c, _, by rw [one_str h], rfl, ?_⟩
      have kk := k _ W R .refl (.bl _)
      simpa only [Bool.true_xor] using kk
    · cases hz
  · cases hz
def gIn3 (neg : Bool) (d e : D) : Option D := (gIn neg d e).or (gInS neg d e)
theorem oIn3 {X : Cx} (hu : X.A.units + 65 < cLine) : OpM X (compareOp .In) (gIn3 false) := (oIn hu).or oInS
theorem oNotIn3 {X : Cx} (hu : X.A.units + 65 < cLine) : OpM X (compareOp .NotIn) (gIn3 true) := (oNotIn hu).or oNotInS
/-! a text again and again -/
def gMulS (d e : D) : Option D := match d, e with
  | .str x, .int n => if x.length ≤ 16 ∧ n ≤ 1048576 ∧ -1048576 ≤ n then some (.str (Txt.mul x n)) else none
  | _, _ => none
theorem op_mul_str {X : Cx} : OpR X (binaryOp .Mult) (fun x y H Q => ∃ z n, x = .str z ∧ y = .int n ∧ z.length ≤ 16 ∧ n ≤ 1048576 ∧ -1048576 ≤ n ∧ Q (.str (Txt.mul z n)) H) := by
  intro pins s σ H x y v u Q I rx ry h
  obtain ⟨z, n, rfl, rfl, h1, h2, h3, q⟩ := h
  obtain ⟨t, rfl⟩ := rx
  obtain ⟨t', rfl⟩ := ry
  exact SB.mul (mulOk_of 16 1048576 h1 h2 (by omega) (by decide) (by decide)) fun t' tk => ⟨.str (Txt.mul z n), H, I.tok _, ⟨_, rfl⟩, q⟩
theorem oMulS {X : Cx} : OpM X (binaryOp .Mult) gMulS := by
  refine ⟨_, op_mul_str, fun x y d e z hz W S s Q R rx ry k => ?_⟩
  unfold gMulS at hz
  split at hz
  · split at hz
    · rename_i c
      cases hz
      cases rhS rx; cases rhI ry
      exact ⟨_, _, rfl, rfl, c.1, c.2.1, c.2.2, k _ W R .refl (.str _)⟩
    · cases hz
  · cases hz
def gMul3 (d e : D) : Option D := (gMul d e).or (gMulS d e)
theorem oMul3 {X : Cx} : OpM X (binaryOp .Mult) gMul3 := oMul.or oMulS
/-! the signs of a text, one by one -/
def iStrM (f : EF) : AF := fun S => (f S).bind fun p => match p.1 with
  | .str z => some (z.cps.toList.map (fun c => D.str ⟨#[c]⟩), p.2)
  | _ => none
theorem mi_str {X : Cx} {tg e : Expr} {fe : EF} (he : ME X e fe) : MI X tg e (iStrM fe) := by
  obtain ⟨t, p, q⟩ := he
  refine ⟨_, pi_str p, fun S ds S' h W s Rr R k => ?_⟩
  obtain ⟨⟨d1, S1⟩, e1, h⟩ := bind_some h
  simp only at h
  split at h
  · rename_i z
    cases h
    refine q S _ _ e1 W s _ R fun v W1 R1 f1 r1 => ?_
    cases r1.str_inv
    refine ⟨z, rfl, k _ W1 R1 f1 ⟨fun W2 S s R hF hi i d e => ?_, fun W2 S s R hF hi => ?_⟩⟩
    · rw [List.getElem?_map] at e
      obtain ⟨c, ec, e⟩ := Option.map_eq_some_iff.mp e
      cases e
      have hl := (List.getElem?_eq_some_iff.mp ec).1
      rw [Array.length_toList] at hl
      refine ⟨hl, fun x H' y => ⟨W2, y.1.symm, R, .refl, ?_⟩⟩
      obtain ⟨_, c', ec', rfl⟩ := y
      rw [Array.getElem?_toList] at ec
      rw [ec] at ec'
      cases ec'
      exact .str _
    · show z.cps.size ≤ _
      simp
  · cases h
/-! join -/
def strsD : List D → Option (List Str)
  | [] => some []
  | .str z :: ds => (strsD ds).map (z :: ·)
  | _ :: _ => none
theorem strsD_rv {K : PySem.W.Frag} {F : Hp} {io : List Addr} : ∀ {vs : List V} {ds : List D} {zs : List Str}, RVs K F io vs ds → strsD ds = some zs → vs = zs.map V.str
  | _, _, _, .nil, h => by cases h; rfl
  | _, _, _, @RVs.cons _ _ _ v vs d ds r t, h => by
    cases d <;> simp [strsD] at h
    obtain ⟨ys, h, rfl⟩ := h
    cases r.str_inv
    rw [strsD_rv t h]; rfl
def joinOk (a : Str) (ys : List Str) : Prop := (ys.map (·.length)).sum + ys.length * a.length ≤ 16777216
open Classical in
noncomputable def eJoin (fo fe : EF) : EF := fun S => (fo S).bind fun p => match p.1 with
  | .str a => (fe p.2).bind fun q => match vw q.2 q.1 with
    | .lst ds => (strsD ds).bind fun ys => if joinOk a ys then some (.str (Txt.join a ys), q.2) else none
    | _ => none
  | _ => none
theorem me_join {X : Cx} {o e : Expr} {fo fe : EF} {apos pos : Pos} (ho : ME X o fo) (he : ME X e fe) (hs : starEach [e] X.env = [(false, eval e X.env)] := by rfl) (hbase : attributeBase o "join" X.env (eval o X.env) = eval o X.env := by rfl) (hline : (apos.endLine == pos.line) = true := by rfl) :
    ME X (.Call (.Attribute o "join" apos) [e] [] pos) (eJoin fo fe) := by
  obtain ⟨t, p, q⟩ := ho
  obtain ⟨t2, p2, q2⟩ := he
  refine ⟨_, pe_join p p2 hs hbase hline, fun S d S' h W s Q R k => ?_⟩
  obtain ⟨⟨d1, S1⟩, e1, h⟩ := bind_some h
  simp only at h
  split at h
  · rename_i a
    obtain ⟨⟨d2, S2⟩, e2, h⟩ := bind_some h
    refine q S _ _ e1 W s _ R fun v W1 R1 f1 r1 => ?_
    cases r1.str_inv
    refine ⟨⟨a, rfl⟩, ?_⟩
    refine q2 S1 _ _ e2 W1 s _ R1 fun y W2 R2 f2 r2 => ?_
    have r3 := R2.vw r2
    simp only at h
    generalize vw S2 d2 = w at h r3
    split at h
    · rename_i ds
      obtain ⟨ys, e3, h⟩ := bind_some h
      split at h
      · rename_i c
        cases h
        obtain ⟨p', vs, rfl, h1, h2⟩ := r3
        cases strsD_rv h2 e3
        exact ⟨a, p', ys, rfl, rfl, .inl (.of h1), c, k _ W2 R2 (f1.trans f2) (.str _)⟩
      · cases h
    · cases h
  · cases h
/-! isinstance of what may be a cell -/
theorem tyh {K : PySem.W.Frag} {W : Wd} {S : Ms} {s : L2.St} (R : Rel K W S s) {v : V} {d : D} {n : String} (h : RH K W v d) (e : tyName d = some n) : TyX K W.H v (.type n) := by
  cases d with
  | lst ds => cases e; obtain ⟨a, vs, rfl, h1, h2⟩ := h; exact .base (.lst h1)
  | dct ds => cases e; obtain ⟨a, vs, rfl, h1, h2⟩ := h; exact .base (.dK h1)
  | non => exact tyx R (show RV _ _ _ _ _ from h) e
  | bl b => exact tyx R (show RV _ _ _ _ _ from h) e
  | int b => exact tyx R (show RV _ _ _ _ _ from h) e
  | str b => exact tyx R (show RV _ _ _ _ _ from h) e
  | tup ds => exact tyx R (show RV _ _ _ _ _ from h) e
  | sc ds => cases e
  | ref k => cases e
def eIsiC (T : String) (f : EF) : EF := fun S => (f S).bind fun p => (gIsi T (vw p.2 p.1)).bind fun z => some (z, p.2)
theorem me_isiC {X : Cx} {pos : Pos} {e : Expr} {y : Str} {T : String} {f : EF} {p yp : Pos} (hg : Gl X "isinstance") (hm : X.mg "isinstance" = none) (hgy : Gl X y) (hmy : X.mg y = none) (hv : bootBuiltins y = some (.type T)) (ha : ME X e f)
    (hb : bootBuiltins "isinstance" = some (.builtin "isinstance") := by decide +kernel) (hny : y ≠ "__name__" := by decide) (hdy : (y == ("__debug__" : Str)) = false := by decide) (hn : ("isinstance" : Str) ≠ "__name__" := by decide)
    (hs : starEach [e, .Name y yp] X.env = (false, eval e X.env) :: starEach [.Name y yp] X.env := by rfl) (hpl : (backTo pos (starEach [.Name y yp] X.env)).any (·.1) = false := by rfl)
    (hs2 : starEach [.Name y yp] X.env = (false, eval (.Name y yp) X.env) :: starEach [] X.env := by rfl) : ME X (.Call (.Name "isinstance" p) [e, .Name y yp] [] pos) (eIsiC T f) := by
  obtain ⟨t, p, q⟩ := ha
  refine ⟨_, pe_callB call_isi hg hm hb (pa_cons p (pa_cons (pe_bltn (v := .ty T) hgy hmy hv rfl hny hdy) pa_nil hs2) hs) hn (by decide) hs hpl, fun S d S' hz W s Q R k => ?_⟩
  obtain ⟨⟨d1, S1⟩, e1, hz⟩ := bind_some hz
  obtain ⟨z, e2, hz⟩ := bind_some hz
  cases hz
  refine q S _ _ e1 W s _ R fun v W1 R1 f1 r1 => ?_
  obtain ⟨n, e3, e2⟩ := bind_some e2
  obtain ⟨b, e4, e2⟩ := bind_some e2
  cases e2
  exact ⟨v, .ty T, .type n, .type T, b, rfl, .ty T, tyh R1 (R1.vw r1) e3, kit_ty e4, k _ W1 R1 f1 (.bl _)⟩
section
variable {S : Ms} {f fo fe : EF} {x z : Str} {c : Nat} {d e : D} {ds : List D} {b : Bool} {T : String} {i n : Int}
@[simp] theorem eIsiC_ap : eIsiC T f S = (f S).bind fun p => (gIsi T (vw p.2 p.1)).bind fun z => some (z, p.2) := rfl
open Classical in
@[simp] theorem eJoin_ap : eJoin fo fe S = (fo S).bind fun p => match p.1 with
  | .str a => (fe p.2).bind fun q => match vw q.2 q.1 with
    | .lst ds => (strsD ds).bind fun ys => if joinOk a ys then some (.str (Txt.join a ys), q.2) else none
    | _ => none
  | _ => none := rfl
@[simp] theorem iStrM_ap : iStrM f S = (f S).bind fun p => match p.1 with
  | .str z => some (z.cps.toList.map (fun c => D.str ⟨#[c]⟩), p.2)
  | _ => none := rfl
theorem gIx_str : gIx (.str z) (.int i) = if z.length ≤ 1000000 then (atI z.cps.toList i).bind fun c => some (.str ⟨#[c]⟩) else none := rfl
theorem gLen_str : gLen (.str z) = if z.length ≤ 1000000 then some (.int z.length) else none := rfl
theorem gIn3_sign {neg : Bool} : gIn3 neg (.str ⟨#[c]⟩) (.str z) = some (.bl (xor neg (decide (c ∈ z.cps.toList)))) := rfl
theorem gIn3_tup {neg : Bool} : gIn3 neg d (.tup ds) = gIn neg d (.tup ds) := by
  unfold gIn3 gInS; cases d <;> simp
theorem gIn3_lst {neg : Bool} : gIn3 neg d (.lst ds) = gIn neg d (.lst ds) := by
  unfold gIn3 gInS; cases d <;> simp
@[simp] theorem gMul3_int : gMul3 (.int i) (.int n) = gMul (.int i) (.int n) := by
  unfold gMul3 gMulS; simp
theorem gMul3_str : gMul3 (.str z) (.int n) = if z.length ≤ 16 ∧ n ≤ 1048576 ∧ -1048576 ≤ n then some (.str (Txt.mul z n)) else none := rfl
end
end M

/-! M15: int of a text -/
namespace M
open PySem PySem.Spec L2 PyProof.Rows
def gIntS : D → Option D
  | .str z => (intText? z).bind fun n => if z.length ≤ 640 then some (.int n) else none
  | _ => none
theorem cIntS {X : Cx} : CallM X (.type "int") gIntS := by
  refine ⟨_, call_int_str, fun x d z hz W S s Q R rx k => ?_⟩
  unfold gIntS at hz
  split at hz
  · obtain ⟨n, e, hz⟩ := bind_some hz
    split at hz
    · rename_i c
      cases hz
      cases rhS rx
      exact ⟨_, _, rfl, e, c, k _ W R .refl (.int _)⟩
    · cases hz
  · cases hz
def gInt3 : D → Option D := orC gInt gIntS
theorem cInt3 {X : Cx} : CallM X (.type "int") gInt3 := cInt.or cIntS
@[simp] theorem gInt3_int {i : Int} : gInt3 (.int i) = some (.int i) := rfl
@[simp] theorem gInt3_bl {b : Bool} : gInt3 (.bl b) = some (.int (if b then 1 else 0)) := rfl
theorem gInt3_str {z : Str} : gInt3 (.str z) = (intText? z).bind fun n => if z.length ≤ 640 then some (.int n) else none := rfl
end M

/-! M16: a list again and again -/
namespace M
open PySem PySem.Spec L2 PyProof.Rows
def gMulL (d e : D) : Option D := match d, e with
  | .lst xs, .int n => if xs.length * n.toNat ≤ LIM ∧ n ≤ 1048576 ∧ -1048576 ≤ n then some (.lst (List.replicate n.toNat xs).flatten) else none
  | _, _ => none
theorem RVs.rep {K : PySem.W.Frag} {F : Hp} {io : List Addr} {vs : List V} {ds : List D} (h : RVs K F io vs ds) : ∀ n : Nat, RVs K F io (List.replicate n vs).flatten (List.replicate n ds).flatten
  | 0 => .nil
  | n + 1 => by
    rw [List.replicate_succ, List.flatten_cons, List.replicate_succ, List.flatten_cons]
    exact h.append (RVs.rep h n)
theorem oMulL {X : Cx} : OpM X (binaryOp .Mult) gMulL := by
  refine ⟨_, op_rep, fun x y d e z hz W S s Q R rx ry k => ?_⟩
  unfold gMulL at hz
  split at hz
  · rename_i xs n
    split at hz
    · rename_i c
      cases hz
      obtain ⟨l, vs, rfl, h1, h2⟩ := rx
      cases rhI ry
      refine ⟨l, n, vs, rfl, rfl, h1, by omega, by omega, by rw [h2.length]; exact Nat.le_trans c.1 lim_line, fun p hp => ?_⟩
      obtain ⟨R1, f1⟩ := R.al (o := .lst (List.replicate n.toNat vs).flatten) hp
      exact k _ _ R1 f1 (.lst upd_same ((RVs.rep h2 n.toNat).up f1))
    · cases hz
  · cases hz
def gMul4 (d e : D) : Option D := (gMul3 d e).or (gMulL d e)
theorem oMul4 {X : Cx} : OpM X (binaryOp .Mult) gMul4 := oMul3.or oMulL
/-! two lists joined to a new one -/
def cCat (fa fb : EF) : CF := fun S => (fa S).bind fun p => (fb p.2).bind fun q => match vw q.2 p.1, vw q.2 q.1 with
  | .lst xs, .lst ys => if xs.length + ys.length ≤ LIM then some (.lst (xs ++ ys), q.2) else none
  | _, _ => none
theorem mf_cat {X : Cx} {a b : Expr} {fa fb : EF} {pos : Pos} (ha : ME X a fa) (hb : ME X b fb) : MF X (.BinOp a .Add b pos) (cCat fa fb) := by
  obtain ⟨ta, p1, q1⟩ := ha
  obtain ⟨tb, p2, q2⟩ := hb
  refine ⟨_, pe_op op_cat p1 p2, fun S c S' h W s Q R k => ?_⟩
  obtain ⟨⟨d1, S1⟩, e1, h⟩ := bind_some h
  obtain ⟨⟨d2, S2⟩, e2, h⟩ := bind_some h
  refine q1 S _ _ e1 W s _ R fun x W1 R1 f1 r1 => ?_
  refine q2 S1 _ _ e2 W1 s _ R1 fun y W2 R2 f2 r2 => ?_
  have rx := R2.vw (r1.up f2)
  have ry := R2.vw r2
  simp only at h
  generalize vw S2 d1 = w1 at h rx
  generalize vw S2 d2 = w2 at h ry
  split at h
  · split at h
    · rename_i cc
      cases h
      obtain ⟨l, vs, rfl, h1, h2⟩ := rx
      obtain ⟨m, zs, rfl, h3, h4⟩ := ry
      refine ⟨l, m, vs, zs, rfl, rfl, h1, h3, by rw [h2.length, h4.length]; exact Nat.le_trans cc lim_line, fun p hp => ?_⟩
      obtain ⟨R3, f3, n⟩ := R2.newLst hp (h2.append h4)
      exact k _ _ R3 ((f1.trans f2).trans f3) ((f1.trans f2).hp _ hp) n
    · cases h
  · cases h
def cCatL (i : Nat) (fb : EF) : CF := fun S => if held i S then (fb S).bind fun q => (sees i q.2).bind fun d => match d, vw q.2 q.1 with
  | .lst xs, .lst ys => if xs.length + ys.length ≤ LIM then some (.lst (xs ++ ys), q.2) else none
  | _, _ => none
  else none
theorem mf_catL {X : Cx} {b : Expr} {fb : EF} {pos xp : Pos} {x : Str} (i : Nat) (hb : ME X b fb) (hN : X.N[i]? = some x := by rfl) (hv : Vis X.env.scope x := by first | exact Or.inl rfl | exact Or.inr (Or.inl rfl) | exact Or.inr (Or.inr rfl))
    (hd : (x == ("__debug__" : Str)) = false := by decide) (hcd : (x == ("__classdict__" : Str)) = false := by decide) : MF X (.BinOp (.Name x xp) .Add b pos) (cCatL i fb) := by
  obtain ⟨tb, p2, q2⟩ := hb
  refine ⟨_, pe_op op_cat (pe_var hN hv hd hcd) p2, fun S c S' h W s Q R k => ?_⟩
  unfold cCatL at h
  split at h
  · rename_i hh
    obtain ⟨⟨d2, S2⟩, e2, h⟩ := bind_some h
    obtain ⟨d1, e1, h⟩ := bind_some h
    obtain ⟨x0, ex⟩ := R.held hh
    refine ⟨x0, ex, ?_⟩
    refine q2 S _ _ e2 W s _ R fun y W2 R2 f2 r2 => ?_
    obtain ⟨x', ex', rx⟩ := R2.sees e1
    rw [ex] at ex'
    cases ex'
    have ry := R2.vw r2
    simp only at h
    generalize vw S2 d2 = w2 at h ry
    split at h
    · split at h
      · rename_i cc
        cases h
        obtain ⟨l, vs, rfl, h1, h2⟩ := rx
        obtain ⟨m, zs, rfl, h3, h4⟩ := ry
        refine ⟨l, m, vs, zs, rfl, rfl, h1, h3, by rw [h2.length, h4.length]; exact Nat.le_trans cc lim_line, fun p hp => ?_⟩
        obtain ⟨R3, f3, n⟩ := R2.newLst hp (h2.append h4)
        exact k _ _ R3 (f2.trans f3) (f2.hp _ hp) n
      · cases h
    · cases h
  · cases h
@[simp] theorem cCat_ap {fa fb : EF} {S : Ms} : cCat fa fb S = (fa S).bind fun p => (fb p.2).bind fun q => match vw q.2 p.1, vw q.2 q.1 with
  | .lst xs, .lst ys => if xs.length + ys.length ≤ LIM then some (.lst (xs ++ ys), q.2) else none
  | _, _ => none := rfl
@[simp] theorem cCatL_ap {i : Nat} {fb : EF} {S : Ms} : cCatL i fb S = if held i S then (fb S).bind fun q => (sees i q.2).bind fun d => match d, vw q.2 q.1 with
  | .lst xs, .lst ys => if xs.length + ys.length ≤ LIM then some (.lst (xs ++ ys), q.2) else none
  | _, _ => none
  else none := rfl
@[simp] theorem gMul4_int {i n : Int} : gMul4 (.int i) (.int n) = gMul (.int i) (.int n) := by
  unfold gMul4 gMulL; simp
theorem gMul4_str {z : Str} {n : Int} : gMul4 (.str z) (.int n) = gMul3 (.str z) (.int n) := by
  unfold gMul4 gMulL; simp
theorem gMul4_lst {xs : List D} {n : Int} : gMul4 (.lst xs) (.int n) = if xs.length * n.toNat ≤ LIM ∧ n ≤ 1048576 ∧ -1048576 ≤ n then some (.lst (List.replicate n.toNat xs).flatten) else none := rfl
end M

/-! M17: texts that are split; f-strings -/
namespace M
open PySem PySem.Spec L2 PyProof.Rows
theorem ms_none {X : Cx} {st : Stmt} : MS X st (fun _ => none) := ⟨fun _ _ _ => False, ⟨fun _ _ _ _ _ _ h => h.elim⟩, fun S fl S' h => by cases h⟩
/-! == and != of texts, whatever their signs -/
def gNeS : D → D → Option D
  | .str a, .str b => some (.bl (!decide (a = b)))
  | _, _ => none
theorem oNeS {X : Cx} : OpM X (compareOp .NotEq) gNeS := by
  refine ⟨_, op_ne, fun x y d e z hz W S s Q R rx ry k => ?_⟩
  unfold gNeS at hz
  split at hz
  · rename_i a b
    cases hz
    cases rhS rx
    cases rhS ry
    refine ⟨rfl, ?_⟩
    have : decide (V.str a = V.str b) = decide (a = b) := by rw [Bool.eq_iff_iff]; simp
    rw [this]
    exact k _ W R .refl (.bl _)
  · cases hz
def gEq2 : D → D → Option D := orG gEqS gEq
def gNe2 : D → D → Option D := orG gNeS gNe
theorem oEq2 {X : Cx} (hu : X.A.units + 64 < cLine) : OpM X (compareOp .Eq) gEq2 := oEqS.or (oEq hu)
theorem oNe2 {X : Cx} (hu : X.A.units + 64 < cLine) : OpM X (compareOp .NotEq) gNe2 := oNeS.or (oNe hu)
/-! split -/
theorem rvs_strsD {K : PySem.W.Frag} {F : Hp} {io : List Addr} : ∀ zs : List Str, RVs K F io (zs.map V.str) (zs.map D.str)
  | [] => .nil
  | z :: zs => .cons (.str z) (rvs_strsD zs)
def cSplit (fo fe : EF) : CF := fun S => (fo S).bind fun p => match p.1 with
  | .str a => (fe p.2).bind fun q => match q.1 with
    | .str b => if (b.length == 0) = false ∧ a.length + 2 ≤ LIM then some (.lst ((Txt.split a b).map D.str), q.2) else none
    | _ => none
  | _ => none
theorem mf_split {X : Cx} {o e : Expr} {fo fe : EF} {apos pos : Pos} (ho : ME X o fo) (he : ME X e fe) (hs : starEach [e] X.env = [(false, eval e X.env)] := by rfl) (hbase : attributeBase o "split" X.env (eval o X.env) = eval o X.env := by rfl) (hline : (apos.endLine == pos.line) = true := by rfl) :
    MF X (.Call (.Attribute o "split" apos) [e] [] pos) (cSplit fo fe) := by
  obtain ⟨t, p, q⟩ := ho
  obtain ⟨t2, p2, q2⟩ := he
  refine ⟨_, pe_split p p2 hs hbase hline, fun S d S' h W s Q R k => ?_⟩
  obtain ⟨⟨d1, S1⟩, e1, h⟩ := bind_some h
  simp only at h
  split at h
  · rename_i a
    obtain ⟨⟨d2, S2⟩, e2, h⟩ := bind_some h
    simp only at h
    split at h
    · rename_i b
      split at h
      · rename_i c
        cases h
        refine q S _ _ e1 W s _ R fun v W1 R1 f1 r1 => ?_
        cases r1.str_inv
        refine ⟨⟨a, rfl⟩, ?_⟩
        refine q2 S1 _ _ e2 W1 s _ R1 fun y W2 R2 f2 r2 => ?_
        cases r2.str_inv
        refine ⟨a, b, rfl, rfl, c.1, Nat.le_trans c.2 lim_line, fun l hl => ?_⟩
        obtain ⟨R3, f3, n⟩ := R2.newLst hl (rvs_strsD (Txt.split a b))
        exact k _ _ R3 ((f1.trans f2).trans f3) ((f1.trans f2).hp _ hl) n
      · cases h
    · cases h
  · cases h
/-! f-strings -/
noncomputable def gFmt : D → Option D
  | .str z => if z.length ≤ LIM then some (.str z) else none
  | .int i => @ite (Option D) (-BDIV < i ∧ i < BDIV) (Classical.propDecidable _) (some (.str (Str.ofString (toString i)))) none
  | _ => none
noncomputable def eFmt (f : EF) : EF := fun S => (f S).bind fun p => (gFmt p.1).bind fun z => some (z, p.2)
theorem bdiv_bits {i : Int} (h : -BDIV < i ∧ i < BDIV) : i.natAbs.log2 < 1920 := by
  have h1 : i.natAbs < 2 ^ 1920 := by
    have : BDIV ≤ ((2 ^ 1920 : Nat) : Int) := by decide +kernel
    omega
  by_cases h0 : i.natAbs = 0
  · rw [h0]; decide
  · exact (Nat.log2_lt h0).mpr h1
theorem me_fmt {X : Cx} {e : Expr} {f : EF} {pos : Pos} (he : ME X e f) : ME X (.FormattedValue e (-1) none pos) (eFmt f) := by
  obtain ⟨t, p, q⟩ := he
  refine ⟨_, pe_fmt p, fun S d S' h W s Q R k => ?_⟩
  obtain ⟨⟨d1, S1⟩, e1, h⟩ := bind_some h
  obtain ⟨z, e2, h⟩ := bind_some h
  cases h
  refine q S _ _ e1 W s _ R fun v W1 R1 f1 r1 => ?_
  simp only at e2
  unfold gFmt at e2
  split at e2
  · split at e2
    · rename_i c
      cases e2
      cases r1.str_inv
      exact .inl ⟨_, rfl, Nat.le_trans c lim_line, k _ W1 R1 f1 (.str _)⟩
    · cases e2
  · split at e2
    · rename_i c
      cases e2
      cases r1.int_inv
      exact .inr ⟨_, rfl, bdiv_bits c, k _ W1 R1 f1 (.str _)⟩
    · cases e2
  · cases e2
/-- parts of an f-string: what stands ahead, and then theirs -/
abbrev JF := Str → Ms → Option (Str × Ms)
def TJok (K : PySem.W.Frag) (ts : List TE) (f : JF) : Prop := ∀ acc S y S', f acc S = some (y, S') → ∀ W s (Q : Str → Hp → Prop), Rel K W S s → (∀ W', Rel K W' S' s → Fr W S.r s W' S'.r s → Q y W'.H) → tJs ts acc s W.H Q
def MJ (X : Cx) (es : List Expr) (f : JF) : Prop := ∃ ts, PJ X es ts ∧ TJok X.K ts f
def jNil : JF := fun acc S => some (acc, S)
def jCons (f : EF) (g : JF) : JF := fun acc S => (f S).bind fun p => match p.1 with
  | .str y => if (acc ++ y).length ≤ LIM then g (acc ++ y) p.2 else none
  | _ => none
theorem mj_nil {X : Cx} : MJ X [] jNil := ⟨[], .nil, fun acc S y S' h W s Q R k => by cases h; exact k W R .refl⟩
theorem mj_cons {X : Cx} {e : Expr} {es : List Expr} {f : EF} {g : JF} (he : ME X e f) (hs : MJ X es g) : MJ X (e :: es) (jCons f g) := by
  obtain ⟨t, p, q⟩ := he
  obtain ⟨ts, p2, q2⟩ := hs
  refine ⟨t :: ts, .cons p p2, fun acc S y S' h W s Q R k => ?_⟩
  obtain ⟨⟨d1, S1⟩, e1, h⟩ := bind_some h
  simp only at h
  split at h
  · rename_i z
    split at h
    · rename_i c
      refine q S _ _ e1 W s _ R fun v W1 R1 f1 r1 => ?_
      cases r1.str_inv
      exact ⟨z, rfl, Nat.le_trans c lim_line, q2 _ _ _ _ h W1 s _ R1 fun W2 R2 f2 => k W2 R2 (f1.trans f2)⟩
    · cases h
  · cases h
def eJs (g : JF) : EF := fun S => (g Str.empty S).bind fun p => some (.str p.1, p.2)
theorem me_joined {X : Cx} {v1 v2 : Expr} {rest : List Expr} {g : JF} {pos : Pos} (h : MJ X (v1 :: v2 :: rest) g) : ME X (.JoinedStr (v1 :: v2 :: rest) pos) (eJs g) := by
  obtain ⟨ts, p, q⟩ := h
  refine ⟨_, pe_joined p, fun S d S' hz W s Q R k => ?_⟩
  obtain ⟨⟨y, S1⟩, e1, hz⟩ := bind_some hz
  cases hz
  exact q _ S _ _ e1 W s _ R fun W1 R1 f1 => k _ W1 R1 f1 (.str _)
section
variable {S : Ms} {f fo fe : EF} {g : JF} {acc z : Str} {i : Int}
@[simp] theorem cSplit_ap : cSplit fo fe S = (fo S).bind fun p => match p.1 with
  | .str a => (fe p.2).bind fun q => match q.1 with
    | .str b => if (b.length == 0) = false ∧ a.length + 2 ≤ LIM then some (.lst ((Txt.split a b).map D.str), q.2) else none
    | _ => none
  | _ => none := rfl
@[simp] theorem eFmt_ap : eFmt f S = (f S).bind fun p => (gFmt p.1).bind fun z => some (z, p.2) := rfl
@[simp] theorem jNil_ap : jNil acc S = some (acc, S) := rfl
@[simp] theorem jCons_ap : jCons f g acc S = (f S).bind fun p => match p.1 with
  | .str y => if (acc ++ y).length ≤ LIM then g (acc ++ y) p.2 else none
  | _ => none := rfl
@[simp] theorem eJs_ap : eJs g S = (g Str.empty S).bind fun p => some (.str p.1, p.2) := rfl
@[simp] theorem gEq2_str {a b : Str} : gEq2 (.str a) (.str b) = some (.bl (decide (a = b))) := rfl
@[simp] theorem gEq2_int {d : D} : gEq2 (.int i) d = gEq (.int i) d := by unfold gEq2 orG; simp [gEqS]
@[simp] theorem gEq2_tup {ds : List D} {d : D} : gEq2 (.tup ds) d = gEq (.tup ds) d := by unfold gEq2 orG; simp [gEqS]
@[simp] theorem gEq2_lst {ds : List D} {d : D} : gEq2 (.lst ds) d = gEq (.lst ds) d := by unfold gEq2 orG; simp [gEqS]
@[simp] theorem gEq2_non {d : D} : gEq2 .non d = gEq .non d := by unfold gEq2 orG; simp [gEqS]
@[simp] theorem gEq2_bl {b : Bool} {d : D} : gEq2 (.bl b) d = gEq (.bl b) d := by unfold gEq2 orG; simp [gEqS]
@[simp] theorem gNe2_str {a b : Str} : gNe2 (.str a) (.str b) = some (.bl (!decide (a = b))) := rfl
@[simp] theorem gNe2_int {d : D} : gNe2 (.int i) d = gNe (.int i) d := by unfold gNe2 orG; simp [gNeS]
@[simp] theorem gNe2_tup {ds : List D} {d : D} : gNe2 (.tup ds) d = gNe (.tup ds) d := by unfold gNe2 orG; simp [gNeS]
@[simp] theorem gNe2_lst {ds : List D} {d : D} : gNe2 (.lst ds) d = gNe (.lst ds) d := by unfold gNe2 orG; simp [gNeS]
@[simp] theorem gNe2_non {d : D} : gNe2 .non d = gNe .non d := by unfold gNe2 orG; simp [gNeS]
@[simp] theorem gNe2_bl {b : Bool} {d : D} : gNe2 (.bl b) d = gNe (.bl b) d := by unfold gNe2 orG; simp [gNeS]
theorem gFmt_str : gFmt (.str z) = if z.length ≤ LIM then some (.str z) else none := rfl
theorem gFmt_pos {i : Int} (h : -BDIV < i ∧ i < BDIV) : gFmt (.int i) = some (.str (Str.ofString (toString i))) := by
  show @ite (Option D) (-BDIV < i ∧ i < BDIV) (Classical.propDecidable _) (some (.str (Str.ofString (toString i)))) none = _
  rw [if_pos h]
end
end M

/-! M18: plain data (texts, whole numbers, None, tuples and lists of these): == is equality, in, repr -/
namespace M
open PySem PySem.Spec L2
mutual
def plD : D → Bool
  | .non | .int _ => true
  | .str s => PyData.strOk s
  | .tup ds | .lst ds => plDs ds
  | .bl _ | .sc _ | .dct _ | .ref _ => false
def plDs : List D → Bool
  | [] => true
  | d :: ds => plD d && plDs ds
end
mutual
def dpD : D → Nat
  | .tup ds | .lst ds => dpDs ds + 1
  | _ => 0
def dpDs : List D → Nat
  | [] => 0
  | d :: ds => max (dpD d) (dpDs ds)
end
/-! how long its text may be -/
mutual
def szD : D → Nat
  | .non | .bl _ => 5
  | .int i => if i.natAbs < 1000000000000000 then 16 else 1000001
  | .str s => 10 * s.length + 2
  | .tup ds | .lst ds => szDs ds + 2
  | _ => 0
def szDs : List D → Nat
  | [] => 0
  | d :: ds => szD d + 2 + szDs ds
end
mutual
theorem toPy_pl : ∀ d : D, plD d = true → ∃ p, toPy d = some p ∧ PyData.canLay0 p = true ∧ p.depth ≤ dpD d
  | .non, _ => ⟨_, rfl, rfl, by simp [PyData.depth]⟩
  | .int i, _ => ⟨_, rfl, rfl, by simp [PyData.depth]⟩
  | .str s, h => ⟨_, rfl, by simpa [PyData.canLay0, plD] using h, by simp [PyData.depth]⟩
  | .tup ds, h => by
    obtain ⟨ps, h1, h2, h3⟩ := toPys_pl ds (by simpa [plD] using h)
    exact ⟨.tuple ps, by simp [toPy, h1], by simpa [PyData.canLay0] using h2, by simp only [PyData.depth, dpD]; omega⟩
  | .lst ds, h => by
    obtain ⟨ps, h1, h2, h3⟩ := toPys_pl ds (by simpa [plD] using h)
    exact ⟨.list ps, by simp [toPy, h1], by simpa [PyData.canLay0] using h2, by simp only [PyData.depth, dpD]; omega⟩
  | .bl _, h => by simp [plD] at h
  | .sc _, h => by simp [plD] at h
  | .dct _, h => by simp [plD] at h
  | .ref _, h => by simp [plD] at h
theorem toPys_pl : ∀ ds : List D, plDs ds = true → ∃ ps, toPys ds = some ps ∧ PyData.canLayAll0 ps = true ∧ PyData.depthAll ps ≤ dpDs ds
  | [], _ => ⟨[], rfl, rfl, by simp [PyData.depthAll]⟩
  | d :: ds, h => by
    simp only [plDs, Bool.and_eq_true] at h
    obtain ⟨p, h1, h2, h3⟩ := toPy_pl d h.1
    obtain ⟨ps, k1, k2, k3⟩ := toPys_pl ds h.2
    exact ⟨p :: ps, by simp [toPys, h1, k1], by simp [PyData.canLayAll0, h2, k2], by simp only [PyData.depthAll, dpDs]; omega⟩
end
open Classical in
mutual
theorem eqv_pl : ∀ (d e : D) (p q : PyData), plD d = true → plD e = true → toPy d = some p → toPy e = some q → PyData.eqv p q = decide (d = e)
  | .non, e, p, q, _, h2, e1, e2 => by
    cases e1
    cases e <;> first
      | (simp [plD] at h2; done)
      | (cases e2; simp [PyData.eqv]; done)
      | (simp only [toPy, Option.map_eq_some_iff] at e2; obtain ⟨_, _, rfl⟩ := e2; simp [PyData.eqv])
  | .int i, e, p, q, _, h2, e1, e2 => by
    cases e1
    cases e <;> first
      | (simp [plD] at h2; done)
      | (cases e2; simp [PyData.eqv, Bool.beq_eq_decide_eq]; done)
      | (simp only [toPy, Option.map_eq_some_iff] at e2; obtain ⟨_, _, rfl⟩ := e2; simp [PyData.eqv])
  | .str s, e, p, q, _, h2, e1, e2 => by
    cases e1
    cases e <;> first
      | (simp [plD] at h2; done)
      | (cases e2; simp [PyData.eqv, Bool.beq_eq_decide_eq]; done)
      | (simp only [toPy, Option.map_eq_some_iff] at e2; obtain ⟨_, _, rfl⟩ := e2; simp [PyData.eqv])
  | .tup ds, e, p, q, h1, h2, e1, e2 => by
    simp only [toPy, Option.map_eq_some_iff] at e1
    obtain ⟨ps, e1, rfl⟩ := e1
    cases e with
    | tup es =>
      simp only [toPy, Option.map_eq_some_iff] at e2
      obtain ⟨qs, e2, rfl⟩ := e2
      simp only [PyData.eqv, D.tup.injEq]
      exact eqvs_pl ds es ps qs (by simpa [plD] using h1) (by simpa [plD] using h2) e1 e2
    | lst es =>
      simp only [toPy, Option.map_eq_some_iff] at e2
      obtain ⟨qs, e2, rfl⟩ := e2
      simp [PyData.eqv]
    | _ => first
      | (simp [plD] at h2; done)
      | (cases e2; simp [PyData.eqv]; done)
  | .lst ds, e, p, q, h1, h2, e1, e2 => by
    simp only [toPy, Option.map_eq_some_iff] at e1
    obtain ⟨ps, e1, rfl⟩ := e1
    cases e with
    | lst es =>
      simp only [toPy, Option.map_eq_some_iff] at e2
      obtain ⟨qs, e2, rfl⟩ := e2
      simp only [PyData.eqv, D.lst.injEq]
      exact eqvs_pl ds es ps qs (by simpa [plD] using h1) (by simpa [plD] using h2) e1 e2
    | tup es =>
      simp only [toPy, Option.map_eq_some_iff] at e2
      obtain ⟨qs, e2, rfl⟩ := e2
      simp [PyData.eqv]
    | _ => first
      | (simp [plD] at h2; done)
      | (cases e2; simp [PyData.eqv]; done)
  | .bl _, _, _, _, h, _, _, _ => by simp [plD] at h
  | .sc _, _, _, _, h, _, _, _ => by simp [plD] at h
  | .dct _, _, _, _, h, _, _, _ => by simp [plD] at h
  | .ref _, _, _, _, h, _, _, _ => by simp [plD] at h
theorem eqvs_pl : ∀ (ds es : List D) (ps qs : List PyData), plDs ds = true → plDs es = true → toPys ds = some ps → toPys es = some qs → PyData.eqvAll ps qs = decide (ds = es)
  | [], [], _, _, _, _, e1, e2 => by cases e1; cases e2; simp [PyData.eqvAll]
  | [], e :: es, _, _, _, _, e1, e2 => by
    cases e1
    simp only [toPys] at e2
    obtain ⟨q, _, e2⟩ := bind_some e2
    obtain ⟨qs', _, e2⟩ := bind_some e2
    cases e2
    simp [PyData.eqvAll]
  | d :: ds, [], _, _, _, _, e1, e2 => by
    cases e2
    simp only [toPys] at e1
    obtain ⟨q, _, e1⟩ := bind_some e1
    obtain ⟨qs', _, e1⟩ := bind_some e1
    cases e1
    simp [PyData.eqvAll]
  | d :: ds, e :: es, _, _, h1, h2, e1, e2 => by
    simp only [toPys] at e1 e2
    obtain ⟨p, a1, e1⟩ := bind_some e1
    obtain ⟨ps, a2, e1⟩ := bind_some e1
    obtain ⟨q, b1, e2⟩ := bind_some e2
    obtain ⟨qs, b2, e2⟩ := bind_some e2
    cases e1; cases e2
    simp only [plDs, Bool.and_eq_true] at h1 h2
    simp only [PyData.eqvAll]
    rw [eqv_pl d e p q h1.1 h2.1 a1 b1, eqvs_pl ds es ps qs h1.2 h2.2 a2 b2]
    by_cases a : d = e <;> by_cases b : ds = es <;> simp [a, b]
end
/-- plain and not deep -/
def PL (d : D) : Prop := plD d = true ∧ dpD d ≤ 60
theorem PL.shaped {d : D} (h : PL d) : ∃ p, toPy d = some p ∧ SeqAt.shaped p = true := by
  obtain ⟨p, h1, h2, h3⟩ := toPy_pl d h.1
  exact ⟨p, h1, by unfold SeqAt.shaped; rw [h2, decide_eq_true (by have := h.2; omega)]; rfl⟩
open Classical in
theorem eqD_pl {d e : D} (h1 : PL d) (h2 : PL e) : eqD d e = some (decide (d = e)) := by
  obtain ⟨p, a1, a2⟩ := h1.shaped
  obtain ⟨q, b1, b2⟩ := h2.shaped
  unfold eqD
  rw [a1, b1]
  show (if _ then _ else _) = _
  rw [if_pos ⟨a2, b2⟩, eqv_pl d e p q h1.1 h2.1 a1 b1]
open Classical in
theorem gEq_pl {d e : D} (h1 : PL d) (h2 : PL e) : gEq d e = some (.bl (decide (d = e))) := by
  rw [gEq_ap, eqD_pl h1 h2]; rfl
open Classical in
theorem gNe_pl {d e : D} (h1 : PL d) (h2 : PL e) : gNe d e = some (.bl (!decide (d = e))) := by
  rw [gNe_ap, eqD_pl h1 h2]; rfl
open Classical in
theorem gEq2_pl {d e : D} (h1 : PL d) (h2 : PL e) : gEq2 d e = some (.bl (decide (d = e))) := by
  have h := gEq_pl h1 h2
  unfold gEq2 orG
  cases d <;> first
    | (rw [h]; rfl)
    | (cases e <;> first
      | (rw [h]; rfl)
      | (simp [gEqS]))
open Classical in
theorem gNe2_pl {d e : D} (h1 : PL d) (h2 : PL e) : gNe2 d e = some (.bl (!decide (d = e))) := by
  have h := gNe_pl h1 h2
  unfold gNe2 orG
  cases d <;> first
    | (rw [h]; rfl)
    | (cases e <;> first
      | (rw [h]; rfl)
      | (simp [gNeS]))
theorem plDs_all {ds : List D} : plDs ds = true ↔ ∀ d ∈ ds, plD d = true := by
  induction ds with
  | nil => simp [plDs]
  | cons d ds ih => simp [plDs, ih]
theorem dpDs_le {ds : List D} {n : Nat} : dpDs ds ≤ n ↔ ∀ d ∈ ds, dpD d ≤ n := by
  induction ds with
  | nil => simp [dpDs]
  | cons d ds ih =>
    simp only [dpDs, List.mem_cons, forall_eq_or_imp, ← ih]
    omega
/-! plain with a bound for the depth -/
def Pl (n : Nat) (d : D) : Prop := plD d = true ∧ dpD d ≤ n
theorem Pl.pl {n : Nat} {d : D} (h : Pl n d) (hn : n ≤ 60 := by decide) : PL d := ⟨h.1, by have := h.2; omega⟩
theorem Pl.mono {n k : Nat} {d : D} (h : Pl n d) (hn : n ≤ k) : Pl k d := ⟨h.1, by have := h.2; omega⟩
theorem pl_non {n : Nat} : Pl n .non := ⟨rfl, Nat.zero_le _⟩
theorem pl_int {n : Nat} {i : Int} : Pl n (.int i) := ⟨rfl, Nat.zero_le _⟩
theorem pl_str {n : Nat} {s : Str} (h : PyData.strOk s = true) : Pl n (.str s) := ⟨by simpa [plD] using h, Nat.zero_le _⟩
theorem pl_tup {n : Nat} {ds : List D} (h : ∀ d ∈ ds, Pl n d) : Pl (n + 1) (.tup ds) := ⟨by simp only [plD]; exact plDs_all.mpr fun d hd => (h d hd).1, by simp only [dpD]; have := dpDs_le.mpr fun d hd => (h d hd).2; omega⟩
theorem pl_lst {n : Nat} {ds : List D} (h : ∀ d ∈ ds, Pl n d) : Pl (n + 1) (.lst ds) := ⟨by simp only [plD]; exact plDs_all.mpr fun d hd => (h d hd).1, by simp only [dpD]; have := dpDs_le.mpr fun d hd => (h d hd).2; omega⟩
theorem pls_nil {n : Nat} : ∀ d ∈ ([] : List D), Pl n d := by simp
theorem pls_cons {n : Nat} {d : D} {ds : List D} (h : Pl n d) (t : ∀ d ∈ ds, Pl n d) : ∀ e ∈ d :: ds, Pl n e := fun e he => by
  rcases List.mem_cons.mp he with rfl | he
  · exact h
  · exact t e he
/-! repr -/
mutual
theorem show_pl : ∀ (d : D) (p : PyData), plD d = true → szD d ≤ 1000000 → toPy d = some p → p.showable = true ∧ p.hasDict = false ∧ szP p ≤ szD d
  | .non, p, _, _, e => by cases e; simp [PyData.showable, PyData.hasDict, szP, szD]
  | .int i, p, _, h, e => by
    cases e
    simp only [szD] at h
    split at h
    · rename_i c
      simp only [PyData.showable, PyData.hasDict, szP, szD, if_pos c, decide_eq_true_eq, true_and, Nat.le_refl, and_true]
      by_cases z : i.natAbs = 0
      · rw [z]; decide
      · have : i.natAbs.log2 < 50 := (Nat.log2_lt z).mpr (Nat.lt_of_lt_of_le c (by decide))
        omega
    · omega
  | .str s, p, h, _, e => by
    cases e
    simp only [PyData.showable, PyData.hasDict, szP, szD, true_and]
    refine StrLaws.reprText_len s fun c hc => ?_
    simp only [plD, PyData.strOk] at h
    rw [Array.all_eq_true_iff_forall_mem] at h
    have := h c (by simpa using hc)
    simp at this
    omega
  | .tup ds, p, h, hs, e => by
    simp only [toPy, Option.map_eq_some_iff] at e
    obtain ⟨ps, e, rfl⟩ := e
    simp only [szD] at hs
    obtain ⟨h1, h2, h3⟩ := shows_pl ds ps (by simpa [plD] using h) (by omega) e
    simp only [PyData.showable, PyData.hasDict, szP, szD]
    exact ⟨h1, h2, by omega⟩
  | .lst ds, p, h, hs, e => by
    simp only [toPy, Option.map_eq_some_iff] at e
    obtain ⟨ps, e, rfl⟩ := e
    simp only [szD] at hs
    obtain ⟨h1, h2, h3⟩ := shows_pl ds ps (by simpa [plD] using h) (by omega) e
    simp only [PyData.showable, PyData.hasDict, szP, szD]
    exact ⟨h1, h2, by omega⟩
  | .bl _, _, h, _, _ => by simp [plD] at h
  | .sc _, _, h, _, _ => by simp [plD] at h
  | .dct _, _, h, _, _ => by simp [plD] at h
  | .ref _, _, h, _, _ => by simp [plD] at h
theorem shows_pl : ∀ (ds : List D) (ps : List PyData), plDs ds = true → szDs ds ≤ 1000000 → toPys ds = some ps → PyData.showableAll ps = true ∧ PyData.hasDictAll ps = false ∧ szPs ps ≤ szDs ds
  | [], ps, _, _, e => by cases e; simp [PyData.showableAll, PyData.hasDictAll, szPs, szDs]
  | d :: ds, ps, h, hs, e => by
    simp only [toPys] at e
    obtain ⟨p, a1, e⟩ := bind_some e
    obtain ⟨qs, a2, e⟩ := bind_some e
    cases e
    simp only [plDs, Bool.and_eq_true] at h
    simp only [szDs] at hs
    obtain ⟨h1, h2, h3⟩ := show_pl d p h.1 (by omega) a1
    obtain ⟨k1, k2, k3⟩ := shows_pl ds qs h.2 (by omega) a2
    simp only [PyData.showableAll, PyData.hasDictAll, szPs, szDs, h1, h2, k1, k2, Bool.and_self, Bool.or_self, true_and]
    omega
end
theorem repr_lst {ds : List D} (h : PL (.lst ds)) (hs : szD (.lst ds) ≤ 1000000) : ∃ z, gRepr (.lst ds) = some (.str z) := by
  obtain ⟨p, h1, h2, h3⟩ := toPy_pl _ h.1
  obtain ⟨k1, k2, k3⟩ := show_pl _ p h.1 hs h1
  have k4 : isSeqP p = true := by
    simp only [toPy, Option.map_eq_some_iff] at h1
    obtain ⟨_, _, rfl⟩ := h1; rfl
  refine ⟨p.shown, ?_⟩
  unfold gRepr
  rw [h1]
  show (if _ then _ else _) = _
  have h60 := h.2
  rw [if_pos ⟨k1, k2, by omega, by unfold LIM; omega, k4⟩]
theorem szDs_le {ds : List D} {n : Nat} (h : ∀ d ∈ ds, szD d ≤ n) : szDs ds ≤ ds.length * (n + 2) := by
  induction ds with
  | nil => simp [szDs]
  | cons d ds ih =>
    have h1 := h d (by simp)
    have h2 := ih fun e he => h e (List.mem_cons_of_mem _ he)
    simp only [szDs, List.length_cons, Nat.succ_mul]
    omega
/-! in -/
open Classical in
theorem any_pl {d : D} {p : PyData} (hd : plD d = true) (ep : toPy d = some p) : ∀ (ds : List D) (ps : List PyData), plDs ds = true → toPys ds = some ps → (ps.any fun z => PyData.eqv z p) = decide (d ∈ ds)
  | [], ps, _, e => by cases e; simp
  | x :: ds, ps, h, e => by
    simp only [toPys] at e
    obtain ⟨q, a1, e⟩ := bind_some e
    obtain ⟨qs, a2, e⟩ := bind_some e
    cases e
    simp only [plDs, Bool.and_eq_true] at h
    rw [List.any_cons, any_pl hd ep ds qs h.2 a2, eqv_pl x d q p h.1 hd a1 ep]
    by_cases a : d = x
    · subst a; simp
    · have : ¬ x = d := fun z => a z.symm
      simp [a, this]
open Classical in
theorem gIn3_plL {neg : Bool} {d : D} {ds : List D} (h1 : PL d) (h2 : PL (.lst ds)) : gIn3 neg d (.lst ds) = some (.bl (xor neg (decide (d ∈ ds)))) := by
  obtain ⟨p, a1, a2⟩ := h1.shaped
  obtain ⟨q, b1, b2⟩ := h2.shaped
  simp only [toPy, Option.map_eq_some_iff] at b1
  obtain ⟨ps, b1, rfl⟩ := b1
  have hd : plDs ds = true := by have := h2.1; simpa [plD] using this
  unfold gIn3 gIn gInL
  simp only [a1, b1, Option.bind_some]
  rw [if_pos ⟨a2, b2⟩, any_pl h1.1 a1 ds ps hd b1]
  cases neg <;> simp
open Classical in
theorem gIn3_plT {neg : Bool} {d : D} {ds : List D} (h1 : PL d) (hf : flatD d = true) (h2 : plDs ds = true) (h3 : ds.all flatD = true) : gIn3 neg d (.tup ds) = some (.bl (xor neg (decide (d ∈ ds)))) := by
  have key : (ds.any fun y => eqF y d) = decide (d ∈ ds) := by
    induction ds with
    | nil => simp
    | cons x ds ih =>
      simp only [plDs, Bool.and_eq_true] at h2
      simp only [List.all_cons, Bool.and_eq_true] at h3
      obtain ⟨p, a1, _⟩ := toPy_pl x h2.1
      obtain ⟨q, b1, _⟩ := toPy_pl d h1.1
      rw [List.any_cons, ih h2.2 h3.2]
      have : eqF x d = decide (x = d) := by unfold eqF; rw [a1, b1]; exact eqv_pl x d p q h2.1 h1.1 a1 b1
      rw [this]
      by_cases a : d = x
      · subst a; simp
      · have : ¬ x = d := fun z => a z.symm
        simp [a, this]
  unfold gIn3 gIn gInL gInT
  simp only [Option.none_or]
  rw [if_pos ⟨hf, h3⟩, key]
  cases neg <;> simp
theorem gIn3_memL {neg : Bool} {d : D} {ds : List D} (h1 : PL d) (h2 : PL (.lst ds)) (h : d ∈ ds) : gIn3 neg d (.lst ds) = some (.bl (!neg)) := by
  rw [gIn3_plL h1 h2]; simp [h]
theorem gIn3_notL {neg : Bool} {d : D} {ds : List D} (h1 : PL d) (h2 : PL (.lst ds)) (h : ¬ d ∈ ds) : gIn3 neg d (.lst ds) = some (.bl neg) := by
  rw [gIn3_plL h1 h2]; simp [h]
/-! rows -/
@[simp] theorem eExt_ap {i : Nat} {f : EF} {S : Ms} : eExt i f S = if isL i S then (f S).bind fun p => match p.1 with
  | .lst es => (modL i (fun ds => if ds.length + es.length < LIM then some (ds ++ es) else none) p.2).bind fun S' => some (.non, S')
  | _ => none else none := rfl
@[simp] theorem strsD_nil : strsD [] = some [] := rfl
@[simp] theorem strsD_cons {z : Str} {ds : List D} : strsD (.str z :: ds) = (strsD ds).map (z :: ·) := rfl
end M

/-! M19: exceptions: what may leave a statement or a call, raise, try -/
namespace M
open PySem PySem.Spec L2 PyProof.Rows
/-- an exception: its class by number, what its row is -/
structure Ex where
  i : Nat
  r : Option D
inductive Fx where
  | fl (f : Fl) | ex (e : Ex)
abbrev XF := Ms → Option (Fx × Ms)
abbrev XEF := Ms → Option ((D ⊕ Ex) × Ms)
abbrev FX := List D → List Cell → Option ((D ⊕ Ex) × List Cell)
def exR (K : PySem.W.Frag) (ca : Nat → Addr) (W : Wd) (e : Ex) (cls : Value) (d : Option Addr) : Prop := cls = .ref (ca e.i) ∧ match e.r with
  | none => d = none
  | some x => ∃ (dd : Addr) (v : V), d = some dd ∧ W.H dd = some (.xd [("row", v)]) ∧ RV K W.F W.io v x
def flQx (K : PySem.W.Frag) (ca : Nat → Addr) (D : Ends) (W : WX) (s : L2.St) (V : Wd) : Fx → Prop
  | .fl f => flQ K D s V f
  | .ex e => ∀ cls d, exR K ca V e cls d → W cls d s V.H
def tX (K : PySem.W.Frag) (ca : Nat → Addr) (W : WX) (f : XF) : TS := fun D s H => ∃ S fl S' V, V.H = H ∧ Rel K V S s ∧ f S = some (fl, S') ∧ ∀ V' s', Rel K V' S' s' → Fr V S.r s V' S'.r s' → flQx K ca D W s' V' fl
def teX (K : PySem.W.Frag) (ca : Nat → Addr) (W : WX) (f : XEF) : TE := fun s H Q => ∃ S r S' V, V.H = H ∧ Rel K V S s ∧ f S = some (r, S') ∧ ∀ V', Rel K V' S' s → Fr V S.r s V' S'.r s → match r with
  | .inl d => ∀ v, RV K V'.F V'.io v d → Q v V'.H
  | .inr e => ∀ cls d, exR K ca V' e cls d → W cls d s V'.H
def MSx (X : Cx) (ca : Nat → Addr) (st : Stmt) (f : XF) : Prop := ∀ W, Takes X W → PassesOwn (model X.prog X.w) X.A X.env X.xe → PS X st (tX X.K ca W f)
def MSsx (X : Cx) (ca : Nat → Addr) (st : List Stmt) (f : XF) : Prop := ∀ W, Takes X W → PassesOwn (model X.prog X.w) X.A X.env X.xe → PSs X st (tX X.K ca W f)
def MEx (X : Cx) (ca : Nat → Addr) (e : Expr) (f : XEF) : Prop := ∀ W, Takes X W → PE X e (teX X.K ca W f)
theorem pImp {X : Cx} {st : Stmt} {t t' : TS} (h : PS X st t) (i : ∀ D σ H, t' D σ H → t D σ H) : PS X st t' := ⟨fun pins s σ H D I q => h.run pins s σ H D I (i D σ H q)⟩
theorem psImp {X : Cx} {st : List Stmt} {t t' : TS} (h : PSs X st t) (i : ∀ D σ H, t' D σ H → t D σ H) : PSs X st t' := ⟨fun pins s σ H D I q => h.run pins s σ H D I (i D σ H q)⟩
theorem peImp {X : Cx} {e : Expr} {t t' : TE} (h : PE X e t) (i : ∀ σ H Q, t' σ H Q → t σ H Q) : PE X e t' := ⟨fun pins s σ H Q I q => h.run pins s σ H Q I (i σ H Q q)⟩
def xL (f : SF) : XF := fun S => (f S).bind fun p => some (.fl p.1, p.2)
def xNil : XF := fun S => some (.fl .nx, S)
def xSeq (f g : XF) : XF := fun S => (f S).bind fun p => match p.1 with
  | .fl .nx => g p.2
  | x => some (x, p.2)
def xIf (c : BF) (f g : XF) : XF := fun S => (c S).bind fun p => if p.1 then f p.2 else g p.2
def xForM (g : GF) (b : XF) : List D → Ms → Option (Fx × Ms)
  | [], S => some (.fl .nx, S)
  | d :: ds, S => (g d S).bind fun S1 => (b S1).bind fun p => match p.1 with
    | .fl .nx => xForM g b ds p.2
    | .fl .ct => xForM g b ds p.2
    | .fl .bk => some (.fl .nx, p.2)
    | x => some (x, p.2)
def xFor (f : AF) (g : GF) (b : XF) : XF := fun S => (f S).bind fun p => xForM g b p.1 p.2
def xWhileM (c : BF) (b : XF) : Nat → Ms → Option (Fx × Ms)
  | 0, _ => none
  | n + 1, S => (c S).bind fun p => if p.1 then (b p.2).bind fun q => match q.1 with
      | .fl .nx => xWhileM c b n q.2
      | .fl .ct => xWhileM c b n q.2
      | .fl .bk => some (.fl .nx, q.2)
      | x => some (x, q.2)
    else some (.fl .nx, p.2)
def xWhile (c : BF) (b : XF) : XF := xWhileM c b WMAX
def xAsg (f : XEF) (g : GF) : XF := fun S => (f S).bind fun p => match p.1 with
  | .inl d => (g d p.2).bind fun S' => some (.fl .nx, S')
  | .inr e => some (.ex e, p.2)
def xExpr (f : XEF) : XF := fun S => (f S).bind fun p => match p.1 with
  | .inl _ => some (.fl .nx, p.2)
  | .inr e => some (.ex e, p.2)
def xRet (f : XEF) : XF := fun S => (f S).bind fun p => match p.1 with
  | .inl d => some (.fl (.rt d), p.2)
  | .inr e => some (.ex e, p.2)
def xeL (f : EF) : XEF := fun S => (f S).bind fun p => some (.inl p.1, p.2)
section
variable {X : Cx} {ca : Nat → Addr} {st : Stmt} {rest a b : List Stmt} {f g : XF} {fs : SF} {e c tg it : Expr} {fe : XEF} {fc : BF} {fi : AF} {gf : GF} {pos : Pos}
theorem msx_lift (h : MS X st fs) : MSx X ca st (xL fs) := fun W _ _ => by
  obtain ⟨t, p, q⟩ := h
  refine pImp p fun D σ H ⟨S, fl, S', V, eV, R, ef, k⟩ => ?_
  subst eV
  obtain ⟨⟨fl1, S1⟩, e1, ef⟩ := bind_some ef
  cases ef
  exact q S fl1 S1 e1 V σ D R fun V' s' R' f' => k V' s' R' f'
theorem mssx_nil : MSsx X ca [] xNil := fun W _ _ => psImp pss_nil fun D σ H ⟨S, fl, S', V, eV, R, ef, k⟩ => by
  subst eV
  cases ef
  exact k V σ R .refl
theorem mssx_one (h : MSx X ca st f) : MSsx X ca [st] f := fun W tk hp => pss_one (h W tk hp)
theorem mssx_cons (h1 : MSx X ca st f) (h2 : MSsx X ca rest g) : MSsx X ca (st :: rest) (xSeq f g) := fun W tk hp => psImp (pss_cons (h1 W tk hp) (h2 W tk hp)) fun D σ H ⟨S, fl, S', V, eV, R, ef, k⟩ => by
  subst eV
  obtain ⟨⟨fl1, S1⟩, e1, ef⟩ := bind_some ef
  refine ⟨S, fl1, S1, V, rfl, R, e1, fun V1 s1 R1 f1 => ?_⟩
  cases fl1 with
  | fl x =>
    cases x with
    | nx => exact ⟨S1, fl, S', V1, rfl, R1, ef, fun V2 s2 R2 f2 => k V2 s2 R2 (f1.trans f2)⟩
    | bk => cases ef; exact k V1 s1 R1 f1
    | ct => cases ef; exact k V1 s1 R1 f1
    | rt d => cases ef; exact k V1 s1 R1 f1
  | ex e => cases ef; exact k V1 s1 R1 f1
theorem msx_if (hc : MT X c fc) (ha : MSsx X ca a f) (hb : MSsx X ca b g) : MSx X ca (.If c a b pos) (xIf fc f g) := fun W tk hp => by
  obtain ⟨t, p, q⟩ := hc
  refine pImp (ps_if p (ha W tk hp) (hb W tk hp)) fun D σ H ⟨S, fl, S', V, eV, R, ef, k⟩ => ?_
  subst eV
  obtain ⟨⟨c, S1⟩, e1, ef⟩ := bind_some ef
  refine q S _ _ e1 V σ _ R fun V1 R1 f1 => ?_
  cases c with
  | true => exact ⟨S1, fl, S', V1, rfl, R1, ef, fun V2 s2 R2 f2 => k V2 s2 R2 (f1.trans f2)⟩
  | false => exact ⟨S1, fl, S', V1, rfl, R1, ef, fun V2 s2 R2 f2 => k V2 s2 R2 (f1.trans f2)⟩
theorem msx_for (hc : X.calm = true) (hi : MI X tg it fi) (hg : MG X tg gf) (hb : MSsx X ca a f) (hs : ∀ x, foldedSetIterable it X.env x = pure x := by intro _; rfl) : MSx X ca (.For tg it a [] pos) (xFor fi gf f) := fun W tk hp => by
  obtain ⟨wi, pi, qi⟩ := hi
  obtain ⟨tgt, pg, qg⟩ := hg
  refine pImp (ps_for hp hc pi pg (hb W tk hp) hs) fun D σ H ⟨S, fl, S', V, eV, R, ef, k⟩ => ?_
  subst eV
  obtain ⟨⟨ds, S1⟩, e1, h⟩ := bind_some ef
  refine qi S ds S1 e1 V σ _ R fun J W1 R1 f1 Y => ?_
  refine ⟨fun i m s2 H2 => m = ds.length - i ∧ i ≤ ds.length ∧ ∃ W2 S2, W2.H = H2 ∧ Rel X.K W2 S2 s2 ∧ Fr W1 S1.r σ W2 S2.r s2 ∧ xForM gf f (ds.drop i) S2 = some (fl, S'), ⟨ds.length, rfl, Nat.zero_le _, W1, S1, rfl, R1, .refl, h⟩, ?_⟩
  rintro i m s2 H2 ⟨rfl, hi, W2, S2, rfl, R2, f2, e2⟩
  by_cases hlt : i < ds.length
  · have ed : ds[i]? = some ds[i] := List.getElem?_eq_getElem hlt
    obtain ⟨go, yl⟩ := Y.go W2 S2 s2 R2 f2.fx f2.ix i _ ed
    rw [List.drop_eq_getElem_cons hlt] at e2
    obtain ⟨S3, e3, e2⟩ := bind_some e2
    obtain ⟨⟨fl1, S4⟩, e4, e2⟩ := bind_some e2
    refine .inr ⟨go, fun s3 H3 => i + 1 ≤ ds.length ∧ ∃ W3 S3, W3.H = H3 ∧ Rel X.K W3 S3 s3 ∧ Fr W1 S1.r σ W3 S3.r s3 ∧ xForM gf f (ds.drop (i + 1)) S3 = some (fl, S'), ?_, fun x H' y => ?_⟩
    · rintro s3 H3 ⟨hl, W3, S3, rfl, R3, f3, e5⟩
      exact ⟨_, by omega, rfl, hl, W3, S3, rfl, R3, f3, e5⟩
    · obtain ⟨W3, rfl, R3, f3, r3⟩ := yl x H' y
      refine qg _ S2 S3 e3 W3 s2 x _ R3 r3 fun W4 s4 R4 f4 => ?_
      refine ⟨S3, fl1, S4, W4, rfl, R4, e4, fun W5 s5 R5 f5 => ?_⟩
      have ff := ((f2.trans f3).trans f4).trans f5
      cases fl1 with
      | fl x =>
        cases x with
        | nx => exact ⟨hlt, W5, S4, rfl, R5, ff, e2⟩
        | ct => exact ⟨hlt, W5, S4, rfl, R5, ff, e2⟩
        | bk => cases e2; exact k W5 s5 R5 (f1.trans ff)
        | rt d => cases e2; exact k W5 s5 R5 (f1.trans ff)
      | ex e => cases e2; exact k W5 s5 R5 (f1.trans ff)
  · have ei : i = ds.length := by omega
    subst ei
    rw [List.drop_length] at e2
    cases e2
    exact .inl ⟨Y.stop W2 _ s2 R2 f2.fx f2.ix, k W2 s2 R2 (f1.trans f2)⟩
theorem msx_while (hc : MT X c fc) (hb : MSsx X ca a f) : MSx X ca (.While c a [] pos) (xWhile fc f) := fun W tk hp => by
  obtain ⟨tc, pc, qc⟩ := hc
  refine pImp (ps_while hp pc (hb W tk hp)) fun D σ H ⟨S, fl, S', V, eV, R, ef, k⟩ => ?_
  subst eV
  refine ⟨fun m s2 H2 => ∃ W2 S2, W2.H = H2 ∧ Rel X.K W2 S2 s2 ∧ Fr V S.r σ W2 S2.r s2 ∧ xWhileM fc f m S2 = some (fl, S'), ⟨WMAX, V, S, rfl, R, .refl, ef⟩, ?_⟩
  rintro m s2 H2 ⟨W2, S2, rfl, R2, f2, e2⟩
  cases m with
  | zero => cases e2
  | succ n =>
    obtain ⟨⟨b, S3⟩, e3, e2⟩ := bind_some e2
    refine qc S2 _ _ e3 W2 s2 _ R2 fun W3 R3 f3 => ?_
    cases b with
    | true =>
      obtain ⟨⟨fl1, S4⟩, e4, e2⟩ := bind_some e2
      refine ⟨fun s4 H4 => ∃ W2 S2, W2.H = H4 ∧ Rel X.K W2 S2 s4 ∧ Fr V S.r σ W2 S2.r s4 ∧ xWhileM fc f n S2 = some (fl, S'), fun s4 H4 z => ⟨n, Nat.lt_succ_self n, z⟩, ?_⟩
      refine ⟨S3, fl1, S4, W3, rfl, R3, e4, fun W5 s5 R5 f5 => ?_⟩
      have ff := (f2.trans f3).trans f5
      cases fl1 with
      | fl x =>
        cases x with
        | nx => exact ⟨W5, S4, rfl, R5, ff, e2⟩
        | ct => exact ⟨W5, S4, rfl, R5, ff, e2⟩
        | bk => cases e2; exact k W5 s5 R5 ff
        | rt d => cases e2; exact k W5 s5 R5 ff
      | ex e => cases e2; exact k W5 s5 R5 ff
    | false => cases e2; exact k W3 s2 R3 (f2.trans f3)
theorem mex_lift {fe : EF} (h : ME X e fe) : MEx X ca e (xeL fe) := fun W _ => by
  obtain ⟨t, p, q⟩ := h
  refine peImp p fun σ H Q ⟨S, r, S', V, eV, R, ef, k⟩ => ?_
  subst eV
  obtain ⟨⟨d1, S1⟩, e1, ef⟩ := bind_some ef
  cases ef
  exact q S d1 S1 e1 V σ Q R fun v V' R' f' rv => k V' R' f' v rv
theorem msx_expr (he : MEx X ca e fe) (hs : swapsWith e none pos.line X.env = pure false := by rfl) : MSx X ca (.Expr e pos) (xExpr fe) := fun W tk hp => pImp (ps_expr (he W tk) hs) fun D σ H ⟨S, fl, S', V, eV, R, ef, k⟩ => by
  subst eV
  obtain ⟨⟨r, S1⟩, e1, ef⟩ := bind_some ef
  refine ⟨S, r, S1, V, rfl, R, e1, fun V1 R1 f1 => ?_⟩
  cases r with
  | inl d => cases ef; exact fun v _ => k V1 σ R1 f1
  | inr e => cases ef; exact k V1 σ R1 f1
theorem msx_ret (he : MEx X ca e fe) : MSx X ca (.Return (some e) pos) (xRet fe) := fun W tk hp => pImp (ps_ret (he W tk)) fun D σ H ⟨S, fl, S', V, eV, R, ef, k⟩ => by
  subst eV
  obtain ⟨⟨r, S1⟩, e1, ef⟩ := bind_some ef
  refine ⟨S, r, S1, V, rfl, R, e1, fun V1 R1 f1 => ?_⟩
  cases r with
  | inl d => cases ef; exact fun v rv => k V1 σ R1 f1 v rv
  | inr e => cases ef; exact k V1 σ R1 f1
theorem msx_asg (he : MEx X ca e fe) (hg : MG X tg gf) (hs : swapsWithSole [tg] e pos.line X.env = pure false := by rfl) (hw : swappedStores [tg] e X.env = pure none := by rfl)
    (h1 : (assignEach [tg] X.env).map (·.2) = [assign tg X.env] := by rfl) : MSx X ca (.Assign [tg] e pos) (xAsg fe gf) := fun W tk hp => by
  obtain ⟨tgt, pg, qg⟩ := hg
  refine pImp (ps_asg (he W tk) pg hs hw h1) fun D σ H ⟨S, fl, S', V, eV, R, ef, k⟩ => ?_
  subst eV
  obtain ⟨⟨r, S1⟩, e1, ef⟩ := bind_some ef
  refine ⟨S, r, S1, V, rfl, R, e1, fun V1 R1 f1 => ?_⟩
  cases r with
  | inl d =>
    obtain ⟨S2, e2, ef⟩ := bind_some ef
    cases ef
    exact fun v rv => qg d S1 _ e2 V1 σ v _ R1 rv fun V2 s2 R2 f2 => k V2 s2 R2 (f1.trans f2)
  | inr e => cases ef; exact k V1 σ R1 f1
theorem msx_set {x : Str} {xp : Pos} (i : Nat) (hN : X.N.Nodup) (he : MEx X ca e fe) (hi : X.N[i]? = some x := by rfl) (hx : Loc X.env.scope x := by first | exact Or.inl rfl | exact Or.inr rfl) (hs : swapsWith e (some (.Name x xp)) pos.line X.env = pure false := by rfl)
    (hf : X.fn x = true ∨ X.env.scope.names.lookup x = some .local := by first | exact .inl rfl | exact .inr rfl | assumption) : MSx X ca (.Assign [.Name x xp] e pos) (xAsg fe (gNm i)) := fun W tk hp => by
  refine pImp (ps_set hN hi hx (he W tk) hs hf) fun D σ H ⟨S, fl, S', V, eV, R, ef, k⟩ => ?_
  subst eV
  obtain ⟨⟨r, S1⟩, e1, ef⟩ := bind_some ef
  refine ⟨S, r, S1, V, rfl, R, e1, fun V1 R1 f1 => ?_⟩
  cases r with
  | inl d =>
    cases ef
    exact fun v rv => let ⟨R2, f2⟩ := R1.setVal (i := i) rv; k V1 _ R2 (f1.trans f2)
  | inr e => cases ef; exact k V1 σ R1 f1
end
/-! ### defs that may raise -/
def spX (K : PySem.W.Frag) (ca : Nat → Addr) (n : Nat) (ff : FX) : Sp := fun vs H Q E => vs.length = n ∧ ∃ V ds m r m', V.H = H ∧ Rel K V ⟨[], m⟩ [] ∧ RVs K V.F V.io vs ds ∧ ff ds m = some (r, m') ∧ match r with
  | .inl d => ∀ v V', Rel K V' ⟨[], m'⟩ [] → Fr V [] [] V' [] [] → RV K V'.F V'.io v d → Q v V'.H
  | .inr e => ∀ V' cls d, Rel K V' ⟨[], m'⟩ [] → Fr V [] [] V' [] [] → exR K ca V' e cls d → E cls d V'.H
def fnX (N : Nat) (b : XF) : FX := fun ds m => (b ⟨ds.map Slot.val ++ List.replicate (N - ds.length) .emp, m⟩).bind fun p => match p.1 with
  | .fl (.rt d) => some (.inl d, p.2.m)
  | .fl .nx => some (.inl .non, p.2.m)
  | .ex e => some (.inr e, p.2.m)
  | _ => none
def xFn (n : Nat) (ff : FX) (fa : AF) : XEF := fun S => (fa S).bind fun p => if p.1.length = n then (ff p.1 p.2.m).bind fun q => some (q.1, { p.2 with m := q.2 }) else none
section
variable {P : Program} {w : World} {K : PySem.W.Frag} {mg : Str → Option Value} {base : Heap} {ca : Nat → Addr}
theorem fnx_ok {x qual : Str} {st : Stmt} {f : Addr} {fd : FuncData} {N ps : List Str} {k : Nat} {b : XF} (F : Fun K x qual st f fd) (S : FnScope N ps (defScope st))
    (hb : ∀ (cdv : Value) (A : Around) (outer : List Env) (s : Shared) (H : Hp) (E : XK), Room k (A.deeper (PyProof.Rows.envOfC qual (defScope st) s.heap.objs.size f cdv)) →
      MSsx (cxOf (L2.CX P w) P w K mg base N qual (defScope st) f cdv A outer s H E) ca (defBody st) b) : FnOk P w K mg base (L2.CX P w) (k + 1) f fd ps (spX K ca ps.length (fnX N.length b)) := by
  refine F.okX S (fun vs H Q E h => h.1) (fun cdv A outer s H vs Q E hr h => ?_)
  obtain ⟨hl, V, ds, m, r, m', rfl, R, rr, e, kk⟩ := h
  refine ⟨_, hb cdv A outer s V.H E hr (fun cls d _ H => E cls d H) (takes_of rfl rfl rfl rfl) (passes_of rfl), ?_⟩
  unfold fnX at e
  obtain ⟨⟨fl, S'⟩, e1, e⟩ := bind_some e
  have own : ∀ b, ¬ Own (ds.map Slot.val ++ List.replicate (N.length - ds.length) Slot.emp) (L2.start N vs) b := fun b ⟨i, c, h, _⟩ => by
    have := List.mem_of_getElem? h
    simp at this
  refine ⟨_, fl, S', V, rfl, start_rel (n := 0) R rr, e1, fun V' s' R' f' => ?_⟩
  have f0 := end_fr (S0 := ⟨ds.map Slot.val ++ List.replicate (N.length - ds.length) Slot.emp, m⟩) own f'
  cases fl with
  | fl x =>
    cases x with
    | nx => cases e; exact kk .non V' R'.bare f0 .non
    | rt d => cases e; exact fun v rv => kk v V' R'.bare f0 rv
    | bk => cases e
    | ct => cases e
  | ex e0 => cases e; exact fun cls d hx => kk V' cls d R'.bare f0 hx
end
section
variable {X : Cx} {ca : Nat → Addr} {k n : Nat} {f : Addr} {fd : FuncData} {ps : List Str} {ff : FX} {x : Str} {p pos : Pos} {e : Expr} {es : List Expr} {fa : AF}
theorem mex_fn (G : FnOk X.prog X.w X.K X.mg X.base (L2.CX X.prog X.w) k f fd ps (spX X.K ca n ff)) (hr : Room k X.A) (hm : X.mg x = some (.ref f)) (hk : PySem.W.keepIn X.K (.ref f) = true) (hb : Binds X.K fd ps []) (ha : MA X (e :: es) fa)
    (hg : Gl X x := by rfl) (hdb : (x == ("__debug__" : Str)) = false := by decide) (he : starEach (e :: es) X.env = (false, eval e X.env) :: starEach es X.env := by rfl) (hpl : (backTo pos (starEach es X.env)).any (·.1) = false := by rfl) :
    MEx X ca (.Call (.Name x p) (e :: es) [] pos) (xFn n ff fa) := fun W tk => by
  obtain ⟨t, pt, q⟩ := ha
  refine peImp (pe_callS G hr hg hm hk hb (fun σ => passAt tk σ) pt hdb he hpl) fun σ H Q ⟨S, r, S', V, eV, R, ef, kk⟩ => ?_
  subst eV
  obtain ⟨⟨ds, S1⟩, e1, ef⟩ := bind_some ef
  simp only at ef
  split at ef
  · rename_i hn
    obtain ⟨⟨r1, m1⟩, e2, ef⟩ := bind_some ef
    cases ef
    refine q S _ _ e1 V σ _ R fun vs V1 R1 f1 rv => ?_
    refine ⟨by rw [rv.length]; exact hn, V1, ds, S1.m, r1, m1, rfl, R1.bare, rv, e2, ?_⟩
    cases r1 with
    | inl d => exact fun v V2 R2 f2 r2 => let ⟨R3, f3⟩ := R1.back R2 f2; kk V2 R3 (f1.trans f3) v r2
    | inr e => exact fun V2 cls d R2 f2 hx => let ⟨R3, f3⟩ := R1.back R2 f2; kk V2 R3 (f1.trans f3) cls d hx
  · cases ef
end
end M

/-! M20: raise, try -/
namespace M
open PySem PySem.Spec L2 PyProof.Rows
/-! ### an exception with a row -/
def spInit (K : PySem.W.Frag) : Sp := fun vs H Q _ => ∃ (a C : Addr) (v : V), vs = [.ref a, v] ∧ OexC K C ∧ PySem.W.findIn K (.ref C) "row" = some none ∧ H a = some (exo a C none) ∧ ∀ dx, H dx = none → dx ≠ a → Q .non (upd (upd H dx (exd dx [("row", v)])) a (exo a C (some dx)))
def xRaiseRow (j : Nat) (f : AF) : XF := fun S => (f S).bind fun p => match p.1 with
  | [d] => some (.ex ⟨j, some d⟩, p.2)
  | _ => none
def xRaise (j : Nat) : XF := fun S => some (.ex ⟨j, none⟩, S)
section
variable {X : Cx} {ca : Nat → Addr} {x : Str} {e : Expr} {fa : AF} {p pos pos' : Pos} {j k : Nat} {fI : Addr} {fd : FuncData}
theorem msx_raiseRow (hc : X.calm = true) (T : OexC X.K (ca j)) (iC : PySem.W.findIn X.K (.ref (ca j)) "__init__" = some (some (.ref fI))) (tI : PySem.W.typeIn X.K (.ref fI) = some (.type "function"))
    (F1 : FnOk X.prog X.w X.K X.mg X.base CX0 k fI fd ["self", "row"] (spInit X.K)) (hr : Room (k + 1) X.A) (hb : Binds X.K fd ["self", "row"] []) (hn : PySem.W.findIn X.K (.ref (ca j)) "row" = some none) (hm : X.mg x = some (.ref (ca j)))
    (ha : MA X [e] fa) (hg : Gl X x := by rfl) (hdb : (x == ("__debug__" : Str)) = false := by decide) (he : starEach [e] X.env = (false, eval e X.env) :: starEach [] X.env := by rfl) (hpl : (backTo pos (starEach [] X.env)).any (·.1) = false := by rfl) :
    MSx X ca (.Raise (some (.Call (.Name x p) [e] [] pos)) none pos') (xRaiseRow j fa) := fun W tk hp => by
  obtain ⟨t, pt, q⟩ := ha
  refine pImp (ps_raise hc tk (pmk_oex T iC tI F1 hr hb .nil pass0 hg hm pt hdb he hpl)) fun D σ H ⟨S, fl, S', V, eV, R, ef, kk⟩ => ?_
  subst eV
  obtain ⟨⟨ds, S1⟩, e1, ef⟩ := bind_some ef
  simp only at ef
  split at ef
  · rename_i d
    cases ef
    refine q S _ _ e1 V σ _ R fun vs V1 R1 f1 rv => ?_
    cases rv with
    | @cons v _ _ _ rv rn =>
      cases rn
      refine ⟨by show 1 ≤ 1000; decide, fun a na => ⟨a, ca j, v, rfl, T, hn, upd_same, fun dx ndx hne => ?_⟩⟩
      have nd : V1.H dx = none := by rw [upd_ne hne] at ndx; exact ndx
      refine ⟨rfl, dx, [("row", v)], upd_same, by rw [upd_ne hne, upd_same], nd, ?_⟩
      obtain ⟨R2, f2⟩ := R1.wrNew (o := .xd [("row", v)]) nd
      have hh : upd (del (upd (upd (upd V1.H a (exo a (ca j) none)) dx (exd dx [("row", v)])) a (exo a (ca j) (some dx))) a) dx (HO.xd [("row", v)]) = (V1.wr dx (.xd [("row", v)])).H := by
        funext b
        show _ = upd V1.H dx (HO.xd [("row", v)]) b
        by_cases b1 : b = dx
        · subst b1; rw [upd_same, upd_same]
        · rw [upd_ne b1, upd_ne b1]
          by_cases b2 : b = a
          · subst b2; rw [del_same, na]
          · rw [del_ne b2, upd_ne b2, upd_ne b1, upd_ne b2]
      rw [hh]
      exact kk _ σ R2 (f1.trans f2) _ _ ⟨rfl, dx, v, rfl, upd_same, rv.up f2⟩
  · cases ef
theorem msx_raise {m : Str} {jj : Nat} {p2 : Pos} {bmB : List Value} {B newId initId : String} (hc : X.calm = true) (F : PySem.ExcBaseFacts B newId initId bmB) (q : PySem.W.excIn X.K (ca j) bmB newId = true) (hm : X.mg x = some (.ref (ca j))) (kC : PySem.W.keepIn X.K (.ref (ca j)) = true) (r : Raises X (.ref (ca j)))
    (hg : Gl X x := by rfl) (hdb : (x == ("__debug__" : Str)) = false := by decide) : MSx X ca (.Raise (some (.Call (.Name x p) [.Constant (.str m) jj p2] [] pos)) none pos') (xRaise j) := fun W tk hp =>
  pImp (ps_raise hc tk (pmk_own F q hm kC r hg hdb)) fun D σ H ⟨S, fl, S', V, eV, R, ef, kk⟩ => by
    subst eV
    cases ef
    exact kk V σ R .refl _ _ ⟨rfl, rfl⟩
end
/-! ### try -/
def xTry (m : Nat → Option Bool) (f : XF) (hd : Ex → SF) : XF := fun S => (f S).bind fun p => match p.1 with
  | .ex e => match m e.i with
    | some true => (hd e p.2).bind fun q => some (.fl q.1, q.2)
    | some false => some (.ex e, p.2)
    | none => none
  | x => some (x, p.2)
/-- a suite that holds an exception of the class cls, with the dict d -/
def tH (K : PySem.W.Frag) (ca : Nat → Addr) (cls : Value) (d : Option Addr) (hd : Ex → SF) : TS := fun D s H => ∃ e S fl S' V, V.H = H ∧ Rel K V S s ∧ exR K ca V e cls d ∧ hd e S = some (fl, S') ∧ ∀ V' s', Rel K V' S' s' → Fr V S.r s V' S'.r s' → flQ K D s' V' fl
def MH (X : Cx) (ca : Nat → Addr) (suite : List Stmt) (hd : Ex → SF) : Prop := ∀ (a : Addr) (oe : Obj) (cls : Value) (d : Option Addr) (pn : List (Addr × Obj)), Zc cls d oe → (∃ vs, oe.data = .fields vs) → PSs (X.suite a ((a, oe) :: pn)) suite (tH X.K ca cls d hd)
theorem mh_plain {X : Cx} {ca : Nat → Addr} {suite : List Stmt} {b : SF} (h : ∀ (a : Addr) (pn : List (Addr × Obj)), MSs (X.suite a pn) suite b) : MH X ca suite (fun _ => b) := fun a oe cls d pn hz hf => by
  obtain ⟨t, p, q⟩ := h a ((a, oe) :: pn)
  refine psImp p fun D σ H ⟨e, S, fl, S', V, eV, R, hx, ef, kk⟩ => ?_
  subst eV
  exact q S fl S' ef V σ D R kk
section
variable {X : Cx} {ca : Nat → Addr} {x n : Str} {c : Value} {body suite : List Stmt} {b0 : Stmt} {np pos pos' : Pos} {f : XF} {hd : Ex → SF} {m : Nat → Option Bool}
theorem msx_tryOnly (hs : X.stack = X.env :: X.outer) (hf : X.env.frame = some X.env.locals) (hc : Names X x c) (hm : ∀ i b, m i = some b → PySem.W.exmOne X.K (.ref (ca i)) c = some b)
    (hb : ∀ (pn : List (Addr × Obj)) (xe : Value → Shared → Prop), MSsx (X.tr pn xe) ca body f) (hh : MH X ca (b0 :: suite) hd) :
    MSx X ca (.Try body [.ExceptHandler (some (.Name x np)) none (b0 :: suite) pos'] [] [] pos) (xTry m f hd) := fun W tk hp =>
  pImp (ps_try_only hs hf hc tk (tb := fun W' => tX X.K ca W' f) (ts := fun _ cls d => tH X.K ca cls d hd) (fun W' pn xe tk' hp' => hb pn xe W' tk' hp') (fun a oe cls d pn hz hv => hh a oe cls d pn hz hv)) fun D σ H ⟨S, fl, S', V, eV, R, ef, kk⟩ => by
    subst eV
    obtain ⟨⟨fl1, S1⟩, e1, ef⟩ := bind_some ef
    refine ⟨S, fl1, S1, V, rfl, R, e1, fun V1 s1 R1 f1 => ?_⟩
    cases fl1 with
    | fl y => cases ef; exact kk V1 s1 R1 f1
    | ex e =>
      intro cls d hx
      simp only at ef
      have hcl := hx.1
      split at ef
      · rename_i hm1
        obtain ⟨⟨fl2, S2⟩, e2, ef⟩ := bind_some ef
        cases ef
        exact ⟨true, by rw [hcl]; exact hm _ _ hm1, fun _ a na => ⟨e, S1, fl2, _, V1, rfl, R1, hx, e2, fun V2 s2 R2 f2 => kk V2 s2 R2 (f1.trans f2)⟩, (fun z => by cases z)⟩
      · rename_i hm1
        cases ef
        exact ⟨false, by rw [hcl]; exact hm _ _ hm1, (fun z => by cases z), fun _ => kk V1 s1 R1 f1 cls d hx⟩
      · cases ef
end
/-! ### isinstance of an exception that is held, whatever its dict -/
section
variable {prog : Program} {w : World} {K : PySem.W.Frag} {x D : Addr} {ox : Obj}
theorem found_class {od : Option Obj} (C : ExcC K D) : PySem.W.findObj K D od "__class__" = some (.bind (.builtin "getset_descriptor.__get__") (.builtin "object.__class__")) := by
  obtain ⟨cd, hc, _⟩ := PySem.W.any_some C.hd
  unfold PySem.W.findObj
  rw [hc, Option.bind_some, C.ha, Option.bind_some]
  simp [C.hn, C.ht]
theorem asks_class {od : Option Obj} {A : Around} {E : Value → Shared → Prop} {s : Shared} {Q : Option Value → Shared → Prop} (C : ExcC K D) (X : K.In s.heap) (I : PySem.W.InstAt s.heap x ox D od) (h : Q (some (.ref D)) { s with toks := s.toks + 1 }) : wpAny (model prog w) A (getAttr? (.ref x) "__class__") Q E s := by
  obtain ⟨hp, g, d, t, os⟩ := s
  have ty := I.type (M := model prog w)
  have lg := PySem.W.looks_findIn (M := model prog w) X C.hg
  have lk := PySem.W.looks_findIn (M := model prog w) X C.hk
  have lf := PySem.W.looks_find (M := model prog w) X I (found_class C)
  have isb : PySem.W.Looks (model prog w) hp (isInstance (.ref x) (.type "BaseException")) true := ty.andThen (PySem.W.looks_subIn X C.hs)
  have ne2 : (Value.builtin "BaseException.__getattribute__" == Value.builtin "object.__getattribute__") = false := by decide +kernel
  have ne1 : (onTheHeap (Value.ref D) && Value.builtin "BaseException.__getattribute__" == Value.builtin "object.__getattribute__") = false := by rw [ne2]; rfl
  unfold getAttr? getAttrBy? getAttrBy
  refine wpAny_bind (wpAny_mkText (wpAny_bind (wpAny_attempt (wpAny_holding (wpAny_bind (ty.at (wpAny_bind (lg.at ?_))))))))
  show wpAny _ _ (if (onTheHeap (Value.ref D) && Value.builtin "BaseException.__getattribute__" == Value.builtin "object.__getattribute__") = true
    then _ else _) _ _ _
  rw [ne1, if_neg Bool.false_ne_true]
  unfold getAttrByItsOwn hookBefore
  refine wpAny_bind ?_
  have onh : onTheHeap (Value.ref D) = true := rfl
  rw [if_pos onh]
  refine lk.at (wpAny_bind (wpAny_attempt (wpAny_holding ?_)))
  unfold callGetattribute
  rw [show (false && onTheHeap (Value.builtin "BaseException.__getattribute__")) = false from rfl, if_neg Bool.false_ne_true]
  unfold boundAndCalled
  rw [PySem.F.excAttr_ValueError.ga.bind (.ref x)]
  refine wpAny_bind (wpAny_pure ?_)
  show wpAny _ _ (call (.builtin "BaseException.__getattribute__") [.ref x, .str "__class__" t])
    _ _ _
  refine wpAny_call (codeAny_call_builtin PySem.F.excAttr_ValueError.ga.plain PySem.F.entry_bexc_ga ?_)
  refine @PySem.W.check_slot (model prog w) _ _ ⟨hp, g, d, t + 1, os⟩ "BaseException.__getattribute__" "BaseException" "__getattribute__" (.ref x) [.str "__class__" t] []
    _ (by decide +kernel) (by decide +kernel) isb (PySem.F.args_bexc_ga (.ref x) (.str "__class__" t)) ?_
  unfold Builtin.«object.__getattribute__»
  refine wpAny_bind (wpAny_of_eq (a := ((Value.ref x : Value), [Value.str "__class__" t])) (by first | rfl | (simp only [slotArgs]; rfl))
    ?_)
  refine wpAny_bind (wpAny_pure (wpAny_bind (ty.at (wpAny_bind (lf.at ?_)))))
  show wpAny _ _ (holding [Value.builtin "object.__class__"] (call (.builtin "getset_descriptor.__get__") [.builtin "object.__class__", .ref x, .ref D]) >>= ret)
    _ _ _
  refine wpAny_bind (wpAny_holding (wpAny_call (PySem.W.class_get (s := ⟨hp, g, d, t + 1, os⟩) (ox := ox) (od := od) X I C.hm ?_)))
  refine wpAny_pure ?_
  show wpAny _ _ (handedOut (.ref D)) _ _ _
  rw [show handedOut (.ref D) = _ from PySem.W.handedOut_of (v := .ref D) rfl]
  first
    | exact wpAny_pure (wpAny_pure h)
    | exact wpAny_pure (wpAny_bind (wpAny_pure (wpAny_pure h)))
    | exact wpAny_pure h
theorem kitx_held (C : ExcC K D) : PySem.W.KitX K (.ref x) (.ref D) (fun h => ∃ od, PySem.W.InstAt h x ox D od) where
  ty := fun _ _ _ ⟨_, I⟩ => I.type
  it := fun _ _ X _ => by
    obtain ⟨cd, hc, _⟩ := PySem.W.any_some C.hd
    unfold PySem.W.clsIn at hc
    split at hc
    · rename_i ho
      intro A' Q' E' s' k q
      unfold isType loadHead
      exact wpAny_bind (wpAny_loadPart (k _ _ (X _ _ ho)) (wpAny_pure q))
    · cases hc
  ne := fun h tp dd its n sl X htp => by
    obtain ⟨cd, hc, _⟩ := PySem.W.any_some C.hd
    refine Bool.eq_false_iff.mpr fun q => ?_
    obtain rfl : D = tp := Value.ref.inj (beq_iff_eq.mp q)
    unfold PySem.W.clsIn at hc
    split at hc
    · rename_i ho
      cases (X _ _ ho).symm.trans htp
    · cases hc
  ca := fun X ⟨_, I⟩ k => asks_class C X I k
end
/-- the dict of a held exception -/
def DcOk (H : Hp) (d : Option Addr) : Prop := d = none ∨ ∃ (dd : Addr) (fs : List (Str × V)), d = some dd ∧ H dd = some (.xd fs)
def rIsH (K : PySem.W.Frag) (a : Addr) (cls : Value) (d : Option Addr) : List V → Hp → VK → Prop := fun xs H Q => ∃ (D : Addr) (c : V) (u : Value) (b : Bool), cls = .ref D ∧ ExcC K D ∧ DcOk H d ∧ xs = [.ref a, c] ∧ ClsV c u ∧ PySem.W.kitOne K (.ref D) u = some b ∧ Q (.bl b) H
def rIsHT (K : PySem.W.Frag) (a : Addr) (cls : Value) (d : Option Addr) : List V → Hp → VK → Prop := fun xs H Q => ∃ (D tp : Addr) (cs : List V) (us : List Value) (b : Bool), cls = .ref D ∧ ExcC K D ∧ DcOk H d ∧ xs = [.ref a, .ref tp] ∧ H tp = some (.tup cs) ∧ Paired ClsV cs us ∧ PySem.W.kitAny K (.ref D) us = some b ∧ Q (.bl b) H
section
variable {X : Cx} {a : Addr} {oe : Obj} {cls : Value} {d : Option Addr} {pn : List (Addr × Obj)}
theorem held_inst {D : Addr} {pins : List (Addr × Obj)} {σ : L2.St} {H : Hp} {s : Shared} (hz : Zc (.ref D) d oe) (hf : ∃ vs, oe.data = .fields vs) (hd : DcOk H d) (I : Inv (X.suite a ((a, oe) :: pn)) pins σ H s) : ∃ od, PySem.W.InstAt s.heap a oe D od := by
  obtain ⟨hget, _⟩ := I.pin (a, oe) (List.mem_append.mpr (.inl List.mem_cons_self))
  obtain ⟨vs, hv⟩ := hf
  have hno : PySem.W.notCls oe = true := by unfold PySem.W.notCls; rw [hv] <;> rfl
  rcases hd with rfl | ⟨dd, fs, rfl, hh⟩
  · exact ⟨none, hget, hz.1, hno, by rw [hz.2]; trivial⟩
  · have hx : ObjOk X.prog X.w H s.heap dd (.xd fs) := I.hok dd _ hh
    obtain ⟨mA, hns, _⟩ := hx
    obtain ⟨od, ho, _⟩ := lookIn_ns hns
    exact ⟨some od, hget, hz.1, hno, by rw [hz.2]; exact ho⟩
theorem call_isH (hz : Zc cls d oe) (hf : ∃ vs, oe.data = .fields vs) : CallR (X.suite a ((a, oe) :: pn)) (.builtin "isinstance") (rIsH X.K a cls d) := by
  intro pins s σ H xs us Q I r h
  obtain ⟨D, c, u, b, rfl, C, hd, rfl, k, e, q⟩ := h
  obtain ⟨u1, u2, rfl, r1, r2⟩ := vals2 r
  cases (show u1 = Value.ref a from r1)
  cases k.eq r2
  exact PySem.W.kia_one (kitx_held (ox := oe) C) I.kIn (held_inst hz hf hd I) e (fun z => nomatch z) fun tk => ⟨.bl b, H, I.tok tk, rfl, q⟩
theorem call_isHT (hz : Zc cls d oe) (hf : ∃ vs, oe.data = .fields vs) : CallR (X.suite a ((a, oe) :: pn)) (.builtin "isinstance") (rIsHT X.K a cls d) := by
  intro pins s σ H xs us Q I r h
  obtain ⟨D, tp, cs, ws, b, rfl, C, hd, rfl, hT, k, e, q⟩ := h
  obtain ⟨u1, u2, rfl, r1, r2⟩ := vals2 r
  cases (show u1 = Value.ref a from r1)
  cases (show u2 = Value.ref tp from r2)
  obtain ⟨_, its, rv, o, h1, h2, n, h3⟩ := (show ObjOk X.prog X.w H s.heap tp (.tup cs) from I.hok tp _ hT)
  cases ClsV.all k rv
  obtain ⟨oc, od, dt, sl⟩ := o
  simp only at h2 h3
  subst h2 h3
  exact PySem.W.kia_tup (kitx_held (ox := oe) C) I.kIn (held_inst hz hf hd I) h1 e (fun z => nomatch z) fun tk => ⟨.bl b, H, I.tok tk, rfl, q⟩
end
end M

/-! M21: except X as e: what a suite may do with e -/
namespace M
open PySem PySem.Spec L2 PyProof.Rows
/-- what stands in such a suite -/
structure Hl (X : Cx) (ca : Nat → Addr) (i : Nat) (a : Addr) (cls : Value) (d : Option Addr) (e : Ex) (V : Wd) (S : Ms) (s : L2.St) : Prop where
  rel : Rel X.K V S s
  hx : exR X.K ca V e cls d
  at' : s[i]? = some (some (.ref a))
theorem exR.dc {K : PySem.W.Frag} {ca : Nat → Addr} {V : Wd} {e : Ex} {cls : Value} {d : Option Addr} (h : exR K ca V e cls d) : DcOk V.H d := by
  obtain ⟨_, h⟩ := h
  cases e with
  | mk j r =>
    cases r with
    | none => exact .inl h
    | some x => obtain ⟨dd, v, e1, e2, _⟩ := h; exact .inr ⟨dd, _, e1, e2⟩
theorem exR.al {K : PySem.W.Frag} {ca : Nat → Addr} {V : Wd} {e : Ex} {cls : Value} {d : Option Addr} (h : exR K ca V e cls d) {p : Addr} {o : HO} (hp : V.H p = none) (hF : ∀ b u, V.F b = some u → (V.al p o).F b = some u) : exR K ca (V.al p o) e cls d := by
  obtain ⟨h1, h⟩ := h
  refine ⟨h1, ?_⟩
  cases e with
  | mk j r =>
    cases r with
    | none => exact h
    | some x =>
      obtain ⟨dd, v, e1, e2, rv⟩ := h
      exact ⟨dd, v, e1, by show upd V.H p o dd = _; rw [upd_ne (ne_of_none e2 hp)]; exact e2, rv.mono hF (List.prefix_refl _)⟩
def HV (X : Cx) (ca : Nat → Addr) (i : Nat) (ex : Expr) (f : Ex → Option D) : Prop := ∀ (a : Addr) (oe : Obj) (cls : Value) (d : Option Addr) (pn : List (Addr × Obj)), Zc cls d oe → (∃ vs, oe.data = .fields vs) →
  ∃ t, PE (X.suite a ((a, oe) :: pn)) ex t ∧ ∀ e v, f e = some v → ∀ V S s (Q : VK), Hl X ca i a cls d e V S s → (∀ y V', Hl X ca i a cls d e V' S s → Fr V S.r s V' S.r s → RV X.K V'.F V'.io y v → Q y V'.H) → t s V.H Q
def HT (X : Cx) (ca : Nat → Addr) (i : Nat) (ex : Expr) (f : Ex → Option Bool) : Prop := ∀ (a : Addr) (oe : Obj) (cls : Value) (d : Option Addr) (pn : List (Addr × Obj)), Zc cls d oe → (∃ vs, oe.data = .fields vs) →
  ∃ t, PT (X.suite a ((a, oe) :: pn)) ex t ∧ ∀ e b, f e = some b → ∀ V S s (Q : Bool → Hp → Prop), Hl X ca i a cls d e V S s → (∀ V', Hl X ca i a cls d e V' S s → Fr V S.r s V' S.r s → Q b V'.H) → t s V.H Q
def HW (X : Cx) (ca : Nat → Addr) (i : Nat) (ex : Expr) (f : Ex → Option Bool) : Prop := ∀ (a : Addr) (oe : Obj) (cls : Value) (d : Option Addr) (pn : List (Addr × Obj)), Zc cls d oe → (∃ vs, oe.data = .fields vs) →
  ∃ t, PW (X.suite a ((a, oe) :: pn)) ex t ∧ ∀ e b, f e = some b → ∀ V S s (Q : Bool → Hp → Prop), Hl X ca i a cls d e V S s → (∀ V', Hl X ca i a cls d e V' S s → Fr V S.r s V' S.r s → Q b V'.H) → t s V.H Q
def HSs (X : Cx) (ca : Nat → Addr) (i : Nat) (st : List Stmt) (f : Ex → Option Fl) : Prop := ∀ (a : Addr) (oe : Obj) (cls : Value) (d : Option Addr) (pn : List (Addr × Obj)), Zc cls d oe → (∃ vs, oe.data = .fields vs) →
  ∃ t, PSs (X.suite a ((a, oe) :: pn)) st t ∧ ∀ e fl, f e = some fl → ∀ V S s (D : Ends), Hl X ca i a cls d e V S s → (∀ V', Hl X ca i a cls d e V' S s → Fr V S.r s V' S.r s → flQ X.K D s V' fl) → t D s V.H
def HS (X : Cx) (ca : Nat → Addr) (i : Nat) (st : Stmt) (f : Ex → Option Fl) : Prop := ∀ (a : Addr) (oe : Obj) (cls : Value) (d : Option Addr) (pn : List (Addr × Obj)), Zc cls d oe → (∃ vs, oe.data = .fields vs) →
  ∃ t, PS (X.suite a ((a, oe) :: pn)) st t ∧ ∀ e fl, f e = some fl → ∀ V S s (D : Ends), Hl X ca i a cls d e V S s → (∀ V', Hl X ca i a cls d e V' S s → Fr V S.r s V' S.r s → flQ X.K D s V' fl) → t D s V.H
section
variable {X : Cx} {ca : Nat → Addr} {i : Nat} {x y : Str} {ex ey c : Expr} {rest : List Expr} {f g : Ex → Option D} {ft gt : Ex → Option Bool} {fs gs : Ex → Option Fl} {p p1 p2 pos : Pos} {st : Stmt} {sts s1 s2 : List Stmt}
/-! values -/
theorem hv_c {v : V} {d0 : D} (h : ∀ Y : Cx, PE Y ex (tC v)) (hr : ∀ F io, RV X.K F io v d0) : HV X ca i ex (fun _ => some d0) := fun a oe cls d pn _ _ => ⟨_, h _, fun e v' ev V S s Q hl k => by
  cases ev
  exact k v V hl .refl (hr _ _)⟩
theorem hv_bl {b : Bool} {j} : HV X ca i (.Constant (.bool b) j pos) (fun _ => some (.bl b)) := hv_c (fun _ => pe_bl) fun _ _ => .bl b
theorem hv_non {j} : HV X ca i (.Constant .none j pos) (fun _ => some .non) := hv_c (fun _ => pe_non) fun _ _ => .non
theorem hv_str {z : Str} {j} : HV X ca i (.Constant (.str z) j pos) (fun _ => some (.str z)) := hv_c (fun _ => pe_str) fun _ _ => .str z
theorem hv_row {j : Nat} (T : XfC X.K (ca j)) (hno : PySem.W.findIn X.K (.ref (ca j)) "row" = some none) (hN : X.N[i]? = some x := by rfl) (hv : Vis X.env.scope x := by first | exact Or.inl rfl | exact Or.inr (Or.inl rfl) | exact Or.inr (Or.inr rfl))
    (hd : (x == ("__debug__" : Str)) = false := by decide) (hcd : (x == ("__classdict__" : Str)) = false := by decide) (hb : ∀ env, attributeBase (.Name x p1) "row" env (eval (.Name x p1) env) = eval (.Name x p1) env := by intro _; rfl) :
    HV X ca i (.Attribute (.Name x p1) "row" pos) (fun e => if e.i = j then e.r else none) := fun a oe cls d pn hz hf => by
  refine ⟨_, pe_xf T hno hz hf (pe_var (i := i) hN hv hd hcd) (hb _), fun e v ev V S s Q hl k => ?_⟩
  have hxx := hl.hx
  obtain ⟨h1, h2⟩ := hxx
  replace ev : (if e.i = j then e.r else none) = some v := ev
  split at ev
  · rename_i ej
    rw [ev] at h2
    obtain ⟨dd, u, e1, e2, rv⟩ := h2
    refine ⟨_, hl.at', rfl, by rw [h1, ej], dd, _, u, e1, e2, by simp [List.lookup], k u V hl .refl rv⟩
  · cases ev
/-! isinstance -/
theorem pe_e {a : Addr} {pn : List (Addr × Obj)} (hN : X.N[i]? = some x) (hv : Vis X.env.scope x) (hd : (x == ("__debug__" : Str)) = false) (hcd : (x == ("__classdict__" : Str)) = false) : PE (X.suite a pn) (.Name x p1) (tVar i) := pe_var hN hv hd hcd
theorem hv_is {m : Nat → Option Bool} {v : V} {u : Value} (hE : ∀ j b, m j = some b → ExcC X.K (ca j) ∧ PySem.W.kitOne X.K (.ref (ca j)) u = some b) (hcv : ClsV v u) (hT : ∀ (a : Addr) (pn : List (Addr × Obj)), PE (X.suite a pn) ey (tC v)) (hm : X.mg "isinstance" = none)
    (hg : Gl X "isinstance" := by rfl) (hN : X.N[i]? = some x := by rfl) (hv : Vis X.env.scope x := by first | exact Or.inl rfl | exact Or.inr (Or.inl rfl) | exact Or.inr (Or.inr rfl))
    (hd : (x == ("__debug__" : Str)) = false := by decide) (hcd : (x == ("__classdict__" : Str)) = false := by decide)
    (he : ∀ env, starEach [.Name x p1, ey] env = (false, eval (.Name x p1) env) :: starEach [ey] env := by intro _; rfl) (he2 : ∀ env, starEach [ey] env = (false, eval ey env) :: starEach [] env := by intro _; rfl)
    (hp1 : ∀ env, (backTo pos (starEach [ey] env)).any (·.1) = false := by intro _; rfl) :
    HV X ca i (.Call (.Name "isinstance" p) [.Name x p1, ey] [] pos) (fun e => (m e.i).map .bl) := fun a oe cls d pn hz hf => by
  have pa : PA (X.suite a ((a, oe) :: pn)) [.Name x p1, ey] (tCons (tVar i) (tCons (tC v) tNil)) := pa_cons (pe_e hN hv hd hcd) (pa_cons (hT a _) pa_nil (he2 _)) (he _)
  refine ⟨_, pe_callB (call_isH hz hf) hg hm (by decide +kernel) pa (by decide) (by decide) (he _) (hp1 _), fun e w ew V S s Q hl k => ?_⟩
  simp only [Option.map_eq_some_iff] at ew
  obtain ⟨b, eb, rfl⟩ := ew
  obtain ⟨C, kk⟩ := hE _ _ eb
  refine ⟨_, hl.at', ?_⟩
  exact ⟨ca e.i, v, u, b, hl.hx.1, C, hl.hx.dc, rfl, hcv, kk, k _ V hl .refl (.bl b)⟩
theorem hv_isT {m : Nat → Option Bool} {es : List Expr} {vs : List V} {us : List Value} {ta : TA} {tp : Pos} {tx} (hE : ∀ j b, m j = some b → ExcC X.K (ca j) ∧ PySem.W.kitAny X.K (.ref (ca j)) us = some b) (hcv : Paired ClsV vs us) (hl1 : vs.length ≤ 1000)
    (hT : ∀ (a : Addr) (pn : List (Addr × Obj)), PA (X.suite a pn) es ta) (hta : ∀ s H Q, Q vs H → ta s H Q) (hm : X.mg "isinstance" = none)
    (hg : Gl X "isinstance" := by rfl) (hN : X.N[i]? = some x := by rfl) (hv : Vis X.env.scope x := by first | exact Or.inl rfl | exact Or.inr (Or.inl rfl) | exact Or.inr (Or.inr rfl))
    (hd : (x == ("__debug__" : Str)) = false := by decide) (hcd : (x == ("__classdict__" : Str)) = false := by decide)
    (he : ∀ env, starEach [.Name x p1, .Tuple es tx tp] env = (false, eval (.Name x p1) env) :: starEach [.Tuple es tx tp] env := by intro _; rfl) (he2 : ∀ env, starEach [.Tuple es tx tp] env = (false, eval (.Tuple es tx tp) env) :: starEach [] env := by intro _; rfl)
    (hp1 : ∀ env, (backTo pos (starEach [.Tuple es tx tp] env)).any (·.1) = false := by intro _; rfl) :
    HV X ca i (.Call (.Name "isinstance" p) [.Name x p1, .Tuple es tx tp] [] pos) (fun e => (m e.i).map .bl) := fun a oe cls d pn hz hf => by
  have pa : PA (X.suite a ((a, oe) :: pn)) [.Name x p1, .Tuple es tx tp] (tCons (tVar i) (tCons (tTup ta) tNil)) := pa_cons (pe_e hN hv hd hcd) (pa_cons (pe_tup (hT a _)) pa_nil (he2 _)) (he _)
  refine ⟨_, pe_callB (call_isHT hz hf) hg hm (by decide +kernel) pa (by decide) (by decide) (he _) (hp1 _), fun e w ew V S s Q hl k => ?_⟩
  simp only [Option.map_eq_some_iff] at ew
  obtain ⟨b, eb, rfl⟩ := ew
  obtain ⟨C, kk⟩ := hE _ _ eb
  refine ⟨_, hl.at', ?_⟩
  refine hta _ _ _ ⟨Nat.le_trans hl1 (by decide), fun q nq => ?_⟩
  obtain ⟨R1, f1⟩ := hl.rel.al (o := .tup vs) nq
  have hx1 := hl.hx.al (o := .tup vs) nq f1.fx
  exact ⟨ca e.i, q, vs, us, b, hx1.1, C, hx1.dc, rfl, upd_same, hcv, kk, k _ (V.al q (.tup vs)) ⟨R1, hx1, hl.at'⟩ f1 (.bl b)⟩
/-! and, or, not -/
theorem hv_one {op} (h : HV X ca i ex f) : HV X ca i (.BoolOp op [ex] pos) f := fun a oe cls d pn hz hf => by
  obtain ⟨t, pt, q⟩ := h a oe cls d pn hz hf
  exact ⟨_, pe_one pt, q⟩
def hAnd (f g : Ex → Option D) : Ex → Option D := fun e => (f e).bind fun v => match v with
  | .bl true => g e
  | .bl false => some (.bl false)
  | _ => none
def hOr (f g : Ex → Option D) : Ex → Option D := fun e => (f e).bind fun v => match v with
  | .bl true => some (.bl true)
  | .bl false => g e
  | _ => none
def hNot (f : Ex → Option D) : Ex → Option D := fun e => (f e).bind fun v => match v with
  | .bl b => some (.bl (!b))
  | _ => none
theorem hv_and (h1 : HV X ca i ex f) (h2 : HV X ca i (.BoolOp .And (ey :: rest) pos) g) : HV X ca i (.BoolOp .And (ex :: ey :: rest) pos) (hAnd f g) := fun a oe cls d pn hz hf => by
  obtain ⟨t, pt, q⟩ := h1 a oe cls d pn hz hf
  obtain ⟨t2, pt2, q2⟩ := h2 a oe cls d pn hz hf
  refine ⟨_, pe_and pt pt2, fun e v ev V S s Q hl k => ?_⟩
  obtain ⟨v1, e1, ev⟩ := bind_some ev
  refine q e v1 e1 V S s _ hl fun z V1 hl1 f1 rv => ?_
  split at ev
  · cases rv.bl_inv
    exact ⟨true, rfl, by rw [if_pos rfl]; exact q2 e v ev V1 S s Q hl1 fun z V2 hl2 f2 => k z V2 hl2 (f1.trans f2)⟩
  · cases rv.bl_inv
    cases ev
    exact ⟨false, rfl, by rw [if_neg Bool.false_ne_true]; exact k _ V1 hl1 f1 (.bl false)⟩
  · cases ev
theorem hv_or (h1 : HV X ca i ex f) (h2 : HV X ca i (.BoolOp .Or (ey :: rest) pos) g) : HV X ca i (.BoolOp .Or (ex :: ey :: rest) pos) (hOr f g) := fun a oe cls d pn hz hf => by
  obtain ⟨t, pt, q⟩ := h1 a oe cls d pn hz hf
  obtain ⟨t2, pt2, q2⟩ := h2 a oe cls d pn hz hf
  refine ⟨_, pe_or pt pt2, fun e v ev V S s Q hl k => ?_⟩
  obtain ⟨v1, e1, ev⟩ := bind_some ev
  refine q e v1 e1 V S s _ hl fun z V1 hl1 f1 rv => ?_
  split at ev
  · cases rv.bl_inv
    cases ev
    exact ⟨true, rfl, by rw [if_pos rfl]; exact k _ V1 hl1 f1 (.bl true)⟩
  · cases rv.bl_inv
    exact ⟨false, rfl, by rw [if_neg Bool.false_ne_true]; exact q2 e v ev V1 S s Q hl1 fun z V2 hl2 f2 => k z V2 hl2 (f1.trans f2)⟩
  · cases ev
theorem hv_not (h1 : HV X ca i ex f) : HV X ca i (.UnaryOp .Not ex pos) (hNot f) := fun a oe cls d pn hz hf => by
  obtain ⟨t, pt, q⟩ := h1 a oe cls d pn hz hf
  refine ⟨_, pe_not pt, fun e v ev V S s Q hl k => ?_⟩
  obtain ⟨v1, e1, ev⟩ := bind_some ev
  refine q e v1 e1 V S s _ hl fun z V1 hl1 f1 rv => ?_
  split at ev
  · cases rv.bl_inv
    cases ev
    exact ⟨_, rfl, k _ V1 hl1 f1 (.bl _)⟩
  · cases ev
/-! tests -/
def hB (f : Ex → Option D) : Ex → Option Bool := fun e => (f e).bind fun v => match v with
  | .bl b => some b
  | _ => none
theorem ht_v (h : HV X ca i ex f) (he : ∀ env whole, isTrue ex env whole = (do let v ← whole; standAt ex.pos; holding [v] (truthy v)) := by intro _ _; rfl) : HT X ca i ex (hB f) := fun a oe cls d pn hz hf => by
  obtain ⟨t, pt, q⟩ := h a oe cls d pn hz hf
  refine ⟨_, pt_val pt (he _), fun e b eb V S s Q hl k => ?_⟩
  obtain ⟨v1, e1, eb⟩ := bind_some eb
  refine q e v1 e1 V S s _ hl fun z V1 hl1 f1 rv => ?_
  split at eb
  · cases rv.bl_inv
    cases eb
    exact ⟨_, rfl, k V1 hl1 f1⟩
  · cases eb
theorem ht_w (h : HW X ca i ex ft) : HT X ca i ex ft := fun a oe cls d pn hz hf => by
  obtain ⟨t, pt, q⟩ := h a oe cls d pn hz hf
  exact ⟨_, pt.pt, q⟩
theorem ht_not (h : HT X ca i ex ft) : HT X ca i (.UnaryOp .Not ex pos) (fun e => (ft e).map (!·)) := fun a oe cls d pn hz hf => by
  obtain ⟨t, pt, q⟩ := h a oe cls d pn hz hf
  refine ⟨_, pt_not pt, fun e b eb V S s Q hl k => ?_⟩
  simp only [Option.map_eq_some_iff] at eb
  obtain ⟨b1, e1, rfl⟩ := eb
  exact q e b1 e1 V S s _ hl fun V1 hl1 f1 => k V1 hl1 f1
theorem hw_or1 (h : HT X ca i ex ft) : HW X ca i (.BoolOp .Or [ex] pos) ft := fun a oe cls d pn hz hf => by
  obtain ⟨t, pt, q⟩ := h a oe cls d pn hz hf
  exact ⟨_, pw_or1 pt, q⟩
theorem hw_and1 (h : HT X ca i ex ft) : HW X ca i (.BoolOp .And [ex] pos) ft := fun a oe cls d pn hz hf => by
  obtain ⟨t, pt, q⟩ := h a oe cls d pn hz hf
  exact ⟨_, pw_and1 pt, q⟩
theorem hw_or (h1 : HT X ca i ex ft) (h2 : HW X ca i (.BoolOp .Or (ey :: rest) pos) gt) : HW X ca i (.BoolOp .Or (ex :: ey :: rest) pos) (fun e => (ft e).bind fun b => if b then some true else gt e) := fun a oe cls d pn hz hf => by
  obtain ⟨t, pt, q⟩ := h1 a oe cls d pn hz hf
  obtain ⟨t2, pt2, q2⟩ := h2 a oe cls d pn hz hf
  refine ⟨_, pw_or pt pt2, fun e b eb V S s Q hl k => ?_⟩
  obtain ⟨b1, e1, eb⟩ := bind_some eb
  refine q e b1 e1 V S s _ hl fun V1 hl1 f1 => ?_
  cases b1 with
  | true => cases eb; rw [if_pos rfl]; exact k V1 hl1 f1
  | false => rw [if_neg Bool.false_ne_true]; exact q2 e b eb V1 S s Q hl1 fun V2 hl2 f2 => k V2 hl2 (f1.trans f2)
theorem hw_and (h1 : HT X ca i ex ft) (h2 : HW X ca i (.BoolOp .And (ey :: rest) pos) gt) : HW X ca i (.BoolOp .And (ex :: ey :: rest) pos) (fun e => (ft e).bind fun b => if b then gt e else some false) := fun a oe cls d pn hz hf => by
  obtain ⟨t, pt, q⟩ := h1 a oe cls d pn hz hf
  obtain ⟨t2, pt2, q2⟩ := h2 a oe cls d pn hz hf
  refine ⟨_, pw_and pt pt2, fun e b eb V S s Q hl k => ?_⟩
  obtain ⟨b1, e1, eb⟩ := bind_some eb
  refine q e b1 e1 V S s _ hl fun V1 hl1 f1 => ?_
  cases b1 with
  | true => rw [if_pos rfl]; exact q2 e b eb V1 S s Q hl1 fun V2 hl2 f2 => k V2 hl2 (f1.trans f2)
  | false => cases eb; rw [if_neg Bool.false_ne_true]; exact k V1 hl1 f1
/-! statements -/
def hRet (f : Ex → Option D) : Ex → Option Fl := fun e => (f e).bind fun v => some (.rt v)
def hIf (c : Ex → Option Bool) (f g : Ex → Option Fl) : Ex → Option Fl := fun e => (c e).bind fun b => if b then f e else g e
def hSeq (f g : Ex → Option Fl) : Ex → Option Fl := fun e => (f e).bind fun fl => match fl with
  | .nx => g e
  | x => some x
theorem hs_ret (h : HV X ca i ex f) : HS X ca i (.Return (some ex) pos) (hRet f) := fun a oe cls d pn hz hf => by
  obtain ⟨t, pt, q⟩ := h a oe cls d pn hz hf
  refine ⟨_, ps_ret pt, fun e fl ef V S s D hl k => ?_⟩
  obtain ⟨v, e1, ef⟩ := bind_some ef
  cases ef
  exact q e v e1 V S s _ hl fun z V1 hl1 f1 rv => k V1 hl1 f1 z rv
theorem hs_if (h : HT X ca i c ft) (h1 : HSs X ca i s1 fs) (h2 : HSs X ca i s2 gs) : HS X ca i (.If c s1 s2 pos) (hIf ft fs gs) := fun a oe cls d pn hz hf => by
  obtain ⟨t, pt, q⟩ := h a oe cls d pn hz hf
  obtain ⟨u1, pu1, q1⟩ := h1 a oe cls d pn hz hf
  obtain ⟨u2, pu2, q2⟩ := h2 a oe cls d pn hz hf
  refine ⟨_, ps_if pt pu1 pu2, fun e fl ef V S s D hl k => ?_⟩
  obtain ⟨b, e1, ef⟩ := bind_some ef
  refine q e b e1 V S s _ hl fun V1 hl1 f1 => ?_
  cases b with
  | true => rw [if_pos rfl]; exact q1 e fl ef V1 S s D hl1 fun V2 hl2 f2 => k V2 hl2 (f1.trans f2)
  | false => rw [if_neg Bool.false_ne_true]; exact q2 e fl ef V1 S s D hl1 fun V2 hl2 f2 => k V2 hl2 (f1.trans f2)
theorem hss_nil : HSs X ca i [] (fun _ => some .nx) := fun a oe cls d pn hz hf => ⟨_, pss_nil, fun e fl ef V S s D hl k => by cases ef; exact k V hl .refl⟩
theorem hss_one (h : HS X ca i st fs) : HSs X ca i [st] fs := fun a oe cls d pn hz hf => by
  obtain ⟨t, pt, q⟩ := h a oe cls d pn hz hf
  exact ⟨_, pss_one pt, q⟩
theorem hss_cons (h : HS X ca i st fs) (h2 : HSs X ca i sts gs) : HSs X ca i (st :: sts) (hSeq fs gs) := fun a oe cls d pn hz hf => by
  obtain ⟨t, pt, q⟩ := h a oe cls d pn hz hf
  obtain ⟨t2, pt2, q2⟩ := h2 a oe cls d pn hz hf
  refine ⟨_, pss_cons pt pt2, fun e fl ef V S s D hl k => ?_⟩
  obtain ⟨fl1, e1, ef⟩ := bind_some ef
  refine q e fl1 e1 V S s { D with nx := t2 D } hl fun V1 hl1 f1 => ?_
  cases fl1 with
  | nx => exact q2 e fl ef V1 S s D hl1 fun V2 hl2 f2 => k V2 hl2 (f1.trans f2)
  | bk => cases ef; exact k V1 hl1 f1
  | ct => cases ef; exact k V1 hl1 f1
  | rt v => cases ef; exact k V1 hl1 f1
end
/-! the clause -/
theorem Rel.setEmp {K : PySem.W.Frag} {V : Wd} {S : Ms} {s : L2.St} (R : Rel K V S s) (i : Nat) (o : Option L2.V) : Rel K V ⟨S.r.set i .emp, S.m⟩ (s.set i o) ∧ Fr V S.r s V (S.r.set i .emp) (s.set i o) := by
  have inv : ∀ j c, (S.r.set i Slot.emp)[j]? = some (Slot.own c) → i ≠ j ∧ S.r[j]? = some (Slot.own c) := fun j c e => by
    by_cases h : i = j
    · subst h
      by_cases hi : i < S.r.length
      · rw [List.getElem?_set_self hi] at e; cases e
      · rw [List.getElem?_eq_none (by simpa using hi)] at e; cases e
    · rw [List.getElem?_set_ne h] at e; exact ⟨h, e⟩
  refine ⟨⟨R.sub, R.nd, R.nf, R.len, R.cells, by simp [R.sl], fun j e hj => ?_, fun j c hj => ?_, fun j k c c' b e1 e2 e3 e4 => ?_⟩, ⟨fun _ _ h => h, List.prefix_refl _, fun b u hb n => ⟨hb, fun m => n ?_⟩, fun _ h => h⟩⟩
  · by_cases h : i = j
    · subst h
      by_cases hi : i < S.r.length
      · rw [List.getElem?_set_self hi] at hj; cases hj
      · rw [List.getElem?_eq_none (by simpa using hi)] at hj; cases hj
    · rw [List.getElem?_set_ne h] at hj ⊢; exact R.slots j e hj
  · obtain ⟨h, e⟩ := inv j c hj
    rw [List.getElem?_set_ne h]; exact R.owns j c e
  · obtain ⟨n1, q1⟩ := inv j c e1
    obtain ⟨n2, q2⟩ := inv k c' e2
    rw [List.getElem?_set_ne n1] at e3
    rw [List.getElem?_set_ne n2] at e4
    exact R.odis j k c c' b q1 q2 e3 e4
  · rcases m with m | m | ⟨j, c, e1, e2⟩
    · exact .inl m
    · exact .inr (.inl m)
    · obtain ⟨n1, q1⟩ := inv j c e1
      rw [List.getElem?_set_ne n1] at e2
      exact .inr (.inr ⟨j, c, q1, e2⟩)
def xTryAs (m : Nat → Option Bool) (i : Nat) (f : XF) (hd : Ex → Option Fl) : XF := fun S => (f S).bind fun p => match p.1 with
  | .ex e => match m e.i with
    | some true => if i < p.2.r.length then (hd e).bind fun fl => some (.fl fl, ⟨p.2.r.set i .emp, p.2.m⟩) else none
    | some false => some (.ex e, p.2)
    | none => none
  | x => some (x, p.2)
def tHa (X : Cx) (ca : Nat → Addr) (i : Nat) (a : Addr) (cls : Value) (d : Option Addr) (hd : Ex → Option Fl) : TS := fun D s H => ∃ e S fl V, V.H = H ∧ Hl X ca i a cls d e V S s ∧ hd e = some fl ∧ ∀ V', Hl X ca i a cls d e V' S s → Fr V S.r s V' S.r s → flQ X.K D s V' fl
theorem msx_tryAs {X : Cx} {ca : Nat → Addr} {i : Nat} {x n : Str} {c : Value} {body suite : List Stmt} {b0 : Stmt} {np pos pos' : Pos} {f : XF} {hd : Ex → Option Fl} {m : Nat → Option Bool}
    (hs : X.stack = X.env :: X.outer) (hf : X.env.frame = some X.env.locals) (hN : X.N.Nodup) (hi : X.N[i]? = some n) (hln : X.env.kindOf n = some .local) (hc : Names X x c) (hm : ∀ j b, m j = some b → PySem.W.exmOne X.K (.ref (ca j)) c = some b)
    (hb : ∀ (pn : List (Addr × Obj)) (xe : Value → Shared → Prop), MSsx (X.tr pn xe) ca body f) (hh : HSs X ca i (b0 :: suite) hd) :
    MSx X ca (.Try body [.ExceptHandler (some (.Name x np)) (some n) (b0 :: suite) pos'] [] [] pos) (xTryAs m i f hd) := fun W tk hp =>
  pImp (ps_try_as hs hf hN hi hln hc tk (tb := fun W' => tX X.K ca W' f) (ts := fun a cls d => tHa X ca i a cls d hd) (fun W' pn xe tk' hp' => hb pn xe W' tk' hp') (fun a oe cls d pn hz hv => by
    obtain ⟨t, pt, q⟩ := hh a oe cls d pn hz hv
    refine psImp pt fun D σ H ⟨e, S, fl, V, eV, hl, ef, kk⟩ => ?_
    subst eV
    exact q e fl ef V S σ D hl kk)) fun D σ H ⟨S, fl, S', V, eV, R, ef, kk⟩ => by
    subst eV
    obtain ⟨⟨fl1, S1⟩, e1, ef⟩ := bind_some ef
    refine ⟨S, fl1, S1, V, rfl, R, e1, fun V1 s1 R1 f1 => ?_⟩
    cases fl1 with
    | fl y => cases ef; exact kk V1 s1 R1 f1
    | ex e =>
      intro cls d hx
      simp only at ef
      have hcl := hx.1
      split at ef
      · rename_i hm1
        split at ef
        · rename_i hil
          obtain ⟨fl2, e2, ef⟩ := bind_some ef
          cases ef
          refine ⟨true, by rw [hcl]; exact hm _ _ hm1, fun _ a na => ?_, (fun z => by cases z)⟩
          obtain ⟨R2, f2⟩ := R1.setEmp i (some (.ref a))
          refine ⟨e, ⟨S1.r.set i .emp, S1.m⟩, fl2, V1, rfl, ⟨R2, hx, by rw [List.getElem?_set_self (by rw [R1.sl]; exact hil)]⟩, e2, fun V3 hl3 f3 => ?_⟩
          obtain ⟨R4, f4⟩ := hl3.rel.setEmp i none
          have e5 : (⟨(S1.r.set i Slot.emp).set i .emp, S1.m⟩ : Ms) = ⟨S1.r.set i .emp, S1.m⟩ := by rw [List.set_set]
          have e6 : (s1.set i (some (L2.V.ref a))).set i none = s1.set i none := by rw [List.set_set]
          rw [e5, e6] at R4
          have f5 := (f1.trans f2).trans (f3.trans f4)
          rw [List.set_set, e6] at f5
          have kf := kk V3 _ R4 f5
          cases fl2 with
          | nx => show D.nx ((s1.set i (some (L2.V.ref a))).set i none) V3.H; rw [e6]; exact kf
          | bk => show D.bk ((s1.set i (some (L2.V.ref a))).set i none) V3.H; rw [e6]; exact kf
          | ct => show D.ct ((s1.set i (some (L2.V.ref a))).set i none) V3.H; rw [e6]; exact kf
          | rt v => exact kf
        · cases ef
      · rename_i hm1
        cases ef
        exact ⟨false, by rw [hcl]; exact hm _ _ hm1, (fun z => by cases z), fun _ => kk V1 s1 R1 f1 cls d hx⟩
      · cases ef
end M

/-! M22: exceptions: facts of the text, rows for simp -/
namespace M
open PySem PySem.Spec L2 PyProof.Rows
/-! tables of classes -/
def tb : List (Nat × Bool) → Nat → Option Bool
  | [], _ => none
  | (k, b) :: r, j => if k = j then some b else tb r j
def Tab (P : Nat → Bool → Prop) (l : List (Nat × Bool)) : Prop := ∀ j b, tb l j = some b → P j b
theorem tab_nil {P : Nat → Bool → Prop} : Tab P [] := fun j b h => by cases h
theorem tab_cons {P : Nat → Bool → Prop} {k : Nat} {b : Bool} {l : List (Nat × Bool)} (h : P k b) (t : Tab P l) : Tab P ((k, b) :: l) := fun j c e => by
  unfold tb at e
  split at e
  · rename_i q; subst q; cases e; exact h
  · exact t j c e
@[simp] theorem tb_nil {j : Nat} : tb [] j = none := rfl
@[simp] theorem tb_cons {k j : Nat} {b : Bool} {r : List (Nat × Bool)} : tb ((k, b) :: r) j = if k = j then some b else tb r j := rfl
theorem kit_ref {K : PySem.W.Frag} {C D : Addr} {b : Bool} (hdct : PySem.W.hasDictIn K C = true) (ht : PySem.W.typeIn K (.ref C) = some (.type "type")) (h4 : PySem.W.subIn K (.ref D) (.ref C) = some b) (hs : PySem.W.subIn K (.ref D) (.ref D) = some true) : PySem.W.kitOne K (.ref D) (.ref C) = some b := by
  obtain ⟨cd, hc, _⟩ := PySem.W.any_some hdct
  have e2 : ((PySem.W.clsIn K C).isSome && PySem.W.typeIn K (.ref C) == some (.type "type")) = true := by rw [hc, ht] <;> rfl
  unfold PySem.W.kitOne
  by_cases e : D = C
  · subst e
    rw [hs] at h4
    cases h4
    rw [if_pos (by simp)]
  · rw [if_neg (by simp [e])]
    show (if ((PySem.W.clsIn K C).isSome && PySem.W.typeIn K (.ref C) == some (.type "type")) = true then PySem.W.subIn K (.ref D) (.ref C) else none) = some b
    rw [if_pos e2]; exact h4
theorem kit_bty {K : PySem.W.Frag} {D : Addr} {T : String} {b : Bool} (hm : PySem.W.kitMeta T = true) (h4 : PySem.W.subIn K (.ref D) (.type T) = some b) : PySem.W.kitOne K (.ref D) (.type T) = some b := by
  unfold PySem.W.kitOne
  rw [if_neg (by simp)]
  show (if PySem.W.kitMeta T = true then PySem.W.subIn K (.ref D) (.type T) else none) = some b
  rw [if_pos hm]; exact h4
/-! raising with a row -/
structure Xrow (P : Program) (w : World) (K : PySem.W.Frag) (mg : Str → Option Value) (base : Heap) (ca : Nat → Addr) (k j : Nat) (x : Str) : Prop where
  ex : ∃ (fI : Addr) (fd : FuncData), OexC K (ca j) ∧ PySem.W.findIn K (.ref (ca j)) "__init__" = some (some (.ref fI)) ∧ PySem.W.typeIn K (.ref fI) = some (.type "function") ∧
    FnOk P w K mg base CX0 k fI fd ["self", "row"] (spInit K) ∧ Binds K fd ["self", "row"] [] ∧ PySem.W.findIn K (.ref (ca j)) "row" = some none ∧ mg x = some (.ref (ca j))
theorem msx_raiseR {X : Cx} {ca : Nat → Addr} {x : Str} {e : Expr} {fa : AF} {p pos pos' : Pos} {j k : Nat} (G : Xrow X.prog X.w X.K X.mg X.base ca k j x) (hr : Room (k + 1) X.A) (hc : X.calm = true) (ha : MA X [e] fa)
    (hg : Gl X x := by rfl) (hdb : (x == ("__debug__" : Str)) = false := by decide) (he : starEach [e] X.env = (false, eval e X.env) :: starEach [] X.env := by rfl) (hpl : (backTo pos (starEach [] X.env)).any (·.1) = false := by rfl) :
    MSx X ca (.Raise (some (.Call (.Name x p) [e] [] pos)) none pos') (xRaiseRow j fa) := by
  obtain ⟨fI, fd, T, iC, tI, F1, hb, hn, hm⟩ := G.ex
  exact msx_raiseRow hc T iC tI F1 hr hb hn hm ha hg hdb he hpl
theorem xrow_init {P : Program} {w : World} {K : PySem.W.Frag} {mg : Str → Option Value} {base : Heap} {x qual : Str} {st : Stmt} {f : Addr} {fd : FuncData} {k : Nat} {p1 p2 p3 p4 : Pos} (F : Fun K x qual st f fd) (S : FnScope ["self", "row"] ["self", "row"] (defScope st))
    (hb : defBody st = [.Assign [.Attribute (.Name "self" p1) "row" p2] (.Name "row" p3) p4]) (hv : ∀ y : Str, y = "self" ∨ y = "row" → (defScope st).names.lookup y = some .local) : FnOk P w K mg base CX0 (k + 1) f fd ["self", "row"] (spInit K) := by
  refine F.ok S (fun vs H Q E h => by obtain ⟨a, C, v, rfl, _⟩ := h; rfl) (fun cdv A outer s H vs Q E hr h => ?_)
  rw [hb]
  have e1 := hv "self" (.inl rfl)
  have e2 := hv "row" (.inr rfl)
  refine ⟨_, pss_one (ps_ost (pe_var (i := 0) rfl (.inl e1) (by decide) (by decide)) (pe_var (i := 1) rfl (.inl e2) (by decide) (by decide))), ?_⟩
  obtain ⟨a, C, v, rfl, T, hn, ha, k⟩ := h
  exact ⟨v, rfl, .ref a, rfl, a, C, rfl, T, hn, .inl ⟨ha, fun dx n ne => k dx n ne⟩⟩
/-! raising with a text -/
structure Xtxt (K : PySem.W.Frag) (mg : Str → Option Value) (ca : Nat → Addr) (j : Nat) (x : Str) : Prop where
  q : PySem.W.excIn K (ca j) [.type "ValueError", .type "Exception", .type "BaseException", .type "object"] "ValueError.__new__" = true
  hm : mg x = some (.ref (ca j))
  kC : PySem.W.keepIn K (.ref (ca j)) = true
  h1 : PySem.W.subIn K (.ref (ca j)) (.type "BaseException") = some true
  h2 : PySem.W.typeIn K (.ref (ca j)) = some (.type "type")
theorem msx_raiseT {X : Cx} {ca : Nat → Addr} {x m : Str} {jj : Nat} {p p2 pos pos' : Pos} {j : Nat} (G : Xtxt X.K X.mg ca j x) (hc : X.calm = true) (hg : Gl X x := by rfl) (hdb : (x == ("__debug__" : Str)) = false := by decide) :
    MSx X ca (.Raise (some (.Call (.Name x p) [.Constant (.str m) jj p2] [] pos)) none pos') (xRaise j) :=
  msx_raise hc PySem.F.excBase_ValueError G.q G.hm G.kC (raises_own G.h1 G.h2) hg hdb
/-! defs -/
structure Fnx (P : Program) (w : World) (K : PySem.W.Frag) (mg : Str → Option Value) (base : Heap) (ca : Nat → Addr) (k : Nat) (x : Str) (ps : List Str) (ff : FX) : Prop where
  ex : ∃ (f : Addr) (fd : FuncData), FnOk P w K mg base (L2.CX P w) k f fd ps (spX K ca ps.length ff) ∧ mg x = some (.ref f) ∧ PySem.W.keepIn K (.ref f) = true ∧ Binds K fd ps []
def noX (ff : FX) : FF := fun ds m => (ff ds m).bind fun p => match p.1 with
  | .inl d => some (d, p.2)
  | .inr _ => none
theorem noX_ok {P : Program} {w : World} {K : PySem.W.Frag} {mg : Str → Option Value} {base : Heap} {ca : Nat → Addr} {k n : Nat} {f : Addr} {fd : FuncData} {ps : List Str} {ff : FX} (F : FnOk P w K mg base (L2.CX P w) k f fd ps (spX K ca n ff)) : FnOk P w K mg base CX0 k f fd ps (spM K n (noX ff)) := by
  have conv : ∀ vs H Q E, spM K n (noX ff) vs H Q E → spX K ca n ff vs H Q (fun _ _ _ => False) := fun vs H Q E ⟨hl, V, ds, m, d, m', e, R, r, ef, kk⟩ => by
    unfold noX at ef
    obtain ⟨⟨r1, m1⟩, e1, ef⟩ := bind_some ef
    cases r1 with
    | inl d1 => cases ef; exact ⟨hl, V, ds, m, .inl d, _, e, R, r, e1, kk⟩
    | inr x => cases ef
  refine ⟨fun vs H Q E h => F.len _ _ _ _ (conv vs H Q E h), fun A outer s H args us vs Q E hr he hb hv hs => ?_⟩
  refine codeAny_mono (F.run A outer s H args us vs Q (fun _ _ _ => False) hr he hb hv (conv vs H Q E hs)) fun r s' q => ?_
  cases r with
  | error er => obtain ⟨_, _, _, _, _, _, _, _, _, _, _, _, z⟩ := q; exact z.elim
  | ok fl => cases fl with
    | ret u => exact q
    | next => exact q
    | brk => exact q
    | cont => exact q
section
variable {P : Program} {w : World} {K : PySem.W.Frag} {mg : Str → Option Value} {base : Heap} {ca : Nat → Addr}
theorem fnnx {x qual : Str} {st : Stmt} {f : Addr} {fd : FuncData} {N ps : List Str} {k : Nat} {b : XF} (F : Fun K x qual st f fd) (hm : mg x = some (.ref f)) (S : FnScope N ps (defScope st))
    (hbd : ∀ (kV doc pm : Value) (an : Option Addr) (cdv ct : Value) (us : List Value), us.length = ps.length → bindArgs (PySem.W.fnOf x qual (defArgs st) (defBody st) (defScope st) .none kV doc pm an cdv ct) ⟨us, []⟩ = pure (ps.zip us))
    (hb : ∀ (cdv : Value) (A : Around) (outer : List Env) (s : Shared) (H : Hp) (E : XK), Room k (A.deeper (PyProof.Rows.envOfC qual (defScope st) s.heap.objs.size f cdv)) →
      MSsx (cxOf (L2.CX P w) P w K mg base N qual (defScope st) f cdv A outer s H E) ca (defBody st) b) : Fnx P w K mg base ca (k + 1) x ps (fnX N.length b) := by
  exact ⟨f, fd, fnx_ok F S hb, hm, F.kp, F.binds hbd⟩
theorem fnn_noX {k : Nat} {x : Str} {ps : List Str} {ff : FX} (G : Fnx P w K mg base ca k x ps ff) : Fnn P w K mg base k x ps (noX ff) := by
  obtain ⟨f, fd, G, hm, hk, hb⟩ := G.ex
  exact ⟨f, fd, noX_ok G, hm, hk, hb⟩
end
section
variable {X : Cx} {ca : Nat → Addr} {k n : Nat} {ps : List Str} {ff : FX} {x : Str} {p pos : Pos} {e : Expr} {es : List Expr} {fa : AF}
theorem mex_f (G : Fnx X.prog X.w X.K X.mg X.base ca k x ps ff) (hr : Room k X.A) (ha : MA X (e :: es) fa)
    (hn : ps.length = n := by rfl) (hg : Gl X x := by rfl) (hdb : (x == ("__debug__" : Str)) = false := by decide) (he : starEach (e :: es) X.env = (false, eval e X.env) :: starEach es X.env := by rfl) (hpl : (backTo pos (starEach es X.env)).any (·.1) = false := by rfl) :
    MEx X ca (.Call (.Name x p) (e :: es) [] pos) (xFn n ff fa) := by
  obtain ⟨f, fd, G, hm, hk, hb⟩ := G.ex
  rw [hn] at G
  exact mex_fn G hr hm hk hb ha hg hdb he hpl
end
/-! rows -/
section
variable {S : Ms} {f g : XF} {fs : SF} {fe : XEF} {ee : EF} {fa : AF} {c : BF} {gf : GF} {ff : FX} {j n N : Nat} {m : Nat → Option Bool} {b : XF} {ds : List D} {mm : List Cell} {i : Nat}
@[simp] theorem xL_ap : xL fs S = (fs S).bind fun p => some (.fl p.1, p.2) := rfl
@[simp] theorem xNil_ap : xNil S = some (.fl .nx, S) := rfl
@[simp] theorem xSeq_ap : xSeq f g S = (f S).bind fun p => match p.1 with
  | .fl .nx => g p.2
  | x => some (x, p.2) := rfl
@[simp] theorem xIf_ap : xIf c f g S = (c S).bind fun p => if p.1 then f p.2 else g p.2 := rfl
@[simp] theorem xFor_ap : xFor fa gf f S = (fa S).bind fun p => xForM gf f p.1 p.2 := rfl
@[simp] theorem xForM_nil : xForM gf f [] S = some (.fl .nx, S) := rfl
theorem xForM_cons {d : D} : xForM gf f (d :: ds) S = (gf d S).bind fun S1 => (f S1).bind fun p => match p.1 with
    | .fl .nx => xForM gf f ds p.2
    | .fl .ct => xForM gf f ds p.2
    | .fl .bk => some (.fl .nx, p.2)
    | x => some (x, p.2) := rfl
@[simp] theorem xAsg_ap : xAsg fe gf S = (fe S).bind fun p => match p.1 with
  | .inl d => (gf d p.2).bind fun S' => some (.fl .nx, S')
  | .inr e => some (.ex e, p.2) := rfl
@[simp] theorem xExpr_ap : xExpr fe S = (fe S).bind fun p => match p.1 with
  | .inl _ => some (.fl .nx, p.2)
  | .inr e => some (.ex e, p.2) := rfl
@[simp] theorem xRet_ap : xRet fe S = (fe S).bind fun p => match p.1 with
  | .inl d => some (.fl (.rt d), p.2)
  | .inr e => some (.ex e, p.2) := rfl
@[simp] theorem xeL_ap : xeL ee S = (ee S).bind fun p => some (.inl p.1, p.2) := rfl
@[simp] theorem xFn_ap : xFn n ff fa S = (fa S).bind fun p => if p.1.length = n then (ff p.1 p.2.m).bind fun q => some (q.1, ⟨p.2.r, q.2⟩) else none := rfl
@[simp] theorem xRaise_ap : xRaise j S = some (.ex ⟨j, none⟩, S) := rfl
@[simp] theorem xRaiseRow_ap : xRaiseRow j fa S = (fa S).bind fun p => match p.1 with
  | [d] => some (.ex ⟨j, some d⟩, p.2)
  | _ => none := rfl
@[simp] theorem xTry_ap {hd : Ex → SF} : xTry m f hd S = (f S).bind fun p => match p.1 with
  | .ex e => match m e.i with
    | some true => (hd e p.2).bind fun q => some (.fl q.1, q.2)
    | some false => some (.ex e, p.2)
    | none => none
  | x => some (x, p.2) := rfl
@[simp] theorem xTryAs_ap {hd : Ex → Option Fl} : xTryAs m i f hd S = (f S).bind fun p => match p.1 with
  | .ex e => match m e.i with
    | some true => if i < p.2.r.length then (hd e).bind fun fl => some (.fl fl, ⟨p.2.r.set i .emp, p.2.m⟩) else none
    | some false => some (.ex e, p.2)
    | none => none
  | x => some (x, p.2) := rfl
theorem fnX_ap : fnX N b ds mm = (b ⟨ds.map Slot.val ++ List.replicate (N - ds.length) .emp, mm⟩).bind fun p => match p.1 with
  | .fl (.rt d) => some (.inl d, p.2.m)
  | .fl .nx => some (.inl .non, p.2.m)
  | .ex e => some (.inr e, p.2.m)
  | _ => none := rfl
theorem noX_ap : noX ff ds mm = (ff ds mm).bind fun p => match p.1 with
  | .inl d => some (d, p.2)
  | .inr _ => none := rfl
end
end M

/-! M23: list(range(..)) -/
namespace M
open PySem PySem.Spec L2 PyProof.Rows
def cLr2 (f g : EF) : CF := fun S => (f S).bind fun p => (g p.2).bind fun q => match p.1, q.1 with
  | .int a, .int b => if -1000000 ≤ a ∧ a ≤ 1000000 ∧ -1000000 ≤ b ∧ b ≤ 1000000 then some (.lst (rngD a (b - a).toNat), q.2) else none
  | _, _ => none
def cLr1 (g : EF) : CF := fun S => (g S).bind fun q => match q.1 with
  | .int b => if -1000000 ≤ b ∧ b ≤ 1000000 then some (.lst (rngD 0 b.toNat), q.2) else none
  | _ => none
theorem rvs_rg {K : PySem.W.Frag} {F : Hp} {io : List Addr} (a b : Int) : RVs K F io (rgV a b) (rngD a (b - a).toNat) := by
  unfold rgV rngD
  generalize (b - a).toNat = n
  have : ∀ l : List Nat, RVs K F io (l.map fun i : Nat => V.int (a + (i : Nat))) (l.map fun i : Nat => D.int (a + (i : Nat))) := by
    intro l
    induction l with
    | nil => exact .nil
    | cons i l ih => exact .cons (.int _) ih
  exact this _
section
variable {X : Cx} {a b : Expr} {fa fb : EF} {p p2 pos : Pos}
theorem mf_lr2 (hc : X.calm = true) (hl : X.mg "list" = none) (hm : X.mg "range" = none) (ha : ME X a fa) (hb : ME X b fb) (hgl : Gl X "list" := by rfl) (hg : Gl X "range" := by rfl)
    (na : starEach [a, b] X.env = (false, eval a X.env) :: starEach [b] X.env := by rfl) (nb : starEach [b] X.env = (false, eval b X.env) :: starEach [] X.env := by rfl) (hp : (backTo p2 (starEach [b] X.env)).any (·.1) = false := by rfl)
    (ne : starEach [.Call (.Name "range" p) [a, b] [] p2] X.env = (false, eval (.Call (.Name "range" p) [a, b] [] p2) X.env) :: starEach [] X.env := by rfl) {p3 : Pos} : MF X (.Call (.Name "list" p3) [.Call (.Name "range" p) [a, b] [] p2] [] pos) (cLr2 fa fb) := by
  obtain ⟨ta, pa, qa⟩ := ha
  obtain ⟨tb, pb, qb⟩ := hb
  refine ⟨_, pe_listRg hc hgl hl (prg_2 hg hm pa pb na nb hp) ne, fun S c S' h W s Q R k => ?_⟩
  obtain ⟨⟨d1, S1⟩, e1, h⟩ := bind_some h
  obtain ⟨⟨d2, S2⟩, e2, h⟩ := bind_some h
  cases d1 with
  | int i => cases d2 with
    | int j =>
      simp only at h
      split at h
      · rename_i hb
        cases h
        refine qa S _ _ e1 W s _ R fun v W1 R1 f1 r1 => ?_
        refine qb S1 _ _ e2 W1 s _ R1 fun v2 W2 R2 f2 r2 => ?_
        cases r1.int_inv
        cases r2.int_inv
        refine ⟨i, j, rfl, rfl, ⟨by omega, by omega, by omega, by omega, by omega⟩, fun q nq => ?_⟩
        obtain ⟨R3, f3, n3⟩ := R2.newLst (vs := rgV i j) nq (rvs_rg i j)
        have hq : W.H q = none := f1.hp q (f2.hp q nq)
        exact k q _ R3 ((f1.trans f2).trans f3) hq n3
      · cases h
    | _ => cases h
  | _ => cases h
theorem mf_lr1 (hc : X.calm = true) (hl : X.mg "list" = none) (hm : X.mg "range" = none) (hb : ME X b fb) (hgl : Gl X "list" := by rfl) (hg : Gl X "range" := by rfl)
    (nb : starEach [b] X.env = (false, eval b X.env) :: starEach [] X.env := by rfl)
    (ne : starEach [.Call (.Name "range" p) [b] [] p2] X.env = (false, eval (.Call (.Name "range" p) [b] [] p2) X.env) :: starEach [] X.env := by rfl) {p3 : Pos} : MF X (.Call (.Name "list" p3) [.Call (.Name "range" p) [b] [] p2] [] pos) (cLr1 fb) := by
  obtain ⟨tb, pb, qb⟩ := hb
  refine ⟨_, pe_listRg hc hgl hl (prg_1 hg hm pb nb) ne, fun S c S' h W s Q R k => ?_⟩
  obtain ⟨⟨d2, S2⟩, e2, h⟩ := bind_some h
  cases d2 with
  | int j =>
    simp only at h
    split at h
    · rename_i hb
      cases h
      refine qb S _ _ e2 W s _ R fun v2 W2 R2 f2 r2 => ?_
      cases r2.int_inv
      refine ⟨j, rfl, ⟨by omega, by omega, by omega, by omega, by omega⟩, fun q nq => ?_⟩
      have hr := rvs_rg (K := X.K) (F := W2.F) (io := W2.io) 0 j
      rw [show (j - 0).toNat = j.toNat by omega] at hr
      obtain ⟨R3, f3, n3⟩ := R2.newLst (vs := rgV 0 j) nq hr
      exact k q _ R3 (f2.trans f3) (f2.hp q nq) n3
    · cases h
  | _ => cases h
variable {S : Ms}
@[simp] theorem cLr2_ap : cLr2 fa fb S = (fa S).bind fun p => (fb p.2).bind fun q => match p.1, q.1 with
  | .int a, .int b => if -1000000 ≤ a ∧ a ≤ 1000000 ∧ -1000000 ≤ b ∧ b ≤ 1000000 then some (.lst (rngD a (b - a).toNat), q.2) else none
  | _, _ => none := rfl
@[simp] theorem cLr1_ap : cLr1 fb S = (fb S).bind fun q => match q.1 with
  | .int b => if -1000000 ≤ b ∧ b ≤ 1000000 then some (.lst (rngD 0 b.toNat), q.2) else none
  | _ => none := rfl
end
end M

/-! the machine functions of k30, printed by gen.py -/
namespace Lk30
open PySem PySem.Spec L2 M
noncomputable section
def t_Paper___init___1 (ca : Nat → Addr) : SF := (sSeq (sFldM (ca 11) "verdict" (eVar 0) (eVar 3)) (sFldM (ca 11) "tokens" (eVar 0) (eVar 4)))
@[simp] theorem t_Paper___init___1_ap {ca : Nat → Addr} {S : Ms} : t_Paper___init___1 ca S = (sSeq (sFldM (ca 11) "verdict" (eVar 0) (eVar 3)) (sFldM (ca 11) "tokens" (eVar 0) (eVar 4))) S := rfl
def t_Paper___init___2 (ca : Nat → Addr) : SF := (sSeq (sFldM (ca 11) "subject" (eVar 0) (eVar 2)) (t_Paper___init___1 ca))
@[simp] theorem t_Paper___init___2_ap {ca : Nat → Addr} {S : Ms} : t_Paper___init___2 ca S = (sSeq (sFldM (ca 11) "subject" (eVar 0) (eVar 2)) (t_Paper___init___1 ca)) S := rfl
def b_Paper___init__ (ca : Nat → Addr) : SF := (sSeq (sFldM (ca 11) "text" (eVar 0) (eVar 1)) (t_Paper___init___2 ca))
def f_Paper___init__ (ca : Nat → Addr) : FF := fnM 5 (b_Paper___init__ ca)
def l_read_number_1 : SF := (sIf (bOf (eOp (gIn3 true) (eVar 1) (eC (.str "0123456789")))) (sRet (eC .non)) sNil)
def b_read_number : SF := (sSeq (sFor (iStrM (eVar 0)) (gNm 1) l_read_number_1) (sSeq (sIf (bOr (bOf (eOp gEq2 (eVar 0) (eC (.str "")))) (bOr (bOf (eOp gGt (eCallV gLen 0) (eC (.int 12)))) (bAnd (bOf (eOp gEq2 (eOpL gIx 0 (eC (.int 0))) (eC (.str "0")))) (bOf (eOp gNe2 (eVar 0) (eC (.str "0"))))))) (sRet (eC .non)) sNil) (sRet (eCallV gInt3 0))))
def f_read_number : FF := fnM 2 b_read_number
def c_read_numbers_1 : EF := (eFn 1 f_read_number (aCons (eVar 2) aNil))
def b_read_numbers : SF := (sSeq (sAsg (eNew (cLc (iSeq (eVar 0)) (gNm 2) bYes c_read_numbers_1 [2])) (gNm 1)) (sSeq (sIf (bOr (bOf (eOp gEq2 (eCallV gLen 1) (eC (.int 0)))) (bOf (eOpR (gIn3 false) (eC .non) 1))) (sRet (eC .non)) sNil) (sRet (eCallV gTuple 1))))
def f_read_numbers : FF := fnM 3 b_read_numbers
def t_read_signed_1 : SF := (sSeq (sIf (bOr (bOf (eOp gIsN (eVar 1) (eC .non))) (bOf (eOp gEq2 (eVar 1) (eC (.int 0))))) (sRet (eC .non)) sNil) (sRet (eUn gNeg (eVar 1))))
@[simp] theorem t_read_signed_1_ap {S : Ms} : t_read_signed_1 S = (sSeq (sIf (bOr (bOf (eOp gIsN (eVar 1) (eC .non))) (bOf (eOp gEq2 (eVar 1) (eC (.int 0))))) (sRet (eC .non)) sNil) (sRet (eUn gNeg (eVar 1)))) S := rfl
def t_read_signed_2 : SF := (sSeq (sAsg (eFn 1 f_read_number (aCons (eSl3 (eVar 0) (oSome (eC (.int 1))) oNone) aNil)) (gNm 1)) t_read_signed_1)
@[simp] theorem t_read_signed_2_ap {S : Ms} : t_read_signed_2 S = (sSeq (sAsg (eFn 1 f_read_number (aCons (eSl3 (eVar 0) (oSome (eC (.int 1))) oNone) aNil)) (gNm 1)) t_read_signed_1) S := rfl
def b_read_signed : SF := (sSeq (sIf (bOf (eOp gNe2 (eSl3 (eVar 0) oNone (oSome (eC (.int 1)))) (eC (.str "-")))) (sRet (eFn 1 f_read_number (aCons (eVar 0) aNil))) sNil) t_read_signed_2)
def f_read_signed : FF := fnM 2 b_read_signed
def c_read_verdict_1 : EF := (eFn 1 f_read_signed (aCons (eVar 3) aNil))
def t_read_verdict_1 : SF := (sSeq (sIf (bOr (bOf (eOp gNe2 (eOpL gIx 1 (eC (.int 0))) (eC (.str "found")))) (bOr (bOf (eOp gEq2 (eCallV gLen 2) (eC (.int 0)))) (bOf (eOpR (gIn3 false) (eC .non) 2)))) (sRet (eC .non)) sNil) (sRet (eTup (aCons (eC (.str "found")) (aCons (eCallV gTuple 2) aNil)))))
@[simp] theorem t_read_verdict_1_ap {S : Ms} : t_read_verdict_1 S = (sSeq (sIf (bOr (bOf (eOp gNe2 (eOpL gIx 1 (eC (.int 0))) (eC (.str "found")))) (bOr (bOf (eOp gEq2 (eCallV gLen 2) (eC (.int 0)))) (bOf (eOpR (gIn3 false) (eC .non) 2)))) (sRet (eC .non)) sNil) (sRet (eTup (aCons (eC (.str "found")) (aCons (eCallV gTuple 2) aNil))))) S := rfl
def t_read_verdict_2 : SF := (sSeq (sAsg (eNew (cLc (iSeq (eSl3 (eVar 1) (oSome (eC (.int 1))) oNone)) (gNm 3) bYes c_read_verdict_1 [3])) (gNm 2)) t_read_verdict_1)
@[simp] theorem t_read_verdict_2_ap {S : Ms} : t_read_verdict_2 S = (sSeq (sAsg (eNew (cLc (iSeq (eSl3 (eVar 1) (oSome (eC (.int 1))) oNone)) (gNm 3) bYes c_read_verdict_1 [3])) (gNm 2)) t_read_verdict_1) S := rfl
def t_read_verdict_3 : SF := (sSeq (sAsg (eNew (cSplit (eVar 0) (eC (.str " ")))) (gNm 1)) t_read_verdict_2)
@[simp] theorem t_read_verdict_3_ap {S : Ms} : t_read_verdict_3 S = (sSeq (sAsg (eNew (cSplit (eVar 0) (eC (.str " ")))) (gNm 1)) t_read_verdict_2) S := rfl
def b_read_verdict : SF := (sSeq (sIf (bOf (eOp gEq2 (eVar 0) (eC (.str "none")))) (sRet (eTup (aCons (eC (.str "none")) aNil))) sNil) t_read_verdict_3)
def f_read_verdict : FF := fnM 4 b_read_verdict
def c_read_token_1 : EF := (eFn 1 f_read_numbers (aCons (eNew (cSplit (eVar 4) (eC (.str ",")))) aNil))
def t_read_token_1 : SF := (sSeq (sAsg (eNew (cLc (iSeq (eSl3 (eVar 1) (oSome (eC (.int 1))) oNone)) (gNm 4) bYes c_read_token_1 [4])) (gNm 3)) (sRet (eIf (bOf (eOpR (gIn3 false) (eC .non) 3)) (eC .non) (eTup (aCons (eC (.str "met")) (aCons (eCallV gTuple 3) aNil))))))
@[simp] theorem t_read_token_1_ap {S : Ms} : t_read_token_1 S = (sSeq (sAsg (eNew (cLc (iSeq (eSl3 (eVar 1) (oSome (eC (.int 1))) oNone)) (gNm 4) bYes c_read_token_1 [4])) (gNm 3)) (sRet (eIf (bOf (eOpR (gIn3 false) (eC .non) 3)) (eC .non) (eTup (aCons (eC (.str "met")) (aCons (eCallV gTuple 3) aNil)))))) S := rfl
def t_read_token_2 : SF := (sSeq (sIf (bOr (bOf (eOp gNe2 (eOpL gIx 1 (eC (.int 0))) (eC (.str "met")))) (bOf (eOp gEq2 (eCallV gLen 1) (eC (.int 1))))) (sRet (eC .non)) sNil) t_read_token_1)
@[simp] theorem t_read_token_2_ap {S : Ms} : t_read_token_2 S = (sSeq (sIf (bOr (bOf (eOp gNe2 (eOpL gIx 1 (eC (.int 0))) (eC (.str "met")))) (bOf (eOp gEq2 (eCallV gLen 1) (eC (.int 1))))) (sRet (eC .non)) sNil) t_read_token_1) S := rfl
def t_read_token_3 : SF := (sSeq (sIf (bOf (eOp gEq2 (eOpL gIx 1 (eC (.int 0))) (eC (.str "dead")))) (sSeq (sAsg (eFn 1 f_read_numbers (aCons (eSl3 (eVar 1) (oSome (eC (.int 1))) oNone) aNil)) (gNm 2)) (sRet (eIf (bOf (eOp gIsN (eVar 2) (eC .non))) (eC .non) (eTup (aCons (eC (.str "dead")) (aCons (eVar 2) aNil)))))) sNil) t_read_token_2)
@[simp] theorem t_read_token_3_ap {S : Ms} : t_read_token_3 S = (sSeq (sIf (bOf (eOp gEq2 (eOpL gIx 1 (eC (.int 0))) (eC (.str "dead")))) (sSeq (sAsg (eFn 1 f_read_numbers (aCons (eSl3 (eVar 1) (oSome (eC (.int 1))) oNone) aNil)) (gNm 2)) (sRet (eIf (bOf (eOp gIsN (eVar 2) (eC .non))) (eC .non) (eTup (aCons (eC (.str "dead")) (aCons (eVar 2) aNil)))))) sNil) t_read_token_2) S := rfl
def t_read_token_4 : SF := (sSeq (sAsg (eNew (cSplit (eVar 0) (eC (.str " ")))) (gNm 1)) t_read_token_3)
@[simp] theorem t_read_token_4_ap {S : Ms} : t_read_token_4 S = (sSeq (sAsg (eNew (cSplit (eVar 0) (eC (.str " ")))) (gNm 1)) t_read_token_3) S := rfl
def b_read_token : SF := (sSeq (sIf (bOr (bOf (eOp gEq2 (eVar 0) (eC (.str "on")))) (bOf (eOp gEq2 (eVar 0) (eC (.str "over"))))) (sRet (eTup (aCons (eVar 0) aNil))) sNil) t_read_token_4)
def f_read_token : FF := fnM 5 b_read_token
def t_read_block_1 : XF := (xSeq (xIf (bOf (eOp gGt (eOp gAdd (eOp gAdd (eVar 1) (eC (.int 1))) (eVar 4)) (eCallV gLen 0))) (xRaiseRow 4 (aCons (eOp gAdd (eCallV gLen 0) (eC (.int 1))) aNil)) xNil) (xL (sRet (eJoin (eC (.str "\n")) (eSl3 (eVar 0) (oSome (eOp gAdd (eVar 1) (eC (.int 1)))) (oSome (eOp gAdd (eOp gAdd (eVar 1) (eC (.int 1))) (eVar 4))))))))
@[simp] theorem t_read_block_1_ap {S : Ms} : t_read_block_1 S = (xSeq (xIf (bOf (eOp gGt (eOp gAdd (eOp gAdd (eVar 1) (eC (.int 1))) (eVar 4)) (eCallV gLen 0))) (xRaiseRow 4 (aCons (eOp gAdd (eCallV gLen 0) (eC (.int 1))) aNil)) xNil) (xL (sRet (eJoin (eC (.str "\n")) (eSl3 (eVar 0) (oSome (eOp gAdd (eVar 1) (eC (.int 1)))) (oSome (eOp gAdd (eOp gAdd (eVar 1) (eC (.int 1))) (eVar 4)))))))) S := rfl
def t_read_block_2 : XF := (xSeq (xIf (bOr (bOf (eOp gIsN (eVar 4) (eC .non))) (bOf (eOp gEq2 (eVar 4) (eC (.int 0))))) (xRaiseRow 4 (aCons (eOp gAdd (eVar 1) (eC (.int 1))) aNil)) xNil) t_read_block_1)
@[simp] theorem t_read_block_2_ap {S : Ms} : t_read_block_2 S = (xSeq (xIf (bOr (bOf (eOp gIsN (eVar 4) (eC .non))) (bOf (eOp gEq2 (eVar 4) (eC (.int 0))))) (xRaiseRow 4 (aCons (eOp gAdd (eVar 1) (eC (.int 1))) aNil)) xNil) t_read_block_1) S := rfl
def t_read_block_3 : XF := (xSeq (xL (sAsg (eIf (bAnd (bOf (eOp gEq2 (eCallV gLen 3) (eC (.int 2)))) (bOf (eOp gEq2 (eOpL gIx 3 (eC (.int 0))) (eVar 2)))) (eFn 1 f_read_number (aCons (eOpL gIx 3 (eC (.int 1))) aNil)) (eC .non)) (gNm 4))) t_read_block_2)
@[simp] theorem t_read_block_3_ap {S : Ms} : t_read_block_3 S = (xSeq (xL (sAsg (eIf (bAnd (bOf (eOp gEq2 (eCallV gLen 3) (eC (.int 2)))) (bOf (eOp gEq2 (eOpL gIx 3 (eC (.int 0))) (eVar 2)))) (eFn 1 f_read_number (aCons (eOpL gIx 3 (eC (.int 1))) aNil)) (eC .non)) (gNm 4))) t_read_block_2) S := rfl
def t_read_block_4 : XF := (xSeq (xL (sAsg (eNew (cSplit (eOpL gIx 0 (eVar 1)) (eC (.str " ")))) (gNm 3))) t_read_block_3)
@[simp] theorem t_read_block_4_ap {S : Ms} : t_read_block_4 S = (xSeq (xL (sAsg (eNew (cSplit (eOpL gIx 0 (eVar 1)) (eC (.str " ")))) (gNm 3))) t_read_block_3) S := rfl
def b_read_block : XF := (xSeq (xIf (bOf (eOp gGe (eVar 1) (eCallV gLen 0))) (xRaiseRow 4 (aCons (eOp gAdd (eCallV gLen 0) (eC (.int 1))) aNil)) xNil) t_read_block_4)
def f_read_block : FX := fnX 5 b_read_block
def l_read_paper_1 (ca : Nat → Addr) : XF := (xSeq (xL (sAsg (eFn 1 f_read_token (aCons (eOpL gIx 1 (eVar 8)) aNil)) (gNm 9))) (xSeq (xIf (bOf (eOp gIsN (eVar 9) (eC .non))) (xRaiseRow 4 (aCons (eOp gAdd (eVar 8) (eC (.int 1))) aNil)) xNil) (xL (sExpr (eApp 7 (eVar 9))))))
def t_read_paper_1 (ca : Nat → Addr) : XF := (xSeq (xIf (bOf (eOp gEq2 (eCallV gLen 7) (eC (.int 0)))) (xRaiseRow 4 (aCons (eOp gAdd (eCallV gLen 1) (eC (.int 1))) aNil)) xNil) (xL (sRet (eMake (ca 11) 5 (f_Paper___init__ ca) (aCons (eVar 2) (aCons (eVar 4) (aCons (eVar 6) (aCons (eCallV gTuple 7) aNil))))))))
@[simp] theorem t_read_paper_1_ap {ca : Nat → Addr} {S : Ms} : t_read_paper_1 ca S = (xSeq (xIf (bOf (eOp gEq2 (eCallV gLen 7) (eC (.int 0)))) (xRaiseRow 4 (aCons (eOp gAdd (eCallV gLen 1) (eC (.int 1))) aNil)) xNil) (xL (sRet (eMake (ca 11) 5 (f_Paper___init__ ca) (aCons (eVar 2) (aCons (eVar 4) (aCons (eVar 6) (aCons (eCallV gTuple 7) aNil)))))))) S := rfl
def t_read_paper_2 (ca : Nat → Addr) : XF := (xSeq (xFor (iRg2 (eOp gAdd (eVar 3) (eC (.int 1))) (eCallV gLen 1)) (gNm 8) (l_read_paper_1 ca)) (t_read_paper_1 ca))
@[simp] theorem t_read_paper_2_ap {ca : Nat → Addr} {S : Ms} : t_read_paper_2 ca S = (xSeq (xFor (iRg2 (eOp gAdd (eVar 3) (eC (.int 1))) (eCallV gLen 1)) (gNm 8) (l_read_paper_1 ca)) (t_read_paper_1 ca)) S := rfl
def t_read_paper_3 (ca : Nat → Addr) : XF := (xSeq (xL (sOwn 7 (cLst aNil))) (t_read_paper_2 ca))
@[simp] theorem t_read_paper_3_ap {ca : Nat → Addr} {S : Ms} : t_read_paper_3 ca S = (xSeq (xL (sOwn 7 (cLst aNil))) (t_read_paper_2 ca)) S := rfl
def t_read_paper_4 (ca : Nat → Addr) : XF := (xSeq (xIf (bOf (eOp gIsN (eVar 6) (eC .non))) (xRaiseRow 4 (aCons (eOp gAdd (eVar 3) (eC (.int 1))) aNil)) xNil) (t_read_paper_3 ca))
@[simp] theorem t_read_paper_4_ap {ca : Nat → Addr} {S : Ms} : t_read_paper_4 ca S = (xSeq (xIf (bOf (eOp gIsN (eVar 6) (eC .non))) (xRaiseRow 4 (aCons (eOp gAdd (eVar 3) (eC (.int 1))) aNil)) xNil) (t_read_paper_3 ca)) S := rfl
def t_read_paper_5 (ca : Nat → Addr) : XF := (xSeq (xL (sAsg (eFn 1 f_read_verdict (aCons (eOpL gIx 1 (eVar 3)) aNil)) (gNm 6))) (t_read_paper_4 ca))
@[simp] theorem t_read_paper_5_ap {ca : Nat → Addr} {S : Ms} : t_read_paper_5 ca S = (xSeq (xL (sAsg (eFn 1 f_read_verdict (aCons (eOpL gIx 1 (eVar 3)) aNil)) (gNm 6))) (t_read_paper_4 ca)) S := rfl
def t_read_paper_6 (ca : Nat → Addr) : XF := (xSeq (xIf (bOf (eOp gGe (eVar 3) (eCallV gLen 1))) (xRaiseRow 4 (aCons (eOp gAdd (eCallV gLen 1) (eC (.int 1))) aNil)) xNil) (t_read_paper_5 ca))
@[simp] theorem t_read_paper_6_ap {ca : Nat → Addr} {S : Ms} : t_read_paper_6 ca S = (xSeq (xIf (bOf (eOp gGe (eVar 3) (eCallV gLen 1))) (xRaiseRow 4 (aCons (eOp gAdd (eCallV gLen 1) (eC (.int 1))) aNil)) xNil) (t_read_paper_5 ca)) S := rfl
def t_read_paper_7 (ca : Nat → Addr) : XF := (xSeq (xIf (bAnd (bOf (eOp gLt (eVar 3) (eCallV gLen 1))) (bOf (eOp gEq2 (eSl3 (eOpL gIx 1 (eVar 3)) oNone (oSome (eC (.int 6)))) (eC (.str "place "))))) (xSeq (xL (sAsg (eTup (aCons (eC (.str "place")) (aCons (eSl3 (eOpL gIx 1 (eVar 3)) (oSome (eC (.int 6))) oNone) aNil))) (gNm 4))) (xL (sAsg (eOp gAdd (eVar 3) (eC (.int 1))) (gNm 3)))) (xSeq (xAsg (xFn 3 f_read_block (aCons (eVar 1) (aCons (eVar 3) (aCons (eC (.str "apart")) aNil)))) (gNm 5)) (xSeq (xL (sAsg (eTup (aCons (eC (.str "apart")) (aCons (eVar 5) aNil))) (gNm 4))) (xL (sAsg (eOp gAdd (eOp gAdd (eVar 3) (eC (.int 1))) (eCall gLen (eNew (cSplit (eVar 5) (eC (.str "\n")))))) (gNm 3)))))) (t_read_paper_6 ca))
@[simp] theorem t_read_paper_7_ap {ca : Nat → Addr} {S : Ms} : t_read_paper_7 ca S = (xSeq (xIf (bAnd (bOf (eOp gLt (eVar 3) (eCallV gLen 1))) (bOf (eOp gEq2 (eSl3 (eOpL gIx 1 (eVar 3)) oNone (oSome (eC (.int 6)))) (eC (.str "place "))))) (xSeq (xL (sAsg (eTup (aCons (eC (.str "place")) (aCons (eSl3 (eOpL gIx 1 (eVar 3)) (oSome (eC (.int 6))) oNone) aNil))) (gNm 4))) (xL (sAsg (eOp gAdd (eVar 3) (eC (.int 1))) (gNm 3)))) (xSeq (xAsg (xFn 3 f_read_block (aCons (eVar 1) (aCons (eVar 3) (aCons (eC (.str "apart")) aNil)))) (gNm 5)) (xSeq (xL (sAsg (eTup (aCons (eC (.str "apart")) (aCons (eVar 5) aNil))) (gNm 4))) (xL (sAsg (eOp gAdd (eOp gAdd (eVar 3) (eC (.int 1))) (eCall gLen (eNew (cSplit (eVar 5) (eC (.str "\n")))))) (gNm 3)))))) (t_read_paper_6 ca)) S := rfl
def t_read_paper_8 (ca : Nat → Addr) : XF := (xSeq (xL (sAsg (eOp gAdd (eC (.int 1)) (eCall gLen (eNew (cSplit (eVar 2) (eC (.str "\n")))))) (gNm 3))) (t_read_paper_7 ca))
@[simp] theorem t_read_paper_8_ap {ca : Nat → Addr} {S : Ms} : t_read_paper_8 ca S = (xSeq (xL (sAsg (eOp gAdd (eC (.int 1)) (eCall gLen (eNew (cSplit (eVar 2) (eC (.str "\n")))))) (gNm 3))) (t_read_paper_7 ca)) S := rfl
def t_read_paper_9 (ca : Nat → Addr) : XF := (xSeq (xAsg (xFn 3 f_read_block (aCons (eVar 1) (aCons (eC (.int 0)) (aCons (eC (.str "text")) aNil)))) (gNm 2)) (t_read_paper_8 ca))
@[simp] theorem t_read_paper_9_ap {ca : Nat → Addr} {S : Ms} : t_read_paper_9 ca S = (xSeq (xAsg (xFn 3 f_read_block (aCons (eVar 1) (aCons (eC (.int 0)) (aCons (eC (.str "text")) aNil)))) (gNm 2)) (t_read_paper_8 ca)) S := rfl
def b_read_paper (ca : Nat → Addr) : XF := (xSeq (xL (sAsg (eNew (cSplit (eVar 0) (eC (.str "\n")))) (gNm 1))) (t_read_paper_9 ca))
def f_read_paper (ca : Nat → Addr) : FX := fnX 10 (b_read_paper ca)
def b_law_cell : SF := (sSeq (sIf (bOf (eOp gGt (eCallV gLen 0) (eC (.int 0)))) (sRet (eOpL gIx 0 (eOp gMod (eCallV gInt3 1) (eCallV gLen 0)))) sNil) (sRet (eC (.int 0))))
def f_law_cell : FF := fnM 2 b_law_cell
def t_law_draws_1 : SF := (sSeq (sAsg (eOp gMod (eCall gInt3 (eOp gAdd (eOp gAdd (eOp gMul3 (eVar 9) (eC (.int 69621))) (eOp gMul3 (eVar 8) (eC (.int 16807)))) (eVar 7))) (eOpL gIx 3 (eOp gMod (eOp gAdd (eVar 7) (eC (.int 5))) (eC (.int 8))))) (gNm 9)) (sExpr (eApp 6 (eOp gMod (eCall gInt3 (eOp gDiv (eVar 9) (eC (.int 16)))) (eOpL gIx 2 (eVar 7))))))
@[simp] theorem t_law_draws_1_ap {S : Ms} : t_law_draws_1 S = (sSeq (sAsg (eOp gMod (eCall gInt3 (eOp gAdd (eOp gAdd (eOp gMul3 (eVar 9) (eC (.int 69621))) (eOp gMul3 (eVar 8) (eC (.int 16807)))) (eVar 7))) (eOpL gIx 3 (eOp gMod (eOp gAdd (eVar 7) (eC (.int 5))) (eC (.int 8))))) (gNm 9)) (sExpr (eApp 6 (eOp gMod (eCall gInt3 (eOp gDiv (eVar 9) (eC (.int 16)))) (eOpL gIx 2 (eVar 7)))))) S := rfl
def t_law_draws_2 : SF := (sSeq (sAsg (eOp gMod (eCall gInt3 (eOp gAdd (eOp gAdd (eOp gMul3 (eVar 8) (eVar 8)) (eOp gMul3 (eC (.int 16807)) (eVar 7))) (eVar 1))) (eOpL gIx 3 (eOp gMod (eOp gAdd (eVar 7) (eC (.int 3))) (eC (.int 8))))) (gNm 9)) t_law_draws_1)
@[simp] theorem t_law_draws_2_ap {S : Ms} : t_law_draws_2 S = (sSeq (sAsg (eOp gMod (eCall gInt3 (eOp gAdd (eOp gAdd (eOp gMul3 (eVar 8) (eVar 8)) (eOp gMul3 (eC (.int 16807)) (eVar 7))) (eVar 1))) (eOpL gIx 3 (eOp gMod (eOp gAdd (eVar 7) (eC (.int 3))) (eC (.int 8))))) (gNm 9)) t_law_draws_1) S := rfl
def l_law_draws_1 : SF := (sIf (bOf (eOp gGt (eVar 5) (eC (.int 0)))) (sSeq (sExpr (eApp 6 (eOp gMod (eCallV gInt3 5) (eOpL gIx 2 (eVar 7))))) (sAsg (eOp gDiv (eVar 5) (eOpL gIx 2 (eVar 7))) (gNm 5))) (sSeq (sAsg (eOp gMod (eCall gInt3 (eOp gAdd (eOp gMul3 (eOp gAdd (eOp gAdd (eOp gAdd (eVar 4) (eC (.int 1))) (eOp gMul3 (eC (.int 31)) (eVar 1))) (eVar 7)) (eC (.int 48271))) (eOp gMul3 (eC (.int 69621)) (eVar 7)))) (eOpL gIx 3 (eOp gMod (eVar 7) (eC (.int 8))))) (gNm 8)) t_law_draws_2))
def t_law_draws_3 : SF := (sSeq (sFor (iRg1 (eCallV gLen 2)) (gNm 7) l_law_draws_1) (sRet (eVar 6)))
@[simp] theorem t_law_draws_3_ap {S : Ms} : t_law_draws_3 S = (sSeq (sFor (iRg1 (eCallV gLen 2)) (gNm 7) l_law_draws_1) (sRet (eVar 6))) S := rfl
def t_law_draws_4 : SF := (sSeq (sOwn 6 (cLst aNil)) t_law_draws_3)
@[simp] theorem t_law_draws_4_ap {S : Ms} : t_law_draws_4 S = (sSeq (sOwn 6 (cLst aNil)) t_law_draws_3) S := rfl
def t_law_draws_5 : SF := (sSeq (sIf (bOf (eOp gGe (eVar 4) (eOp gPow (eC (.int 10)) (eC (.int 18))))) (sAsg (eVar 4) (gNm 5)) sNil) t_law_draws_4)
@[simp] theorem t_law_draws_5_ap {S : Ms} : t_law_draws_5 S = (sSeq (sIf (bOf (eOp gGe (eVar 4) (eOp gPow (eC (.int 10)) (eC (.int 18))))) (sAsg (eVar 4) (gNm 5)) sNil) t_law_draws_4) S := rfl
def t_law_draws_6 : SF := (sSeq (sAsg (eC (.int 0)) (gNm 5)) t_law_draws_5)
@[simp] theorem t_law_draws_6_ap {S : Ms} : t_law_draws_6 S = (sSeq (sAsg (eC (.int 0)) (gNm 5)) t_law_draws_5) S := rfl
def t_law_draws_7 : SF := (sSeq (sAsg (eCall gAbs (eFn 2 f_law_cell (aCons (eVar 0) (aCons (eVar 1) aNil)))) (gNm 4)) t_law_draws_6)
@[simp] theorem t_law_draws_7_ap {S : Ms} : t_law_draws_7 S = (sSeq (sAsg (eCall gAbs (eFn 2 f_law_cell (aCons (eVar 0) (aCons (eVar 1) aNil)))) (gNm 4)) t_law_draws_6) S := rfl
def b_law_draws : SF := (sSeq (sAsg (eNew (cLst (aCons (eC (.int 2147483647)) (aCons (eC (.int 998244353)) (aCons (eC (.int 1000000007)) (aCons (eC (.int 1000000009)) (aCons (eC (.int 4294967291)) (aCons (eC (.int 1073741789)) (aCons (eC (.int 536870909)) (aCons (eC (.int 2305843009213693951)) aNil)))))))))) (gNm 3)) t_law_draws_7)
def f_law_draws : FF := fnM 10 b_law_draws
def l_law_row_1 : SF := (sSeq (sAsg (eOp gAdd (eVar 4) (eOpL gIx 2 (eOp gMod (eCallV gInt3 3) (eCallV gLen 2)))) (gNm 4)) (sAsg (eOp gDiv (eVar 3) (eCallV gLen 2)) (gNm 3)))
def t_law_row_1 : SF := (sSeq (sFor (iRg1 (eOp gMod (eCall gInt3 (eOpL gIx 0 (eC (.int 0)))) (eC (.int 12)))) (gNm 5) l_law_row_1) (sRet (eVar 4)))
@[simp] theorem t_law_row_1_ap {S : Ms} : t_law_row_1 S = (sSeq (sFor (iRg1 (eOp gMod (eCall gInt3 (eOpL gIx 0 (eC (.int 0)))) (eC (.int 12)))) (gNm 5) l_law_row_1) (sRet (eVar 4))) S := rfl
def t_law_row_2 : SF := (sSeq (sAsg (eC (.str "")) (gNm 4)) t_law_row_1)
@[simp] theorem t_law_row_2_ap {S : Ms} : t_law_row_2 S = (sSeq (sAsg (eC (.str "")) (gNm 4)) t_law_row_1) S := rfl
def t_law_row_3 : SF := (sSeq (sAsg (eOpL gIx 0 (eC (.int 1))) (gNm 3)) t_law_row_2)
@[simp] theorem t_law_row_3_ap {S : Ms} : t_law_row_3 S = (sSeq (sAsg (eOpL gIx 0 (eC (.int 1))) (gNm 3)) t_law_row_2) S := rfl
def t_law_row_4 : SF := (sSeq (sAsg (eC (.str "abcdefghijklmnopqrstuvwxyz 0123456789<>=!+-()[],:;._~#&*/?@ABCXYZ")) (gNm 2)) t_law_row_3)
@[simp] theorem t_law_row_4_ap {S : Ms} : t_law_row_4 S = (sSeq (sAsg (eC (.str "abcdefghijklmnopqrstuvwxyz 0123456789<>=!+-()[],:;._~#&*/?@ABCXYZ")) (gNm 2)) t_law_row_3) S := rfl
def t_law_row_5 : SF := (sSeq (sIf (bOf (eOp gLt (eOpL gIx 0 (eC (.int 0))) (eC (.int 24)))) (sRet (eOpL gIx 1 (eOp gDiv (eOpL gIx 0 (eC (.int 0))) (eC (.int 2))))) sNil) t_law_row_4)
@[simp] theorem t_law_row_5_ap {S : Ms} : t_law_row_5 S = (sSeq (sIf (bOf (eOp gLt (eOpL gIx 0 (eC (.int 0))) (eC (.int 24)))) (sRet (eOpL gIx 1 (eOp gDiv (eOpL gIx 0 (eC (.int 0))) (eC (.int 2))))) sNil) t_law_row_4) S := rfl
def b_law_row : SF := (sSeq (sAsg (eNew (cLst (aCons (eC (.str "on")) (aCons (eC (.str "none")) (aCons (eC (.str "found 1")) (aCons (eC (.str "place row 1")) (aCons (eC (.str "text 2")) (aCons (eC (.str "over")) (aCons (eC (.str "dead 1")) (aCons (eC (.str "met 1,2")) (aCons (eC (.str "apart 1")) (aCons (eC (.str "")) (aCons (eC (.str " ")) (aCons (eC (.str "end")) aNil)))))))))))))) (gNm 1)) t_law_row_5)
def f_law_row : FF := fnM 6 b_law_row
def l_law_rows_1 : SF := (sExpr (eApp 3 (eFn 1 f_law_row (aCons (eFn 3 f_law_draws (aCons (eVar 0) (aCons (eOp gAdd (eVar 1) (eVar 4)) (aCons (eNew (cLst (aCons (eC (.int 60)) (aCons (eOp gPow (eC (.int 10)) (eC (.int 24))) aNil)))) aNil)))) aNil))))
def b_law_rows : SF := (sSeq (sOwn 3 (cLst aNil)) (sSeq (sFor (iRg1 (eVar 2)) (gNm 4) l_law_rows_1) (sRet (eVar 3))))
def f_law_rows : FF := fnM 5 b_law_rows
def b_law_number : SF := (sSeq (sIf (bOf (eOp gEq2 (eOp gMod (eCallV gInt3 0) (eC (.int 7))) (eC (.int 0)))) (sRet (eOp gMod (eCall gInt3 (eOp gDiv (eVar 0) (eC (.int 7)))) (eOp gPow (eC (.int 10)) (eC (.int 12))))) sNil) (sSeq (sIf (bOf (eOp gEq2 (eOp gMod (eCallV gInt3 0) (eC (.int 7))) (eC (.int 1)))) (sRet (eOp gSub (eOp gPow (eC (.int 10)) (eC (.int 12))) (eC (.int 1)))) sNil) (sRet (eOp gMod (eCall gInt3 (eOp gDiv (eVar 0) (eC (.int 7)))) (eC (.int 12))))))
def f_law_number : FF := fnM 1 b_law_number
def c_law_numbers_1 : EF := (eFn 1 f_law_number (aCons (eVar 1) aNil))
def b_law_numbers : SF := (sRet (eCall gTuple (eNew (cLc (iSeq (eSl3 (eVar 0) (oSome (eC (.int 1))) (oSome (eOp gAdd (eC (.int 2)) (eOp gMod (eCall gInt3 (eOpL gIx 0 (eC (.int 0)))) (eOp gSub (eCallV gLen 0) (eC (.int 1)))))))) (gNm 1) bYes c_law_numbers_1 [1]))))
def f_law_numbers : FF := fnM 2 b_law_numbers
def c_law_token_1 : EF := (eOp gMul3 (eC (.int 7)) (eOp gPow (eC (.int 10)) (eC (.int 12))))
def c_law_token_2 : EF := (eFn 1 f_law_numbers (aCons (eSl3 (eVar 2) (oSome (eOp gAdd (eC (.int 10)) (eOp gMul3 (eC (.int 5)) (eVar 4)))) (oSome (eOp gAdd (eC (.int 15)) (eOp gMul3 (eC (.int 5)) (eVar 4))))) aNil))
def t_law_token_1 : SF := (sSeq (sAsg (eNew (cLc (iRg1 (eOp gAdd (eC (.int 1)) (eOpL gIx 2 (eC (.int 1))))) (gNm 4) bYes c_law_token_2 [4])) (gNm 3)) (sRet (eTup (aCons (eC (.str "met")) (aCons (eCallV gTuple 3) aNil)))))
@[simp] theorem t_law_token_1_ap {S : Ms} : t_law_token_1 S = (sSeq (sAsg (eNew (cLc (iRg1 (eOp gAdd (eC (.int 1)) (eOpL gIx 2 (eC (.int 1))))) (gNm 4) bYes c_law_token_2 [4])) (gNm 3)) (sRet (eTup (aCons (eC (.str "met")) (aCons (eCallV gTuple 3) aNil))))) S := rfl
def t_law_token_2 : SF := (sSeq (sIf (bOf (eOp gEq2 (eOpL gIx 2 (eC (.int 0))) (eC (.int 2)))) (sRet (eTup (aCons (eC (.str "dead")) (aCons (eFn 1 f_law_numbers (aCons (eSl3 (eVar 2) (oSome (eC (.int 2))) (oSome (eC (.int 10)))) aNil)) aNil)))) sNil) t_law_token_1)
@[simp] theorem t_law_token_2_ap {S : Ms} : t_law_token_2 S = (sSeq (sIf (bOf (eOp gEq2 (eOpL gIx 2 (eC (.int 0))) (eC (.int 2)))) (sRet (eTup (aCons (eC (.str "dead")) (aCons (eFn 1 f_law_numbers (aCons (eSl3 (eVar 2) (oSome (eC (.int 2))) (oSome (eC (.int 10)))) aNil)) aNil)))) sNil) t_law_token_1) S := rfl
def t_law_token_3 : SF := (sSeq (sIf (bOf (eOp gEq2 (eOpL gIx 2 (eC (.int 0))) (eC (.int 1)))) (sRet (eTup (aCons (eC (.str "over")) aNil))) sNil) t_law_token_2)
@[simp] theorem t_law_token_3_ap {S : Ms} : t_law_token_3 S = (sSeq (sIf (bOf (eOp gEq2 (eOpL gIx 2 (eC (.int 0))) (eC (.int 1)))) (sRet (eTup (aCons (eC (.str "over")) aNil))) sNil) t_law_token_2) S := rfl
def t_law_token_4 : SF := (sSeq (sIf (bOf (eOp gEq2 (eOpL gIx 2 (eC (.int 0))) (eC (.int 0)))) (sRet (eTup (aCons (eC (.str "on")) aNil))) sNil) t_law_token_3)
@[simp] theorem t_law_token_4_ap {S : Ms} : t_law_token_4 S = (sSeq (sIf (bOf (eOp gEq2 (eOpL gIx 2 (eC (.int 0))) (eC (.int 0)))) (sRet (eTup (aCons (eC (.str "on")) aNil))) sNil) t_law_token_3) S := rfl
def b_law_token : SF := (sSeq (sAsg (eFn 3 f_law_draws (aCons (eVar 0) (aCons (eVar 1) (aCons (eOp gAdd (eNew (cLst (aCons (eC (.int 5)) (aCons (eC (.int 6)) aNil)))) (eNew (cLc (iRg1 (eC (.int 38))) (gNm 4) bYes c_law_token_1 [4]))) aNil)))) (gNm 2)) t_law_token_4)
def f_law_token : FF := fnM 5 b_law_token
def c_law_parts_1 : EF := (eC (.int 2))
def c_law_parts_2 : EF := (eOp gMul3 (eC (.int 7)) (eOp gPow (eC (.int 10)) (eC (.int 12))))
def c_law_parts_3 : EF := (eOp gMul3 (eOp gSub (eC (.int 1)) (eOp gMul3 (eC (.int 2)) (eOpL gIx 5 (eVar 7)))) (eFn 1 f_law_number (aCons (eOpL gIx 5 (eOp gAdd (eC (.int 6)) (eVar 7))) aNil)))
def c_law_parts_4 : EF := (eFn 2 f_law_token (aCons (eVar 0) (aCons (eOp gAdd (eC (.int 11)) (eVar 7)) aNil)))
def t_law_parts_1 : SF := (sSeq (sAsg (eOp gAdd (eC (.int 1)) (eOpL gIx 1 (eC (.int 5)))) (gNm 6)) (sRet (eTup (aCons (eVar 2) (aCons (eVar 3) (aCons (eVar 4) (aCons (eCall gTuple (eNew (cLc (iRg1 (eVar 6)) (gNm 7) bYes c_law_parts_4 [7]))) aNil)))))))
@[simp] theorem t_law_parts_1_ap {S : Ms} : t_law_parts_1 S = (sSeq (sAsg (eOp gAdd (eC (.int 1)) (eOpL gIx 1 (eC (.int 5)))) (gNm 6)) (sRet (eTup (aCons (eVar 2) (aCons (eVar 3) (aCons (eVar 4) (aCons (eCall gTuple (eNew (cLc (iRg1 (eVar 6)) (gNm 7) bYes c_law_parts_4 [7]))) aNil))))))) S := rfl
def t_law_parts_2 : SF := (sSeq (sIf (bOf (eOp gEq2 (eOpL gIx 1 (eC (.int 3))) (eC (.int 0)))) (sSeq (sAsg (eFn 3 f_law_draws (aCons (eVar 0) (aCons (eC (.int 10)) (aCons (eOp gAdd (eNew (cLc (iRg1 (eC (.int 6))) (gNm 7) bYes c_law_parts_1 [7])) (eNew (cLc (iRg1 (eC (.int 6))) (gNm 7) bYes c_law_parts_2 [7]))) aNil)))) (gNm 5)) (sAsg (eTup (aCons (eC (.str "found")) (aCons (eCall gTuple (eNew (cLc (iRg1 (eOp gAdd (eC (.int 1)) (eOpL gIx 1 (eC (.int 4))))) (gNm 7) bYes c_law_parts_3 [7]))) aNil))) (gNm 4))) sNil) t_law_parts_1)
@[simp] theorem t_law_parts_2_ap {S : Ms} : t_law_parts_2 S = (sSeq (sIf (bOf (eOp gEq2 (eOpL gIx 1 (eC (.int 3))) (eC (.int 0)))) (sSeq (sAsg (eFn 3 f_law_draws (aCons (eVar 0) (aCons (eC (.int 10)) (aCons (eOp gAdd (eNew (cLc (iRg1 (eC (.int 6))) (gNm 7) bYes c_law_parts_1 [7])) (eNew (cLc (iRg1 (eC (.int 6))) (gNm 7) bYes c_law_parts_2 [7]))) aNil)))) (gNm 5)) (sAsg (eTup (aCons (eC (.str "found")) (aCons (eCall gTuple (eNew (cLc (iRg1 (eOp gAdd (eC (.int 1)) (eOpL gIx 1 (eC (.int 4))))) (gNm 7) bYes c_law_parts_3 [7]))) aNil))) (gNm 4))) sNil) t_law_parts_1) S := rfl
def t_law_parts_3 : SF := (sSeq (sAsg (eTup (aCons (eC (.str "none")) aNil)) (gNm 4)) t_law_parts_2)
@[simp] theorem t_law_parts_3_ap {S : Ms} : t_law_parts_3 S = (sSeq (sAsg (eTup (aCons (eC (.str "none")) aNil)) (gNm 4)) t_law_parts_2) S := rfl
def t_law_parts_4 : SF := (sSeq (sIf (bOf (eOp gEq2 (eOpL gIx 1 (eC (.int 1))) (eC (.int 0)))) (sAsg (eTup (aCons (eC (.str "apart")) (aCons (eJoin (eC (.str "\n")) (eFn 3 f_law_rows (aCons (eVar 0) (aCons (eC (.int 6)) (aCons (eOp gAdd (eC (.int 1)) (eOpL gIx 1 (eC (.int 2)))) aNil))))) aNil))) (gNm 3)) sNil) t_law_parts_3)
@[simp] theorem t_law_parts_4_ap {S : Ms} : t_law_parts_4 S = (sSeq (sIf (bOf (eOp gEq2 (eOpL gIx 1 (eC (.int 1))) (eC (.int 0)))) (sAsg (eTup (aCons (eC (.str "apart")) (aCons (eJoin (eC (.str "\n")) (eFn 3 f_law_rows (aCons (eVar 0) (aCons (eC (.int 6)) (aCons (eOp gAdd (eC (.int 1)) (eOpL gIx 1 (eC (.int 2)))) aNil))))) aNil))) (gNm 3)) sNil) t_law_parts_3) S := rfl
def t_law_parts_5 : SF := (sSeq (sIf (bOf (eOp gEq2 (eOpL gIx 1 (eC (.int 7))) (eC (.int 0)))) (sAsg (eTup (aCons (eC (.str "place")) (aCons (eOp gAdd (eOp gIx (eFn 3 f_law_rows (aCons (eVar 0) (aCons (eC (.int 6)) (aCons (eC (.int 1)) aNil)))) (eC (.int 0))) (eC (.str "x"))) aNil))) (gNm 3)) sNil) t_law_parts_4)
@[simp] theorem t_law_parts_5_ap {S : Ms} : t_law_parts_5 S = (sSeq (sIf (bOf (eOp gEq2 (eOpL gIx 1 (eC (.int 7))) (eC (.int 0)))) (sAsg (eTup (aCons (eC (.str "place")) (aCons (eOp gAdd (eOp gIx (eFn 3 f_law_rows (aCons (eVar 0) (aCons (eC (.int 6)) (aCons (eC (.int 1)) aNil)))) (eC (.int 0))) (eC (.str "x"))) aNil))) (gNm 3)) sNil) t_law_parts_4) S := rfl
def t_law_parts_6 : SF := (sSeq (sAsg (eTup (aCons (eC (.str "place")) (aCons (eOp gAdd (eC (.str "row 1")) (eOp gIx (eFn 3 f_law_rows (aCons (eVar 0) (aCons (eC (.int 6)) (aCons (eC (.int 1)) aNil)))) (eC (.int 0)))) aNil))) (gNm 3)) t_law_parts_5)
@[simp] theorem t_law_parts_6_ap {S : Ms} : t_law_parts_6 S = (sSeq (sAsg (eTup (aCons (eC (.str "place")) (aCons (eOp gAdd (eC (.str "row 1")) (eOp gIx (eFn 3 f_law_rows (aCons (eVar 0) (aCons (eC (.int 6)) (aCons (eC (.int 1)) aNil)))) (eC (.int 0)))) aNil))) (gNm 3)) t_law_parts_5) S := rfl
def t_law_parts_7 : SF := (sSeq (sAsg (eJoin (eC (.str "\n")) (eFn 3 f_law_rows (aCons (eVar 0) (aCons (eC (.int 1)) (aCons (eOp gAdd (eC (.int 1)) (eOpL gIx 1 (eC (.int 0)))) aNil))))) (gNm 2)) t_law_parts_6)
@[simp] theorem t_law_parts_7_ap {S : Ms} : t_law_parts_7 S = (sSeq (sAsg (eJoin (eC (.str "\n")) (eFn 3 f_law_rows (aCons (eVar 0) (aCons (eC (.int 1)) (aCons (eOp gAdd (eC (.int 1)) (eOpL gIx 1 (eC (.int 0)))) aNil))))) (gNm 2)) t_law_parts_6) S := rfl
def b_law_parts : SF := (sSeq (sAsg (eFn 3 f_law_draws (aCons (eVar 0) (aCons (eC (.int 0)) (aCons (eNew (cLst (aCons (eC (.int 5)) (aCons (eC (.int 2)) (aCons (eC (.int 4)) (aCons (eC (.int 2)) (aCons (eC (.int 6)) (aCons (eC (.int 9)) (aCons (eC (.int 40)) (aCons (eC (.int 4)) aNil)))))))))) aNil)))) (gNm 1)) t_law_parts_7)
def f_law_parts : FF := fnM 8 b_law_parts
def c_law_joined_1 : EF := (eCallV gStr 2)
def b_law_joined : SF := (sRet (eJoin (eVar 1) (eNew (cLc (iSeq (eVar 0)) (gNm 2) bYes c_law_joined_1 [2]))))
def f_law_joined : FF := fnM 3 b_law_joined
def c_law_lines_1 : EF := (eFn 2 f_law_joined (aCons (eVar 8) (aCons (eC (.str ",")) aNil)))
def t_law_lines_1 : SF := (sSeq (sIf (bOf (eOp gEq2 (eVar 7) (eC (.str "met")))) (sAsg (eOp gAdd (eC (.str "met ")) (eJoin (eC (.str " ")) (eNew (cLc (iSeq (eOpL gIx 6 (eC (.int 1)))) (gNm 8) bYes c_law_lines_1 [8])))) (gNm 7)) sNil) (sExpr (eApp 5 (eVar 7))))
@[simp] theorem t_law_lines_1_ap {S : Ms} : t_law_lines_1 S = (sSeq (sIf (bOf (eOp gEq2 (eVar 7) (eC (.str "met")))) (sAsg (eOp gAdd (eC (.str "met ")) (eJoin (eC (.str " ")) (eNew (cLc (iSeq (eOpL gIx 6 (eC (.int 1)))) (gNm 8) bYes c_law_lines_1 [8])))) (gNm 7)) sNil) (sExpr (eApp 5 (eVar 7)))) S := rfl
def t_law_lines_2 : SF := (sSeq (sIf (bOf (eOp gEq2 (eVar 7) (eC (.str "dead")))) (sAsg (eOp gAdd (eC (.str "dead ")) (eFn 2 f_law_joined (aCons (eOpL gIx 6 (eC (.int 1))) (aCons (eC (.str " ")) aNil)))) (gNm 7)) sNil) t_law_lines_1)
@[simp] theorem t_law_lines_2_ap {S : Ms} : t_law_lines_2 S = (sSeq (sIf (bOf (eOp gEq2 (eVar 7) (eC (.str "dead")))) (sAsg (eOp gAdd (eC (.str "dead ")) (eFn 2 f_law_joined (aCons (eOpL gIx 6 (eC (.int 1))) (aCons (eC (.str " ")) aNil)))) (gNm 7)) sNil) t_law_lines_1) S := rfl
def l_law_lines_1 : SF := (sSeq (sAsg (eOpL gIx 6 (eC (.int 0))) (gNm 7)) t_law_lines_2)
def t_law_lines_3 : SF := (sSeq (sFor (iSeq (eVar 4)) (gNm 6) l_law_lines_1) (sRet (eVar 5)))
@[simp] theorem t_law_lines_3_ap {S : Ms} : t_law_lines_3 S = (sSeq (sFor (iSeq (eVar 4)) (gNm 6) l_law_lines_1) (sRet (eVar 5))) S := rfl
def t_law_lines_4 : SF := (sSeq (sIf (bOf (eOp gEq2 (eOpL gIx 3 (eC (.int 0))) (eC (.str "none")))) (sExpr (eApp 5 (eC (.str "none")))) (sExpr (eApp 5 (eOp gAdd (eC (.str "found ")) (eFn 2 f_law_joined (aCons (eOpL gIx 3 (eC (.int 1))) (aCons (eC (.str " ")) aNil))))))) t_law_lines_3)
@[simp] theorem t_law_lines_4_ap {S : Ms} : t_law_lines_4 S = (sSeq (sIf (bOf (eOp gEq2 (eOpL gIx 3 (eC (.int 0))) (eC (.str "none")))) (sExpr (eApp 5 (eC (.str "none")))) (sExpr (eApp 5 (eOp gAdd (eC (.str "found ")) (eFn 2 f_law_joined (aCons (eOpL gIx 3 (eC (.int 1))) (aCons (eC (.str " ")) aNil))))))) t_law_lines_3) S := rfl
def t_law_lines_5 : SF := (sSeq (sIf (bOf (eOp gEq2 (eOpL gIx 2 (eC (.int 0))) (eC (.str "place")))) (sExpr (eApp 5 (eOp gAdd (eC (.str "place ")) (eOpL gIx 2 (eC (.int 1)))))) (sOwn 5 (cCat (eOpL gAdd 5 (eNew (cLst (aCons (eOp gAdd (eC (.str "apart ")) (eCall gStr (eCall gLen (eNew (cSplit (eOpL gIx 2 (eC (.int 1))) (eC (.str "\n"))))))) aNil)))) (eNew (cSplit (eOpL gIx 2 (eC (.int 1))) (eC (.str "\n"))))))) t_law_lines_4)
@[simp] theorem t_law_lines_5_ap {S : Ms} : t_law_lines_5 S = (sSeq (sIf (bOf (eOp gEq2 (eOpL gIx 2 (eC (.int 0))) (eC (.str "place")))) (sExpr (eApp 5 (eOp gAdd (eC (.str "place ")) (eOpL gIx 2 (eC (.int 1)))))) (sOwn 5 (cCat (eOpL gAdd 5 (eNew (cLst (aCons (eOp gAdd (eC (.str "apart ")) (eCall gStr (eCall gLen (eNew (cSplit (eOpL gIx 2 (eC (.int 1))) (eC (.str "\n"))))))) aNil)))) (eNew (cSplit (eOpL gIx 2 (eC (.int 1))) (eC (.str "\n"))))))) t_law_lines_4) S := rfl
def t_law_lines_6 : SF := (sSeq (sOwn 5 (cCat (eNew (cLst (aCons (eOp gAdd (eC (.str "text ")) (eCall gStr (eCall gLen (eNew (cSplit (eVar 1) (eC (.str "\n"))))))) aNil))) (eNew (cSplit (eVar 1) (eC (.str "\n")))))) t_law_lines_5)
@[simp] theorem t_law_lines_6_ap {S : Ms} : t_law_lines_6 S = (sSeq (sOwn 5 (cCat (eNew (cLst (aCons (eOp gAdd (eC (.str "text ")) (eCall gStr (eCall gLen (eNew (cSplit (eVar 1) (eC (.str "\n"))))))) aNil))) (eNew (cSplit (eVar 1) (eC (.str "\n")))))) t_law_lines_5) S := rfl
def b_law_lines : SF := (sSeq (sAsg (eVar 0) (gTp 4 (gsCons (gNm 1) (gsCons (gNm 2) (gsCons (gNm 3) (gsCons (gNm 4) gsNil)))))) t_law_lines_6)
def f_law_lines : FF := fnM 9 b_law_lines
def t_law_first_1 : SF := (sSeq (sAsg (eOp gAdd (eVar 3) (eNew (cLst (aCons (eOp gAdd (eC (.str "place ")) (eVar 2)) (aCons (eC (.str "text 1000000000000")) (aCons (eOp gAdd (eC (.str "text")) (eVar 2)) (aCons (eOp gAdd (eOp gAdd (eC (.str "text ")) (eVar 2)) (eC (.str " 1"))) (aCons (eC (.str "text 1_0")) aNil)))))))) (gNm 3)) (sRet (eOpL gIx 3 (eOp gMod (eCallV gInt3 1) (eCallV gLen 3)))))
@[simp] theorem t_law_first_1_ap {S : Ms} : t_law_first_1 S = (sSeq (sAsg (eOp gAdd (eVar 3) (eNew (cLst (aCons (eOp gAdd (eC (.str "place ")) (eVar 2)) (aCons (eC (.str "text 1000000000000")) (aCons (eOp gAdd (eC (.str "text")) (eVar 2)) (aCons (eOp gAdd (eOp gAdd (eC (.str "text ")) (eVar 2)) (eC (.str " 1"))) (aCons (eC (.str "text 1_0")) aNil)))))))) (gNm 3)) (sRet (eOpL gIx 3 (eOp gMod (eCallV gInt3 1) (eCallV gLen 3))))) S := rfl
def t_law_first_2 : SF := (sSeq (sAsg (eOp gAdd (eVar 3) (eNew (cLst (aCons (eOp gAdd (eC (.str "text -")) (eVar 2)) (aCons (eC (.str "text x")) (aCons (eOp gAdd (eC (.str " text ")) (eVar 2)) (aCons (eOp gAdd (eC (.str "Text ")) (eVar 2)) (aCons (eOp gAdd (eC (.str "text +")) (eVar 2)) (aCons (eC (.str "")) aNil))))))))) (gNm 3)) t_law_first_1)
@[simp] theorem t_law_first_2_ap {S : Ms} : t_law_first_2 S = (sSeq (sAsg (eOp gAdd (eVar 3) (eNew (cLst (aCons (eOp gAdd (eC (.str "text -")) (eVar 2)) (aCons (eC (.str "text x")) (aCons (eOp gAdd (eC (.str " text ")) (eVar 2)) (aCons (eOp gAdd (eC (.str "Text ")) (eVar 2)) (aCons (eOp gAdd (eC (.str "text +")) (eVar 2)) (aCons (eC (.str "")) aNil))))))))) (gNm 3)) t_law_first_1) S := rfl
def t_law_first_3 : SF := (sSeq (sAsg (eNew (cLst (aCons (eC (.str "text")) (aCons (eC (.str "text ")) (aCons (eC (.str "text 0")) (aCons (eOp gAdd (eC (.str "text 0")) (eVar 2)) (aCons (eOp gAdd (eC (.str "text  ")) (eVar 2)) (aCons (eOp gAdd (eC (.str "texts ")) (eVar 2)) (aCons (eOp gAdd (eOp gAdd (eC (.str "text ")) (eVar 2)) (eC (.str " "))) aNil))))))))) (gNm 3)) t_law_first_2)
@[simp] theorem t_law_first_3_ap {S : Ms} : t_law_first_3 S = (sSeq (sAsg (eNew (cLst (aCons (eC (.str "text")) (aCons (eC (.str "text ")) (aCons (eC (.str "text 0")) (aCons (eOp gAdd (eC (.str "text 0")) (eVar 2)) (aCons (eOp gAdd (eC (.str "text  ")) (eVar 2)) (aCons (eOp gAdd (eC (.str "texts ")) (eVar 2)) (aCons (eOp gAdd (eOp gAdd (eC (.str "text ")) (eVar 2)) (eC (.str " "))) aNil))))))))) (gNm 3)) t_law_first_2) S := rfl
def b_law_first : SF := (sSeq (sAsg (eCallV gStr 0) (gNm 2)) t_law_first_3)
def f_law_first : FF := fnM 4 b_law_first
def b_law_subject : SF := (sSeq (sAsg (eNew (cLst (aCons (eC (.str "place")) (aCons (eC (.str "places x")) (aCons (eC (.str "Place x")) (aCons (eC (.str "")) (aCons (eC (.str " place x")) (aCons (eC (.str "plac")) (aCons (eC (.str "apart")) (aCons (eC (.str "apart 0")) (aCons (eC (.str "apart 01")) (aCons (eC (.str "apart x")) aNil)))))))))))) (gNm 1)) (sSeq (sAsg (eOp gAdd (eVar 1) (eNew (cLst (aCons (eC (.str "apart -1")) (aCons (eC (.str "apart 1 ")) (aCons (eC (.str "found 1")) (aCons (eC (.str "on")) (aCons (eC (.str "apart 1000000000000")) (aCons (eC (.str "apart  1")) (aCons (eC (.str "apart ")) (aCons (eC (.str "none")) aNil))))))))))) (gNm 1)) (sRet (eOpL gIx 1 (eOp gMod (eCallV gInt3 0) (eCallV gLen 1))))))
def f_law_subject : FF := fnM 2 b_law_subject
def t_law_verdict_1 : SF := (sSeq (sAsg (eOp gAdd (eVar 1) (eNew (cLst (aCons (eC (.str "nones")) (aCons (eC (.str "on")) (aCons (eC (.str "over")) (aCons (eC (.str "found 1.0")) (aCons (eC (.str "found 1 -1000000000000")) (aCons (eC (.str "none 1")) (aCons (eC (.str "founds 1")) (aCons (eC (.str "found 1_0")) aNil))))))))))) (gNm 1)) (sRet (eOpL gIx 1 (eOp gMod (eCallV gInt3 0) (eCallV gLen 1)))))
@[simp] theorem t_law_verdict_1_ap {S : Ms} : t_law_verdict_1 S = (sSeq (sAsg (eOp gAdd (eVar 1) (eNew (cLst (aCons (eC (.str "nones")) (aCons (eC (.str "on")) (aCons (eC (.str "over")) (aCons (eC (.str "found 1.0")) (aCons (eC (.str "found 1 -1000000000000")) (aCons (eC (.str "none 1")) (aCons (eC (.str "founds 1")) (aCons (eC (.str "found 1_0")) aNil))))))))))) (gNm 1)) (sRet (eOpL gIx 1 (eOp gMod (eCallV gInt3 0) (eCallV gLen 1))))) S := rfl
def t_law_verdict_2 : SF := (sSeq (sAsg (eOp gAdd (eVar 1) (eNew (cLst (aCons (eC (.str "found  1")) (aCons (eC (.str "found 1  2")) (aCons (eC (.str "found +1")) (aCons (eC (.str "found 1,2")) (aCons (eC (.str "found -")) (aCons (eC (.str "found 1000000000000")) (aCons (eC (.str "found --1")) aNil)))))))))) (gNm 1)) t_law_verdict_1)
@[simp] theorem t_law_verdict_2_ap {S : Ms} : t_law_verdict_2 S = (sSeq (sAsg (eOp gAdd (eVar 1) (eNew (cLst (aCons (eC (.str "found  1")) (aCons (eC (.str "found 1  2")) (aCons (eC (.str "found +1")) (aCons (eC (.str "found 1,2")) (aCons (eC (.str "found -")) (aCons (eC (.str "found 1000000000000")) (aCons (eC (.str "found --1")) aNil)))))))))) (gNm 1)) t_law_verdict_1) S := rfl
def b_law_verdict : SF := (sSeq (sAsg (eNew (cLst (aCons (eC (.str "found")) (aCons (eC (.str "found ")) (aCons (eC (.str "none ")) (aCons (eC (.str " none")) (aCons (eC (.str "None")) (aCons (eC (.str "")) (aCons (eC (.str "found x")) (aCons (eC (.str "found 01")) (aCons (eC (.str "found -0")) (aCons (eC (.str "found -01")) (aCons (eC (.str "found 1 ")) aNil))))))))))))) (gNm 1)) t_law_verdict_2)
def f_law_verdict : FF := fnM 2 b_law_verdict
def t_law_odd_1 : SF := (sSeq (sAsg (eOp gAdd (eVar 1) (eNew (cLst (aCons (eC (.str "met 1 2 01")) (aCons (eC (.str "met 1,1000000000000")) aNil))))) (gNm 1)) (sRet (eOpL gIx 1 (eOp gMod (eCallV gInt3 0) (eCallV gLen 1)))))
@[simp] theorem t_law_odd_1_ap {S : Ms} : t_law_odd_1 S = (sSeq (sAsg (eOp gAdd (eVar 1) (eNew (cLst (aCons (eC (.str "met 1 2 01")) (aCons (eC (.str "met 1,1000000000000")) aNil))))) (gNm 1)) (sRet (eOpL gIx 1 (eOp gMod (eCallV gInt3 0) (eCallV gLen 1))))) S := rfl
def t_law_odd_2 : SF := (sSeq (sAsg (eOp gAdd (eVar 1) (eNew (cLst (aCons (eC (.str "dead 1_0")) (aCons (eC (.str "met 1_0")) (aCons (eC (.str "met 1,2_0")) (aCons (eC (.str "dead 1 01")) (aCons (eC (.str "dead 1 1000000000000")) (aCons (eC (.str "met x")) (aCons (eC (.str "met 1,x")) aNil)))))))))) (gNm 1)) t_law_odd_1)
@[simp] theorem t_law_odd_2_ap {S : Ms} : t_law_odd_2 S = (sSeq (sAsg (eOp gAdd (eVar 1) (eNew (cLst (aCons (eC (.str "dead 1_0")) (aCons (eC (.str "met 1_0")) (aCons (eC (.str "met 1,2_0")) (aCons (eC (.str "dead 1 01")) (aCons (eC (.str "dead 1 1000000000000")) (aCons (eC (.str "met x")) (aCons (eC (.str "met 1,x")) aNil)))))))))) (gNm 1)) t_law_odd_1) S := rfl
def t_law_odd_3 : SF := (sSeq (sAsg (eOp gAdd (eVar 1) (eNew (cLst (aCons (eC (.str "place row 1")) (aCons (eC (.str "dead 00")) (aCons (eC (.str "met 1,00")) (aCons (eC (.str "on 1")) (aCons (eC (.str "met 1 ")) (aCons (eC (.str "deads 1")) (aCons (eC (.str "met 1,-2")) (aCons (eC (.str "dead 1 +2")) aNil))))))))))) (gNm 1)) t_law_odd_2)
@[simp] theorem t_law_odd_3_ap {S : Ms} : t_law_odd_3 S = (sSeq (sAsg (eOp gAdd (eVar 1) (eNew (cLst (aCons (eC (.str "place row 1")) (aCons (eC (.str "dead 00")) (aCons (eC (.str "met 1,00")) (aCons (eC (.str "on 1")) (aCons (eC (.str "met 1 ")) (aCons (eC (.str "deads 1")) (aCons (eC (.str "met 1,-2")) (aCons (eC (.str "dead 1 +2")) aNil))))))))))) (gNm 1)) t_law_odd_2) S := rfl
def t_law_odd_4 : SF := (sSeq (sAsg (eOp gAdd (eVar 1) (eNew (cLst (aCons (eC (.str "met 01")) (aCons (eC (.str "met 1 2,")) (aCons (eC (.str "met 1  2")) (aCons (eC (.str "met 1000000000000")) (aCons (eC (.str "dead 1000000000000")) (aCons (eC (.str "found 1")) (aCons (eC (.str "none")) aNil)))))))))) (gNm 1)) t_law_odd_3)
@[simp] theorem t_law_odd_4_ap {S : Ms} : t_law_odd_4 S = (sSeq (sAsg (eOp gAdd (eVar 1) (eNew (cLst (aCons (eC (.str "met 01")) (aCons (eC (.str "met 1 2,")) (aCons (eC (.str "met 1  2")) (aCons (eC (.str "met 1000000000000")) (aCons (eC (.str "dead 1000000000000")) (aCons (eC (.str "found 1")) (aCons (eC (.str "none")) aNil)))))))))) (gNm 1)) t_law_odd_3) S := rfl
def t_law_odd_5 : SF := (sSeq (sAsg (eOp gAdd (eVar 1) (eNew (cLst (aCons (eC (.str "dead 1 ")) (aCons (eC (.str "dead  1")) (aCons (eC (.str "dead x")) (aCons (eC (.str "met")) (aCons (eC (.str "met ")) (aCons (eC (.str "met 1,")) (aCons (eC (.str "met ,1")) (aCons (eC (.str "met 1,,2")) (aCons (eC (.str "met 1, 2")) (aCons (eC (.str "met -1")) aNil))))))))))))) (gNm 1)) t_law_odd_4)
@[simp] theorem t_law_odd_5_ap {S : Ms} : t_law_odd_5 S = (sSeq (sAsg (eOp gAdd (eVar 1) (eNew (cLst (aCons (eC (.str "dead 1 ")) (aCons (eC (.str "dead  1")) (aCons (eC (.str "dead x")) (aCons (eC (.str "met")) (aCons (eC (.str "met ")) (aCons (eC (.str "met 1,")) (aCons (eC (.str "met ,1")) (aCons (eC (.str "met 1,,2")) (aCons (eC (.str "met 1, 2")) (aCons (eC (.str "met -1")) aNil))))))))))))) (gNm 1)) t_law_odd_4) S := rfl
def b_law_odd : SF := (sSeq (sAsg (eNew (cLst (aCons (eC (.str "")) (aCons (eC (.str "on ")) (aCons (eC (.str " on")) (aCons (eC (.str "On")) (aCons (eC (.str "off")) (aCons (eC (.str "over 1")) (aCons (eC (.str "overs")) (aCons (eC (.str "dead")) (aCons (eC (.str "dead ")) (aCons (eC (.str "dead -1")) (aCons (eC (.str "dead 01")) (aCons (eC (.str "dead 1,2")) aNil)))))))))))))) (gNm 1)) t_law_odd_5)
def f_law_odd : FF := fnM 2 b_law_odd
def t_law_spoilt_1 : SF := (sSeq (sAsg (eFn 1 f_law_odd (aCons (eOpL gIx 3 (eC (.int 1))) aNil)) (gSubV 4 (eVar 7))) (sRet (eTup (aCons (eVar 4) (aCons (eOp gAdd (eVar 7) (eC (.int 1))) aNil)))))
@[simp] theorem t_law_spoilt_1_ap {S : Ms} : t_law_spoilt_1 S = (sSeq (sAsg (eFn 1 f_law_odd (aCons (eOpL gIx 3 (eC (.int 1))) aNil)) (gSubV 4 (eVar 7))) (sRet (eTup (aCons (eVar 4) (aCons (eOp gAdd (eVar 7) (eC (.int 1))) aNil))))) S := rfl
def t_law_spoilt_2 : SF := (sSeq (sAsg (eOp gAdd (eOp gAdd (eVar 2) (eC (.int 1))) (eOp gMod (eCall gInt3 (eOpL gIx 3 (eC (.int 2)))) (eOp gSub (eOp gSub (eCallV gLen 0) (eVar 2)) (eC (.int 1))))) (gNm 7)) t_law_spoilt_1)
@[simp] theorem t_law_spoilt_2_ap {S : Ms} : t_law_spoilt_2 S = (sSeq (sAsg (eOp gAdd (eOp gAdd (eVar 2) (eC (.int 1))) (eOp gMod (eCall gInt3 (eOpL gIx 3 (eC (.int 2)))) (eOp gSub (eOp gSub (eCallV gLen 0) (eVar 2)) (eC (.int 1))))) (gNm 7)) t_law_spoilt_1) S := rfl
def t_law_spoilt_3 : SF := (sSeq (sIf (bAnd (bOf (eOp gEq2 (eVar 5) (eC (.int 7)))) (bOf (eOp gEq2 (eSl3 (eOpL gIx 0 (eVar 1)) oNone (oSome (eC (.int 6)))) (eC (.str "apart "))))) (sSeq (sAsg (eOp gAdd (eC (.str "apart ")) (eCall gStr (eOp gIx (eNew (cLst (aCons (eOp gSub (eOp gSub (eCallV gLen 0) (eC (.int 1))) (eVar 1)) (aCons (eCallV gLen 0) (aCons (eC (.int 999999999999)) aNil))))) (eOp gMod (eCall gInt3 (eOpL gIx 3 (eC (.int 1)))) (eC (.int 3)))))) (gSubV 4 (eVar 1))) (sRet (eTup (aCons (eVar 4) (aCons (eOp gAdd (eCallV gLen 0) (eC (.int 1))) aNil))))) sNil) t_law_spoilt_2)
@[simp] theorem t_law_spoilt_3_ap {S : Ms} : t_law_spoilt_3 S = (sSeq (sIf (bAnd (bOf (eOp gEq2 (eVar 5) (eC (.int 7)))) (bOf (eOp gEq2 (eSl3 (eOpL gIx 0 (eVar 1)) oNone (oSome (eC (.int 6)))) (eC (.str "apart "))))) (sSeq (sAsg (eOp gAdd (eC (.str "apart ")) (eCall gStr (eOp gIx (eNew (cLst (aCons (eOp gSub (eOp gSub (eCallV gLen 0) (eC (.int 1))) (eVar 1)) (aCons (eCallV gLen 0) (aCons (eC (.int 999999999999)) aNil))))) (eOp gMod (eCall gInt3 (eOpL gIx 3 (eC (.int 1)))) (eC (.int 3)))))) (gSubV 4 (eVar 1))) (sRet (eTup (aCons (eVar 4) (aCons (eOp gAdd (eCallV gLen 0) (eC (.int 1))) aNil))))) sNil) t_law_spoilt_2) S := rfl
def t_law_spoilt_4 : SF := (sSeq (sIf (bOf (eOp gEq2 (eVar 5) (eC (.int 6)))) (sRet (eTup (aCons (eOpL gAdd 4 (eNew (cLst (aCons (eC (.str "")) aNil)))) (aCons (eOp gAdd (eCallV gLen 0) (eC (.int 1))) aNil)))) sNil) t_law_spoilt_3)
@[simp] theorem t_law_spoilt_4_ap {S : Ms} : t_law_spoilt_4 S = (sSeq (sIf (bOf (eOp gEq2 (eVar 5) (eC (.int 6)))) (sRet (eTup (aCons (eOpL gAdd 4 (eNew (cLst (aCons (eC (.str "")) aNil)))) (aCons (eOp gAdd (eCallV gLen 0) (eC (.int 1))) aNil)))) sNil) t_law_spoilt_3) S := rfl
def t_law_spoilt_5 : SF := (sSeq (sIf (bOf (eOp gEq2 (eVar 5) (eC (.int 5)))) (sSeq (sAsg (eOp gMod (eCall gInt3 (eOpL gIx 3 (eC (.int 1)))) (eOp gAdd (eVar 2) (eC (.int 2)))) (gNm 6)) (sRet (eTup (aCons (eNew (cSlV 4 oNone (oSome (eVar 6)))) (aCons (eCalls gMax2 (aCons (eC (.int 1)) (aCons (eOp gAdd (eVar 6) (eCall gInt3 (eOp gGt (eVar 6) (eC (.int 0))))) aNil))) aNil))))) sNil) t_law_spoilt_4)
@[simp] theorem t_law_spoilt_5_ap {S : Ms} : t_law_spoilt_5 S = (sSeq (sIf (bOf (eOp gEq2 (eVar 5) (eC (.int 5)))) (sSeq (sAsg (eOp gMod (eCall gInt3 (eOpL gIx 3 (eC (.int 1)))) (eOp gAdd (eVar 2) (eC (.int 2)))) (gNm 6)) (sRet (eTup (aCons (eNew (cSlV 4 oNone (oSome (eVar 6)))) (aCons (eCalls gMax2 (aCons (eC (.int 1)) (aCons (eOp gAdd (eVar 6) (eCall gInt3 (eOp gGt (eVar 6) (eC (.int 0))))) aNil))) aNil))))) sNil) t_law_spoilt_4) S := rfl
def t_law_spoilt_6 : SF := (sSeq (sIf (bOf (eOp gEq2 (eVar 5) (eC (.int 4)))) (sSeq (sAsg (eFn 1 f_law_verdict (aCons (eOpL gIx 3 (eC (.int 1))) aNil)) (gSubV 4 (eVar 2))) (sRet (eTup (aCons (eVar 4) (aCons (eOp gAdd (eVar 2) (eC (.int 1))) aNil))))) sNil) t_law_spoilt_5)
@[simp] theorem t_law_spoilt_6_ap {S : Ms} : t_law_spoilt_6 S = (sSeq (sIf (bOf (eOp gEq2 (eVar 5) (eC (.int 4)))) (sSeq (sAsg (eFn 1 f_law_verdict (aCons (eOpL gIx 3 (eC (.int 1))) aNil)) (gSubV 4 (eVar 2))) (sRet (eTup (aCons (eVar 4) (aCons (eOp gAdd (eVar 2) (eC (.int 1))) aNil))))) sNil) t_law_spoilt_5) S := rfl
def t_law_spoilt_7 : SF := (sSeq (sIf (bOf (eOp gEq2 (eVar 5) (eC (.int 3)))) (sSeq (sAsg (eFn 1 f_law_subject (aCons (eOpL gIx 3 (eC (.int 1))) aNil)) (gSubV 4 (eVar 1))) (sRet (eTup (aCons (eVar 4) (aCons (eOp gAdd (eVar 1) (eC (.int 1))) aNil))))) sNil) t_law_spoilt_6)
@[simp] theorem t_law_spoilt_7_ap {S : Ms} : t_law_spoilt_7 S = (sSeq (sIf (bOf (eOp gEq2 (eVar 5) (eC (.int 3)))) (sSeq (sAsg (eFn 1 f_law_subject (aCons (eOpL gIx 3 (eC (.int 1))) aNil)) (gSubV 4 (eVar 1))) (sRet (eTup (aCons (eVar 4) (aCons (eOp gAdd (eVar 1) (eC (.int 1))) aNil))))) sNil) t_law_spoilt_6) S := rfl
def t_law_spoilt_8 : SF := (sSeq (sIf (bOf (eOp gEq2 (eVar 5) (eC (.int 2)))) (sSeq (sAsg (eOp gAdd (eC (.str "text ")) (eCall gStr (eOp gIx (eNew (cLst (aCons (eOp gSub (eCallV gLen 0) (eC (.int 1))) (aCons (eCallV gLen 0) (aCons (eC (.int 999999999999)) aNil))))) (eOp gMod (eCall gInt3 (eOpL gIx 3 (eC (.int 1)))) (eC (.int 3)))))) (gSubV 4 (eC (.int 0)))) (sRet (eTup (aCons (eVar 4) (aCons (eOp gAdd (eCallV gLen 0) (eC (.int 1))) aNil))))) sNil) t_law_spoilt_7)
@[simp] theorem t_law_spoilt_8_ap {S : Ms} : t_law_spoilt_8 S = (sSeq (sIf (bOf (eOp gEq2 (eVar 5) (eC (.int 2)))) (sSeq (sAsg (eOp gAdd (eC (.str "text ")) (eCall gStr (eOp gIx (eNew (cLst (aCons (eOp gSub (eCallV gLen 0) (eC (.int 1))) (aCons (eCallV gLen 0) (aCons (eC (.int 999999999999)) aNil))))) (eOp gMod (eCall gInt3 (eOpL gIx 3 (eC (.int 1)))) (eC (.int 3)))))) (gSubV 4 (eC (.int 0)))) (sRet (eTup (aCons (eVar 4) (aCons (eOp gAdd (eCallV gLen 0) (eC (.int 1))) aNil))))) sNil) t_law_spoilt_7) S := rfl
def t_law_spoilt_9 : SF := (sSeq (sIf (bOf (eOp gEq2 (eVar 5) (eC (.int 1)))) (sSeq (sAsg (eFn 2 f_law_first (aCons (eOp gSub (eVar 1) (eC (.int 1))) (aCons (eOpL gIx 3 (eC (.int 1))) aNil))) (gSubV 4 (eC (.int 0)))) (sRet (eTup (aCons (eVar 4) (aCons (eC (.int 1)) aNil))))) sNil) t_law_spoilt_8)
@[simp] theorem t_law_spoilt_9_ap {S : Ms} : t_law_spoilt_9 S = (sSeq (sIf (bOf (eOp gEq2 (eVar 5) (eC (.int 1)))) (sSeq (sAsg (eFn 2 f_law_first (aCons (eOp gSub (eVar 1) (eC (.int 1))) (aCons (eOpL gIx 3 (eC (.int 1))) aNil))) (gSubV 4 (eC (.int 0)))) (sRet (eTup (aCons (eVar 4) (aCons (eC (.int 1)) aNil))))) sNil) t_law_spoilt_8) S := rfl
def t_law_spoilt_10 : SF := (sSeq (sAsg (eOpL gIx 3 (eC (.int 0))) (gNm 5)) t_law_spoilt_9)
@[simp] theorem t_law_spoilt_10_ap {S : Ms} : t_law_spoilt_10 S = (sSeq (sAsg (eOpL gIx 3 (eC (.int 0))) (gNm 5)) t_law_spoilt_9) S := rfl
def b_law_spoilt : SF := (sSeq (sCell 4 (cCallV gList 0)) t_law_spoilt_10)
def f_law_spoilt : FF := fnM 8 b_law_spoilt
def b_law_refused (ca : Nat → Addr) : XF := (xSeq (xTryAs (tb [(4, true)]) 1 (xExpr (xFn 1 (f_read_paper ca) (aCons (eVar 0) aNil))) (hSeq (hIf (hB (fun e => (tb [(4, false)] e.i).map .bl)) (hRet (fun _ => some .non)) (fun _ => some .nx)) (hSeq (hIf (fun e => ((fun e => ((hB (fun e => (tb [(4, true)] e.i).map .bl)) e).map (!·)) e).bind fun b => if b then some true else (fun e => ((fun e => ((hB (fun e => (tb [(4, true)] e.i).map .bl)) e).map (!·)) e).bind fun b => if b then some true else (fun e => ((hB (fun e => (tb [(4, true)] e.i).map .bl)) e).map (!·)) e) e) (hRet (fun _ => some .non)) (fun _ => some .nx)) (hRet (fun e => if e.i = 4 then e.r else none))))) (xL (sRet (eC .non))))
def f_law_refused (ca : Nat → Addr) : FF := noX (fnX 2 (b_law_refused ca))
def c_law_1 (ca : Nat → Addr) : EF := (eVar 11)
def t_law_1 (ca : Nat → Addr) : SF := (sSeq (sAsg (eFn 1 (f_law_refused ca) (aCons (eJoin (eC (.str "\n")) (eVar 7)) aNil)) (gNm 10)) (sRet (eAnd (eIsiC "int" (eVar 10)) (eAnd (eNot (eIsiC "bool" (eVar 10))) (eOp gEq2 (eVar 10) (eVar 8))))))
def t_law_2 (ca : Nat → Addr) : SF := (sSeq (sIf (bAnd (bOf (eOp gNe2 (eOpL gIx 5 (eC (.int 0))) (eC (.int 2)))) (bAnd (bOf (eOp gNe2 (eOpL gIx 5 (eC (.int 0))) (eC (.int 7)))) (bOf (eOp gEq2 (eCallV gLen 7) (eCallV gLen 2))))) (sSeq (sAsg (eNew (cLc (iSeq (eOp gAdd (eNew (cLst (aCons (eVar 3) (aCons (eVar 4) aNil)))) (eNew (cLr2 (eOp gAdd (eVar 4) (eC (.int 1))) (eCallV gLen 2))))) (gNm 11) (bOf (eOp gGe (eVar 11) (eVar 8))) (c_law_1 ca) [11])) (gNm 9)) (sSeq (sIf (bAnd (bOf (eOp gEq2 (eOpL gIx 5 (eC (.int 3))) (eC (.int 1)))) (bOf (eOp gGt (eCallV gLen 9) (eC (.int 0))))) (sAsg (eFn 1 f_law_odd (aCons (eOpL gIx 5 (eC (.int 5))) aNil)) (gSubV 7 (eOpL gIx 9 (eOp gMod (eCall gInt3 (eOpL gIx 5 (eC (.int 4)))) (eCallV gLen 9))))) sNil) (sIf (bOf (eOp gEq2 (eOpL gIx 5 (eC (.int 3))) (eC (.int 2)))) (sOwn 7 (cSl (eVar 7) oNone (oSome (eVar 8)))) sNil))) sNil) (t_law_1 ca))
def t_law_3 (ca : Nat → Addr) : SF := (sSeq (sAsg (eFn 4 f_law_spoilt (aCons (eVar 2) (aCons (eVar 3) (aCons (eVar 4) (aCons (eVar 5) aNil))))) (gTp 2 (gsCons (gNm 7) (gsCons (gNm 8) gsNil)))) (t_law_2 ca))
def t_law_4 (ca : Nat → Addr) : SF := (sSeq (sIf (bOf (eOp gEq2 (eOpL gIx 5 (eC (.int 0))) (eC (.int 0)))) (sSeq (sAsg (eFn 1 (noX (f_read_paper ca)) (aCons (eJoin (eC (.str "\n")) (eVar 2)) aNil)) (gNm 6)) (sRet (eOp gEq2 (eCall gRepr (eNew (cLst (aCons (eFld (ca 11) "text" (eVar 6)) (aCons (eFld (ca 11) "subject" (eVar 6)) (aCons (eFld (ca 11) "verdict" (eVar 6)) (aCons (eFld (ca 11) "tokens" (eVar 6)) aNil))))))) (eCall gRepr (eNew (cCallV gList 1)))))) sNil) (t_law_3 ca))
def t_law_5 (ca : Nat → Addr) : SF := (sSeq (sAsg (eFn 3 f_law_draws (aCons (eVar 0) (aCons (eC (.int 21)) (aCons (eNew (cLst (aCons (eC (.int 10)) (aCons (eC (.int 1000)) (aCons (eC (.int 1000)) (aCons (eC (.int 4)) (aCons (eC (.int 1000)) (aCons (eC (.int 1000)) aNil)))))))) aNil)))) (gNm 5)) (t_law_4 ca))
def t_law_6 (ca : Nat → Addr) : SF := (sSeq (sIf (bOf (eOp gEq2 (eOp gIx (eOpL gIx 1 (eC (.int 1))) (eC (.int 0))) (eC (.str "apart")))) (sAsg (eOp gAdd (eVar 4) (eCall gLen (eNew (cSplit (eOp gIx (eOpL gIx 1 (eC (.int 1))) (eC (.int 1))) (eC (.str "\n")))))) (gNm 4)) sNil) (t_law_5 ca))
def t_law_7 (ca : Nat → Addr) : SF := (sSeq (sAsg (eOp gAdd (eVar 3) (eC (.int 1))) (gNm 4)) (t_law_6 ca))
def t_law_8 (ca : Nat → Addr) : SF := (sSeq (sAsg (eOp gAdd (eC (.int 1)) (eCall gLen (eNew (cSplit (eOpL gIx 1 (eC (.int 0))) (eC (.str "\n")))))) (gNm 3)) (t_law_7 ca))
def t_law_9 (ca : Nat → Addr) : SF := (sSeq (sAsg (eFn 1 f_law_lines (aCons (eVar 1) aNil)) (gNm 2)) (t_law_8 ca))
def b_law (ca : Nat → Addr) : SF := (sSeq (sAsg (eFn 1 f_law_parts (aCons (eVar 0) aNil)) (gNm 1)) (t_law_9 ca))
def f_law (ca : Nat → Addr) : FF := fnM 12 (b_law ca)
end

end Lk30

namespace Lk30
open PySem L2 M
def I (ns : List Int) : List M.D := ns.map M.D.int
@[simp] theorem I_len (ns : List Int) : (I ns).length = ns.length := by simp [I]
theorem I_cons (n : Int) (ns : List Int) : I (n :: ns) = .int n :: I ns := rfl
theorem I_app (a b : List Int) : I (a ++ b) = I a ++ I b := by simp [I]
theorem atI_I {ns : List Int} {i : Int} (h0 : 0 ≤ i) (h : i < ns.length) : ∃ x, atI (I ns) i = some (.int x) ∧ ns[i.toNat]? = some x := by
  rw [atI_pos h0 (by simpa using h)]
  have hl : i.toNat < ns.length := by omega
  exact ⟨ns[i.toNat], by simp [I, hl], by simp [hl]⟩
theorem atI_In {ns : List Int} {i : Nat} {x : Int} (h : ns[i]? = some x) : atI (I ns) (i : Int) = some (.int x) := by
  have hl := (List.getElem?_eq_some_iff.mp h).1
  rw [atI_pos (Int.natCast_nonneg _) (by simpa using hl)]
  simp [I, h]
theorem cell_ok (ns : List Int) (k : Int) (m : List Cell) : ∃ c, f_law_cell [.sc (I ns), .int k] m = some (.int c, m) := by
  unfold f_law_cell b_law_cell
  by_cases h : 0 < ns.length
  · obtain ⟨x, hx, _⟩ := atI_I (ns := ns) (i := k % (ns.length : Nat)) (Int.emod_nonneg _ (by omega)) (Int.emod_lt_of_pos _ (by omega))
    exact ⟨x, by simp [fnM_ap, h, hx]⟩
  · exact ⟨0, by simp [fnM_ap, h]⟩
/-- drawn below the sizes -/
inductive Dr : List Int → List Int → Prop
  | nil : Dr [] []
  | cons {s d : Int} {ss ds : List Int} : 0 ≤ d → d < s → Dr ss ds → Dr (s :: ss) (d :: ds)
theorem Dr.snoc {ss ds : List Int} {s d : Int} (h : Dr ss ds) (h0 : 0 ≤ d) (h1 : d < s) : Dr (ss ++ [s]) (ds ++ [d]) := by
  induction h with
  | nil => exact .cons h0 h1 .nil
  | cons a b _ ih => exact .cons a b ih
theorem Dr.len {ss ds : List Int} (h : Dr ss ds) : ds.length = ss.length := by
  induction h with
  | nil => rfl
  | cons _ _ _ ih => simp [ih]
abbrev P8 : List M.D := [.int 2147483647, .int 998244353, .int 1000000007, .int 1000000009, .int 4294967291, .int 1073741789, .int 536870909, .int 2305843009213693951]
theorem P8_at (i : Int) (h0 : 0 ≤ i) (h : i < 8) : ∃ p : Int, atI P8 i = some (.int p) ∧ 0 < p ∧ (∀ x : Int, -18446744073709551616 < x % p) ∧ (∀ x : Int, x % p < 18446744073709551616) := by
  have key : ∀ p : Int, 0 < p → p ≤ 2305843009213693951 → 0 < p ∧ (∀ x : Int, -18446744073709551616 < x % p) ∧ (∀ x : Int, x % p < 18446744073709551616) := fun p h1 h2 => by
    refine ⟨h1, fun x => ?_, fun x => ?_⟩
    · have := Int.emod_nonneg x (show p ≠ 0 by omega); omega
    · have := Int.emod_lt_of_pos x h1; omega
  rw [atI_pos h0 (by exact h)]
  have : i.toNat = 0 ∨ i.toNat = 1 ∨ i.toNat = 2 ∨ i.toNat = 3 ∨ i.toNat = 4 ∨ i.toNat = 5 ∨ i.toNat = 6 ∨ i.toNat = 7 := by omega
  rcases this with e | e | e | e | e | e | e | e <;> rw [e] <;> exact ⟨_, rfl, key _ (by decide) (by decide)⟩
theorem draws_step (sd : M.D) (szs ds : List Int) (place c rest : Int) (i : Nat) (s : Int) (hp : 0 < s) (hB : s < 100000000000000000000000000000000000000000000000000) (hat : atI (I szs) (i : Int) = some (.int s)) (hdl : ds.length < 1000000) (m : List Cell) (s8 s9 : M.Slot) :
    ∃ v rest' t8 t9, 0 ≤ v ∧ v < s ∧ l_law_draws_1 ⟨[.val sd, .val (.int place), .val (.lst (I szs)), .val (.lst P8), .val (.int c), .val (.int rest), .own (.lst (I ds)), .val (.int i), s8, s9], m⟩ =
      some (.nx, ⟨[.val sd, .val (.int place), .val (.lst (I szs)), .val (.lst P8), .val (.int c), .val (.int rest'), .own (.lst (I (ds ++ [v]))), .val (.int i), t8, t9], m⟩) := by
  by_cases hr : 0 < rest
  · refine ⟨rest % s, rest / s, s8, s9, Int.emod_nonneg _ (by omega), Int.emod_lt_of_pos _ hp, ?_⟩
    unfold l_law_draws_1
    simp [hr, hat, hp, hB, hdl, I_app]
    rfl
  · obtain ⟨p0, e0, hp0, l0, u0⟩ := P8_at ((i : Int) % 8) (by omega) (by omega)
    obtain ⟨p1, e1, hp1, l1, u1⟩ := P8_at (((i : Int) + 3) % 8) (by omega) (by omega)
    obtain ⟨p2, e2, hp2, l2, u2⟩ := P8_at (((i : Int) + 5) % 8) (by omega) (by omega)
    unfold l_law_draws_1
    simp only [I_app]
    simp [hr, hat, hp, hB, hdl, e0, e1, e2, hp0, hp1, hp2, l0, l1, l2, u0, u1, u2]
    exact ⟨_, Int.emod_nonneg _ (by omega), Int.emod_lt_of_pos _ hp, rfl⟩
theorem draws_loop (sd : M.D) (szs : List Int) (place c : Int) (hs : ∀ s ∈ szs, 0 < s ∧ s < 100000000000000000000000000000000000000000000000000) (hl : szs.length ≤ 1000) (m : List Cell) :
    ∀ (k i : Nat) (rest : Int) (ds : List Int) (s7 s8 s9 : M.Slot), i + k = szs.length → Dr (szs.take i) ds → ∃ ds' rest' t7 t8 t9,
      M.forM (gNm 7) l_law_draws_1 ((List.range' i k).map fun j => M.D.int (j : Nat)) ⟨[.val sd, .val (.int place), .val (.lst (I szs)), .val (.lst P8), .val (.int c), .val (.int rest), .own (.lst (I ds)), s7, s8, s9], m⟩ =
        some (.nx, ⟨[.val sd, .val (.int place), .val (.lst (I szs)), .val (.lst P8), .val (.int c), .val (.int rest'), .own (.lst (I ds')), t7, t8, t9], m⟩) ∧ Dr szs ds' := by
  intro k
  induction k with
  | zero =>
    intro i rest ds s7 s8 s9 hi hd
    rw [List.take_of_length_le (by omega)] at hd
    exact ⟨ds, rest, s7, s8, s9, by simp, hd⟩
  | succ k ih =>
    intro i rest ds s7 s8 s9 hi hd
    have hil : i < szs.length := by omega
    have hsz : szs[i]? = some szs[i] := by simp [hil]
    obtain ⟨hp, hB⟩ := hs _ (List.getElem_mem hil)
    have hdl : ds.length < 1000000 := by rw [hd.len, List.length_take]; omega
    have htk : szs.take (i + 1) = szs.take i ++ [szs[i]] := by rw [List.take_add_one, hsz]; rfl
    obtain ⟨v, rest1, t8, t9, v0, v1, es⟩ := draws_step sd szs ds place c rest i szs[i] hp hB (atI_In hsz) hdl m s8 s9
    obtain ⟨ds', rest', u7, u8, u9, e, h⟩ := ih (i + 1) rest1 (ds ++ [v]) (.val (.int i)) t8 t9 (by omega) (by rw [htk]; exact hd.snoc v0 v1)
    refine ⟨ds', rest', u7, u8, u9, ?_, h⟩
    rw [List.range'_succ, List.map_cons, forM_cons]
    simp only [gNm_ap, Option.bind_some, List.set_cons_succ, List.set_cons_zero, es]
    exact e
theorem rngD_eq (n : Nat) : rngD 0 n = (List.range' 0 n).map fun j => M.D.int (j : Nat) := by
  unfold rngD
  rw [List.range_eq_range']
  congr 1
  funext j
  simp
theorem draws_ok (ns szs : List Int) (place : Int) (hs : ∀ s ∈ szs, 0 < s ∧ s < 100000000000000000000000000000000000000000000000000) (hl : szs.length ≤ 1000) (m : List Cell) :
    ∃ ds, f_law_draws [.sc (I ns), .int place, .lst (I szs)] m = some (.lst (I ds), m) ∧ Dr szs ds := by
  obtain ⟨c, hc⟩ := cell_ok ns place m
  have go : ∀ rest : Int, ∃ ds' rest' t7 t8 t9, M.forM (gNm 7) l_law_draws_1 (rngD 0 szs.length) ⟨[.val (.sc (I ns)), .val (.int place), .val (.lst (I szs)), .val (.lst P8), .val (.int (if c < 0 then -c else c)), .val (.int rest), .own (.lst []), .emp, .emp, .emp], m⟩ =
        some (.nx, ⟨[.val (.sc (I ns)), .val (.int place), .val (.lst (I szs)), .val (.lst P8), .val (.int (if c < 0 then -c else c)), .val (.int rest'), .own (.lst (I ds')), t7, t8, t9], m⟩) ∧ Dr szs ds' := fun rest => by
    rw [rngD_eq]
    exact draws_loop (.sc (I ns)) szs place _ hs hl m szs.length 0 rest [] _ _ _ (by omega) .nil
  have hb : (szs.length : Int) ≤ 2000000000000000000 := by omega
  have hpow : gPow (.int 10) (.int 18) = some (.int 1000000000000000000) := by rw [gPow_int, if_pos (by decide)]; rfl
  by_cases hc2 : 1000000000000000000 ≤ (if c < 0 then -c else c)
  · obtain ⟨ds', rest', t7, t8, t9, e, h⟩ := go (if c < 0 then -c else c)
    refine ⟨ds', ?_, h⟩
    unfold f_law_draws b_law_draws
    simp [fnM_ap, hc, hpow, hc2, hb, e, show (-2000000000000000000 : Int) ≤ szs.length by omega]
  · obtain ⟨ds', rest', t7, t8, t9, e, h⟩ := go 0
    refine ⟨ds', ?_, h⟩
    unfold f_law_draws b_law_draws
    simp [fnM_ap, hc, hpow, hc2, hb, e, show (-2000000000000000000 : Int) ≤ szs.length by omega]
end Lk30



namespace Lk30
open PySem L2 M
/-! texts as lists of signs -/
def S (l : List Nat) : Str := ⟨l.toArray⟩
@[simp] theorem S_len (l : List Nat) : (S l).length = l.length := by simp [S, Str.length]
@[simp] theorem S_cps (l : List Nat) : (S l).cps.toList = l := rfl
theorem S_app (a b : List Nat) : S a ++ S b = S (a ++ b) := TL.ext_tl (by rw [TL.tl_append]; rfl)
theorem S_inj {a b : List Nat} : S a = S b ↔ a = b := ⟨fun h => by have := congrArg (fun z : Str => z.cps.toList) h; exact this, fun h => by rw [h]⟩
theorem ex_S (z : Str) : ∃ l, z = S l := ⟨z.cps.toList, (TL.mk_tl z).symm⟩
def Ok (l : List Nat) : Prop := ∀ c ∈ l, c < 0x110000
theorem Ok.so {l : List Nat} (h : Ok l) : PyData.strOk (S l) = true := by
  unfold PyData.strOk S
  rw [Array.all_eq_true_iff_forall_mem]
  intro c hc
  simpa using h c (by simpa using hc)
theorem Ok.sub {l k : List Nat} (h : Ok l) (hs : ∀ c ∈ k, c ∈ l) : Ok k := fun c hc => h c (hs c hc)
theorem Ok.cut {l : List Nat} (h : Ok l) (a b : Nat) : Ok ((l.drop a).take b) := h.sub fun c hc => List.mem_of_mem_drop (List.mem_of_mem_take hc)
theorem Ok.app {l k : List Nat} (h : Ok l) (h2 : Ok k) : Ok (l ++ k) := fun c hc => (List.mem_append.mp hc).elim (h c) (h2 c)
theorem atl {α : Type} {l : List α} {i : Nat} {c : α} (h : l[i]? = some c) : atI l (i : Int) = some c := by
  rw [atI_pos (Int.natCast_nonneg _) (by have := (List.getElem?_eq_some_iff.mp h).1; omega)]
  simpa using h
theorem ixS {l : List Nat} (h : l.length ≤ 1000000) {i : Nat} {c : Nat} (hc : l[i]? = some c) : gIx (.str (S l)) (.int (i : Int)) = some (.str (S [c])) := by
  rw [gIx_str, if_pos (by simpa using h)]
  show (atI l (i : Int)).bind _ = _
  rw [atl hc]; rfl
theorem lenS {l : List Nat} (h : l.length ≤ 1000000) : gLen (.str (S l)) = some (.int (l.length : Int)) := by
  rw [gLen_str, if_pos (by simpa using h), S_len]
theorem slS {l : List Nat} (h : l.length ≤ 1000000) {a : Nat} (b : Nat) (ha : a ≤ l.length) : gSl3 (.str (S l)) (some (a : Int)) (some (b : Int)) = some (.str (S ((l.drop a).take (b - a)))) := by
  have e : gSl3 (.str (S l)) (some (a : Int)) (some (b : Int)) = if (S l).length ≤ LIM then some (.str (cutS (S l) (some (a : Int)) (some (b : Int)))) else none := rfl
  rw [e, if_pos (by simpa using h)]
  unfold cutS
  rw [HT.sIx_nat, HT.sIx_nat, S_cps, S_len, Nat.min_eq_left ha]
  congr 2
  show S _ = S _
  rw [S_inj]
  by_cases hb : b ≤ l.length
  · rw [Nat.min_eq_left hb]
  · rw [Nat.min_eq_right (by omega), List.take_of_length_le (by simp), List.take_of_length_le (by simp; omega)]
theorem inS (neg : Bool) (c : Nat) (l : List Nat) : gIn3 neg (.str (S [c])) (.str (S l)) = some (.bl (xor neg (decide (c ∈ l)))) := gIn3_sign
theorem eqS {a b : List Nat} (ha : Ok a) (hb : Ok b) : eqD (.str (S a)) (.str (S b)) = some (decide (a = b)) := by
  rw [eqD_str ha.so hb.so]
  simp [S_inj]
theorem eqF_S {a b : List Nat} : eqF (.str (S a)) (.str (S b)) = decide (a = b) := by
  unfold eqF
  simp [toPy, PyData.eqv, Bool.beq_eq_decide_eq, S_inj]
theorem inStrs_t (a : List Nat) (zs : List (List Nat)) : gIn3 false (.str (S a)) (.tup (zs.map fun l => .str (S l))) = some (.bl (decide (a ∈ zs))) := by
  rw [gIn3_tup]
  unfold gIn gInL gInT
  have h1 : (zs.map fun l => M.D.str (S l)).all flatD = true := by simp [flatD]
  simp only [Option.none_or]
  rw [if_pos ⟨rfl, h1⟩, List.any_map]
  simp only [Function.comp_def, eqF_S, Bool.false_eq_true, if_false]
  congr 2
  rw [List.any_eq, decide_eq_decide]
  simp
theorem shaped_strs : ∀ {zs : List (List Nat)}, (∀ z ∈ zs, Ok z) → ∃ ps, toPys (zs.map fun l => M.D.str (S l)) = some ps ∧ PyData.canLayAll0 ps = true ∧ PyData.depthAll ps ≤ 1 ∧ ps = zs.map fun l => PyData.str (S l)
  | [], _ => ⟨[], rfl, rfl, by simp [PyData.depthAll], rfl⟩
  | z :: zs, h => by
    obtain ⟨ps, h1, h2, h3, h4⟩ := shaped_strs fun x hx => h x (List.mem_cons_of_mem _ hx)
    refine ⟨.str (S z) :: ps, by simp only [List.map_cons, toPys, toPy, h1]; rfl, by simp [PyData.canLayAll0, PyData.canLay0, h2, (h z (by simp)).so], ?_, by simp [h4]⟩
    simp only [PyData.depthAll, PyData.depth]
    omega
theorem inStrs_l {a : List Nat} (ha : Ok a) {zs : List (List Nat)} (hz : ∀ z ∈ zs, Ok z) : gIn3 false (.str (S a)) (.lst (zs.map fun l => .str (S l))) = some (.bl (decide (a ∈ zs))) := by
  obtain ⟨ps, h1, h2, h3, h4⟩ := shaped_strs hz
  rw [gIn3_lst]
  unfold gIn gInL gInT
  have s1 : SeqAt.shaped (.str (S a)) = true := shaped_str ha.so
  have s2 : SeqAt.shaped (.list ps) = true := by
    unfold SeqAt.shaped
    rw [show PyData.canLay0 (.list ps) = true by simpa [PyData.canLay0] using h2, decide_eq_true (by simp only [PyData.depth]; omega)]; rfl
  simp only [toPy, h1, Option.bind_some]
  rw [if_pos ⟨s1, s2⟩, h4]
  simp only [Option.some_or, Bool.false_eq_true, if_false, List.any_map, Function.comp_def, PyData.eqv, Bool.beq_eq_decide_eq, S_inj]
  congr 2
  rw [List.any_eq, decide_eq_decide]
  simp
abbrev encS (l : List Nat) : M.D := .str (S l)
/-! numbers as texts -/
abbrev nl (n : Nat) : List Nat := TL.numL n
def numI (i : Int) : List Nat := if i < 0 then 45 :: nl (-i).toNat else nl i.toNat
theorem str_nat (n : Nat) : Str.ofString (toString ((n : Nat) : Int)) = S (nl n) := TL.ext_tl (TL.tl_num n)
theorem str_neg (n : Nat) : Str.ofString (toString (Int.negSucc n)) = S (45 :: nl (n + 1)) := by
  apply TL.ext_tl
  have h := TL.tl_num (n + 1)
  rw [TL.tl_ofString] at h
  rw [TL.tl_ofString]
  show (("-" ++ toString (n + 1)).toList).map Char.toNat = 45 :: nl (n + 1)
  rw [String.toList_append, List.map_append]
  show [45] ++ ((toString (n + 1)).toList).map Char.toNat = _
  exact congrArg (List.cons 45) h
theorem gStr_ok {i : Int} (h : -100000000000000 < i ∧ i < 100000000000000) : gStr (.int i) = some (.str (S (numI i))) := by
  rw [gStr_pos (by unfold BDIV; omega)]
  unfold numI
  cases i with
  | ofNat n => rw [if_neg (by simp), show Int.ofNat n = ((n : Nat) : Int) from rfl, str_nat]; rfl
  | negSucc n => rw [if_pos (Int.negSucc_lt_zero n), str_neg]; rfl
theorem nl_len {n : Nat} (h : n < 1000000000000) : (nl n).length ≤ 12 := TL.numL_len (by omega) h
theorem nl_ne (n : Nat) : nl n ≠ [] := TL.numL_ne n
def DD : List Nat := [48, 49, 50, 51, 52, 53, 54, 55, 56, 57]
theorem lit_D : ("0123456789" : Str) = S DD := by decide +kernel
theorem nl_DD (n : Nat) : ∀ c ∈ nl n, c ∈ DD := fun c hc => by
  have := TL.numL_digits n c hc
  have h : c = 48 ∨ c = 49 ∨ c = 50 ∨ c = 51 ∨ c = 52 ∨ c = 53 ∨ c = 54 ∨ c = 55 ∨ c = 56 ∨ c = 57 := by omega
  rcases h with rfl | rfl | rfl | rfl | rfl | rfl | rfl | rfl | rfl | rfl <;> decide
theorem addS {a b : List Nat} (h : a.length + b.length ≤ 1000000) : gAdd (.str (S a)) (.str (S b)) = some (.str (S (a ++ b))) := by rw [gAdd_str, if_pos (by simpa using h), S_app]
theorem strsD_S : ∀ ys : List (List Nat), strsD (ys.map encS) = some (ys.map S)
  | [] => rfl
  | y :: ys => by
    show (strsD (ys.map encS)).map _ = _
    rw [strsD_S ys]; rfl
theorem joinL_len (s : List Nat) : ∀ ys : List (List Nat), (TL.joinL s ys).length ≤ ys.flatten.length + ys.length * s.length
  | [] => by simp [TL.joinL]
  | [p] => by simp [TL.joinL]
  | p :: q :: r => by
    show (p ++ (s ++ TL.joinL s (q :: r))).length ≤ _
    have := joinL_len s (q :: r)
    rw [List.flatten_cons, List.length_append, List.length_append, List.length_append, List.length_cons, Nat.succ_mul]
    omega
/-! joined texts -/
theorem join_Ss (s : List Nat) (ys : List (List Nat)) : Txt.join (S s) (ys.map S) = S (TL.joinL s ys) := by
  show PySem.Builtin.Str.glued (S s) _ = _
  rw [StrLaws.glued_eq_join]
  apply TL.ext_tl
  rw [TL.tl_join, show TL.tl (S s) = s from rfl, List.map_map]
  have : (TL.tl ∘ S) = id := by funext l; rfl
  rw [this, List.map_id]; rfl
theorem joinOk_Ss {s : List Nat} {ys : List (List Nat)} (h : ys.flatten.length + ys.length * s.length ≤ 16777216) : joinOk (S s) (ys.map S) := by
  unfold joinOk
  rw [List.map_map, List.length_map, S_len]
  have : ((fun z : Str => z.length) ∘ S) = List.length := by funext l; simp
  rw [this, ← List.length_flatten]
  exact h
theorem ok_small {l : List Nat} (h : (l.all fun c => decide (c < 1000)) = true) : Ok l := fun c hc => by
  rw [List.all_eq_true] at h
  have := h c hc
  simp at this
  omega
theorem ok_DD {w : List Nat} (h : ∀ c ∈ w, c ∈ DD) : Ok w := fun c hc => (ok_small (l := DD) (by decide)) c (h c hc)
def un (z : Str) : List Nat := z.cps.toList
theorem S_un (z : Str) : S (un z) = z := TL.mk_tl z
theorem at_strs (zs : List Str) (P : List Nat → Prop) (h : ∀ z ∈ zs, P (un z)) {v : Int} (h0 : 0 ≤ v) (h1 : v < zs.length) : ∃ w, atI (zs.map M.D.str) v = some (.str (S w)) ∧ P w := by
  have hl : v.toNat < zs.length := by omega
  refine ⟨un zs[v.toNat], ?_, h _ (List.getElem_mem _)⟩
  rw [atI_pos h0 (by simpa using h1), S_un]
  simp [hl]
/-! split -/
theorem split_S {s : Nat} (hs : s < 256) {ys : List (List Nat)} (hne : ys ≠ []) (h : ∀ y ∈ ys, s ∉ y) : Txt.split (S (TL.joinL [s] ys)) (S [s]) = ys.map S := by
  rw [← join_Ss]
  refine TL.split_join (y := S [s]) (s := s) (S := []) rfl ?_ (by simpa using hne) fun p hp => ?_
  · show (#[s] : Array Nat).all (· < 256) = true
    simp [hs]
  · obtain ⟨y, hy, rfl⟩ := List.mem_map.mp hp
    exact h y hy
theorem joinL_app (s : List Nat) : ∀ (a b c : List (List Nat)), b ≠ [] → TL.joinL s (a ++ [TL.joinL s b] ++ c) = TL.joinL s (a ++ b ++ c)
  | [], [p], c, _ => rfl
  | [], p :: q :: r, c, _ => by
    have ih := joinL_app s [] (q :: r) c (by simp)
    simp only [List.nil_append] at ih ⊢
    show TL.joinL s ((p ++ (s ++ TL.joinL s (q :: r))) :: c) = p ++ (s ++ TL.joinL s (q :: r ++ c))
    rw [← ih]
    cases c with
    | nil => rfl
    | cons d c => show (p ++ (s ++ TL.joinL s (q :: r))) ++ (s ++ TL.joinL s (d :: c)) = p ++ (s ++ (TL.joinL s (q :: r) ++ (s ++ TL.joinL s (d :: c)))); simp
  | x :: a, b, c, hb => by
    have ih := joinL_app s a b c hb
    have e : ∀ l : List (List Nat), l ≠ [] → TL.joinL s (x :: l) = x ++ (s ++ TL.joinL s l) := fun l hl => by
      cases l with
      | nil => exact absurd rfl hl
      | cons y l => rfl
    rw [List.cons_append, List.cons_append, List.cons_append, List.cons_append, e _ (by simp), e _ (by simp [hb]), ih]
end Lk30



namespace Lk30
open PySem L2 M
theorem iRg1_step {f : EF} {S S' : Ms} {n : Nat} (h : f S = some (.int (n : Int), S')) (hn : n ≤ 1000000) : iRg1 f S = some ((List.range n).map (fun j : Nat => M.D.int (j : Int)), S') := by
  rw [iRg1_ap, h]
  simp only [Option.bind_some]
  rw [if_pos (by omega), show ((n : Int)).toNat = n by omega]
  unfold rngD
  simp
theorem iRg2_step {f g : EF} {S S1 S2 : Ms} {a b : Int} (h1 : f S = some (.int a, S1)) (h2 : g S1 = some (.int b, S2)) (ha : -1000000 ≤ a ∧ a ≤ 1000000) (hb : -1000000 ≤ b ∧ b ≤ 1000000) : iRg2 f g S = some (rngD a (b - a).toNat, S2) := by
  rw [iRg2_ap, h1]
  simp only [Option.bind_some, h2]
  rw [if_pos (by omega)]
/-! rows that are drawn -/
def RowOk (l : List Nat) : Prop := (∀ c ∈ l, 32 ≤ c ∧ c < 127) ∧ l.length ≤ 20
def rowB (l : List Nat) : Bool := (l.all fun c => decide (32 ≤ c) && decide (c < 127)) && decide (l.length ≤ 20)
theorem rowB_ok {l : List Nat} (h : rowB l = true) : RowOk l := by
  unfold rowB at h
  simp only [Bool.and_eq_true, List.all_eq_true, decide_eq_true_eq] at h
  exact h
def TR : List Str := ["on", "none", "found 1", "place row 1", "text 2", "over", "dead 1", "met 1,2", "apart 1", "", " ", "end"]
def SGN : List Nat := un "abcdefghijklmnopqrstuvwxyz 0123456789<>=!+-()[],:;._~#&*/?@ABCXYZ"
theorem lit_SGN : ("abcdefghijklmnopqrstuvwxyz 0123456789<>=!+-()[],:;._~#&*/?@ABCXYZ" : Str) = S SGN := (S_un _).symm
theorem sgn_len : SGN.length = 65 := by decide +kernel
theorem sgn_ok : ∀ c ∈ SGN, 32 ≤ c ∧ c < 127 := by decide +kernel
theorem lit_e : ("" : Str) = S [] := by decide +kernel
theorem sgn_at {v : Int} (h0 : 0 ≤ v) (h1 : v < 65) : ∃ c, gIx (.str (S SGN)) (.int v) = some (.str (S [c])) ∧ 32 ≤ c ∧ c < 127 := by
  have hl : v.toNat < SGN.length := by rw [sgn_len]; omega
  have e := ixS (l := SGN) (i := v.toNat) (c := SGN[v.toNat]) (by rw [sgn_len]; omega) (by simp [hl])
  rw [show ((v.toNat : Nat) : Int) = v by omega] at e
  exact ⟨_, e, sgn_ok _ (List.getElem_mem _)⟩
theorem row_loop (x0 x1 : M.Slot) (m : List Cell) : ∀ (L : List M.D) (l : List Nat) (n : Int) (x5 : M.Slot), (∀ c ∈ l, 32 ≤ c ∧ c < 127) → l.length + L.length ≤ 20 → 0 ≤ n → ∃ (l' : List Nat) (n' : Int) (y5 : M.Slot), RowOk l' ∧ M.forM (gNm 5) l_law_row_1 L ⟨[x0, x1, .val (.str (S SGN)), .val (.int n), .val (.str (S l)), x5], m⟩ = some (.nx, ⟨[x0, x1, .val (.str (S SGN)), .val (.int n'), .val (.str (S l')), y5], m⟩) := by
  intro L
  induction L with
  | nil => intro l n x5 h hl _; exact ⟨l, n, x5, ⟨h, by simpa using hl⟩, rfl⟩
  | cons a L ih =>
    intro l n x5 h hl hn
    simp only [List.length_cons] at hl
    obtain ⟨c, hc, hc2⟩ := sgn_at (v := n % 65) (Int.emod_nonneg _ (by omega)) (Int.emod_lt_of_pos _ (by omega))
    have ha := addS (a := l) (b := [c]) (by simp; omega)
    obtain ⟨l', n', y5, g1, g2⟩ := ih (l ++ [c]) (n / 65) (.val a) (fun d hd => by
      rcases List.mem_append.mp hd with hd | hd
      · exact h d hd
      · simp at hd; subst hd; exact hc2) (by simp; omega) (Int.ediv_nonneg hn (by omega))
    refine ⟨l', n', y5, g1, ?_⟩
    rw [← g2, forM_cons]
    have hlen := lenS (l := SGN) (by rw [sgn_len]; omega)
    rw [sgn_len] at hlen
    generalize M.forM (gNm 5) l_law_row_1 L = K
    unfold l_law_row_1
    simp [-gAdd_str, hlen, hc, ha]
theorem row_ok (a b : Int) (ha : 0 ≤ a ∧ a < 60) (hb : 0 ≤ b) (m : List Cell) : ∃ l, RowOk l ∧ f_law_row [.lst [.int a, .int b]] m = some (.str (S l), m) := by
  by_cases c : a < 24
  · obtain ⟨w, hw, hw2⟩ := at_strs TR RowOk (fun z hz => rowB_ok (by
      have : ∀ z ∈ TR, rowB (un z) = true := by decide +kernel
      exact this z hz)) (v := a / 2) (by omega) (by show a / 2 < 12; omega)
    have hw' : atI [M.D.str "on", .str "none", .str "found 1", .str "place row 1", .str "text 2", .str "over", .str "dead 1", .str "met 1,2", .str "apart 1", .str "", .str " ", .str "end"] (a / 2) = some (.str (S w)) := hw
    refine ⟨w, hw2, ?_⟩
    unfold f_law_row b_law_row
    simp [fnM_ap, c, hw']
  · obtain ⟨n, hn⟩ : ∃ n : Nat, a % 12 = (n : Int) := ⟨(a % 12).toNat, by omega⟩
    obtain ⟨l', n', y5, h1, h2⟩ := row_loop (.val (.lst [.int a, .int b])) (.val (.lst [M.D.str "on", .str "none", .str "found 1", .str "place row 1", .str "text 2", .str "over", .str "dead 1", .str "met 1,2", .str "apart 1", .str "", .str " ", .str "end"])) m ((List.range n).map fun j : Nat => M.D.int (j : Int)) [] b .emp (by simp) (by simp; omega) hb
    refine ⟨l', h1, ?_⟩
    have r1 : ∀ S0 : Ms, S0.r[0]? = some (.val (.lst [.int a, .int b])) → iRg1 (eOp gMod (eCall gInt3 (eOpL gIx 0 (eC (.int 0)))) (eC (.int 12))) S0 = some ((List.range n).map (fun j : Nat => M.D.int (j : Int)), S0) := fun S0 h0 => iRg1_step (by simp [h0, hn]) (by omega)
    generalize (List.range n).map (fun j : Nat => M.D.int (j : Int)) = L at h2 r1
    unfold f_law_row b_law_row
    rw [← lit_e] at h2
    simp [-iRg1_ap, fnM_ap, c, lit_SGN, r1, h2]
theorem rows_loop (ns : List Int) (place cnt : Int) (m : List Cell) : ∀ (k j : Nat) (acc : List (List Nat)) (x4 : M.Slot), (∀ y ∈ acc, RowOk y) → acc.length = j → j + k ≤ 1000 → ∃ (ys : List (List Nat)) (y4 : M.Slot), ys.length = j + k ∧ (∀ y ∈ ys, RowOk y) ∧ M.forM (gNm 4) l_law_rows_1 ((List.range' j k).map fun i : Nat => M.D.int (i : Int)) ⟨[.val (.sc (I ns)), .val (.int place), .val (.int cnt), .own (.lst (acc.map encS)), x4], m⟩ = some (.nx, ⟨[.val (.sc (I ns)), .val (.int place), .val (.int cnt), .own (.lst (ys.map encS)), y4], m⟩) := by
  intro k
  induction k with
  | zero => intro j acc x4 h hl _; exact ⟨acc, x4, by simp [hl], h, rfl⟩
  | succ k ih =>
    intro j acc x4 h hl hk
    obtain ⟨ds, hd, hD⟩ := draws_ok ns [60, 1000000000000000000000000] (place + j) (by intro s hs; simp at hs; rcases hs with rfl | rfl <;> omega) (by simp) m
    obtain ⟨a, b, rfl, ha, hb⟩ : ∃ a b, ds = [a, b] ∧ (0 ≤ a ∧ a < 60) ∧ 0 ≤ b := by
      cases hD with
      | cons h1 h2 t =>
        cases t with
        | cons h3 h4 t => cases t; exact ⟨_, _, rfl, ⟨h1, h2⟩, h3⟩
    obtain ⟨l, hl1, hl2⟩ := row_ok a b ha hb m
    obtain ⟨ys, y4, g1, g2, g3⟩ := ih (j + 1) (acc ++ [l]) (.val (.int (j : Int))) (by
      intro y hy
      rcases List.mem_append.mp hy with hy | hy
      · exact h y hy
      · simp at hy; subst hy; exact hl1) (by simp [hl]) (by omega)
    refine ⟨ys, y4, by omega, g2, ?_⟩
    rw [← g3, List.range'_succ, List.map_cons, forM_cons]
    have hp : gPow (.int 10) (.int 24) = some (.int 1000000000000000000000000) := by rw [gPow_int, if_pos (by decide)]; rfl
    have hd' : f_law_draws [.sc (I ns), .int (place + j), .lst [.int 60, .int 1000000000000000000000000]] m = some (.lst (I [a, b]), m) := hd
    have hl2' : f_law_row [.lst (I [a, b])] m = some (.str (S l), m) := hl2
    generalize M.forM (gNm 4) l_law_rows_1 ((List.range' (j + 1) k).map fun i : Nat => M.D.int (i : Int)) = K
    generalize I [a, b] = ab at hd' hl2'
    unfold l_law_rows_1
    simp [hp, hd', hl2', show acc.length < 1000000 by omega]
theorem rows_ok (ns : List Int) (place : Int) (n : Nat) (hn : n ≤ 1000) (m : List Cell) : ∃ ys : List (List Nat), ys.length = n ∧ (∀ y ∈ ys, RowOk y) ∧ f_law_rows [.sc (I ns), .int place, .int (n : Int)] m = some (.lst (ys.map encS), m) := by
  obtain ⟨ys, y4, h1, h2, h3⟩ := rows_loop ns place n m n 0 [] .emp (by simp) rfl (by omega)
  refine ⟨ys, by omega, h2, ?_⟩
  have r1 : ∀ S0 : Ms, S0.r[2]? = some (.val (.int (n : Int))) → iRg1 (eVar 2) S0 = some ((List.range n).map (fun j : Nat => M.D.int (j : Int)), S0) := fun S0 h0 => iRg1_step (by simp [h0]) (by omega)
  rw [← List.range_eq_range'] at h3
  generalize (List.range n).map (fun j : Nat => M.D.int (j : Int)) = L at h3 r1
  unfold f_law_rows b_law_rows
  generalize l_law_rows_1 = lp at h3
  simp only [List.map_nil] at h3
  simp [-iRg1_ap, fnM_ap, r1, h3]
/-! numbers -/
def nI (ns : List Nat) : List M.D := ns.map fun n : Nat => .int (n : Int)
theorem number_ok (d : Int) (h : 0 ≤ d) (m : List Cell) : ∃ n : Nat, n < 1000000000000 ∧ f_law_number [.int d] m = some (.int (n : Int), m) := by
  have hp : gPow (.int 10) (.int 12) = some (.int 1000000000000) := by rw [gPow_int, if_pos (by decide)]; rfl
  unfold f_law_number b_law_number
  by_cases c1 : d % 7 = 0
  · have h0 : 0 ≤ d / 7 := Int.ediv_nonneg h (by omega)
    refine ⟨(d / 7 % 1000000000000).toNat, by omega, ?_⟩
    rw [show (((d / 7 % 1000000000000).toNat : Nat) : Int) = d / 7 % 1000000000000 by omega]
    simp [fnM_ap, c1, hp]
  · by_cases c2 : d % 7 = 1
    · exact ⟨999999999999, by omega, by simp [fnM_ap, c1, c2, hp]⟩
    · have h0 : 0 ≤ d / 7 := Int.ediv_nonneg h (by omega)
      refine ⟨(d / 7 % 12).toNat, by omega, ?_⟩
      rw [show (((d / 7 % 12).toNat : Nat) : Int) = d / 7 % 12 by omega]
      simp [fnM_ap, c1, c2]
theorem numbers_comp (x0 : M.Slot) (m : List Cell) : ∀ ds : List Int, (∀ d ∈ ds, 0 ≤ d) → ds.length ≤ 1000 → ∃ ns : List Nat, ns.length = ds.length ∧ (∀ n ∈ ns, n < 1000000000000) ∧ ∀ acc : List M.D, acc.length + ds.length ≤ 2000 → lcM (gNm 1) bYes c_law_numbers_1 [1] (I ds) acc ⟨[x0, .emp], m⟩ = some (acc ++ nI ns, ⟨[x0, .emp], m⟩) := by
  intro ds
  induction ds with
  | nil => intro _ _; exact ⟨[], rfl, by simp, fun acc _ => by rw [show I [] = [] from rfl, lcM_nil]; simp [nI]⟩
  | cons d ds ih =>
    intro h hl
    simp only [List.length_cons] at hl
    obtain ⟨n, hn, e⟩ := number_ok d (h d (by simp)) m
    obtain ⟨ns, h1, h2, h3⟩ := ih (fun x hx => h x (List.mem_cons_of_mem _ hx)) (by omega)
    refine ⟨n :: ns, by simp [h1], ?_, fun acc ha => ?_⟩
    · intro x hx
      rcases List.mem_cons.mp hx with rfl | hx
      · exact hn
      · exact h2 x hx
    · simp only [List.length_cons] at ha
      have h3' := h3 (acc ++ [.int (n : Int)]) (by simp; omega)
      rw [I_cons, lcM_cons, show acc ++ nI (n :: ns) = acc ++ [.int (n : Int)] ++ nI ns by simp [nI], ← h3']
      generalize lcM (gNm 1) bYes c_law_numbers_1 [1] (I ds) = K
      unfold c_law_numbers_1
      simp [wipeR, restR, e, show acc.length < 1000000 by omega]
theorem cutD_I (ds : List Int) (a b : Option Int) : ∃ es : List Int, cutD (I ds) a b = I es ∧ (∀ e ∈ es, e ∈ ds) ∧ es.length ≤ ds.length := by
  unfold cutD
  refine ⟨(ds.drop _).take _, by simp only [I, List.map_drop, List.map_take, List.length_map]; rfl, ?_, ?_⟩
  · intro e he; exact List.mem_of_mem_drop (List.mem_of_mem_take he)
  · simp; omega
theorem cut_nn (ds : List M.D) (a b : Nat) (ha : a ≤ ds.length) (hb : b ≤ ds.length) : cutD ds (some (a : Int)) (some (b : Int)) = (ds.drop a).take (b - a) := by
  unfold cutD
  rw [HT.sIx_nat, HT.sIx_nat, Nat.min_eq_left ha, Nat.min_eq_left hb]
theorem cut_I (ds : List Int) (a b : Nat) (ha : a ≤ ds.length) (hb : b ≤ ds.length) : cutD (I ds) (some (a : Int)) (some (b : Int)) = I ((ds.drop a).take (b - a)) := by
  rw [cut_nn _ _ _ (by simpa using ha) (by simpa using hb)]
  simp [I, List.map_drop, List.map_take]
theorem numbers_ok (ds : List Int) (h : ∀ d ∈ ds, 0 ≤ d) (h2 : 2 ≤ ds.length) (hl : ds.length ≤ 100) (m : List Cell) : ∃ ns : List Nat, 1 ≤ ns.length ∧ ns.length + 1 ≤ ds.length ∧ (∀ n ∈ ns, n < 1000000000000) ∧ f_law_numbers [.lst (I ds)] m = some (.tup (nI ns), m) := by
  obtain ⟨a, ha⟩ : ∃ a, ds[0]? = some a := ⟨ds[0], by simp⟩
  have hat := atI_In ha
  rw [show (((0 : Nat)) : Int) = 0 from rfl] at hat
  obtain ⟨k, hk, hk2⟩ : ∃ k : Nat, a % ((ds.length : Int) - 1) = (k : Int) ∧ k < ds.length - 1 := by
    have h1 := Int.emod_nonneg a (show (ds.length : Int) - 1 ≠ 0 by omega)
    have h2 := Int.emod_lt_of_pos a (show 0 < (ds.length : Int) - 1 by omega)
    exact ⟨(a % ((ds.length : Int) - 1)).toNat, by omega, by omega⟩
  have hcut := cut_I ds 1 (2 + k) (by omega) (by omega)
  rw [show (((1 : Nat)) : Int) = 1 from rfl, show ((2 + k : Nat) : Int) = 2 + (k : Int) by omega] at hcut
  obtain ⟨ns, g1, g2, g3⟩ := numbers_comp (.val (.lst (I ds))) m ((ds.drop 1).take (2 + k - 1)) (fun d hd => h d (List.mem_of_mem_drop (List.mem_of_mem_take hd))) (by simp; omega)
  have g4 := g3 [] (by simp; omega)
  simp only [List.length_take, List.length_drop] at g1
  rw [List.nil_append] at g4
  refine ⟨ns, by omega, by omega, g2, ?_⟩
  have hlen : (I ds).length = ds.length := by simp
  have hpos : (1 : Int) < (ds.length : Int) := by omega
  have hb : ((ds.length : Int) - 1) < 100000000000000000000000000000000000000000000000000 := by omega
  generalize I ((ds.drop 1).take (2 + k - 1)) = E at hcut g4
  generalize I ds = W at *
  have hgl : gLen (.lst W) = some (.int (ds.length : Int)) := by rw [gLen_lst, hlen]
  generalize (ds.length : Int) = N at *
  have hsl : gSl3 (.lst W) (some 1) (some (2 + (k : Int))) = some (.lst E) := by show some (M.D.lst (cutD W _ _)) = _; rw [hcut]
  unfold f_law_numbers b_law_numbers
  generalize c_law_numbers_1 = cc at g4
  simp [-gLen_lst, fnM_ap, hgl, hat, hpos, hb, hk, hcut, g4]
/-! tokens -/
inductive Tok where
  | on | over | dead (ns : List Nat) | met (fs : List (List Nat))
def NsOk (ns : List Nat) : Prop := 1 ≤ ns.length ∧ ns.length ≤ 7 ∧ ∀ n ∈ ns, n < 1000000000000
def TokOk : Tok → Prop
  | .on | .over => True
  | .dead ns => NsOk ns
  | .met fs => 1 ≤ fs.length ∧ fs.length ≤ 6 ∧ ∀ f ∈ fs, NsOk f
def encT : Tok → M.D
  | .on => .tup [.str "on"]
  | .over => .tup [.str "over"]
  | .dead ns => .tup [.str "dead", .tup (nI ns)]
  | .met fs => .tup [.str "met", .tup (fs.map fun f => .tup (nI f))]
theorem Dr.pos {ss ds : List Int} (h : Dr ss ds) : ∀ d ∈ ds, 0 ≤ d := by
  induction h with
  | nil => intro d hd; simp at hd
  | cons a b _ ih =>
    intro d hd
    rcases List.mem_cons.mp hd with rfl | hd
    · exact a
    · exact ih d hd
theorem Dr.at {ss ds : List Int} (h : Dr ss ds) : ∀ {i : Nat} {s : Int}, ss[i]? = some s → ∃ d, ds[i]? = some d ∧ 0 ≤ d ∧ d < s := by
  induction h with
  | nil => intro i s e; simp at e
  | cons a b _ ih =>
    intro i s e
    cases i with
    | zero => simp at e; subst e; exact ⟨_, rfl, a, b⟩
    | succ i => exact ih (by simpa using e)
theorem p12 : gPow (.int 10) (.int 12) = some (.int 1000000000000) := by rw [gPow_int, if_pos (by decide)]; rfl
theorem tok_sizes (x0 x1 x2 x3 : M.Slot) (n : Nat) (hn : n ≤ 100) (m : List Cell) : lcM (gNm 4) bYes c_law_token_1 [4] ((List.range n).map fun j : Nat => M.D.int (j : Int)) [] ⟨[x0, x1, x2, x3, .emp], m⟩ = some (I (List.replicate n 7000000000000), ⟨[x0, x1, x2, x3, .emp], m⟩) := by
  rw [lc_map (fun j : Nat => M.D.int (j : Int)) (fun _ => .int 7000000000000) _ (fun k _ => ?_) (by simp; omega)]
  · simp [I, List.map_const']
  · unfold stepC c_law_token_1
    simp [wipeR, restR, p12]
theorem floors_comp (ds : List Int) (h : ∀ d ∈ ds, 0 ≤ d) (hl : ds.length = 40) (x0 x1 x3 : M.Slot) (m : List Cell) : ∀ k j : Nat, j + k ≤ 6 → ∃ fs : List (List Nat), fs.length = k ∧ (∀ f ∈ fs, NsOk f) ∧ ∀ acc : List M.D, acc.length + k ≤ 100 → lcM (gNm 4) bYes c_law_token_2 [4] ((List.range' j k).map fun i : Nat => M.D.int (i : Int)) acc ⟨[x0, x1, .val (.lst (I ds)), x3, .emp], m⟩ = some (acc ++ fs.map (fun f => M.D.tup (nI f)), ⟨[x0, x1, .val (.lst (I ds)), x3, .emp], m⟩) := by
  intro k
  induction k with
  | zero => intro j _; exact ⟨[], rfl, by simp, fun acc _ => by simp [lcM_nil]⟩
  | succ k ih =>
    intro j hj
    have hcut := cut_I ds (10 + 5 * j) (15 + 5 * j) (by omega) (by omega)
    obtain ⟨ns, g1, g2, g3, g4⟩ := numbers_ok ((ds.drop (10 + 5 * j)).take (15 + 5 * j - (10 + 5 * j))) (fun d hd => h d (List.mem_of_mem_drop (List.mem_of_mem_take hd))) (by simp; omega) (by simp; omega) m
    obtain ⟨fs, h1, h2, h3⟩ := ih (j + 1) (by omega)
    simp only [List.length_take, List.length_drop] at g2
    refine ⟨ns :: fs, by simp [h1], ?_, fun acc ha => ?_⟩
    · intro f hf
      rcases List.mem_cons.mp hf with rfl | hf
      · exact ⟨g1, by omega, g3⟩
      · exact h2 f hf
    · have h3' := h3 (acc ++ [.tup (nI ns)]) (by simp; omega)
      have hsl : cutD (I ds) (some (10 + 5 * (j : Int))) (some (15 + 5 * (j : Int))) = I ((ds.drop (10 + 5 * j)).take (15 + 5 * j - (10 + 5 * j))) := by
        rw [← hcut]; congr 2
      rw [List.range'_succ, List.map_cons, lcM_cons, List.map_cons, show acc ++ M.D.tup (nI ns) :: fs.map (fun f => M.D.tup (nI f)) = acc ++ [M.D.tup (nI ns)] ++ fs.map (fun f => M.D.tup (nI f)) by simp, ← h3']
      generalize lcM (gNm 4) bYes c_law_token_2 [4] ((List.range' (j + 1) k).map fun i : Nat => M.D.int (i : Int)) = K
      generalize I ((ds.drop (10 + 5 * j)).take (15 + 5 * j - (10 + 5 * j))) = E at hsl g4
      unfold c_law_token_2
      have hm : gMul (.int 5) (.int (j : Int)) = some (.int (5 * (j : Int))) := by rw [gMul_int, if_pos (.inl (by omega))]
      simp [-gMul_int, wipeR, restR, hm, hsl, g4, show acc.length < 1000000 by omega]
theorem token_ok (ns : List Int) (place : Int) (m : List Cell) : ∃ t, TokOk t ∧ f_law_token [.sc (I ns), .int place] m = some (encT t, m) := by
  obtain ⟨ds, hd, hD⟩ := draws_ok ns ([5, 6] ++ List.replicate 38 7000000000000) place (by
    intro s hs
    simp only [List.mem_append, List.mem_cons, List.not_mem_nil, or_false, List.mem_replicate] at hs
    rcases hs with (rfl | rfl) | ⟨_, rfl⟩ <;> omega) (by simp) m
  have hlen : ds.length = 40 := by rw [hD.len]; simp
  obtain ⟨a, ha, a0, a1⟩ := hD.at (i := 0) (s := 5) rfl
  obtain ⟨b, hb, b0, b1⟩ := hD.at (i := 1) (s := 6) rfl
  have hat := atI_In ha
  have hbt := atI_In hb
  rw [show (((0 : Nat)) : Int) = 0 from rfl] at hat
  rw [show (((1 : Nat)) : Int) = 1 from rfl] at hbt
  have hc := tok_sizes (.val (.sc (I ns))) (.val (.int place)) .emp .emp 38 (by omega) m
  have r1 : ∀ S0 : Ms, iRg1 (eC (.int 38)) S0 = some ((List.range 38).map (fun j : Nat => M.D.int (j : Int)), S0) := fun S0 => iRg1_step (f := eC (.int 38)) (S := S0) (S' := S0) (n := 38) rfl (by omega)
  have hI : ([M.D.int 5, .int 6] : List M.D) ++ I (List.replicate 38 7000000000000) = I ([5, 6] ++ List.replicate 38 7000000000000) := by rw [I_app]; rfl
  have hIl : (I (List.replicate 38 7000000000000)).length = 38 := by simp
  have hstart : ∀ tl : SF, (sSeq (sAsg (eFn 3 f_law_draws (aCons (eVar 0) (aCons (eVar 1) (aCons (eOp gAdd (eNew (cLst (aCons (eC (.int 5)) (aCons (eC (.int 6)) aNil)))) (eNew (cLc (iRg1 (eC (.int 38))) (gNm 4) bYes c_law_token_1 [4]))) aNil)))) (gNm 2)) tl) ⟨[.val (.sc (I ns)), .val (.int place), .emp, .emp, .emp], m⟩ = tl ⟨[.val (.sc (I ns)), .val (.int place), .val (.lst (I ds)), .emp, .emp], m⟩ := fun tl => by
    generalize (List.range 38).map (fun j : Nat => M.D.int (j : Int)) = L at hc r1
    generalize I (List.replicate 38 7000000000000) = Z at hc hI hIl
    generalize I ([5, 6] ++ List.replicate 38 7000000000000) = Y at hd hI
    generalize c_law_token_1 = cc at hc
    revert tl; refine opq ?_; intro tl
    simp [-iRg1_ap, r1, hc, hIl, hI, hd]
  have fin : ∀ {t : Tok}, (∃ R, t_law_token_4 ⟨[.val (.sc (I ns)), .val (.int place), .val (.lst (I ds)), .emp, .emp], m⟩ = some (.rt (encT t), ⟨R, m⟩)) → f_law_token [.sc (I ns), .int place] m = some (encT t, m) := fun {t} ⟨R, h⟩ => by
    have e5 : f_law_token [.sc (I ns), .int place] m = (b_law_token ⟨[.val (.sc (I ns)), .val (.int place), .emp, .emp, .emp], m⟩).bind fun p => match p.1 with
      | .rt d => some (d, p.2.m)
      | .nx => some (.non, p.2.m)
      | _ => none := fnM_ap
    have := hstart t_law_token_4
    rw [h] at this
    rw [e5]
    unfold b_law_token
    rw [this]; rfl
  by_cases c0 : a = 0
  · refine ⟨.on, trivial, fin ⟨[.val (.sc (I ns)), .val (.int place), .val (.lst (I ds)), .emp, .emp], ?_⟩⟩
    unfold t_law_token_4 encT
    generalize t_law_token_3 = tl
    revert tl; refine opq ?_; intro tl
    simp [hat, c0]
  · by_cases c1 : a = 1
    · refine ⟨.over, trivial, fin ⟨[.val (.sc (I ns)), .val (.int place), .val (.lst (I ds)), .emp, .emp], ?_⟩⟩
      unfold t_law_token_4 t_law_token_3 encT
      generalize t_law_token_2 = tl
      revert tl; refine opq ?_; intro tl
      simp [hat, c0, c1]
    · by_cases c2 : a = 2
      · have hcut := cut_I ds 2 10 (by omega) (by omega)
        obtain ⟨nn, g1, g2, g3, g4⟩ := numbers_ok ((ds.drop 2).take (10 - 2)) (fun d hd => hD.pos d (List.mem_of_mem_drop (List.mem_of_mem_take hd))) (by simp; omega) (by simp; omega) m
        simp only [List.length_take, List.length_drop] at g2
        refine ⟨.dead nn, ⟨g1, by omega, g3⟩, fin ⟨[.val (.sc (I ns)), .val (.int place), .val (.lst (I ds)), .emp, .emp], ?_⟩⟩
        rw [show (((2 : Nat)) : Int) = 2 from rfl, show (((10 : Nat)) : Int) = 10 from rfl] at hcut
        generalize I ((ds.drop 2).take (10 - 2)) = E at hcut g4
        unfold t_law_token_4 t_law_token_3 t_law_token_2 encT
        generalize t_law_token_1 = tl
        revert tl; refine opq ?_; intro tl
        simp [hat, c0, c1, c2, hcut, g4]
      · obtain ⟨k, rfl⟩ : ∃ k : Nat, b = (k : Int) := ⟨b.toNat, by omega⟩
        obtain ⟨fs, h1, h2, h3⟩ := floors_comp ds hD.pos hlen (.val (.sc (I ns))) (.val (.int place)) .emp m (1 + k) 0 (by omega)
        have h4 := h3 [] (by simp; omega)
        rw [← List.range_eq_range', List.nil_append] at h4
        have r2 : ∀ S0 : Ms, S0.r[2]? = some (.val (.lst (I ds))) → iRg1 (eOp gAdd (eC (.int 1)) (eOpL gIx 2 (eC (.int 1)))) S0 = some ((List.range (1 + k)).map (fun j : Nat => M.D.int (j : Int)), S0) := fun S0 h0 => iRg1_step (by simp [h0, hbt]) (by omega)
        refine ⟨.met fs, ⟨by omega, by omega, h2⟩, fin ⟨[.val (.sc (I ns)), .val (.int place), .val (.lst (I ds)), .val (.lst (fs.map fun f => M.D.tup (nI f))), .emp], ?_⟩⟩
        generalize (List.range (1 + k)).map (fun j : Nat => M.D.int (j : Int)) = L at h4 r2
        unfold t_law_token_4 t_law_token_3 t_law_token_2 t_law_token_1 encT
        generalize c_law_token_2 = cc at h4
        simp [-iRg1_ap, hat, c0, c1, c2, r2, h4]
end Lk30



namespace Lk30
open PySem L2 M
/-! the parts of a paper -/
inductive Sub where
  | place (l : List Nat) | apart (rs : List (List Nat))
inductive Ver where
  | none | found (vs : List Int)
structure Pp where
  rows : List (List Nat)
  sub : Sub
  ver : Ver
  toks : List Tok
def RsOk (n : Nat) (rs : List (List Nat)) : Prop := 1 ≤ rs.length ∧ rs.length ≤ n ∧ ∀ r ∈ rs, RowOk r
def PlOk (l : List Nat) : Prop := (∀ c ∈ l, 32 ≤ c ∧ c < 127) ∧ l.length ≤ 40
def SubOk : Sub → Prop
  | .place l => PlOk l
  | .apart rs => RsOk 6 rs
def VerOk : Ver → Prop
  | .none => True
  | .found vs => 1 ≤ vs.length ∧ vs.length ≤ 6 ∧ ∀ v ∈ vs, -1000000000000 < v ∧ v < 1000000000000
structure POk (P : Pp) : Prop where
  rows : RsOk 20 P.rows
  sub : SubOk P.sub
  ver : VerOk P.ver
  tl : 1 ≤ P.toks.length ∧ P.toks.length ≤ 60
  toks : ∀ t ∈ P.toks, TokOk t
def encR (rs : List (List Nat)) : M.D := .str (S (TL.joinL [10] rs))
def encSub : Sub → M.D
  | .place l => .tup [.str "place", .str (S l)]
  | .apart rs => .tup [.str "apart", encR rs]
def encV : Ver → M.D
  | .none => .tup [.str "none"]
  | .found vs => .tup [.str "found", .tup (I vs)]
def encP (P : Pp) : M.D := .tup [encR P.rows, encSub P.sub, encV P.ver, .tup (P.toks.map encT)]
theorem lit_nl : ("\n" : Str) = S [10] := by decide +kernel
theorem lit_row1 : ("row 1" : Str) = S [114, 111, 119, 32, 49] := by decide +kernel
theorem flat_len {n k : Nat} : ∀ {ys : List (List Nat)}, (∀ y ∈ ys, y.length ≤ k) → ys.flatten.length ≤ ys.length * k
  | [], _ => by simp
  | y :: ys, h => by
    have := flat_len (n := n) (ys := ys) fun z hz => h z (List.mem_cons_of_mem _ hz)
    have := h y (by simp)
    rw [List.flatten_cons, List.length_append, List.length_cons, Nat.succ_mul]
    omega
theorem rows_len {n : Nat} {rs : List (List Nat)} (h : RsOk n rs) (hn : n ≤ 100) : rs.flatten.length ≤ 2000 ∧ (TL.joinL [10] rs).length ≤ 2100 := by
  have h1 := flat_len (n := 0) (k := 20) (ys := rs) (fun y hy => (h.2.2 y hy).2)
  have h2 := joinL_len [10] rs
  have h3 := h.2.1
  rw [List.length_singleton] at h2
  omega
theorem join_rows {n : Nat} {rs : List (List Nat)} (h : RsOk n rs) (hn : n ≤ 100) : strsD (rs.map encS) = some (rs.map S) ∧ joinOk (S [10]) (rs.map S) ∧ Txt.join (S [10]) (rs.map S) = S (TL.joinL [10] rs) := by
  have h1 := rows_len h hn
  have h3 := h.2.1
  exact ⟨strsD_S rs, joinOk_Ss (by rw [List.length_singleton]; omega), join_Ss _ _⟩
theorem row1_ok : ∀ c ∈ ([114, 111, 119, 32, 49] : List Nat), 32 ≤ c ∧ c < 127 := by decide
theorem rep_at {j : Nat} (h : j < 6) : (List.replicate 6 (2 : Int) ++ List.replicate 6 7000000000000)[j]? = some 2 ∧ (List.replicate 6 (2 : Int) ++ List.replicate 6 7000000000000)[6 + j]? = some 7000000000000 := by
  have : j = 0 ∨ j = 1 ∨ j = 2 ∨ j = 3 ∨ j = 4 ∨ j = 5 := by omega
  rcases this with rfl | rfl | rfl | rfl | rfl | rfl <;> exact ⟨rfl, rfl⟩
def z8 (x0 x1 x2 x3 x4 x5 x6 x7 : M.Slot) (m : List Cell) : Ms := ⟨[x0, x1, x2, x3, x4, x5, x6, x7], m⟩
section
variable (ns : List Int) (m : List Cell)
theorem pB (a : Int) (ha : 0 ≤ a ∧ a < 5) (W : List M.D) (h0 : atI W 0 = some (.int a)) : ∃ rs, RsOk 20 rs ∧ t_law_parts_7 (z8 (.val (.sc (I ns))) (.val (.lst W)) .emp .emp .emp .emp .emp .emp m) = t_law_parts_6 (z8 (.val (.sc (I ns))) (.val (.lst W)) (.val (encR rs)) .emp .emp .emp .emp .emp m) := by
  obtain ⟨n, hn⟩ : ∃ n : Nat, 1 + a = (n : Int) := ⟨(1 + a).toNat, by omega⟩
  obtain ⟨ys, g1, g2, g3⟩ := rows_ok ns 1 n (by omega) m
  have hr : RsOk 20 ys := ⟨by omega, by omega, g2⟩
  obtain ⟨j1, j2, j3⟩ := join_rows hr (by omega)
  rw [← hn] at g3
  refine ⟨ys, hr, ?_⟩
  unfold t_law_parts_7 z8 encR
  generalize t_law_parts_6 = tl
  generalize TL.joinL [10] ys = T at *
  generalize ys.map encS = Y at *
  generalize ys.map S = Z at *
  revert tl; refine opq ?_; intro tl
  simp [h0, g3, lit_nl, j1, j2, j3]
theorem lit_x : ("x" : Str) = S [120] := by decide +kernel
theorem pC (W : List M.D) (a b c : Int) (hc : 0 ≤ c ∧ c < 4) (h1 : atI W 1 = some (.int a)) (h7 : atI W 7 = some (.int b)) (h2 : atI W 2 = some (.int c)) (x2 : M.Slot) : ∃ s, SubOk s ∧ t_law_parts_6 (z8 (.val (.sc (I ns))) (.val (.lst W)) x2 .emp .emp .emp .emp .emp m) = t_law_parts_3 (z8 (.val (.sc (I ns))) (.val (.lst W)) x2 (.val (encSub s)) .emp .emp .emp .emp m) := by
  obtain ⟨ys, g1, g2, g3⟩ := rows_ok ns 6 1 (by omega) m
  obtain ⟨y, rfl⟩ : ∃ y, ys = [y] := by
    match ys, g1 with
    | [y], _ => exact ⟨y, rfl⟩
  have hy := g2 y (by simp)
  have ha := addS (a := [114, 111, 119, 32, 49]) (b := y) (by have := hy.2; simp; omega)
  have hx := addS (a := y) (b := [120]) (by have := hy.2; simp; omega)
  obtain ⟨n, hn⟩ : ∃ n : Nat, 1 + c = (n : Int) := ⟨(1 + c).toNat, by omega⟩
  obtain ⟨rs, k1, k2, k3⟩ := rows_ok ns 6 n (by omega) m
  have hr : RsOk 6 rs := ⟨by omega, by omega, k2⟩
  obtain ⟨j1, j2, j3⟩ := join_rows hr (by omega)
  have g3' : f_law_rows [.sc (I ns), .int 6, .int 1] m = some (.lst [.str (S y)], m) := g3
  rw [← hn] at k3
  clear g3
  unfold t_law_parts_6 t_law_parts_5 t_law_parts_4 z8
  by_cases c1 : a = 0
  · refine ⟨.apart rs, hr, ?_⟩
    rw [show encSub (.apart rs) = .tup [.str "apart", .str (S (TL.joinL [10] rs))] from rfl]
    generalize t_law_parts_3 = tl
    generalize TL.joinL [10] rs = T at *
    generalize rs.map encS = Y at *
    generalize rs.map S = Z at *
    generalize S ([114, 111, 119, 32, 49] ++ y) = T1 at *
    generalize S (y ++ [120]) = T2 at *
    revert tl; refine opq ?_; intro tl
    by_cases c7 : b = 0
    · simp [-gAdd_str, g3', lit_row1, lit_x, ha, hx, h7, c7, h1, c1, h2, k3, lit_nl, j1, j2, j3]
    · simp [-gAdd_str, g3', lit_row1, lit_x, ha, hx, h7, c7, h1, c1, h2, k3, lit_nl, j1, j2, j3]
  · by_cases c7 : b = 0
    · refine ⟨.place (y ++ [120]), ⟨fun z hz => ?_, by have := hy.2; simp; omega⟩, ?_⟩
      · rcases List.mem_append.mp hz with hz | hz
        · exact hy.1 z hz
        · simp at hz; omega
      rw [show encSub (.place (y ++ [120])) = .tup [.str "place", .str (S (y ++ [120]))] from rfl]
      generalize t_law_parts_3 = tl
      generalize S ([114, 111, 119, 32, 49] ++ y) = T1 at *
      generalize S (y ++ [120]) = T2 at *
      revert tl; refine opq ?_; intro tl
      simp [-gAdd_str, g3', lit_row1, lit_x, hx, ha, h7, c7, h1, c1]
    · refine ⟨.place ([114, 111, 119, 32, 49] ++ y), ⟨fun z hz => ?_, by have := hy.2; simp; omega⟩, ?_⟩
      · rcases List.mem_append.mp hz with hz | hz
        · exact row1_ok z hz
        · exact hy.1 z hz
      · rw [show encSub (.place ([114, 111, 119, 32, 49] ++ y)) = .tup [.str "place", .str (S ([114, 111, 119, 32, 49] ++ y))] from rfl]
        generalize t_law_parts_3 = tl
        generalize S ([114, 111, 119, 32, 49] ++ y) = T at *
        revert tl; refine opq ?_; intro tl
        simp [-gAdd_str, g3', lit_row1, ha, h7, c7, h1, c1]
theorem pD2 (x0 x1 x2 x3 x4 x5 x6 : M.Slot) : lcM (gNm 7) bYes c_law_parts_1 [7] ((List.range 6).map fun j : Nat => M.D.int (j : Int)) [] (z8 x0 x1 x2 x3 x4 x5 x6 .emp m) = some (I (List.replicate 6 2), z8 x0 x1 x2 x3 x4 x5 x6 .emp m) := by
  rw [lc_map (fun j : Nat => M.D.int (j : Int)) (fun _ => .int 2) _ (fun k _ => ?_) (by simp)]
  · simp [I, List.map_const']
  · unfold stepC c_law_parts_1 z8
    simp [wipeR, restR]
theorem pD7 (x0 x1 x2 x3 x4 x5 x6 : M.Slot) : lcM (gNm 7) bYes c_law_parts_2 [7] ((List.range 6).map fun j : Nat => M.D.int (j : Int)) [] (z8 x0 x1 x2 x3 x4 x5 x6 .emp m) = some (I (List.replicate 6 7000000000000), z8 x0 x1 x2 x3 x4 x5 x6 .emp m) := by
  rw [lc_map (fun j : Nat => M.D.int (j : Int)) (fun _ => .int 7000000000000) _ (fun k _ => ?_) (by simp)]
  · simp [I, List.map_const']
  · unfold stepC c_law_parts_2 z8
    simp [wipeR, restR, p12]
theorem pD3 (ds : List Int) (hD : Dr (List.replicate 6 2 ++ List.replicate 6 7000000000000) ds) (x0 x1 x2 x3 x4 x6 : M.Slot) : ∀ k j : Nat, j + k ≤ 6 → ∃ vs : List Int, vs.length = k ∧ (∀ v ∈ vs, -1000000000000 < v ∧ v < 1000000000000) ∧ ∀ acc : List M.D, acc.length + k ≤ 100 → lcM (gNm 7) bYes c_law_parts_3 [7] ((List.range' j k).map fun i : Nat => M.D.int (i : Int)) acc (z8 x0 x1 x2 x3 x4 (.val (.lst (I ds))) x6 .emp m) = some (acc ++ I vs, z8 x0 x1 x2 x3 x4 (.val (.lst (I ds))) x6 .emp m) := by
  intro k
  induction k with
  | zero => intro j _; exact ⟨[], rfl, by simp, fun acc _ => by simp [lcM_nil, I]⟩
  | succ k ih =>
    intro j hj
    obtain ⟨vs, h1, h2, h3⟩ := ih (j + 1) (by omega)
    obtain ⟨a, ha, a0, a1⟩ := hD.at (i := j) (s := 2) (rep_at (by omega)).1
    obtain ⟨b, hb, b0, b1⟩ := hD.at (i := 6 + j) (s := 7000000000000) (rep_at (by omega)).2
    have hat := atI_In ha
    have hbt := atI_In hb
    rw [show ((6 + j : Nat) : Int) = 6 + (j : Int) by omega] at hbt
    obtain ⟨n, hn, e⟩ := number_ok b b0 m
    have hm2 : gMul (.int 2) (.int a) = some (.int (2 * a)) := by rw [gMul_int, if_pos (.inl (by omega))]
    have hmm : gMul (.int (1 - 2 * a)) (.int (n : Int)) = some (.int ((1 - 2 * a) * n)) := by rw [gMul_int, if_pos (.inl (by omega))]
    have hb2 : -1000000000000 < (1 - 2 * a) * (n : Int) ∧ (1 - 2 * a) * (n : Int) < 1000000000000 := by
      have : a = 0 ∨ a = 1 := by omega
      rcases this with rfl | rfl <;> omega
    refine ⟨(1 - 2 * a) * n :: vs, by simp [h1], ?_, fun acc hacc => ?_⟩
    · intro v hv
      rcases List.mem_cons.mp hv with rfl | hv
      · exact hb2
      · exact h2 v hv
    · have h3' := h3 (acc ++ [.int ((1 - 2 * a) * n)]) (by simp; omega)
      rw [List.range'_succ, List.map_cons, lcM_cons, I_cons, show acc ++ M.D.int ((1 - 2 * a) * n) :: I vs = acc ++ [M.D.int ((1 - 2 * a) * n)] ++ I vs by simp, ← h3']
      generalize lcM (gNm 7) bYes c_law_parts_3 [7] ((List.range' (j + 1) k).map fun i : Nat => M.D.int (i : Int)) = K
      generalize I ds = W at hat hbt ⊢
      generalize (1 - 2 * a) * (n : Int) = V at hmm ⊢
      unfold c_law_parts_3 z8
      simp [-gMul_int, wipeR, restR, hat, hm2, hbt, e, hmm, show acc.length < 1000000 by omega]
theorem pD (W : List M.D) (a b : Int) (hb : 0 ≤ b ∧ b < 6) (h3 : atI W 3 = some (.int a)) (h4 : atI W 4 = some (.int b)) (x2 x3 : M.Slot) : ∃ (v : Ver) (y6 : M.Slot), VerOk v ∧ t_law_parts_3 (z8 (.val (.sc (I ns))) (.val (.lst W)) x2 x3 .emp .emp .emp .emp m) = t_law_parts_1 (z8 (.val (.sc (I ns))) (.val (.lst W)) x2 x3 (.val (encV v)) y6 .emp .emp m) := by
  by_cases c : a = 0
  · obtain ⟨ds, hd, hD⟩ := draws_ok ns (List.replicate 6 2 ++ List.replicate 6 7000000000000) 10 (by
      intro s hs
      simp only [List.mem_append, List.mem_replicate] at hs
      rcases hs with ⟨_, rfl⟩ | ⟨_, rfl⟩ <;> omega) (by simp) m
    obtain ⟨k, hk⟩ : ∃ k : Nat, 1 + b = (k : Int) := ⟨(1 + b).toNat, by omega⟩
    obtain ⟨vs, g1, g2, g3⟩ := pD3 m ds hD (.val (.sc (I ns))) (.val (.lst W)) x2 x3 (.val (.tup [.str "none"])) .emp k 0 (by omega)
    have g4 := g3 [] (by simp; omega)
    rw [← List.range_eq_range', List.nil_append] at g4
    have c2 := pD2 m (.val (.sc (I ns))) (.val (.lst W)) x2 x3 (.val (.tup [.str "none"])) .emp .emp
    have c7 := pD7 m (.val (.sc (I ns))) (.val (.lst W)) x2 x3 (.val (.tup [.str "none"])) .emp .emp
    have r6 : ∀ S0 : Ms, iRg1 (eC (.int 6)) S0 = some ((List.range 6).map (fun j : Nat => M.D.int (j : Int)), S0) := fun S0 => iRg1_step (f := eC (.int 6)) (S := S0) (S' := S0) (n := 6) rfl (by omega)
    have r2 : ∀ S0 : Ms, S0.r[1]? = some (.val (.lst W)) → iRg1 (eOp gAdd (eC (.int 1)) (eOpL gIx 1 (eC (.int 4)))) S0 = some ((List.range k).map (fun j : Nat => M.D.int (j : Int)), S0) := fun S0 h0 => iRg1_step (by simp [h0, h4, hk]) (by omega)
    refine ⟨.found vs, .val (.lst (I ds)), ⟨by omega, by omega, g2⟩, ?_⟩
    rw [show encV (.found vs) = .tup [.str "found", .tup (I vs)] from rfl]
    have hI : I (List.replicate 6 2) ++ I (List.replicate 6 7000000000000) = I (List.replicate 6 2 ++ List.replicate 6 7000000000000) := (I_app _ _).symm
    have hl1 : (I (List.replicate 6 2)).length = 6 := by simp
    have hl2 : (I (List.replicate 6 7000000000000)).length = 6 := by simp
    generalize I (List.replicate 6 2 ++ List.replicate 6 7000000000000) = Y at hd hI
    generalize I (List.replicate 6 2) = Y1 at *
    generalize I (List.replicate 6 7000000000000) = Y2 at *
    generalize I ds = W2 at *
    generalize I vs = V at *
    generalize (List.range 6).map (fun j : Nat => M.D.int (j : Int)) = L6 at *
    generalize (List.range k).map (fun j : Nat => M.D.int (j : Int)) = L at *
    unfold z8 at *
    unfold t_law_parts_3 t_law_parts_2
    generalize t_law_parts_1 = tl
    generalize c_law_parts_1 = cc1 at *
    generalize c_law_parts_2 = cc2 at *
    generalize c_law_parts_3 = cc3 at *
    revert tl; refine opq ?_; intro tl
    simp [-iRg1_ap, h3, c, r6, c2, c7, hl1, hl2, hI, hd, r2, g4]
  · refine ⟨.none, .emp, trivial, ?_⟩
    rw [show encV .none = .tup [.str "none"] from rfl]
    unfold t_law_parts_3 t_law_parts_2 z8
    generalize t_law_parts_1 = tl
    revert tl; refine opq ?_; intro tl
    simp [h3, c]
theorem pE3 (x1 x2 x3 x4 x5 x6 : M.Slot) : ∀ k j : Nat, j + k ≤ 60 → ∃ ts : List Tok, ts.length = k ∧ (∀ t ∈ ts, TokOk t) ∧ ∀ acc : List M.D, acc.length + k ≤ 100 → lcM (gNm 7) bYes c_law_parts_4 [7] ((List.range' j k).map fun i : Nat => M.D.int (i : Int)) acc (z8 (.val (.sc (I ns))) x1 x2 x3 x4 x5 x6 .emp m) = some (acc ++ ts.map encT, z8 (.val (.sc (I ns))) x1 x2 x3 x4 x5 x6 .emp m) := by
  intro k
  induction k with
  | zero => intro j _; exact ⟨[], rfl, by simp, fun acc _ => by simp [lcM_nil]⟩
  | succ k ih =>
    intro j hj
    obtain ⟨ts, h1, h2, h3⟩ := ih (j + 1) (by omega)
    obtain ⟨t, ht, e⟩ := token_ok ns (11 + (j : Int)) m
    refine ⟨t :: ts, by simp [h1], ?_, fun acc hacc => ?_⟩
    · intro v hv
      rcases List.mem_cons.mp hv with rfl | hv
      · exact ht
      · exact h2 v hv
    · have h3' := h3 (acc ++ [encT t]) (by simp; omega)
      rw [List.range'_succ, List.map_cons, lcM_cons, List.map_cons, show acc ++ encT t :: ts.map encT = acc ++ [encT t] ++ ts.map encT by simp, ← h3']
      generalize lcM (gNm 7) bYes c_law_parts_4 [7] ((List.range' (j + 1) k).map fun i : Nat => M.D.int (i : Int)) = K
      unfold c_law_parts_4 z8
      generalize encT t = T at *
      simp [wipeR, restR, e, show acc.length < 1000000 by omega]
theorem pE (W : List M.D) (a : Int) (ha : 0 ≤ a ∧ a < 9) (h5 : atI W 5 = some (.int a)) (x5 : M.Slot) (d3 d4 d5 : M.D) : ∃ (ts : List Tok) (S0 : Ms), 1 ≤ ts.length ∧ ts.length ≤ 60 ∧ (∀ t ∈ ts, TokOk t) ∧ S0.m = m ∧ t_law_parts_1 (z8 (.val (.sc (I ns))) (.val (.lst W)) (.val d3) (.val d4) (.val d5) x5 .emp .emp m) = some (.rt (.tup [d3, d4, d5, .tup (ts.map encT)]), S0) := by
  obtain ⟨k, hk⟩ : ∃ k : Nat, 1 + a = (k : Int) := ⟨(1 + a).toNat, by omega⟩
  obtain ⟨ts, g1, g2, g3⟩ := pE3 ns m (.val (.lst W)) (.val d3) (.val d4) (.val d5) x5 (.val (.int (k : Int))) k 0 (by omega)
  have g4 := g3 [] (by simp; omega)
  rw [← List.range_eq_range', List.nil_append] at g4
  have r2 : ∀ S0 : Ms, S0.r[6]? = some (.val (.int (k : Int))) → iRg1 (eVar 6) S0 = some ((List.range k).map (fun j : Nat => M.D.int (j : Int)), S0) := fun S0 h0 => iRg1_step (by simp [h0]) (by omega)
  refine ⟨ts, z8 (.val (.sc (I ns))) (.val (.lst W)) (.val d3) (.val d4) (.val d5) x5 (.val (.int (k : Int))) .emp m, by omega, by omega, g2, rfl, ?_⟩
  generalize (List.range k).map (fun j : Nat => M.D.int (j : Int)) = L at *
  generalize ts.map encT = T at *
  unfold z8 at *
  unfold t_law_parts_1
  generalize c_law_parts_4 = cc at *
  simp [-iRg1_ap, h5, hk, r2, g4]
end
theorem parts_ok (ns : List Int) (m : List Cell) : ∃ P, POk P ∧ f_law_parts [.sc (I ns)] m = some (encP P, m) := by
  obtain ⟨ds, hd, hD⟩ := draws_ok ns [5, 2, 4, 2, 6, 9, 40, 4] 0 (by
    intro s hs
    simp only [List.mem_cons, List.not_mem_nil, or_false] at hs
    rcases hs with rfl | rfl | rfl | rfl | rfl | rfl | rfl | rfl <;> omega) (by simp) m
  have at' : ∀ (i : Nat) (s : Int), ([5, 2, 4, 2, 6, 9, 40, 4] : List Int)[i]? = some s → ∃ d, atI (I ds) (i : Int) = some (.int d) ∧ 0 ≤ d ∧ d < s := fun i s h => by
    obtain ⟨d, h1, h2, h3⟩ := hD.at h
    exact ⟨d, atI_In h1, h2, h3⟩
  obtain ⟨a0, h0, p0, q0⟩ := at' 0 5 rfl
  obtain ⟨a1, h1, p1, q1⟩ := at' 1 2 rfl
  obtain ⟨a2, h2, p2, q2⟩ := at' 2 4 rfl
  obtain ⟨a3, h3, p3, q3⟩ := at' 3 2 rfl
  obtain ⟨a4, h4, p4, q4⟩ := at' 4 6 rfl
  obtain ⟨a5, h5, p5, q5⟩ := at' 5 9 rfl
  obtain ⟨a7, h7, p7, q7⟩ := at' 7 4 rfl
  generalize I ds = W at *
  obtain ⟨rs, hrs, eB⟩ := pB ns m a0 ⟨p0, q0⟩ W h0
  obtain ⟨s, hs, eC⟩ := pC ns m W a1 a7 a2 ⟨p2, q2⟩ h1 h7 h2 (.val (encR rs))
  obtain ⟨v, y6, hv, eD⟩ := pD ns m W a3 a4 ⟨p4, q4⟩ h3 h4 (.val (encR rs)) (.val (encSub s))
  obtain ⟨ts, S0, t1, t2, t3, hS, eE⟩ := pE ns m W a5 ⟨p5, q5⟩ h5 y6 (encR rs) (encSub s) (encV v)
  refine ⟨⟨rs, s, v, ts⟩, ⟨hrs, hs, hv, ⟨t1, t2⟩, t3⟩, ?_⟩
  have e0 : b_law_parts (z8 (.val (.sc (I ns))) .emp .emp .emp .emp .emp .emp .emp m) = t_law_parts_7 (z8 (.val (.sc (I ns))) (.val (.lst W)) .emp .emp .emp .emp .emp .emp m) := by
    have hd' : f_law_draws [.sc (I ns), .int 0, .lst [.int 5, .int 2, .int 4, .int 2, .int 6, .int 9, .int 40, .int 4]] m = some (.lst W, m) := hd
    unfold b_law_parts z8
    generalize t_law_parts_7 = tl
    revert tl; refine opq ?_; intro tl
    simp [hd']
  have e5 : f_law_parts [.sc (I ns)] m = (b_law_parts (z8 (.val (.sc (I ns))) .emp .emp .emp .emp .emp .emp .emp m)).bind fun p => match p.1 with
    | .rt d => some (d, p.2.m)
    | .nx => some (.non, p.2.m)
    | _ => none := fnM_ap
  rw [e5, e0, eB, eC, eD, eE]
  show some (_, S0.m) = _
  rw [hS]; rfl
end Lk30



namespace Lk30
open PySem L2 M
/-! literals -/
def TXT := un "text "
def PLC := un "place "
def APT := un "apart "
def FND := un "found "
def DED := un "dead "
def MET := un "met "
theorem lit_TXT : ("text " : Str) = S TXT := (S_un _).symm
theorem lit_PLC : ("place " : Str) = S PLC := (S_un _).symm
theorem lit_APT : ("apart " : Str) = S APT := (S_un _).symm
theorem lit_FND : ("found " : Str) = S FND := (S_un _).symm
theorem lit_DED : ("dead " : Str) = S DED := (S_un _).symm
theorem lit_MET : ("met " : Str) = S MET := (S_un _).symm
theorem lit_sp : (" " : Str) = S [32] := by decide +kernel
theorem lit_cm : ("," : Str) = S [44] := by decide +kernel
theorem lit_on : ("on" : Str) = S (un "on") := (S_un _).symm
theorem lit_over : ("over" : Str) = S (un "over") := (S_un _).symm
theorem lit_none : ("none" : Str) = S (un "none") := (S_un _).symm
theorem n_dm : ¬ ("dead" : Str) = "met" := by decide +kernel
theorem n_md : ¬ ("met" : Str) = "dead" := by decide +kernel
theorem n_od : ¬ ("on" : Str) = "dead" := by decide +kernel
theorem n_om : ¬ ("on" : Str) = "met" := by decide +kernel
theorem n_vd : ¬ ("over" : Str) = "dead" := by decide +kernel
theorem n_vm : ¬ ("over" : Str) = "met" := by decide +kernel
theorem n_ap : ¬ ("apart" : Str) = "place" := by decide +kernel
theorem n_pa : ¬ ("place" : Str) = "apart" := by decide +kernel
theorem n_fn : ¬ ("found" : Str) = "none" := by decide +kernel
theorem n_nf : ¬ ("none" : Str) = "found" := by decide +kernel
/-! numbers in a row -/
def jn (s : Nat) (vs : List Int) : List Nat := TL.joinL [s] (vs.map numI)
theorem numI_len {v : Int} (h : -1000000000000 < v ∧ v < 1000000000000) : (numI v).length ≤ 13 := by
  unfold numI
  split
  · have := nl_len (n := (-v).toNat) (by omega); simp; omega
  · have := nl_len (n := v.toNat) (by omega); omega
theorem numI_nat (n : Nat) : numI (n : Int) = nl n := by
  unfold numI
  rw [if_neg (by omega)]; rfl
def VsOk (vs : List Int) : Prop := 1 ≤ vs.length ∧ vs.length ≤ 10 ∧ ∀ v ∈ vs, -1000000000000 < v ∧ v < 1000000000000
theorem nums_flat {vs : List Int} (h : VsOk vs) : (vs.map numI).flatten.length ≤ 130 := by
  have := flat_len (n := 0) (k := 13) (ys := vs.map numI) (fun y hy => by
    obtain ⟨v, hv, rfl⟩ := List.mem_map.mp hy
    exact numI_len (h.2.2 v hv))
  rw [List.length_map] at this
  have := h.2.1
  omega
theorem jn_len {s : Nat} {vs : List Int} (h : VsOk vs) : (jn s vs).length ≤ 140 := by
  have h1 := nums_flat h
  have h2 := joinL_len [s] (vs.map numI)
  have h3 := h.2.1
  simp at h2
  unfold jn
  simp at h1
  omega
theorem jn_ok {s : Nat} {vs : List Int} (h : VsOk vs) : strsD ((vs.map numI).map encS) = some ((vs.map numI).map S) ∧ joinOk (S [s]) ((vs.map numI).map S) ∧ Txt.join (S [s]) ((vs.map numI).map S) = S (jn s vs) := by
  have h1 := nums_flat h
  have h3 := h.2.1
  exact ⟨strsD_S _, joinOk_Ss (by simp at h1 ⊢; omega), join_Ss _ _⟩
theorem vs_of {ns : List Nat} (h : NsOk ns) : VsOk (ns.map fun n : Nat => (n : Int)) ∧ nI ns = I (ns.map fun n : Nat => (n : Int)) := by
  refine ⟨⟨by simpa using h.1, by have := h.2.1; simp; omega, fun v hv => ?_⟩, by simp [nI, I, Function.comp_def]⟩
  obtain ⟨n, hn, rfl⟩ := List.mem_map.mp hv
  have := h.2.2 n hn
  omega
theorem str_comp {c : EF} {i : Nat} {S0 : Ms} {vs : List Int} (h : VsOk vs) (hc : ∀ v ∈ vs, stepC (gNm i) bYes c [i] S0 (.int v) = some (some (encS (numI v)), S0)) : lcM (gNm i) bYes c [i] (I vs) [] S0 = some ((vs.map numI).map encS, S0) := by
  unfold I
  rw [lc_map D.int (fun v => encS (numI v)) vs hc (by have := h.2.1; omega)]
  simp [Function.comp_def]
theorem joined_ok {vs : List Int} (h : VsOk vs) (s : Nat) (m : List Cell) : f_law_joined [.tup (I vs), .str (S [s])] m = some (.str (S (jn s vs)), m) := by
  have hc := str_comp (c := c_law_joined_1) (i := 2) (S0 := ⟨[.val (.tup (I vs)), .val (.str (S [s])), .emp], m⟩) h (fun v hv => by
    have := gStr_ok (i := v) (by have := h.2.2 v hv; omega)
    unfold stepC c_law_joined_1
    simp [wipeR, restR, this])
  obtain ⟨h1, h2, h3⟩ := jn_ok (s := s) h
  generalize (vs.map numI).map encS = Y at *
  generalize (vs.map numI).map S = Z at *
  generalize I vs = W at *
  unfold f_law_joined b_law_joined
  generalize c_law_joined_1 = cc at *
  simp [fnM_ap, hc, h1, h2, h3]
/-! tokens' rows -/
def nv (ns : List Nat) : List Int := ns.map fun n : Nat => (n : Int)
def flL (f : List Nat) : List Nat := jn 44 (nv f)
def tokL : Tok → List Nat
  | .on => un "on"
  | .over => un "over"
  | .dead ns => DED ++ jn 32 (nv ns)
  | .met fs => MET ++ TL.joinL [32] (fs.map flL)
theorem joinL_cons {s p : List Nat} {l : List (List Nat)} (h : l ≠ []) : TL.joinL s (p :: l) = p ++ (s ++ TL.joinL s l) := by
  cases l with
  | nil => exact absurd rfl h
  | cons q r => rfl
theorem ne_of_len {α : Type} {l : List α} (h : 1 ≤ l.length) : l ≠ [] := by
  intro e; rw [e] at h; simp at h
theorem flL_len {f : List Nat} (h : NsOk f) : (flL f).length ≤ 140 := jn_len (vs_of h).1
theorem fls_flat {fs : List (List Nat)} (h : ∀ f ∈ fs, NsOk f) (h6 : fs.length ≤ 6) : (fs.map flL).flatten.length ≤ 840 := by
  have := flat_len (n := 0) (k := 140) (ys := fs.map flL) (fun y hy => by
    obtain ⟨v, hv, rfl⟩ := List.mem_map.mp hy
    exact flL_len (h v hv))
  rw [List.length_map] at this
  omega
theorem tokL_len {t : Tok} (h : TokOk t) : (tokL t).length ≤ 900 := by
  cases t with
  | on => decide +kernel
  | over => decide +kernel
  | dead ns =>
    have := jn_len (s := 32) (vs_of h).1
    have e : DED.length = 5 := by decide +kernel
    show (DED ++ jn 32 (nv ns)).length ≤ 900
    rw [List.length_append, e]
    unfold nv
    omega
  | met fs =>
    have h1 := fls_flat h.2.2 h.2.1
    have h2 := joinL_len [32] (fs.map flL)
    have e : MET.length = 4 := by decide +kernel
    have := h.2.1
    show (MET ++ TL.joinL [32] (fs.map flL)).length ≤ 900
    simp at h2
    rw [List.length_append, e]
    simp at h1
    omega
theorem dead_join {vs : List Int} (h : VsOk vs) : Txt.join (S [32]) ("dead" :: (vs.map numI).map S) = S (DED ++ jn 32 vs) := by
  rw [show ("dead" : Str) = S (un "dead") from (S_un _).symm]
  have := join_Ss [32] (un "dead" :: vs.map numI)
  rw [List.map_cons] at this
  rw [this, joinL_cons (ne_of_len (by simpa using h.1)), show DED = un "dead" ++ [32] by decide +kernel]
  unfold jn
  simp
theorem met_join {fs : List (List Nat)} (h : 1 ≤ fs.length) : Txt.join (S [32]) ("met" :: (fs.map flL).map S) = S (MET ++ TL.joinL [32] (fs.map flL)) := by
  rw [show ("met" : Str) = S (un "met") from (S_un _).symm]
  have := join_Ss [32] (un "met" :: fs.map flL)
  rw [List.map_cons] at this
  rw [this, joinL_cons (ne_of_len (by simpa using h)), show MET = un "met" ++ [32] by decide +kernel]
  simp
theorem fnd_join {vs : List Int} (h : VsOk vs) : Txt.join (S [32]) ("found" :: (vs.map numI).map S) = S (FND ++ jn 32 vs) := by
  rw [show ("found" : Str) = S (un "found") from (S_un _).symm]
  have := join_Ss [32] (un "found" :: vs.map numI)
  rw [List.map_cons] at this
  rw [this, joinL_cons (ne_of_len (by simpa using h.1)), show FND = un "found" ++ [32] by decide +kernel]
  unfold jn
  simp
theorem joinOk_cons {w : Str} {ys : List (List Nat)} (h1 : w.length ≤ 100) (h : ys.flatten.length + ys.length ≤ 100000) : joinOk (S [32]) (w :: ys.map S) := by
  unfold joinOk
  rw [List.map_cons, List.sum_cons, List.length_cons, List.length_map, List.map_map, S_len]
  have : ((fun z : Str => z.length) ∘ S) = List.length := by funext l; simp
  rw [this, ← List.length_flatten]
  simp
  simp at h
  omega
theorem joinOk_1 {w : Str} (h1 : w.length ≤ 100) : joinOk (S [32]) [w] := by
  have := joinOk_cons (w := w) (ys := []) h1 (by simp)
  simpa using this
theorem join_1 (s w : Str) : Txt.join s [w] = w := by
  obtain ⟨l, rfl⟩ := ex_S w
  obtain ⟨k, rfl⟩ := ex_S s
  exact join_Ss k [l]
theorem vsflat {vs : List Int} (h : VsOk vs) : (vs.map numI).flatten.length + (vs.map numI).length ≤ 100000 := by
  have := nums_flat h
  have := h.2.1
  simp at *
  omega
theorem nI_I (ns : List Nat) : nI ns = I (nv ns) := by simp [nI, I, nv, Function.comp_def]
theorem nv_ok {ns : List Nat} (h : NsOk ns) : VsOk (nv ns) := (vs_of h).1
end Lk30



namespace Lk30
open PySem L2 M
/-! the rows of a paper -/
def subL : Sub → List (List Nat)
  | .place l => [PLC ++ l]
  | .apart rs => (APT ++ nl rs.length) :: rs
def verL : Ver → List Nat
  | .none => un "none"
  | .found vs => FND ++ jn 32 vs
def linesP (P : Pp) : List (List Nat) := (TXT ++ nl P.rows.length) :: P.rows ++ subL P.sub ++ [verL P.ver] ++ P.toks.map tokL
theorem nl10 {l : List Nat} (h : RowOk l) : 10 ∉ l := fun c => by have := h.1 10 c; omega
theorem split_rows {n : Nat} {rs : List (List Nat)} (h : RsOk n rs) : Txt.split (S (TL.joinL [10] rs)) (S [10]) = rs.map S := split_S (by omega) (ne_of_len h.1) fun y hy => nl10 (h.2.2 y hy)
theorem map_str (rs : List (List Nat)) : (rs.map S).map M.D.str = rs.map encS := by simp [Function.comp_def]
theorem str_nl {n : Nat} (h : n ≤ 1000) : gStr (.int (n : Int)) = some (.str (S (nl n))) := by rw [gStr_ok (by omega), numI_nat]
theorem nl_len4 {n : Nat} (h : n ≤ 1000) : (nl n).length ≤ 12 := nl_len (by omega)
theorem TXT_len : TXT.length = 5 := by decide +kernel
theorem APT_len : APT.length = 6 := by decide +kernel
theorem PLC_len : PLC.length = 6 := by decide +kernel
theorem FND_len : FND.length = 6 := by decide +kernel
theorem DED_len : DED.length = 5 := by decide +kernel
theorem MET_len : MET.length = 4 := by decide +kernel
theorem ded_met (x : List Nat) : ¬ S (DED ++ x) = "met" := by
  rw [show ("met" : Str) = S (un "met") from (S_un _).symm, S_inj, show DED = 100 :: [101, 97, 100, 32] by decide +kernel, show un "met" = 109 :: [101, 116] by decide +kernel]
  intro h
  simp at h
theorem lines_step (t : Tok) (ht : TokOk t) (acc : List (List Nat)) (ha : acc.length < 900000) (x0 x1 x2 x3 x4 x6 x7 : M.Slot) (m : List Cell) : ∃ y6 y7, (gNm 6 (encT t) ⟨[x0, x1, x2, x3, x4, .own (.lst (acc.map encS)), x6, x7, .emp], m⟩).bind l_law_lines_1 = some (.nx, ⟨[x0, x1, x2, x3, x4, .own (.lst ((acc ++ [tokL t]).map encS)), y6, y7, .emp], m⟩) := by
  have hA : (acc.map encS).length < 900000 := by simpa using ha
  rw [List.map_append, show [tokL t].map encS = [encS (tokL t)] from rfl]
  generalize acc.map encS = A at *
  cases t with
  | on =>
    refine ⟨.val (encT .on), .val (.str "on"), ?_⟩
    unfold l_law_lines_1 t_law_lines_2 t_law_lines_1 encT tokL encS
    rw [← lit_on]
    simp [n_od, n_om, show A.length < 1000000 by omega]
  | over =>
    refine ⟨.val (encT .over), .val (.str "over"), ?_⟩
    unfold l_law_lines_1 t_law_lines_2 t_law_lines_1 encT tokL encS
    rw [← lit_over]
    simp [n_vd, n_vm, show A.length < 1000000 by omega]
  | dead ns =>
    have hv := nv_ok ht
    have hj := joined_ok hv 32 m
    have hl := tokL_len ht
    rw [show tokL (.dead ns) = DED ++ jn 32 (nv ns) from rfl] at hl ⊢
    rw [show encT (.dead ns) = .tup [.str "dead", .tup (I (nv ns))] by simp [encT, nI_I]]
    have ha := addS (a := DED) (b := jn 32 (nv ns)) (by rw [List.length_append] at hl; omega)
    have hn := ded_met (jn 32 (nv ns))
    refine ⟨.val (.tup [.str "dead", .tup (I (nv ns))]), .val (encS (DED ++ jn 32 (nv ns))), ?_⟩
    unfold encS
    generalize S (DED ++ jn 32 (nv ns)) = R at *
    generalize S (jn 32 (nv ns)) = J at *
    generalize I (nv ns) = W at *
    unfold l_law_lines_1 t_law_lines_2 t_law_lines_1
    simp [-gAdd_str, lit_sp, lit_DED, hj, ha, hn, show A.length < 1000000 by omega]
  | met fs =>
    have hl := tokL_len ht
    obtain ⟨f1, f6, hf⟩ := ht
    have hc : lcM (gNm 8) bYes c_law_lines_1 [8] (fs.map fun f => M.D.tup (nI f)) [] ⟨[x0, x1, x2, x3, x4, .own (.lst A), .val (.tup [.str "met", .tup (fs.map fun f => M.D.tup (nI f))]), .val (.str "met"), .emp], m⟩ = some ((fs.map flL).map encS, ⟨[x0, x1, x2, x3, x4, .own (.lst A), .val (.tup [.str "met", .tup (fs.map fun f => M.D.tup (nI f))]), .val (.str "met"), .emp], m⟩) := by
      rw [lc_map (fun f => M.D.tup (nI f)) (fun f => encS (flL f)) fs (fun f hf' => ?_) (by omega)]
      · simp [Function.comp_def]
      · have hv := nv_ok (hf f hf')
        have hj := joined_ok hv 44 m
        rw [show nI f = I (nv f) from nI_I f, show flL f = jn 44 (nv f) from rfl]
        generalize I (nv f) = W at *
        generalize (fs.map fun f => M.D.tup (nI f)) = FF at *
        unfold stepC c_law_lines_1
        simp [wipeR, restR, hj, lit_cm]
    have h1 := strsD_S (fs.map flL)
    have hfl := fls_flat hf f6
    have h2 := joinOk_Ss (s := [32]) (ys := fs.map flL) (by rw [List.length_map]; simp at hfl ⊢; omega)
    have h3 := join_Ss [32] (fs.map flL)
    rw [show tokL (.met fs) = MET ++ TL.joinL [32] (fs.map flL) from rfl] at hl ⊢
    have ha := addS (a := MET) (b := TL.joinL [32] (fs.map flL)) (by rw [List.length_append] at hl; omega)
    rw [show encT (.met fs) = .tup [.str "met", .tup (fs.map fun f => M.D.tup (nI f))] from rfl]
    refine ⟨.val (.tup [.str "met", .tup (fs.map fun f => M.D.tup (nI f))]), .val (encS (MET ++ TL.joinL [32] (fs.map flL))), ?_⟩
    unfold encS at *
    generalize (fs.map flL).map (fun l => M.D.str (S l)) = Y at *
    generalize S (MET ++ TL.joinL [32] (fs.map flL)) = R at *
    generalize S (TL.joinL [32] (fs.map flL)) = J at *
    generalize (fs.map flL).map S = Z at *
    generalize (fs.map fun f => M.D.tup (nI f)) = FF at *
    unfold l_law_lines_1 t_law_lines_2 t_law_lines_1
    generalize c_law_lines_1 = cc at *
    simp [-gAdd_str, n_md, hc, h1, lit_sp, h2, h3, lit_MET, ha, show A.length < 1000000 by omega]
theorem lines_loop (x0 x1 x2 x3 x4 : M.Slot) (m : List Cell) : ∀ (ts : List Tok) (acc : List (List Nat)) (x6 x7 : M.Slot), (∀ t ∈ ts, TokOk t) → acc.length + ts.length < 900000 → ∃ y6 y7, M.forM (gNm 6) l_law_lines_1 (ts.map encT) ⟨[x0, x1, x2, x3, x4, .own (.lst (acc.map encS)), x6, x7, .emp], m⟩ = some (.nx, ⟨[x0, x1, x2, x3, x4, .own (.lst ((acc ++ ts.map tokL).map encS)), y6, y7, .emp], m⟩)
  | [], acc, x6, x7, _, _ => ⟨x6, x7, by simp⟩
  | t :: ts, acc, x6, x7, h, hl => by
    simp only [List.length_cons] at hl
    obtain ⟨z6, z7, e⟩ := lines_step t (h t (by simp)) acc (by omega) x0 x1 x2 x3 x4 x6 x7 m
    obtain ⟨y6, y7, ih⟩ := lines_loop x0 x1 x2 x3 x4 m ts (acc ++ [tokL t]) z6 z7 (fun u hu => h u (List.mem_cons_of_mem _ hu)) (by simp; omega)
    refine ⟨y6, y7, ?_⟩
    rw [List.append_assoc] at ih
    rw [List.map_cons, forM_cons, List.map_cons, show tokL t :: ts.map tokL = [tokL t] ++ ts.map tokL from rfl, ← ih]
    obtain ⟨S1, e1, e2⟩ := bind_some e
    rw [e1]
    simp only [Option.bind_some, e2]
theorem sub_len {s : Sub} (h : SubOk s) : (subL s).length ≤ 10 := by
  cases s with
  | place l => simp [subL]
  | apart rs => have := h.2.1; simp [subL]; omega
theorem cSplit_rows {n : Nat} {rs : List (List Nat)} (h : RsOk n rs) (hn : n ≤ 100) {fo : EF} {S0 S1 : Ms} (h1 : fo S0 = some (encR rs, S1)) : cSplit fo (eC (.str "\n")) S0 = some (.lst (rs.map encS), S1) := by
  have sp := split_rows h
  have rl := (rows_len h hn).2
  rw [cSplit_ap, h1]
  show (if ((S [10]).length == 0) = false ∧ (S (TL.joinL [10] rs)).length + 2 ≤ LIM then some (Cell.lst ((Txt.split (S (TL.joinL [10] rs)) (S [10])).map M.D.str), S1) else none) = _
  rw [sp, if_pos ⟨by rw [S_len]; rfl, by rw [S_len]; unfold LIM; omega⟩, map_str]
theorem eStr_ok {f : EF} {S0 S1 : Ms} {i : Int} {R : List Nat} (h : f S0 = some (.int i, S1)) (hb : -100000000000000 < i ∧ i < 100000000000000) (hR : numI i = R) : eCall gStr f S0 = some (.str (S R), S1) := by
  have := gStr_ok hb
  rw [hR] at this
  simp [h, this]
theorem numLen {f : CF} {S0 S1 : Ms} {rs : List (List Nat)} (h : f S0 = some (.lst (rs.map encS), S1)) (hl : rs.length ≤ 1000) : eCall gStr (eCall gLen (eNew f)) S0 = some (.str (S (nl rs.length)), S1) := by
  refine eStr_ok (i := (rs.length : Int)) ?_ (by omega) (numI_nat _)
  simp [h]
theorem lines_head (rows : List (List Nat)) (hr : RsOk 20 rows) (E2 E3 E4 : M.D) (m : List Cell) : b_law_lines ⟨[.val (.tup [encR rows, E2, E3, E4]), .emp, .emp, .emp, .emp, .emp, .emp, .emp, .emp], m⟩ = t_law_lines_5 ⟨[.val (.tup [encR rows, E2, E3, E4]), .val (encR rows), .val E2, .val E3, .val E4, .own (.lst (((TXT ++ nl rows.length) :: rows).map encS)), .emp, .emp, .emp], m⟩ := by
  have hrl := hr.2.1
  have a1 := addS (a := TXT) (b := nl rows.length) (by rw [TXT_len]; have := nl_len4 (n := rows.length) (by omega); omega)
  have cs : ∀ S0 : Ms, S0.r[1]? = some (.val (encR rows)) → cSplit (eVar 1) (eC (.str "\n")) S0 = some (.lst (rows.map encS), S0) := fun S0 h0 => cSplit_rows hr (by omega) (by simp [h0])
  have ns : ∀ S0 : Ms, S0.r[1]? = some (.val (encR rows)) → eCall gStr (eCall gLen (eNew (cSplit (eVar 1) (eC (.str "\n"))))) S0 = some (.str (S (nl rows.length)), S0) := fun S0 h0 => numLen (cs S0 h0) (by omega)
  have hlen : 1 + (rows.map encS).length ≤ 1000000 := by rw [List.length_map]; omega
  rw [List.map_cons]
  generalize encR rows = T at *
  rw [show encS (TXT ++ nl rows.length) = .str (S (TXT ++ nl rows.length)) from rfl]
  generalize S (TXT ++ nl rows.length) = RT at *
  generalize S (nl rows.length) = RN at *
  generalize rows.map encS = Y at *
  unfold b_law_lines t_law_lines_6
  generalize t_law_lines_5 = tl
  revert tl; refine opq ?_; intro tl
  simp [-gAdd_str, -cSplit_ap, -eCall_ap, cs, ns, lit_TXT, a1, hlen]
theorem lines_place (l : List Nat) (hl : PlOk l) (A : List M.D) (hA : A.length ≤ 1000) (x0 x1 x3 x4 : M.Slot) (m : List Cell) : t_law_lines_5 ⟨[x0, x1, .val (encSub (.place l)), x3, x4, .own (.lst A), .emp, .emp, .emp], m⟩ = t_law_lines_4 ⟨[x0, x1, .val (encSub (.place l)), x3, x4, .own (.lst (A ++ [encS (PLC ++ l)])), .emp, .emp, .emp], m⟩ := by
  have a1 := addS (a := PLC) (b := l) (by rw [PLC_len]; have := hl.2; omega)
  rw [show encS (PLC ++ l) = .str (S (PLC ++ l)) from rfl, show encSub (.place l) = .tup [.str "place", .str (S l)] from rfl]
  generalize S (PLC ++ l) = R at *
  unfold t_law_lines_5
  generalize t_law_lines_4 = tl
  revert tl; refine opq ?_; intro tl
  simp [-gAdd_str, lit_PLC, a1, show A.length < 1000000 by omega]
theorem lines_apart (rs : List (List Nat)) (hr : RsOk 6 rs) (A : List M.D) (hA : A.length ≤ 1000) (x0 x1 x3 x4 : M.Slot) (m : List Cell) : t_law_lines_5 ⟨[x0, x1, .val (encSub (.apart rs)), x3, x4, .own (.lst A), .emp, .emp, .emp], m⟩ = t_law_lines_4 ⟨[x0, x1, .val (encSub (.apart rs)), x3, x4, .own (.lst (A ++ encS (APT ++ nl rs.length) :: rs.map encS)), .emp, .emp, .emp], m⟩ := by
  have hrl := hr.2.1
  have a1 := addS (a := APT) (b := nl rs.length) (by rw [APT_len]; have := nl_len4 (n := rs.length) (by omega); omega)
  rw [show encSub (.apart rs) = .tup [.str "apart", encR rs] from rfl]
  have cs : ∀ S0 : Ms, S0.r[2]? = some (.val (.tup [.str "apart", encR rs])) → cSplit (eOpL gIx 2 (eC (.int 1))) (eC (.str "\n")) S0 = some (.lst (rs.map encS), S0) := fun S0 h0 => cSplit_rows hr (by omega) (by simp [h0])
  have ns : ∀ S0 : Ms, S0.r[2]? = some (.val (.tup [.str "apart", encR rs])) → eCall gStr (eCall gLen (eNew (cSplit (eOpL gIx 2 (eC (.int 1))) (eC (.str "\n"))))) S0 = some (.str (S (nl rs.length)), S0) := fun S0 h0 => numLen (cs S0 h0) (by omega)
  have hlen : (rs.map encS).length ≤ 6 := by rw [List.length_map]; omega
  generalize encR rs = T at *
  rw [show encS (APT ++ nl rs.length) = .str (S (APT ++ nl rs.length)) from rfl]
  generalize S (APT ++ nl rs.length) = RT at *
  generalize S (nl rs.length) = RN at *
  generalize rs.map encS = Y at *
  unfold t_law_lines_5
  generalize t_law_lines_4 = tl
  revert tl; refine opq ?_; intro tl
  simp [-gAdd_str, -cSplit_ap, -eCall_ap, n_ap, cs, ns, lit_APT, a1, show A.length + 1 ≤ 1000000 by omega, show A.length + 1 + Y.length ≤ 1000000 by omega, show A.length ≤ 999999 by omega]
theorem lines_sub (s : Sub) (hs : SubOk s) (A : List M.D) (hA : A.length ≤ 1000) (x0 x1 x3 x4 : M.Slot) (m : List Cell) : t_law_lines_5 ⟨[x0, x1, .val (encSub s), x3, x4, .own (.lst A), .emp, .emp, .emp], m⟩ = t_law_lines_4 ⟨[x0, x1, .val (encSub s), x3, x4, .own (.lst (A ++ (subL s).map encS)), .emp, .emp, .emp], m⟩ := by
  cases s with
  | place l => exact lines_place l hs A hA x0 x1 x3 x4 m
  | apart rs => exact lines_apart rs hs A hA x0 x1 x3 x4 m
theorem ver_vs {vs : List Int} (h : VerOk (.found vs)) : VsOk vs := ⟨h.1, by have := h.2.1; omega, h.2.2⟩
theorem lines_ver (v : Ver) (hv : VerOk v) (A : List M.D) (hA : A.length ≤ 1100) (x0 x1 x2 x4 : M.Slot) (m : List Cell) : t_law_lines_4 ⟨[x0, x1, x2, .val (encV v), x4, .own (.lst A), .emp, .emp, .emp], m⟩ = t_law_lines_3 ⟨[x0, x1, x2, .val (encV v), x4, .own (.lst (A ++ [encS (verL v)])), .emp, .emp, .emp], m⟩ := by
  cases v with
  | none =>
    rw [show encV .none = .tup [.str "none"] from rfl, show encS (verL .none) = .str "none" by rw [lit_none]; rfl]
    unfold t_law_lines_4
    generalize t_law_lines_3 = tl
    revert tl; refine opq ?_; intro tl
    simp [show A.length < 1000000 by omega]
  | found vs =>
    have h := ver_vs hv
    have hj := joined_ok h 32 m
    have a1 := addS (a := FND) (b := jn 32 vs) (by rw [FND_len]; have := jn_len (s := 32) h; omega)
    rw [show encV (.found vs) = .tup [.str "found", .tup (I vs)] from rfl, show encS (verL (.found vs)) = .str (S (FND ++ jn 32 vs)) from rfl]
    generalize S (FND ++ jn 32 vs) = R at *
    generalize S (jn 32 vs) = J at *
    generalize I vs = W at *
    unfold t_law_lines_4
    generalize t_law_lines_3 = tl
    revert tl; refine opq ?_; intro tl
    simp [-gAdd_str, n_fn, lit_sp, hj, lit_FND, a1, show A.length < 1000000 by omega]
theorem lines_end (P : Pp) (h : POk P) (A : List (List Nat)) (hA : A.length ≤ 1200) (x0 x1 x2 x3 : M.Slot) (m : List Cell) : ∃ S1, S1.m = m ∧ t_law_lines_3 ⟨[x0, x1, x2, x3, .val (.tup (P.toks.map encT)), .own (.lst (A.map encS)), .emp, .emp, .emp], m⟩ = some (.rt (.lst ((A ++ P.toks.map tokL).map encS)), S1) := by
  have := h.tl.2
  obtain ⟨y6, y7, hL⟩ := lines_loop x0 x1 x2 x3 (.val (.tup (P.toks.map encT))) m P.toks A .emp .emp h.toks (by omega)
  refine ⟨⟨[x0, x1, x2, x3, .val (.tup (P.toks.map encT)), .val (.lst ((A ++ P.toks.map tokL).map encS)), y6, y7, .emp], m⟩, rfl, ?_⟩
  generalize (A ++ P.toks.map tokL).map encS = B at *
  generalize P.toks.map encT = T at *
  generalize A.map encS = A' at *
  unfold t_law_lines_3
  generalize l_law_lines_1 = ll at *
  simp [hL]
theorem lines_ok {P : Pp} (h : POk P) (m : List Cell) : f_law_lines [encP P] m = some (.lst ((linesP P).map encS), m) := by
  have hrl := h.rows.2.1
  have hsl := sub_len h.sub
  have e1 := lines_head P.rows h.rows (encSub P.sub) (encV P.ver) (.tup (P.toks.map encT)) m
  have e2 := lines_sub P.sub h.sub (((TXT ++ nl P.rows.length) :: P.rows).map encS) (by simp; omega) (.val (.tup [encR P.rows, encSub P.sub, encV P.ver, .tup (P.toks.map encT)])) (.val (encR P.rows)) (.val (encV P.ver)) (.val (.tup (P.toks.map encT))) m
  rw [← List.map_append] at e2
  have e3 := lines_ver P.ver h.ver (((TXT ++ nl P.rows.length) :: P.rows ++ subL P.sub).map encS) (by simp; omega) (.val (.tup [encR P.rows, encSub P.sub, encV P.ver, .tup (P.toks.map encT)])) (.val (encR P.rows)) (.val (encSub P.sub)) (.val (.tup (P.toks.map encT))) m
  rw [show [encS (verL P.ver)] = [verL P.ver].map encS from rfl, ← List.map_append] at e3
  obtain ⟨S1, hS, e4⟩ := lines_end P h ((TXT ++ nl P.rows.length) :: P.rows ++ subL P.sub ++ [verL P.ver]) (by simp; omega) (.val (.tup [encR P.rows, encSub P.sub, encV P.ver, .tup (P.toks.map encT)])) (.val (encR P.rows)) (.val (encSub P.sub)) (.val (encV P.ver)) m
  have e5 : f_law_lines [encP P] m = (b_law_lines ⟨[.val (encP P), .emp, .emp, .emp, .emp, .emp, .emp, .emp, .emp], m⟩).bind fun p => match p.1 with
    | .rt d => some (d, p.2.m)
    | .nx => some (.non, p.2.m)
    | _ => none := fnM_ap
  rw [e5, show encP P = .tup [encR P.rows, encSub P.sub, encV P.ver, .tup (P.toks.map encT)] from rfl, e1, e2, e3, e4]
  show some (_, S1.m) = _
  rw [hS]; rfl
def textP (P : Pp) : List Nat := TL.joinL [10] (linesP P)
end Lk30



namespace Lk30
open PySem L2 M
/-! numbers that are read -/
def numOk (w : List Nat) : Bool := (w.all fun c => decide (c ∈ DD)) && (!decide (w = []) && (decide (w.length ≤ 12) && !(decide (w[0]? = some 48) && !decide (w = [48]))))
def rdN (w : List Nat) : Option Nat := if numOk w then some (NumText.digitsVal w) else none
def oI : Option Nat → M.D
  | none => .non
  | some n => .int (n : Int)
theorem dig_DD {w : List Nat} (h : ∀ c ∈ w, c ∈ DD) : NumText.AllDigits w := fun c hc => by
  have := h c hc
  simp [DD] at this
  omega
theorem nl_head : ∀ n : Nat, 10 ≤ n → (nl n)[0]? ≠ some 48 := by
  intro n
  induction n using Nat.strongRecOn with
  | _ n ih =>
    intro h
    rw [show nl n = nl (n / 10) ++ [48 + n % 10] from TL.numL_step h]
    rw [List.getElem?_append_left (by have := nl_ne (n / 10); exact List.length_pos_iff.mpr this)]
    by_cases q : 10 ≤ n / 10
    · exact ih (n / 10) (by omega) q
    · rw [show nl (n / 10) = [48 + n / 10] from TL.numL_lt (by omega)]
      simp
      omega
theorem numOk_nl {n : Nat} (h : n < 1000000000000) : numOk (nl n) = true := by
  have h1 := nl_len h
  have h2 : decide (nl n = []) = false := decide_eq_false (nl_ne n)
  have h3 : ((nl n).all fun c => decide (c ∈ DD)) = true := by
    rw [List.all_eq_true]; intro c hc; simpa using nl_DD n c hc
  have h4 : (decide ((nl n)[0]? = some 48) && !decide (nl n = [48])) = false := by
    by_cases q : 10 ≤ n
    · rw [decide_eq_false (nl_head n q)]; rfl
    · rw [show nl n = [48 + n] from TL.numL_lt (by omega)]; simp
  unfold numOk
  rw [h4, decide_eq_true h1, h2, h3]
  rfl
theorem rdN_nl {n : Nat} (h : n < 1000000000000) : rdN (nl n) = some n := by
  unfold rdN
  rw [if_pos (numOk_nl h), TL.numL_val]
theorem rn_loop (x0 : M.Slot) (m : List Cell) : ∀ (w : List Nat) (x1 : M.Slot), ∃ y1, M.forM (gNm 1) l_read_number_1 (w.map fun c => M.D.str ⟨#[c]⟩) ⟨[x0, x1], m⟩ = some (if (w.all fun c => decide (c ∈ DD)) = true then .nx else .rt .non, ⟨[x0, y1], m⟩)
  | [], x1 => ⟨x1, by simp⟩
  | c :: w, x1 => by
    obtain ⟨y1, ih⟩ := rn_loop x0 m w (.val (.str (S [c])))
    by_cases hc : c ∈ DD
    · refine ⟨y1, ?_⟩
      have hi := inS true c DD
      rw [List.map_cons, forM_cons, show (M.D.str ⟨#[c]⟩) = .str (S [c]) from rfl]
      generalize M.forM (gNm 1) l_read_number_1 (w.map fun c => M.D.str ⟨#[c]⟩) = K at *
      unfold l_read_number_1
      simp [lit_D, hi, hc, ih]
    · refine ⟨.val (.str (S [c])), ?_⟩
      have hi := inS true c DD
      rw [List.map_cons, forM_cons, show (M.D.str ⟨#[c]⟩) = .str (S [c]) from rfl]
      generalize M.forM (gNm 1) l_read_number_1 (w.map fun c => M.D.str ⟨#[c]⟩) = K at *
      unfold l_read_number_1
      simp [lit_D, hi, hc]
theorem lit_0 : ("0" : Str) = S [48] := by decide +kernel
theorem gt12 {w : List Nat} : decide ((12 : Int) < (w.length : Int)) = !decide (w.length ≤ 12) := by
  by_cases h : w.length ≤ 12
  · rw [decide_eq_true h, decide_eq_false (by omega)]; rfl
  · rw [decide_eq_false h, decide_eq_true (by omega)]; rfl
theorem int_num {w : List Nat} (h : numOk w = true) : gInt3 (.str (S w)) = some (.int (NumText.digitsVal w : Nat)) := by
  unfold numOk at h
  simp only [Bool.and_eq_true, List.all_eq_true, decide_eq_true_eq, Bool.not_eq_true', decide_eq_false_iff_not] at h
  obtain ⟨h1, h2, h3, _⟩ := h
  rw [gInt3_str, PySem.intText_digits (x := S w) (dig_DD h1) h2 (by rw [S_len]; omega)]
  show (if (S w).length ≤ 640 then some (M.D.int (NumText.digitsVal w : Nat)) else none) = _
  rw [if_pos (by rw [S_len]; omega)]
theorem read_number_ok (w : List Nat) (hl : w.length ≤ 900000) (m : List Cell) : f_read_number [.str (S w)] m = some (oI (rdN w), m) := by
  obtain ⟨y1, e⟩ := rn_loop (.val (.str (S w))) m w .emp
  have hlen := lenS (l := w) (by omega)
  unfold f_read_number b_read_number
  by_cases hd : (w.all fun c => decide (c ∈ DD)) = true
  · rw [if_pos hd] at e
    by_cases h0 : w = []
    · subst h0
      have : rdN [] = none := by decide +kernel
      generalize l_read_number_1 = ll at *
      simp [fnM_ap, e, lit_e, this, oI]
    · by_cases h12 : w.length ≤ 12
      · obtain ⟨c, hc⟩ : ∃ c, w[0]? = some c := ⟨w[0]'(List.length_pos_iff.mpr h0), by simp [List.length_pos_iff.mpr h0]⟩
        have hix := ixS (by omega) hc
        rw [show (((0 : Nat)) : Int) = 0 from rfl] at hix
        by_cases h48 : c = 48 ∧ ¬ w = [48]
        · have : rdN w = none := by
            unfold rdN numOk
            rw [hc, h48.1]
            simp [h48.2]
          generalize l_read_number_1 = ll at *
          simp [fnM_ap, e, lit_e, S_inj, h0, hlen, show ¬ (12 : Int) < w.length by omega, hix, lit_0, h48.1, h48.2, this, oI]
        · have hn : numOk w = true := by
            unfold numOk
            rw [hd, hc]
            simp [h0, h12]
            by_cases c48 : c = 48
            · have : w = [48] := by
                apply Classical.byContradiction; intro z; exact h48 ⟨c48, z⟩
              simp [this]
            · simp [c48]
          have : rdN w = some (NumText.digitsVal w) := if_pos hn
          have hi := int_num hn
          rw [this, show oI (some (NumText.digitsVal w)) = .int (NumText.digitsVal w : Nat) from rfl]
          generalize M.D.int (NumText.digitsVal w : Nat) = V at *
          generalize l_read_number_1 = ll at *
          by_cases c48 : c = 48
          · have : w = [48] := by
              apply Classical.byContradiction; intro z; exact h48 ⟨c48, z⟩
            have h48d : decide (w = [48]) = true := decide_eq_true this
            simp [fnM_ap, e, lit_e, S_inj, h0, hlen, show ¬ (12 : Int) < w.length by omega, hix, lit_0, c48, h48d, hi]
          · simp [fnM_ap, e, lit_e, S_inj, h0, hlen, show ¬ (12 : Int) < w.length by omega, hix, lit_0, c48, hi]
      · have : rdN w = none := by
          unfold rdN numOk
          simp [h12]
        generalize l_read_number_1 = ll at *
        simp [fnM_ap, e, lit_e, S_inj, h0, hlen, show (12 : Int) < w.length by omega, this, oI]
  · rw [if_neg hd] at e
    have : rdN w = none := by
      unfold rdN numOk
      rw [Bool.not_eq_true] at hd
      rw [hd]; rfl
    generalize l_read_number_1 = ll at *
    simp [fnM_ap, e, this, oI]
end Lk30



namespace Lk30
open PySem L2 M
/-! texts that are cut -/
def spl (s : Nat) : List Nat → List (List Nat)
  | [] => [[]]
  | c :: l => if c = s then [] :: spl s l else match spl s l with
    | [] => [[c]]
    | p :: ps => (c :: p) :: ps
theorem spl_cons {s c : Nat} {l : List Nat} (h : c ≠ s) {p : List Nat} {ps : List (List Nat)} (e : spl s l = p :: ps) : spl s (c :: l) = (c :: p) :: ps := by
  show (if c = s then [] :: spl s l else match spl s l with | [] => [[c]] | p :: ps => (c :: p) :: ps) = _
  rw [if_neg h, e]
theorem spl_ne (s : Nat) (l : List Nat) : spl s l ≠ [] := by
  cases l with
  | nil => simp [spl]
  | cons c l =>
    unfold spl
    split
    · simp
    · split <;> simp
theorem spl_join (s : Nat) : ∀ l, TL.joinL [s] (spl s l) = l
  | [] => rfl
  | c :: l => by
    have ih := spl_join s l
    unfold spl
    split
    · rename_i h
      rw [joinL_cons (spl_ne s l), ih, h]; rfl
    · split
      · rename_i e; exact absurd e (spl_ne s l)
      · rename_i p ps e
        rw [e] at ih
        cases ps with
        | nil => simpa [TL.joinL] using ih
        | cons q r => rw [joinL_cons (by simp)] at ih ⊢; rw [List.cons_append, ih]
theorem spl_free (s : Nat) : ∀ l, ∀ y ∈ spl s l, s ∉ y
  | [], y, h => by simp [spl] at h; subst h; simp
  | c :: l, y, h => by
    have ih := spl_free s l
    unfold spl at h
    split at h
    · rcases List.mem_cons.mp h with rfl | h
      · simp
      · exact ih y h
    · rename_i hc
      split at h
      · rename_i e; exact absurd e (spl_ne s l)
      · rename_i p ps e
        rcases List.mem_cons.mp h with rfl | h
        · have := ih p (by rw [e]; simp)
          simp [this, Ne.symm hc]
        · exact ih y (by rw [e]; simp [h])
theorem spl_one {s : Nat} : ∀ {y : List Nat}, s ∉ y → spl s y = [y]
  | [], _ => rfl
  | c :: y, h => by
    simp only [List.mem_cons, not_or] at h
    exact spl_cons (Ne.symm h.1) (spl_one h.2)
theorem spl_app {s : Nat} : ∀ {y : List Nat} {l : List Nat}, s ∉ y → spl s (y ++ s :: l) = y :: spl s l
  | [], l, _ => by simp [spl]
  | c :: y, l, h => by
    simp only [List.mem_cons, not_or] at h
    rw [List.cons_append]
    exact spl_cons (Ne.symm h.1) (spl_app h.2)
theorem spl_of {s : Nat} : ∀ {ys : List (List Nat)}, ys ≠ [] → (∀ y ∈ ys, s ∉ y) → spl s (TL.joinL [s] ys) = ys
  | [], h, _ => absurd rfl h
  | [y], _, h => spl_one (h y (by simp))
  | y :: z :: r, _, h => by
    rw [joinL_cons (by simp)]
    show spl s (y ++ s :: TL.joinL [s] (z :: r)) = _
    rw [spl_app (h y (by simp)), spl_of (by simp) fun x hx => h x (List.mem_cons_of_mem _ hx)]
theorem spl_flat (s : Nat) (l : List Nat) : ∀ y ∈ spl s l, y.length ≤ l.length := by
  induction l with
  | nil => intro y hy; simp [spl] at hy; subst hy; simp
  | cons c l ih =>
    intro y hy
    unfold spl at hy
    split at hy
    · rcases List.mem_cons.mp hy with rfl | hy
      · simp
      · have := ih y hy; simp; omega
    · split at hy
      · rename_i e; exact absurd e (spl_ne s l)
      · rename_i p ps e
        rcases List.mem_cons.mp hy with rfl | hy
        · have := ih p (by rw [e]; simp); simp; omega
        · have := ih y (by rw [e]; simp [hy]); simp; omega
theorem spl_count (s : Nat) (l : List Nat) : (spl s l).length ≤ l.length + 1 := by
  induction l with
  | nil => simp [spl]
  | cons c l ih =>
    unfold spl
    split
    · simp; omega
    · split
      · simp
      · rename_i p ps e
        rw [e] at ih
        simp at ih ⊢; omega
theorem cSplit_any {s : Nat} (hs : s < 256) {lit : Str} (hlit : lit = S [s]) {l : List Nat} (hl : l.length ≤ 900000) {fo : EF} {S0 S1 : Ms} (h1 : fo S0 = some (.str (S l), S1)) : cSplit fo (eC (.str lit)) S0 = some (.lst ((spl s l).map encS), S1) := by
  subst hlit
  have sp := split_S hs (spl_ne s l) (spl_free s l)
  rw [spl_join] at sp
  rw [cSplit_ap, h1]
  show (if ((S [s]).length == 0) = false ∧ (S l).length + 2 ≤ LIM then some (Cell.lst ((Txt.split (S l) (S [s])).map M.D.str), S1) else none) = _
  rw [sp, if_pos ⟨by rw [S_len]; rfl, by rw [S_len]; unfold LIM; omega⟩, map_str]
/-! slices -/
theorem sl0 {l : List Nat} (h : l.length ≤ 1000000) (b : Nat) : gSl3 (.str (S l)) none (some (b : Int)) = some (.str (S (l.take b))) := by
  have e : gSl3 (.str (S l)) none (some (b : Int)) = if (S l).length ≤ LIM then some (.str (cutS (S l) none (some (b : Int)))) else none := rfl
  rw [e, if_pos (by simpa using h)]
  unfold cutS
  rw [HT.sIx_nat, S_cps, S_len, show HT.sIx l.length 0 none = 0 from rfl]
  congr 2
  show S _ = S _
  rw [S_inj, List.drop_zero, Nat.sub_zero]
  by_cases hb : b ≤ l.length
  · rw [Nat.min_eq_left hb]
  · rw [Nat.min_eq_right (by omega), List.take_of_length_le (by simp), List.take_of_length_le (by omega)]
theorem slD {l : List Nat} (h : l.length ≤ 1000000) (a : Nat) : gSl3 (.str (S l)) (some (a : Int)) none = some (.str (S (l.drop a))) := by
  have e : gSl3 (.str (S l)) (some (a : Int)) none = if (S l).length ≤ LIM then some (.str (cutS (S l) (some (a : Int)) none)) else none := rfl
  rw [e, if_pos (by simpa using h)]
  unfold cutS
  rw [HT.sIx_nat, S_cps, S_len, show HT.sIx l.length l.length none = l.length from rfl]
  congr 2
  show S _ = S _
  rw [S_inj]
  by_cases hb : a ≤ l.length
  · rw [Nat.min_eq_left hb, List.take_of_length_le (by simp)]
  · rw [Nat.min_eq_right (by omega), List.drop_of_length_le (by omega), List.drop_of_length_le (by omega)]; simp
theorem cut1 (xs : List M.D) : cutD xs (some 1) none = xs.drop 1 := by
  unfold cutD
  rw [show (1 : Int) = ((1 : Nat) : Int) from rfl, HT.sIx_nat, show HT.sIx xs.length xs.length none = xs.length from rfl]
  cases xs with
  | nil => rfl
  | cons x xs => simp
theorem gSl1 (xs : List M.D) : gSl3 (.lst xs) (some 1) none = some (.lst (xs.drop 1)) := by
  show some (M.D.lst (cutD xs (some 1) none)) = _
  rw [cut1]
/-! numbers -/
def oNs : Option (List Nat) → M.D
  | none => .non
  | some ns => .tup (nI ns)
def rdNs (ws : List (List Nat)) : Option (List Nat) := if ws = [] ∨ none ∈ ws.map rdN then none else some (ws.filterMap rdN)
theorem non_oI {l : List (Option Nat)} : M.D.non ∈ l.map oI ↔ none ∈ l := by
  induction l with
  | nil => simp
  | cons x l ih => cases x <;> simp [oI, ih]
theorem fm_oI : ∀ {ws : List (List Nat)}, ¬ none ∈ ws.map rdN → (ws.map rdN).map oI = nI (ws.filterMap rdN)
  | [], _ => rfl
  | w :: ws, h => by
    simp only [List.map_cons, List.mem_cons, not_or] at h
    have ih := fm_oI h.2
    cases e : rdN w with
    | none => exact absurd e.symm h.1
    | some n => rw [List.map_cons, List.map_cons, ih, e, List.filterMap_cons, e]; rfl
theorem pl_oI (o : Option Nat) {n : Nat} : Pl n (oI o) := by
  cases o with
  | none => exact pl_non
  | some k => exact pl_int
theorem read_numbers_ok (ws : List (List Nat)) (hl : ws.length ≤ 990000) (hw : ∀ w ∈ ws, w.length ≤ 900000) (m : List Cell) : f_read_numbers [.lst (ws.map encS)] m = some (oNs (rdNs ws), m) := by
  have hc : lcM (gNm 2) bYes c_read_numbers_1 [2] (ws.map encS) [] ⟨[.val (.lst (ws.map encS)), .emp, .emp], m⟩ = some ((ws.map rdN).map oI, ⟨[.val (.lst (ws.map encS)), .emp, .emp], m⟩) := by
    rw [lc_map encS (fun w => oI (rdN w)) ws (fun w hw' => ?_) (by omega)]
    · simp [Function.comp_def]
    · have := read_number_ok w (hw w hw') m
      unfold stepC c_read_numbers_1
      simp [wipeR, restR, this]
  have hpl : PL (.lst ((ws.map rdN).map oI)) := (pl_lst (n := 1) fun d hd => by
    obtain ⟨o, _, rfl⟩ := List.mem_map.mp hd
    exact pl_oI o).pl
  have hlen : ((ws.map rdN).map oI).length = ws.length := by simp
  unfold f_read_numbers b_read_numbers
  by_cases h0 : ws = []
  · subst h0
    have : rdNs [] = none := rfl
    generalize c_read_numbers_1 = cc at *
    simp only [List.map_nil] at hc
    simp [fnM_ap, hc, this, oNs]
  · have hn0 : ¬ ws.length = 0 := fun z => h0 (List.length_eq_zero_iff.mp z)
    by_cases h1 : none ∈ ws.map rdN
    · have : rdNs ws = none := if_pos (.inr h1)
      have hin := gIn3_memL (neg := false) (d := .non) (pl_non (n := 0)).pl hpl (non_oI.mpr h1)
      generalize (ws.map rdN).map oI = Z at *
      generalize ws.map encS = Y at *
      generalize c_read_numbers_1 = cc at *
      simp [fnM_ap, hc, hlen, hn0, hin, this, oNs]
    · have : rdNs ws = some (ws.filterMap rdN) := if_neg (by simp only [not_or]; exact ⟨h0, h1⟩)
      have hin := gIn3_notL (neg := false) (d := .non) (pl_non (n := 0)).pl hpl (fun z => h1 (non_oI.mp z))
      rw [this, show oNs (some (ws.filterMap rdN)) = .tup (nI (ws.filterMap rdN)) from rfl, ← fm_oI h1]
      generalize (ws.map rdN).map oI = Z at *
      generalize ws.map encS = Y at *
      generalize c_read_numbers_1 = cc at *
      simp [fnM_ap, hc, hlen, hn0, hin]
def rdS : List Nat → Option Int
  | 45 :: r => match rdN r with
    | none => none
    | some 0 => none
    | some (n + 1) => some (-((n + 1 : Nat) : Int))
  | w => (rdN w).map fun n => (n : Int)
def oZ : Option Int → M.D
  | none => .non
  | some i => .int i
theorem lit_mi : ("-" : Str) = S [45] := by decide +kernel
theorem oI_map (o : Option Nat) : oZ (o.map fun n => (n : Int)) = oI o := by cases o <;> rfl
theorem read_signed_ok (w : List Nat) (hl : w.length ≤ 900000) (m : List Cell) : f_read_signed [.str (S w)] m = some (oZ (rdS w), m) := by
  have hs := sl0 (l := w) (by omega) 1
  have hd := slD (l := w) (by omega) 1
  rw [show (((1 : Nat)) : Int) = 1 from rfl] at hs hd
  have r1 := read_number_ok w hl m
  have r2 := read_number_ok (w.drop 1) (by simp; omega) m
  unfold f_read_signed b_read_signed t_read_signed_2 t_read_signed_1
  by_cases h : w.take 1 = [45]
  · obtain ⟨r, rfl⟩ : ∃ r, w = 45 :: r := by
      cases w with
      | nil => simp at h
      | cons c r => simp at h; subst h; exact ⟨r, rfl⟩
    have hn : decide (S (List.take 1 (45 :: r)) = S [45]) = true := by simp
    rw [List.drop_one, List.tail_cons] at hd r2
    show _ = some (oZ (match rdN r with
      | none => none
      | some 0 => none
      | some (n + 1) => some (-((n + 1 : Nat) : Int))), m)
    generalize S (List.take 1 (45 :: r)) = T at *
    generalize S (45 :: r) = W at *
    cases e : rdN r with
    | none =>
      rw [e] at r2
      simp [fnM_ap, hs, lit_mi, hn, hd, r2, oI, oZ]
    | some n =>
      rw [e] at r2
      cases n with
      | zero => simp [fnM_ap, hs, lit_mi, hn, hd, r2, oI, oZ]
      | succ n =>
        simp only [oI] at r2
        simp only [oZ]
        generalize hN : ((n + 1 : Nat) : Int) = N at *
        simp [fnM_ap, hs, lit_mi, hn, hd, r2, show ¬ N = 0 by omega]
  · have hn : decide (S (w.take 1) = S [45]) = false := by simp [S_inj, h]
    have : rdS w = (rdN w).map fun n => (n : Int) := by
      unfold rdS
      split
      · simp at h
      · rfl
    rw [this, oI_map]
    generalize oI (rdN w) = V at *
    generalize S (w.take 1) = T at *
    generalize S w = W at *
    simp [fnM_ap, hs, lit_mi, hn, r1]
/-! verdicts -/
def oV : Option Ver → M.D
  | none => .non
  | some v => encV v
def rdV (row : List Nat) : Option Ver := if S row = "none" then some .none else match spl 32 row with
  | [] => none
  | p :: ps => if S p = "found" ∧ ¬ (ps = [] ∨ none ∈ ps.map rdS) then some (.found (ps.filterMap rdS)) else none
theorem non_oZ {l : List (Option Int)} : M.D.non ∈ l.map oZ ↔ none ∈ l := by
  induction l with
  | nil => simp
  | cons x l ih => cases x <;> simp [oZ, ih]
theorem fm_oZ : ∀ {ws : List (List Nat)}, ¬ none ∈ ws.map rdS → (ws.map rdS).map oZ = I (ws.filterMap rdS)
  | [], _ => rfl
  | w :: ws, h => by
    simp only [List.map_cons, List.mem_cons, not_or] at h
    have ih := fm_oZ h.2
    cases e : rdS w with
    | none => exact absurd e.symm h.1
    | some n => rw [List.map_cons, List.map_cons, ih, e, List.filterMap_cons, e]; rfl
theorem pl_oZ (o : Option Int) {n : Nat} : Pl n (oZ o) := by
  cases o with
  | none => exact pl_non
  | some k => exact pl_int
theorem read_verdict_ok (row : List Nat) (hl : row.length ≤ 900000) (m : List Cell) : f_read_verdict [.str (S row)] m = some (oV (rdV row), m) := by
  unfold f_read_verdict b_read_verdict t_read_verdict_3 t_read_verdict_2 t_read_verdict_1
  by_cases h1 : S row = "none"
  · rw [show rdV row = some .none from if_pos h1]
    show _ = some (M.D.tup [.str "none"], m)
    simp [fnM_ap, h1]
  · have cs : ∀ S0 : Ms, S0.r[0]? = some (.val (.str (S row))) → cSplit (eVar 0) (eC (.str " ")) S0 = some (.lst ((spl 32 row).map encS), S0) := fun S0 h0 => cSplit_any (by omega) lit_sp hl (by simp [h0])
    obtain ⟨p, ps, hp⟩ : ∃ p ps, spl 32 row = p :: ps := by
      cases e : spl 32 row with
      | nil => exact absurd e (spl_ne _ _)
      | cons p ps => exact ⟨p, ps, rfl⟩
    have hcnt := spl_count 32 row
    have hfl := spl_flat 32 row
    have hV : rdV row = if S p = "found" ∧ ¬ (ps = [] ∨ none ∈ ps.map rdS) then some (.found (ps.filterMap rdS)) else none := by
      unfold rdV
      rw [if_neg h1, hp]
    rw [hp] at cs hcnt hfl
    simp only [List.length_cons] at hcnt
    rw [List.map_cons] at cs
    have hc : ∀ x0 x1 : M.Slot, lcM (gNm 3) bYes c_read_verdict_1 [3] (ps.map encS) [] ⟨[x0, x1, .emp, .emp], m⟩ = some ((ps.map rdS).map oZ, ⟨[x0, x1, .emp, .emp], m⟩) := fun x0 x1 => by
      rw [lc_map encS (fun w => oZ (rdS w)) ps (fun w hw' => ?_) (by omega)]
      · simp [Function.comp_def]
      · have := read_signed_ok w (by have := hfl w (by simp [hw']); omega) m
        unfold stepC c_read_verdict_1
        simp [wipeR, restR, this]
    have hpl : PL (.lst ((ps.map rdS).map oZ)) := (pl_lst (n := 1) fun d hd => by
      obtain ⟨o, _, rfl⟩ := List.mem_map.mp hd
      exact pl_oZ o).pl
    have hlen : ((ps.map rdS).map oZ).length = ps.length := by simp
    have hs1 := gSl1 (encS p :: ps.map encS)
    rw [List.drop_one, List.tail_cons] at hs1
    have hat : atI (encS p :: ps.map encS) 0 = some (.str (S p)) := by exact (atI_pos (by omega) (by simp)).trans rfl
    rw [hV]
    generalize hE : encS p :: ps.map encS = Y1 at *
    generalize S row = RW at *
    by_cases h2 : S p = "found"
    · by_cases h3 : ps = []
      · subst h3
        rw [if_neg (by simp)]
        show _ = some (M.D.non, m)
        simp only [List.map_nil] at hc
        rw [List.map_nil] at hs1
        generalize c_read_verdict_1 = cc at *
        simp [-cSplit_ap, fnM_ap, h1, cs, hs1, hc, hat, h2]
      · have hn0 : ¬ ps.length = 0 := fun z => h3 (List.length_eq_zero_iff.mp z)
        by_cases h4 : none ∈ ps.map rdS
        · rw [if_neg (by simp only [not_and]; intro _ z; exact z (.inr h4))]
          show _ = some (M.D.non, m)
          have hin := gIn3_memL (neg := false) (d := .non) (pl_non (n := 0)).pl hpl (non_oZ.mpr h4)
          generalize (ps.map rdS).map oZ = Z at *
          generalize ps.map encS = Y at *
          generalize c_read_verdict_1 = cc at *
          simp [-cSplit_ap, fnM_ap, h1, cs, hs1, hc, hat, h2, hlen, hn0, hin]
        · rw [if_pos ⟨h2, by simp only [not_or]; exact ⟨h3, h4⟩⟩]
          show _ = some (M.D.tup [.str "found", .tup (I (ps.filterMap rdS))], m)
          rw [← fm_oZ h4]
          have hin := gIn3_notL (neg := false) (d := .non) (pl_non (n := 0)).pl hpl (fun z => h4 (non_oZ.mp z))
          generalize (ps.map rdS).map oZ = Z at *
          generalize ps.map encS = Y at *
          generalize c_read_verdict_1 = cc at *
          simp [-cSplit_ap, fnM_ap, h1, cs, hs1, hc, hat, h2, hlen, hn0, hin]
    · rw [if_neg (by simp only [not_and]; intro z; exact absurd z h2)]
      show _ = some (M.D.non, m)
      generalize (ps.map rdS).map oZ = Z at *
      generalize ps.map encS = Y at *
      generalize c_read_verdict_1 = cc at *
      simp [-cSplit_ap, fnM_ap, h1, cs, hs1, hc, hat, h2]
/-! tokens -/
def oT : Option Tok → M.D
  | none => .non
  | some t => encT t
def rdT (row : List Nat) : Option Tok := if S row = "on" then some .on else if S row = "over" then some .over else match spl 32 row with
  | [] => none
  | p :: ps => if S p = "dead" then (rdNs ps).map .dead else if S p = "met" ∧ ¬ ps = [] ∧ ¬ none ∈ ps.map (fun w => rdNs (spl 44 w)) then some (.met (ps.filterMap fun w => rdNs (spl 44 w))) else none
theorem non_oNs {l : List (Option (List Nat))} : M.D.non ∈ l.map oNs ↔ none ∈ l := by
  induction l with
  | nil => simp
  | cons x l ih => cases x <;> simp [oNs, ih]
theorem fm_oNs {f : List Nat → Option (List Nat)} : ∀ {ws : List (List Nat)}, ¬ none ∈ ws.map f → (ws.map f).map oNs = (ws.filterMap f).map fun ns => M.D.tup (nI ns)
  | [], _ => rfl
  | w :: ws, h => by
    simp only [List.map_cons, List.mem_cons, not_or] at h
    have ih := fm_oNs h.2
    cases e : f w with
    | none => exact absurd e.symm h.1
    | some n => rw [List.map_cons, List.map_cons, ih, e, List.filterMap_cons, e]; rfl
theorem pl_nI (ns : List Nat) {n : Nat} : Pl (n + 1) (.tup (nI ns)) := pl_tup fun d hd => by
  obtain ⟨k, _, rfl⟩ := List.mem_map.mp hd
  exact pl_int
theorem pl_oNs (o : Option (List Nat)) {n : Nat} : Pl (n + 1) (oNs o) := by
  cases o with
  | none => exact pl_non
  | some k => exact pl_nI k
theorem n_on_over : ¬ ("on" : Str) = "over" := by decide +kernel
theorem n_over_on : ¬ ("over" : Str) = "on" := by decide +kernel
theorem read_token_ok (row : List Nat) (hl : row.length ≤ 900000) (m : List Cell) : f_read_token [.str (S row)] m = some (oT (rdT row), m) := by
  unfold f_read_token b_read_token t_read_token_4 t_read_token_3 t_read_token_2 t_read_token_1
  by_cases h1 : S row = "on"
  · rw [show rdT row = some .on from if_pos h1, h1]
    show _ = some (M.D.tup [.str "on"], m)
    simp [fnM_ap]
  by_cases h1' : S row = "over"
  · rw [show rdT row = some .over by unfold rdT; rw [if_neg h1, if_pos h1'], h1']
    show _ = some (M.D.tup [.str "over"], m)
    simp [fnM_ap, n_over_on]
  have cs : ∀ S0 : Ms, S0.r[0]? = some (.val (.str (S row))) → cSplit (eVar 0) (eC (.str " ")) S0 = some (.lst ((spl 32 row).map encS), S0) := fun S0 h0 => cSplit_any (by omega) lit_sp hl (by simp [h0])
  obtain ⟨p, ps, hp⟩ : ∃ p ps, spl 32 row = p :: ps := by
    cases e : spl 32 row with
    | nil => exact absurd e (spl_ne _ _)
    | cons p ps => exact ⟨p, ps, rfl⟩
  have hcnt := spl_count 32 row
  have hfl := spl_flat 32 row
  have hV : rdT row = if S p = "dead" then (rdNs ps).map .dead else if S p = "met" ∧ ¬ ps = [] ∧ ¬ none ∈ ps.map (fun w => rdNs (spl 44 w)) then some (.met (ps.filterMap fun w => rdNs (spl 44 w))) else none := by
    unfold rdT
    rw [if_neg h1, if_neg h1', hp]
  rw [hp] at cs hcnt hfl
  simp only [List.length_cons] at hcnt
  rw [List.map_cons] at cs
  have hs1 := gSl1 (encS p :: ps.map encS)
  rw [List.drop_one, List.tail_cons] at hs1
  have hat : atI (encS p :: ps.map encS) 0 = some (.str (S p)) := by exact (atI_pos (by omega) (by simp)).trans rfl
  have hlY : (encS p :: ps.map encS).length = ps.length + 1 := by simp
  rw [hV]
  have hps : ∀ w ∈ ps, w.length ≤ row.length := fun w hw => hfl w (by simp [hw])
  by_cases h2 : S p = "dead"
  · rw [if_pos h2]
    have hr := read_numbers_ok ps (by omega) (fun w hw => by have := hps w hw; omega) m
    generalize hE : encS p :: ps.map encS = Y1 at *
    generalize S row = RW at *
    generalize ps.map encS = Y at *
    cases e : rdNs ps with
    | none =>
      rw [e] at hr
      show _ = some (M.D.non, m)
      simp only [oNs] at hr
      generalize c_read_token_1 = cc at *
      simp [-cSplit_ap, fnM_ap, h1, h1', cs, hs1, hat, h2, hr]
    | some ns =>
      rw [e] at hr
      show _ = some (M.D.tup [.str "dead", .tup (nI ns)], m)
      simp only [oNs] at hr
      generalize nI ns = V at *
      generalize c_read_token_1 = cc at *
      simp [-cSplit_ap, fnM_ap, h1, h1', cs, hs1, hat, h2, hr]
  rw [if_neg h2]
  by_cases h3 : S p = "met"
  · by_cases h0 : ps = []
    · rw [if_neg (by simp only [not_and]; intro _ z; exact absurd h0 z)]
      show _ = some (M.D.non, m)
      have hl0 : ps.length = 0 := by rw [h0]; rfl
      generalize hE : encS p :: ps.map encS = Y1 at *
      generalize S row = RW at *
      generalize ps.map encS = Y at *
      generalize c_read_token_1 = cc at *
      simp [-cSplit_ap, fnM_ap, h1, h1', cs, hs1, hat, h2, h3, n_md, hlY, hl0]
    · have hn0 : ¬ ps.length = 0 := fun z => h0 (List.length_eq_zero_iff.mp z)
      have hc : ∀ x0 x1 x2 : M.Slot, lcM (gNm 4) bYes c_read_token_1 [4] (ps.map encS) [] ⟨[x0, x1, x2, .emp, .emp], m⟩ = some ((ps.map fun w => rdNs (spl 44 w)).map oNs, ⟨[x0, x1, x2, .emp, .emp], m⟩) := fun x0 x1 x2 => by
        rw [lc_map encS (fun w => oNs (rdNs (spl 44 w))) ps (fun w hw' => ?_) (by omega)]
        · simp [Function.comp_def]
        · have hw2 := hps w hw'
          have hc2 := spl_count 44 w
          have := read_numbers_ok (spl 44 w) (by omega) (fun y hy => by have := spl_flat 44 w y hy; omega) m
          have cs2 : ∀ S0 : Ms, S0.r[4]? = some (.val (.str (S w))) → cSplit (eVar 4) (eC (.str ",")) S0 = some (.lst ((spl 44 w).map encS), S0) := fun S0 h0 => cSplit_any (by omega) lit_cm (by omega) (by simp [h0])
          unfold stepC c_read_token_1
          simp [-cSplit_ap, wipeR, restR, cs2, this]
      have hpl : PL (.lst ((ps.map fun w => rdNs (spl 44 w)).map oNs)) := (pl_lst (n := 2) fun d hd => by
        obtain ⟨o, _, rfl⟩ := List.mem_map.mp hd
        exact pl_oNs o).pl
      by_cases h4 : none ∈ ps.map fun w => rdNs (spl 44 w)
      · rw [if_neg (by simp only [not_and]; intro _ _ z; exact z h4)]
        show _ = some (M.D.non, m)
        have hin := gIn3_memL (neg := false) (d := .non) (pl_non (n := 0)).pl hpl (non_oNs.mpr h4)
        generalize (ps.map fun w => rdNs (spl 44 w)).map oNs = Z at *
        generalize hE : encS p :: ps.map encS = Y1 at *
        generalize S row = RW at *
        generalize ps.map encS = Y at *
        generalize c_read_token_1 = cc at *
        simp [-cSplit_ap, fnM_ap, h1, h1', cs, hs1, hat, h2, h3, n_md, hlY, show ¬ ((ps.length : Int) + 1 = 1) by omega, hc, hin]
      · rw [if_pos ⟨h3, h0, h4⟩]
        show _ = some (M.D.tup [.str "met", .tup ((ps.filterMap fun w => rdNs (spl 44 w)).map fun ns => M.D.tup (nI ns))], m)
        rw [← fm_oNs h4]
        have hin := gIn3_notL (neg := false) (d := .non) (pl_non (n := 0)).pl hpl (fun z => h4 (non_oNs.mp z))
        generalize (ps.map fun w => rdNs (spl 44 w)).map oNs = Z at *
        generalize hE : encS p :: ps.map encS = Y1 at *
        generalize S row = RW at *
        generalize ps.map encS = Y at *
        generalize c_read_token_1 = cc at *
        simp [-cSplit_ap, fnM_ap, h1, h1', cs, hs1, hat, h2, h3, n_md, hlY, show ¬ ((ps.length : Int) + 1 = 1) by omega, hc, hin]
  · rw [if_neg (fun z => h3 z.1)]
    show _ = some (M.D.non, m)
    generalize hE : encS p :: ps.map encS = Y1 at *
    generalize S row = RW at *
    generalize ps.map encS = Y at *
    generalize c_read_token_1 = cc at *
    simp [-cSplit_ap, fnM_ap, h1, h1', cs, hs1, hat, h2, h3]
end Lk30



namespace Lk30
open PySem L2 M
/-! what is written is read back -/
theorem DD_free {s : Nat} (h : s ∉ DD) (n : Nat) : s ∉ nl n := fun z => h (nl_DD n s z)
theorem numI_free {s : Nat} (h : s ∉ DD) (h2 : s ≠ 45) (v : Int) : s ∉ numI v := by
  unfold numI
  split
  · simp only [List.mem_cons, not_or]; exact ⟨h2, DD_free h _⟩
  · exact DD_free h _
theorem jn_free {s t : Nat} (h : s ∉ DD) (h2 : s ≠ 45) (h3 : s ≠ t) (vs : List Int) : s ∉ jn t vs := by
  unfold jn
  induction vs with
  | nil => simp [TL.joinL]
  | cons v vs ih =>
    cases vs with
    | nil => exact numI_free h h2 v
    | cons w r =>
      rw [List.map_cons, joinL_cons (by simp)]
      simp only [List.mem_append, List.mem_singleton, not_or]
      exact ⟨numI_free h h2 v, h3, ih⟩
theorem f32 : (32 : Nat) ∉ DD := by decide
theorem f44 : (44 : Nat) ∉ DD := by decide
theorem f10 : (10 : Nat) ∉ DD := by decide
theorem spl_jn {s : Nat} (h : s ∉ DD) (h2 : s ≠ 45) {vs : List Int} (hv : 1 ≤ vs.length) : spl s (jn s vs) = vs.map numI := spl_of (ne_of_len (by simpa using hv)) fun y hy => by
  obtain ⟨v, _, rfl⟩ := List.mem_map.mp hy
  exact numI_free h h2 v
theorem nv_nl (ns : List Nat) : (nv ns).map numI = ns.map nl := by
  unfold nv
  rw [List.map_map]
  apply List.map_congr_left
  intro n _
  exact numI_nat n
theorem rdNs_nl {ns : List Nat} (h : NsOk ns) : rdNs (ns.map nl) = some ns := by
  have e : ∀ l : List Nat, (∀ n ∈ l, n < 1000000000000) → ¬ none ∈ (l.map nl).map rdN ∧ (l.map nl).filterMap rdN = l := by
    intro l
    induction l with
    | nil => intro _; simp
    | cons n l ih =>
      intro hl
      obtain ⟨i1, i2⟩ := ih fun k hk => hl k (List.mem_cons_of_mem _ hk)
      have hn := rdN_nl (hl n (by simp))
      constructor
      · simp only [List.map_cons, List.mem_cons, not_or]
        exact ⟨by rw [hn]; simp, i1⟩
      · rw [List.map_cons, List.filterMap_cons, hn]
        simp only [i2]
  obtain ⟨e1, e2⟩ := e ns h.2.2
  unfold rdNs
  rw [if_neg (by simp only [not_or]; exact ⟨ne_of_len (by simpa using h.1), e1⟩), e2]
theorem rdS_num {v : Int} (h : -1000000000000 < v ∧ v < 1000000000000) : rdS (numI v) = some v := by
  unfold numI
  split
  · rename_i c
    obtain ⟨k, hk⟩ : ∃ k : Nat, (-v).toNat = k + 1 := ⟨(-v).toNat - 1, by omega⟩
    show (match rdN (nl (-v).toNat) with
      | none => none
      | some 0 => none
      | some (n + 1) => some (-((n + 1 : Nat) : Int))) = some v
    rw [rdN_nl (by omega), hk]
    show some (-((k + 1 : Nat) : Int)) = some v
    congr 1; omega
  · have h1 : rdS (nl v.toNat) = (rdN (nl v.toNat)).map fun n => (n : Int) := by
      unfold rdS
      split
      · rename_i r e
        have := nl_DD v.toNat 45 (by rw [e]; simp)
        exact absurd this (by decide)
      · rfl
    rw [h1, rdN_nl (by omega)]
    show some ((v.toNat : Nat) : Int) = some v
    congr 1; omega
theorem lit_eq (z : Str) (l : List Nat) : S l = z ↔ l = un z := by
  constructor
  · intro h; rw [← S_un z, S_inj] at h; exact h
  · intro h; rw [h, S_un]
theorem rdV_ver {v : Ver} (h : VerOk v) : rdV (verL v) = some v := by
  cases v with
  | none => exact if_pos (S_un _)
  | found vs =>
    have hv := ver_vs h
    show rdV (FND ++ jn 32 vs) = _
    have hs : spl 32 (FND ++ jn 32 vs) = un "found" :: vs.map numI := by
      rw [show FND = un "found" ++ [32] by decide +kernel, List.append_assoc]
      show spl 32 (un "found" ++ 32 :: jn 32 vs) = _
      rw [spl_app (by decide +kernel), spl_jn f32 (by decide) hv.1]
    unfold rdV
    rw [if_neg (by rw [lit_eq]; intro e; have := congrArg List.length e; rw [List.length_append, FND_len, show (un "none").length = 4 by decide +kernel] at this; omega), hs]
    have e : ∀ l : List Int, (∀ n ∈ l, -1000000000000 < n ∧ n < 1000000000000) → ¬ none ∈ (l.map numI).map rdS ∧ (l.map numI).filterMap rdS = l := by
      intro l
      induction l with
      | nil => intro _; simp
      | cons n l ih =>
        intro hl
        obtain ⟨i1, i2⟩ := ih fun k hk => hl k (List.mem_cons_of_mem _ hk)
        have hn := rdS_num (hl n (by simp))
        constructor
        · simp only [List.map_cons, List.mem_cons, not_or]
          exact ⟨by rw [hn]; simp, i1⟩
        · rw [List.map_cons, List.filterMap_cons, hn]
          simp only [i2]
    obtain ⟨e1, e2⟩ := e vs hv.2.2
    show (if S (un "found") = "found" ∧ ¬ (vs.map numI = [] ∨ none ∈ (vs.map numI).map rdS) then some (Ver.found ((vs.map numI).filterMap rdS)) else none) = _
    rw [if_pos ⟨S_un _, by simp only [not_or]; exact ⟨ne_of_len (by simpa using hv.1), e1⟩⟩, e2]
theorem rdT_tok {t : Tok} (h : TokOk t) : rdT (tokL t) = some t := by
  cases t with
  | on => exact if_pos (S_un _)
  | over =>
    show rdT (un "over") = _
    unfold rdT
    rw [if_neg (by rw [S_un]; exact n_over_on), if_pos (S_un _)]
  | dead ns =>
    show rdT (DED ++ jn 32 (nv ns)) = _
    have hs : spl 32 (DED ++ jn 32 (nv ns)) = un "dead" :: ns.map nl := by
      rw [show DED = un "dead" ++ [32] by decide +kernel, List.append_assoc]
      show spl 32 (un "dead" ++ 32 :: jn 32 (nv ns)) = _
      rw [spl_app (by decide +kernel), spl_jn f32 (by decide) (nv_ok h).1, nv_nl]
    unfold rdT
    rw [if_neg (by rw [lit_eq]; intro e; have := congrArg List.length e; rw [List.length_append, DED_len, show (un "on").length = 2 by decide +kernel] at this; omega),
      if_neg (by rw [lit_eq]; intro e; have := congrArg List.length e; rw [List.length_append, DED_len, show (un "over").length = 4 by decide +kernel] at this; omega), hs]
    show (if S (un "dead") = "dead" then (rdNs (ns.map nl)).map Tok.dead else _) = _
    rw [if_pos (S_un _), rdNs_nl h]; rfl
  | met fs =>
    obtain ⟨f1, f6, hf⟩ := h
    show rdT (MET ++ TL.joinL [32] (fs.map flL)) = _
    have hs : spl 32 (MET ++ TL.joinL [32] (fs.map flL)) = un "met" :: fs.map flL := by
      rw [show MET = un "met" ++ [32] by decide +kernel, List.append_assoc]
      show spl 32 (un "met" ++ 32 :: TL.joinL [32] (fs.map flL)) = _
      rw [spl_app (by decide +kernel), spl_of (ne_of_len (by simpa using f1)) fun y hy => by
        obtain ⟨f, _, rfl⟩ := List.mem_map.mp hy
        exact jn_free f32 (by decide) (by decide) _]
    have e : ∀ l : List (List Nat), (∀ f ∈ l, NsOk f) → ¬ none ∈ (l.map flL).map (fun w => rdNs (spl 44 w)) ∧ (l.map flL).filterMap (fun w => rdNs (spl 44 w)) = l := by
      intro l
      induction l with
      | nil => intro _; simp
      | cons n l ih =>
        intro hl
        obtain ⟨i1, i2⟩ := ih fun k hk => hl k (List.mem_cons_of_mem _ hk)
        have hn : rdNs (spl 44 (flL n)) = some n := by
          have h1 := hl n (by simp)
          show rdNs (spl 44 (jn 44 (nv n))) = _
          rw [spl_jn f44 (by decide) (nv_ok h1).1, nv_nl, rdNs_nl h1]
        constructor
        · simp only [List.map_cons, List.mem_cons, not_or]
          exact ⟨by rw [hn]; simp, i1⟩
        · rw [List.map_cons, List.filterMap_cons, hn]
          simp only [i2]
    obtain ⟨e1, e2⟩ := e fs hf
    unfold rdT
    rw [if_neg (by rw [lit_eq]; intro e; have := congrArg List.length e; rw [List.length_append, MET_len, show (un "on").length = 2 by decide +kernel] at this; omega),
      if_neg (by
        rw [lit_eq, show MET = 109 :: [101, 116, 32] by decide +kernel, show un "over" = 111 :: [118, 101, 114] by decide +kernel]
        intro e; simp at e), hs]
    show (if S (un "met") = "dead" then _ else if S (un "met") = "met" ∧ ¬ fs.map flL = [] ∧ ¬ none ∈ (fs.map flL).map (fun w => rdNs (spl 44 w)) then some (Tok.met ((fs.map flL).filterMap fun w => rdNs (spl 44 w))) else none) = _
    rw [if_neg (by rw [S_un]; exact n_md), if_pos ⟨S_un _, ne_of_len (by simpa using f1), e1⟩, e2]
/-! no row of a paper has a new line in it -/
theorem tokL_10 (t : Tok) : 10 ∉ tokL t := by
  cases t with
  | on => decide +kernel
  | over => decide +kernel
  | dead ns =>
    show 10 ∉ DED ++ jn 32 (nv ns)
    simp only [List.mem_append, not_or]
    exact ⟨by decide +kernel, jn_free f10 (by decide) (by decide) _⟩
  | met fs =>
    show 10 ∉ MET ++ TL.joinL [32] (fs.map flL)
    simp only [List.mem_append, not_or]
    refine ⟨by decide +kernel, ?_⟩
    induction fs with
    | nil => simp [TL.joinL]
    | cons f fs ih =>
      have h0 : 10 ∉ flL f := jn_free f10 (by decide) (by decide) _
      cases fs with
      | nil => exact h0
      | cons g r =>
        rw [List.map_cons, joinL_cons (by simp)]
        simp only [List.mem_append, List.mem_singleton, not_or]
        exact ⟨h0, by decide, ih⟩
theorem verL_10 (v : Ver) : 10 ∉ verL v := by
  cases v with
  | none => decide +kernel
  | found vs =>
    show 10 ∉ FND ++ jn 32 vs
    simp only [List.mem_append, not_or]
    exact ⟨by decide +kernel, jn_free f10 (by decide) (by decide) _⟩
theorem lines_10 {P : Pp} (h : POk P) : ∀ y ∈ linesP P, 10 ∉ y := by
  intro y hy
  unfold linesP at hy
  simp only [List.mem_append, List.mem_cons, List.not_mem_nil, or_false, List.mem_map] at hy
  rcases hy with (((rfl | hy) | hy) | rfl) | ⟨t, _, rfl⟩
  · simp only [List.mem_append, not_or]
    exact ⟨by decide +kernel, DD_free f10 _⟩
  · exact nl10 (h.rows.2.2 y hy)
  · have hs := h.sub
    cases hsub : P.sub with
    | place l =>
      rw [hsub] at hs hy
      simp only [subL, List.mem_cons, List.not_mem_nil, or_false] at hy
      subst hy
      simp only [List.mem_append, not_or]
      exact ⟨by decide +kernel, fun z => by have := hs.1 10 z; omega⟩
    | apart rs =>
      rw [hsub] at hs hy
      simp only [subL, List.mem_cons] at hy
      rcases hy with rfl | hy
      · simp only [List.mem_append, not_or]
        exact ⟨by decide +kernel, DD_free f10 _⟩
      · exact nl10 (hs.2.2 y hy)
  · exact verL_10 _
  · exact tokL_10 t
theorem lines_ne (P : Pp) : linesP P ≠ [] := by unfold linesP; simp
theorem spl_text {P : Pp} (h : POk P) : spl 10 (textP P) = linesP P := spl_of (lines_ne P) (lines_10 h)
end Lk30



namespace Lk30
open PySem L2 M
/-! blocks, read from any rows -/
theorem atZ {Z : List (List Nat)} {a : Nat} {hd : List Nat} (h : Z[a]? = some hd) : atI (Z.map encS) (a : Int) = some (.str (S hd)) := by
  have hl := (List.getElem?_eq_some_iff.mp h).1
  rw [atI_pos (Int.natCast_nonneg _) (by simp; omega)]
  simp [h]
structure ZOk (Z : List (List Nat)) : Prop where
  n : Z.length ≤ 400
  r : ∀ y ∈ Z, y.length ≤ 1000
  f : ∀ y ∈ Z, 10 ∉ y
inductive Rd (α : Type) where
  | ok (a : α) | bad (r : Nat)
def rdH (hd row : List Nat) : Option Nat := match spl 32 row with
  | [x, y] => if x = hd then (match rdN y with
    | some 0 => none
    | o => o) else none
  | _ => none
def rdB (hd : List Nat) (Z : List (List Nat)) (a : Nat) : Rd (List (List Nat)) := match Z[a]? with
  | none => .bad (Z.length + 1)
  | some row => match rdH hd row with
    | none => .bad (a + 1)
    | some n => if Z.length < a + 1 + n then .bad (Z.length + 1) else .ok ((Z.drop (a + 1)).take n)
def xb (r : Nat) : Ex := ⟨4, some (.int (r : Int))⟩
def oB : Rd (List (List Nat)) → M.D ⊕ Ex
  | .ok rs => .inl (.str (S (TL.joinL [10] rs)))
  | .bad r => .inr (xb r)
theorem gEqS {a b : List Nat} : gEq2 (.str (S a)) (.str (S b)) = some (.bl (decide (a = b))) := by simp [S_inj]
theorem fnX_run {N : Nat} {b : XF} {ds : List M.D} {m : List Cell} {d : M.D ⊕ Ex} {S1 : Ms} (h : b ⟨ds.map M.Slot.val ++ List.replicate (N - ds.length) .emp, m⟩ = some (match d with
    | .inl v => .fl (.rt v)
    | .inr e => .ex e, S1)) : fnX N b ds m = some (d, S1.m) := by
  unfold fnX
  rw [h]
  cases d <;> rfl
theorem oI_isN {o : Option Nat} : gIsN (oI o) .non = some (.bl (decide (o = none))) := by cases o <;> rfl
theorem vw_oI (S0 : Ms) (o : Option Nat) : vw S0 (oI o) = oI o := by cases o <;> rfl
/-- the number that a head row holds -/
theorem head_num (hd row : List Nat) (hl : row.length ≤ 900000) (x0 x1 x2 : M.Slot) (m : List Cell) (hx : x2 = .val (.str (S hd))) : ∃ o : Option Nat, rdH hd row = (match o with
    | some 0 => none
    | o => o) ∧ (eIf (bAnd (bOf (eOp gEq2 (eCallV gLen 3) (eC (.int 2)))) (bOf (eOp gEq2 (eOpL gIx 3 (eC (.int 0))) (eVar 2)))) (eFn 1 f_read_number (aCons (eOpL gIx 3 (eC (.int 1))) aNil)) (eC .non)) ⟨[x0, x1, x2, .val (.lst ((spl 32 row).map encS)), .emp], m⟩ = some (oI o, ⟨[x0, x1, x2, .val (.lst ((spl 32 row).map encS)), .emp], m⟩) := by
  subst hx
  have hfl := spl_flat 32 row
  unfold rdH
  match hs : spl 32 row with
  | [] => exact absurd hs (spl_ne _ _)
  | [x] => exact ⟨none, rfl, by simp [oI]⟩
  | [x, y] =>
    have hr := read_number_ok y (by have := hfl y (by rw [hs]; simp); omega) m
    by_cases e : x = hd
    · subst e
      refine ⟨rdN y, by show (if x = x then (match rdN y with | some 0 => none | o => o) else none) = _; rw [if_pos rfl], ?_⟩
      have h0 : atI [encS x, encS y] 0 = some (.str (S x)) := rfl
      have h1 : atI [encS x, encS y] 1 = some (.str (S y)) := rfl
      rw [show [x, y].map encS = [encS x, encS y] from rfl]
      have hl2 : ([encS x, encS y] : List M.D).length = 2 := rfl
      generalize [encS x, encS y] = W at *
      generalize oI (rdN y) = V at *
      simp [h0, h1, hl2, hr]
    · refine ⟨none, by show (if x = hd then (match rdN y with | some 0 => none | o => o) else none) = _; rw [if_neg e], ?_⟩
      have h0 : atI [encS x, encS y] 0 = some (.str (S x)) := rfl
      rw [show [x, y].map encS = [encS x, encS y] from rfl]
      have hl2 : ([encS x, encS y] : List M.D).length = 2 := rfl
      generalize [encS x, encS y] = W at *
      simp [h0, hl2, S_inj, e, oI]
  | x :: y :: z :: r =>
    refine ⟨none, rfl, ?_⟩
    have hl2 : ¬ (((x :: y :: z :: r).map encS).length : Int) = 2 := by simp; omega
    generalize (x :: y :: z :: r).map encS = W at *
    simp [hl2, oI]
theorem read_block_ok {Z : List (List Nat)} (h : ZOk Z) (a : Nat) (hd : List Nat) (m : List Cell) : f_read_block [.lst (Z.map encS), .int (a : Int), .str (S hd)] m = some (oB (rdB hd Z a), m) := by
  have hlZ : (Z.map encS).length = Z.length := by simp
  have hZl := h.n
  unfold rdB
  cases hZ : Z[a]? with
  | none =>
    have hge : Z.length ≤ a := by simpa using hZ
    refine fnX_run (S1 := ⟨[.val (.lst (Z.map encS)), .val (.int (a : Int)), .val (.str (S hd)), .emp, .emp], m⟩) ?_
    unfold b_read_block
    generalize t_read_block_4 = tl
    generalize Z.map encS = W at *
    show _ = some (Fx.ex (xb (Z.length + 1)), _)
    unfold xb
    generalize hN : ((Z.length : Nat) : Int) = N at *
    rw [show ((Z.length + 1 : Nat) : Int) = N + 1 by omega]
    generalize hA : (a : Int) = A at *
    revert tl; refine opq ?_; intro tl
    simp [hlZ, hN, show N ≤ A by omega]
  | some row =>
    have hmem : row ∈ Z := List.mem_of_getElem? hZ
    have hlt : a < Z.length := (List.getElem?_eq_some_iff.mp hZ).1
    have hrl := h.r row hmem
    have hat := atZ hZ
    have cs : ∀ S0 : Ms, S0.r[0]? = some (.val (.lst (Z.map encS))) → S0.r[1]? = some (.val (.int (a : Int))) → cSplit (eOpL gIx 0 (eVar 1)) (eC (.str " ")) S0 = some (.lst ((spl 32 row).map encS), S0) := fun S0 h0 h1 => cSplit_any (s := 32) (by omega) lit_sp (by omega) (fo := eOpL gIx 0 (eVar 1)) (S0 := S0) (S1 := S0) (by simp [h0, h1, hat])
    obtain ⟨o, ho, hn⟩ := head_num hd row (by omega) (.val (.lst (Z.map encS))) (.val (.int (a : Int))) (.val (.str (S hd))) m rfl
    have hstart : ∀ tl : XF, tl = t_read_block_2 → b_read_block ⟨[.val (.lst (Z.map encS)), .val (.int (a : Int)), .val (.str (S hd)), .emp, .emp], m⟩ = tl ⟨[.val (.lst (Z.map encS)), .val (.int (a : Int)), .val (.str (S hd)), .val (.lst ((spl 32 row).map encS)), .val (oI o)], m⟩ := fun tl htl => by
      have vo : ∀ S0 : Ms, vw S0 (oI o) = oI o := fun S0 => vw_oI S0 o
      subst htl
      unfold b_read_block t_read_block_4 t_read_block_3
      generalize t_read_block_2 = tl
      generalize Z.map encS = W at *
      generalize (spl 32 row).map encS = Y at *
      generalize hA : (a : Int) = A at *
      generalize (eIf (bAnd (bOf (eOp gEq2 (eCallV gLen 3) (eC (.int 2)))) (bOf (eOp gEq2 (eOpL gIx 3 (eC (.int 0))) (eVar 2)))) (eFn 1 f_read_number (aCons (eOpL gIx 3 (eC (.int 1))) aNil)) (eC .non)) = ee at *
      generalize oI o = V at *
      revert tl; refine opq ?_; intro tl
      simp [-cSplit_ap, hlZ, show ¬ (Z.length : Int) ≤ A by omega, cs, hn]
    by_cases hz : o = none ∨ o = some 0
    · have hh : rdH hd row = none := by rw [ho]; rcases hz with rfl | rfl <;> rfl
      simp only [hh]
      refine fnX_run (S1 := ⟨[.val (.lst (Z.map encS)), .val (.int (a : Int)), .val (.str (S hd)), .val (.lst ((spl 32 row).map encS)), .val (oI o)], m⟩) ?_
      refine (hstart _ rfl).trans ?_
      generalize Z.map encS = W at *
      generalize (spl 32 row).map encS = Y at *
      unfold t_read_block_2
      generalize t_read_block_1 = tl
      show _ = some (Fx.ex (xb (a + 1)), _)
      unfold xb
      rw [show ((a + 1 : Nat) : Int) = (a : Int) + 1 by omega]
      generalize (a : Int) = A at *
      revert tl; refine opq ?_; intro tl
      rcases hz with rfl | rfl
      · simp [oI]
      · simp [oI]
    · obtain ⟨n, rfl⟩ : ∃ n, o = some (n + 1) := by
        match o with
        | none => exact absurd (.inl rfl) hz
        | some 0 => exact absurd (.inr rfl) hz
        | some (n + 1) => exact ⟨n, rfl⟩
      have hh : rdH hd row = some (n + 1) := by rw [ho]; rfl
      simp only [hh]
      by_cases hlong : Z.length < a + 1 + (n + 1)
      · rw [if_pos hlong]
        refine fnX_run (S1 := ⟨[.val (.lst (Z.map encS)), .val (.int (a : Int)), .val (.str (S hd)), .val (.lst ((spl 32 row).map encS)), .val (oI (some (n + 1)))], m⟩) ?_
        refine (hstart _ rfl).trans ?_
        generalize Z.map encS = W at *
        generalize (spl 32 row).map encS = Y at *
        rw [show oI (some (n + 1)) = .int ((n + 1 : Nat) : Int) from rfl]
        unfold t_read_block_2 t_read_block_1
        show _ = some (Fx.ex (xb (Z.length + 1)), _)
        unfold xb
        generalize hN : ((Z.length : Nat) : Int) = N at *
        rw [show ((Z.length + 1 : Nat) : Int) = N + 1 by omega]
        generalize hA : (a : Int) = A at *
        generalize hK : ((n + 1 : Nat) : Int) = K at *
        simp [hlZ, hN, show ¬ K = 0 by omega, show N < A + 1 + K by omega]
      · rw [if_neg hlong]
        have hsl : cutD (Z.map encS) (some ((a : Int) + 1)) (some ((a : Int) + 1 + ((n + 1 : Nat) : Int))) = ((Z.drop (a + 1)).take (n + 1)).map encS := by
          have := cut_nn (Z.map encS) (a + 1) (a + 1 + (n + 1)) (by simp; omega) (by simp; omega)
          rw [show (((a + 1 : Nat)) : Int) = (a : Int) + 1 by omega, show (((a + 1 + (n + 1) : Nat)) : Int) = (a : Int) + 1 + ((n + 1 : Nat) : Int) by omega] at this
          rw [this, List.map_take, List.map_drop, show a + 1 + (n + 1) - (a + 1) = n + 1 by omega]
        have hfl : ((Z.drop (a + 1)).take (n + 1)).flatten.length ≤ 400 * 1000 := by
          have := flat_len (n := 0) (k := 1000) (ys := (Z.drop (a + 1)).take (n + 1)) (fun y hy => h.r y (List.mem_of_mem_drop (List.mem_of_mem_take hy)))
          have h3 : ((Z.drop (a + 1)).take (n + 1)).length ≤ 400 := by simp; omega
          omega
        have hrl2 : ((Z.drop (a + 1)).take (n + 1)).length ≤ 400 := by simp; omega
        have j1 := strsD_S ((Z.drop (a + 1)).take (n + 1))
        have j2 := joinOk_Ss (s := [10]) (ys := (Z.drop (a + 1)).take (n + 1)) (by rw [List.length_singleton]; omega)
        have j3 := join_Ss [10] ((Z.drop (a + 1)).take (n + 1))
        refine fnX_run (S1 := ⟨[.val (.lst (Z.map encS)), .val (.int (a : Int)), .val (.str (S hd)), .val (.lst ((spl 32 row).map encS)), .val (oI (some (n + 1)))], m⟩) ?_
        refine (hstart _ rfl).trans ?_
        show _ = some (Fx.fl (.rt (.str (S (TL.joinL [10] ((Z.drop (a + 1)).take (n + 1)))))), _)
        generalize TL.joinL [10] ((Z.drop (a + 1)).take (n + 1)) = T at *
        generalize ((Z.drop (a + 1)).take (n + 1)).map encS = Q at *
        generalize ((Z.drop (a + 1)).take (n + 1)).map S = Q2 at *
        generalize Z.map encS = W at *
        generalize (spl 32 row).map encS = Y at *
        rw [show oI (some (n + 1)) = .int ((n + 1 : Nat) : Int) from rfl]
        unfold t_read_block_2 t_read_block_1
        generalize hN : ((Z.length : Nat) : Int) = N at *
        generalize hA : (a : Int) = A at *
        generalize hK : ((n + 1 : Nat) : Int) = K at *
        simp [hlZ, hN, show ¬ K = 0 by omega, show ¬ N < A + 1 + K by omega, hsl, lit_nl, j1, j2, j3]
end Lk30



namespace Lk30
open PySem L2 M
/-! papers, read from any rows -/
def rdTs : Nat → List (List Nat) → Rd (List Tok)
  | _, [] => .ok []
  | j, r :: rs => match rdT r with
    | none => .bad (j + 1)
    | some t => match rdTs (j + 1) rs with
      | .ok ts => .ok (t :: ts)
      | .bad k => .bad k
def rdSub (Z : List (List Nat)) (a : Nat) : Rd Sub := match Z[a]? with
  | none => .bad (Z.length + 1)
  | some row => if row.take 6 = PLC then .ok (.place (row.drop 6)) else match rdB (un "apart") Z a with
    | .ok rs => .ok (.apart rs)
    | .bad r => .bad r
def rdE (Z : List (List Nat)) (rows : List (List Nat)) (s : Sub) (a : Nat) : Rd Pp := match Z[a]? with
  | none => .bad (Z.length + 1)
  | some row => match rdV row with
    | none => .bad (a + 1)
    | some v => match rdTs (a + 1) (Z.drop (a + 1)) with
      | .bad r => .bad r
      | .ok [] => .bad (Z.length + 1)
      | .ok (t :: ts) => .ok ⟨rows, s, v, t :: ts⟩
def rdP (Z : List (List Nat)) : Rd Pp := match rdB (un "text") Z 0 with
  | .bad r => .bad r
  | .ok rows => match rdSub Z (1 + rows.length) with
    | .bad r => .bad r
    | .ok s => rdE Z rows s (1 + rows.length + (subL s).length)
theorem rdH_pos {hd row : List Nat} {n : Nat} (h : rdH hd row = some n) : 1 ≤ n := by
  unfold rdH at h
  split at h
  · split at h
    · split at h
      · cases h
      · rename_i o hne
        cases n with
        | zero => exact absurd h hne
        | succ n => omega
    · cases h
  · cases h
theorem rdB_ok {hd : List Nat} {Z : List (List Nat)} {a : Nat} {rs : List (List Nat)} (h : rdB hd Z a = .ok rs) : 1 ≤ rs.length ∧ a + 1 + rs.length ≤ Z.length ∧ (∀ y ∈ rs, y ∈ Z) := by
  unfold rdB at h
  split at h
  · cases h
  · split at h
    · cases h
    · rename_i n hn
      have := rdH_pos hn
      split at h
      · cases h
      · cases h
        refine ⟨by simp; omega, by simp; omega, fun y hy => List.mem_of_mem_drop (List.mem_of_mem_take hy)⟩
theorem ZOk.len {Z rs : List (List Nat)} (h : ZOk Z) (hl : rs.length ≤ 400) (hs : ∀ y ∈ rs, y ∈ Z) : (TL.joinL [10] rs).length ≤ 500000 := by
  have h1 := flat_len (n := 0) (k := 1000) (ys := rs) (fun y hy => h.r y (hs y hy))
  have h2 := joinL_len [10] rs
  rw [List.length_singleton] at h2
  omega
theorem ZOk.split {Z rs : List (List Nat)} (h : ZOk Z) (h1 : 1 ≤ rs.length) (hl : rs.length ≤ 400) (hs : ∀ y ∈ rs, y ∈ Z) {fo : EF} {S0 S1 : Ms} (e : fo S0 = some (.str (S (TL.joinL [10] rs)), S1)) : cSplit fo (eC (.str "\n")) S0 = some (.lst (rs.map encS), S1) := by
  have := cSplit_any (s := 10) (by omega) lit_nl (by have := h.len hl hs; omega) e
  rwa [spl_of (ne_of_len h1) fun y hy => h.f y (hs y hy)] at this
section
variable (ca : Nat → Addr) {Z : List (List Nat)} (h : ZOk Z) (m : List Cell)
include h
theorem toks_loop (x0 x2 x3 x4 x5 x6 : M.Slot) : ∀ (rs : List (List Nat)) (j : Nat) (acc : List M.D) (x8 x9 : M.Slot), Z.drop j = rs → acc.length + rs.length ≤ 1000 →
    (∀ ts, rdTs j rs = .ok ts → ∃ y8 y9, xForM (gNm 8) (l_read_paper_1 ca) ((List.range' j rs.length).map fun i : Nat => M.D.int (i : Int)) ⟨[x0, .val (.lst (Z.map encS)), x2, x3, x4, x5, x6, .own (.lst acc), x8, x9], m⟩ = some (.fl .nx, ⟨[x0, .val (.lst (Z.map encS)), x2, x3, x4, x5, x6, .own (.lst (acc ++ ts.map encT)), y8, y9], m⟩)) ∧
    (∀ r, rdTs j rs = .bad r → ∃ R, xForM (gNm 8) (l_read_paper_1 ca) ((List.range' j rs.length).map fun i : Nat => M.D.int (i : Int)) ⟨[x0, .val (.lst (Z.map encS)), x2, x3, x4, x5, x6, .own (.lst acc), x8, x9], m⟩ = some (.ex (xb r), ⟨R, m⟩)) := by
  intro rs
  induction rs with
  | nil =>
    intro j acc x8 x9 _ _
    refine ⟨fun ts e => ?_, fun r e => by cases e⟩
    cases e
    exact ⟨x8, x9, by simp⟩
  | cons row rs ih =>
    intro j acc x8 x9 hd hl
    simp only [List.length_cons] at hl
    have hj : Z[j]? = some row := by
      have : (Z.drop j)[0]? = some row := by rw [hd]; rfl
      simpa using this
    have hd2 : Z.drop (j + 1) = rs := by
      rw [← List.drop_drop, hd]; rfl
    have hat := atZ hj
    have hr := read_token_ok row (by have := h.r row (List.mem_of_getElem? hj); omega) m
    have e0 : rdTs j (row :: rs) = (match rdT row with
      | none => .bad (j + 1)
      | some t => match rdTs (j + 1) rs with
        | .ok ts => .ok (t :: ts)
        | .bad k => .bad k) := rfl
    rw [e0, List.length_cons, List.range'_succ, List.map_cons]
    cases ht : rdT row with
    | none =>
      rw [ht] at hr
      refine ⟨fun ts e => (by cases e), fun r e => ?_⟩
      cases e
      refine ⟨[x0, .val (.lst (Z.map encS)), x2, x3, x4, x5, x6, .own (.lst acc), .val (.int (j : Int)), .val .non], ?_⟩
      rw [xForM_cons]
      generalize xForM (gNm 8) (l_read_paper_1 ca) ((List.range' (j + 1) rs.length).map fun i : Nat => M.D.int (i : Int)) = K
      unfold xb
      rw [show ((j + 1 : Nat) : Int) = (j : Int) + 1 by omega]
      generalize Z.map encS = W at *
      simp only [oT] at hr
      generalize S row = RW at *
      generalize (j : Int) = J at *
      unfold l_read_paper_1
      simp [hat, hr]
    | some t =>
      rw [ht] at hr
      obtain ⟨i1, i2⟩ := ih (j + 1) (acc ++ [encT t]) (.val (.int (j : Int))) (.val (encT t)) hd2 (by simp; omega)
      have step : ∀ K, K = xForM (gNm 8) (l_read_paper_1 ca) ((List.range' (j + 1) rs.length).map fun i : Nat => M.D.int (i : Int)) → xForM (gNm 8) (l_read_paper_1 ca) (M.D.int (j : Int) :: (List.range' (j + 1) rs.length).map fun i : Nat => M.D.int (i : Int)) ⟨[x0, .val (.lst (Z.map encS)), x2, x3, x4, x5, x6, .own (.lst acc), x8, x9], m⟩ = K ⟨[x0, .val (.lst (Z.map encS)), x2, x3, x4, x5, x6, .own (.lst (acc ++ [encT t])), .val (.int (j : Int)), .val (encT t)], m⟩ := fun K hK => by
        rw [xForM_cons, ← hK]
        clear hK i1 i2
        have ho : oT (some t) = encT t := rfl
        have hno : gIsN (encT t) .non = some (.bl false) := by cases t <;> rfl
        have hvw : ∀ S0 : Ms, vw S0 (encT t) = encT t := fun S0 => by cases t <;> rfl
        rw [ho] at hr
        generalize encT t = T at *
        generalize S row = RW at *
        generalize Z.map encS = W at *
        generalize (j : Int) = J at *
        unfold l_read_paper_1
        simp [hat, hr, hno, hvw, show acc.length < 1000000 by omega]
      refine ⟨fun ts e => ?_, fun r e => ?_⟩
      · cases e2 : rdTs (j + 1) rs with
        | bad k => simp only [e2] at e; cases e
        | ok ts' =>
          simp only [e2] at e
          cases e
          obtain ⟨y8, y9, e3⟩ := i1 ts' e2
          refine ⟨y8, y9, ?_⟩
          rw [step _ rfl, e3]
          simp
      · cases e2 : rdTs (j + 1) rs with
        | ok ts' => simp only [e2] at e; cases e
        | bad k =>
          simp only [e2] at e
          cases e
          obtain ⟨R, e3⟩ := i2 _ e2
          exact ⟨R, by rw [step _ rfl, e3]⟩
theorem rp_text (hne : 1 ≤ Z.length) (T : M.D) (hT : T = .str (S (TL.joinL [10] Z))) : b_read_paper ca ⟨[.val T, .emp, .emp, .emp, .emp, .emp, .emp, .emp, .emp, .emp], m⟩ = (match rdB (un "text") Z 0 with
    | .bad r => some (.ex (xb r), ⟨[.val T, .val (.lst (Z.map encS)), .emp, .emp, .emp, .emp, .emp, .emp, .emp, .emp], m⟩)
    | .ok rows => t_read_paper_7 ca ⟨[.val T, .val (.lst (Z.map encS)), .val (encR rows), .val (.int ((1 + rows.length : Nat) : Int)), .emp, .emp, .emp, .emp, .emp, .emp], m⟩) := by
  have hZl := h.n
  have cs : ∀ S0 : Ms, S0.r[0]? = some (.val T) → cSplit (eVar 0) (eC (.str "\n")) S0 = some (.lst (Z.map encS), S0) := fun S0 h0 => h.split hne hZl (fun y hy => hy) (by subst hT; simp [h0])
  have hb := read_block_ok h 0 (un "text") m
  rw [show S (un "text") = "text" from S_un _] at hb
  cases e : rdB (un "text") Z 0 with
  | bad r =>
    rw [e] at hb
    simp only [oB] at hb
    have hb' : f_read_block [.lst (Z.map encS), .int 0, .str "text"] m = some (.inr (xb r), m) := hb
    show _ = some (Fx.ex (xb r), _)
    generalize Z.map encS = W at *
    unfold b_read_paper t_read_paper_9
    generalize t_read_paper_8 ca = tl
    generalize f_read_block = fb at *
    generalize xb r = xx at *
    clear hT
    revert tl; refine opq ?_; intro tl
    simp [-cSplit_ap, cs, hb']
  | ok rows =>
    obtain ⟨r1, r2, r3⟩ := rdB_ok e
    rw [e] at hb
    simp only [oB] at hb
    have hb' : f_read_block [.lst (Z.map encS), .int 0, .str "text"] m = some (.inl (encR rows), m) := hb
    have cs2 : ∀ S0 : Ms, S0.r[2]? = some (.val (encR rows)) → cSplit (eVar 2) (eC (.str "\n")) S0 = some (.lst (rows.map encS), S0) := fun S0 h0 => h.split r1 (by omega) r3 (by unfold encR at h0; simp [h0])
    have hvw : ∀ S0 : Ms, vw S0 (encR rows) = encR rows := fun S0 => rfl
    have hlen : (rows.map encS).length = rows.length := by simp
    show _ = t_read_paper_7 ca _
    rw [show ((1 + rows.length : Nat) : Int) = 1 + (rows.length : Nat) by omega]
    generalize Z.map encS = W at *
    generalize rows.map encS = Y at *
    generalize encR rows = RR at *
    unfold b_read_paper t_read_paper_9 t_read_paper_8
    generalize t_read_paper_7 ca = tl
    generalize f_read_block = fb at *
    clear hT
    revert tl; refine opq ?_; intro tl
    simp [-cSplit_ap, cs, hb', cs2, hlen, hvw]
theorem rp_sub_bad (x0 x2 : M.Slot) {a r : Nat} (e : rdSub Z a = .bad r) : t_read_paper_7 ca ⟨[x0, .val (.lst (Z.map encS)), x2, .val (.int (a : Int)), .emp, .emp, .emp, .emp, .emp, .emp], m⟩ = some (.ex (xb r), ⟨[x0, .val (.lst (Z.map encS)), x2, .val (.int (a : Int)), .emp, .emp, .emp, .emp, .emp, .emp], m⟩) := by
  have hlW : (Z.map encS).length = Z.length := by simp
  have hb := read_block_ok h a (un "apart") m
  rw [show S (un "apart") = "apart" from S_un _] at hb
  unfold rdSub at e
  cases hZ : Z[a]? with
  | none =>
    rw [hZ] at e
    cases e
    have eb : rdB (un "apart") Z a = .bad (Z.length + 1) := by unfold rdB; rw [hZ]
    rw [eb] at hb
    have hge : Z.length ≤ a := by simpa using hZ
    have hb' : f_read_block [.lst (Z.map encS), .int (a : Int), .str "apart"] m = some (.inr (xb (Z.length + 1)), m) := hb
    have hnl : ¬ (a : Int) < (Z.length : Nat) := by omega
    generalize xb (Z.length + 1) = xx at *
    generalize Z.map encS = W at *
    generalize (a : Int) = A at *
    unfold t_read_paper_7
    generalize t_read_paper_6 ca = tl
    generalize f_read_block = fb at *
    revert tl; refine opq ?_; intro tl
    simp [hlW, hnl, hb']
  | some row =>
    rw [hZ] at e
    simp only at e
    have hlt : a < Z.length := (List.getElem?_eq_some_iff.mp hZ).1
    have hrl := h.r row (List.mem_of_getElem? hZ)
    have hat := atZ hZ
    have s1 := sl0 (l := row) (by omega) 6
    rw [show (((6 : Nat)) : Int) = 6 from rfl] at s1
    split at e
    · cases e
    · rename_i hp
      cases eb : rdB (un "apart") Z a with
      | ok rs => rw [eb] at e; cases e
      | bad r' =>
        rw [eb] at e hb
        cases e
        have hb' : f_read_block [.lst (Z.map encS), .int (a : Int), .str "apart"] m = some (.inr (xb r), m) := hb
        have hnl : (a : Int) < (Z.length : Nat) := by omega
        have hne : ¬ S (row.take 6) = "place " := by rw [lit_PLC, S_inj]; exact hp
        generalize xb r = xx at *
        generalize S (row.take 6) = TT at *
        generalize S row = RW at *
        generalize Z.map encS = W at *
        generalize (a : Int) = A at *
        unfold t_read_paper_7
        generalize t_read_paper_6 ca = tl
        generalize f_read_block = fb at *
        revert tl; refine opq ?_; intro tl
        simp [hlW, hnl, hat, s1, hne, hb']
theorem rp_sub_ok (x0 x2 : M.Slot) {a : Nat} {s : Sub} (e : rdSub Z a = .ok s) : ∃ y5, t_read_paper_7 ca ⟨[x0, .val (.lst (Z.map encS)), x2, .val (.int (a : Int)), .emp, .emp, .emp, .emp, .emp, .emp], m⟩ = t_read_paper_6 ca ⟨[x0, .val (.lst (Z.map encS)), x2, .val (.int ((a + (subL s).length : Nat) : Int)), .val (encSub s), y5, .emp, .emp, .emp, .emp], m⟩ := by
  have hlW : (Z.map encS).length = Z.length := by simp
  have hb := read_block_ok h a (un "apart") m
  rw [show S (un "apart") = "apart" from S_un _] at hb
  unfold rdSub at e
  cases hZ : Z[a]? with
  | none => rw [hZ] at e; cases e
  | some row =>
    rw [hZ] at e
    simp only at e
    have hlt : a < Z.length := (List.getElem?_eq_some_iff.mp hZ).1
    have hrl := h.r row (List.mem_of_getElem? hZ)
    have hat := atZ hZ
    have s1 := sl0 (l := row) (by omega) 6
    have s2 := slD (l := row) (by omega) 6
    have hnl : (a : Int) < (Z.length : Nat) := by omega
    rw [show (((6 : Nat)) : Int) = 6 from rfl] at s1 s2
    split at e
    · rename_i hp
      cases e
      rw [hp, ← lit_PLC] at s1
      refine ⟨.emp, ?_⟩
      rw [show ((a + (subL (.place (row.drop 6))).length : Nat) : Int) = (a : Int) + 1 by simp [subL], show encSub (.place (row.drop 6)) = .tup [.str "place", .str (S (row.drop 6))] from rfl]
      generalize S (row.drop 6) = TT at *
      generalize S row = RW at *
      generalize Z.map encS = W at *
      generalize (a : Int) = A at *
      unfold t_read_paper_7
      generalize t_read_paper_6 ca = tl
      revert tl; refine opq ?_; intro tl
      simp [hlW, hnl, hat, s1, s2]
    · rename_i hp
      cases eb : rdB (un "apart") Z a with
      | bad r' => rw [eb] at e; cases e
      | ok rs =>
        rw [eb] at e hb
        cases e
        obtain ⟨r1, r2, r3⟩ := rdB_ok eb
        have hb' : f_read_block [.lst (Z.map encS), .int (a : Int), .str "apart"] m = some (.inl (encR rs), m) := hb
        have hZl := h.n
        have cs2 : ∀ S0 : Ms, S0.r[5]? = some (.val (encR rs)) → cSplit (eVar 5) (eC (.str "\n")) S0 = some (.lst (rs.map encS), S0) := fun S0 h0 => h.split r1 (by omega) r3 (by unfold encR at h0; simp [h0])
        have hne : ¬ S (row.take 6) = "place " := by rw [lit_PLC, S_inj]; exact hp
        have hvw : ∀ S0 : Ms, vw S0 (encR rs) = encR rs := fun S0 => rfl
        have hlen : (rs.map encS).length = rs.length := by simp
        refine ⟨.val (encR rs), ?_⟩
        rw [show ((a + (subL (.apart rs)).length : Nat) : Int) = (a : Int) + 1 + (rs.length : Nat) by simp [subL]; omega, show encSub (.apart rs) = .tup [.str "apart", encR rs] from rfl]
        generalize encR rs = RR at *
        generalize rs.map encS = Y at *
        generalize S (row.take 6) = TT at *
        generalize S row = RW at *
        generalize Z.map encS = W at *
        generalize (a : Int) = A at *
        unfold t_read_paper_7
        generalize t_read_paper_6 ca = tl
        generalize f_read_block = fb at *
        revert tl; refine opq ?_; intro tl
        simp [-cSplit_ap, hlW, hnl, hat, s1, hne, hb', cs2, hlen, hvw]
end
section
variable (ca : Nat → Addr) {Z : List (List Nat)} (h : ZOk Z) (m : List Cell)
include h
theorem rp_ver (x0 x2 x4 x5 : M.Slot) (a : Nat) : t_read_paper_6 ca ⟨[x0, .val (.lst (Z.map encS)), x2, .val (.int (a : Int)), x4, x5, .emp, .emp, .emp, .emp], m⟩ = (match Z[a]? with
    | none => some (.ex (xb (Z.length + 1)), ⟨[x0, .val (.lst (Z.map encS)), x2, .val (.int (a : Int)), x4, x5, .emp, .emp, .emp, .emp], m⟩)
    | some row => match rdV row with
      | none => some (.ex (xb (a + 1)), ⟨[x0, .val (.lst (Z.map encS)), x2, .val (.int (a : Int)), x4, x5, .val .non, .emp, .emp, .emp], m⟩)
      | some v => t_read_paper_3 ca ⟨[x0, .val (.lst (Z.map encS)), x2, .val (.int (a : Int)), x4, x5, .val (encV v), .emp, .emp, .emp], m⟩) := by
  have hlW : (Z.map encS).length = Z.length := by simp
  cases hZ : Z[a]? with
  | none =>
    have hge : Z.length ≤ a := by simpa using hZ
    show _ = some (Fx.ex (xb (Z.length + 1)), _)
    unfold xb
    rw [show ((Z.length + 1 : Nat) : Int) = (Z.length : Int) + 1 by omega]
    have hnl : (Z.length : Int) ≤ (a : Int) := by omega
    generalize Z.map encS = W at *
    generalize (a : Int) = A at *
    unfold t_read_paper_6
    generalize t_read_paper_5 ca = tl
    revert tl; refine opq ?_; intro tl
    simp [hlW, hnl]
  | some row =>
    have hlt : a < Z.length := (List.getElem?_eq_some_iff.mp hZ).1
    have hrl := h.r row (List.mem_of_getElem? hZ)
    have hat := atZ hZ
    have hnl : ¬ (Z.length : Int) ≤ (a : Int) := by omega
    have hr := read_verdict_ok row (by omega) m
    cases hv : rdV row with
    | none =>
      rw [hv] at hr
      simp only [oV] at hr
      simp only [hv]
      unfold xb
      rw [show ((a + 1 : Nat) : Int) = (a : Int) + 1 by omega]
      generalize S row = RW at *
      generalize Z.map encS = W at *
      generalize (a : Int) = A at *
      unfold t_read_paper_6 t_read_paper_5 t_read_paper_4
      generalize t_read_paper_3 ca = tl
      revert tl; refine opq ?_; intro tl
      simp [hlW, hnl, hat, hr]
    | some v =>
      rw [hv] at hr
      have hr' : f_read_verdict [.str (S row)] m = some (encV v, m) := hr
      have hno : gIsN (encV v) .non = some (.bl false) := by cases v <;> rfl
      have hvw : ∀ S0 : Ms, vw S0 (encV v) = encV v := fun S0 => by cases v <;> rfl
      simp only [hv]
      clear hr hv
      generalize encV v = V at *
      generalize S row = RW at *
      generalize Z.map encS = W at *
      generalize (a : Int) = A at *
      unfold t_read_paper_6 t_read_paper_5 t_read_paper_4
      generalize t_read_paper_3 ca = tl
      revert tl; refine opq ?_; intro tl
      simp [hlW, hnl, hat, hr', hno, hvw]
end
theorem rp_end_bad (ll : XF) (x0 x5 : M.Slot) (R : List M.Slot) (d2 d4 d6 : M.D) (tl : XF) (xx : Ex) (L W : List M.D) (N : Int) (m : List Cell)
    (r1 : ∀ S0 : Ms, S0.r[1]? = some (.val (.lst W)) → S0.r[3]? = some (.val (.int N)) → iRg2 (eOp gAdd (eVar 3) (eC (.int 1))) (eCallV gLen 1) S0 = some (L, S0))
    (e : xForM (gNm 8) ll L ⟨[x0, .val (.lst W), .val d2, .val (.int N), .val d4, x5, .val d6, .own (.lst []), .emp, .emp], m⟩ = some (.ex xx, ⟨R, m⟩)) :
    (xSeq (xL (sOwn 7 (cLst aNil))) (xSeq (xFor (iRg2 (eOp gAdd (eVar 3) (eC (.int 1))) (eCallV gLen 1)) (gNm 8) ll) tl))
      ⟨[x0, .val (.lst W), .val d2, .val (.int N), .val d4, x5, .val d6, .emp, .emp, .emp], m⟩ = some (.ex xx, ⟨R, m⟩) := by
  simp [-iRg2_ap, r1, e]
theorem rp_end_none (ll : XF) (x0 x5 y8 y9 : M.Slot) (d2 d4 d6 : M.D) (rl : XF) (L W : List M.D) (N : Int) (m : List Cell)
    (r1 : ∀ S0 : Ms, S0.r[1]? = some (.val (.lst W)) → S0.r[3]? = some (.val (.int N)) → iRg2 (eOp gAdd (eVar 3) (eC (.int 1))) (eCallV gLen 1) S0 = some (L, S0))
    (e : xForM (gNm 8) ll L ⟨[x0, .val (.lst W), .val d2, .val (.int N), .val d4, x5, .val d6, .own (.lst []), .emp, .emp], m⟩ = some (.fl .nx, ⟨[x0, .val (.lst W), .val d2, .val (.int N), .val d4, x5, .val d6, .own (.lst []), y8, y9], m⟩)) :
    (xSeq (xL (sOwn 7 (cLst aNil))) (xSeq (xFor (iRg2 (eOp gAdd (eVar 3) (eC (.int 1))) (eCallV gLen 1)) (gNm 8) ll) (xSeq (xIf (bOf (eOp gEq2 (eCallV gLen 7) (eC (.int 0)))) (xRaiseRow 4 (aCons (eOp gAdd (eCallV gLen 1) (eC (.int 1))) aNil)) xNil) rl)))
      ⟨[x0, .val (.lst W), .val d2, .val (.int N), .val d4, x5, .val d6, .emp, .emp, .emp], m⟩ = some (.ex ⟨4, some (.int ((W.length : Int) + 1))⟩, ⟨[x0, .val (.lst W), .val d2, .val (.int N), .val d4, x5, .val d6, .own (.lst []), y8, y9], m⟩) := by
  have hn : gLen (.lst []) = some (.int 0) := rfl
  simp [-iRg2_ap, -gLen_lst, r1, e, hn, gLen_lst]
theorem rp_end_ok (ff : FF) (ll : XF) (ca : Nat → Addr) (x0 x5 y8 y9 : M.Slot) (d2 d4 d6 : M.D) (rl : XF) (T L W : List M.D) (N : Int) (m : List Cell) (hT : ¬ T = [])
    (r1 : ∀ S0 : Ms, S0.r[1]? = some (.val (.lst W)) → S0.r[3]? = some (.val (.int N)) → iRg2 (eOp gAdd (eVar 3) (eC (.int 1))) (eCallV gLen 1) S0 = some (L, S0))
    (e : xForM (gNm 8) ll L ⟨[x0, .val (.lst W), .val d2, .val (.int N), .val d4, x5, .val d6, .own (.lst []), .emp, .emp], m⟩ = some (.fl .nx, ⟨[x0, .val (.lst W), .val d2, .val (.int N), .val d4, x5, .val d6, .own (.lst T), y8, y9], m⟩)) :
    (xSeq (xL (sOwn 7 (cLst aNil))) (xSeq (xFor (iRg2 (eOp gAdd (eVar 3) (eC (.int 1))) (eCallV gLen 1)) (gNm 8) ll) (xSeq (xIf (bOf (eOp gEq2 (eCallV gLen 7) (eC (.int 0)))) (xRaiseRow 4 (aCons (eOp gAdd (eCallV gLen 1) (eC (.int 1))) aNil)) xNil) (xL (sRet (eMake (ca 11) 5 ff (aCons (eVar 2) (aCons (eVar 4) (aCons (eVar 6) (aCons (eCallV gTuple 7) aNil))))))))))
      ⟨[x0, .val (.lst W), .val d2, .val (.int N), .val d4, x5, .val d6, .emp, .emp, .emp], m⟩ =
    (ff [.ref m.length, d2, d4, d6, .tup T] (m ++ [.obj (ca 11) []])).bind fun q => match q.1 with
    | .non => some (.fl (.rt (.ref m.length)), ⟨[x0, .val (.lst W), .val d2, .val (.int N), .val d4, x5, .val d6, .own (.lst T), y8, y9], q.2⟩)
    | _ => none := by
  have h0 : ¬ (T.length : Int) = 0 := by
    intro z
    exact hT (List.length_eq_zero_iff.mp (by omega))
  have hn : gLen (.lst T) = some (.int (T.length : Int)) := rfl
  generalize (T.length : Int) = n at *
  simp [-iRg2_ap, -gLen_lst, r1, e, hn, h0]
  cases ff [.ref m.length, d2, d4, d6, .tup T] (m ++ [.obj (ca 11) []]) with
  | none => rfl
  | some q => obtain ⟨d, mm⟩ := q; cases d <;> rfl
/-! papers as objects -/
def mkP (ca : Nat → Addr) (a b c d : M.D) : Cell := .obj (ca 11) [("text", a), ("subject", b), ("verdict", c), ("tokens", d)]
theorem set_snoc {m : List Cell} {x y : Cell} : (m ++ [x]).set m.length y = m ++ [y] := by
  rw [List.set_append_right _ _ (Nat.le_refl _), Nat.sub_self]; rfl
theorem get_snoc {m : List Cell} {x : Cell} : (m ++ [x])[m.length]? = some x := by simp
theorem init_ok (ca : Nat → Addr) (m : List Cell) (a b c d : M.D) : f_Paper___init__ ca [.ref m.length, a, b, c, d] (m ++ [.obj (ca 11) []]) = some (.non, m ++ [mkP ca a b c d]) := by
  unfold f_Paper___init__ b_Paper___init__ t_Paper___init___2 t_Paper___init___1 mkP
  simp [fnM_ap, set_snoc, show ¬ ("text" : Str) = "subject" by decide +kernel, show ¬ ("text" : Str) = "verdict" by decide +kernel, show ¬ ("subject" : Str) = "verdict" by decide +kernel, show ¬ ("text" : Str) = "tokens" by decide +kernel, show ¬ ("subject" : Str) = "tokens" by decide +kernel, show ¬ ("verdict" : Str) = "tokens" by decide +kernel]
theorem fnX_bad {N : Nat} {b : XF} {ds : List M.D} {m : List Cell} {x : Ex} {R : List M.Slot} (h : b ⟨ds.map M.Slot.val ++ List.replicate (N - ds.length) .emp, m⟩ = some (.ex x, ⟨R, m⟩)) : fnX N b ds m = some (.inr x, m) := by
  unfold fnX
  rw [h]; rfl
theorem fnX_good {N : Nat} {b : XF} {ds : List M.D} {m m2 : List Cell} {d : M.D} {R : List M.Slot} (h : b ⟨ds.map M.Slot.val ++ List.replicate (N - ds.length) .emp, m⟩ = some (.fl (.rt d), ⟨R, m2⟩)) : fnX N b ds m = some (.inl d, m2) := by
  unfold fnX
  rw [h]; rfl
theorem read_paper_ok (ca : Nat → Addr) {Z : List (List Nat)} (h : ZOk Z) (hne : 1 ≤ Z.length) (m : List Cell) : f_read_paper ca [.str (S (TL.joinL [10] Z))] m = (match rdP Z with
    | .bad r => some (.inr (xb r), m)
    | .ok P => some (.inl (.ref m.length), m ++ [mkP ca (encR P.rows) (encSub P.sub) (encV P.ver) (.tup (P.toks.map encT))])) := by
  have hZl := h.n
  have e1 := rp_text ca h m hne _ rfl
  unfold rdP
  cases eT : rdB (un "text") Z 0 with
  | bad r =>
    rw [eT] at e1
    exact fnX_bad e1
  | ok rows =>
    rw [eT] at e1
    simp only at e1
    show f_read_paper ca [.str (S (TL.joinL [10] Z))] m = (match (match rdSub Z (1 + rows.length) with
      | .bad r => Rd.bad r
      | .ok s => rdE Z rows s (1 + rows.length + (subL s).length)) with
    | .bad r => some (.inr (xb r), m)
    | .ok P => some (.inl (.ref m.length), m ++ [mkP ca (encR P.rows) (encSub P.sub) (encV P.ver) (.tup (P.toks.map encT))]))
    cases eS : rdSub Z (1 + rows.length) with
    | bad r => exact fnX_bad (e1.trans (rp_sub_bad ca h m _ _ eS))
    | ok s =>
      obtain ⟨y5, e2⟩ := rp_sub_ok ca h m (.val (.str (S (TL.joinL [10] Z)))) (.val (encR rows)) eS
      have e3 := rp_ver ca h m (.val (.str (S (TL.joinL [10] Z)))) (.val (encR rows)) (.val (encSub s)) y5 (1 + rows.length + (subL s).length)
      show f_read_paper ca [.str (S (TL.joinL [10] Z))] m = (match rdE Z rows s (1 + rows.length + (subL s).length) with
        | .bad r => some (.inr (xb r), m)
        | .ok P => some (.inl (.ref m.length), m ++ [mkP ca (encR P.rows) (encSub P.sub) (encV P.ver) (.tup (P.toks.map encT))]))
      generalize 1 + rows.length + (subL s).length = a at *
      unfold rdE
      cases hZ : Z[a]? with
      | none =>
        rw [hZ] at e3
        exact fnX_bad (e1.trans (e2.trans e3))
      | some row =>
        rw [hZ] at e3
        cases hv : rdV row with
        | none =>
          simp only [hv] at e3 ⊢
          exact fnX_bad (e1.trans (e2.trans e3))
        | some v =>
          simp only [hv] at e3 ⊢
          obtain ⟨i1, i2⟩ := toks_loop ca h m (.val (.str (S (TL.joinL [10] Z)))) (.val (encR rows)) (.val (.int (a : Int))) (.val (encSub s)) y5 (.val (encV v)) (Z.drop (a + 1)) (a + 1) [] .emp .emp rfl (by simp; omega)
          have hlt : a < Z.length := (List.getElem?_eq_some_iff.mp hZ).1
          have r1 : ∀ S0 : Ms, S0.r[1]? = some (.val (.lst (Z.map encS))) → S0.r[3]? = some (.val (.int (a : Int))) → iRg2 (eOp gAdd (eVar 3) (eC (.int 1))) (eCallV gLen 1) S0 = some ((List.range' (a + 1) (Z.drop (a + 1)).length).map (fun i : Nat => M.D.int (i : Int)), S0) := fun S0 h1 h3 => by
            rw [iRg2_step (a := (a : Int) + 1) (b := (Z.length : Nat)) (S1 := S0) (S2 := S0) (by simp [h3]) (by simp [h1]) (by omega) (by omega)]
            unfold rngD
            rw [show (((Z.length : Nat) : Int) - ((a : Int) + 1)).toNat = (Z.drop (a + 1)).length by simp; omega, List.range'_eq_map_range, List.map_map]
            refine congrArg some (Prod.ext (List.map_congr_left fun i _ => congrArg M.D.int ?_) rfl)
            simp only [Function.comp_def] at *
            omega
          cases hts : rdTs (a + 1) (Z.drop (a + 1)) with
          | bad r =>
            obtain ⟨R, e4⟩ := i2 r hts
            exact fnX_bad (e1.trans (e2.trans (e3.trans (rp_end_bad (l_read_paper_1 ca) _ _ R _ _ _ (t_read_paper_1 ca) (xb r) _ _ _ m r1 e4))))
          | ok ts =>
            obtain ⟨y8, y9, e4⟩ := i1 ts hts
            cases ts with
            | nil =>
              have e5 := rp_end_none (l_read_paper_1 ca) _ _ y8 y9 _ _ _ (xL (sRet (eMake (ca 11) 5 (f_Paper___init__ ca) (aCons (eVar 2) (aCons (eVar 4) (aCons (eVar 6) (aCons (eCallV gTuple 7) aNil))))))) _ _ _ m r1 e4
              rw [List.length_map, show (Z.length : Int) + 1 = ((Z.length + 1 : Nat) : Int) by omega] at e5
              exact fnX_bad (e1.trans (e2.trans (e3.trans e5)))
            | cons t ts =>
              rw [List.nil_append] at e4
              have e5 := rp_end_ok (f_Paper___init__ ca) (l_read_paper_1 ca) ca _ _ y8 y9 _ _ _ (xL sNil) ((t :: ts).map encT) _ _ _ m (by simp) r1 e4
              rw [init_ok] at e5
              exact fnX_good (e1.trans (e2.trans (e3.trans e5)))
end Lk30



namespace Lk30
open PySem L2 M
/-! what the reader answers about rows that are known in part -/
theorem getat {α : Type} {Z a b : List α} {x : α} {i : Nat} (h : Z = a ++ x :: b) (hi : i = a.length) : Z[i]? = some x := by subst h; subst hi; simp
theorem slat {α : Type} {Z a r b : List α} {i n : Nat} (h : Z = a ++ r ++ b) (hi : i = a.length) (hn : n = r.length) : (Z.drop i).take n = r := by
  subst h; subst hi; subst hn; rw [List.append_assoc, List.drop_left', List.take_left']; all_goals rfl
theorem drat {α : Type} {Z a b : List α} {i : Nat} (h : Z = a ++ b) (hi : i = a.length) : Z.drop i = b := by subst h; subst hi; simp
theorem spl_head (w : List Nat) (hw : 32 ∉ w) (n : Nat) : spl 32 (w ++ 32 :: nl n) = [w, nl n] := by rw [spl_app hw, spl_one (DD_free f32 n)]
theorem rdH_gen (w : List Nat) (hw : 32 ∉ w) {n : Nat} (h : 1 ≤ n ∧ n < 1000000000000) : rdH w (w ++ 32 :: nl n) = some n := by
  unfold rdH
  rw [spl_head w hw n]
  show (if w = w then (match rdN (nl n) with | some 0 => none | o => o) else none) = some n
  rw [if_pos rfl, rdN_nl h.2]
  cases n with
  | zero => omega
  | succ k => rfl
theorem rdH_txt {n : Nat} (h : 1 ≤ n ∧ n < 1000000000000) : rdH (un "text") (TXT ++ nl n) = some n := by
  rw [show TXT = un "text" ++ [32] by decide +kernel, List.append_assoc]
  exact rdH_gen _ (by decide +kernel) h
theorem rdH_apt {n : Nat} (h : 1 ≤ n ∧ n < 1000000000000) : rdH (un "apart") (APT ++ nl n) = some n := by
  rw [show APT = un "apart" ++ [32] by decide +kernel, List.append_assoc]
  exact rdH_gen _ (by decide +kernel) h
theorem APT_take (l : List Nat) : ¬ (APT ++ l).take 6 = PLC := by
  rw [List.take_left' APT_len]; decide +kernel
theorem PLC_take (l : List Nat) : (PLC ++ l).take 6 = PLC ∧ (PLC ++ l).drop 6 = l := ⟨List.take_left' PLC_len, List.drop_left' PLC_len⟩
section
variable {hd w : List Nat} {Z a b rs : List (List Nat)} {i n : Nat}
theorem b_none (h : Z.length ≤ i) : rdB hd Z i = .bad (Z.length + 1) := by
  unfold rdB
  rw [List.getElem?_eq_none h]
theorem b_bad (hz : Z = a ++ w :: b) (hi : i = a.length) (hh : rdH hd w = none) : rdB hd Z i = .bad (i + 1) := by
  unfold rdB
  simp only [getat hz hi, hh]
theorem b_ok (hz : Z = a ++ w :: (rs ++ b)) (hi : i = a.length) (hh : rdH hd w = some n) (hn : n = rs.length) : rdB hd Z i = .ok rs := by
  unfold rdB
  simp only [getat hz hi, hh]
  have hl : Z.length = a.length + (rs.length + b.length + 1) := by rw [hz]; simp
  rw [if_neg (by omega), slat (a := a ++ [w]) (r := rs) (b := b) (by rw [hz]; simp) (by simp; omega) hn]
theorem b_long (hz : Z = a ++ w :: b) (hi : i = a.length) (hh : rdH hd w = some n) (hn : b.length < n) : rdB hd Z i = .bad (Z.length + 1) := by
  unfold rdB
  simp only [getat hz hi, hh]
  have hl : Z.length = a.length + (b.length + 1) := by rw [hz]; simp
  rw [if_pos (by omega)]
theorem s_none (h : Z.length ≤ i) : rdSub Z i = .bad (Z.length + 1) := by
  unfold rdSub
  rw [List.getElem?_eq_none h]
theorem s_bad (hz : Z = a ++ w :: b) (hi : i = a.length) (h6 : ¬ w.take 6 = PLC) (hh : rdH (un "apart") w = none) : rdSub Z i = .bad (i + 1) := by
  unfold rdSub
  simp only [getat hz hi, b_bad hz hi hh]
  rw [if_neg h6]
theorem s_long (hz : Z = a ++ (APT ++ nl n) :: b) (hi : i = a.length) (h : 1 ≤ n ∧ n < 1000000000000) (hn : b.length < n) : rdSub Z i = .bad (Z.length + 1) := by
  unfold rdSub
  simp only [getat hz hi, b_long hz hi (rdH_apt h) hn]
  rw [if_neg (APT_take _)]
theorem s_ok {s : Sub} (hz : Z = a ++ (subL s ++ b)) (hi : i = a.length) (hs : ∀ rs, s = .apart rs → 1 ≤ rs.length ∧ rs.length < 1000000000000) : rdSub Z i = .ok s := by
  unfold rdSub
  cases s with
  | place l =>
    rw [getat (x := PLC ++ l) (b := b) hz hi]
    simp only
    rw [if_pos (PLC_take l).1, (PLC_take l).2]
  | apart rs =>
    have h := hs rs rfl
    rw [getat (x := APT ++ nl rs.length) (b := rs ++ b) hz hi]
    simp only
    rw [if_neg (APT_take _), b_ok (rs := rs) (b := b) hz hi (rdH_apt h) rfl]
theorem ts_ok : ∀ {ts : List Tok} {j : Nat}, (∀ t ∈ ts, TokOk t) → rdTs j (ts.map tokL) = .ok ts
  | [], j, _ => rfl
  | t :: ts, j, h => by
    show (match rdT (tokL t) with
    | none => Rd.bad (j + 1)
    | some t => match rdTs (j + 1) (ts.map tokL) with
      | .ok ts => .ok (t :: ts)
      | .bad k => .bad k) = _
    rw [rdT_tok (h t (by simp)), ts_ok fun u hu => h u (List.mem_cons_of_mem _ hu)]
theorem ts_bad (hw : rdT w = none) : ∀ {ts : List Tok} {j : Nat}, (∀ t ∈ ts, TokOk t) → rdTs j (ts.map tokL ++ w :: b) = .bad (j + ts.length + 1)
  | [], j, _ => by
    show (match rdT w with
    | none => Rd.bad (j + 1)
    | some t => match rdTs (j + 1) b with
      | .ok ts => .ok (t :: ts)
      | .bad k => .bad k) = _
    rw [hw]; rfl
  | t :: ts, j, h => by
    show (match rdT (tokL t) with
    | none => Rd.bad (j + 1)
    | some t => match rdTs (j + 1) (ts.map tokL ++ w :: b) with
      | .ok ts => .ok (t :: ts)
      | .bad k => .bad k) = _
    rw [rdT_tok (h t (by simp)), ts_bad hw fun u hu => h u (List.mem_cons_of_mem _ hu)]
    simp only [List.length_cons]
    congr 1; omega
end
def A1 (P : Pp) : List (List Nat) := (TXT ++ nl P.rows.length) :: P.rows
def vd (P : Pp) : Nat := 1 + P.rows.length + (subL P.sub).length
section
variable {P : Pp} (h : POk P) {Z b : List (List Nat)} {w : List Nat}
include h
theorem rows_b : 1 ≤ P.rows.length ∧ P.rows.length < 1000000000000 := ⟨h.rows.1, by have := h.rows.2.1; omega⟩
theorem sub_b : ∀ rs, P.sub = .apart rs → 1 ≤ rs.length ∧ rs.length < 1000000000000 := fun rs e => by
  have hs := h.sub
  rw [e] at hs
  exact ⟨hs.1, by have := hs.2.1; omega⟩
theorem t_ok (hz : Z = A1 P ++ b) : rdB (un "text") Z 0 = .ok P.rows := b_ok (a := []) (w := TXT ++ nl P.rows.length) (b := b) (by rw [hz]; rfl) rfl (rdH_txt (rows_b h)) rfl
theorem p3 (hz : Z = A1 P ++ w :: b) (h6 : ¬ w.take 6 = PLC) (hh : rdH (un "apart") w = none) : rdP Z = .bad (1 + P.rows.length + 1) := by
  unfold rdP
  rw [t_ok h hz]
  simp only
  rw [s_bad hz (by simp [A1]; omega) h6 hh]
theorem p_sub (hz : Z = A1 P ++ (subL P.sub ++ b)) : rdP Z = rdE Z P.rows P.sub (vd P) := by
  unfold rdP
  rw [t_ok h hz]
  simp only
  rw [s_ok hz (by simp [A1]; omega) (sub_b h)]
  rfl
theorem A1_len : (A1 P ++ subL P.sub).length = vd P := by simp [A1, vd]; omega
theorem p4 (hz : Z = A1 P ++ (subL P.sub ++ w :: b)) (hw : rdV w = none) : rdP Z = .bad (vd P + 1) := by
  rw [p_sub h hz]
  unfold rdE
  rw [getat (a := A1 P ++ subL P.sub) (x := w) (b := b) (by rw [hz]; simp) (A1_len h).symm]
  simp only [hw]
theorem p8 {ts : List Tok} (ht : ∀ t ∈ ts, TokOk t) (hz : Z = A1 P ++ (subL P.sub ++ verL P.ver :: (ts.map tokL ++ w :: b))) (hw : rdT w = none) : rdP Z = .bad (vd P + 1 + ts.length + 1) := by
  rw [p_sub h hz]
  unfold rdE
  rw [getat (a := A1 P ++ subL P.sub) (x := verL P.ver) (b := ts.map tokL ++ w :: b) (by rw [hz]; simp) (A1_len h).symm, drat (a := A1 P ++ subL P.sub ++ [verL P.ver]) (b := ts.map tokL ++ w :: b) (by rw [hz]; simp) (by rw [List.length_append, A1_len h]; rfl)]
  simp only [rdV_ver h.ver, ts_bad hw ht]
theorem p0 : rdP (linesP P) = .ok P := by
  have hz : linesP P = A1 P ++ (subL P.sub ++ verL P.ver :: P.toks.map tokL) := by unfold linesP A1; simp
  rw [p_sub h hz]
  unfold rdE
  rw [getat (a := A1 P ++ subL P.sub) (x := verL P.ver) (b := P.toks.map tokL) (by rw [hz]; simp) (A1_len h).symm, drat (a := A1 P ++ subL P.sub ++ [verL P.ver]) (b := P.toks.map tokL) (by rw [hz]; simp) (by rw [List.length_append, A1_len h]; rfl)]
  simp only [rdV_ver h.ver, ts_ok h.toks]
  have h1 := h.tl.1
  obtain ⟨rows, sub, ver, toks⟩ := P
  cases toks with
  | nil => simp at h1
  | cons t ts => rfl
theorem p5a (hz : Z = A1 P) : rdP Z = .bad (Z.length + 1) := by
  unfold rdP
  rw [t_ok (b := []) h (by rw [hz]; simp)]
  simp only
  rw [s_none (by rw [hz]; simp [A1]; omega)]
theorem p5b (hz : Z = A1 P ++ subL P.sub) : rdP Z = .bad (Z.length + 1) := by
  have hl : Z.length = vd P := by rw [hz]; exact A1_len h
  rw [p_sub (b := []) h (by rw [hz]; simp)]
  unfold rdE
  rw [List.getElem?_eq_none (by omega)]
theorem p5c (hz : Z = A1 P ++ (subL P.sub ++ [verL P.ver])) : rdP Z = .bad (Z.length + 1) := by
  rw [p_sub h hz]
  unfold rdE
  rw [getat (a := A1 P ++ subL P.sub) (x := verL P.ver) (b := []) (by rw [hz]; simp) (A1_len h).symm, drat (a := A1 P ++ subL P.sub ++ [verL P.ver]) (b := []) (by rw [hz]; simp) (by rw [List.length_append, A1_len h]; rfl)]
  simp only [rdV_ver h.ver]
  rfl
theorem p7 {c : Nat} (hz : Z = A1 P ++ (APT ++ nl c) :: b) (hc : 1 ≤ c ∧ c < 1000000000000) (hb : b.length ≤ c) : rdP Z = .bad (Z.length + 1) := by
  unfold rdP
  rw [t_ok h hz]
  simp only
  by_cases e : c = b.length
  · subst e
    rw [s_ok (a := A1 P) (s := .apart b) (b := []) (by rw [hz]; simp [subL]) (by simp [A1]; omega) (fun rs e => by cases e; exact hc)]
    simp only
    unfold rdE
    rw [List.getElem?_eq_none (by rw [hz]; simp [A1, subL]; omega)]
  · rw [s_long hz (by simp [A1]; omega) hc (by omega)]
end
theorem p1 {Z b : List (List Nat)} {w : List Nat} (hz : Z = w :: b) (hh : rdH (un "text") w = none) : rdP Z = .bad 1 := by
  unfold rdP
  rw [b_bad (a := []) (i := 0) hz rfl hh]
theorem p2 {Z b : List (List Nat)} {c : Nat} (hz : Z = (TXT ++ nl c) :: b) (hc : 1 ≤ c ∧ c < 1000000000000) (hb : b.length ≤ c) : rdP Z = .bad (Z.length + 1) := by
  unfold rdP
  by_cases e : c = b.length
  · subst e
    rw [b_ok (Z := Z) (a := []) (i := 0) (rs := b) (b := []) (by rw [hz]; simp) rfl (rdH_txt hc) rfl]
    simp only
    rw [s_none (by rw [hz]; simp; omega)]
  · rw [b_long (a := []) (i := 0) hz rfl (rdH_txt hc) (by omega)]
/-- cut off ahead of the first token -/
theorem p5 {P : Pp} (h : POk P) {k : Nat} (h1 : 1 ≤ k) (h2 : k ≤ vd P + 1) : rdP ((linesP P).take k) = .bad (k + 1) := by
  have hz : linesP P = A1 P ++ (subL P.sub ++ verL P.ver :: P.toks.map tokL) := by unfold linesP A1; simp
  have hA : (A1 P).length = P.rows.length + 1 := rfl
  have hv : vd P = 1 + P.rows.length + (subL P.sub).length := rfl
  have hlen : (linesP P).length = vd P + 1 + P.toks.length := by rw [hz]; simp; omega
  have htl : ((linesP P).take k).length = k := by rw [List.length_take]; omega
  rcases Nat.lt_trichotomy k (P.rows.length + 1) with c | c | c
  · have e : (linesP P).take k = (TXT ++ nl P.rows.length) :: P.rows.take (k - 1) := by
      rw [hz, List.take_append_of_le_length (by omega), show A1 P = (TXT ++ nl P.rows.length) :: P.rows from rfl]
      obtain ⟨j, rfl⟩ : ∃ j, k = j + 1 := ⟨k - 1, by omega⟩
      rfl
    have := p2 e (rows_b h) (by simp; omega)
    rwa [htl] at this
  · have := p5a h (Z := (linesP P).take k) (by rw [hz, List.take_left' (by omega)])
    rwa [htl] at this
  · rcases Nat.lt_trichotomy k (vd P) with d | d | d
    · have hs : ∃ rs, P.sub = .apart rs := by
        cases e : P.sub with
        | place l => rw [e] at hv; simp [subL] at hv; omega
        | apart rs => exact ⟨rs, rfl⟩
      obtain ⟨rs, hs⟩ := hs
      have e : (linesP P).take k = A1 P ++ (APT ++ nl rs.length) :: rs.take (k - P.rows.length - 2) := by
        rw [hz, List.take_append, List.take_of_length_le (by omega), hA, hs]
        obtain ⟨j, hj⟩ : ∃ j, k - (P.rows.length + 1) = j + 1 := ⟨k - (P.rows.length + 1) - 1, by omega⟩
        rw [hj, show k - P.rows.length - 2 = j by omega]
        rw [hs] at hv
        simp only [subL, List.length_cons] at hv
        show A1 P ++ ((APT ++ nl rs.length) :: (rs ++ verL P.ver :: P.toks.map tokL)).take (j + 1) = _
        rw [List.take_succ_cons, List.take_append_of_le_length (by omega)]
      have := p7 h e (sub_b h rs hs) (by simp; omega)
      rwa [htl] at this
    · have := p5b h (Z := (linesP P).take k) (by rw [hz, ← List.append_assoc, List.take_left' (by rw [A1_len h]; omega)])
      rwa [htl] at this
    · have := p5c h (Z := (linesP P).take k) (by
        rw [hz, show A1 P ++ (subL P.sub ++ verL P.ver :: P.toks.map tokL) = (A1 P ++ (subL P.sub ++ [verL P.ver])) ++ P.toks.map tokL by simp, List.take_left' (by
          have := A1_len h
          simp at this ⊢; omega)])
      rwa [htl] at this
end Lk30



namespace Lk30
open PySem L2 M
/-! wrong rows -/
def BOdd : List Str := (["", "on ", " on", "On", "off", "over 1", "overs", "dead", "dead ", "dead -1", "dead 01", "dead 1,2"] : List Str) ++ (["dead 1 ", "dead  1", "dead x", "met", "met ", "met 1,", "met ,1", "met 1,,2", "met 1, 2", "met -1"] : List Str) ++ (["met 01", "met 1 2,", "met 1  2", "met 1000000000000", "dead 1000000000000", "found 1", "none"] : List Str) ++ (["place row 1", "dead 00", "met 1,00", "on 1", "met 1 ", "deads 1", "met 1,-2", "dead 1 +2"] : List Str) ++ (["dead 1_0", "met 1_0", "met 1,2_0", "dead 1 01", "dead 1 1000000000000", "met x", "met 1,x"] : List Str) ++ (["met 1 2 01", "met 1,1000000000000"] : List Str)
def BVer : List Str := (["found", "found ", "none ", " none", "None", "", "found x", "found 01", "found -0", "found -01", "found 1 "] : List Str) ++ (["found  1", "found 1  2", "found +1", "found 1,2", "found -", "found 1000000000000", "found --1"] : List Str) ++ (["nones", "on", "over", "found 1.0", "found 1 -1000000000000", "none 1", "founds 1", "found 1_0"] : List Str)
def BSub : List Str := (["place", "places x", "Place x", "", " place x", "plac", "apart", "apart 0", "apart 01", "apart x"] : List Str) ++ (["apart -1", "apart 1 ", "found 1", "on", "apart 1000000000000", "apart  1", "apart ", "none"] : List Str)
def wB (l : List Nat) : Bool := (l.all fun c => decide (32 ≤ c) && decide (c < 127)) && decide (l.length ≤ 100)
/-- a row that may lie in a text that is read -/
def WOk (l : List Nat) : Prop := (∀ c ∈ l, 32 ≤ c ∧ c < 127) ∧ l.length ≤ 100
theorem wB_ok {l : List Nat} (h : wB l = true) : WOk l := by
  unfold wB at h
  simp only [Bool.and_eq_true, List.all_eq_true, decide_eq_true_eq] at h
  exact h
theorem bOdd : ∀ z ∈ BOdd, (wB (un z) && decide (rdT (un z) = none)) = true := by decide +kernel
theorem bVer : ∀ z ∈ BVer, (wB (un z) && decide (rdV (un z) = none)) = true := by decide +kernel
theorem bSub : ∀ z ∈ BSub, (wB (un z) && (!decide ((un z).take 6 = PLC) && decide (rdH (un "apart") (un z) = none))) = true := by decide +kernel
theorem pick (B : List Str) (Q : List Nat → Prop) (hB : ∀ z ∈ B, Q (un z)) (hne : B ≠ []) {d : Int} : ∃ w, Q w ∧ gIx (.lst (B.map M.D.str)) (.int (d % (B.length : Int))) = some (.str (S w)) := by
  have hp : 0 < B.length := List.length_pos_iff.mpr hne
  obtain ⟨w, h1, h2⟩ := at_strs B Q hB (v := d % (B.length : Int)) (Int.emod_nonneg _ (by omega)) (Int.emod_lt_of_pos _ (by omega))
  exact ⟨w, h2, h1⟩
theorem odd_ok (d : Int) (m : List Cell) : ∃ w, (WOk w ∧ rdT w = none) ∧ f_law_odd [.int d] m = some (.str (S w), m) := by
  obtain ⟨w, h1, h2⟩ := pick BOdd (fun w => WOk w ∧ rdT w = none) (fun z hz => by
    have := bOdd z hz
    rw [Bool.and_eq_true] at this
    exact ⟨wB_ok this.1, of_decide_eq_true this.2⟩) (by simp [BOdd]) (d := d)
  refine ⟨w, h1, ?_⟩
  have h3 : atI (BOdd.map M.D.str) (d % 46) = some (.str (S w)) := h2
  simp only [BOdd, List.cons_append, List.nil_append, List.map_cons, List.map_nil] at h3
  unfold f_law_odd b_law_odd
  simp [fnM_ap, h3]
theorem ver_bad (d : Int) (m : List Cell) : ∃ w, (WOk w ∧ rdV w = none) ∧ f_law_verdict [.int d] m = some (.str (S w), m) := by
  obtain ⟨w, h1, h2⟩ := pick BVer (fun w => WOk w ∧ rdV w = none) (fun z hz => by
    have := bVer z hz
    rw [Bool.and_eq_true] at this
    exact ⟨wB_ok this.1, of_decide_eq_true this.2⟩) (by simp [BVer]) (d := d)
  refine ⟨w, h1, ?_⟩
  have h3 : atI (BVer.map M.D.str) (d % 26) = some (.str (S w)) := h2
  simp only [BVer, List.cons_append, List.nil_append, List.map_cons, List.map_nil] at h3
  unfold f_law_verdict b_law_verdict
  simp [fnM_ap, h3]
theorem sub_bad (d : Int) (m : List Cell) : ∃ w, (WOk w ∧ ¬ w.take 6 = PLC ∧ rdH (un "apart") w = none) ∧ f_law_subject [.int d] m = some (.str (S w), m) := by
  obtain ⟨w, h1, h2⟩ := pick BSub (fun w => WOk w ∧ ¬ w.take 6 = PLC ∧ rdH (un "apart") w = none) (fun z hz => by
    have := bSub z hz
    simp only [Bool.and_eq_true, Bool.not_eq_true', decide_eq_true_eq, decide_eq_false_iff_not] at this
    exact ⟨wB_ok this.1, this.2⟩) (by simp [BSub]) (d := d)
  refine ⟨w, h1, ?_⟩
  have h3 : atI (BSub.map M.D.str) (d % 18) = some (.str (S w)) := h2
  simp only [BSub, List.cons_append, List.nil_append, List.map_cons, List.map_nil] at h3
  unfold f_law_subject b_law_subject
  simp [fnM_ap, h3]
end Lk30



namespace Lk30
open PySem L2 M
/-! wrong first rows -/
def BFst (t : Str) : List Str := ((["text", "text ", "text 0", "text 0" ++ t, "text  " ++ t, "texts " ++ t, "text " ++ t ++ " "] : List Str) ++ (["text -" ++ t, "text x", " text " ++ t, "Text " ++ t, "text +" ++ t, ""] : List Str)) ++ (["place " ++ t, "text 1000000000000", "text" ++ t, "text " ++ t ++ " 1", "text 1_0"] : List Str)
theorem bFst : ∀ n < 21, 1 ≤ n → ∀ z ∈ BFst (S (nl n)), (wB (un z) && decide (rdH (un "text") (un z) = none)) = true := by decide +kernel
theorem fst_bad (n : Nat) (hn : 1 ≤ n ∧ n ≤ 20) (d : Int) (m : List Cell) : ∃ w, (WOk w ∧ rdH (un "text") w = none) ∧ f_law_first [.int (n : Int), .int d] m = some (.str (S w), m) := by
  have hs := str_nl (n := n) (by omega)
  obtain ⟨w, h1, h2⟩ := pick (BFst (S (nl n))) (fun w => WOk w ∧ rdH (un "text") w = none) (fun z hz => by
    have := bFst n (by omega) hn.1 z hz
    rw [Bool.and_eq_true] at this
    exact ⟨wB_ok this.1, of_decide_eq_true this.2⟩) (by simp [BFst]) (d := d)
  refine ⟨w, h1, ?_⟩
  have h3 : atI ((BFst (S (nl n))).map M.D.str) (d % 18) = some (.str (S w)) := h2
  simp only [BFst, List.cons_append, List.nil_append, List.map_cons, List.map_nil] at h3
  have hl : (S (nl n)).length ≤ 12 := by rw [S_len]; exact nl_len4 (by omega)
  generalize S (nl n) = t at *
  have l1 : ∀ z : Str, z.length ≤ 10 → gAdd (.str z) (.str t) = some (.str (z ++ t)) := fun z hz => by rw [gAdd_str, if_pos (by unfold LIM; omega)]
  have l2 : ∀ z : Str, z.length ≤ 10 → gAdd (.str ("text " ++ t)) (.str z) = some (.str ("text " ++ t ++ z)) := fun z hz => by
    rw [gAdd_str, if_pos]
    have : ("text " ++ t : Str).length = ("text " : Str).length + t.length := by
      obtain ⟨a, ha⟩ := ex_S ("text " : Str)
      obtain ⟨b, rfl⟩ := ex_S t
      rw [ha, S_app]; simp
    rw [this, show ("text " : Str).length = 5 by decide +kernel]; unfold LIM; omega
  have e1 := l1 "text 0" (by decide +kernel)
  have e2 := l1 "text  " (by decide +kernel)
  have e3 := l1 "texts " (by decide +kernel)
  have e4 := l1 "text " (by decide +kernel)
  have e5 := l2 " " (by decide +kernel)
  have e6 := l1 "text -" (by decide +kernel)
  have e7 := l1 " text " (by decide +kernel)
  have e8 := l1 "Text " (by decide +kernel)
  have e9 := l1 "text +" (by decide +kernel)
  have e10 := l1 "place " (by decide +kernel)
  have e11 := l1 "text" (by decide +kernel)
  have e12 := l2 " 1" (by decide +kernel)
  clear l1 l2
  unfold f_law_first b_law_first
  generalize ("text 0" ++ t : Str) = g1 at *
  generalize ("text  " ++ t : Str) = g2 at *
  generalize ("texts " ++ t : Str) = g3 at *
  generalize ("text " ++ t : Str) = g4 at *
  generalize ("text -" ++ t : Str) = g6 at *
  generalize (" text " ++ t : Str) = g7 at *
  generalize ("Text " ++ t : Str) = g8 at *
  generalize ("text +" ++ t : Str) = g9 at *
  generalize ("place " ++ t : Str) = g10 at *
  generalize ("text" ++ t : Str) = g11 at *
  generalize (g4 ++ " " : Str) = g5 at *
  generalize (g4 ++ " 1" : Str) = g12 at *
  simp [-gAdd_str, fnM_ap, hs, e1, e2, e3, e4, e5, e6, e7, e8, e9, e10, e11, e12, h3]
end Lk30



namespace Lk30
open PySem L2 M
/-! rows that are spoilt -/
def y8 (L sb vb Wd : M.D) (x5 x6 x7 : M.Slot) (k : Nat) (m : List Cell) : Ms := ⟨[.val L, .val sb, .val vb, .val Wd, .val (.ref k), x5, x6, x7], m⟩
theorem set_snoc2 {m : List Cell} {x y : Cell} : (m ++ [x]).set m.length y = m ++ [y] := set_snoc
section
variable (LL W : List M.D) (sb vb : Int) (m : List Cell)
theorem sp_start (k : M.D) (h0 : atI W 0 = some k) (hk : ∃ i : Int, k = .int i) : b_law_spoilt ⟨[.val (.lst LL), .val (.int sb), .val (.int vb), .val (.lst W), .emp, .emp, .emp, .emp], m⟩ = t_law_spoilt_9 (y8 (.lst LL) (.int sb) (.int vb) (.lst W) (.val k) .emp .emp m.length (m ++ [.lst LL])) := by
  obtain ⟨i, rfl⟩ := hk
  unfold b_law_spoilt t_law_spoilt_10 y8
  generalize t_law_spoilt_9 = tl
  revert tl; refine opq ?_; intro tl
  simp [h0]
/-- what is returned by a spoiling that stores a row -/
def spR (m : List Cell) (LL : List M.D) (i : Nat) (row : M.D) (e : Int) : Option (M.D × List Cell) := some (.tup [.ref m.length, .int e], m ++ [.lst (LL.set i row)])
def fin8 (x : Option (Fl × Ms)) : Option (M.D × List Cell) := x.bind fun p => match p.1 with
  | .rt d => some (d, p.2.m)
  | .nx => some (.non, p.2.m)
  | _ => none
theorem ix0 {n : Nat} (h : 0 < n) : ixN n 0 = some 0 := ixN_nat (i := 0) h
theorem sp1 (d : Int) (row : M.D) (hd : atI W 1 = some (.int d)) (hl : 0 < LL.length) (hf : f_law_first [.int (sb - 1), .int d] (m ++ [.lst LL]) = some (row, m ++ [.lst LL])) : fin8 (t_law_spoilt_9 (y8 (.lst LL) (.int sb) (.int vb) (.lst W) (.val (.int 1)) .emp .emp m.length (m ++ [.lst LL]))) = spR m LL 0 row 1 := by
  have h0 := ix0 hl
  have hs := set_snoc (m := m) (x := .lst LL) (y := .lst (LL.set 0 row))
  have hg := get_snoc (m := m) (x := .lst LL)
  unfold t_law_spoilt_9 y8 fin8 spR
  generalize t_law_spoilt_8 = tl
  generalize f_law_first = ff at *
  generalize m ++ [.lst LL] = mm at *
  revert tl; refine opq ?_; intro tl
  simp [hd, hf, hg, h0, hs]
theorem sp3 (d : Int) (row : M.D) (j : Nat) (hj : sb = (j : Int)) (hd : atI W 1 = some (.int d)) (hl : j < LL.length) (hf : f_law_subject [.int d] (m ++ [.lst LL]) = some (row, m ++ [.lst LL])) : fin8 (t_law_spoilt_9 (y8 (.lst LL) (.int sb) (.int vb) (.lst W) (.val (.int 3)) .emp .emp m.length (m ++ [.lst LL]))) = spR m LL j row (sb + 1) := by
  have h0 := ixN_nat hl
  rw [← hj] at h0
  have hs := set_snoc (m := m) (x := .lst LL) (y := .lst (LL.set j row))
  have hg := get_snoc (m := m) (x := .lst LL)
  unfold t_law_spoilt_9 t_law_spoilt_8 t_law_spoilt_7 y8 fin8 spR
  generalize t_law_spoilt_6 = tl
  generalize f_law_subject = ff at *
  generalize m ++ [.lst LL] = mm at *
  revert tl; refine opq ?_; intro tl
  simp [hd, hf, hg, h0, hs]
theorem sp4 (d : Int) (row : M.D) (j : Nat) (hj : vb = (j : Int)) (hd : atI W 1 = some (.int d)) (hl : j < LL.length) (hf : f_law_verdict [.int d] (m ++ [.lst LL]) = some (row, m ++ [.lst LL])) : fin8 (t_law_spoilt_9 (y8 (.lst LL) (.int sb) (.int vb) (.lst W) (.val (.int 4)) .emp .emp m.length (m ++ [.lst LL]))) = spR m LL j row (vb + 1) := by
  have h0 := ixN_nat hl
  rw [← hj] at h0
  have hs := set_snoc (m := m) (x := .lst LL) (y := .lst (LL.set j row))
  have hg := get_snoc (m := m) (x := .lst LL)
  unfold t_law_spoilt_9 t_law_spoilt_8 t_law_spoilt_7 t_law_spoilt_6 y8 fin8 spR
  generalize t_law_spoilt_5 = tl
  generalize f_law_verdict = ff at *
  generalize m ++ [.lst LL] = mm at *
  revert tl; refine opq ?_; intro tl
  simp [hd, hf, hg, h0, hs]
theorem cutTo (LL : List M.D) (k : Nat) : cutD LL none (some (k : Int)) = LL.take k := by
  unfold cutD
  rw [HT.sIx_nat, show HT.sIx LL.length 0 none = 0 from rfl, List.drop_zero, Nat.sub_zero]
  by_cases h : k ≤ LL.length
  · rw [Nat.min_eq_left h]
  · rw [Nat.min_eq_right (by omega), List.take_of_length_le (by omega), List.take_of_length_le (by omega)]
theorem sp5 (d : Int) (k : Nat) (hd : atI W 1 = some (.int d)) (hk : d % (vb + 2) = (k : Int)) (hv : 0 < vb + 2) : fin8 (t_law_spoilt_9 (y8 (.lst LL) (.int sb) (.int vb) (.lst W) (.val (.int 5)) .emp .emp m.length (m ++ [.lst LL]))) = some (.tup [.lst (LL.take k), .int (if k = 0 then 1 else k + 1)], m ++ [.lst LL]) := by
  have hg := get_snoc (m := m) (x := .lst LL)
  have hc := cutTo LL k
  have hm : gMod (.int d) (.int (vb + 2)) = some (.int (k : Int)) := by rw [← hk]; simp [hv]
  unfold t_law_spoilt_9 t_law_spoilt_8 t_law_spoilt_7 t_law_spoilt_6 t_law_spoilt_5 y8 fin8
  generalize t_law_spoilt_4 = tl
  generalize m ++ [.lst LL] = mm at *
  by_cases h0 : k = 0
  · subst h0
    rw [if_pos rfl]
    revert tl; refine opq ?_; intro tl
    simp at hm
    simp [hd, hg, hm]
    exact hc
  · rw [if_neg h0]
    have hp : (0 : Int) < (k : Int) := by omega
    have h1 : (1 : Int) < (k : Int) + 1 := by omega
    generalize (k : Int) = K at *
    revert tl; refine opq ?_; intro tl
    simp at hm
    simp [hd, hg, hm, hp, h1]
    exact hc
theorem sp6 (hl : LL.length ≤ 1000) : fin8 (t_law_spoilt_9 (y8 (.lst LL) (.int sb) (.int vb) (.lst W) (.val (.int 6)) .emp .emp m.length (m ++ [.lst LL]))) = some (.tup [.lst (LL ++ [.str ""]), .int ((LL.length : Int) + 1)], m ++ [.lst LL]) := by
  have hg := get_snoc (m := m) (x := .lst LL)
  unfold t_law_spoilt_9 t_law_spoilt_8 t_law_spoilt_7 t_law_spoilt_6 t_law_spoilt_5 t_law_spoilt_4 y8 fin8
  generalize t_law_spoilt_3 = tl
  generalize m ++ [.lst LL] = mm at *
  revert tl; refine opq ?_; intro tl
  simp [hg, show LL.length ≤ 999999 by omega]
theorem sp2 (d : Int) (c : Nat) (hd : atI W 1 = some (.int d)) (hl : 0 < LL.length) (hc : atI [M.D.int ((LL.length : Int) - 1), M.D.int (LL.length : Int), M.D.int 999999999999] (d % 3) = some (.int (c : Int))) (hc2 : c < 1000000000000) : fin8 (t_law_spoilt_9 (y8 (.lst LL) (.int sb) (.int vb) (.lst W) (.val (.int 2)) .emp .emp m.length (m ++ [.lst LL]))) = spR m LL 0 (encS (TXT ++ nl c)) ((LL.length : Int) + 1) := by
  have h0 := ix0 hl
  have hs := set_snoc (m := m) (x := .lst LL) (y := .lst (LL.set 0 (encS (TXT ++ nl c))))
  have hg := get_snoc (m := m) (x := .lst LL)
  have hst := gStr_ok (i := (c : Int)) (by omega)
  rw [numI_nat] at hst
  have ha := addS (a := TXT) (b := nl c) (by rw [TXT_len]; have := nl_len hc2; omega)
  rw [← lit_TXT] at ha
  unfold spR
  rw [show encS (TXT ++ nl c) = .str (S (TXT ++ nl c)) from rfl] at *
  generalize S (TXT ++ nl c) = RW at *
  generalize S (nl c) = NC at *
  have hlen : gLen (.lst LL) = some (.int (LL.length : Int)) := rfl
  generalize (LL.length : Int) = N at *
  generalize (c : Int) = C at *
  unfold t_law_spoilt_9 t_law_spoilt_8 y8 fin8
  generalize t_law_spoilt_7 = tl
  generalize m ++ [.lst LL] = mm at *
  revert tl; refine opq ?_; intro tl
  simp [-gLen_lst, -gAdd_str, hlen, hd, hc, hst, ha, hg, h0, hs]
theorem sp7 (d : Int) (c : Nat) (j : Nat) (hj : sb = (j : Int)) (rw0 : List Nat) (hr : atI LL sb = some (.str (S rw0))) (hr1 : rw0.length ≤ 1000) (hr2 : rw0.take 6 = APT) (hd : atI W 1 = some (.int d)) (hl : j < LL.length) (hc : atI [M.D.int ((LL.length : Int) - 1 - sb), M.D.int (LL.length : Int), M.D.int 999999999999] (d % 3) = some (.int (c : Int))) (hc2 : c < 1000000000000) : fin8 (t_law_spoilt_9 (y8 (.lst LL) (.int sb) (.int vb) (.lst W) (.val (.int 7)) .emp .emp m.length (m ++ [.lst LL]))) = spR m LL j (encS (APT ++ nl c)) ((LL.length : Int) + 1) := by
  have h0 := ixN_nat hl
  rw [← hj] at h0
  have hs := set_snoc (m := m) (x := .lst LL) (y := .lst (LL.set j (encS (APT ++ nl c))))
  have hg := get_snoc (m := m) (x := .lst LL)
  have hst := gStr_ok (i := (c : Int)) (by omega)
  rw [numI_nat] at hst
  have s1 := sl0 (l := rw0) (by omega) 6
  rw [hr2, show (((6 : Nat)) : Int) = 6 from rfl, ← lit_APT] at s1
  have ha := addS (a := APT) (b := nl c) (by rw [APT_len]; have := nl_len hc2; omega)
  rw [← lit_APT] at ha
  unfold spR
  rw [show encS (APT ++ nl c) = .str (S (APT ++ nl c)) from rfl] at *
  generalize S (APT ++ nl c) = RW at *
  generalize S (nl c) = NC at *
  generalize S rw0 = R0 at *
  have hlen : gLen (.lst LL) = some (.int (LL.length : Int)) := rfl
  generalize (LL.length : Int) = N at *
  generalize (c : Int) = C at *
  unfold t_law_spoilt_9 t_law_spoilt_8 t_law_spoilt_7 t_law_spoilt_6 t_law_spoilt_5 t_law_spoilt_4 t_law_spoilt_3 y8 fin8
  generalize t_law_spoilt_2 = tl
  generalize m ++ [.lst LL] = mm at *
  revert tl; refine opq ?_; intro tl
  simp [-gLen_lst, -gAdd_str, hlen, hd, hr, s1, hc, hst, ha, hg, h0, hs]
theorem sp8 (k d1 d2 : Int) (row : M.D) (j : Nat) (hk : ¬ k = 1 ∧ ¬ k = 2 ∧ ¬ k = 3 ∧ ¬ k = 4 ∧ ¬ k = 5 ∧ ¬ k = 6) (rw0 : List Nat) (hr : atI LL sb = some (.str (S rw0))) (hr1 : rw0.length ≤ 1000) (h7 : k = 7 → ¬ rw0.take 6 = APT) (hd : atI W 1 = some (.int d1)) (hd2 : atI W 2 = some (.int d2)) (hp : 0 < (LL.length : Int) - vb - 1) (hj : vb + 1 + d2 % ((LL.length : Int) - vb - 1) = (j : Int)) (hl : j < LL.length) (hf : f_law_odd [.int d1] (m ++ [.lst LL]) = some (row, m ++ [.lst LL])) : fin8 (t_law_spoilt_9 (y8 (.lst LL) (.int sb) (.int vb) (.lst W) (.val (.int k)) .emp .emp m.length (m ++ [.lst LL]))) = spR m LL j row ((j : Int) + 1) := by
  have h0 := ixN_nat hl
  have hs := set_snoc (m := m) (x := .lst LL) (y := .lst (LL.set j row))
  have hg := get_snoc (m := m) (x := .lst LL)
  obtain ⟨k1, k2, k3, k4, k5, k6⟩ := hk
  have hM : gMod (.int d2) (.int ((LL.length : Int) - vb - 1)) = some (.int (d2 % ((LL.length : Int) - vb - 1))) := by rw [gMod_int, if_pos hp]
  have s1 := sl0 (l := rw0) (by omega) 6
  rw [show (((6 : Nat)) : Int) = 6 from rfl] at s1
  have h7' : k = 7 → ¬ S (rw0.take 6) = "apart " := fun e => by rw [lit_APT, S_inj]; exact h7 e
  generalize S (rw0.take 6) = R6 at *
  generalize S rw0 = R0 at *
  have hlen : gLen (.lst LL) = some (.int (LL.length : Int)) := rfl
  generalize (LL.length : Int) = N at *
  generalize (j : Int) = J at *
  unfold t_law_spoilt_9 t_law_spoilt_8 t_law_spoilt_7 t_law_spoilt_6 t_law_spoilt_5 t_law_spoilt_4 t_law_spoilt_3 t_law_spoilt_2 t_law_spoilt_1 y8 fin8 spR
  generalize m ++ [.lst LL] = mm at *
  generalize f_law_odd = ff at *
  by_cases e7 : k = 7
  · have hn := h7' e7
    subst e7
    simp [-gLen_lst, -gMod_int, hlen, hd, hd2, hr, s1, hn, hM, hj, hf, hg, h0, hs]
  · simp [-gLen_lst, -gMod_int, hlen, hd, hd2, k1, k2, k3, k4, k5, k6, e7, hM, hj, hf, hg, h0, hs]
end
end Lk30



namespace Lk30
open PySem L2 M
/-! the data of papers are plain -/
theorem ok_row {l : List Nat} (h : ∀ c ∈ l, 32 ≤ c ∧ c < 127) : Ok l := fun c hc => by have := h c hc; omega
theorem ok_join {s : Nat} (hs : s < 0x110000) : ∀ {ys : List (List Nat)}, (∀ y ∈ ys, Ok y) → Ok (TL.joinL [s] ys)
  | [], _ => by intro c hc; simp [TL.joinL] at hc
  | [y], h => h y (by simp)
  | y :: z :: r, h => by
    rw [joinL_cons (by simp)]
    refine (h y (by simp)).app (Ok.app ?_ (ok_join hs fun x hx => h x (List.mem_cons_of_mem _ hx)))
    intro c hc; simp at hc; omega
theorem ok_rows {n : Nat} {rs : List (List Nat)} (h : RsOk n rs) : Ok (TL.joinL [10] rs) := ok_join (by decide) fun y hy => ok_row (h.2.2 y hy).1
theorem plS {n : Nat} {l : List Nat} (h : Ok l) : Pl n (.str (S l)) := pl_str h.so
theorem plL {n : Nat} {z : Str} (h : PyData.strOk z = true) : Pl n (.str z) := pl_str h
theorem pl_I {n : Nat} (vs : List Int) : Pl (n + 1) (.tup (I vs)) := pl_tup fun d hd => by
  obtain ⟨v, _, rfl⟩ := List.mem_map.mp hd
  exact pl_int
theorem pl_encR {n k : Nat} {rs : List (List Nat)} (h : RsOk n rs) : Pl k (encR rs) := plS (ok_rows h)
theorem pl_sub {k : Nat} {s : Sub} (h : SubOk s) : Pl (k + 1) (encSub s) := by
  cases s with
  | place l => exact pl_tup (pls_cons (plL (by decide +kernel)) (pls_cons (plS (ok_row h.1)) pls_nil))
  | apart rs => exact pl_tup (pls_cons (plL (by decide +kernel)) (pls_cons (pl_encR h) pls_nil))
theorem pl_ver {k : Nat} (v : Ver) : Pl (k + 2) (encV v) := by
  cases v with
  | none => exact pl_tup (pls_cons (plL (by decide +kernel)) pls_nil)
  | found vs => exact pl_tup (pls_cons (plL (by decide +kernel)) (pls_cons (pl_I vs) pls_nil))
theorem pl_tok {k : Nat} (t : Tok) : Pl (k + 3) (encT t) := by
  cases t with
  | on => exact pl_tup (pls_cons (plL (by decide +kernel)) pls_nil)
  | over => exact pl_tup (pls_cons (plL (by decide +kernel)) pls_nil)
  | dead ns => exact pl_tup (pls_cons (plL (by decide +kernel)) (pls_cons (pl_nI ns) pls_nil))
  | met fs => exact pl_tup (pls_cons (plL (by decide +kernel)) (pls_cons (pl_tup fun d hd => by
      obtain ⟨f, _, rfl⟩ := List.mem_map.mp hd
      exact pl_nI f) pls_nil))
theorem pl_toks {k : Nat} (ts : List Tok) : Pl (k + 4) (.tup (ts.map encT)) := pl_tup fun d hd => by
  obtain ⟨t, _, rfl⟩ := List.mem_map.mp hd
  exact pl_tok t
/-- the four parts of a paper, plain -/
structure P4 (a b c d : M.D) : Prop where
  a : Pl 5 a
  b : Pl 5 b
  c : Pl 5 c
  d : Pl 5 d
theorem pl2 {a b : M.D} (h1 : Pl 5 a) (h2 : Pl 5 b) : PL (.tup [a, b]) := (pl_tup (n := 5) (pls_cons h1 (pls_cons h2 pls_nil))).pl
theorem p4_of {P : Pp} (h : POk P) : P4 (encR P.rows) (encSub P.sub) (encV P.ver) (.tup (P.toks.map encT)) := ⟨pl_encR h.rows, pl_sub h.sub, pl_ver _, pl_toks _⟩
/-! sizes, for repr -/
theorem sz_str (l : List Nat) : szD (.str (S l)) = 10 * l.length + 2 := by simp [szD]
theorem sz_nI {ns : List Nat} (h : NsOk ns) : szD (.tup (nI ns)) ≤ 128 := by
  have hz := szDs_le (ds := nI ns) (n := 16) (fun d hd => by
    obtain ⟨k, hk, rfl⟩ := List.mem_map.mp hd
    have := h.2.2 k hk
    simp only [szD]
    rw [if_pos (by omega)]; omega)
  have e : (nI ns).length = ns.length := by simp [nI]
  have := h.2.1
  simp only [szD]
  rw [e] at hz
  omega
theorem sz_tok {t : Tok} (h : TokOk t) : szD (encT t) ≤ 900 := by
  have hs : ∀ z : Str, z.length ≤ 10 → szD (.str z) ≤ 102 := fun z hz => by simp only [szD]; omega
  cases t with
  | on => have := hs "on" (by decide +kernel); simp only [encT, szD, szDs] at *; omega
  | over => have := hs "over" (by decide +kernel); simp only [encT, szD, szDs] at *; omega
  | dead ns =>
    have h1 := hs "dead" (by decide +kernel)
    have h2 := sz_nI h
    have : szD (encT (.dead ns)) = szD (.str "dead") + 2 + (szD (.tup (nI ns)) + 2 + 0) + 2 := rfl
    omega
  | met fs =>
    have h1 := hs "met" (by decide +kernel)
    have h2 := szDs_le (ds := fs.map fun f => M.D.tup (nI f)) (n := 128) (fun d hd => by
      obtain ⟨f, hf, rfl⟩ := List.mem_map.mp hd
      exact sz_nI (h.2.2 f hf))
    rw [List.length_map] at h2
    have : szD (encT (.met fs)) = szD (.str "met") + 2 + (szDs (fs.map fun f => M.D.tup (nI f)) + 2 + 2 + 0) + 2 := rfl
    have := h.2.1
    omega
theorem repr_ok {P : Pp} (h : POk P) : ∃ z, gRepr (.lst [encR P.rows, encSub P.sub, encV P.ver, .tup (P.toks.map encT)]) = some (.str z) := by
  have p := p4_of h
  refine repr_lst (pl_lst (n := 5) (pls_cons p.a (pls_cons p.b (pls_cons p.c (pls_cons p.d pls_nil))))).pl ?_
  have s1 : szD (encR P.rows) ≤ 22000 := by
    have := (rows_len h.rows (by omega)).2
    unfold encR
    rw [sz_str]; omega
  have s2 : szD (encSub P.sub) ≤ 22000 := by
    have hs : ∀ z : Str, z.length ≤ 10 → szD (.str z) ≤ 102 := fun z hz => by simp only [szD]; omega
    have hso := h.sub
    cases hsub : P.sub with
    | place l =>
      rw [hsub] at hso
      have h1 := hs "place" (by decide +kernel)
      have h2 := sz_str l
      have : szD (encSub (.place l)) = szD (.str "place") + 2 + (szD (.str (S l)) + 2 + 0) + 2 := rfl
      have := hso.2
      omega
    | apart rs =>
      rw [hsub] at hso
      have h1 := hs "apart" (by decide +kernel)
      have h2 := sz_str (TL.joinL [10] rs)
      have := (rows_len hso (by omega)).2
      have : szD (encSub (.apart rs)) = szD (.str "apart") + 2 + (szD (.str (S (TL.joinL [10] rs))) + 2 + 0) + 2 := rfl
      omega
  have s3 : szD (encV P.ver) ≤ 22000 := by
    have hs : ∀ z : Str, z.length ≤ 10 → szD (.str z) ≤ 102 := fun z hz => by simp only [szD]; omega
    have hso := h.ver
    cases hv : P.ver with
    | none =>
      have h1 := hs "none" (by decide +kernel)
      have : szD (encV .none) = szD (.str "none") + 2 + 0 + 2 := rfl
      omega
    | found vs =>
      rw [hv] at hso
      have h1 := hs "found" (by decide +kernel)
      have h2 := szDs_le (ds := I vs) (n := 16) (fun d hd => by
        obtain ⟨k, hk, rfl⟩ := List.mem_map.mp hd
        have := hso.2.2 k hk
        simp only [szD]
        rw [if_pos (by omega)]; omega)
      rw [I_len] at h2
      have : szD (encV (.found vs)) = szD (.str "found") + 2 + (szDs (I vs) + 2 + 2 + 0) + 2 := rfl
      have := hso.2.1
      omega
  have s4 : szD (.tup (P.toks.map encT)) ≤ 60000 := by
    have h2 := szDs_le (ds := P.toks.map encT) (n := 900) (fun d hd => by
      obtain ⟨t, ht, rfl⟩ := List.mem_map.mp hd
      exact sz_tok (h.toks t ht))
    rw [List.length_map] at h2
    have := h.tl.2
    simp only [szD]
    omega
  show szD (encR P.rows) + 2 + (szD (encSub P.sub) + 2 + (szD (encV P.ver) + 2 + (szD (.tup (P.toks.map encT)) + 2 + 0))) + 2 ≤ 1000000
  omega
theorem verL_len {v : Ver} (h : VerOk v) : (verL v).length ≤ 200 := by
  cases v with
  | none => decide +kernel
  | found vs =>
    have := jn_len (s := 32) (ver_vs h)
    show (FND ++ jn 32 vs).length ≤ 200
    rw [List.length_append, FND_len]; omega
theorem lines_len {P : Pp} (h : POk P) : (linesP P).length ≤ 100 ∧ (linesP P).length = 2 + P.rows.length + (subL P.sub).length + P.toks.length := by
  have h1 := h.rows.2.1
  have h2 := sub_len h.sub
  have h3 := h.tl.2
  have : (linesP P).length = 2 + P.rows.length + (subL P.sub).length + P.toks.length := by unfold linesP; simp; omega
  exact ⟨by omega, this⟩
theorem line_len {P : Pp} (h : POk P) : ∀ y ∈ linesP P, y.length ≤ 1000 := by
  have hrl := h.rows.2.1
  intro y hy
  unfold linesP at hy
  simp only [List.mem_append, List.mem_cons, List.not_mem_nil, or_false, List.mem_map] at hy
  rcases hy with (((rfl | hy) | hy) | rfl) | ⟨t, ht, rfl⟩
  · have := nl_len4 (n := P.rows.length) (by omega)
    rw [List.length_append, TXT_len]; omega
  · have := (h.rows.2.2 y hy).2; omega
  · have hs := h.sub
    cases hsub : P.sub with
    | place l =>
      rw [hsub] at hs hy
      simp only [subL, List.mem_cons, List.not_mem_nil, or_false] at hy
      subst hy
      rw [List.length_append, PLC_len]; have := hs.2; omega
    | apart rs =>
      rw [hsub] at hs hy
      simp only [subL, List.mem_cons] at hy
      rcases hy with rfl | hy
      · have := nl_len4 (n := rs.length) (by have := hs.2.1; omega)
        rw [List.length_append, APT_len]; omega
      · have := (hs.2.2 y hy).2; omega
  · have := verL_len h.ver; omega
  · have := tokL_len (h.toks t ht); omega
theorem text_len {P : Pp} (h : POk P) : (textP P).length ≤ 200000 := by
  have h1 := flat_len (n := 0) (k := 1000) (ys := linesP P) (line_len h)
  have h2 := joinL_len [10] (linesP P)
  have h3 := (lines_len h).1
  rw [List.length_singleton] at h2
  unfold textP
  omega
end Lk30



namespace Lk30
open PySem L2 M
/-! refused -/
theorem refused_ok (ca : Nat → Addr) {Z : List (List Nat)} (h : ZOk Z) (hne : 1 ≤ Z.length) {r : Nat} (e : rdP Z = .bad r) (m : List Cell) : f_law_refused ca [.str (S (TL.joinL [10] Z))] m = some (.int (r : Int), m) := by
  have hr := read_paper_ok ca h hne m
  rw [e] at hr
  have hr' : f_read_paper ca [.str (S (TL.joinL [10] Z))] m = some (.inr (xb r), m) := hr
  clear hr e
  have hb : b_law_refused ca ⟨[.val (.str (S (TL.joinL [10] Z))), .emp], m⟩ = some (.fl (.rt (.int (r : Int))), ⟨[.val (.str (S (TL.joinL [10] Z))), .emp], m⟩) := by
    unfold b_law_refused
    generalize S (TL.joinL [10] Z) = T at *
    unfold xb at hr'
    generalize (r : Int) = rr at *
    generalize f_read_paper ca = fr at *
    simp [hr', hSeq, hIf, hB, hRet]
  unfold f_law_refused noX
  have := fnX_good (N := 2) (ds := [.str (S (TL.joinL [10] Z))]) hb
  rw [this]; rfl
theorem zok_lines {P : Pp} (h : POk P) : ZOk (linesP P) := ⟨by have := (lines_len h).1; omega, line_len h, lines_10 h⟩
theorem w10 {w : List Nat} (h : WOk w) : 10 ∉ w ∧ w.length ≤ 1000 := ⟨fun c => by have := h.1 10 c; omega, by have := h.2; omega⟩
theorem ZOk.set {Z : List (List Nat)} (h : ZOk Z) {w : List Nat} (hw : 10 ∉ w ∧ w.length ≤ 1000) (i : Nat) : ZOk (Z.set i w) := ⟨by simpa using h.n, fun y hy => by
    rcases List.mem_or_eq_of_mem_set hy with hy | rfl
    · exact h.r y hy
    · exact hw.2, fun y hy => by
    rcases List.mem_or_eq_of_mem_set hy with hy | rfl
    · exact h.f y hy
    · exact hw.1⟩
theorem ZOk.take {Z : List (List Nat)} (h : ZOk Z) (k : Nat) : ZOk (Z.take k) := ⟨by have := h.n; simp; omega, fun y hy => h.r y (List.mem_of_mem_take hy), fun y hy => h.f y (List.mem_of_mem_take hy)⟩
/-- where the first e rows are as given, the answer is e -/
def Fix (e : Nat) (Z : List (List Nat)) : Prop := ∀ Z', Z'.take e = Z.take e → rdP Z' = .bad e
theorem fix_of {Z a b : List (List Nat)} {w : List Nat} {e : Nat} (hz : Z = a ++ w :: b) (he : e = a.length + 1) (h : ∀ b', rdP (a ++ w :: b') = .bad e) : Fix e Z := fun Z' hz' => by
  have h1 : Z.take e = a ++ [w] := by rw [hz, he, show a ++ w :: b = (a ++ [w]) ++ b by simp, List.take_left' (by simp)]
  have h2 : Z' = a ++ w :: Z'.drop e := by
    conv => lhs; rw [← List.take_append_drop e Z', hz', h1]
    simp
  rw [h2]; exact h _
theorem set_mid {α : Type} {Z a b : List α} {x w : α} {i : Nat} (hz : Z = a ++ x :: b) (hi : i = a.length) : Z.set i w = a ++ w :: b := by subst hz; subst hi; simp
section
variable {P : Pp} (h : POk P)
include h
theorem lines_eq : linesP P = A1 P ++ (subL P.sub ++ verL P.ver :: P.toks.map tokL) := by unfold linesP A1; simp
theorem lines_n : (linesP P).length = vd P + 1 + P.toks.length := by rw [lines_eq h]; unfold A1 vd; simp; omega
theorem sub_cons : ∃ s ss, subL P.sub = s :: ss ∧ (s.take 6 = APT → ∃ rs, P.sub = .apart rs ∧ ss = rs) ∧ s.length ≤ 1000 := by
  have hs := h.sub
  cases e : P.sub with
  | place l =>
    rw [e] at hs
    refine ⟨PLC ++ l, [], rfl, fun z => ?_, by rw [List.length_append, PLC_len]; have := hs.2; omega⟩
    rw [(PLC_take l).1] at z
    exact absurd z (by decide +kernel)
  | apart rs =>
    rw [e] at hs
    refine ⟨APT ++ nl rs.length, rs, rfl, fun _ => ⟨rs, rfl, rfl⟩, ?_⟩
    rw [List.length_append, APT_len]
    have := nl_len4 (n := rs.length) (by have := hs.2.1; omega)
    omega
theorem fix1 {w : List Nat} (hw : rdH (un "text") w = none) : Fix 1 ((linesP P).set 0 w) := by
  have hz : linesP P = [] ++ (TXT ++ nl P.rows.length) :: (P.rows ++ (subL P.sub ++ verL P.ver :: P.toks.map tokL)) := by rw [lines_eq h]; rfl
  exact fix_of (a := []) (set_mid hz rfl) rfl fun b' => p1 rfl hw
theorem fix3 {w : List Nat} (h6 : ¬ w.take 6 = PLC) (hw : rdH (un "apart") w = none) : Fix (1 + P.rows.length + 1) ((linesP P).set (1 + P.rows.length) w) := by
  obtain ⟨s, ss, hs, _⟩ := sub_cons h
  have hz : linesP P = A1 P ++ s :: (ss ++ verL P.ver :: P.toks.map tokL) := by rw [lines_eq h, hs]; rfl
  exact fix_of (a := A1 P) (set_mid hz (by simp [A1]; omega)) (by simp [A1]; omega) fun b' => p3 h rfl h6 hw
theorem fix4 {w : List Nat} (hw : rdV w = none) : Fix (vd P + 1) ((linesP P).set (vd P) w) := by
  have hz : linesP P = (A1 P ++ subL P.sub) ++ verL P.ver :: P.toks.map tokL := by rw [lines_eq h]; simp
  refine fix_of (a := A1 P ++ subL P.sub) (set_mid hz (A1_len h).symm) (by rw [A1_len h]) fun b' => p4 (b := b') h (by simp) hw
theorem fix8 {w : List Nat} {i : Nat} (hi : i < P.toks.length) (hw : rdT w = none) : Fix (vd P + 1 + i + 1) ((linesP P).set (vd P + 1 + i) w) := by
  have hz : linesP P = (A1 P ++ (subL P.sub ++ verL P.ver :: (P.toks.take i).map tokL)) ++ tokL P.toks[i] :: (P.toks.drop (i + 1)).map tokL := by
    rw [lines_eq h]
    have : P.toks.map tokL = (P.toks.take i).map tokL ++ tokL P.toks[i] :: (P.toks.drop (i + 1)).map tokL := by
      conv => lhs; rw [← List.take_append_drop i P.toks, List.drop_eq_getElem_cons hi]
      rw [List.map_append, List.map_cons]
    rw [this]; simp
  have hl : (A1 P ++ (subL P.sub ++ verL P.ver :: (P.toks.take i).map tokL)).length = vd P + 1 + i := by
    have := A1_len h
    simp at this ⊢
    omega
  refine fix_of (a := A1 P ++ (subL P.sub ++ verL P.ver :: (P.toks.take i).map tokL)) (set_mid hz hl.symm) (by rw [hl]) fun b' => ?_
  have hp := p8 h (ts := P.toks.take i) (b := b') (w := w) (fun t ht => h.toks t (List.mem_of_mem_take ht)) (Z := (A1 P ++ (subL P.sub ++ verL P.ver :: (P.toks.take i).map tokL)) ++ w :: b') (by simp) hw
  rw [List.length_take, Nat.min_eq_left (by omega)] at hp
  exact hp
theorem bad2 {c : Nat} (hc : 1 ≤ c ∧ c < 1000000000000) (hb : (linesP P).length ≤ c + 1) : rdP ((linesP P).set 0 (TXT ++ nl c)) = .bad ((linesP P).length + 1) := by
  have hz : linesP P = [] ++ (TXT ++ nl P.rows.length) :: (P.rows ++ (subL P.sub ++ verL P.ver :: P.toks.map tokL)) := by rw [lines_eq h]; rfl
  have e := set_mid (w := TXT ++ nl c) hz (i := 0) rfl
  have hl := congrArg List.length hz
  rw [List.nil_append, List.length_cons] at hl
  have := p2 (Z := (linesP P).set 0 (TXT ++ nl c)) (c := c) (b := P.rows ++ (subL P.sub ++ verL P.ver :: P.toks.map tokL)) (by rw [e]; rfl) hc (by omega)
  rwa [List.length_set] at this
theorem bad7 {c : Nat} (hc : 1 ≤ c ∧ c < 1000000000000) (hb : (linesP P).length ≤ 1 + P.rows.length + c + 1) : rdP ((linesP P).set (1 + P.rows.length) (APT ++ nl c)) = .bad ((linesP P).length + 1) := by
  obtain ⟨s, ss, hs, _⟩ := sub_cons h
  have hz : linesP P = A1 P ++ s :: (ss ++ verL P.ver :: P.toks.map tokL) := by rw [lines_eq h, hs]; rfl
  have e := set_mid (w := APT ++ nl c) hz (i := 1 + P.rows.length) (by simp [A1]; omega)
  have hl := congrArg List.length hz
  rw [List.length_append, List.length_cons, show (A1 P).length = P.rows.length + 1 from rfl] at hl
  have := p7 h (c := c) e hc (by omega)
  rwa [List.length_set] at this
theorem bad6 : rdP (linesP P ++ [[]]) = .bad ((linesP P).length + 1) := by
  have := p8 h (ts := P.toks) (b := []) (w := []) h.toks (Z := linesP P ++ [[]]) (by rw [lines_eq h]; simp) (by decide +kernel)
  rw [this, lines_n h]
end
end Lk30



namespace Lk30
open PySem L2 M
/-! all the ways to spoil -/
inductive Out (P : Pp) (k : Int) (m : List Cell) : List (List Nat) → Nat → M.D → List Cell → Prop where
  | fix {Z : List (List Nat)} {e : Nat} : k ≠ 2 → k ≠ 7 → Z.length = (linesP P).length → ZOk Z → 1 ≤ e → Fix e Z → Out P k m Z e (.ref m.length) (m ++ [.lst (Z.map encS)])
  | bad {Z : List (List Nat)} {e : Nat} : (k = 2 ∨ k = 7) → ZOk Z → 1 ≤ Z.length → rdP Z = .bad e → Out P k m Z e (.ref m.length) (m ++ [.lst (Z.map encS)])
  | len {Z Y : List (List Nat)} {e : Nat} : Z.length ≠ (linesP P).length → Z.length ≤ 1000 → ZOk Y → 1 ≤ Y.length → TL.joinL [10] Z = TL.joinL [10] Y → Z.flatten.length ≤ 900000 → rdP Y = .bad e → Out P k m Z e (.lst (Z.map encS)) (m ++ [.lst ((linesP P).map encS)])
theorem map_set_S (Z : List (List Nat)) (i : Nat) (w : List Nat) : (Z.map encS).set i (encS w) = (Z.set i w).map encS := by rw [List.map_set]
theorem zok_flat {Z : List (List Nat)} (h : ZOk Z) : Z.flatten.length ≤ 900000 := by
  have h1 := flat_len (n := 0) (k := 1000) (ys := Z) h.r
  have := h.n
  omega
theorem spR_map {m : List Cell} {Z : List (List Nat)} {i : Nat} {w : List Nat} {e : Int} : spR m (Z.map encS) i (encS w) e = some (.tup [.ref m.length, .int e], m ++ [.lst ((Z.set i w).map encS)]) := by
  unfold spR; rw [map_set_S]
theorem three {d : Int} {a b c : Nat} (N1 N2 N3 : Int) (h1 : N1 = (a : Int)) (h2 : N2 = (b : Int)) (h3 : N3 = (c : Int)) : ∃ x : Nat, (x = a ∨ x = b ∨ x = c) ∧ atI [M.D.int N1, M.D.int N2, M.D.int N3] (d % 3) = some (.int (x : Int)) := by
  subst h1; subst h2; subst h3
  have h : d % 3 = 0 ∨ d % 3 = 1 ∨ d % 3 = 2 := by omega
  rcases h with h | h | h <;> rw [h]
  · exact ⟨a, .inl rfl, rfl⟩
  · exact ⟨b, .inr (.inl rfl), rfl⟩
  · exact ⟨c, .inr (.inr rfl), rfl⟩
theorem spoilt_ok {P : Pp} (h : POk P) (W : List M.D) (k d1 d2 : Int) (hk : 1 ≤ k ∧ k < 10) (w0 : atI W 0 = some (.int k)) (w1 : atI W 1 = some (.int d1)) (w2 : atI W 2 = some (.int d2)) (m : List Cell) : ∃ Z e R m', Out P k m Z e R m' ∧ f_law_spoilt [.lst ((linesP P).map encS), .int ((1 + P.rows.length : Nat) : Int), .int ((vd P : Nat) : Int), .lst W] m = some (.tup [R, .int (e : Int)], m') := by
  have hz := zok_lines h
  have hn := lines_n h
  have hll := (lines_len h).1
  have htl := h.tl.1
  have hrl := h.rows
  have hLL : ((linesP P).map encS).length = (linesP P).length := by simp
  have hvd : vd P = 1 + P.rows.length + (subL P.sub).length := rfl
  obtain ⟨s, ss, hsub, hap, hsl⟩ := sub_cons h
  have hs0 : (linesP P)[1 + P.rows.length]? = some s := getat (a := A1 P) (b := ss ++ verL P.ver :: P.toks.map tokL) (by rw [lines_eq h, hsub]; rfl) (by simp [A1]; omega)
  have hat := atZ hs0
  have hsubl : 1 ≤ (subL P.sub).length := by rw [hsub]; simp
  have e0 : f_law_spoilt [.lst ((linesP P).map encS), .int ((1 + P.rows.length : Nat) : Int), .int ((vd P : Nat) : Int), .lst W] m = fin8 (b_law_spoilt ⟨[.val (.lst ((linesP P).map encS)), .val (.int ((1 + P.rows.length : Nat) : Int)), .val (.int ((vd P : Nat) : Int)), .val (.lst W), .emp, .emp, .emp, .emp], m⟩) := fnM_ap
  rw [e0, sp_start _ W _ _ m _ w0 ⟨k, rfl⟩]
  by_cases k1 : k = 1
  · subst k1
    obtain ⟨w, hw, hf⟩ := fst_bad P.rows.length ⟨hrl.1, hrl.2.1⟩ d1 (m ++ [.lst ((linesP P).map encS)])
    have := sp1 ((linesP P).map encS) W ((1 + P.rows.length : Nat) : Int) ((vd P : Nat) : Int) m d1 (encS w) w1 (by omega) (by rw [show ((1 + P.rows.length : Nat) : Int) - 1 = (P.rows.length : Nat) by omega]; exact hf)
    rw [this, spR_map]
    exact ⟨_, 1, _, _, .fix (by omega) (by omega) (by simp) (hz.set (w10 hw.1) 0) (by omega) (fix1 h hw.2), rfl⟩
  by_cases k2 : k = 2
  · subst k2
    obtain ⟨c, hc, hca⟩ := three (d := d1) (a := (linesP P).length - 1) (b := (linesP P).length) (c := 999999999999) (((((linesP P).map encS).length : Nat) : Int) - 1) ((((linesP P).map encS).length : Nat) : Int) 999999999999 (by rw [hLL]; omega) (by rw [hLL]) rfl
    have hc1 : 1 ≤ c ∧ c < 1000000000000 := by omega
    have := sp2 ((linesP P).map encS) W ((1 + P.rows.length : Nat) : Int) ((vd P : Nat) : Int) m d1 c w1 (by omega) hca hc1.2
    rw [this, spR_map, hLL]
    refine ⟨_, (linesP P).length + 1, _, _, .bad (.inl rfl) (hz.set ⟨?_, ?_⟩ 0) (by simp; omega) (bad2 h hc1 (by omega)), rfl⟩
    · simp only [List.mem_append, not_or]; exact ⟨by decide +kernel, DD_free f10 _⟩
    · rw [List.length_append, TXT_len]; have := nl_len hc1.2; omega
  by_cases k3 : k = 3
  · subst k3
    obtain ⟨w, hw, hf⟩ := sub_bad d1 (m ++ [.lst ((linesP P).map encS)])
    have := sp3 ((linesP P).map encS) W ((1 + P.rows.length : Nat) : Int) ((vd P : Nat) : Int) m d1 (encS w) (1 + P.rows.length) rfl w1 (by omega) hf
    rw [this, spR_map]
    exact ⟨_, 1 + P.rows.length + 1, _, _, .fix (by omega) (by omega) (by simp) (hz.set (w10 hw.1) _) (by omega) (fix3 h hw.2.1 hw.2.2), rfl⟩
  by_cases k4 : k = 4
  · subst k4
    obtain ⟨w, hw, hf⟩ := ver_bad d1 (m ++ [.lst ((linesP P).map encS)])
    have := sp4 ((linesP P).map encS) W ((1 + P.rows.length : Nat) : Int) ((vd P : Nat) : Int) m d1 (encS w) (vd P) rfl w1 (by omega) hf
    rw [this, spR_map]
    exact ⟨_, vd P + 1, _, _, .fix (by omega) (by omega) (by simp) (hz.set (w10 hw.1) _) (by omega) (fix4 h hw.2), rfl⟩
  by_cases k5 : k = 5
  · subst k5
    obtain ⟨q, hq, hq2⟩ : ∃ q : Nat, d1 % (((vd P : Nat) : Int) + 2) = (q : Int) ∧ q < vd P + 2 := by
      have h1 := Int.emod_nonneg d1 (show ((vd P : Nat) : Int) + 2 ≠ 0 by omega)
      have h2 := Int.emod_lt_of_pos d1 (show 0 < ((vd P : Nat) : Int) + 2 by omega)
      exact ⟨(d1 % (((vd P : Nat) : Int) + 2)).toNat, by omega, by omega⟩
    have := sp5 ((linesP P).map encS) W ((1 + P.rows.length : Nat) : Int) ((vd P : Nat) : Int) m d1 q w1 hq (by omega)
    rw [this, ← List.map_take]
    by_cases q0 : q = 0
    · subst q0
      refine ⟨[], 1, _, _, .len (Y := [[]]) (by simp; omega) (by simp) ⟨by simp, by simp, by simp⟩ (by simp) rfl (by simp) (p1 rfl (by decide +kernel)), rfl⟩
    · rw [if_neg q0]
      have htl2 : ((linesP P).take q).length = q := by simp; omega
      refine ⟨(linesP P).take q, q + 1, _, _, .len (Y := (linesP P).take q) (by omega) (by omega) (hz.take q) (by omega) rfl (zok_flat (hz.take q)) (p5 h (by omega) (by omega)), rfl⟩
  by_cases k6 : k = 6
  · subst k6
    have := sp6 ((linesP P).map encS) W ((1 + P.rows.length : Nat) : Int) ((vd P : Nat) : Int) m (by omega)
    rw [this, hLL, lit_e, show (linesP P).map encS ++ [M.D.str (S [])] = (linesP P ++ [[]]).map encS by simp]
    have hz2 : ZOk (linesP P ++ [[]]) := ⟨by simp; omega, fun y hy => by
      rcases List.mem_append.mp hy with hy | hy
      · exact hz.r y hy
      · simp at hy; subst hy; simp, fun y hy => by
      rcases List.mem_append.mp hy with hy | hy
      · exact hz.f y hy
      · simp at hy; subst hy; simp⟩
    exact ⟨_, (linesP P).length + 1, _, _, .len (Y := linesP P ++ [[]]) (by simp) (by simp; omega) hz2 (by simp) rfl (zok_flat hz2) (bad6 h), rfl⟩
  by_cases k7 : k = 7 ∧ s.take 6 = APT
  · obtain ⟨rfl, h6⟩ := k7
    obtain ⟨c, hc, hca⟩ := three (d := d1) (a := (linesP P).length - 1 - (1 + P.rows.length)) (b := (linesP P).length) (c := 999999999999) (((((linesP P).map encS).length : Nat) : Int) - 1 - ((1 + P.rows.length : Nat) : Int)) ((((linesP P).map encS).length : Nat) : Int) 999999999999 (by rw [hLL]; omega) (by rw [hLL]) rfl
    have hc1 : 1 ≤ c ∧ c < 1000000000000 := by omega
    have := sp7 ((linesP P).map encS) W ((1 + P.rows.length : Nat) : Int) ((vd P : Nat) : Int) m d1 c (1 + P.rows.length) rfl s hat hsl h6 w1 (by omega) hca hc1.2
    rw [this, spR_map, hLL]
    refine ⟨_, (linesP P).length + 1, _, _, .bad (.inr rfl) (hz.set ⟨?_, ?_⟩ _) (by simp; omega) (bad7 h hc1 (by omega)), rfl⟩
    · simp only [List.mem_append, not_or]; exact ⟨by decide +kernel, DD_free f10 _⟩
    · rw [List.length_append, APT_len]; have := nl_len hc1.2; omega
  obtain ⟨w, hw, hf⟩ := odd_ok d1 (m ++ [.lst ((linesP P).map encS)])
  have hpos : (0 : Int) < (P.toks.length : Int) := by omega
  have hdif : (((linesP P).map encS).length : Int) - ((vd P : Nat) : Int) - 1 = (P.toks.length : Nat) := by rw [hLL]; omega
  obtain ⟨i, hi, hi2⟩ : ∃ i : Nat, d2 % (P.toks.length : Int) = (i : Int) ∧ i < P.toks.length := by
    have h1 := Int.emod_nonneg d2 (show (P.toks.length : Int) ≠ 0 by omega)
    have h2 := Int.emod_lt_of_pos d2 hpos
    exact ⟨(d2 % (P.toks.length : Int)).toNat, by omega, by omega⟩
  have := sp8 ((linesP P).map encS) W ((1 + P.rows.length : Nat) : Int) ((vd P : Nat) : Int) m k d1 d2 (encS w) (vd P + 1 + i) ⟨k1, k2, k3, k4, k5, k6⟩ s hat hsl (fun e z => k7 ⟨e, z⟩) w1 w2 (by rw [hdif]; exact hpos) (by rw [hdif, hi]; omega) (by omega) hf
  rw [this, spR_map]
  have hfix := fix8 h hi2 hw.2
  by_cases e7 : k = 7
  · exact ⟨_, vd P + 1 + i + 1, _, _, .bad (.inr e7) (hz.set (w10 hw.1) _) (by simp; omega) (hfix _ rfl), rfl⟩
  · exact ⟨_, vd P + 1 + i + 1, _, _, .fix k2 e7 (by simp) (hz.set (w10 hw.1) _) (by omega) hfix, rfl⟩
end Lk30



namespace Lk30
open PySem L2 M
/-! the law -/
def z12 (x0 x1 x2 x3 x4 x5 x6 x7 x8 x9 x10 x11 : M.Slot) (m : List Cell) : Ms := ⟨[x0, x1, x2, x3, x4, x5, x6, x7, x8, x9, x10, x11], m⟩
theorem law_head (ca : Nat → Addr) (ns : List Int) : ∃ P k d1 d2 d3 d4 d5, POk P ∧ (0 ≤ k ∧ k < 10) ∧ b_law ca (z12 (.val (.sc (I ns))) .emp .emp .emp .emp .emp .emp .emp .emp .emp .emp .emp []) = t_law_4 ca (z12 (.val (.sc (I ns))) (.val (encP P)) (.val (.lst ((linesP P).map encS))) (.val (.int ((1 + P.rows.length : Nat) : Int))) (.val (.int ((vd P : Nat) : Int))) (.val (.lst (I [k, d1, d2, d3, d4, d5]))) .emp .emp .emp .emp .emp .emp []) := by
  obtain ⟨P, h, e1⟩ := parts_ok ns []
  have e2 := lines_ok h []
  obtain ⟨ds, hd, hD⟩ := draws_ok ns [10, 1000, 1000, 4, 1000, 1000] 21 (by
    intro s hs
    simp only [List.mem_cons, List.not_mem_nil, or_false] at hs
    rcases hs with rfl | rfl | rfl | rfl | rfl | rfl <;> omega) (by simp) []
  obtain ⟨k, d1, d2, d3, d4, d5, rfl⟩ : ∃ k d1 d2 d3 d4 d5, ds = [k, d1, d2, d3, d4, d5] := by
    have := hD.len
    match ds, this with
    | [a, b, c, d, e, f], _ => exact ⟨a, b, c, d, e, f, rfl⟩
  obtain ⟨k', hk1, hk2, hk3⟩ := hD.at (i := 0) (s := 10) rfl
  cases hk1
  refine ⟨P, k, d1, d2, d3, d4, d5, h, ⟨hk2, hk3⟩, ?_⟩
  have hd' : f_law_draws [.sc (I ns), .int 21, .lst [.int 10, .int 1000, .int 1000, .int 4, .int 1000, .int 1000]] [] = some (.lst (I [k, d1, d2, d3, d4, d5]), []) := hd
  have hrl := h.rows.2.1
  have cs : ∀ S0 : Ms, S0.r[1]? = some (.val (encP P)) → cSplit (eOpL gIx 1 (eC (.int 0))) (eC (.str "\n")) S0 = some (.lst (P.rows.map encS), S0) := fun S0 h0 => cSplit_rows h.rows (by omega) (by unfold encP at h0; simp [h0, atI, ixN])
  have hlr : (P.rows.map encS).length = P.rows.length := by simp
  have hlast : t_law_7 ca (z12 (.val (.sc (I ns))) (.val (encP P)) (.val (.lst ((linesP P).map encS))) (.val (.int ((1 + P.rows.length : Nat) : Int))) .emp .emp .emp .emp .emp .emp .emp .emp []) = t_law_4 ca (z12 (.val (.sc (I ns))) (.val (encP P)) (.val (.lst ((linesP P).map encS))) (.val (.int ((1 + P.rows.length : Nat) : Int))) (.val (.int ((vd P : Nat) : Int))) (.val (.lst (I [k, d1, d2, d3, d4, d5]))) .emp .emp .emp .emp .emp .emp []) := by
    rw [show encP P = .tup [encR P.rows, encSub P.sub, encV P.ver, .tup (P.toks.map encT)] from rfl]
    have hs := h.sub
    have hvd : vd P = 1 + P.rows.length + (subL P.sub).length := rfl
    rw [hvd]
    cases e : P.sub with
    | place l =>
      rw [show ((1 + P.rows.length + (subL (.place l)).length : Nat) : Int) = ((1 + P.rows.length : Nat) : Int) + 1 by simp [subL], show encSub (.place l) = .tup [.str "place", .str (S l)] from rfl]
      generalize I [k, d1, d2, d3, d4, d5] = W at *
      generalize ((1 + P.rows.length : Nat) : Int) = N at *
      generalize (linesP P).map encS = LL at *
      generalize encR P.rows = R at *
      generalize encV P.ver = V at *
      generalize P.toks.map encT = TT at *
      unfold t_law_7 t_law_6 t_law_5 z12
      generalize t_law_4 ca = tl
      generalize f_law_draws = fd at *
      revert tl; refine opq ?_; intro tl
      simp [hd', atI, ixN, n_pa]
    | apart rs =>
      rw [e] at hs
      have cs2 : ∀ (S0 : Ms) (a c d : M.D), S0.r[1]? = some (.val (.tup [a, .tup [.str "apart", encR rs], c, d])) → cSplit (eOp gIx (eOpL gIx 1 (eC (.int 1))) (eC (.int 1))) (eC (.str "\n")) S0 = some (.lst (rs.map encS), S0) := fun S0 a c d h0 => cSplit_rows hs (by omega) (by simp [h0, atI, ixN])
      have hlr2 : (rs.map encS).length = rs.length := by simp
      rw [show ((1 + P.rows.length + (subL (.apart rs)).length : Nat) : Int) = ((1 + P.rows.length : Nat) : Int) + 1 + (rs.length : Nat) by simp [subL]; omega, show encSub (.apart rs) = .tup [.str "apart", encR rs] from rfl]
      generalize I [k, d1, d2, d3, d4, d5] = W at *
      generalize ((1 + P.rows.length : Nat) : Int) = N at *
      generalize (linesP P).map encS = LL at *
      generalize rs.map encS = Y at *
      generalize encR rs = R2 at *
      generalize encR P.rows = R at *
      generalize encV P.ver = V at *
      generalize P.toks.map encT = TT at *
      have cs3 : ∀ S0 : Ms, S0.r[1]? = some (.val (.tup [R, .tup [.str "apart", R2], V, .tup TT])) → cSplit (eOp gIx (eOpL gIx 1 (eC (.int 1))) (eC (.int 1))) (eC (.str "\n")) S0 = some (.lst Y, S0) := fun S0 h0 => cs2 S0 _ _ _ h0
      clear cs2
      unfold t_law_7 t_law_6 t_law_5 z12
      generalize t_law_4 ca = tl
      generalize f_law_draws = fd at *
      revert tl; refine opq ?_; intro tl
      simp [-cSplit_ap, cs3, hd', atI, ixN, hlr2]
  rw [← hlast]
  rw [show ((1 + P.rows.length : Nat) : Int) = 1 + (P.rows.length : Nat) by omega]
  generalize (linesP P).map encS = LL at *
  generalize P.rows.map encS = Y at *
  clear hlast hd hd'
  generalize encP P = E at *
  unfold b_law t_law_9 t_law_8 z12
  generalize t_law_7 ca = tl
  generalize f_law_parts = fp at *
  generalize f_law_lines = fl at *
  revert tl; refine opq ?_; intro tl
  simp [-cSplit_ap, e1, e2, cs, hlr]
theorem law_zero (ca : Nat → Addr) {P : Pp} (h : POk P) (W : List M.D) (w0 : atI W 0 = some (.int 0)) (x0 x3 x4 : M.Slot) (m : List Cell) : ∃ S1, t_law_4 ca (z12 x0 (.val (encP P)) (.val (.lst ((linesP P).map encS))) x3 x4 (.val (.lst W)) .emp .emp .emp .emp .emp .emp m) = some (.rt (.bl true), S1) := by
  obtain ⟨z, hz⟩ := repr_ok h
  have hr := read_paper_ok ca (zok_lines h) (by have := lines_n h; omega) m
  rw [p0 h] at hr
  have hr' : noX (f_read_paper ca) [.str (S (TL.joinL [10] (linesP P)))] m = some (.ref m.length, m ++ [mkP ca (encR P.rows) (encSub P.sub) (encV P.ver) (.tup (P.toks.map encT))]) := by
    unfold noX
    rw [hr]; rfl
  clear hr
  have hg := get_snoc (m := m) (x := mkP ca (encR P.rows) (encSub P.sub) (encV P.ver) (.tup (P.toks.map encT)))
  have hj1 := strsD_S (linesP P)
  have hj2 := joinOk_Ss (s := [10]) (ys := linesP P) (by have h1 := zok_flat (zok_lines h); have := (zok_lines h).n; rw [List.length_singleton]; omega)
  have hj3 := join_Ss [10] (linesP P)
  refine ⟨z12 x0 (.val (encP P)) (.val (.lst ((linesP P).map encS))) x3 x4 (.val (.lst W)) (.val (.ref m.length)) .emp .emp .emp .emp .emp (m ++ [mkP ca (encR P.rows) (encSub P.sub) (encV P.ver) (.tup (P.toks.map encT))]), ?_⟩
  rw [show encP P = .tup [encR P.rows, encSub P.sub, encV P.ver, .tup (P.toks.map encT)] from rfl]
  have hv1 : ∀ S0 : Ms, vw S0 (encR P.rows) = encR P.rows := fun _ => rfl
  have hv2 : ∀ S0 : Ms, vw S0 (encSub P.sub) = encSub P.sub := fun _ => by cases P.sub <;> rfl
  have hv3 : ∀ S0 : Ms, vw S0 (encV P.ver) = encV P.ver := fun _ => by cases P.ver <;> rfl
  unfold mkP at *
  unfold t_law_4 z12
  generalize t_law_3 ca = tl
  generalize (linesP P).map encS = LL at *
  generalize (linesP P).map S = LS at *
  generalize S (TL.joinL [10] (linesP P)) = TX at *
  generalize encR P.rows = R at *
  generalize encSub P.sub = SU at *
  generalize encV P.ver = V at *
  generalize P.toks.map encT = TT at *
  generalize noX (f_read_paper ca) = fr at *
  revert tl; refine opq ?_; intro tl
  simp [w0, lit_nl, hj1, hj2, hj3, hr', hg, hz, show ¬ ("text" : Str) = "subject" by decide +kernel, show ¬ ("text" : Str) = "verdict" by decide +kernel, show ¬ ("subject" : Str) = "verdict" by decide +kernel, show ¬ ("text" : Str) = "tokens" by decide +kernel, show ¬ ("subject" : Str) = "tokens" by decide +kernel, show ¬ ("verdict" : Str) = "tokens" by decide +kernel]
end Lk30



namespace Lk30
open PySem L2 M
/-! the steps, for functions of any kind -/
theorem later_aux (A B N : Int) (LL RR : List M.D) (S0 : Ms) (h2 : S0.r[2]? = some (.val (.lst LL))) (h3 : S0.r[3]? = some (.val (.int A))) (h4 : S0.r[4]? = some (.val (.int B))) (hlen : gLen (.lst LL) = some (.int N)) (b1 : -1000000 ≤ N) (b2 : N ≤ 1000000) (b3 : -1000000 ≤ B + 1) (b4 : B + 1 ≤ 1000000) (b5 : 2 + RR.length ≤ 1000000) (hr : rngD (B + 1) (N - (B + 1)).toNat = RR) : (iSeq (eOp gAdd (eNew (cLst (aCons (eVar 3) (aCons (eVar 4) aNil)))) (eNew (cLr2 (eOp gAdd (eVar 4) (eC (.int 1))) (eCallV gLen 2))))) S0 = some (M.D.int A :: .int B :: RR, S0) := by
  simp [-gLen_lst, h2, h3, h4, hlen, b1, b2, hr, b3, b4, b5]
theorem fix_aux1 (it : AF) (fo : FF) (cc : EF) (tl : SF) (W LL ZZ XM LTM : List M.D) (k d3 d4 d5 N NL A B E : Int) (x0 x1 : M.Slot)
    (h2 : k ≠ 2) (h7 : k ≠ 7) (w0 : atI W 0 = some (.int k)) (w3 : atI W 3 = some (.int d3)) (w4 : atI W 4 = some (.int d4)) (w5 : atI W 5 = some (.int d5)) (hg1 : gLen (.lst LL) = some (.int N)) (hg2 : gLen (.lst ZZ) = some (.int N)) (hgl : gLen (.lst LTM) = some (.int NL))
    (hit : ∀ S0 : Ms, S0.r[2]? = some (.val (.lst LL)) → S0.r[3]? = some (.val (.int A)) → S0.r[4]? = some (.val (.int B)) → it S0 = some (XM, S0))
    (hlat : lcM (gNm 11) (bOf (eOp gGe (eVar 11) (eVar 8))) cc [11] XM [] ⟨[x0, x1, .val (.lst LL), .val (.int A), .val (.int B), .val (.lst W), .emp, .val (.ref 0), .val (.int E), .emp, .emp, .emp], [.lst ZZ]⟩ = some (LTM, ⟨[x0, x1, .val (.lst LL), .val (.int A), .val (.int B), .val (.lst W), .emp, .val (.ref 0), .val (.int E), .emp, .emp, .emp], [.lst ZZ]⟩)) (Q II : Int) (i : Nat) (RW : Str) (e3 : d3 = 1) (hpos : 0 < NL) (hM : gMod (.int d4) (.int NL) = some (.int Q)) (hia : atI LTM Q = some (.int II)) (hodd : fo [.int d5] [.lst ZZ] = some (.str RW, [.lst ZZ])) (hix : ixN ZZ.length II = some i) :
    (sSeq (sIf (bAnd (bOf (eOp gNe2 (eOpL gIx 5 (eC (.int 0))) (eC (.int 2)))) (bAnd (bOf (eOp gNe2 (eOpL gIx 5 (eC (.int 0))) (eC (.int 7)))) (bOf (eOp gEq2 (eCallV gLen 7) (eCallV gLen 2))))) (sSeq (sAsg (eNew (cLc it (gNm 11) (bOf (eOp gGe (eVar 11) (eVar 8))) cc [11])) (gNm 9)) (sSeq (sIf (bAnd (bOf (eOp gEq2 (eOpL gIx 5 (eC (.int 3))) (eC (.int 1)))) (bOf (eOp gGt (eCallV gLen 9) (eC (.int 0))))) (sAsg (eFn 1 fo (aCons (eOpL gIx 5 (eC (.int 5))) aNil)) (gSubV 7 (eOpL gIx 9 (eOp gMod (eCall gInt3 (eOpL gIx 5 (eC (.int 4)))) (eCallV gLen 9))))) sNil) (sIf (bOf (eOp gEq2 (eOpL gIx 5 (eC (.int 3))) (eC (.int 2)))) (sOwn 7 (cSl (eVar 7) oNone (oSome (eVar 8)))) sNil))) sNil) tl) ⟨[x0, x1, .val (.lst LL), .val (.int A), .val (.int B), .val (.lst W), .emp, .val (.ref 0), .val (.int E), .emp, .emp, .emp], [.lst ZZ]⟩ = tl ⟨[x0, x1, .val (.lst LL), .val (.int A), .val (.int B), .val (.lst W), .emp, .val (.ref 0), .val (.int E), .val (.lst LTM), .emp, .emp], [.lst (ZZ.set i (.str RW))]⟩ := by
  revert tl; refine opq ?_; intro tl
  simp [-gLen_lst, -gMod_int, w0, w3, w4, w5, h2, h7, e3, hg1, hg2, hgl, hit, hlat, hpos, hM, hia, hodd, hix]
theorem fix_aux2 (it : AF) (fo : FF) (cc : EF) (tl : SF) (W LL ZZ XM LTM : List M.D) (k d3 d4 d5 N NL A B E : Int) (x0 x1 : M.Slot)
    (h2 : k ≠ 2) (h7 : k ≠ 7) (w0 : atI W 0 = some (.int k)) (w3 : atI W 3 = some (.int d3)) (w4 : atI W 4 = some (.int d4)) (w5 : atI W 5 = some (.int d5)) (hg1 : gLen (.lst LL) = some (.int N)) (hg2 : gLen (.lst ZZ) = some (.int N)) (hgl : gLen (.lst LTM) = some (.int NL))
    (hit : ∀ S0 : Ms, S0.r[2]? = some (.val (.lst LL)) → S0.r[3]? = some (.val (.int A)) → S0.r[4]? = some (.val (.int B)) → it S0 = some (XM, S0))
    (hlat : lcM (gNm 11) (bOf (eOp gGe (eVar 11) (eVar 8))) cc [11] XM [] ⟨[x0, x1, .val (.lst LL), .val (.int A), .val (.int B), .val (.lst W), .emp, .val (.ref 0), .val (.int E), .emp, .emp, .emp], [.lst ZZ]⟩ = some (LTM, ⟨[x0, x1, .val (.lst LL), .val (.int A), .val (.int B), .val (.lst W), .emp, .val (.ref 0), .val (.int E), .emp, .emp, .emp], [.lst ZZ]⟩)) (c1 : ¬ (d3 = 1 ∧ 0 < NL)) (e3 : d3 ≠ 2) :
    (sSeq (sIf (bAnd (bOf (eOp gNe2 (eOpL gIx 5 (eC (.int 0))) (eC (.int 2)))) (bAnd (bOf (eOp gNe2 (eOpL gIx 5 (eC (.int 0))) (eC (.int 7)))) (bOf (eOp gEq2 (eCallV gLen 7) (eCallV gLen 2))))) (sSeq (sAsg (eNew (cLc it (gNm 11) (bOf (eOp gGe (eVar 11) (eVar 8))) cc [11])) (gNm 9)) (sSeq (sIf (bAnd (bOf (eOp gEq2 (eOpL gIx 5 (eC (.int 3))) (eC (.int 1)))) (bOf (eOp gGt (eCallV gLen 9) (eC (.int 0))))) (sAsg (eFn 1 fo (aCons (eOpL gIx 5 (eC (.int 5))) aNil)) (gSubV 7 (eOpL gIx 9 (eOp gMod (eCall gInt3 (eOpL gIx 5 (eC (.int 4)))) (eCallV gLen 9))))) sNil) (sIf (bOf (eOp gEq2 (eOpL gIx 5 (eC (.int 3))) (eC (.int 2)))) (sOwn 7 (cSl (eVar 7) oNone (oSome (eVar 8)))) sNil))) sNil) tl) ⟨[x0, x1, .val (.lst LL), .val (.int A), .val (.int B), .val (.lst W), .emp, .val (.ref 0), .val (.int E), .emp, .emp, .emp], [.lst ZZ]⟩ = tl ⟨[x0, x1, .val (.lst LL), .val (.int A), .val (.int B), .val (.lst W), .emp, .val (.ref 0), .val (.int E), .val (.lst LTM), .emp, .emp], [.lst ZZ]⟩ := by
  revert tl; refine opq ?_; intro tl
  by_cases c : d3 = 1
  · have hn : ¬ 0 < NL := fun z => c1 ⟨c, z⟩
    simp [-gLen_lst, w0, w3, h2, h7, c, hg1, hg2, hgl, hit, hlat, hn]
  · simp [-gLen_lst, w0, w3, h2, h7, c, e3, hg1, hg2, hgl, hit, hlat]
theorem fix_aux3 (it : AF) (fo : FF) (cc : EF) (tl : SF) (W LL ZZ XM LTM : List M.D) (k d3 d4 d5 N NL A B E : Int) (x0 x1 : M.Slot)
    (h2 : k ≠ 2) (h7 : k ≠ 7) (w0 : atI W 0 = some (.int k)) (w3 : atI W 3 = some (.int d3)) (w4 : atI W 4 = some (.int d4)) (w5 : atI W 5 = some (.int d5)) (hg1 : gLen (.lst LL) = some (.int N)) (hg2 : gLen (.lst ZZ) = some (.int N)) (hgl : gLen (.lst LTM) = some (.int NL))
    (hit : ∀ S0 : Ms, S0.r[2]? = some (.val (.lst LL)) → S0.r[3]? = some (.val (.int A)) → S0.r[4]? = some (.val (.int B)) → it S0 = some (XM, S0))
    (hlat : lcM (gNm 11) (bOf (eOp gGe (eVar 11) (eVar 8))) cc [11] XM [] ⟨[x0, x1, .val (.lst LL), .val (.int A), .val (.int B), .val (.lst W), .emp, .val (.ref 0), .val (.int E), .emp, .emp, .emp], [.lst ZZ]⟩ = some (LTM, ⟨[x0, x1, .val (.lst LL), .val (.int A), .val (.int B), .val (.lst W), .emp, .val (.ref 0), .val (.int E), .emp, .emp, .emp], [.lst ZZ]⟩)) (ZC : List M.D) (e3 : d3 = 2) (hc : cutD ZZ none (some E) = ZC) :
    (sSeq (sIf (bAnd (bOf (eOp gNe2 (eOpL gIx 5 (eC (.int 0))) (eC (.int 2)))) (bAnd (bOf (eOp gNe2 (eOpL gIx 5 (eC (.int 0))) (eC (.int 7)))) (bOf (eOp gEq2 (eCallV gLen 7) (eCallV gLen 2))))) (sSeq (sAsg (eNew (cLc it (gNm 11) (bOf (eOp gGe (eVar 11) (eVar 8))) cc [11])) (gNm 9)) (sSeq (sIf (bAnd (bOf (eOp gEq2 (eOpL gIx 5 (eC (.int 3))) (eC (.int 1)))) (bOf (eOp gGt (eCallV gLen 9) (eC (.int 0))))) (sAsg (eFn 1 fo (aCons (eOpL gIx 5 (eC (.int 5))) aNil)) (gSubV 7 (eOpL gIx 9 (eOp gMod (eCall gInt3 (eOpL gIx 5 (eC (.int 4)))) (eCallV gLen 9))))) sNil) (sIf (bOf (eOp gEq2 (eOpL gIx 5 (eC (.int 3))) (eC (.int 2)))) (sOwn 7 (cSl (eVar 7) oNone (oSome (eVar 8)))) sNil))) sNil) tl) ⟨[x0, x1, .val (.lst LL), .val (.int A), .val (.int B), .val (.lst W), .emp, .val (.ref 0), .val (.int E), .emp, .emp, .emp], [.lst ZZ]⟩ = tl ⟨[x0, x1, .val (.lst LL), .val (.int A), .val (.int B), .val (.lst W), .emp, .own (.lst ZC), .val (.int E), .val (.lst LTM), .emp, .emp], [.lst ZZ]⟩ := by
  subst hc
  revert tl; refine opq ?_; intro tl
  simp [-gLen_lst, w0, w3, h2, h7, e3, hg1, hg2, hgl, hit, hlat]
  try rfl
end Lk30



namespace Lk30
open PySem L2 M
/-! later rows -/
theorem law_end (ca : Nat → Addr) {Y : List (List Nat)} (h : ZOk Y) (hne : 1 ≤ Y.length) {e : Nat} (hb : rdP Y = .bad e) (x0 x1 x2 x3 x4 x5 x6 x7 y7 x9 : M.Slot) (m : List Cell)
    (hJ : eJoin (eC (.str "\n")) (eVar 7) (z12 x0 x1 x2 x3 x4 x5 x6 x7 (.val (.int (e : Int))) x9 .emp .emp m) = some (.str (S (TL.joinL [10] Y)), z12 x0 x1 x2 x3 x4 x5 x6 y7 (.val (.int (e : Int))) x9 .emp .emp m)) : ∃ S1, t_law_1 ca (z12 x0 x1 x2 x3 x4 x5 x6 x7 (.val (.int (e : Int))) x9 .emp .emp m) = some (.rt (.bl true), S1) := by
  have hr := refused_ok ca h hne hb m
  refine ⟨z12 x0 x1 x2 x3 x4 x5 x6 y7 (.val (.int (e : Int))) x9 (.val (.int (e : Int))) .emp m, ?_⟩
  generalize S (TL.joinL [10] Y) = T at *
  generalize (e : Int) = E at *
  unfold z12 at *
  unfold t_law_1
  generalize f_law_refused ca = fr at *
  generalize eJoin (eC (.str "\n")) (eVar 7) = jj at *
  simp [hJ, hr]
theorem join_val {Z : List (List Nat)} (hf : Z.flatten.length ≤ 900000) (hn : Z.length ≤ 1000) (x0 x1 x2 x3 x4 x5 x6 x8 x9 : M.Slot) (m : List Cell) : eJoin (eC (.str "\n")) (eVar 7) (z12 x0 x1 x2 x3 x4 x5 x6 (.val (.lst (Z.map encS))) x8 x9 .emp .emp m) = some (.str (S (TL.joinL [10] Z)), z12 x0 x1 x2 x3 x4 x5 x6 (.val (.lst (Z.map encS))) x8 x9 .emp .emp m) := by
  have h1 := strsD_S Z
  have h2 := joinOk_Ss (s := [10]) (ys := Z) (by rw [List.length_singleton]; omega)
  have h3 := join_Ss [10] Z
  generalize S (TL.joinL [10] Z) = T at *
  generalize Z.map encS = Y at *
  generalize Z.map S = Q at *
  unfold z12
  simp [lit_nl, h1, h2, h3]
theorem join_own {Z : List (List Nat)} (hf : Z.flatten.length ≤ 900000) (hn : Z.length ≤ 1000) (x0 x1 x2 x3 x4 x5 x6 x8 x9 : M.Slot) (m : List Cell) : eJoin (eC (.str "\n")) (eVar 7) (z12 x0 x1 x2 x3 x4 x5 x6 (.own (.lst (Z.map encS))) x8 x9 .emp .emp m) = some (.str (S (TL.joinL [10] Z)), z12 x0 x1 x2 x3 x4 x5 x6 (.val (.lst (Z.map encS))) x8 x9 .emp .emp m) := by
  have h1 := strsD_S Z
  have h2 := joinOk_Ss (s := [10]) (ys := Z) (by rw [List.length_singleton]; omega)
  have h3 := join_Ss [10] Z
  generalize S (TL.joinL [10] Z) = T at *
  generalize Z.map encS = Y at *
  generalize Z.map S = Q at *
  unfold z12
  simp [lit_nl, h1, h2, h3]
theorem join_ref {Z : List (List Nat)} (hf : Z.flatten.length ≤ 900000) (hn : Z.length ≤ 1000) (x0 x1 x2 x3 x4 x5 x6 x8 x9 : M.Slot) : eJoin (eC (.str "\n")) (eVar 7) (z12 x0 x1 x2 x3 x4 x5 x6 (.val (.ref 0)) x8 x9 .emp .emp [.lst (Z.map encS)]) = some (.str (S (TL.joinL [10] Z)), z12 x0 x1 x2 x3 x4 x5 x6 (.val (.ref 0)) x8 x9 .emp .emp [.lst (Z.map encS)]) := by
  have h1 := strsD_S Z
  have h2 := joinOk_Ss (s := [10]) (ys := Z) (by rw [List.length_singleton]; omega)
  have h3 := join_Ss [10] Z
  generalize S (TL.joinL [10] Z) = T at *
  generalize Z.map encS = Y at *
  generalize Z.map S = Q at *
  unfold z12
  simp [lit_nl, h1, h2, h3]
def eN (n : Nat) : M.D := .int (n : Int)
def laterF (e : Nat) (xs : List Nat) : List Nat := xs.filter fun x => decide (e ≤ x)
theorem later_ok (ca : Nat → Addr) (e : Nat) (xs : List Nat) (hl : xs.length ≤ 1000) (x0 x1 x2 x3 x4 x5 x6 x7 x9 x10 : M.Slot) (m : List Cell) : lcM (gNm 11) (bOf (eOp gGe (eVar 11) (eVar 8))) (c_law_1 ca) [11] (xs.map eN) [] (z12 x0 x1 x2 x3 x4 x5 x6 x7 (.val (.int (e : Int))) x9 x10 .emp m) = some ((laterF e xs).map eN, z12 x0 x1 x2 x3 x4 x5 x6 x7 (.val (.int (e : Int))) x9 x10 .emp m) := by
  rw [lc_gen eN (fun x => if e ≤ x then some (eN x) else none) xs [] (fun x _ => ?_) (by simp; omega)]
  · congr 2
    unfold laterF
    rw [List.nil_append]
    induction xs with
    | nil => rfl
    | cons x xs ih =>
      have ih := ih (by simp at hl; omega)
      by_cases c : e ≤ x
      · rw [List.filterMap_cons, if_pos c, List.filter_cons, if_pos (by simpa using c), List.map_cons, ih]
      · rw [List.filterMap_cons, if_neg c, List.filter_cons, if_neg (by simpa using c), ih]
  · unfold stepC c_law_1 z12 eN
    by_cases c : e ≤ x
    · have hc : (e : Int) ≤ (x : Int) := by omega
      simp [wipeR, restR, c]
    · have hc : ¬ (e : Int) ≤ (x : Int) := by omega
      simp [wipeR, restR, c]
section
variable (ca : Nat → Addr) {P : Pp} (h : POk P) (k d1 d2 d3 d4 d5 : Int) (x0 x1 : M.Slot)
include h
def s2 (P : Pp) (k d1 d2 d3 d4 d5 : Int) (x0 x1 x7 x9 : M.Slot) (e : Nat) (m : List Cell) : Ms := z12 x0 x1 (.val (.lst ((linesP P).map encS))) (.val (.int ((1 + P.rows.length : Nat) : Int))) (.val (.int ((vd P : Nat) : Int))) (.val (.lst (I [k, d1, d2, d3, d4, d5]))) .emp x7 (.val (.int (e : Int))) x9 .emp .emp m
theorem law_b {Z : List (List Nat)} {e : Nat} (hk : k = 2 ∨ k = 7) (hz : ZOk Z) (hne : 1 ≤ Z.length) (hb : rdP Z = .bad e) : ∃ S1, t_law_2 ca (s2 P k d1 d2 d3 d4 d5 x0 x1 (.val (.ref 0)) .emp e [.lst (Z.map encS)]) = some (.rt (.bl true), S1) := by
  obtain ⟨S1, h1⟩ := law_end ca hz hne hb x0 x1 (.val (.lst ((linesP P).map encS))) (.val (.int ((1 + P.rows.length : Nat) : Int))) (.val (.int ((vd P : Nat) : Int))) (.val (.lst (I [k, d1, d2, d3, d4, d5]))) .emp _ _ .emp _ (join_ref (zok_flat hz) (by have := hz.n; omega) _ _ _ _ _ _ _ _ _)
  refine ⟨S1, ?_⟩
  rw [← h1]
  have w0 : atI (I [k, d1, d2, d3, d4, d5]) 0 = some (.int k) := rfl
  unfold s2 z12
  generalize I [k, d1, d2, d3, d4, d5] = W at *
  generalize (linesP P).map encS = LL at *
  generalize Z.map encS = ZZ at *
  unfold t_law_2
  generalize t_law_1 ca = tl
  revert tl; refine opq ?_; intro tl
  rcases hk with rfl | rfl
  · simp [w0]
  · simp [w0]
theorem law_l {Z Y : List (List Nat)} {e : Nat} (hl : Z.length ≠ (linesP P).length) (hn : Z.length ≤ 1000) (hz : ZOk Y) (hne : 1 ≤ Y.length) (hj : TL.joinL [10] Z = TL.joinL [10] Y) (hf : Z.flatten.length ≤ 900000) (hb : rdP Y = .bad e) (m : List Cell) : ∃ S1, t_law_2 ca (s2 P k d1 d2 d3 d4 d5 x0 x1 (.val (.lst (Z.map encS))) .emp e m) = some (.rt (.bl true), S1) := by
  have hJ := join_val hf hn x0 x1 (.val (.lst ((linesP P).map encS))) (.val (.int ((1 + P.rows.length : Nat) : Int))) (.val (.int ((vd P : Nat) : Int))) (.val (.lst (I [k, d1, d2, d3, d4, d5]))) .emp (.val (.int (e : Int))) .emp m
  rw [hj] at hJ
  obtain ⟨S1, h1⟩ := law_end ca hz hne hb _ _ _ _ _ _ _ _ _ _ _ hJ
  refine ⟨S1, ?_⟩
  rw [← h1]
  have w0 : atI (I [k, d1, d2, d3, d4, d5]) 0 = some (.int k) := rfl
  unfold s2 z12
  have hne2 : ¬ (((Z.map encS).length : Nat) : Int) = (((linesP P).map encS).length : Nat) := by simp; omega
  clear hJ h1
  generalize I [k, d1, d2, d3, d4, d5] = W at *
  generalize (linesP P).map encS = LL at *
  generalize Z.map encS = ZZ at *
  have hg1 : gLen (.lst LL) = some (.int (LL.length : Int)) := rfl
  have hg2 : gLen (.lst ZZ) = some (.int (ZZ.length : Int)) := rfl
  generalize (LL.length : Int) = N1 at *
  generalize (ZZ.length : Int) = N2 at *
  unfold t_law_2
  generalize t_law_1 ca = tl
  revert tl; refine opq ?_; intro tl
  by_cases e2 : k = 2
  · simp [w0, e2]
  · by_cases e7 : k = 7
    · simp [w0, e7]
    · simp [-gLen_lst, w0, e2, e7, hg1, hg2, hne2]
def xsL (P : Pp) : List Nat := [1 + P.rows.length, vd P] ++ List.range' (vd P + 1) P.toks.length
theorem xsL_lt : ∀ x ∈ xsL P, x < (linesP P).length := fun x hx => by
  have := lines_n h
  have := h.tl.1
  have hv : vd P = 1 + P.rows.length + (subL P.sub).length := rfl
  obtain ⟨s, ss, hs, _⟩ := sub_cons h
  rw [hs, List.length_cons] at hv
  unfold xsL at hx
  simp only [List.cons_append, List.nil_append, List.mem_cons, List.mem_range'_1] at hx
  omega
theorem later_it (S0 : Ms) (h2 : S0.r[2]? = some (.val (.lst ((linesP P).map encS)))) (h3 : S0.r[3]? = some (.val (.int ((1 + P.rows.length : Nat) : Int)))) (h4 : S0.r[4]? = some (.val (.int ((vd P : Nat) : Int)))) : iSeq (eOp gAdd (eNew (cLst (aCons (eVar 3) (aCons (eVar 4) aNil)))) (eNew (cLr2 (eOp gAdd (eVar 4) (eC (.int 1))) (eCallV gLen 2)))) S0 = some ((xsL P).map eN, S0) := by
  have hn := lines_n h
  have hll := (lines_len h).1
  have htl := h.tl
  have hr : rngD (((vd P : Nat) : Int) + 1) ((((linesP P).map encS).length : Int) - (((vd P : Nat) : Int) + 1)).toNat = (List.range' (vd P + 1) P.toks.length).map eN := by
    unfold rngD
    rw [List.length_map, show ((((linesP P).length : Nat) : Int) - (((vd P : Nat) : Int) + 1)).toNat = P.toks.length by omega, List.range'_eq_map_range, List.map_map]
    refine List.map_congr_left fun i _ => congrArg M.D.int ?_
    simp only [Function.comp_def] at *
    omega
  have hx : (xsL P).map eN = [M.D.int ((1 + P.rows.length : Nat) : Int), M.D.int ((vd P : Nat) : Int)] ++ (List.range' (vd P + 1) P.toks.length).map eN := by unfold xsL; rw [List.map_append]; rfl
  have hl2 : ((List.range' (vd P + 1) P.toks.length).map eN).length = P.toks.length := by simp
  have hlen : gLen (.lst ((linesP P).map encS)) = some (.int (((linesP P).map encS).length : Int)) := rfl
  have hb : -1000000 ≤ (((linesP P).map encS).length : Int) ∧ (((linesP P).map encS).length : Int) ≤ 1000000 := by rw [List.length_map]; omega
  have hv : (0 : Int) ≤ ((vd P : Nat) : Int) ∧ ((vd P : Nat) : Int) ≤ 1000 := by omega
  rw [hx]
  generalize (((linesP P).map encS).length : Int) = N at *
  generalize ((1 + P.rows.length : Nat) : Int) = A at *
  generalize ((vd P : Nat) : Int) = B at *
  generalize (linesP P).map encS = LL at *
  generalize (List.range' (vd P + 1) P.toks.length).map eN = RR at *
  exact later_aux A B N LL RR S0 h2 h3 h4 hlen hb.1 hb.2 (by omega) (by omega) (by omega) hr
theorem law_f {Z : List (List Nat)} {e : Nat} (h2 : k ≠ 2) (h7 : k ≠ 7) (hl : Z.length = (linesP P).length) (hz : ZOk Z) (he : 1 ≤ e) (hfx : Fix e Z) : ∃ S1, t_law_2 ca (s2 P k d1 d2 d3 d4 d5 x0 x1 (.val (.ref 0)) .emp e [.lst (Z.map encS)]) = some (.rt (.bl true), S1) := by
  have hn := lines_n h
  have hll := (lines_len h).1
  have htl := h.tl
  have hxl : (xsL P).length ≤ 1000 := by unfold xsL; simp; omega
  have hit := later_it h
  have hlat := later_ok ca e (xsL P) hxl x0 x1 (.val (.lst ((linesP P).map encS))) (.val (.int ((1 + P.rows.length : Nat) : Int))) (.val (.int ((vd P : Nat) : Int))) (.val (.lst (I [k, d1, d2, d3, d4, d5]))) .emp (.val (.ref 0)) .emp .emp [.lst (Z.map encS)]
  have hlt : ∀ x ∈ laterF e (xsL P), e ≤ x ∧ x < (linesP P).length := fun x hx => by
    unfold laterF at hx
    rw [List.mem_filter] at hx
    exact ⟨by simpa using hx.2, xsL_lt h x hx.1⟩
  generalize laterF e (xsL P) = LT at *
  have hzl : ((Z.map encS).length : Int) = (((linesP P).map encS).length : Int) := by simp [hl]
  have hg1 : gLen (.lst ((linesP P).map encS)) = some (.int (((linesP P).map encS).length : Int)) := rfl
  have hg2 : gLen (.lst (Z.map encS)) = some (.int (((linesP P).map encS).length : Int)) := by rw [← hzl]; rfl
  have hgl : gLen (.lst (LT.map eN)) = some (.int ((LT.length : Nat) : Int)) := by rw [gLen_lst, List.length_map]
  have w0 : atI (I [k, d1, d2, d3, d4, d5]) 0 = some (.int k) := rfl
  have w3 : atI (I [k, d1, d2, d3, d4, d5]) 3 = some (.int d3) := rfl
  have w4 : atI (I [k, d1, d2, d3, d4, d5]) 4 = some (.int d4) := rfl
  have w5 : atI (I [k, d1, d2, d3, d4, d5]) 5 = some (.int d5) := rfl
  by_cases c1 : d3 = 1 ∧ LT.length ≠ 0
  · obtain ⟨e3, hL0⟩ := c1
    obtain ⟨w, hw, hodd⟩ := odd_ok d5 [.lst (Z.map encS)]
    have hpos : (0 : Int) < (LT.length : Int) := by omega
    obtain ⟨i, hi, hia⟩ : ∃ i, i ∈ LT ∧ atI (LT.map eN) (d4 % (LT.length : Int)) = some (.int (i : Int)) := by
      have a0 := Int.emod_nonneg d4 (show (LT.length : Int) ≠ 0 by omega)
      have a1 := Int.emod_lt_of_pos d4 hpos
      have hq : (d4 % (LT.length : Int)).toNat < LT.length := by omega
      refine ⟨LT[(d4 % (LT.length : Int)).toNat], List.getElem_mem _, ?_⟩
      rw [atI_pos a0 (by simpa using a1)]
      simp [hq, eN]
    obtain ⟨hi1, hi2⟩ := hlt i hi
    have hix : ixN (Z.map encS).length (i : Int) = some i := ixN_nat (by rw [List.length_map]; omega)
    have hset := map_set_S Z i w
    have hY : ZOk (Z.set i w) := hz.set (w10 hw.1) i
    have hbad : rdP (Z.set i w) = .bad e := hfx _ (by rw [List.take_set_of_le hi1])
    obtain ⟨S1, h1⟩ := law_end ca hY (by simp; omega) hbad x0 x1 (.val (.lst ((linesP P).map encS))) (.val (.int ((1 + P.rows.length : Nat) : Int))) (.val (.int ((vd P : Nat) : Int))) (.val (.lst (I [k, d1, d2, d3, d4, d5]))) .emp _ _ (.val (.lst (LT.map eN))) _ (join_ref (zok_flat hY) (by have := hY.n; omega) _ _ _ _ _ _ _ _ _)
    refine ⟨S1, ?_⟩
    rw [← h1]
    rw [← hset]
    have hM : gMod (.int d4) (.int (LT.length : Int)) = some (.int (d4 % (LT.length : Int))) := by rw [gMod_int, if_pos hpos]
    exact fix_aux1 _ f_law_odd (c_law_1 ca) (t_law_1 ca) _ _ _ _ _ k d3 d4 d5 _ _ _ _ _ x0 x1 h2 h7 w0 w3 w4 w5 hg1 hg2 hgl hit hlat _ _ i (S w) e3 hpos hM hia hodd hix
  by_cases c2 : d3 = 2
  · have hY : ZOk (Z.take e) := hz.take e
    have hbad : rdP (Z.take e) = .bad e := hfx _ (by rw [List.take_take]; simp)
    obtain ⟨S1, h1⟩ := law_end ca hY (by simp; omega) hbad x0 x1 (.val (.lst ((linesP P).map encS))) (.val (.int ((1 + P.rows.length : Nat) : Int))) (.val (.int ((vd P : Nat) : Int))) (.val (.lst (I [k, d1, d2, d3, d4, d5]))) .emp _ _ (.val (.lst (LT.map eN))) _ (join_own (zok_flat hY) (by have := hY.n; omega) _ _ _ _ _ _ _ _ _ [.lst (Z.map encS)])
    refine ⟨S1, ?_⟩
    rw [← h1]
    exact fix_aux3 _ f_law_odd (c_law_1 ca) (t_law_1 ca) _ _ _ _ _ k d3 d4 d5 _ _ _ _ _ x0 x1 h2 h7 w0 w3 w4 w5 hg1 hg2 hgl hit hlat _ c2 (by rw [cutTo, List.map_take])
  · have hbad : rdP Z = .bad e := hfx _ rfl
    obtain ⟨S1, h1⟩ := law_end ca hz (by omega) hbad x0 x1 (.val (.lst ((linesP P).map encS))) (.val (.int ((1 + P.rows.length : Nat) : Int))) (.val (.int ((vd P : Nat) : Int))) (.val (.lst (I [k, d1, d2, d3, d4, d5]))) .emp _ _ (.val (.lst (LT.map eN))) _ (join_ref (zok_flat hz) (by have := hz.n; omega) _ _ _ _ _ _ _ _ _)
    refine ⟨S1, ?_⟩
    rw [← h1]
    exact fix_aux2 _ f_law_odd (c_law_1 ca) (t_law_1 ca) _ _ _ _ _ k d3 d4 d5 _ _ _ _ _ x0 x1 h2 h7 w0 w3 w4 w5 hg1 hg2 hgl hit hlat (fun z => c1 ⟨z.1, by omega⟩) c2
end
end Lk30



namespace Lk30
open PySem L2 M
theorem law_split (ca : Nat → Addr) (W LL : List M.D) (A B : Int) (k : Int) (e : Nat) (R : M.D) (m' : List Cell) (x0 x1 : M.Slot) (w0 : atI W 0 = some (.int k)) (hk : k ≠ 0) (hs : f_law_spoilt [.lst LL, .int A, .int B, .lst W] [] = some (.tup [R, .int (e : Int)], m')) : t_law_4 ca (z12 x0 x1 (.val (.lst LL)) (.val (.int A)) (.val (.int B)) (.val (.lst W)) .emp .emp .emp .emp .emp .emp []) = t_law_2 ca (z12 x0 x1 (.val (.lst LL)) (.val (.int A)) (.val (.int B)) (.val (.lst W)) .emp (.val R) (.val (.int (e : Int))) .emp .emp .emp m') := by
  unfold t_law_4 t_law_3 z12
  generalize t_law_2 ca = tl
  generalize f_law_spoilt = fs at *
  generalize (e : Int) = E at *
  revert tl; refine opq ?_; intro tl
  simp [w0, hk, hs]
theorem law_true (ca : Nat → Addr) (ns : List Int) (hl : ns.length ≤ 63) (hb : ∀ z ∈ ns, Builtin.Int.intBits z ≤ 1048576) : ∃ m, f_law ca [.sc (ns.map M.D.int)] [] = some (.bl true, m) := by
  obtain ⟨P, k, d1, d2, d3, d4, d5, h, hk, e1⟩ := law_head ca ns
  suffices hx : ∃ S1, t_law_4 ca (z12 (.val (.sc (I ns))) (.val (encP P)) (.val (.lst ((linesP P).map encS))) (.val (.int ((1 + P.rows.length : Nat) : Int))) (.val (.int ((vd P : Nat) : Int))) (.val (.lst (I [k, d1, d2, d3, d4, d5]))) .emp .emp .emp .emp .emp .emp []) = some (.rt (.bl true), S1) by
    obtain ⟨S1, hx⟩ := hx
    refine ⟨S1.m, ?_⟩
    rw [show ns.map M.D.int = I ns from rfl]
    have e0 : f_law ca [.sc (I ns)] [] = (b_law ca (z12 (.val (.sc (I ns))) .emp .emp .emp .emp .emp .emp .emp .emp .emp .emp .emp [])).bind fun p => match p.1 with
      | .rt d => some (d, p.2.m)
      | .nx => some (.non, p.2.m)
      | _ => none := fnM_ap
    rw [e0, e1, hx]
    rfl
  by_cases k0 : k = 0
  · subst k0
    exact law_zero ca h _ rfl _ _ _ _
  obtain ⟨Z, e, R, m', ho, hs⟩ := spoilt_ok h (I [k, d1, d2, d3, d4, d5]) k d1 d2 (by omega) rfl rfl rfl []
  have hsp := law_split ca (I [k, d1, d2, d3, d4, d5]) ((linesP P).map encS) ((1 + P.rows.length : Nat) : Int) ((vd P : Nat) : Int) k e R m' (.val (.sc (I ns))) (.val (encP P)) rfl k0 hs
  rw [hsp]
  cases ho with
  | fix h2 h7 hl' hz he hf => exact law_f ca h k d1 d2 d3 d4 d5 _ _ h2 h7 hl' hz he hf
  | bad hk' hz hne hb' => exact law_b ca h k d1 d2 d3 d4 d5 _ _ hk' hz hne hb'
  | len hl' hn hz hne hj hf hb' => exact law_l ca h k d1 d2 d3 d4 d5 _ _ hl' hn hz hne hj hf hb' _
end Lk30

/-! the walk of k30, printed by gen.py -/
namespace Lk30
open PySem PySem.Spec L2 M
def top (i : Nat) : Stmt := PySem.Challenge.pw_wayorring_k30_wrong_rows_of_papers.main.body.getD i (.Pass ⟨0, 0, 0, 0⟩)
structure Txt (K : PySem.W.Frag) (mg : Str → Option Value) (ca : Nat → Addr) : Prop where
  b_ValueError : mg "ValueError" = none
  b_abs : mg "abs" = none
  b_bool : mg "bool" = none
  b_int : mg "int" = none
  b_isinstance : mg "isinstance" = none
  b_len : mg "len" = none
  b_list : mg "list" = none
  b_max : mg "max" = none
  b_range : mg "range" = none
  b_repr : mg "repr" = none
  b_str : mg "str" = none
  b_tuple : mg "tuple" = none
  k11 : Cls K (ca 11)
  m11 : mg "Paper" = some (.ref (ca 11))
  n11_text : NoAttr K (ca 11) "text"
  n11_subject : NoAttr K (ca 11) "subject"
  n11_verdict : NoAttr K (ca 11) "verdict"
  n11_tokens : NoAttr K (ca 11) "tokens"
  m0 : mg "WayError" = some (.ref (ca 0))
  m1 : mg "BadLine" = some (.ref (ca 1))
  m2 : mg "BadText" = some (.ref (ca 2))
  m3 : mg "BadProgram" = some (.ref (ca 3))
  m4 : mg "BadPaper" = some (.ref (ca 4))
  m5 : mg "TooLong" = some (.ref (ca 5))
  m6 : mg "TooWide" = some (.ref (ca 6))
  m7 : mg "BadPlace" = some (.ref (ca 7))
  m8 : mg "BadInput" = some (.ref (ca 8))
  m9 : mg "BadPair" = some (.ref (ca 9))
  m10 : mg "BadEdit" = some (.ref (ca 10))
  xm4_4 : PySem.W.exmOne K (.ref (ca 4)) (.ref (ca 4)) = some true
  xh4 : ExcC K (ca 4)
  ki4_10 : PySem.W.kitOne K (.ref (ca 4)) (.ref (ca 10)) = some false
  ki4_8 : PySem.W.kitOne K (.ref (ca 4)) (.ref (ca 8)) = some false
  ki4_1 : PySem.W.kitOne K (.ref (ca 4)) (.ref (ca 1)) = some true
  ki4_9 : PySem.W.kitOne K (.ref (ca 4)) (.ref (ca 9)) = some false
  ki4_7 : PySem.W.kitOne K (.ref (ca 4)) (.ref (ca 7)) = some false
  ki4_3 : PySem.W.kitOne K (.ref (ca 4)) (.ref (ca 3)) = some false
  ki4_2 : PySem.W.kitOne K (.ref (ca 4)) (.ref (ca 2)) = some false
  ki4_5 : PySem.W.kitOne K (.ref (ca 4)) (.ref (ca 5)) = some false
  ki4_6 : PySem.W.kitOne K (.ref (ca 4)) (.ref (ca 6)) = some false
  ki4_0 : PySem.W.kitOne K (.ref (ca 4)) (.ref (ca 0)) = some true
  kb4_ValueError : PySem.W.kitOne K (.ref (ca 4)) (.type "ValueError") = some true
  xf4 : XfC K (ca 4)
  xn4 : PySem.W.findIn K (.ref (ca 4)) "row" = some none
  g_DIGITS : ∃ t, mg "DIGITS" = some (.str "0123456789" t)
section
variable {P : Program} {w : World} {K : PySem.W.Frag} {mg : Str → Option Value} {base : Heap}
abbrev s_Paper___init__ : Stmt := inClass (top 15) 0
theorem sc_Paper___init__ : FnScope ["self", "text", "subject", "verdict", "tokens"] ["self", "text", "subject", "verdict", "tokens"] (defScope s_Paper___init__) := ⟨rfl, rfl, rfl, by decide +kernel, rfl, by decide +kernel, by decide +kernel⟩
theorem ok_Paper___init__ {ca : Nat → Addr} {f : Addr} {fd : FuncData} (T : Txt K mg ca)  (F : Fun K "__init__" "Paper.__init__" s_Paper___init__ f fd) (hm : Mk K (ca 11) f) : Fii P w K mg base 1 (ca 11) ["self", "text", "subject", "verdict", "tokens"] (f_Paper___init__ ca) := by
  refine fii (k := 0) F hm sc_Paper___init__ (fun _ _ _ _ _ _ us hl => match us, hl with | [_, _, _, _, _], _ => rfl) (fun cdv A outer s H E hr => ?_)
  exact (mss_cons (ms_fld T.k11 T.n11_text (me_var 0) (me_var 1))
    (mss_cons (ms_fld T.k11 T.n11_subject (me_var 0) (me_var 2))
    (mss_cons (ms_fld T.k11 T.n11_verdict (me_var 0) (me_var 3))
    (mss_one (ms_fld T.k11 T.n11_tokens (me_var 0) (me_var 4))))))
abbrev s_read_number : Stmt := top 16
theorem sc_read_number : FnScope ["word", "sign"] ["word"] (defScope s_read_number) := ⟨rfl, rfl, rfl, by decide +kernel, rfl, by decide +kernel, by decide +kernel⟩
theorem ok_read_number {ca : Nat → Addr} {f : Addr} {fd : FuncData} (T : Txt K mg ca)  (F : Fun K "read_number" "read_number" s_read_number f fd) (hm : mg "read_number" = some (.ref f)) : Fnn P w K mg base 1 "read_number" ["word"] f_read_number := by
  refine fnn (k := 0) F hm sc_read_number (fun _ _ _ _ _ _ us hl => match us, hl with | [_], _ => rfl) (fun cdv A outer s H E hr => ?_)
  exact (mss_cons (ms_for rfl (mi_str (me_var 0)) (mg_name 1 sc_read_number.nd) (mss_one (ms_if (mt_cmp (oNotIn3 (u65 hr)) (me_var 1) (me_globS T.g_DIGITS)) (mss_one (ms_ret me_non)) mss_nil)))
    (mss_cons (ms_if (mt_w (mw_or (mt_cmp (oEq2 hr.units) (me_var 0) me_str) (mw_or (mt_cmp oGt (me_callBV 0 cLen (by rfl) T.b_len PySem.boot_len) me_int) (mw_or1 (mt_w (mw_and (mt_cmp (oEq2 hr.units) (me_ixV 0 oIx me_int) me_str) (mw_and1 (mt_cmp (oNe2 hr.units) (me_var 0) me_str)))))))) (mss_one (ms_ret me_non)) mss_nil)
    (mss_one (ms_ret (me_callTV 0 cInt3 (by rfl) T.b_int (by decide +kernel))))))
abbrev s_read_numbers : Stmt := top 17
theorem sc_read_numbers : FnScope ["words", "found", "word"] ["words"] (defScope s_read_numbers) := ⟨rfl, rfl, rfl, by decide +kernel, rfl, by decide +kernel, by decide +kernel⟩
theorem ok_read_numbers {ca : Nat → Addr} {f : Addr} {fd : FuncData} (T : Txt K mg ca) (G_read_number : Fnn P w K mg base 1 "read_number" ["word"] f_read_number) (F : Fun K "read_numbers" "read_numbers" s_read_numbers f fd) (hm : mg "read_numbers" = some (.ref f)) : Fnn P w K mg base 2 "read_numbers" ["words"] f_read_numbers := by
  refine fnn (k := 1) F hm sc_read_numbers (fun _ _ _ _ _ _ us hl => match us, hl with | [_], _ => rfl) (fun cdv A outer s H E hr => ?_)
  exact (mss_cons (ms_setLc 1 rfl sc_read_numbers.nd (mi_seq (me_var 0)) (blkOk_by (own := [("word", 2)]) (N := ["words", "found", "word"]) (sc := defScope s_read_numbers) (by decide +kernel)) (fun _ _ _ _ _ => (mgk_name 2 sc_read_numbers.nd)) (fun _ _ _ _ _ => mts_nil) (fun _ _ _ _ _ => (me_f G_read_number (hr.mono (by decide)) (ma_cons (me_var 2) ma_nil))) (sw_true rfl rfl rfl (by decide +kernel)))
    (mss_cons (ms_if (mt_w (mw_or (mt_cmp (oEq2 hr.units) (me_callBV 1 cLen (by rfl) T.b_len PySem.boot_len) me_int) (mw_or1 (mt_cmpR 1 (oIn3 (u65 hr)) me_non)))) (mss_one (ms_ret me_non)) mss_nil)
    (mss_one (ms_ret (me_callTV 1 cTuple (by rfl) T.b_tuple (by decide +kernel))))))
abbrev s_read_signed : Stmt := top 18
theorem sc_read_signed : FnScope ["word", "number"] ["word"] (defScope s_read_signed) := ⟨rfl, rfl, rfl, by decide +kernel, rfl, by decide +kernel, by decide +kernel⟩
theorem ok_read_signed {ca : Nat → Addr} {f : Addr} {fd : FuncData} (T : Txt K mg ca) (G_read_number : Fnn P w K mg base 1 "read_number" ["word"] f_read_number) (F : Fun K "read_signed" "read_signed" s_read_signed f fd) (hm : mg "read_signed" = some (.ref f)) : Fnn P w K mg base 2 "read_signed" ["word"] f_read_signed := by
  refine fnn (k := 1) F hm sc_read_signed (fun _ _ _ _ _ _ us hl => match us, hl with | [_], _ => rfl) (fun cdv A outer s H E hr => ?_)
  exact (mss_cons (ms_if (mt_cmp (oNe2 hr.units) (me_sl3 (me_var 0) mo_none (mo_some me_int)) me_str) (mss_one (ms_ret (me_f G_read_number (hr.mono (by decide)) (ma_cons (me_var 0) ma_nil)))) mss_nil)
    (mss_cons (ms_set 1 sc_read_signed.nd (me_f G_read_number (hr.mono (by decide)) (ma_cons (me_sl3 (me_var 0) (mo_some me_int) mo_none) ma_nil)))
    (mss_cons (ms_if (mt_w (mw_or (mt_cmp oIsN (me_var 1) me_non) (mw_or1 (mt_cmp (oEq2 hr.units) (me_var 1) me_int)))) (mss_one (ms_ret me_non)) mss_nil)
    (mss_one (ms_ret (me_neg (me_var 1)))))))
abbrev s_read_verdict : Stmt := top 19
theorem sc_read_verdict : FnScope ["row", "words", "found", "word"] ["row"] (defScope s_read_verdict) := ⟨rfl, rfl, rfl, by decide +kernel, rfl, by decide +kernel, by decide +kernel⟩
theorem ok_read_verdict {ca : Nat → Addr} {f : Addr} {fd : FuncData} (T : Txt K mg ca) (G_read_signed : Fnn P w K mg base 2 "read_signed" ["word"] f_read_signed) (F : Fun K "read_verdict" "read_verdict" s_read_verdict f fd) (hm : mg "read_verdict" = some (.ref f)) : Fnn P w K mg base 3 "read_verdict" ["row"] f_read_verdict := by
  refine fnn (k := 2) F hm sc_read_verdict (fun _ _ _ _ _ _ us hl => match us, hl with | [_], _ => rfl) (fun cdv A outer s H E hr => ?_)
  exact (mss_cons (ms_if (mt_cmp (oEq2 hr.units) (me_var 0) me_str) (mss_one (ms_ret (me_tup (ma_cons me_str ma_nil)))) mss_nil)
    (mss_cons (ms_set 1 sc_read_verdict.nd (me_new (mf_split (me_var 0) me_str)))
    (mss_cons (ms_setLc 2 rfl sc_read_verdict.nd (mi_seq (me_sl3 (me_var 1) (mo_some me_int) mo_none)) (blkOk_by (own := [("word", 3)]) (N := ["row", "words", "found", "word"]) (sc := defScope s_read_verdict) (by decide +kernel)) (fun _ _ _ _ _ => (mgk_name 3 sc_read_verdict.nd)) (fun _ _ _ _ _ => mts_nil) (fun _ _ _ _ _ => (me_f G_read_signed (hr.mono (by decide)) (ma_cons (me_var 3) ma_nil))) (sw_true rfl rfl rfl (by decide +kernel)))
    (mss_cons (ms_if (mt_w (mw_or (mt_cmp (oNe2 hr.units) (me_ixV 1 oIx me_int) me_str) (mw_or (mt_cmp (oEq2 hr.units) (me_callBV 2 cLen (by rfl) T.b_len PySem.boot_len) me_int) (mw_or1 (mt_cmpR 2 (oIn3 (u65 hr)) me_non))))) (mss_one (ms_ret me_non)) mss_nil)
    (mss_one (ms_ret (me_tup (ma_cons me_str (ma_cons (me_callTV 2 cTuple (by rfl) T.b_tuple (by decide +kernel)) ma_nil)))))))))
abbrev s_read_token : Stmt := top 20
theorem sc_read_token : FnScope ["row", "words", "ring", "floors", "word"] ["row"] (defScope s_read_token) := ⟨rfl, rfl, rfl, by decide +kernel, rfl, by decide +kernel, by decide +kernel⟩
theorem ok_read_token {ca : Nat → Addr} {f : Addr} {fd : FuncData} (T : Txt K mg ca) (G_read_numbers : Fnn P w K mg base 2 "read_numbers" ["words"] f_read_numbers) (F : Fun K "read_token" "read_token" s_read_token f fd) (hm : mg "read_token" = some (.ref f)) : Fnn P w K mg base 3 "read_token" ["row"] f_read_token := by
  refine fnn (k := 2) F hm sc_read_token (fun _ _ _ _ _ _ us hl => match us, hl with | [_], _ => rfl) (fun cdv A outer s H E hr => ?_)
  exact (mss_cons (ms_if (mt_w (mw_or (mt_cmp (oEq2 hr.units) (me_var 0) me_str) (mw_or1 (mt_cmp (oEq2 hr.units) (me_var 0) me_str)))) (mss_one (ms_ret (me_tup (ma_cons (me_var 0) ma_nil)))) mss_nil)
    (mss_cons (ms_set 1 sc_read_token.nd (me_new (mf_split (me_var 0) me_str)))
    (mss_cons (ms_if (mt_cmp (oEq2 hr.units) (me_ixV 1 oIx me_int) me_str) (mss_cons (ms_set 2 sc_read_token.nd (me_f G_read_numbers (hr.mono (by decide)) (ma_cons (me_sl3 (me_var 1) (mo_some me_int) mo_none) ma_nil)))
    (mss_one (ms_ret (me_if (mt_cmp oIsN (me_var 2) me_non) me_non (me_tup (ma_cons me_str (ma_cons (me_var 2) ma_nil))))))) mss_nil)
    (mss_cons (ms_if (mt_w (mw_or (mt_cmp (oNe2 hr.units) (me_ixV 1 oIx me_int) me_str) (mw_or1 (mt_cmp (oEq2 hr.units) (me_callBV 1 cLen (by rfl) T.b_len PySem.boot_len) me_int)))) (mss_one (ms_ret me_non)) mss_nil)
    (mss_cons (ms_setLc 3 rfl sc_read_token.nd (mi_seq (me_sl3 (me_var 1) (mo_some me_int) mo_none)) (blkOk_by (own := [("word", 4)]) (N := ["row", "words", "ring", "floors", "word"]) (sc := defScope s_read_token) (by decide +kernel)) (fun _ _ _ _ _ => (mgk_name 4 sc_read_token.nd)) (fun _ _ _ _ _ => mts_nil) (fun _ _ _ _ _ => (me_f G_read_numbers (hr.mono (by decide)) (ma_cons (me_new (mf_split (me_var 4) me_str)) ma_nil))) (sw_true rfl rfl rfl (by decide +kernel)))
    (mss_one (ms_ret (me_if (mt_cmpR 3 (oIn3 (u65 hr)) me_non) me_non (me_tup (ma_cons me_str (ma_cons (me_callTV 3 cTuple (by rfl) T.b_tuple (by decide +kernel)) ma_nil)))))))))))
abbrev s_read_block : Stmt := top 21
theorem sc_read_block : FnScope ["rows", "at", "head", "words", "count"] ["rows", "at", "head"] (defScope s_read_block) := ⟨rfl, rfl, rfl, by decide +kernel, rfl, by decide +kernel, by decide +kernel⟩
theorem okx_read_block {ca : Nat → Addr} {f : Addr} {fd : FuncData} (T : Txt K mg ca) (G_read_number : Fnn P w K mg base 1 "read_number" ["word"] f_read_number) (G_x4 : Xrow P w K mg base ca 1 4 "BadPaper") (F : Fun K "read_block" "read_block" s_read_block f fd) (hm : mg "read_block" = some (.ref f)) : Fnx P w K mg base ca 3 "read_block" ["rows", "at", "head"] f_read_block := by
  refine fnnx (k := 2) F hm sc_read_block (fun _ _ _ _ _ _ us hl => match us, hl with | [_, _, _], _ => rfl) (fun cdv A outer s H E hr => ?_)
  exact (mssx_cons (msx_if (mt_cmp oGe (me_var 1) (me_callBV 0 cLen (by rfl) T.b_len PySem.boot_len)) (mssx_one (msx_raiseR G_x4 (hr.mono (by decide)) rfl (ma_cons (me_op oAdd (me_callBV 0 cLen (by rfl) T.b_len PySem.boot_len) me_int) ma_nil))) mssx_nil)
    (mssx_cons (msx_lift (ms_set 3 sc_read_block.nd (me_new (mf_split (me_ixV 0 oIx (me_var 1)) me_str))))
    (mssx_cons (msx_lift (ms_set 4 sc_read_block.nd (me_if (mt_w (mw_and (mt_cmp (oEq2 hr.units) (me_callBV 3 cLen (by rfl) T.b_len PySem.boot_len) me_int) (mw_and1 (mt_cmp (oEq2 hr.units) (me_ixV 3 oIx me_int) (me_var 2))))) (me_f G_read_number (hr.mono (by decide)) (ma_cons (me_ixV 3 oIx me_int) ma_nil)) me_non)))
    (mssx_cons (msx_if (mt_w (mw_or (mt_cmp oIsN (me_var 4) me_non) (mw_or1 (mt_cmp (oEq2 hr.units) (me_var 4) me_int)))) (mssx_one (msx_raiseR G_x4 (hr.mono (by decide)) rfl (ma_cons (me_op oAdd (me_var 1) me_int) ma_nil))) mssx_nil)
    (mssx_cons (msx_if (mt_cmp oGt (me_op oAdd (me_op oAdd (me_var 1) me_int) (me_var 4)) (me_callBV 0 cLen (by rfl) T.b_len PySem.boot_len)) (mssx_one (msx_raiseR G_x4 (hr.mono (by decide)) rfl (ma_cons (me_op oAdd (me_callBV 0 cLen (by rfl) T.b_len PySem.boot_len) me_int) ma_nil))) mssx_nil)
    (mssx_one (msx_lift (ms_ret (me_join me_str (me_sl3 (me_var 0) (mo_some (me_op oAdd (me_var 1) me_int)) (mo_some (me_op oAdd (me_op oAdd (me_var 1) me_int) (me_var 4)))))))))))))
theorem ok_read_block {ca : Nat → Addr} {f : Addr} {fd : FuncData} (T : Txt K mg ca) (G_read_number : Fnn P w K mg base 1 "read_number" ["word"] f_read_number) (G_x4 : Xrow P w K mg base ca 1 4 "BadPaper") (F : Fun K "read_block" "read_block" s_read_block f fd) (hm : mg "read_block" = some (.ref f)) : Fnx P w K mg base ca 3 "read_block" ["rows", "at", "head"] f_read_block := okx_read_block T G_read_number G_x4 F hm
abbrev s_read_paper : Stmt := top 22
theorem sc_read_paper : FnScope ["text", "rows", "program", "at", "subject", "other", "verdict", "tokens", "k", "token"] ["text"] (defScope s_read_paper) := ⟨rfl, rfl, rfl, by decide +kernel, rfl, by decide +kernel, by decide +kernel⟩
theorem okx_read_paper {ca : Nat → Addr} {f : Addr} {fd : FuncData} (T : Txt K mg ca) (G_Paper___init__ : Fii P w K mg base 1 (ca 11) ["self", "text", "subject", "verdict", "tokens"] (f_Paper___init__ ca)) (G_read_verdict : Fnn P w K mg base 3 "read_verdict" ["row"] f_read_verdict) (G_read_token : Fnn P w K mg base 3 "read_token" ["row"] f_read_token) (G_read_block : Fnx P w K mg base ca 3 "read_block" ["rows", "at", "head"] f_read_block) (G_x4 : Xrow P w K mg base ca 1 4 "BadPaper") (F : Fun K "read_paper" "read_paper" s_read_paper f fd) (hm : mg "read_paper" = some (.ref f)) : Fnx P w K mg base ca 4 "read_paper" ["text"] (f_read_paper ca) := by
  refine fnnx (k := 3) F hm sc_read_paper (fun _ _ _ _ _ _ us hl => match us, hl with | [_], _ => rfl) (fun cdv A outer s H E hr => ?_)
  exact (mssx_cons (msx_lift (ms_set 1 sc_read_paper.nd (me_new (mf_split (me_var 0) me_str))))
    (mssx_cons (msx_set 2 sc_read_paper.nd (mex_f G_read_block (hr.mono (by decide)) (ma_cons (me_var 1) (ma_cons me_int (ma_cons me_str ma_nil)))))
    (mssx_cons (msx_lift (ms_set 3 sc_read_paper.nd (me_op oAdd me_int (me_callB cLen (by rfl) T.b_len PySem.boot_len (me_new (mf_split (me_var 2) me_str))))))
    (mssx_cons (msx_if (mt_w (mw_and (mt_cmp oLt (me_var 3) (me_callBV 1 cLen (by rfl) T.b_len PySem.boot_len)) (mw_and1 (mt_cmp (oEq2 hr.units) (me_sl3 (me_ixV 1 oIx (me_var 3)) mo_none (mo_some me_int)) me_str)))) (mssx_cons (msx_lift (ms_set 4 sc_read_paper.nd (me_tup (ma_cons me_str (ma_cons (me_sl3 (me_ixV 1 oIx (me_var 3)) (mo_some me_int) mo_none) ma_nil)))))
    (mssx_one (msx_lift (ms_set 3 sc_read_paper.nd (me_op oAdd (me_var 3) me_int))))) (mssx_cons (msx_set 5 sc_read_paper.nd (mex_f G_read_block (hr.mono (by decide)) (ma_cons (me_var 1) (ma_cons (me_var 3) (ma_cons me_str ma_nil)))))
    (mssx_cons (msx_lift (ms_set 4 sc_read_paper.nd (me_tup (ma_cons me_str (ma_cons (me_var 5) ma_nil)))))
    (mssx_one (msx_lift (ms_set 3 sc_read_paper.nd (me_op oAdd (me_op oAdd (me_var 3) me_int) (me_callB cLen (by rfl) T.b_len PySem.boot_len (me_new (mf_split (me_var 5) me_str))))))))))
    (mssx_cons (msx_if (mt_cmp oGe (me_var 3) (me_callBV 1 cLen (by rfl) T.b_len PySem.boot_len)) (mssx_one (msx_raiseR G_x4 (hr.mono (by decide)) rfl (ma_cons (me_op oAdd (me_callBV 1 cLen (by rfl) T.b_len PySem.boot_len) me_int) ma_nil))) mssx_nil)
    (mssx_cons (msx_lift (ms_set 6 sc_read_paper.nd (me_f G_read_verdict (hr.mono (by decide)) (ma_cons (me_ixV 1 oIx (me_var 3)) ma_nil))))
    (mssx_cons (msx_if (mt_cmp oIsN (me_var 6) me_non) (mssx_one (msx_raiseR G_x4 (hr.mono (by decide)) rfl (ma_cons (me_op oAdd (me_var 3) me_int) ma_nil))) mssx_nil)
    (mssx_cons (msx_lift (ms_own 7 sc_read_paper.nd (mf_lst ma_nil)))
    (mssx_cons (msx_for rfl (mi_rg2 (by rfl) T.b_range (me_op oAdd (me_var 3) me_int) (me_callBV 1 cLen (by rfl) T.b_len PySem.boot_len)) (mg_name 8 sc_read_paper.nd) (mssx_cons (msx_lift (ms_set 9 sc_read_paper.nd (me_f G_read_token (hr.mono (by decide)) (ma_cons (me_ixV 1 oIx (me_var 8)) ma_nil))))
    (mssx_cons (msx_if (mt_cmp oIsN (me_var 9) me_non) (mssx_one (msx_raiseR G_x4 (hr.mono (by decide)) rfl (ma_cons (me_op oAdd (me_var 8) me_int) ma_nil))) mssx_nil)
    (mssx_one (msx_lift (ms_expr (me_app 7 (me_var 9))))))))
    (mssx_cons (msx_if (mt_cmp (oEq2 hr.units) (me_callBV 7 cLen (by rfl) T.b_len PySem.boot_len) me_int) (mssx_one (msx_raiseR G_x4 (hr.mono (by decide)) rfl (ma_cons (me_op oAdd (me_callBV 1 cLen (by rfl) T.b_len PySem.boot_len) me_int) ma_nil))) mssx_nil)
    (mssx_one (msx_lift (ms_ret (me_make G_Paper___init__ (hr.mono (by decide)) T.m11 (ma_cons (me_var 2) (ma_cons (me_var 4) (ma_cons (me_var 6) (ma_cons (me_callTV 7 cTuple (by rfl) T.b_tuple (by decide +kernel)) ma_nil))))))))))))))))))
theorem ok_read_paper {ca : Nat → Addr} {f : Addr} {fd : FuncData} (T : Txt K mg ca) (G_Paper___init__ : Fii P w K mg base 1 (ca 11) ["self", "text", "subject", "verdict", "tokens"] (f_Paper___init__ ca)) (G_read_verdict : Fnn P w K mg base 3 "read_verdict" ["row"] f_read_verdict) (G_read_token : Fnn P w K mg base 3 "read_token" ["row"] f_read_token) (G_read_block : Fnx P w K mg base ca 3 "read_block" ["rows", "at", "head"] f_read_block) (G_x4 : Xrow P w K mg base ca 1 4 "BadPaper") (F : Fun K "read_paper" "read_paper" s_read_paper f fd) (hm : mg "read_paper" = some (.ref f)) : Fnx P w K mg base ca 4 "read_paper" ["text"] (f_read_paper ca) := okx_read_paper T G_Paper___init__ G_read_verdict G_read_token G_read_block G_x4 F hm
abbrev s_law_cell : Stmt := top 24
theorem sc_law_cell : FnScope ["_law_script", "_law_k"] ["_law_script", "_law_k"] (defScope s_law_cell) := ⟨rfl, rfl, rfl, by decide +kernel, rfl, by decide +kernel, by decide +kernel⟩
theorem ok_law_cell {ca : Nat → Addr} {f : Addr} {fd : FuncData} (T : Txt K mg ca)  (F : Fun K "_law_cell" "_law_cell" s_law_cell f fd) (hm : mg "_law_cell" = some (.ref f)) : Fnn P w K mg base 1 "_law_cell" ["_law_script", "_law_k"] f_law_cell := by
  refine fnn (k := 0) F hm sc_law_cell (fun _ _ _ _ _ _ us hl => match us, hl with | [_, _], _ => rfl) (fun cdv A outer s H E hr => ?_)
  exact (mss_cons (ms_if (mt_cmp oGt (me_callBV 0 cLen (by rfl) T.b_len PySem.boot_len) me_int) (mss_one (ms_ret (me_ixV 0 oIx (me_op oMod (me_callTV 1 cInt3 (by rfl) T.b_int (by decide +kernel)) (me_callBV 0 cLen (by rfl) T.b_len PySem.boot_len))))) mss_nil)
    (mss_one (ms_ret me_int)))
abbrev s_law_draws : Stmt := top 25
theorem sc_law_draws : FnScope ["_law_script", "_law_place", "_law_sizes", "_law_primes", "_law_cell_here", "_law_rest", "_law_draws_here", "_law_k", "_law_first_here", "_law_mixed"] ["_law_script", "_law_place", "_law_sizes"] (defScope s_law_draws) := ⟨rfl, rfl, rfl, by decide +kernel, rfl, by decide +kernel, by decide +kernel⟩
theorem ok_law_draws {ca : Nat → Addr} {f : Addr} {fd : FuncData} (T : Txt K mg ca) (G_law_cell : Fnn P w K mg base 1 "_law_cell" ["_law_script", "_law_k"] f_law_cell) (F : Fun K "_law_draws" "_law_draws" s_law_draws f fd) (hm : mg "_law_draws" = some (.ref f)) : Fnn P w K mg base 2 "_law_draws" ["_law_script", "_law_place", "_law_sizes"] f_law_draws := by
  refine fnn (k := 1) F hm sc_law_draws (fun _ _ _ _ _ _ us hl => match us, hl with | [_, _, _], _ => rfl) (fun cdv A outer s H E hr => ?_)
  exact (mss_cons (ms_set 3 sc_law_draws.nd (me_new (mf_lst (ma_cons me_int (ma_cons me_int (ma_cons me_int (ma_cons me_int (ma_cons me_int (ma_cons me_int (ma_cons me_int (ma_cons me_int ma_nil)))))))))))
    (mss_cons (ms_set 4 sc_law_draws.nd (me_callB cAbs (by rfl) T.b_abs (by decide +kernel) (me_f G_law_cell (hr.mono (by decide)) (ma_cons (me_var 0) (ma_cons (me_var 1) ma_nil)))))
    (mss_cons (ms_set 5 sc_law_draws.nd me_int)
    (mss_cons (ms_if (mt_cmp oGe (me_var 4) (me_op oPow me_int me_int)) (mss_one (ms_set 5 sc_law_draws.nd (me_var 4))) mss_nil)
    (mss_cons (ms_own 6 sc_law_draws.nd (mf_lst ma_nil))
    (mss_cons (ms_for rfl (mi_rg1 (by rfl) T.b_range (me_callBV 2 cLen (by rfl) T.b_len PySem.boot_len)) (mg_name 7 sc_law_draws.nd) (mss_one (ms_if (mt_cmp oGt (me_var 5) me_int) (mss_cons (ms_expr (me_app 6 (me_op oMod (me_callTV 5 cInt3 (by rfl) T.b_int (by decide +kernel)) (me_ixV 2 oIx (me_var 7)))))
    (mss_one (ms_set 5 sc_law_draws.nd (me_op oDiv (me_var 5) (me_ixV 2 oIx (me_var 7)))))) (mss_cons (ms_set 8 sc_law_draws.nd (me_op oMod (me_callT cInt3 (by rfl) T.b_int (by decide +kernel) (me_op oAdd (me_op oMul3 (me_op oAdd (me_op oAdd (me_op oAdd (me_var 4) me_int) (me_op oMul3 me_int (me_var 1))) (me_var 7)) me_int) (me_op oMul3 me_int (me_var 7)))) (me_ixV 3 oIx (me_op oMod (me_var 7) me_int))))
    (mss_cons (ms_set 9 sc_law_draws.nd (me_op oMod (me_callT cInt3 (by rfl) T.b_int (by decide +kernel) (me_op oAdd (me_op oAdd (me_op oMul3 (me_var 8) (me_var 8)) (me_op oMul3 me_int (me_var 7))) (me_var 1))) (me_ixV 3 oIx (me_op oMod (me_op oAdd (me_var 7) me_int) me_int))))
    (mss_cons (ms_set 9 sc_law_draws.nd (me_op oMod (me_callT cInt3 (by rfl) T.b_int (by decide +kernel) (me_op oAdd (me_op oAdd (me_op oMul3 (me_var 9) me_int) (me_op oMul3 (me_var 8) me_int)) (me_var 7))) (me_ixV 3 oIx (me_op oMod (me_op oAdd (me_var 7) me_int) me_int))))
    (mss_one (ms_expr (me_app 6 (me_op oMod (me_callT cInt3 (by rfl) T.b_int (by decide +kernel) (me_op oDiv (me_var 9) me_int)) (me_ixV 2 oIx (me_var 7))))))))))))
    (mss_one (ms_ret (me_var 6)))))))))
abbrev s_law_row : Stmt := top 26
theorem sc_law_row : FnScope ["_law_draws_here", "_law_tricky", "_law_signs", "_law_number_here", "_law_row_here", "_law_k"] ["_law_draws_here"] (defScope s_law_row) := ⟨rfl, rfl, rfl, by decide +kernel, rfl, by decide +kernel, by decide +kernel⟩
theorem ok_law_row {ca : Nat → Addr} {f : Addr} {fd : FuncData} (T : Txt K mg ca)  (F : Fun K "_law_row" "_law_row" s_law_row f fd) (hm : mg "_law_row" = some (.ref f)) : Fnn P w K mg base 1 "_law_row" ["_law_draws_here"] f_law_row := by
  refine fnn (k := 0) F hm sc_law_row (fun _ _ _ _ _ _ us hl => match us, hl with | [_], _ => rfl) (fun cdv A outer s H E hr => ?_)
  exact (mss_cons (ms_set 1 sc_law_row.nd (me_new (mf_lst (ma_cons me_str (ma_cons me_str (ma_cons me_str (ma_cons me_str (ma_cons me_str (ma_cons me_str (ma_cons me_str (ma_cons me_str (ma_cons me_str (ma_cons me_str (ma_cons me_str (ma_cons me_str ma_nil)))))))))))))))
    (mss_cons (ms_if (mt_cmp oLt (me_ixV 0 oIx me_int) me_int) (mss_one (ms_ret (me_ixV 1 oIx (me_op oDiv (me_ixV 0 oIx me_int) me_int)))) mss_nil)
    (mss_cons (ms_set 2 sc_law_row.nd me_str)
    (mss_cons (ms_set 3 sc_law_row.nd (me_ixV 0 oIx me_int))
    (mss_cons (ms_set 4 sc_law_row.nd me_str)
    (mss_cons (ms_for rfl (mi_rg1 (by rfl) T.b_range (me_op oMod (me_callT cInt3 (by rfl) T.b_int (by decide +kernel) (me_ixV 0 oIx me_int)) me_int)) (mg_name 5 sc_law_row.nd) (mss_cons (ms_set 4 sc_law_row.nd (me_op oAdd (me_var 4) (me_ixV 2 oIx (me_op oMod (me_callTV 3 cInt3 (by rfl) T.b_int (by decide +kernel)) (me_callBV 2 cLen (by rfl) T.b_len PySem.boot_len)))))
    (mss_one (ms_set 3 sc_law_row.nd (me_op oDiv (me_var 3) (me_callBV 2 cLen (by rfl) T.b_len PySem.boot_len))))))
    (mss_one (ms_ret (me_var 4)))))))))
abbrev s_law_rows : Stmt := top 27
theorem sc_law_rows : FnScope ["_law_script", "_law_place", "_law_count", "_law_rows_here", "_law_k"] ["_law_script", "_law_place", "_law_count"] (defScope s_law_rows) := ⟨rfl, rfl, rfl, by decide +kernel, rfl, by decide +kernel, by decide +kernel⟩
theorem ok_law_rows {ca : Nat → Addr} {f : Addr} {fd : FuncData} (T : Txt K mg ca) (G_law_draws : Fnn P w K mg base 2 "_law_draws" ["_law_script", "_law_place", "_law_sizes"] f_law_draws) (G_law_row : Fnn P w K mg base 1 "_law_row" ["_law_draws_here"] f_law_row) (F : Fun K "_law_rows" "_law_rows" s_law_rows f fd) (hm : mg "_law_rows" = some (.ref f)) : Fnn P w K mg base 3 "_law_rows" ["_law_script", "_law_place", "_law_count"] f_law_rows := by
  refine fnn (k := 2) F hm sc_law_rows (fun _ _ _ _ _ _ us hl => match us, hl with | [_, _, _], _ => rfl) (fun cdv A outer s H E hr => ?_)
  exact (mss_cons (ms_own 3 sc_law_rows.nd (mf_lst ma_nil))
    (mss_cons (ms_for rfl (mi_rg1 (by rfl) T.b_range (me_var 2)) (mg_name 4 sc_law_rows.nd) (mss_one (ms_expr (me_app 3 (me_f G_law_row (hr.mono (by decide)) (ma_cons (me_f G_law_draws (hr.mono (by decide)) (ma_cons (me_var 0) (ma_cons (me_op oAdd (me_var 1) (me_var 4)) (ma_cons (me_new (mf_lst (ma_cons me_int (ma_cons (me_op oPow me_int me_int) ma_nil)))) ma_nil)))) ma_nil))))))
    (mss_one (ms_ret (me_var 3)))))
abbrev s_law_number : Stmt := top 28
theorem sc_law_number : FnScope ["_law_draw"] ["_law_draw"] (defScope s_law_number) := ⟨rfl, rfl, rfl, by decide +kernel, rfl, by decide +kernel, by decide +kernel⟩
theorem ok_law_number {ca : Nat → Addr} {f : Addr} {fd : FuncData} (T : Txt K mg ca)  (F : Fun K "_law_number" "_law_number" s_law_number f fd) (hm : mg "_law_number" = some (.ref f)) : Fnn P w K mg base 1 "_law_number" ["_law_draw"] f_law_number := by
  refine fnn (k := 0) F hm sc_law_number (fun _ _ _ _ _ _ us hl => match us, hl with | [_], _ => rfl) (fun cdv A outer s H E hr => ?_)
  exact (mss_cons (ms_if (mt_cmp (oEq2 hr.units) (me_op oMod (me_callTV 0 cInt3 (by rfl) T.b_int (by decide +kernel)) me_int) me_int) (mss_one (ms_ret (me_op oMod (me_callT cInt3 (by rfl) T.b_int (by decide +kernel) (me_op oDiv (me_var 0) me_int)) (me_op oPow me_int me_int)))) mss_nil)
    (mss_cons (ms_if (mt_cmp (oEq2 hr.units) (me_op oMod (me_callTV 0 cInt3 (by rfl) T.b_int (by decide +kernel)) me_int) me_int) (mss_one (ms_ret (me_op oSub (me_op oPow me_int me_int) me_int))) mss_nil)
    (mss_one (ms_ret (me_op oMod (me_callT cInt3 (by rfl) T.b_int (by decide +kernel) (me_op oDiv (me_var 0) me_int)) me_int)))))
abbrev s_law_numbers : Stmt := top 29
theorem sc_law_numbers : FnScope ["_law_draws_here", "_law_draw"] ["_law_draws_here"] (defScope s_law_numbers) := ⟨rfl, rfl, rfl, by decide +kernel, rfl, by decide +kernel, by decide +kernel⟩
theorem ok_law_numbers {ca : Nat → Addr} {f : Addr} {fd : FuncData} (T : Txt K mg ca) (G_law_number : Fnn P w K mg base 1 "_law_number" ["_law_draw"] f_law_number) (F : Fun K "_law_numbers" "_law_numbers" s_law_numbers f fd) (hm : mg "_law_numbers" = some (.ref f)) : Fnn P w K mg base 2 "_law_numbers" ["_law_draws_here"] f_law_numbers := by
  refine fnn (k := 1) F hm sc_law_numbers (fun _ _ _ _ _ _ us hl => match us, hl with | [_], _ => rfl) (fun cdv A outer s H E hr => ?_)
  exact (mss_one (ms_ret (me_callT cTuple (by rfl) T.b_tuple (by decide +kernel) (me_new (mf_lc rfl sc_law_numbers.nd (mi_seq (me_sl3 (me_var 0) (mo_some me_int) (mo_some (me_op oAdd me_int (me_op oMod (me_callT cInt3 (by rfl) T.b_int (by decide +kernel) (me_ixV 0 oIx me_int)) (me_op oSub (me_callBV 0 cLen (by rfl) T.b_len PySem.boot_len) me_int)))))) (blkOk_by (own := [("_law_draw", 1)]) (N := ["_law_draws_here", "_law_draw"]) (sc := defScope s_law_numbers) (by decide +kernel)) (fun _ _ _ _ _ => (mgk_name 1 sc_law_numbers.nd)) (fun _ _ _ _ _ => mts_nil) (fun _ _ _ _ _ => (me_f G_law_number (hr.mono (by decide)) (ma_cons (me_var 1) ma_nil))))))))
abbrev s_law_token : Stmt := top 30
theorem sc_law_token : FnScope ["_law_script", "_law_place", "_law_draws_here", "_law_floors", "_law_k"] ["_law_script", "_law_place"] (defScope s_law_token) := ⟨rfl, rfl, rfl, by decide +kernel, rfl, by decide +kernel, by decide +kernel⟩
theorem ok_law_token {ca : Nat → Addr} {f : Addr} {fd : FuncData} (T : Txt K mg ca) (G_law_draws : Fnn P w K mg base 2 "_law_draws" ["_law_script", "_law_place", "_law_sizes"] f_law_draws) (G_law_numbers : Fnn P w K mg base 2 "_law_numbers" ["_law_draws_here"] f_law_numbers) (F : Fun K "_law_token" "_law_token" s_law_token f fd) (hm : mg "_law_token" = some (.ref f)) : Fnn P w K mg base 3 "_law_token" ["_law_script", "_law_place"] f_law_token := by
  refine fnn (k := 2) F hm sc_law_token (fun _ _ _ _ _ _ us hl => match us, hl with | [_, _], _ => rfl) (fun cdv A outer s H E hr => ?_)
  exact (mss_cons (ms_set 2 sc_law_token.nd (me_f G_law_draws (hr.mono (by decide)) (ma_cons (me_var 0) (ma_cons (me_var 1) (ma_cons (me_op oAdd (me_new (mf_lst (ma_cons me_int (ma_cons me_int ma_nil)))) (me_new (mf_lc rfl sc_law_token.nd (mi_rg1 (by rfl) T.b_range me_int) (blkOk_by (own := [("_law_k", 4)]) (N := ["_law_script", "_law_place", "_law_draws_here", "_law_floors", "_law_k"]) (sc := defScope s_law_token) (by decide +kernel)) (fun _ _ _ _ _ => (mgk_name 4 sc_law_token.nd)) (fun _ _ _ _ _ => mts_nil) (fun _ _ _ _ _ => (me_op oMul3 me_int (me_op oPow me_int me_int)))))) ma_nil)))))
    (mss_cons (ms_if (mt_cmp (oEq2 hr.units) (me_ixV 2 oIx me_int) me_int) (mss_one (ms_ret (me_tup (ma_cons me_str ma_nil)))) mss_nil)
    (mss_cons (ms_if (mt_cmp (oEq2 hr.units) (me_ixV 2 oIx me_int) me_int) (mss_one (ms_ret (me_tup (ma_cons me_str ma_nil)))) mss_nil)
    (mss_cons (ms_if (mt_cmp (oEq2 hr.units) (me_ixV 2 oIx me_int) me_int) (mss_one (ms_ret (me_tup (ma_cons me_str (ma_cons (me_f G_law_numbers (hr.mono (by decide)) (ma_cons (me_sl3 (me_var 2) (mo_some me_int) (mo_some me_int)) ma_nil)) ma_nil))))) mss_nil)
    (mss_cons (ms_setLc 3 rfl sc_law_token.nd (mi_rg1 (by rfl) T.b_range (me_op oAdd me_int (me_ixV 2 oIx me_int))) (blkOk_by (own := [("_law_k", 4)]) (N := ["_law_script", "_law_place", "_law_draws_here", "_law_floors", "_law_k"]) (sc := defScope s_law_token) (by decide +kernel)) (fun _ _ _ _ _ => (mgk_name 4 sc_law_token.nd)) (fun _ _ _ _ _ => mts_nil) (fun _ _ _ _ _ => (me_f G_law_numbers (hr.mono (by decide)) (ma_cons (me_sl3 (me_var 2) (mo_some (me_op oAdd me_int (me_op oMul3 me_int (me_var 4)))) (mo_some (me_op oAdd me_int (me_op oMul3 me_int (me_var 4))))) ma_nil))) (sw_true rfl rfl rfl (by decide +kernel)))
    (mss_one (ms_ret (me_tup (ma_cons me_str (ma_cons (me_callTV 3 cTuple (by rfl) T.b_tuple (by decide +kernel)) ma_nil))))))))))
abbrev s_law_parts : Stmt := top 31
theorem sc_law_parts : FnScope ["_law_script", "_law_shape", "_law_text", "_law_subject_here", "_law_verdict_here", "_law_draws_here", "_law_count", "_law_k"] ["_law_script"] (defScope s_law_parts) := ⟨rfl, rfl, rfl, by decide +kernel, rfl, by decide +kernel, by decide +kernel⟩
theorem ok_law_parts {ca : Nat → Addr} {f : Addr} {fd : FuncData} (T : Txt K mg ca) (G_law_draws : Fnn P w K mg base 2 "_law_draws" ["_law_script", "_law_place", "_law_sizes"] f_law_draws) (G_law_rows : Fnn P w K mg base 3 "_law_rows" ["_law_script", "_law_place", "_law_count"] f_law_rows) (G_law_number : Fnn P w K mg base 1 "_law_number" ["_law_draw"] f_law_number) (G_law_token : Fnn P w K mg base 3 "_law_token" ["_law_script", "_law_place"] f_law_token) (F : Fun K "_law_parts" "_law_parts" s_law_parts f fd) (hm : mg "_law_parts" = some (.ref f)) : Fnn P w K mg base 4 "_law_parts" ["_law_script"] f_law_parts := by
  refine fnn (k := 3) F hm sc_law_parts (fun _ _ _ _ _ _ us hl => match us, hl with | [_], _ => rfl) (fun cdv A outer s H E hr => ?_)
  exact (mss_cons (ms_set 1 sc_law_parts.nd (me_f G_law_draws (hr.mono (by decide)) (ma_cons (me_var 0) (ma_cons me_int (ma_cons (me_new (mf_lst (ma_cons me_int (ma_cons me_int (ma_cons me_int (ma_cons me_int (ma_cons me_int (ma_cons me_int (ma_cons me_int (ma_cons me_int ma_nil)))))))))) ma_nil)))))
    (mss_cons (ms_set 2 sc_law_parts.nd (me_join me_str (me_f G_law_rows (hr.mono (by decide)) (ma_cons (me_var 0) (ma_cons me_int (ma_cons (me_op oAdd me_int (me_ixV 1 oIx me_int)) ma_nil))))))
    (mss_cons (ms_set 3 sc_law_parts.nd (me_tup (ma_cons me_str (ma_cons (me_op oAdd me_str (me_ix oIx (me_f G_law_rows (hr.mono (by decide)) (ma_cons (me_var 0) (ma_cons me_int (ma_cons me_int ma_nil)))) me_int)) ma_nil))))
    (mss_cons (ms_if (mt_cmp (oEq2 hr.units) (me_ixV 1 oIx me_int) me_int) (mss_one (ms_set 3 sc_law_parts.nd (me_tup (ma_cons me_str (ma_cons (me_op oAdd (me_ix oIx (me_f G_law_rows (hr.mono (by decide)) (ma_cons (me_var 0) (ma_cons me_int (ma_cons me_int ma_nil)))) me_int) me_str) ma_nil))))) mss_nil)
    (mss_cons (ms_if (mt_cmp (oEq2 hr.units) (me_ixV 1 oIx me_int) me_int) (mss_one (ms_set 3 sc_law_parts.nd (me_tup (ma_cons me_str (ma_cons (me_join me_str (me_f G_law_rows (hr.mono (by decide)) (ma_cons (me_var 0) (ma_cons me_int (ma_cons (me_op oAdd me_int (me_ixV 1 oIx me_int)) ma_nil))))) ma_nil))))) mss_nil)
    (mss_cons (ms_set 4 sc_law_parts.nd (me_tup (ma_cons me_str ma_nil)))
    (mss_cons (ms_if (mt_cmp (oEq2 hr.units) (me_ixV 1 oIx me_int) me_int) (mss_cons (ms_set 5 sc_law_parts.nd (me_f G_law_draws (hr.mono (by decide)) (ma_cons (me_var 0) (ma_cons me_int (ma_cons (me_op oAdd (me_new (mf_lc rfl sc_law_parts.nd (mi_rg1 (by rfl) T.b_range me_int) (blkOk_by (own := [("_law_k", 7)]) (N := ["_law_script", "_law_shape", "_law_text", "_law_subject_here", "_law_verdict_here", "_law_draws_here", "_law_count", "_law_k"]) (sc := defScope s_law_parts) (by decide +kernel)) (fun _ _ _ _ _ => (mgk_name 7 sc_law_parts.nd)) (fun _ _ _ _ _ => mts_nil) (fun _ _ _ _ _ => me_int))) (me_new (mf_lc rfl sc_law_parts.nd (mi_rg1 (by rfl) T.b_range me_int) (blkOk_by (own := [("_law_k", 7)]) (N := ["_law_script", "_law_shape", "_law_text", "_law_subject_here", "_law_verdict_here", "_law_draws_here", "_law_count", "_law_k"]) (sc := defScope s_law_parts) (by decide +kernel)) (fun _ _ _ _ _ => (mgk_name 7 sc_law_parts.nd)) (fun _ _ _ _ _ => mts_nil) (fun _ _ _ _ _ => (me_op oMul3 me_int (me_op oPow me_int me_int)))))) ma_nil)))))
    (mss_one (ms_set 4 sc_law_parts.nd (me_tup (ma_cons me_str (ma_cons (me_callT cTuple (by rfl) T.b_tuple (by decide +kernel) (me_new (mf_lc rfl sc_law_parts.nd (mi_rg1 (by rfl) T.b_range (me_op oAdd me_int (me_ixV 1 oIx me_int))) (blkOk_by (own := [("_law_k", 7)]) (N := ["_law_script", "_law_shape", "_law_text", "_law_subject_here", "_law_verdict_here", "_law_draws_here", "_law_count", "_law_k"]) (sc := defScope s_law_parts) (by decide +kernel)) (fun _ _ _ _ _ => (mgk_name 7 sc_law_parts.nd)) (fun _ _ _ _ _ => mts_nil) (fun _ _ _ _ _ => (me_op oMul3 (me_op oSub me_int (me_op oMul3 me_int (me_ixV 5 oIx (me_var 7)))) (me_f G_law_number (hr.mono (by decide)) (ma_cons (me_ixV 5 oIx (me_op oAdd me_int (me_var 7))) ma_nil))))))) ma_nil)))))) mss_nil)
    (mss_cons (ms_set 6 sc_law_parts.nd (me_op oAdd me_int (me_ixV 1 oIx me_int)))
    (mss_one (ms_ret (me_tup (ma_cons (me_var 2) (ma_cons (me_var 3) (ma_cons (me_var 4) (ma_cons (me_callT cTuple (by rfl) T.b_tuple (by decide +kernel) (me_new (mf_lc rfl sc_law_parts.nd (mi_rg1 (by rfl) T.b_range (me_var 6)) (blkOk_by (own := [("_law_k", 7)]) (N := ["_law_script", "_law_shape", "_law_text", "_law_subject_here", "_law_verdict_here", "_law_draws_here", "_law_count", "_law_k"]) (sc := defScope s_law_parts) (by decide +kernel)) (fun _ _ _ _ _ => (mgk_name 7 sc_law_parts.nd)) (fun _ _ _ _ _ => mts_nil) (fun _ _ _ _ _ => (me_f G_law_token (hr.mono (by decide)) (ma_cons (me_var 0) (ma_cons (me_op oAdd me_int (me_var 7)) ma_nil))))))) ma_nil)))))))))))))))
abbrev s_law_joined : Stmt := top 32
theorem sc_law_joined : FnScope ["_law_numbers_here", "_law_sign", "_law_number_here"] ["_law_numbers_here", "_law_sign"] (defScope s_law_joined) := ⟨rfl, rfl, rfl, by decide +kernel, rfl, by decide +kernel, by decide +kernel⟩
theorem ok_law_joined {ca : Nat → Addr} {f : Addr} {fd : FuncData} (T : Txt K mg ca)  (F : Fun K "_law_joined" "_law_joined" s_law_joined f fd) (hm : mg "_law_joined" = some (.ref f)) : Fnn P w K mg base 1 "_law_joined" ["_law_numbers_here", "_law_sign"] f_law_joined := by
  refine fnn (k := 0) F hm sc_law_joined (fun _ _ _ _ _ _ us hl => match us, hl with | [_, _], _ => rfl) (fun cdv A outer s H E hr => ?_)
  exact (mss_one (ms_ret (me_join (me_var 1) (me_new (mf_lc rfl sc_law_joined.nd (mi_seq (me_var 0)) (blkOk_by (own := [("_law_number_here", 2)]) (N := ["_law_numbers_here", "_law_sign", "_law_number_here"]) (sc := defScope s_law_joined) (by decide +kernel)) (fun _ _ _ _ _ => (mgk_name 2 sc_law_joined.nd)) (fun _ _ _ _ _ => mts_nil) (fun _ _ _ _ _ => (me_callTV 2 cStr (by rfl) T.b_str (by decide +kernel))))))))
abbrev s_law_lines : Stmt := top 33
theorem sc_law_lines : FnScope ["_law_parts_here", "_law_text", "_law_subject_here", "_law_verdict_here", "_law_tokens", "_law_lines_here", "_law_token_here", "_law_line", "_law_floor"] ["_law_parts_here"] (defScope s_law_lines) := ⟨rfl, rfl, rfl, by decide +kernel, rfl, by decide +kernel, by decide +kernel⟩
theorem ok_law_lines {ca : Nat → Addr} {f : Addr} {fd : FuncData} (T : Txt K mg ca) (G_law_joined : Fnn P w K mg base 1 "_law_joined" ["_law_numbers_here", "_law_sign"] f_law_joined) (F : Fun K "_law_lines" "_law_lines" s_law_lines f fd) (hm : mg "_law_lines" = some (.ref f)) : Fnn P w K mg base 2 "_law_lines" ["_law_parts_here"] f_law_lines := by
  refine fnn (k := 1) F hm sc_law_lines (fun _ _ _ _ _ _ us hl => match us, hl with | [_], _ => rfl) (fun cdv A outer s H E hr => ?_)
  exact (mss_cons (ms_asg (me_var 0) (mg_tup (n := 4) rfl (mgs_cons (mg_name 1 sc_law_lines.nd) (mgs_cons (mg_name 2 sc_law_lines.nd) (mgs_cons (mg_name 3 sc_law_lines.nd) (mgs_cons (mg_name 4 sc_law_lines.nd) mgs_nil))))))
    (mss_cons (ms_own 5 sc_law_lines.nd (mf_cat (me_new (mf_lst (ma_cons (me_op oAdd me_str (me_callT cStr (by rfl) T.b_str (by decide +kernel) (me_callB cLen (by rfl) T.b_len PySem.boot_len (me_new (mf_split (me_var 1) me_str))))) ma_nil))) (me_new (mf_split (me_var 1) me_str))))
    (mss_cons (ms_if (mt_cmp (oEq2 hr.units) (me_ixV 2 oIx me_int) me_str) (mss_one (ms_expr (me_app 5 (me_op oAdd me_str (me_ixV 2 oIx me_int))))) (mss_one (ms_own 5 sc_law_lines.nd (mf_cat (me_opLv 5 oAdd (me_new (mf_lst (ma_cons (me_op oAdd me_str (me_callT cStr (by rfl) T.b_str (by decide +kernel) (me_callB cLen (by rfl) T.b_len PySem.boot_len (me_new (mf_split (me_ixV 2 oIx me_int) me_str))))) ma_nil)))) (me_new (mf_split (me_ixV 2 oIx me_int) me_str))))))
    (mss_cons (ms_if (mt_cmp (oEq2 hr.units) (me_ixV 3 oIx me_int) me_str) (mss_one (ms_expr (me_app 5 me_str))) (mss_one (ms_expr (me_app 5 (me_op oAdd me_str (me_f G_law_joined (hr.mono (by decide)) (ma_cons (me_ixV 3 oIx me_int) (ma_cons me_str ma_nil))))))))
    (mss_cons (ms_for rfl (mi_seq (me_var 4)) (mg_name 6 sc_law_lines.nd) (mss_cons (ms_set 7 sc_law_lines.nd (me_ixV 6 oIx me_int))
    (mss_cons (ms_if (mt_cmp (oEq2 hr.units) (me_var 7) me_str) (mss_one (ms_set 7 sc_law_lines.nd (me_op oAdd me_str (me_f G_law_joined (hr.mono (by decide)) (ma_cons (me_ixV 6 oIx me_int) (ma_cons me_str ma_nil)))))) mss_nil)
    (mss_cons (ms_if (mt_cmp (oEq2 hr.units) (me_var 7) me_str) (mss_one (ms_set 7 sc_law_lines.nd (me_op oAdd me_str (me_join me_str (me_new (mf_lc rfl sc_law_lines.nd (mi_seq (me_ixV 6 oIx me_int)) (blkOk_by (own := [("_law_floor", 8)]) (N := ["_law_parts_here", "_law_text", "_law_subject_here", "_law_verdict_here", "_law_tokens", "_law_lines_here", "_law_token_here", "_law_line", "_law_floor"]) (sc := defScope s_law_lines) (by decide +kernel)) (fun _ _ _ _ _ => (mgk_name 8 sc_law_lines.nd)) (fun _ _ _ _ _ => mts_nil) (fun _ _ _ _ _ => (me_f G_law_joined (hr.mono (by decide)) (ma_cons (me_var 8) (ma_cons me_str ma_nil)))))))))) mss_nil)
    (mss_one (ms_expr (me_app 5 (me_var 7))))))))
    (mss_one (ms_ret (me_var 5))))))))
abbrev s_law_first : Stmt := top 34
theorem sc_law_first : FnScope ["_law_many", "_law_choice", "_law_number_here", "_law_rows_here"] ["_law_many", "_law_choice"] (defScope s_law_first) := ⟨rfl, rfl, rfl, by decide +kernel, rfl, by decide +kernel, by decide +kernel⟩
theorem ok_law_first {ca : Nat → Addr} {f : Addr} {fd : FuncData} (T : Txt K mg ca)  (F : Fun K "_law_first" "_law_first" s_law_first f fd) (hm : mg "_law_first" = some (.ref f)) : Fnn P w K mg base 1 "_law_first" ["_law_many", "_law_choice"] f_law_first := by
  refine fnn (k := 0) F hm sc_law_first (fun _ _ _ _ _ _ us hl => match us, hl with | [_, _], _ => rfl) (fun cdv A outer s H E hr => ?_)
  exact (mss_cons (ms_set 2 sc_law_first.nd (me_callTV 0 cStr (by rfl) T.b_str (by decide +kernel)))
    (mss_cons (ms_set 3 sc_law_first.nd (me_new (mf_lst (ma_cons me_str (ma_cons me_str (ma_cons me_str (ma_cons (me_op oAdd me_str (me_var 2)) (ma_cons (me_op oAdd me_str (me_var 2)) (ma_cons (me_op oAdd me_str (me_var 2)) (ma_cons (me_op oAdd (me_op oAdd me_str (me_var 2)) me_str) ma_nil))))))))))
    (mss_cons (ms_set 3 sc_law_first.nd (me_op oAdd (me_var 3) (me_new (mf_lst (ma_cons (me_op oAdd me_str (me_var 2)) (ma_cons me_str (ma_cons (me_op oAdd me_str (me_var 2)) (ma_cons (me_op oAdd me_str (me_var 2)) (ma_cons (me_op oAdd me_str (me_var 2)) (ma_cons me_str ma_nil))))))))))
    (mss_cons (ms_set 3 sc_law_first.nd (me_op oAdd (me_var 3) (me_new (mf_lst (ma_cons (me_op oAdd me_str (me_var 2)) (ma_cons me_str (ma_cons (me_op oAdd me_str (me_var 2)) (ma_cons (me_op oAdd (me_op oAdd me_str (me_var 2)) me_str) (ma_cons me_str ma_nil)))))))))
    (mss_one (ms_ret (me_ixV 3 oIx (me_op oMod (me_callTV 1 cInt3 (by rfl) T.b_int (by decide +kernel)) (me_callBV 3 cLen (by rfl) T.b_len PySem.boot_len)))))))))
abbrev s_law_subject : Stmt := top 35
theorem sc_law_subject : FnScope ["_law_choice", "_law_rows_here"] ["_law_choice"] (defScope s_law_subject) := ⟨rfl, rfl, rfl, by decide +kernel, rfl, by decide +kernel, by decide +kernel⟩
theorem ok_law_subject {ca : Nat → Addr} {f : Addr} {fd : FuncData} (T : Txt K mg ca)  (F : Fun K "_law_subject" "_law_subject" s_law_subject f fd) (hm : mg "_law_subject" = some (.ref f)) : Fnn P w K mg base 1 "_law_subject" ["_law_choice"] f_law_subject := by
  refine fnn (k := 0) F hm sc_law_subject (fun _ _ _ _ _ _ us hl => match us, hl with | [_], _ => rfl) (fun cdv A outer s H E hr => ?_)
  exact (mss_cons (ms_set 1 sc_law_subject.nd (me_new (mf_lst (ma_cons me_str (ma_cons me_str (ma_cons me_str (ma_cons me_str (ma_cons me_str (ma_cons me_str (ma_cons me_str (ma_cons me_str (ma_cons me_str (ma_cons me_str ma_nil)))))))))))))
    (mss_cons (ms_set 1 sc_law_subject.nd (me_op oAdd (me_var 1) (me_new (mf_lst (ma_cons me_str (ma_cons me_str (ma_cons me_str (ma_cons me_str (ma_cons me_str (ma_cons me_str (ma_cons me_str (ma_cons me_str ma_nil))))))))))))
    (mss_one (ms_ret (me_ixV 1 oIx (me_op oMod (me_callTV 0 cInt3 (by rfl) T.b_int (by decide +kernel)) (me_callBV 1 cLen (by rfl) T.b_len PySem.boot_len)))))))
abbrev s_law_verdict : Stmt := top 36
theorem sc_law_verdict : FnScope ["_law_choice", "_law_rows_here"] ["_law_choice"] (defScope s_law_verdict) := ⟨rfl, rfl, rfl, by decide +kernel, rfl, by decide +kernel, by decide +kernel⟩
theorem ok_law_verdict {ca : Nat → Addr} {f : Addr} {fd : FuncData} (T : Txt K mg ca)  (F : Fun K "_law_verdict" "_law_verdict" s_law_verdict f fd) (hm : mg "_law_verdict" = some (.ref f)) : Fnn P w K mg base 1 "_law_verdict" ["_law_choice"] f_law_verdict := by
  refine fnn (k := 0) F hm sc_law_verdict (fun _ _ _ _ _ _ us hl => match us, hl with | [_], _ => rfl) (fun cdv A outer s H E hr => ?_)
  exact (mss_cons (ms_set 1 sc_law_verdict.nd (me_new (mf_lst (ma_cons me_str (ma_cons me_str (ma_cons me_str (ma_cons me_str (ma_cons me_str (ma_cons me_str (ma_cons me_str (ma_cons me_str (ma_cons me_str (ma_cons me_str (ma_cons me_str ma_nil))))))))))))))
    (mss_cons (ms_set 1 sc_law_verdict.nd (me_op oAdd (me_var 1) (me_new (mf_lst (ma_cons me_str (ma_cons me_str (ma_cons me_str (ma_cons me_str (ma_cons me_str (ma_cons me_str (ma_cons me_str ma_nil)))))))))))
    (mss_cons (ms_set 1 sc_law_verdict.nd (me_op oAdd (me_var 1) (me_new (mf_lst (ma_cons me_str (ma_cons me_str (ma_cons me_str (ma_cons me_str (ma_cons me_str (ma_cons me_str (ma_cons me_str (ma_cons me_str ma_nil))))))))))))
    (mss_one (ms_ret (me_ixV 1 oIx (me_op oMod (me_callTV 0 cInt3 (by rfl) T.b_int (by decide +kernel)) (me_callBV 1 cLen (by rfl) T.b_len PySem.boot_len))))))))
abbrev s_law_odd : Stmt := top 37
theorem sc_law_odd : FnScope ["_law_choice", "_law_rows_here"] ["_law_choice"] (defScope s_law_odd) := ⟨rfl, rfl, rfl, by decide +kernel, rfl, by decide +kernel, by decide +kernel⟩
theorem ok_law_odd {ca : Nat → Addr} {f : Addr} {fd : FuncData} (T : Txt K mg ca)  (F : Fun K "_law_odd" "_law_odd" s_law_odd f fd) (hm : mg "_law_odd" = some (.ref f)) : Fnn P w K mg base 1 "_law_odd" ["_law_choice"] f_law_odd := by
  refine fnn (k := 0) F hm sc_law_odd (fun _ _ _ _ _ _ us hl => match us, hl with | [_], _ => rfl) (fun cdv A outer s H E hr => ?_)
  exact (mss_cons (ms_set 1 sc_law_odd.nd (me_new (mf_lst (ma_cons me_str (ma_cons me_str (ma_cons me_str (ma_cons me_str (ma_cons me_str (ma_cons me_str (ma_cons me_str (ma_cons me_str (ma_cons me_str (ma_cons me_str (ma_cons me_str (ma_cons me_str ma_nil)))))))))))))))
    (mss_cons (ms_set 1 sc_law_odd.nd (me_op oAdd (me_var 1) (me_new (mf_lst (ma_cons me_str (ma_cons me_str (ma_cons me_str (ma_cons me_str (ma_cons me_str (ma_cons me_str (ma_cons me_str (ma_cons me_str (ma_cons me_str (ma_cons me_str ma_nil))))))))))))))
    (mss_cons (ms_set 1 sc_law_odd.nd (me_op oAdd (me_var 1) (me_new (mf_lst (ma_cons me_str (ma_cons me_str (ma_cons me_str (ma_cons me_str (ma_cons me_str (ma_cons me_str (ma_cons me_str ma_nil)))))))))))
    (mss_cons (ms_set 1 sc_law_odd.nd (me_op oAdd (me_var 1) (me_new (mf_lst (ma_cons me_str (ma_cons me_str (ma_cons me_str (ma_cons me_str (ma_cons me_str (ma_cons me_str (ma_cons me_str (ma_cons me_str ma_nil))))))))))))
    (mss_cons (ms_set 1 sc_law_odd.nd (me_op oAdd (me_var 1) (me_new (mf_lst (ma_cons me_str (ma_cons me_str (ma_cons me_str (ma_cons me_str (ma_cons me_str (ma_cons me_str (ma_cons me_str ma_nil)))))))))))
    (mss_cons (ms_set 1 sc_law_odd.nd (me_op oAdd (me_var 1) (me_new (mf_lst (ma_cons me_str (ma_cons me_str ma_nil))))))
    (mss_one (ms_ret (me_ixV 1 oIx (me_op oMod (me_callTV 0 cInt3 (by rfl) T.b_int (by decide +kernel)) (me_callBV 1 cLen (by rfl) T.b_len PySem.boot_len)))))))))))
abbrev s_law_spoilt : Stmt := top 38
theorem sc_law_spoilt : FnScope ["_law_lines_here", "_law_subject_here", "_law_verdict_here", "_law_draws_here", "_law_rows_here", "_law_kind", "_law_many", "_law_at"] ["_law_lines_here", "_law_subject_here", "_law_verdict_here", "_law_draws_here"] (defScope s_law_spoilt) := ⟨rfl, rfl, rfl, by decide +kernel, rfl, by decide +kernel, by decide +kernel⟩
theorem ok_law_spoilt {ca : Nat → Addr} {f : Addr} {fd : FuncData} (T : Txt K mg ca) (G_law_first : Fnn P w K mg base 1 "_law_first" ["_law_many", "_law_choice"] f_law_first) (G_law_subject : Fnn P w K mg base 1 "_law_subject" ["_law_choice"] f_law_subject) (G_law_verdict : Fnn P w K mg base 1 "_law_verdict" ["_law_choice"] f_law_verdict) (G_law_odd : Fnn P w K mg base 1 "_law_odd" ["_law_choice"] f_law_odd) (F : Fun K "_law_spoilt" "_law_spoilt" s_law_spoilt f fd) (hm : mg "_law_spoilt" = some (.ref f)) : Fnn P w K mg base 2 "_law_spoilt" ["_law_lines_here", "_law_subject_here", "_law_verdict_here", "_law_draws_here"] f_law_spoilt := by
  refine fnn (k := 1) F hm sc_law_spoilt (fun _ _ _ _ _ _ us hl => match us, hl with | [_, _, _, _], _ => rfl) (fun cdv A outer s H E hr => ?_)
  exact (mss_cons (ms_cell 4 sc_law_spoilt.nd (mf_callTV 0 cList (by rfl) T.b_list (by decide +kernel)))
    (mss_cons (ms_set 5 sc_law_spoilt.nd (me_ixV 3 oIx me_int))
    (mss_cons (ms_if (mt_cmp (oEq2 hr.units) (me_var 5) me_int) (mss_cons (ms_asg (me_f G_law_first (hr.mono (by decide)) (ma_cons (me_op oSub (me_var 1) me_int) (ma_cons (me_ixV 3 oIx me_int) ma_nil))) (mg_sub 4 me_int))
    (mss_one (ms_ret (me_tup (ma_cons (me_var 4) (ma_cons me_int ma_nil)))))) mss_nil)
    (mss_cons (ms_if (mt_cmp (oEq2 hr.units) (me_var 5) me_int) (mss_cons (ms_asg (me_op oAdd me_str (me_callT cStr (by rfl) T.b_str (by decide +kernel) (me_ix oIx (me_new (mf_lst (ma_cons (me_op oSub (me_callBV 0 cLen (by rfl) T.b_len PySem.boot_len) me_int) (ma_cons (me_callBV 0 cLen (by rfl) T.b_len PySem.boot_len) (ma_cons me_int ma_nil))))) (me_op oMod (me_callT cInt3 (by rfl) T.b_int (by decide +kernel) (me_ixV 3 oIx me_int)) me_int)))) (mg_sub 4 me_int))
    (mss_one (ms_ret (me_tup (ma_cons (me_var 4) (ma_cons (me_op oAdd (me_callBV 0 cLen (by rfl) T.b_len PySem.boot_len) me_int) ma_nil)))))) mss_nil)
    (mss_cons (ms_if (mt_cmp (oEq2 hr.units) (me_var 5) me_int) (mss_cons (ms_asg (me_f G_law_subject (hr.mono (by decide)) (ma_cons (me_ixV 3 oIx me_int) ma_nil)) (mg_sub 4 (me_var 1)))
    (mss_one (ms_ret (me_tup (ma_cons (me_var 4) (ma_cons (me_op oAdd (me_var 1) me_int) ma_nil)))))) mss_nil)
    (mss_cons (ms_if (mt_cmp (oEq2 hr.units) (me_var 5) me_int) (mss_cons (ms_asg (me_f G_law_verdict (hr.mono (by decide)) (ma_cons (me_ixV 3 oIx me_int) ma_nil)) (mg_sub 4 (me_var 2)))
    (mss_one (ms_ret (me_tup (ma_cons (me_var 4) (ma_cons (me_op oAdd (me_var 2) me_int) ma_nil)))))) mss_nil)
    (mss_cons (ms_if (mt_cmp (oEq2 hr.units) (me_var 5) me_int) (mss_cons (ms_set 6 sc_law_spoilt.nd (me_op oMod (me_callT cInt3 (by rfl) T.b_int (by decide +kernel) (me_ixV 3 oIx me_int)) (me_op oAdd (me_var 2) me_int)))
    (mss_one (ms_ret (me_tup (ma_cons (me_new (mf_slV 4 mo_none (mo_some (me_var 6)))) (ma_cons (me_callBs (cMax2 rfl) (by rfl) T.b_max (by decide +kernel) (ma_cons me_int (ma_cons (me_op oAdd (me_var 6) (me_callT cInt3 (by rfl) T.b_int (by decide +kernel) (me_cmp oGt (me_var 6) me_int))) ma_nil))) ma_nil)))))) mss_nil)
    (mss_cons (ms_if (mt_cmp (oEq2 hr.units) (me_var 5) me_int) (mss_one (ms_ret (me_tup (ma_cons (me_opLv 4 oAdd (me_new (mf_lst (ma_cons me_str ma_nil)))) (ma_cons (me_op oAdd (me_callBV 0 cLen (by rfl) T.b_len PySem.boot_len) me_int) ma_nil))))) mss_nil)
    (mss_cons (ms_if (mt_w (mw_and (mt_cmp (oEq2 hr.units) (me_var 5) me_int) (mw_and1 (mt_cmp (oEq2 hr.units) (me_sl3 (me_ixV 0 oIx (me_var 1)) mo_none (mo_some me_int)) me_str)))) (mss_cons (ms_asg (me_op oAdd me_str (me_callT cStr (by rfl) T.b_str (by decide +kernel) (me_ix oIx (me_new (mf_lst (ma_cons (me_op oSub (me_op oSub (me_callBV 0 cLen (by rfl) T.b_len PySem.boot_len) me_int) (me_var 1)) (ma_cons (me_callBV 0 cLen (by rfl) T.b_len PySem.boot_len) (ma_cons me_int ma_nil))))) (me_op oMod (me_callT cInt3 (by rfl) T.b_int (by decide +kernel) (me_ixV 3 oIx me_int)) me_int)))) (mg_sub 4 (me_var 1)))
    (mss_one (ms_ret (me_tup (ma_cons (me_var 4) (ma_cons (me_op oAdd (me_callBV 0 cLen (by rfl) T.b_len PySem.boot_len) me_int) ma_nil)))))) mss_nil)
    (mss_cons (ms_set 7 sc_law_spoilt.nd (me_op oAdd (me_op oAdd (me_var 2) me_int) (me_op oMod (me_callT cInt3 (by rfl) T.b_int (by decide +kernel) (me_ixV 3 oIx me_int)) (me_op oSub (me_op oSub (me_callBV 0 cLen (by rfl) T.b_len PySem.boot_len) (me_var 2)) me_int))))
    (mss_cons (ms_asg (me_f G_law_odd (hr.mono (by decide)) (ma_cons (me_ixV 3 oIx me_int) ma_nil)) (mg_sub 4 (me_var 7)))
    (mss_one (ms_ret (me_tup (ma_cons (me_var 4) (ma_cons (me_op oAdd (me_var 7) me_int) ma_nil))))))))))))))))
abbrev s_law_refused : Stmt := top 39
theorem sc_law_refused : FnScope ["_law_text", "e"] ["_law_text"] (defScope s_law_refused) := ⟨rfl, rfl, rfl, by decide +kernel, rfl, by decide +kernel, by decide +kernel⟩
theorem okx_law_refused {ca : Nat → Addr} {f : Addr} {fd : FuncData} (T : Txt K mg ca) (G_read_paper : Fnx P w K mg base ca 4 "read_paper" ["text"] (f_read_paper ca))  (F : Fun K "_law_refused" "_law_refused" s_law_refused f fd) (hm : mg "_law_refused" = some (.ref f)) : Fnx P w K mg base ca 5 "_law_refused" ["_law_text"] (fnX 2 (b_law_refused ca)) := by
  refine fnnx (k := 4) F hm sc_law_refused (fun _ _ _ _ _ _ us hl => match us, hl with | [_], _ => rfl) (fun cdv A outer s H E hr => ?_)
  exact (mssx_cons (msx_tryAs (i := 1) rfl rfl sc_law_refused.nd rfl rfl ⟨rfl, by decide, .inl T.m4⟩ (tab_cons (P := fun j b => PySem.W.exmOne K (.ref (ca j)) (.ref (ca 4)) = some b) T.xm4_4 tab_nil) (fun _ _ => (mssx_one (msx_expr (mex_f G_read_paper (hr.mono (by decide)) (ma_cons (me_var 0) ma_nil))))) (hss_cons (hs_if (ht_v (hv_isT (m := tb [(4, false)]) (vs := [.ref (ca 2), .ref (ca 3), .ref (ca 5), .ref (ca 6), .ref (ca 7), .ref (ca 8), .ref (ca 9), .ref (ca 10)]) (us := [.ref (ca 2), .ref (ca 3), .ref (ca 5), .ref (ca 6), .ref (ca 7), .ref (ca 8), .ref (ca 9), .ref (ca 10)]) (tab_cons (P := fun j b => ExcC K (ca j) ∧ PySem.W.kitAny K (.ref (ca j)) [.ref (ca 2), .ref (ca 3), .ref (ca 5), .ref (ca 6), .ref (ca 7), .ref (ca 8), .ref (ca 9), .ref (ca 10)] = some b) ⟨T.xh4, (kitAny_cons T.ki4_2 (fun _ => (kitAny_cons T.ki4_3 (fun _ => (kitAny_cons T.ki4_5 (fun _ => (kitAny_cons T.ki4_6 (fun _ => (kitAny_cons T.ki4_7 (fun _ => (kitAny_cons T.ki4_8 (fun _ => (kitAny_cons T.ki4_9 (fun _ => (kitAny_cons T.ki4_10 (fun _ => kitAny_nil) (fun h => by cases h))) (fun h => by cases h))) (fun h => by cases h))) (fun h => by cases h))) (fun h => by cases h))) (fun h => by cases h))) (fun h => by cases h))) (fun h => by cases h))⟩ tab_nil) (.cons (.own _) (.cons (.own _) (.cons (.own _) (.cons (.own _) (.cons (.own _) (.cons (.own _) (.cons (.own _) (.cons (.own _) .nil)))))))) (Nat.le_of_ble_eq_true rfl) (fun _ _ => (pa_cons (pe_glob (v := .ref (ca 2)) rfl T.m2 rfl) (pa_cons (pe_glob (v := .ref (ca 3)) rfl T.m3 rfl) (pa_cons (pe_glob (v := .ref (ca 5)) rfl T.m5 rfl) (pa_cons (pe_glob (v := .ref (ca 6)) rfl T.m6 rfl) (pa_cons (pe_glob (v := .ref (ca 7)) rfl T.m7 rfl) (pa_cons (pe_glob (v := .ref (ca 8)) rfl T.m8 rfl) (pa_cons (pe_glob (v := .ref (ca 9)) rfl T.m9 rfl) (pa_cons (pe_glob (v := .ref (ca 10)) rfl T.m10 rfl) pa_nil))))))))) (fun _ _ _ q => q) T.b_isinstance)) (hss_one (hs_ret hv_non)) hss_nil) (hss_cons (hs_if (ht_w (hw_or (ht_not (ht_v (hv_is (m := tb [(4, true)]) (v := .ref (ca 1)) (u := .ref (ca 1)) (tab_cons (P := fun j b => ExcC K (ca j) ∧ PySem.W.kitOne K (.ref (ca j)) (.ref (ca 1)) = some b) ⟨T.xh4, T.ki4_1⟩ tab_nil) (.own _) (fun _ _ => pe_glob rfl T.m1 rfl) T.b_isinstance))) (hw_or (ht_not (ht_v (hv_is (m := tb [(4, true)]) (v := .ref (ca 0)) (u := .ref (ca 0)) (tab_cons (P := fun j b => ExcC K (ca j) ∧ PySem.W.kitOne K (.ref (ca j)) (.ref (ca 0)) = some b) ⟨T.xh4, T.ki4_0⟩ tab_nil) (.own _) (fun _ _ => pe_glob rfl T.m0 rfl) T.b_isinstance))) (hw_or1 (ht_not (ht_v (hv_is (m := tb [(4, true)]) (v := .ty "ValueError") (u := .type "ValueError") (tab_cons (P := fun j b => ExcC K (ca j) ∧ PySem.W.kitOne K (.ref (ca j)) (.type "ValueError") = some b) ⟨T.xh4, T.kb4_ValueError⟩ tab_nil) (.ty _) (fun _ _ => pe_bltn rfl T.b_ValueError (by decide +kernel) rfl) T.b_isinstance))))))) (hss_one (hs_ret hv_non)) hss_nil) (hss_one (hs_ret (hv_row T.xf4 T.xn4))))))
    (mssx_one (msx_lift (ms_ret me_non))))
theorem ok_law_refused {ca : Nat → Addr} {f : Addr} {fd : FuncData} (T : Txt K mg ca) (G_read_paper : Fnx P w K mg base ca 4 "read_paper" ["text"] (f_read_paper ca))  (F : Fun K "_law_refused" "_law_refused" s_law_refused f fd) (hm : mg "_law_refused" = some (.ref f)) : Fnn P w K mg base 5 "_law_refused" ["_law_text"] (f_law_refused ca) := fnn_noX (okx_law_refused T G_read_paper  F hm)
abbrev s_law : Stmt := top 40
theorem sc_law : FnScope ["_law_script", "_law_parts_here", "_law_lines_here", "_law_subject_here", "_law_verdict_here", "_law_draws_here", "_law_paper", "_law_rows_here", "_law_row_here", "_law_later", "_law_found", "_law_k"] ["_law_script"] (defScope s_law) := ⟨rfl, rfl, rfl, by decide +kernel, rfl, by decide +kernel, by decide +kernel⟩
theorem ok_law {ca : Nat → Addr} {f : Addr} {fd : FuncData} (T : Txt K mg ca) (G_read_paper : Fnx P w K mg base ca 4 "read_paper" ["text"] (f_read_paper ca)) (G_law_draws : Fnn P w K mg base 2 "_law_draws" ["_law_script", "_law_place", "_law_sizes"] f_law_draws) (G_law_parts : Fnn P w K mg base 4 "_law_parts" ["_law_script"] f_law_parts) (G_law_lines : Fnn P w K mg base 2 "_law_lines" ["_law_parts_here"] f_law_lines) (G_law_odd : Fnn P w K mg base 1 "_law_odd" ["_law_choice"] f_law_odd) (G_law_spoilt : Fnn P w K mg base 2 "_law_spoilt" ["_law_lines_here", "_law_subject_here", "_law_verdict_here", "_law_draws_here"] f_law_spoilt) (G_law_refused : Fnn P w K mg base 5 "_law_refused" ["_law_text"] (f_law_refused ca)) (F : Fun K "law" "law" s_law f fd) (hm : mg "law" = some (.ref f)) : Fng P w K mg base 6 "law" ["_law_script"] (f_law ca) := by
  refine fng (k := 5) F hm sc_law (fun _ _ _ _ _ _ us hl => match us, hl with | [_], _ => rfl) (fun cdv A outer s H E hr hg => ?_)
  exact (mss_cons (ms_set 1 sc_law.nd (me_f G_law_parts (hr.mono (by decide)) (ma_cons (me_var 0) ma_nil)))
    (mss_cons (ms_set 2 sc_law.nd (me_f G_law_lines (hr.mono (by decide)) (ma_cons (me_var 1) ma_nil)))
    (mss_cons (ms_set 3 sc_law.nd (me_op oAdd me_int (me_callB cLen (by rfl) T.b_len PySem.boot_len (me_new (mf_split (me_ixV 1 oIx me_int) me_str)))))
    (mss_cons (ms_set 4 sc_law.nd (me_op oAdd (me_var 3) me_int))
    (mss_cons (ms_if (mt_cmp (oEq2 hr.units) (me_ix oIx (me_ixV 1 oIx me_int) me_int) me_str) (mss_one (ms_set 4 sc_law.nd (me_op oAdd (me_var 4) (me_callB cLen (by rfl) T.b_len PySem.boot_len (me_new (mf_split (me_ix oIx (me_ixV 1 oIx me_int) me_int) me_str)))))) mss_nil)
    (mss_cons (ms_set 5 sc_law.nd (me_f G_law_draws (hr.mono (by decide)) (ma_cons (me_var 0) (ma_cons me_int (ma_cons (me_new (mf_lst (ma_cons me_int (ma_cons me_int (ma_cons me_int (ma_cons me_int (ma_cons me_int (ma_cons me_int ma_nil)))))))) ma_nil)))))
    (mss_cons (ms_if (mt_cmp (oEq2 hr.units) (me_ixV 5 oIx me_int) me_int) (mss_cons (ms_set 6 sc_law.nd (me_f (fnn_noX G_read_paper) (hr.mono (by decide)) (ma_cons (me_join me_str (me_var 2)) ma_nil)))
    (mss_one (ms_ret (me_cmp (oEq2 hr.units) (me_callB (cRepr hg hr.units) (by rfl) T.b_repr (by decide +kernel) (me_new (mf_lst (ma_cons (me_fld T.k11 T.n11_text (me_var 6)) (ma_cons (me_fld T.k11 T.n11_subject (me_var 6)) (ma_cons (me_fld T.k11 T.n11_verdict (me_var 6)) (ma_cons (me_fld T.k11 T.n11_tokens (me_var 6)) ma_nil))))))) (me_callB (cRepr hg hr.units) (by rfl) T.b_repr (by decide +kernel) (me_new (mf_callTV 1 cList (by rfl) T.b_list (by decide +kernel)))))))) mss_nil)
    (mss_cons (ms_asg (me_f G_law_spoilt (hr.mono (by decide)) (ma_cons (me_var 2) (ma_cons (me_var 3) (ma_cons (me_var 4) (ma_cons (me_var 5) ma_nil))))) (mg_tup (n := 2) rfl (mgs_cons (mg_name 7 sc_law.nd) (mgs_cons (mg_name 8 sc_law.nd) mgs_nil))))
    (mss_cons (ms_if (mt_w (mw_and (mt_cmp (oNe2 hr.units) (me_ixV 5 oIx me_int) me_int) (mw_and (mt_cmp (oNe2 hr.units) (me_ixV 5 oIx me_int) me_int) (mw_and1 (mt_cmp (oEq2 hr.units) (me_callBV 7 cLen (by rfl) T.b_len PySem.boot_len) (me_callBV 2 cLen (by rfl) T.b_len PySem.boot_len)))))) (mss_cons (ms_setLc 9 rfl sc_law.nd (mi_seq (me_op oAdd (me_new (mf_lst (ma_cons (me_var 3) (ma_cons (me_var 4) ma_nil)))) (me_new (mf_lr2 rfl T.b_list T.b_range (me_op oAdd (me_var 4) me_int) (me_callBV 2 cLen (by rfl) T.b_len PySem.boot_len))))) (blkOk_by (own := [("_law_k", 11)]) (N := ["_law_script", "_law_parts_here", "_law_lines_here", "_law_subject_here", "_law_verdict_here", "_law_draws_here", "_law_paper", "_law_rows_here", "_law_row_here", "_law_later", "_law_found", "_law_k"]) (sc := defScope s_law) (by decide +kernel)) (fun _ _ _ _ _ => (mgk_name 11 sc_law.nd)) (fun _ _ _ _ _ => (mts_one (mt_cmp oGe (me_var 11) (me_var 8)))) (fun _ _ _ _ _ => (me_var 11)) (sw_true rfl rfl rfl (by decide +kernel)))
    (mss_cons (ms_if (mt_w (mw_and (mt_cmp (oEq2 hr.units) (me_ixV 5 oIx me_int) me_int) (mw_and1 (mt_cmp oGt (me_callBV 9 cLen (by rfl) T.b_len PySem.boot_len) me_int)))) (mss_one (ms_asg (me_f G_law_odd (hr.mono (by decide)) (ma_cons (me_ixV 5 oIx me_int) ma_nil)) (mg_sub 7 (me_ixV 9 oIx (me_op oMod (me_callT cInt3 (by rfl) T.b_int (by decide +kernel) (me_ixV 5 oIx me_int)) (me_callBV 9 cLen (by rfl) T.b_len PySem.boot_len)))))) mss_nil)
    (mss_one (ms_if (mt_cmp (oEq2 hr.units) (me_ixV 5 oIx me_int) me_int) (mss_one (ms_own 7 sc_law.nd (mf_sl (me_var 7) mo_none (mo_some (me_var 8))))) mss_nil)))) mss_nil)
    (mss_cons (ms_set 10 sc_law.nd (me_f G_law_refused (hr.mono (by decide)) (ma_cons (me_join me_str (me_var 7)) ma_nil)))
    (mss_one (ms_ret (me_and (me_isiC (T := "int") (by rfl) T.b_isinstance (by rfl) T.b_int (by decide +kernel) (me_var 10)) (me_and (me_not (me_isiC (T := "bool") (by rfl) T.b_isinstance (by rfl) T.b_bool (by decide +kernel) (me_var 10))) (me_one (me_cmp (oEq2 hr.units) (me_var 10) (me_var 8)))))))))))))))))
theorem sc_init1 : FnScope ["self", "row"] ["self", "row"] (defScope (inClass (top 3) 0)) := ⟨rfl, rfl, rfl, by decide +kernel, rfl, by decide +kernel, by decide +kernel⟩
end
theorem fn_law {ca : Nat → Addr} {P : Program} {w : World} {K : PySem.W.Frag} {mg : Str → Option Value} {base : Heap} {f : Addr} {fd : FuncData} (T : Txt K mg ca) (G_read_paper : Fnx P w K mg base ca 4 "read_paper" ["text"] (f_read_paper ca)) (G_law_draws : Fnn P w K mg base 2 "_law_draws" ["_law_script", "_law_place", "_law_sizes"] f_law_draws) (G_law_parts : Fnn P w K mg base 4 "_law_parts" ["_law_script"] f_law_parts) (G_law_lines : Fnn P w K mg base 2 "_law_lines" ["_law_parts_here"] f_law_lines) (G_law_odd : Fnn P w K mg base 1 "_law_odd" ["_law_choice"] f_law_odd) (G_law_spoilt : Fnn P w K mg base 2 "_law_spoilt" ["_law_lines_here", "_law_subject_here", "_law_verdict_here", "_law_draws_here"] f_law_spoilt) (G_law_refused : Fnn P w K mg base 5 "_law_refused" ["_law_text"] (f_law_refused ca)) (F : Fun K "law" "law" s_law f fd) : FnG P w K mg base 6 f fd ["_law_script"] (spM K 1 (f_law ca)) := by
  refine fng_ok (k := 5) F sc_law (fun cdv A outer s H E hr hg => ?_)
  exact (mss_cons (ms_set 1 sc_law.nd (me_f G_law_parts (hr.mono (by decide)) (ma_cons (me_var 0) ma_nil)))
    (mss_cons (ms_set 2 sc_law.nd (me_f G_law_lines (hr.mono (by decide)) (ma_cons (me_var 1) ma_nil)))
    (mss_cons (ms_set 3 sc_law.nd (me_op oAdd me_int (me_callB cLen (by rfl) T.b_len PySem.boot_len (me_new (mf_split (me_ixV 1 oIx me_int) me_str)))))
    (mss_cons (ms_set 4 sc_law.nd (me_op oAdd (me_var 3) me_int))
    (mss_cons (ms_if (mt_cmp (oEq2 hr.units) (me_ix oIx (me_ixV 1 oIx me_int) me_int) me_str) (mss_one (ms_set 4 sc_law.nd (me_op oAdd (me_var 4) (me_callB cLen (by rfl) T.b_len PySem.boot_len (me_new (mf_split (me_ix oIx (me_ixV 1 oIx me_int) me_int) me_str)))))) mss_nil)
    (mss_cons (ms_set 5 sc_law.nd (me_f G_law_draws (hr.mono (by decide)) (ma_cons (me_var 0) (ma_cons me_int (ma_cons (me_new (mf_lst (ma_cons me_int (ma_cons me_int (ma_cons me_int (ma_cons me_int (ma_cons me_int (ma_cons me_int ma_nil)))))))) ma_nil)))))
    (mss_cons (ms_if (mt_cmp (oEq2 hr.units) (me_ixV 5 oIx me_int) me_int) (mss_cons (ms_set 6 sc_law.nd (me_f (fnn_noX G_read_paper) (hr.mono (by decide)) (ma_cons (me_join me_str (me_var 2)) ma_nil)))
    (mss_one (ms_ret (me_cmp (oEq2 hr.units) (me_callB (cRepr hg hr.units) (by rfl) T.b_repr (by decide +kernel) (me_new (mf_lst (ma_cons (me_fld T.k11 T.n11_text (me_var 6)) (ma_cons (me_fld T.k11 T.n11_subject (me_var 6)) (ma_cons (me_fld T.k11 T.n11_verdict (me_var 6)) (ma_cons (me_fld T.k11 T.n11_tokens (me_var 6)) ma_nil))))))) (me_callB (cRepr hg hr.units) (by rfl) T.b_repr (by decide +kernel) (me_new (mf_callTV 1 cList (by rfl) T.b_list (by decide +kernel)))))))) mss_nil)
    (mss_cons (ms_asg (me_f G_law_spoilt (hr.mono (by decide)) (ma_cons (me_var 2) (ma_cons (me_var 3) (ma_cons (me_var 4) (ma_cons (me_var 5) ma_nil))))) (mg_tup (n := 2) rfl (mgs_cons (mg_name 7 sc_law.nd) (mgs_cons (mg_name 8 sc_law.nd) mgs_nil))))
    (mss_cons (ms_if (mt_w (mw_and (mt_cmp (oNe2 hr.units) (me_ixV 5 oIx me_int) me_int) (mw_and (mt_cmp (oNe2 hr.units) (me_ixV 5 oIx me_int) me_int) (mw_and1 (mt_cmp (oEq2 hr.units) (me_callBV 7 cLen (by rfl) T.b_len PySem.boot_len) (me_callBV 2 cLen (by rfl) T.b_len PySem.boot_len)))))) (mss_cons (ms_setLc 9 rfl sc_law.nd (mi_seq (me_op oAdd (me_new (mf_lst (ma_cons (me_var 3) (ma_cons (me_var 4) ma_nil)))) (me_new (mf_lr2 rfl T.b_list T.b_range (me_op oAdd (me_var 4) me_int) (me_callBV 2 cLen (by rfl) T.b_len PySem.boot_len))))) (blkOk_by (own := [("_law_k", 11)]) (N := ["_law_script", "_law_parts_here", "_law_lines_here", "_law_subject_here", "_law_verdict_here", "_law_draws_here", "_law_paper", "_law_rows_here", "_law_row_here", "_law_later", "_law_found", "_law_k"]) (sc := defScope s_law) (by decide +kernel)) (fun _ _ _ _ _ => (mgk_name 11 sc_law.nd)) (fun _ _ _ _ _ => (mts_one (mt_cmp oGe (me_var 11) (me_var 8)))) (fun _ _ _ _ _ => (me_var 11)) (sw_true rfl rfl rfl (by decide +kernel)))
    (mss_cons (ms_if (mt_w (mw_and (mt_cmp (oEq2 hr.units) (me_ixV 5 oIx me_int) me_int) (mw_and1 (mt_cmp oGt (me_callBV 9 cLen (by rfl) T.b_len PySem.boot_len) me_int)))) (mss_one (ms_asg (me_f G_law_odd (hr.mono (by decide)) (ma_cons (me_ixV 5 oIx me_int) ma_nil)) (mg_sub 7 (me_ixV 9 oIx (me_op oMod (me_callT cInt3 (by rfl) T.b_int (by decide +kernel) (me_ixV 5 oIx me_int)) (me_callBV 9 cLen (by rfl) T.b_len PySem.boot_len)))))) mss_nil)
    (mss_one (ms_if (mt_cmp (oEq2 hr.units) (me_ixV 5 oIx me_int) me_int) (mss_one (ms_own 7 sc_law.nd (mf_sl (me_var 7) mo_none (mo_some (me_var 8))))) mss_nil)))) mss_nil)
    (mss_cons (ms_set 10 sc_law.nd (me_f G_law_refused (hr.mono (by decide)) (ma_cons (me_join me_str (me_var 7)) ma_nil)))
    (mss_one (ms_ret (me_and (me_isiC (T := "int") (by rfl) T.b_isinstance (by rfl) T.b_int (by decide +kernel) (me_var 10)) (me_and (me_not (me_isiC (T := "bool") (by rfl) T.b_isinstance (by rfl) T.b_bool (by decide +kernel) (me_var 10))) (me_one (me_cmp (oEq2 hr.units) (me_var 10) (me_var 8)))))))))))))))))
theorem all_mk {l : PySem.W.OpenLaw} {w : World} {K : PySem.W.Frag} {h : Heap} {mg : Str → Option Value} {fa C0 C1 C2 C3 C4 C5 C6 C7 C8 C9 C10 C11 : Addr} (X : K.In h) (G : h.Ns mainGlobals mg) (hfa : mg "law" = some (.ref fa))
    {od1 an1 od2 an2 od3 an3 od4 an4 od5 an5 od6 an6 od7 an7 od8 an8 od9 an9 od10 an10 od11 an11 od12 an12 od13 an13 od14 an14 od15 an15 od16 an16 od17 an17 od18 an18 od19 an19 od20 an20 od21 an21 od22 an22 od23 an23 od24 an24 od25 an25 : Option Addr} {sl1 sl2 sl3 sl4 sl5 sl6 sl7 sl8 sl9 sl10 sl11 sl12 sl13 sl14 sl15 sl16 sl17 sl18 sl19 sl20 sl21 sl22 sl23 sl24 sl25 : Array (Option Value)} {oc1 kV1 dc1 pm1 cd1 ct1 oc2 kV2 dc2 pm2 cd2 ct2 oc3 kV3 dc3 pm3 cd3 ct3 oc4 kV4 dc4 pm4 cd4 ct4 oc5 kV5 dc5 pm5 cd5 ct5 oc6 kV6 dc6 pm6 cd6 ct6 oc7 kV7 dc7 pm7 cd7 ct7 oc8 kV8 dc8 pm8 cd8 ct8 oc9 kV9 dc9 pm9 cd9 ct9 oc10 kV10 dc10 pm10 cd10 ct10 oc11 kV11 dc11 pm11 cd11 ct11 oc12 kV12 dc12 pm12 cd12 ct12 oc13 kV13 dc13 pm13 cd13 ct13 oc14 kV14 dc14 pm14 cd14 ct14 oc15 kV15 dc15 pm15 cd15 ct15 oc16 kV16 dc16 pm16 cd16 ct16 oc17 kV17 dc17 pm17 cd17 ct17 oc18 kV18 dc18 pm18 cd18 ct18 oc19 kV19 dc19 pm19 cd19 ct19 oc20 kV20 dc20 pm20 cd20 ct20 oc21 kV21 dc21 pm21 cd21 ct21 oc22 kV22 dc22 pm22 cd22 ct22 oc23 kV23 dc23 pm23 cd23 ct23 oc24 kV24 dc24 pm24 cd24 ct24 oc25 kV25 dc25 pm25 cd25 ct25 : Value} {f1 f2 f3 f4 f5 f6 f7 f8 f9 f10 f11 f12 f13 f14 f15 f16 f17 f18 f19 f20 f21 f22 f23 f24 f25 : Addr} {tg0 : PySem.Tok} {xnm4 xq4 : Str} {xN4 : Addr} {xbs4 : List Value} {xsn4 : List Str} {xsub4 : List Value} {xab4 : Bool} {xcol4 : Option Bool} {xdd4 : Option Addr} {x04 x14 x24 x34 x54 : Option Value} {xod1 xan1 : Option Addr} {xsl1 : Array (Option Value)} {xoc1 xkV1 xdc1 xpm1 xcd1 xct1 : Value} {fI1 : Addr}
    (aE0 : PySem.W.nsIn K mainGlobals "WayError" = some (some (.ref C0)))
    (aE1 : PySem.W.nsIn K mainGlobals "BadLine" = some (some (.ref C1)))
    (aE2 : PySem.W.nsIn K mainGlobals "BadText" = some (some (.ref C2)))
    (aE3 : PySem.W.nsIn K mainGlobals "BadProgram" = some (some (.ref C3)))
    (aE4 : PySem.W.nsIn K mainGlobals "BadPaper" = some (some (.ref C4)))
    (aE5 : PySem.W.nsIn K mainGlobals "TooLong" = some (some (.ref C5)))
    (aE6 : PySem.W.nsIn K mainGlobals "TooWide" = some (some (.ref C6)))
    (aE7 : PySem.W.nsIn K mainGlobals "BadPlace" = some (some (.ref C7)))
    (aE8 : PySem.W.nsIn K mainGlobals "BadInput" = some (some (.ref C8)))
    (aE9 : PySem.W.nsIn K mainGlobals "BadPair" = some (some (.ref C9)))
    (aE10 : PySem.W.nsIn K mainGlobals "BadEdit" = some (some (.ref C10)))
    (eb0 : PySem.W.subIn K (.ref C0) (.type "BaseException") = some true)
    (et0 : PySem.W.typeIn K (.ref C0) = some (.type "type"))
    (ek0 : PySem.W.keepIn K (.ref C0) = true)
    (ed0 : PySem.W.hasDictIn K C0 = true)
    (eg0 : PySem.W.findIn K (.ref C0) "__getattribute__" = some (some (.builtin "BaseException.__getattribute__")))
    (eh0 : PySem.W.findIn K (.ref C0) "__getattr__" = some none)
    (eb1 : PySem.W.subIn K (.ref C1) (.type "BaseException") = some true)
    (et1 : PySem.W.typeIn K (.ref C1) = some (.type "type"))
    (ek1 : PySem.W.keepIn K (.ref C1) = true)
    (ed1 : PySem.W.hasDictIn K C1 = true)
    (eg1 : PySem.W.findIn K (.ref C1) "__getattribute__" = some (some (.builtin "BaseException.__getattribute__")))
    (eh1 : PySem.W.findIn K (.ref C1) "__getattr__" = some none)
    (eb2 : PySem.W.subIn K (.ref C2) (.type "BaseException") = some true)
    (et2 : PySem.W.typeIn K (.ref C2) = some (.type "type"))
    (ek2 : PySem.W.keepIn K (.ref C2) = true)
    (ed2 : PySem.W.hasDictIn K C2 = true)
    (eg2 : PySem.W.findIn K (.ref C2) "__getattribute__" = some (some (.builtin "BaseException.__getattribute__")))
    (eh2 : PySem.W.findIn K (.ref C2) "__getattr__" = some none)
    (eb3 : PySem.W.subIn K (.ref C3) (.type "BaseException") = some true)
    (et3 : PySem.W.typeIn K (.ref C3) = some (.type "type"))
    (ek3 : PySem.W.keepIn K (.ref C3) = true)
    (ed3 : PySem.W.hasDictIn K C3 = true)
    (eg3 : PySem.W.findIn K (.ref C3) "__getattribute__" = some (some (.builtin "BaseException.__getattribute__")))
    (eh3 : PySem.W.findIn K (.ref C3) "__getattr__" = some none)
    (eb4 : PySem.W.subIn K (.ref C4) (.type "BaseException") = some true)
    (et4 : PySem.W.typeIn K (.ref C4) = some (.type "type"))
    (ek4 : PySem.W.keepIn K (.ref C4) = true)
    (ed4 : PySem.W.hasDictIn K C4 = true)
    (eg4 : PySem.W.findIn K (.ref C4) "__getattribute__" = some (some (.builtin "BaseException.__getattribute__")))
    (eh4 : PySem.W.findIn K (.ref C4) "__getattr__" = some none)
    (eb5 : PySem.W.subIn K (.ref C5) (.type "BaseException") = some true)
    (et5 : PySem.W.typeIn K (.ref C5) = some (.type "type"))
    (ek5 : PySem.W.keepIn K (.ref C5) = true)
    (ed5 : PySem.W.hasDictIn K C5 = true)
    (eg5 : PySem.W.findIn K (.ref C5) "__getattribute__" = some (some (.builtin "BaseException.__getattribute__")))
    (eh5 : PySem.W.findIn K (.ref C5) "__getattr__" = some none)
    (eb6 : PySem.W.subIn K (.ref C6) (.type "BaseException") = some true)
    (et6 : PySem.W.typeIn K (.ref C6) = some (.type "type"))
    (ek6 : PySem.W.keepIn K (.ref C6) = true)
    (ed6 : PySem.W.hasDictIn K C6 = true)
    (eg6 : PySem.W.findIn K (.ref C6) "__getattribute__" = some (some (.builtin "BaseException.__getattribute__")))
    (eh6 : PySem.W.findIn K (.ref C6) "__getattr__" = some none)
    (eb7 : PySem.W.subIn K (.ref C7) (.type "BaseException") = some true)
    (et7 : PySem.W.typeIn K (.ref C7) = some (.type "type"))
    (ek7 : PySem.W.keepIn K (.ref C7) = true)
    (ed7 : PySem.W.hasDictIn K C7 = true)
    (eg7 : PySem.W.findIn K (.ref C7) "__getattribute__" = some (some (.builtin "BaseException.__getattribute__")))
    (eh7 : PySem.W.findIn K (.ref C7) "__getattr__" = some none)
    (eb8 : PySem.W.subIn K (.ref C8) (.type "BaseException") = some true)
    (et8 : PySem.W.typeIn K (.ref C8) = some (.type "type"))
    (ek8 : PySem.W.keepIn K (.ref C8) = true)
    (ed8 : PySem.W.hasDictIn K C8 = true)
    (eg8 : PySem.W.findIn K (.ref C8) "__getattribute__" = some (some (.builtin "BaseException.__getattribute__")))
    (eh8 : PySem.W.findIn K (.ref C8) "__getattr__" = some none)
    (eb9 : PySem.W.subIn K (.ref C9) (.type "BaseException") = some true)
    (et9 : PySem.W.typeIn K (.ref C9) = some (.type "type"))
    (ek9 : PySem.W.keepIn K (.ref C9) = true)
    (ed9 : PySem.W.hasDictIn K C9 = true)
    (eg9 : PySem.W.findIn K (.ref C9) "__getattribute__" = some (some (.builtin "BaseException.__getattribute__")))
    (eh9 : PySem.W.findIn K (.ref C9) "__getattr__" = some none)
    (eb10 : PySem.W.subIn K (.ref C10) (.type "BaseException") = some true)
    (et10 : PySem.W.typeIn K (.ref C10) = some (.type "type"))
    (ek10 : PySem.W.keepIn K (.ref C10) = true)
    (ed10 : PySem.W.hasDictIn K C10 = true)
    (eg10 : PySem.W.findIn K (.ref C10) "__getattribute__" = some (some (.builtin "BaseException.__getattribute__")))
    (eh10 : PySem.W.findIn K (.ref C10) "__getattr__" = some none)
    (ea4 : PySem.W.findIn K (.ref C4) "__class__" = some (some (.builtin "object.__class__")))
    (eo4 : PySem.W.mroIn K C4 (.type "object") = some true)
    (esp : PySem.W.specialIn K (.builtin "object.__class__") "__get__" = some (some (.builtin "getset_descriptor.__get__")))
    (etk : PySem.W.takesIn K (.builtin "object.__class__") = some true)
    (el4 : K.lookup C4 = some (excClassObj xnm4 xq4 C4 xN4 xbs4 [.ref C1, .ref C0, .type "ValueError", .type "Exception", .type "BaseException", .type "object"] true xsn4 xsub4 xab4 xcol4 xdd4 x04 x14 x24 x34 x54 "ValueError.__new__"))
    (es4 : PySem.W.findIn K (.ref C4) "__setattr__" = some (some (.builtin "object.__setattr__")))
    (ei4 : PySem.W.findIn K (.ref C4) "__init__" = some (some (.ref fI1)))
    (en4 : PySem.W.findIn K (.ref C4) "row" = some none)
    (it1 : PySem.W.typeIn K (.ref fI1) = some (.type "function"))
    (il1 : K.lookup fI1 = some ⟨xoc1, xod1, .func (PySem.W.fnOf "__init__" "BadLine.__init__" (defArgs (inClass (top 3) 0)) (defBody (inClass (top 3) 0)) (defScope (inClass (top 3) 0)) .none xkV1 xdc1 xpm1 xan1 xcd1 xct1), xsl1⟩)
    (ic1 : PySem.W.codeIn K xcd1 "BadLine.__init__" = true)
    (ik1 : PySem.W.keepIn K (.ref fI1) = true)
    (hsb4_10 : PySem.W.subIn K (.ref C4) (.ref C10) = some false)
    (hsb4_8 : PySem.W.subIn K (.ref C4) (.ref C8) = some false)
    (hsb4_1 : PySem.W.subIn K (.ref C4) (.ref C1) = some true)
    (hsb4_9 : PySem.W.subIn K (.ref C4) (.ref C9) = some false)
    (hsb4_4 : PySem.W.subIn K (.ref C4) (.ref C4) = some true)
    (hsb4_7 : PySem.W.subIn K (.ref C4) (.ref C7) = some false)
    (hsb4_3 : PySem.W.subIn K (.ref C4) (.ref C3) = some false)
    (hsb4_2 : PySem.W.subIn K (.ref C4) (.ref C2) = some false)
    (hsb4_5 : PySem.W.subIn K (.ref C4) (.ref C5) = some false)
    (hsb4_6 : PySem.W.subIn K (.ref C4) (.ref C6) = some false)
    (hsb4_0 : PySem.W.subIn K (.ref C4) (.ref C0) = some true)
    (hkb4_ValueError : PySem.W.subIn K (.ref C4) (.type "ValueError") = some true)
    (aC11 : PySem.W.nsIn K mainGlobals "Paper" = some (some (.ref C11))) (pg11 : PySem.W.plainGet K C11 Str.empty = true) (hd11 : PySem.W.hasDictIn K C11 = true) (po11 : PySem.W.plainOver K C11 = true) (sa11 : PySem.W.findIn K (.ref C11) "__setattr__" = some (some (.builtin "object.__setattr__"))) (mk11 : PySem.W.makesIn K C11 = true) (kc11 : PySem.W.keepIn K (.ref C11) = true) (nn11_text : PySem.W.findIn K (.ref C11) "text" = some none) (nn11_subject : PySem.W.findIn K (.ref C11) "subject" = some none) (nn11_verdict : PySem.W.findIn K (.ref C11) "verdict" = some none) (nn11_tokens : PySem.W.findIn K (.ref C11) "tokens" = some none)
    (a1 : PySem.W.findIn K (.ref C11) "__init__" = some (some (.ref f1))) (i1 : PySem.W.isFn K (.ref f1) = true) (l1 : K.lookup f1 = some ⟨oc1, od1, .func (PySem.W.fnOf "__init__" "Paper.__init__" (defArgs s_Paper___init__) (defBody s_Paper___init__) (defScope s_Paper___init__) .none kV1 dc1 pm1 an1 cd1 ct1), sl1⟩) (c1 : PySem.W.codeIn K cd1 "Paper.__init__" = true) (k1 : PySem.W.keepIn K (.ref f1) = true)
    (a2 : PySem.W.nsIn K mainGlobals "read_number" = some (some (.ref f2))) (l2 : K.lookup f2 = some ⟨oc2, od2, .func (PySem.W.fnOf "read_number" "read_number" (defArgs s_read_number) (defBody s_read_number) (defScope s_read_number) .none kV2 dc2 pm2 an2 cd2 ct2), sl2⟩) (c2 : PySem.W.codeIn K cd2 "read_number" = true) (k2 : PySem.W.keepIn K (.ref f2) = true)
    (a3 : PySem.W.nsIn K mainGlobals "read_numbers" = some (some (.ref f3))) (l3 : K.lookup f3 = some ⟨oc3, od3, .func (PySem.W.fnOf "read_numbers" "read_numbers" (defArgs s_read_numbers) (defBody s_read_numbers) (defScope s_read_numbers) .none kV3 dc3 pm3 an3 cd3 ct3), sl3⟩) (c3 : PySem.W.codeIn K cd3 "read_numbers" = true) (k3 : PySem.W.keepIn K (.ref f3) = true)
    (a4 : PySem.W.nsIn K mainGlobals "read_signed" = some (some (.ref f4))) (l4 : K.lookup f4 = some ⟨oc4, od4, .func (PySem.W.fnOf "read_signed" "read_signed" (defArgs s_read_signed) (defBody s_read_signed) (defScope s_read_signed) .none kV4 dc4 pm4 an4 cd4 ct4), sl4⟩) (c4 : PySem.W.codeIn K cd4 "read_signed" = true) (k4 : PySem.W.keepIn K (.ref f4) = true)
    (a5 : PySem.W.nsIn K mainGlobals "read_verdict" = some (some (.ref f5))) (l5 : K.lookup f5 = some ⟨oc5, od5, .func (PySem.W.fnOf "read_verdict" "read_verdict" (defArgs s_read_verdict) (defBody s_read_verdict) (defScope s_read_verdict) .none kV5 dc5 pm5 an5 cd5 ct5), sl5⟩) (c5 : PySem.W.codeIn K cd5 "read_verdict" = true) (k5 : PySem.W.keepIn K (.ref f5) = true)
    (a6 : PySem.W.nsIn K mainGlobals "read_token" = some (some (.ref f6))) (l6 : K.lookup f6 = some ⟨oc6, od6, .func (PySem.W.fnOf "read_token" "read_token" (defArgs s_read_token) (defBody s_read_token) (defScope s_read_token) .none kV6 dc6 pm6 an6 cd6 ct6), sl6⟩) (c6 : PySem.W.codeIn K cd6 "read_token" = true) (k6 : PySem.W.keepIn K (.ref f6) = true)
    (a7 : PySem.W.nsIn K mainGlobals "read_block" = some (some (.ref f7))) (l7 : K.lookup f7 = some ⟨oc7, od7, .func (PySem.W.fnOf "read_block" "read_block" (defArgs s_read_block) (defBody s_read_block) (defScope s_read_block) .none kV7 dc7 pm7 an7 cd7 ct7), sl7⟩) (c7 : PySem.W.codeIn K cd7 "read_block" = true) (k7 : PySem.W.keepIn K (.ref f7) = true)
    (a8 : PySem.W.nsIn K mainGlobals "read_paper" = some (some (.ref f8))) (l8 : K.lookup f8 = some ⟨oc8, od8, .func (PySem.W.fnOf "read_paper" "read_paper" (defArgs s_read_paper) (defBody s_read_paper) (defScope s_read_paper) .none kV8 dc8 pm8 an8 cd8 ct8), sl8⟩) (c8 : PySem.W.codeIn K cd8 "read_paper" = true) (k8 : PySem.W.keepIn K (.ref f8) = true)
    (a9 : PySem.W.nsIn K mainGlobals "_law_cell" = some (some (.ref f9))) (l9 : K.lookup f9 = some ⟨oc9, od9, .func (PySem.W.fnOf "_law_cell" "_law_cell" (defArgs s_law_cell) (defBody s_law_cell) (defScope s_law_cell) .none kV9 dc9 pm9 an9 cd9 ct9), sl9⟩) (c9 : PySem.W.codeIn K cd9 "_law_cell" = true) (k9 : PySem.W.keepIn K (.ref f9) = true)
    (a10 : PySem.W.nsIn K mainGlobals "_law_draws" = some (some (.ref f10))) (l10 : K.lookup f10 = some ⟨oc10, od10, .func (PySem.W.fnOf "_law_draws" "_law_draws" (defArgs s_law_draws) (defBody s_law_draws) (defScope s_law_draws) .none kV10 dc10 pm10 an10 cd10 ct10), sl10⟩) (c10 : PySem.W.codeIn K cd10 "_law_draws" = true) (k10 : PySem.W.keepIn K (.ref f10) = true)
    (a11 : PySem.W.nsIn K mainGlobals "_law_row" = some (some (.ref f11))) (l11 : K.lookup f11 = some ⟨oc11, od11, .func (PySem.W.fnOf "_law_row" "_law_row" (defArgs s_law_row) (defBody s_law_row) (defScope s_law_row) .none kV11 dc11 pm11 an11 cd11 ct11), sl11⟩) (c11 : PySem.W.codeIn K cd11 "_law_row" = true) (k11 : PySem.W.keepIn K (.ref f11) = true)
    (a12 : PySem.W.nsIn K mainGlobals "_law_rows" = some (some (.ref f12))) (l12 : K.lookup f12 = some ⟨oc12, od12, .func (PySem.W.fnOf "_law_rows" "_law_rows" (defArgs s_law_rows) (defBody s_law_rows) (defScope s_law_rows) .none kV12 dc12 pm12 an12 cd12 ct12), sl12⟩) (c12 : PySem.W.codeIn K cd12 "_law_rows" = true) (k12 : PySem.W.keepIn K (.ref f12) = true)
    (a13 : PySem.W.nsIn K mainGlobals "_law_number" = some (some (.ref f13))) (l13 : K.lookup f13 = some ⟨oc13, od13, .func (PySem.W.fnOf "_law_number" "_law_number" (defArgs s_law_number) (defBody s_law_number) (defScope s_law_number) .none kV13 dc13 pm13 an13 cd13 ct13), sl13⟩) (c13 : PySem.W.codeIn K cd13 "_law_number" = true) (k13 : PySem.W.keepIn K (.ref f13) = true)
    (a14 : PySem.W.nsIn K mainGlobals "_law_numbers" = some (some (.ref f14))) (l14 : K.lookup f14 = some ⟨oc14, od14, .func (PySem.W.fnOf "_law_numbers" "_law_numbers" (defArgs s_law_numbers) (defBody s_law_numbers) (defScope s_law_numbers) .none kV14 dc14 pm14 an14 cd14 ct14), sl14⟩) (c14 : PySem.W.codeIn K cd14 "_law_numbers" = true) (k14 : PySem.W.keepIn K (.ref f14) = true)
    (a15 : PySem.W.nsIn K mainGlobals "_law_token" = some (some (.ref f15))) (l15 : K.lookup f15 = some ⟨oc15, od15, .func (PySem.W.fnOf "_law_token" "_law_token" (defArgs s_law_token) (defBody s_law_token) (defScope s_law_token) .none kV15 dc15 pm15 an15 cd15 ct15), sl15⟩) (c15 : PySem.W.codeIn K cd15 "_law_token" = true) (k15 : PySem.W.keepIn K (.ref f15) = true)
    (a16 : PySem.W.nsIn K mainGlobals "_law_parts" = some (some (.ref f16))) (l16 : K.lookup f16 = some ⟨oc16, od16, .func (PySem.W.fnOf "_law_parts" "_law_parts" (defArgs s_law_parts) (defBody s_law_parts) (defScope s_law_parts) .none kV16 dc16 pm16 an16 cd16 ct16), sl16⟩) (c16 : PySem.W.codeIn K cd16 "_law_parts" = true) (k16 : PySem.W.keepIn K (.ref f16) = true)
    (a17 : PySem.W.nsIn K mainGlobals "_law_joined" = some (some (.ref f17))) (l17 : K.lookup f17 = some ⟨oc17, od17, .func (PySem.W.fnOf "_law_joined" "_law_joined" (defArgs s_law_joined) (defBody s_law_joined) (defScope s_law_joined) .none kV17 dc17 pm17 an17 cd17 ct17), sl17⟩) (c17 : PySem.W.codeIn K cd17 "_law_joined" = true) (k17 : PySem.W.keepIn K (.ref f17) = true)
    (a18 : PySem.W.nsIn K mainGlobals "_law_lines" = some (some (.ref f18))) (l18 : K.lookup f18 = some ⟨oc18, od18, .func (PySem.W.fnOf "_law_lines" "_law_lines" (defArgs s_law_lines) (defBody s_law_lines) (defScope s_law_lines) .none kV18 dc18 pm18 an18 cd18 ct18), sl18⟩) (c18 : PySem.W.codeIn K cd18 "_law_lines" = true) (k18 : PySem.W.keepIn K (.ref f18) = true)
    (a19 : PySem.W.nsIn K mainGlobals "_law_first" = some (some (.ref f19))) (l19 : K.lookup f19 = some ⟨oc19, od19, .func (PySem.W.fnOf "_law_first" "_law_first" (defArgs s_law_first) (defBody s_law_first) (defScope s_law_first) .none kV19 dc19 pm19 an19 cd19 ct19), sl19⟩) (c19 : PySem.W.codeIn K cd19 "_law_first" = true) (k19 : PySem.W.keepIn K (.ref f19) = true)
    (a20 : PySem.W.nsIn K mainGlobals "_law_subject" = some (some (.ref f20))) (l20 : K.lookup f20 = some ⟨oc20, od20, .func (PySem.W.fnOf "_law_subject" "_law_subject" (defArgs s_law_subject) (defBody s_law_subject) (defScope s_law_subject) .none kV20 dc20 pm20 an20 cd20 ct20), sl20⟩) (c20 : PySem.W.codeIn K cd20 "_law_subject" = true) (k20 : PySem.W.keepIn K (.ref f20) = true)
    (a21 : PySem.W.nsIn K mainGlobals "_law_verdict" = some (some (.ref f21))) (l21 : K.lookup f21 = some ⟨oc21, od21, .func (PySem.W.fnOf "_law_verdict" "_law_verdict" (defArgs s_law_verdict) (defBody s_law_verdict) (defScope s_law_verdict) .none kV21 dc21 pm21 an21 cd21 ct21), sl21⟩) (c21 : PySem.W.codeIn K cd21 "_law_verdict" = true) (k21 : PySem.W.keepIn K (.ref f21) = true)
    (a22 : PySem.W.nsIn K mainGlobals "_law_odd" = some (some (.ref f22))) (l22 : K.lookup f22 = some ⟨oc22, od22, .func (PySem.W.fnOf "_law_odd" "_law_odd" (defArgs s_law_odd) (defBody s_law_odd) (defScope s_law_odd) .none kV22 dc22 pm22 an22 cd22 ct22), sl22⟩) (c22 : PySem.W.codeIn K cd22 "_law_odd" = true) (k22 : PySem.W.keepIn K (.ref f22) = true)
    (a23 : PySem.W.nsIn K mainGlobals "_law_spoilt" = some (some (.ref f23))) (l23 : K.lookup f23 = some ⟨oc23, od23, .func (PySem.W.fnOf "_law_spoilt" "_law_spoilt" (defArgs s_law_spoilt) (defBody s_law_spoilt) (defScope s_law_spoilt) .none kV23 dc23 pm23 an23 cd23 ct23), sl23⟩) (c23 : PySem.W.codeIn K cd23 "_law_spoilt" = true) (k23 : PySem.W.keepIn K (.ref f23) = true)
    (a24 : PySem.W.nsIn K mainGlobals "_law_refused" = some (some (.ref f24))) (l24 : K.lookup f24 = some ⟨oc24, od24, .func (PySem.W.fnOf "_law_refused" "_law_refused" (defArgs s_law_refused) (defBody s_law_refused) (defScope s_law_refused) .none kV24 dc24 pm24 an24 cd24 ct24), sl24⟩) (c24 : PySem.W.codeIn K cd24 "_law_refused" = true) (k24 : PySem.W.keepIn K (.ref f24) = true)
    (a25 : PySem.W.nsIn K mainGlobals "law" = some (some (.ref f25))) (l25 : K.lookup f25 = some ⟨oc25, od25, .func (PySem.W.fnOf "law" "law" (defArgs s_law) (defBody s_law) (defScope s_law) .none kV25 dc25 pm25 an25 cd25 ct25), sl25⟩) (c25 : PySem.W.codeIn K cd25 "law" = true) (k25 : PySem.W.keepIn K (.ref f25) = true)
    (gg0 : PySem.W.nsIn K mainGlobals "DIGITS" = some (some (.str "0123456789" tg0)))
    (z0 : PySem.W.nsIn K mainGlobals "ValueError" = some none) (z1 : PySem.W.nsIn K mainGlobals "abs" = some none) (z2 : PySem.W.nsIn K mainGlobals "bool" = some none) (z3 : PySem.W.nsIn K mainGlobals "int" = some none) (z4 : PySem.W.nsIn K mainGlobals "isinstance" = some none) (z5 : PySem.W.nsIn K mainGlobals "len" = some none) (z6 : PySem.W.nsIn K mainGlobals "list" = some none) (z7 : PySem.W.nsIn K mainGlobals "max" = some none) (z8 : PySem.W.nsIn K mainGlobals "range" = some none) (z9 : PySem.W.nsIn K mainGlobals "repr" = some none) (z10 : PySem.W.nsIn K mainGlobals "str" = some none) (z11 : PySem.W.nsIn K mainGlobals "tuple" = some none) :
    ∃ (ca : Nat → Addr) (fd : FuncData), (∀ (s : Shared) (v : Value), BindsTo s fd ⟨[v], []⟩ [("_law_script", v)]) ∧ ∀ base : Heap, K.In base → base.Ns mainGlobals mg → FnG l.prog w K mg base 6 fa fd ["_law_script"] (spM K 1 (f_law ca)) := by
  have e := hfa.symm.trans (PySem.W.mg_of X G a25)
  cases e
  let ca : Nat → Addr := fun i => match i with | 0 => C0 | 1 => C1 | 2 => C2 | 3 => C3 | 4 => C4 | 5 => C5 | 6 => C6 | 7 => C7 | 8 => C8 | 9 => C9 | 10 => C10 | _ => C11
  have T : Txt K mg ca := ⟨PySem.W.mg_none_of X G z0, PySem.W.mg_none_of X G z1, PySem.W.mg_none_of X G z2, PySem.W.mg_none_of X G z3, PySem.W.mg_none_of X G z4, PySem.W.mg_none_of X G z5, PySem.W.mg_none_of X G z6, PySem.W.mg_none_of X G z7, PySem.W.mg_none_of X G z8, PySem.W.mg_none_of X G z9, PySem.W.mg_none_of X G z10, PySem.W.mg_none_of X G z11, ⟨pg11, hd11, po11, sa11⟩, PySem.W.mg_of X G aC11, nn11_text, nn11_subject, nn11_verdict, nn11_tokens, PySem.W.mg_of X G aE0, PySem.W.mg_of X G aE1, PySem.W.mg_of X G aE2, PySem.W.mg_of X G aE3, PySem.W.mg_of X G aE4, PySem.W.mg_of X G aE5, PySem.W.mg_of X G aE6, PySem.W.mg_of X G aE7, PySem.W.mg_of X G aE8, PySem.W.mg_of X G aE9, PySem.W.mg_of X G aE10, PySem.W.exm_ref eb4 ed4 et4 hsb4_4, ⟨eg4, eh4, eb4, ed4, ea4, esp, etk, eo4⟩, kit_ref ed10 et10 hsb4_10 hsb4_4, kit_ref ed8 et8 hsb4_8 hsb4_4, kit_ref ed1 et1 hsb4_1 hsb4_4, kit_ref ed9 et9 hsb4_9 hsb4_4, kit_ref ed7 et7 hsb4_7 hsb4_4, kit_ref ed3 et3 hsb4_3 hsb4_4, kit_ref ed2 et2 hsb4_2 hsb4_4, kit_ref ed5 et5 hsb4_5 hsb4_4, kit_ref ed6 et6 hsb4_6 hsb4_4, kit_ref ed0 et0 hsb4_0 hsb4_4, kit_bty (by decide +kernel) hkb4_ValueError, ⟨eg4, eh4, eb4, ed4⟩, en4, ⟨_, PySem.W.mg_of X G gg0⟩⟩
  have F1 := fun_mk (st := s_Paper___init__) l1 c1 k1
  have F2 := fun_mk (st := s_read_number) l2 c2 k2
  have F3 := fun_mk (st := s_read_numbers) l3 c3 k3
  have F4 := fun_mk (st := s_read_signed) l4 c4 k4
  have F5 := fun_mk (st := s_read_verdict) l5 c5 k5
  have F6 := fun_mk (st := s_read_token) l6 c6 k6
  have F7 := fun_mk (st := s_read_block) l7 c7 k7
  have F8 := fun_mk (st := s_read_paper) l8 c8 k8
  have F9 := fun_mk (st := s_law_cell) l9 c9 k9
  have F10 := fun_mk (st := s_law_draws) l10 c10 k10
  have F11 := fun_mk (st := s_law_row) l11 c11 k11
  have F12 := fun_mk (st := s_law_rows) l12 c12 k12
  have F13 := fun_mk (st := s_law_number) l13 c13 k13
  have F14 := fun_mk (st := s_law_numbers) l14 c14 k14
  have F15 := fun_mk (st := s_law_token) l15 c15 k15
  have F16 := fun_mk (st := s_law_parts) l16 c16 k16
  have F17 := fun_mk (st := s_law_joined) l17 c17 k17
  have F18 := fun_mk (st := s_law_lines) l18 c18 k18
  have F19 := fun_mk (st := s_law_first) l19 c19 k19
  have F20 := fun_mk (st := s_law_subject) l20 c20 k20
  have F21 := fun_mk (st := s_law_verdict) l21 c21 k21
  have F22 := fun_mk (st := s_law_odd) l22 c22 k22
  have F23 := fun_mk (st := s_law_spoilt) l23 c23 k23
  have F24 := fun_mk (st := s_law_refused) l24 c24 k24
  have F25 := fun_mk (st := s_law) l25 c25 k25
  have FI1 := fun_mk (st := inClass (top 3) 0) il1 ic1 ik1
  refine ⟨ca, PySem.W.fnOf "law" "law" (defArgs s_law) (defBody s_law) (defScope s_law) .none kV25 dc25 pm25 an25 cd25 ct25, fun s v => .of_eq rfl, fun base _ _ => ?_⟩
  have G_x4 : Xrow l.prog w K mg base ca 1 4 "BadPaper" := ⟨fI1, _, ⟨⟨xnm4, xq4, xN4, xbs4, _, xsn4, xsub4, xab4, xcol4, xdd4, x04, x14, x24, x34, x54, el4, rfl⟩, es4, eb4, et4, ek4⟩, ei4, it1, xrow_init FI1 sc_init1 rfl (fun y h => by rcases h with h | h <;> subst h <;> rfl), FI1.binds (fun _ _ _ _ _ _ us hl => match us, hl with | [_, _], _ => rfl), en4, PySem.W.mg_of X G aE4⟩
  have G_Paper___init__ : Fii l.prog w K mg base 1 (ca 11) ["self", "text", "subject", "verdict", "tokens"] (f_Paper___init__ ca) := ok_Paper___init__ T  F1 ⟨mk11, a1, i1, kc11⟩
  have G_read_number : Fnn l.prog w K mg base 1 "read_number" ["word"] f_read_number := ok_read_number T  F2 (PySem.W.mg_of X G a2)
  have G_read_numbers : Fnn l.prog w K mg base 2 "read_numbers" ["words"] f_read_numbers := ok_read_numbers T G_read_number F3 (PySem.W.mg_of X G a3)
  have G_read_signed : Fnn l.prog w K mg base 2 "read_signed" ["word"] f_read_signed := ok_read_signed T G_read_number F4 (PySem.W.mg_of X G a4)
  have G_read_verdict : Fnn l.prog w K mg base 3 "read_verdict" ["row"] f_read_verdict := ok_read_verdict T G_read_signed F5 (PySem.W.mg_of X G a5)
  have G_read_token : Fnn l.prog w K mg base 3 "read_token" ["row"] f_read_token := ok_read_token T G_read_numbers F6 (PySem.W.mg_of X G a6)
  have G_read_block : Fnx l.prog w K mg base ca 3 "read_block" ["rows", "at", "head"] f_read_block := ok_read_block T G_read_number G_x4 F7 (PySem.W.mg_of X G a7)
  have G_read_paper : Fnx l.prog w K mg base ca 4 "read_paper" ["text"] (f_read_paper ca) := ok_read_paper T G_Paper___init__ G_read_verdict G_read_token G_read_block G_x4 F8 (PySem.W.mg_of X G a8)
  have G_law_cell : Fnn l.prog w K mg base 1 "_law_cell" ["_law_script", "_law_k"] f_law_cell := ok_law_cell T  F9 (PySem.W.mg_of X G a9)
  have G_law_draws : Fnn l.prog w K mg base 2 "_law_draws" ["_law_script", "_law_place", "_law_sizes"] f_law_draws := ok_law_draws T G_law_cell F10 (PySem.W.mg_of X G a10)
  have G_law_row : Fnn l.prog w K mg base 1 "_law_row" ["_law_draws_here"] f_law_row := ok_law_row T  F11 (PySem.W.mg_of X G a11)
  have G_law_rows : Fnn l.prog w K mg base 3 "_law_rows" ["_law_script", "_law_place", "_law_count"] f_law_rows := ok_law_rows T G_law_draws G_law_row F12 (PySem.W.mg_of X G a12)
  have G_law_number : Fnn l.prog w K mg base 1 "_law_number" ["_law_draw"] f_law_number := ok_law_number T  F13 (PySem.W.mg_of X G a13)
  have G_law_numbers : Fnn l.prog w K mg base 2 "_law_numbers" ["_law_draws_here"] f_law_numbers := ok_law_numbers T G_law_number F14 (PySem.W.mg_of X G a14)
  have G_law_token : Fnn l.prog w K mg base 3 "_law_token" ["_law_script", "_law_place"] f_law_token := ok_law_token T G_law_draws G_law_numbers F15 (PySem.W.mg_of X G a15)
  have G_law_parts : Fnn l.prog w K mg base 4 "_law_parts" ["_law_script"] f_law_parts := ok_law_parts T G_law_draws G_law_rows G_law_number G_law_token F16 (PySem.W.mg_of X G a16)
  have G_law_joined : Fnn l.prog w K mg base 1 "_law_joined" ["_law_numbers_here", "_law_sign"] f_law_joined := ok_law_joined T  F17 (PySem.W.mg_of X G a17)
  have G_law_lines : Fnn l.prog w K mg base 2 "_law_lines" ["_law_parts_here"] f_law_lines := ok_law_lines T G_law_joined F18 (PySem.W.mg_of X G a18)
  have G_law_first : Fnn l.prog w K mg base 1 "_law_first" ["_law_many", "_law_choice"] f_law_first := ok_law_first T  F19 (PySem.W.mg_of X G a19)
  have G_law_subject : Fnn l.prog w K mg base 1 "_law_subject" ["_law_choice"] f_law_subject := ok_law_subject T  F20 (PySem.W.mg_of X G a20)
  have G_law_verdict : Fnn l.prog w K mg base 1 "_law_verdict" ["_law_choice"] f_law_verdict := ok_law_verdict T  F21 (PySem.W.mg_of X G a21)
  have G_law_odd : Fnn l.prog w K mg base 1 "_law_odd" ["_law_choice"] f_law_odd := ok_law_odd T  F22 (PySem.W.mg_of X G a22)
  have G_law_spoilt : Fnn l.prog w K mg base 2 "_law_spoilt" ["_law_lines_here", "_law_subject_here", "_law_verdict_here", "_law_draws_here"] f_law_spoilt := ok_law_spoilt T G_law_first G_law_subject G_law_verdict G_law_odd F23 (PySem.W.mg_of X G a23)
  have G_law_refused : Fnn l.prog w K mg base 5 "_law_refused" ["_law_text"] (f_law_refused ca) := ok_law_refused T G_read_paper F24 (PySem.W.mg_of X G a24)
  exact fn_law T G_read_paper G_law_draws G_law_parts G_law_lines G_law_odd G_law_spoilt G_law_refused F25
end Lk30

/-! the end of k30, printed by gen.py -/
namespace Lk30
open PySem PySem.Spec L2 M
theorem walk {l : PySem.W.OpenLaw} {q : Program} {loose : List Str} {XP : (Str → Option Value) → Heap → Prop} {YP : World → Heap → Prop} {d : DefRec} {K : Params → PySem.W.Frag} (hn : l.most = some 63) (hdf : d.params.defaults = [])
    (hY : ∀ (w : World) (h : Heap), YP w h → (K w.params).In h)
    (F : ∀ (w : World) (mg : Str → Option Value) (fa : Addr) (h : Heap), (K w.params).In h → h.Ns mainGlobals mg → mg d.name = some (.ref fa) →
      ∃ (ca : Nat → Addr) (fd : FuncData), (∀ (s : Shared) (u : Value), BindsTo s fd ⟨[u], []⟩ [("_law_script", u)]) ∧ ∀ base : Heap, (K w.params).In base → base.Ns mainGlobals mg → FnG l.prog w (K w.params) mg base 6 fa fd ["_law_script"] (spM (K w.params) 1 (f_law ca))) :
    PySem.W.WalkO q loose XP YP l.row.toRowW d [] (fun f vs => PySem.call f vs) :=
  M.walk_ofG (n := 63) (k := 6) (x := "_law_script") (sp := fun w => spLw (K w.params)) hn (by decide) hdf ⟨rfl, by decide, by decide⟩ hY (fun w mg fa h a b c => by
    obtain ⟨ca, fd, hb, hF⟩ := F w mg fa h a b c
    exact ⟨fd, hb, fun base x y => (hF base x y).imp (spLw_imp (law_true ca))⟩) (fun w H a ns hl hb _ hS => ⟨a, ns, rfl, hS, hl, hb, fun v H' e => e⟩)
end Lk30
open PySem PySem.W PyProof.Rows
set_option maxRecDepth 100000 in
set_option maxHeartbeats 0 in
theorem PySem.Challenge.cw_wayorring_k30_wrong_rows_of_papers_holds : PySem.Challenge.rw_wayorring_k30_wrong_rows_of_papers.Holds := by
  w_on; o_law; k_head; (case hw => w_witness2)
  k_fill
  refine Lk30.walk (l := PySem.Challenge.rw_wayorring_k30_wrong_rows_of_papers) rfl rfl (fun w h Y => PySem.W.kIn_of Y) ?F
  case F =>
    intro w mg fa h KX G hmg
    refine' Lk30.all_mk KX G hmg ?aE0 ?aE1 ?aE2 ?aE3 ?aE4 ?aE5 ?aE6 ?aE7 ?aE8 ?aE9 ?aE10 ?eb0 ?et0 ?ek0 ?ed0 ?eg0 ?eh0 ?eb1 ?et1 ?ek1 ?ed1 ?eg1 ?eh1 ?eb2 ?et2 ?ek2 ?ed2 ?eg2 ?eh2 ?eb3 ?et3 ?ek3 ?ed3 ?eg3 ?eh3 ?eb4 ?et4 ?ek4 ?ed4 ?eg4 ?eh4 ?eb5 ?et5 ?ek5 ?ed5 ?eg5 ?eh5 ?eb6 ?et6 ?ek6 ?ed6 ?eg6 ?eh6 ?eb7 ?et7 ?ek7 ?ed7 ?eg7 ?eh7 ?eb8 ?et8 ?ek8 ?ed8 ?eg8 ?eh8 ?eb9 ?et9 ?ek9 ?ed9 ?eg9 ?eh9 ?eb10 ?et10 ?ek10 ?ed10 ?eg10 ?eh10 ?ea4 ?eo4 ?esp ?etk ?el4 ?es4 ?ei4 ?en4 ?it1 ?il1 ?ic1 ?ik1 ?hsb4_10 ?hsb4_8 ?hsb4_1 ?hsb4_9 ?hsb4_4 ?hsb4_7 ?hsb4_3 ?hsb4_2 ?hsb4_5 ?hsb4_6 ?hsb4_0 ?hkb4_ValueError ?aC11 ?pg11 ?hd11 ?po11 ?sa11 ?mk11 ?kc11 ?nn11_text ?nn11_subject ?nn11_verdict ?nn11_tokens ?a1 ?i1 ?l1 ?c1 ?k1 ?a2 ?l2 ?c2 ?k2 ?a3 ?l3 ?c3 ?k3 ?a4 ?l4 ?c4 ?k4 ?a5 ?l5 ?c5 ?k5 ?a6 ?l6 ?c6 ?k6 ?a7 ?l7 ?c7 ?k7 ?a8 ?l8 ?c8 ?k8 ?a9 ?l9 ?c9 ?k9 ?a10 ?l10 ?c10 ?k10 ?a11 ?l11 ?c11 ?k11 ?a12 ?l12 ?c12 ?k12 ?a13 ?l13 ?c13 ?k13 ?a14 ?l14 ?c14 ?k14 ?a15 ?l15 ?c15 ?k15 ?a16 ?l16 ?c16 ?k16 ?a17 ?l17 ?c17 ?k17 ?a18 ?l18 ?c18 ?k18 ?a19 ?l19 ?c19 ?k19 ?a20 ?l20 ?c20 ?k20 ?a21 ?l21 ?c21 ?k21 ?a22 ?l22 ?c22 ?k22 ?a23 ?l23 ?c23 ?k23 ?a24 ?l24 ?c24 ?k24 ?a25 ?l25 ?c25 ?k25 ?gg0 ?z0 ?z1 ?z2 ?z3 ?z4 ?z5 ?z6 ?z7 ?z8 ?z9 ?z10 ?z11
    (case aE0 => k_is); (case aE1 => k_is); (case aE2 => k_is); (case aE3 => k_is); (case aE4 => k_is); (case aE5 => k_is)
    (case aE6 => k_is); (case aE7 => k_is); (case aE8 => k_is); (case aE9 => k_is); (case aE10 => k_is); (case eb0 => k_is)
    (case et0 => k_is); (case ek0 => k_is); (case ed0 => k_is); (case eg0 => k_is); (case eh0 => k_is); (case eb1 => k_is)
    (case et1 => k_is); (case ek1 => k_is); (case ed1 => k_is); (case eg1 => k_is); (case eh1 => k_is); (case eb2 => k_is)
    (case et2 => k_is); (case ek2 => k_is); (case ed2 => k_is); (case eg2 => k_is); (case eh2 => k_is); (case eb3 => k_is)
    (case et3 => k_is); (case ek3 => k_is); (case ed3 => k_is); (case eg3 => k_is); (case eh3 => k_is); (case eb4 => k_is)
    (case et4 => k_is); (case ek4 => k_is); (case ed4 => k_is); (case eg4 => k_is); (case eh4 => k_is); (case eb5 => k_is)
    (case et5 => k_is); (case ek5 => k_is); (case ed5 => k_is); (case eg5 => k_is); (case eh5 => k_is); (case eb6 => k_is)
    (case et6 => k_is); (case ek6 => k_is); (case ed6 => k_is); (case eg6 => k_is); (case eh6 => k_is); (case eb7 => k_is)
    (case et7 => k_is); (case ek7 => k_is); (case ed7 => k_is); (case eg7 => k_is); (case eh7 => k_is); (case eb8 => k_is)
    (case et8 => k_is); (case ek8 => k_is); (case ed8 => k_is); (case eg8 => k_is); (case eh8 => k_is); (case eb9 => k_is)
    (case et9 => k_is); (case ek9 => k_is); (case ed9 => k_is); (case eg9 => k_is); (case eh9 => k_is); (case eb10 => k_is)
    (case et10 => k_is); (case ek10 => k_is); (case ed10 => k_is); (case eg10 => k_is); (case eh10 => k_is); (case ea4 => k_is)
    (case eo4 => k_is); (case esp => k_is); (case etk => k_is); (case el4 => k_is); (case es4 => k_is); (case ei4 => k_is)
    (case en4 => k_is); (case it1 => k_is); (case il1 => k_is); (case ic1 => k_is); (case ik1 => k_is); (case hsb4_10 => k_is)
    (case hsb4_8 => k_is); (case hsb4_1 => k_is); (case hsb4_9 => k_is); (case hsb4_4 => k_is); (case hsb4_7 => k_is); (case hsb4_3 => k_is)
    (case hsb4_2 => k_is); (case hsb4_5 => k_is); (case hsb4_6 => k_is); (case hsb4_0 => k_is); (case hkb4_ValueError => k_is); (case aC11 => k_is)
    (case pg11 => k_is); (case hd11 => k_is); (case po11 => k_is); (case sa11 => k_is); (case mk11 => k_is); (case kc11 => k_is)
    (case nn11_text => k_is); (case nn11_subject => k_is); (case nn11_verdict => k_is); (case nn11_tokens => k_is); (case a1 => k_is); (case i1 => k_is)
    (case l1 => k_is); (case c1 => k_is); (case k1 => k_is); (case a2 => k_is); (case l2 => k_is); (case c2 => k_is)
    (case k2 => k_is); (case a3 => k_is); (case l3 => k_is); (case c3 => k_is); (case k3 => k_is); (case a4 => k_is)
    (case l4 => k_is); (case c4 => k_is); (case k4 => k_is); (case a5 => k_is); (case l5 => k_is); (case c5 => k_is)
    (case k5 => k_is); (case a6 => k_is); (case l6 => k_is); (case c6 => k_is); (case k6 => k_is); (case a7 => k_is)
    (case l7 => k_is); (case c7 => k_is); (case k7 => k_is); (case a8 => k_is); (case l8 => k_is); (case c8 => k_is)
    (case k8 => k_is); (case a9 => k_is); (case l9 => k_is); (case c9 => k_is); (case k9 => k_is); (case a10 => k_is)
    (case l10 => k_is); (case c10 => k_is); (case k10 => k_is); (case a11 => k_is); (case l11 => k_is); (case c11 => k_is)
    (case k11 => k_is); (case a12 => k_is); (case l12 => k_is); (case c12 => k_is); (case k12 => k_is); (case a13 => k_is)
    (case l13 => k_is); (case c13 => k_is); (case k13 => k_is); (case a14 => k_is); (case l14 => k_is); (case c14 => k_is)
    (case k14 => k_is); (case a15 => k_is); (case l15 => k_is); (case c15 => k_is); (case k15 => k_is); (case a16 => k_is)
    (case l16 => k_is); (case c16 => k_is); (case k16 => k_is); (case a17 => k_is); (case l17 => k_is); (case c17 => k_is)
    (case k17 => k_is); (case a18 => k_is); (case l18 => k_is); (case c18 => k_is); (case k18 => k_is); (case a19 => k_is)
    (case l19 => k_is); (case c19 => k_is); (case k19 => k_is); (case a20 => k_is); (case l20 => k_is); (case c20 => k_is)
    (case k20 => k_is); (case a21 => k_is); (case l21 => k_is); (case c21 => k_is); (case k21 => k_is); (case a22 => k_is)
    (case l22 => k_is); (case c22 => k_is); (case k22 => k_is); (case a23 => k_is); (case l23 => k_is); (case c23 => k_is)
    (case k23 => k_is); (case a24 => k_is); (case l24 => k_is); (case c24 => k_is); (case k24 => k_is); (case a25 => k_is)
    (case l25 => k_is); (case c25 => k_is); (case k25 => k_is); (case gg0 => k_is); (case z0 => k_is); (case z1 => k_is)
    (case z2 => k_is); (case z3 => k_is); (case z4 => k_is); (case z5 => k_is); (case z6 => k_is); (case z7 => k_is)
    (case z8 => k_is); (case z9 => k_is); (case z10 => k_is); (case z11 => k_is)
#print axioms PySem.Challenge.cw_wayorring_k30_wrong_rows_of_papers_holds

