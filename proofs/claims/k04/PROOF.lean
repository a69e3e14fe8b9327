import PyProof.Rows.All
import Wide.All
import OpenK.AllK
import Wide.FinOn
import HandS.ForMost
import HandS.Walk
import HandS.IsInst
import HandS.SortKw
import HandS.SortInts
import HandS.TupLe
import HandS.TupAny
import HandS.Deep
import HandS.Style
import HandS.Flow
import HandS.Wide
import HandS.WideBits
import HandS.SetFor
import HandS.EndBits
import HandS.ForExc
import KE.DataCmp
import HandS.Conv
import HandS.WordsExc
import PySem.Challenge.RW_dealsheet_k04_top_by_hand
set_option Elab.async false
set_option linter.all false
set_option maxRecDepth 100000
set_option maxHeartbeats 4000000
/-! Data as plain trees, and when a value of the layer stands for one. -/
namespace Dz
open PySem L2
abbrev D := PyData
/-- where the classes stand: those of objects, those of errors -/
structure Cmap where
  ins : Str → Option Addr
  exc : Str → Addr
/-- all that was tracked stands as it stood -/
def Ext (H H' : Hp) : Prop := ∀ a o, H a = some o → H' a = some o
theorem Ext.refl (H : Hp) : Ext H H := fun _ _ h => h
theorem Ext.trans {H H1 H2 : Hp} (a : Ext H H1) (b : Ext H1 H2) : Ext H H2 := fun x o h => b x o (a x o h)
theorem Ext.new {H : Hp} {p : Addr} {o : HO} (h : H p = none) : Ext H (upd H p o) := fun a u e => by
  rw [upd_ne (ne_of_none e h)]
  exact e
theorem Ext.rd {H H' : Hp} {a : Addr} {u : HO} (e : Ext H H') (h : Rd H a u) : Rd H' a u := by
  rcases h with h | ⟨o, h⟩
  · exact Or.inl (e a _ h)
  · exact Or.inr ⟨o, e a _ h⟩
theorem Ext.back {H H' : Hp} {p : Addr} (e : Ext H H') (h : H' p = none) : H p = none := by
  cases h1 : H p with
  | none => rfl
  | some o =>
    rw [e p o h1] at h
    cases h
/-- the heap without the addresses of O -/
def off (O : Addr → Bool) (H : Hp) : Hp := fun a => if O a = true then none else H a
theorem off_some {O : Addr → Bool} {H : Hp} {a : Addr} {o : HO} : off O H a = some o ↔ O a = false ∧ H a = some o := by
  unfold off
  cases h : O a <;> simp
theorem off_ext (O : Addr → Bool) (H : Hp) : Ext (off O H) H := fun _ _ h => (off_some.mp h).2
theorem Ext.off {O : Addr → Bool} {H H' : Hp} (e : Ext H H') : Ext (off O H) (off O H') := fun a o h => by
  obtain ⟨h1, h2⟩ := off_some.mp h
  exact off_some.mpr ⟨h1, e a o h2⟩
/-- fewer addresses left out -/
theorem off_le {O O' : Addr → Bool} {H : Hp} (h : ∀ a, O' a = true → O a = true) : Ext (off O H) (off O' H) := fun a o e => by
  obtain ⟨h1, h2⟩ := off_some.mp e
  refine off_some.mpr ⟨?_, h2⟩
  cases q : O' a with
  | false => rfl
  | true => rw [h a q] at h1; cases h1
def none0 : Addr → Bool := fun _ => false
theorem off_none (H : Hp) : off none0 H = H := by
  funext a
  unfold off none0
  simp

mutual
/-- the value v stands for the datum d; an instance is a dict whose first key is its class -/
def Rp (CA : Cmap) (H : Hp) : PyData → V → Prop
  | .none, v => v = .non
  | .bool b, v => v = .bl b
  | .int i, v => v = .int i
  | .str x, v => v = .str x
  | .list ds, v => ∃ a xs, v = .ref a ∧ Rd H a (.lst xs) ∧ RpAll CA H ds xs
  | .tuple ds, v => ∃ a xs, v = .ref a ∧ Rd H a (.tup xs) ∧ RpAll CA H ds xs
  | .dict kvs, v => ∃ a C dx fs, v = .ref a ∧ H a = some (.ins C dx fs) ∧ RpIns CA H kvs C fs
def RpAll (CA : Cmap) (H : Hp) : List PyData → List V → Prop
  | [], xs => xs = []
  | d :: ds, xs => ∃ v vs, xs = v :: vs ∧ Rp CA H d v ∧ RpAll CA H ds vs
def RpIns (CA : Cmap) (H : Hp) : List (PyData × PyData) → Addr → List (Str × V) → Prop
  | [], _, _ => False
  | (k, _) :: r, C, fs => (∃ c, k = .str c ∧ CA.ins c = some C) ∧ RpFs CA H r fs
def RpFs (CA : Cmap) (H : Hp) : List (PyData × PyData) → List (Str × V) → Prop
  | [], fs => fs = []
  | (k, d) :: r, fs => ∃ n v fs', fs = (n, v) :: fs' ∧ k = .str n ∧ Rp CA H d v ∧ RpFs CA H r fs'
end
variable {CA : Cmap}
mutual
theorem Rp.mono {H H' : Hp} (e : Ext H H') : ∀ (d : PyData) (v : V), Rp CA H d v → Rp CA H' d v
  | .none, _, h => by simpa only [Rp] using h
  | .bool _, _, h => by simpa only [Rp] using h
  | .int _, _, h => by simpa only [Rp] using h
  | .str _, _, h => by simpa only [Rp] using h
  | .list ds, v, h => by
    simp only [Rp] at h ⊢
    obtain ⟨a, xs, h1, h2, h3⟩ := h
    exact ⟨a, xs, h1, e.rd h2, RpAll.mono e ds xs h3⟩
  | .tuple ds, v, h => by
    simp only [Rp] at h ⊢
    obtain ⟨a, xs, h1, h2, h3⟩ := h
    exact ⟨a, xs, h1, e.rd h2, RpAll.mono e ds xs h3⟩
  | .dict kvs, v, h => by
    simp only [Rp] at h ⊢
    obtain ⟨a, C, dx, fs, h1, h2, h3⟩ := h
    exact ⟨a, C, dx, fs, h1, e _ _ h2, RpIns.mono e kvs C fs h3⟩
theorem RpAll.mono {H H' : Hp} (e : Ext H H') : ∀ (ds : List PyData) (xs : List V), RpAll CA H ds xs → RpAll CA H' ds xs
  | [], _, h => by simpa only [RpAll] using h
  | d :: ds, _, h => by
    simp only [RpAll] at h ⊢
    obtain ⟨v, vs, h1, h2, h3⟩ := h
    exact ⟨v, vs, h1, Rp.mono e d v h2, RpAll.mono e ds vs h3⟩
theorem RpIns.mono {H H' : Hp} (e : Ext H H') : ∀ (kvs : List (PyData × PyData)) (C : Addr) (fs : List (Str × V)), RpIns CA H kvs C fs → RpIns CA H' kvs C fs
  | [], _, _, h => by simpa only [RpIns] using h
  | (_, _) :: r, C, fs, h => by
    simp only [RpIns] at h ⊢
    exact ⟨h.1, RpFs.mono e r fs h.2⟩
theorem RpFs.mono {H H' : Hp} (e : Ext H H') : ∀ (kvs : List (PyData × PyData)) (fs : List (Str × V)), RpFs CA H kvs fs → RpFs CA H' kvs fs
  | [], _, h => by simpa only [RpFs] using h
  | (_, d) :: r, _, h => by
    simp only [RpFs] at h ⊢
    obtain ⟨n, v, fs', h1, h2, h3, h4⟩ := h
    exact ⟨n, v, fs', h1, h2, Rp.mono e d v h3, RpFs.mono e r fs' h4⟩
end
section
variable {H : Hp}
@[simp] theorem rp_none {v : V} : Rp CA H .none v ↔ v = .non := by simp only [Rp]
@[simp] theorem rp_bool {v : V} {b : Bool} : Rp CA H (.bool b) v ↔ v = .bl b := by simp only [Rp]
@[simp] theorem rp_int {v : V} {i : Int} : Rp CA H (.int i) v ↔ v = .int i := by simp only [Rp]
@[simp] theorem rp_str {v : V} {x : Str} : Rp CA H (.str x) v ↔ v = .str x := by simp only [Rp]
theorem rp_list {v : V} {ds : List PyData} : Rp CA H (.list ds) v ↔ ∃ a xs, v = .ref a ∧ Rd H a (.lst xs) ∧ RpAll CA H ds xs := by simp only [Rp]
theorem rp_tuple {v : V} {ds : List PyData} : Rp CA H (.tuple ds) v ↔ ∃ a xs, v = .ref a ∧ Rd H a (.tup xs) ∧ RpAll CA H ds xs := by simp only [Rp]
theorem ra_nil {xs : List V} : RpAll CA H [] xs ↔ xs = [] := by simp only [RpAll]
theorem ra_cons {d : PyData} {ds : List PyData} {xs : List V} : RpAll CA H (d :: ds) xs ↔ ∃ v vs, xs = v :: vs ∧ Rp CA H d v ∧ RpAll CA H ds vs := by simp only [RpAll]
theorem RpAll.nil : RpAll CA H [] [] := ra_nil.mpr rfl
theorem RpAll.cons {d : PyData} {ds : List PyData} {v : V} {vs : List V} (h : Rp CA H d v) (t : RpAll CA H ds vs) : RpAll CA H (d :: ds) (v :: vs) := ra_cons.mpr ⟨v, vs, rfl, h, t⟩
theorem RpAll.length : ∀ {ds : List PyData} {xs : List V}, RpAll CA H ds xs → xs.length = ds.length
  | [], _, h => by rw [ra_nil.mp h]; rfl
  | d :: ds, xs, h => by
    obtain ⟨v, vs, rfl, _, t⟩ := ra_cons.mp h
    simp [RpAll.length t]
theorem RpAll.get : ∀ {ds : List PyData} {xs : List V} {i : Nat} {d : PyData}, RpAll CA H ds xs → ds[i]? = some d → ∃ v, xs[i]? = some v ∧ Rp CA H d v
  | [], _, _, _, _, e => by simp at e
  | d :: ds, xs, 0, d', h, e => by
    obtain ⟨v, vs, rfl, h1, t⟩ := ra_cons.mp h
    simp at e
    subst e
    exact ⟨v, rfl, h1⟩
  | d :: ds, xs, i + 1, d', h, e => by
    obtain ⟨v, vs, rfl, h1, t⟩ := ra_cons.mp h
    obtain ⟨w, e1, e2⟩ := RpAll.get (i := i) t (by simpa using e)
    exact ⟨w, by simpa using e1, e2⟩
theorem RpAll.got : ∀ {ds : List PyData} {xs : List V} {i : Nat} {v : V}, RpAll CA H ds xs → xs[i]? = some v → ∃ d, ds[i]? = some d ∧ Rp CA H d v
  | [], _, _, _, h, e => by rw [ra_nil.mp h] at e; simp at e
  | d :: ds, xs, 0, v', h, e => by
    obtain ⟨v, vs, rfl, h1, t⟩ := ra_cons.mp h
    simp at e
    subst e
    exact ⟨d, rfl, h1⟩
  | d :: ds, xs, i + 1, v', h, e => by
    obtain ⟨v, vs, rfl, h1, t⟩ := ra_cons.mp h
    obtain ⟨w, e1, e2⟩ := RpAll.got (i := i) t (by simpa using e)
    exact ⟨w, by simpa using e1, e2⟩
theorem RpAll.append : ∀ {ds es : List PyData} {xs ys : List V}, RpAll CA H ds xs → RpAll CA H es ys → RpAll CA H (ds ++ es) (xs ++ ys)
  | [], _, _, _, h, t => by rw [ra_nil.mp h]; exact t
  | d :: ds, _, _, _, h, t => by
    obtain ⟨v, vs, rfl, h1, h2⟩ := ra_cons.mp h
    exact .cons h1 (RpAll.append h2 t)
theorem RpAll.take : ∀ {ds : List PyData} {xs : List V} (n : Nat), RpAll CA H ds xs → RpAll CA H (ds.take n) (xs.take n)
  | [], _, n, h => by rw [ra_nil.mp h]; simp [RpAll.nil]
  | d :: ds, _, 0, h => by simp [RpAll.nil]
  | d :: ds, _, n + 1, h => by
    obtain ⟨v, vs, rfl, h1, h2⟩ := ra_cons.mp h
    exact .cons h1 (RpAll.take n h2)
theorem RpAll.drop : ∀ {ds : List PyData} {xs : List V} (n : Nat), RpAll CA H ds xs → RpAll CA H (ds.drop n) (xs.drop n)
  | [], _, n, h => by rw [ra_nil.mp h]; simp [RpAll.nil]
  | d :: ds, _, 0, h => h
  | d :: ds, _, n + 1, h => by
    obtain ⟨v, vs, rfl, h1, h2⟩ := ra_cons.mp h
    exact RpAll.drop n h2
theorem RpAll.reverse : ∀ {ds : List PyData} {xs : List V}, RpAll CA H ds xs → RpAll CA H ds.reverse xs.reverse
  | [], _, h => by rw [ra_nil.mp h]; exact .nil
  | d :: ds, _, h => by
    obtain ⟨v, vs, rfl, h1, h2⟩ := ra_cons.mp h
    rw [List.reverse_cons, List.reverse_cons]
    exact (RpAll.reverse h2).append (.cons h1 .nil)
theorem RpAll.rep {ds : List PyData} {xs : List V} (h : RpAll CA H ds xs) : ∀ k : Nat, RpAll CA H (List.replicate k ds).flatten (List.replicate k xs).flatten
  | 0 => .nil
  | k + 1 => by
    rw [List.replicate_succ, List.replicate_succ, List.flatten_cons, List.flatten_cons]
    exact h.append (RpAll.rep h k)
theorem RpAll.set : ∀ {ds : List PyData} {xs : List V} {d : PyData} {v : V} (i : Nat), RpAll CA H ds xs → Rp CA H d v → RpAll CA H (ds.set i d) (xs.set i v)
  | [], _, _, _, _, h, _ => by rw [ra_nil.mp h]; exact .nil
  | _ :: _, _, _, _, 0, h, q => by
    obtain ⟨v, vs, rfl, h1, h2⟩ := ra_cons.mp h
    exact .cons q h2
  | _ :: _, _, _, _, i + 1, h, q => by
    obtain ⟨v, vs, rfl, h1, h2⟩ := ra_cons.mp h
    exact .cons h1 (RpAll.set i h2 q)
theorem RpAll.eraseIdx : ∀ {ds : List PyData} {xs : List V} (i : Nat), RpAll CA H ds xs → RpAll CA H (ds.eraseIdx i) (xs.eraseIdx i)
  | [], _, _, h => by rw [ra_nil.mp h]; exact .nil
  | _ :: _, _, 0, h => by
    obtain ⟨v, vs, rfl, h1, h2⟩ := ra_cons.mp h
    exact h2
  | _ :: _, _, i + 1, h => by
    obtain ⟨v, vs, rfl, h1, h2⟩ := ra_cons.mp h
    exact .cons h1 (RpAll.eraseIdx i h2)
theorem RpAll.ints : ∀ {ns : List Int} {xs : List V}, RpAll CA H (ns.map PyData.int) xs ↔ xs = ns.map V.int
  | [], xs => by simp [ra_nil]
  | n :: ns, xs => by
    rw [List.map_cons, ra_cons, List.map_cons]
    constructor
    · rintro ⟨v, vs, rfl, h1, h2⟩
      rw [rp_int.mp h1, RpAll.ints.mp h2]
    · rintro rfl
      exact ⟨_, _, rfl, rp_int.mpr rfl, RpAll.ints.mpr rfl⟩
theorem RpAll.bools : ∀ {ns : List Bool} {xs : List V}, RpAll CA H (ns.map PyData.bool) xs ↔ xs = ns.map V.bl
  | [], xs => by simp [ra_nil]
  | n :: ns, xs => by
    rw [List.map_cons, ra_cons, List.map_cons]
    constructor
    · rintro ⟨v, vs, rfl, h1, h2⟩
      rw [rp_bool.mp h1, RpAll.bools.mp h2]
    · rintro rfl
      exact ⟨_, _, rfl, rp_bool.mpr rfl, RpAll.bools.mpr rfl⟩
end
/-! the kit's own Dp, for what has no instance within -/
mutual
def plain : PyData → Bool
  | .list ds => plainAll ds
  | .tuple ds => plainAll ds
  | .dict _ => false
  | .none => true
  | .bool _ => true
  | .int _ => true
  | .str _ => true
def plainAll : List PyData → Bool
  | [] => true
  | d :: ds => plain d && plainAll ds
end
mutual
theorem Rp.dp {K : PySem.W.Frag} {H : Hp} : ∀ (d : PyData) (v : V), plain d = true → Rp CA H d v → Dp K H v d
  | .none, v, _, h => by rw [rp_none.mp h]; exact .non
  | .bool b, v, _, h => by rw [rp_bool.mp h]; exact .bl b
  | .int i, v, _, h => by rw [rp_int.mp h]; exact .int i
  | .str x, v, _, h => by rw [rp_str.mp h]; exact .str x
  | .list ds, v, p, h => by
    obtain ⟨a, xs, rfl, h2, h3⟩ := rp_list.mp h
    exact .lst (.inl h2) (Rp.dpAll ds xs (by simpa only [plain] using p) h3)
  | .tuple ds, v, p, h => by
    obtain ⟨a, xs, rfl, h2, h3⟩ := rp_tuple.mp h
    exact .tup (.inl h2) (Rp.dpAll ds xs (by simpa only [plain] using p) h3)
  | .dict _, v, p, _ => by simp [plain] at p
theorem Rp.dpAll {K : PySem.W.Frag} {H : Hp} : ∀ (ds : List PyData) (vs : List V), plainAll ds = true → RpAll CA H ds vs → DpAll K H vs ds
  | [], vs, _, h => by rw [ra_nil.mp h]; exact .nil
  | d :: ds, vs, p, h => by
    obtain ⟨v, w, rfl, h1, h2⟩ := ra_cons.mp h
    simp only [plainAll, Bool.and_eq_true] at p
    exact .cons (Rp.dp d v p.1 h1) (Rp.dpAll ds w p.2 h2)
end
mutual
theorem plain_of_lay : ∀ d : PyData, d.canLay0 = true → plain d = true
  | .none, _ => by simp [plain]
  | .bool _, _ => by simp [plain]
  | .int _, _ => by simp [plain]
  | .str _, _ => by simp [plain]
  | .list ds, h => by simp only [plain]; exact plain_of_layAll ds (by simpa [PyData.canLay0] using h)
  | .tuple ds, h => by simp only [plain]; exact plain_of_layAll ds (by simpa [PyData.canLay0] using h)
  | .dict _, h => by simp [PyData.canLay0] at h
theorem plain_of_layAll : ∀ ds : List PyData, PyData.canLayAll0 ds = true → plainAll ds = true
  | [], _ => by simp [plainAll]
  | d :: ds, h => by
    simp only [PyData.canLayAll0, Bool.and_eq_true] at h
    simp only [plainAll, Bool.and_eq_true]
    exact ⟨plain_of_lay d h.1, plain_of_layAll ds h.2⟩
end
theorem plain_shaped {d : PyData} (h : SeqAt.shaped d = true) : plain d = true := plain_of_lay d (SeqAt.canLay_of_shaped h)
/-- flat: no object at all -/
def flat : PyData → Bool
  | .none => true
  | .bool _ => true
  | .int _ => true
  | .str _ => true
  | _ => false
theorem Rp.flat {H H' : Hp} {v : V} : ∀ {d : PyData}, flat d = true → Rp CA H d v → Rp CA H' d v
  | .none, _, h => rp_none.mpr (rp_none.mp h)
  | .bool _, _, h => rp_bool.mpr (rp_bool.mp h)
  | .int _, _, h => rp_int.mpr (rp_int.mp h)
  | .str _, _, h => rp_str.mpr (rp_str.mp h)
  | .list _, f, _ => by simp [Dz.flat] at f
  | .tuple _, f, _ => by simp [Dz.flat] at f
  | .dict _, f, _ => by simp [Dz.flat] at f
end Dz

set_option Elab.async false
set_option linter.all false
set_option maxRecDepth 100000
set_option maxHeartbeats 4000000
/-! Trees of which a part is our own: lists and instances down to a depth. -/
namespace Dz
open PySem L2
def pflat : PyData → Bool
  | .none => true
  | .bool _ => true
  | .int _ => true
  | .str _ => true
  | _ => false
mutual
/-- v stands for d; down to depth k all lists and instances stand at the addresses fp of H, each but once; what lies deeper stands still in B -/
def OwnR (CA : Cmap) (H B : Hp) : PyData → Nat → V → List Addr → Prop
  | .list ds, 0, v, fp => fp = [] ∧ Rp CA B (.list ds) v
  | .list ds, k + 1, v, fp => ∃ a xs fps, v = .ref a ∧ H a = some (.lst xs) ∧ fp = a :: fps ∧ OwnAll CA H B ds k xs fps
  | .tuple ds, 0, v, fp => fp = [] ∧ Rp CA B (.tuple ds) v
  | .tuple ds, k + 1, v, fp => ∃ a xs, v = .ref a ∧ Rd B a (.tup xs) ∧ OwnAll CA H B ds k xs fp
  | .dict kvs, 0, v, fp => fp = [] ∧ Rp CA B (.dict kvs) v
  | .dict kvs, k + 1, v, fp => ∃ a C dx fs fps, v = .ref a ∧ H a = some (.ins C dx fs) ∧ fp = a :: fps ∧ OwnIns CA H B kvs k C fs fps
  | .none, _, v, fp => fp = [] ∧ Rp CA B .none v
  | .bool b, _, v, fp => fp = [] ∧ Rp CA B (.bool b) v
  | .int i, _, v, fp => fp = [] ∧ Rp CA B (.int i) v
  | .str x, _, v, fp => fp = [] ∧ Rp CA B (.str x) v
def OwnAll (CA : Cmap) (H B : Hp) : List PyData → Nat → List V → List Addr → Prop
  | [], _, xs, fp => xs = [] ∧ fp = []
  | d :: ds, k, xs, fp => ∃ v vs f1 f2, xs = v :: vs ∧ fp = f1 ++ f2 ∧ OwnR CA H B d k v f1 ∧ OwnAll CA H B ds k vs f2
def OwnIns (CA : Cmap) (H B : Hp) : List (PyData × PyData) → Nat → Addr → List (Str × V) → List Addr → Prop
  | [], _, _, _, _ => False
  | (k, _) :: r, n, C, fs, fp => (∃ c, k = .str c ∧ CA.ins c = some C) ∧ OwnFs CA H B r n fs fp
def OwnFs (CA : Cmap) (H B : Hp) : List (PyData × PyData) → Nat → List (Str × V) → List Addr → Prop
  | [], _, fs, fp => fs = [] ∧ fp = []
  | (k, d) :: r, n, fs, fp => ∃ x v fs' f1 f2, fs = (x, v) :: fs' ∧ fp = f1 ++ f2 ∧ k = .str x ∧ OwnR CA H B d n v f1 ∧ OwnFs CA H B r n fs' f2
end
variable {CA : Cmap}
section
variable {H B : Hp}
theorem own0 {d : PyData} {v : V} {fp : List Addr} : OwnR CA H B d 0 v fp ↔ fp = [] ∧ Rp CA B d v := by cases d <;> simp only [OwnR]
theorem own_flat {d : PyData} {k : Nat} {v : V} {fp : List Addr} (h : flat d = true) : OwnR CA H B d k v fp ↔ fp = [] ∧ Rp CA B d v := by cases d <;> cases k <;> simp [flat] at h <;> simp only [OwnR]
theorem own_list {ds : List PyData} {k : Nat} {v : V} {fp : List Addr} : OwnR CA H B (.list ds) (k + 1) v fp ↔ ∃ a xs fps, v = .ref a ∧ H a = some (.lst xs) ∧ fp = a :: fps ∧ OwnAll CA H B ds k xs fps := by simp only [OwnR]
theorem own_tuple {ds : List PyData} {k : Nat} {v : V} {fp : List Addr} : OwnR CA H B (.tuple ds) (k + 1) v fp ↔ ∃ a xs, v = .ref a ∧ Rd B a (.tup xs) ∧ OwnAll CA H B ds k xs fp := by simp only [OwnR]
theorem own_dict {kvs : List (PyData × PyData)} {k : Nat} {v : V} {fp : List Addr} : OwnR CA H B (.dict kvs) (k + 1) v fp ↔ ∃ a C dx fs fps, v = .ref a ∧ H a = some (.ins C dx fs) ∧ fp = a :: fps ∧ OwnIns CA H B kvs k C fs fps := by simp only [OwnR]
theorem oa_nil {k : Nat} {xs : List V} {fp : List Addr} : OwnAll CA H B [] k xs fp ↔ xs = [] ∧ fp = [] := by simp only [OwnAll]
theorem oa_cons {d : PyData} {ds : List PyData} {k : Nat} {xs : List V} {fp : List Addr} : OwnAll CA H B (d :: ds) k xs fp ↔ ∃ v vs f1 f2, xs = v :: vs ∧ fp = f1 ++ f2 ∧ OwnR CA H B d k v f1 ∧ OwnAll CA H B ds k vs f2 := by simp only [OwnAll]
theorem of_nil {k : Nat} {xs : List (Str × V)} {fp : List Addr} : OwnFs CA H B [] k xs fp ↔ xs = [] ∧ fp = [] := by simp only [OwnFs]
theorem of_cons {x d : PyData} {r : List (PyData × PyData)} {n : Nat} {fs : List (Str × V)} {fp : List Addr} : OwnFs CA H B ((x, d) :: r) n fs fp ↔ ∃ y v fs' f1 f2, fs = (y, v) :: fs' ∧ fp = f1 ++ f2 ∧ x = .str y ∧ OwnR CA H B d n v f1 ∧ OwnFs CA H B r n fs' f2 := by simp only [OwnFs]
end
mutual
/-- the same in another heap, if that has what stands at fp -/
theorem OwnR.mono {H B H' B' : Hp} (e : Ext B B') : ∀ (d : PyData) (k : Nat) (v : V) (fp : List Addr), (∀ a ∈ fp, ∀ o, H a = some o → H' a = some o) → OwnR CA H B d k v fp → OwnR CA H' B' d k v fp
  | d, 0, v, fp, _, h => by
    rw [own0] at h ⊢
    exact ⟨h.1, Rp.mono e d v h.2⟩
  | .list ds, k + 1, v, fp, s, h => by
    rw [own_list] at h ⊢
    obtain ⟨a, xs, fps, h1, h2, rfl, h4⟩ := h
    exact ⟨a, xs, fps, h1, s a List.mem_cons_self _ h2, rfl, OwnAll.mono e ds k xs fps (fun b hb => s b (List.mem_cons_of_mem _ hb)) h4⟩
  | .tuple ds, k + 1, v, fp, s, h => by
    rw [own_tuple] at h ⊢
    obtain ⟨a, xs, h1, h2, h4⟩ := h
    exact ⟨a, xs, h1, e.rd h2, OwnAll.mono e ds k xs fp s h4⟩
  | .dict kvs, k + 1, v, fp, s, h => by
    rw [own_dict] at h ⊢
    obtain ⟨a, C, dx, fs, fps, h1, h2, rfl, h4⟩ := h
    exact ⟨a, C, dx, fs, fps, h1, s a List.mem_cons_self _ h2, rfl, OwnIns.mono e kvs k C fs fps (fun b hb => s b (List.mem_cons_of_mem _ hb)) h4⟩
  | .none, k + 1, v, fp, _, h => by
    rw [own_flat rfl] at h ⊢
    exact ⟨h.1, Rp.mono e _ v h.2⟩
  | .bool _, k + 1, v, fp, _, h => by
    rw [own_flat rfl] at h ⊢
    exact ⟨h.1, Rp.mono e _ v h.2⟩
  | .int _, k + 1, v, fp, _, h => by
    rw [own_flat rfl] at h ⊢
    exact ⟨h.1, Rp.mono e _ v h.2⟩
  | .str _, k + 1, v, fp, _, h => by
    rw [own_flat rfl] at h ⊢
    exact ⟨h.1, Rp.mono e _ v h.2⟩
theorem OwnAll.mono {H B H' B' : Hp} (e : Ext B B') : ∀ (ds : List PyData) (k : Nat) (xs : List V) (fp : List Addr), (∀ a ∈ fp, ∀ o, H a = some o → H' a = some o) → OwnAll CA H B ds k xs fp → OwnAll CA H' B' ds k xs fp
  | [], k, xs, fp, _, h => by
    rw [oa_nil] at h ⊢
    exact h
  | d :: ds, k, xs, fp, s, h => by
    rw [oa_cons] at h ⊢
    obtain ⟨v, vs, f1, f2, h1, rfl, h3, h4⟩ := h
    exact ⟨v, vs, f1, f2, h1, rfl, OwnR.mono e d k v f1 (fun a ha => s a (List.mem_append_left _ ha)) h3, OwnAll.mono e ds k vs f2 (fun a ha => s a (List.mem_append_right _ ha)) h4⟩
theorem OwnIns.mono {H B H' B' : Hp} (e : Ext B B') : ∀ (kvs : List (PyData × PyData)) (k : Nat) (C : Addr) (fs : List (Str × V)) (fp : List Addr), (∀ a ∈ fp, ∀ o, H a = some o → H' a = some o) → OwnIns CA H B kvs k C fs fp → OwnIns CA H' B' kvs k C fs fp
  | [], _, _, _, _, _, h => by simpa only [OwnIns] using h
  | (_, _) :: r, k, C, fs, fp, s, h => by
    simp only [OwnIns] at h ⊢
    exact ⟨h.1, OwnFs.mono e r k fs fp s h.2⟩
theorem OwnFs.mono {H B H' B' : Hp} (e : Ext B B') : ∀ (kvs : List (PyData × PyData)) (k : Nat) (fs : List (Str × V)) (fp : List Addr), (∀ a ∈ fp, ∀ o, H a = some o → H' a = some o) → OwnFs CA H B kvs k fs fp → OwnFs CA H' B' kvs k fs fp
  | [], k, fs, fp, _, h => by
    rw [of_nil] at h ⊢
    exact h
  | (x, d) :: r, k, fs, fp, s, h => by
    rw [of_cons] at h ⊢
    obtain ⟨y, v, fs', f1, f2, h1, rfl, h3, h4, h5⟩ := h
    exact ⟨y, v, fs', f1, f2, h1, rfl, h3, OwnR.mono e d k v f1 (fun a ha => s a (List.mem_append_left _ ha)) h4, OwnFs.mono e r k fs' f2 (fun a ha => s a (List.mem_append_right _ ha)) h5⟩
end
mutual
/-- the plain reading -/
theorem OwnR.rp {H B H2 : Hp} (e : Ext B H2) : ∀ (d : PyData) (k : Nat) (v : V) (fp : List Addr), (∀ a ∈ fp, ∀ o, H a = some o → H2 a = some o) → OwnR CA H B d k v fp → Rp CA H2 d v
  | d, 0, v, fp, _, h => Rp.mono e d v (own0.mp h).2
  | .list ds, k + 1, v, fp, s, h => by
    rw [own_list] at h
    obtain ⟨a, xs, fps, h1, h2, rfl, h4⟩ := h
    exact rp_list.mpr ⟨a, xs, h1, .inl (s a List.mem_cons_self _ h2), OwnAll.rp e ds k xs fps (fun b hb => s b (List.mem_cons_of_mem _ hb)) h4⟩
  | .tuple ds, k + 1, v, fp, s, h => by
    rw [own_tuple] at h
    obtain ⟨a, xs, h1, h2, h4⟩ := h
    exact rp_tuple.mpr ⟨a, xs, h1, e.rd h2, OwnAll.rp e ds k xs fp s h4⟩
  | .dict kvs, k + 1, v, fp, s, h => by
    rw [own_dict] at h
    obtain ⟨a, C, dx, fs, fps, h1, h2, rfl, h4⟩ := h
    simp only [Rp]
    exact ⟨a, C, dx, fs, h1, s a List.mem_cons_self _ h2, OwnIns.rp e kvs k C fs fps (fun b hb => s b (List.mem_cons_of_mem _ hb)) h4⟩
  | .none, k + 1, v, fp, _, h => Rp.mono e _ v ((own_flat rfl).mp h).2
  | .bool _, k + 1, v, fp, _, h => Rp.mono e _ v ((own_flat rfl).mp h).2
  | .int _, k + 1, v, fp, _, h => Rp.mono e _ v ((own_flat rfl).mp h).2
  | .str _, k + 1, v, fp, _, h => Rp.mono e _ v ((own_flat rfl).mp h).2
theorem OwnAll.rp {H B H2 : Hp} (e : Ext B H2) : ∀ (ds : List PyData) (k : Nat) (xs : List V) (fp : List Addr), (∀ a ∈ fp, ∀ o, H a = some o → H2 a = some o) → OwnAll CA H B ds k xs fp → RpAll CA H2 ds xs
  | [], k, xs, fp, _, h => ra_nil.mpr (oa_nil.mp h).1
  | d :: ds, k, xs, fp, s, h => by
    rw [oa_cons] at h
    obtain ⟨v, vs, f1, f2, rfl, rfl, h3, h4⟩ := h
    exact .cons (OwnR.rp e d k v f1 (fun a ha => s a (List.mem_append_left _ ha)) h3) (OwnAll.rp e ds k vs f2 (fun a ha => s a (List.mem_append_right _ ha)) h4)
theorem OwnIns.rp {H B H2 : Hp} (e : Ext B H2) : ∀ (kvs : List (PyData × PyData)) (k : Nat) (C : Addr) (fs : List (Str × V)) (fp : List Addr), (∀ a ∈ fp, ∀ o, H a = some o → H2 a = some o) → OwnIns CA H B kvs k C fs fp → RpIns CA H2 kvs C fs
  | [], _, _, _, _, _, h => by simp only [OwnIns] at h
  | (_, _) :: r, k, C, fs, fp, s, h => by
    simp only [OwnIns] at h
    simp only [RpIns]
    exact ⟨h.1, OwnFs.rp e r k fs fp s h.2⟩
theorem OwnFs.rp {H B H2 : Hp} (e : Ext B H2) : ∀ (kvs : List (PyData × PyData)) (k : Nat) (fs : List (Str × V)) (fp : List Addr), (∀ a ∈ fp, ∀ o, H a = some o → H2 a = some o) → OwnFs CA H B kvs k fs fp → RpFs CA H2 kvs fs
  | [], k, fs, fp, _, h => by
    simp only [RpFs]
    exact (of_nil.mp h).1
  | (x, d) :: r, k, fs, fp, s, h => by
    rw [of_cons] at h
    obtain ⟨y, v, fs', f1, f2, h1, rfl, h3, h4, h5⟩ := h
    simp only [RpFs]
    exact ⟨y, v, fs', h1, h3, OwnR.rp e d k v f1 (fun a ha => s a (List.mem_append_left _ ha)) h4, OwnFs.rp e r k fs' f2 (fun a ha => s a (List.mem_append_right _ ha)) h5⟩
end
/-- the addresses of B' are those of B and some of fp -/
def Gives (H B B' : Hp) (fp fp' : List Addr) : Prop := ∀ a ∈ fp, a ∉ fp' → ∀ o, H a = some o → B' a = some o
mutual
/-- less deep: what is let go stands still from now on -/
theorem OwnR.less {H B : Hp} : ∀ (d : PyData) (k j : Nat) (v : V) (fp : List Addr), j ≤ k → fp.Nodup → OwnR CA H B d k v fp → ∃ fp', fp'.Sublist fp ∧ ∀ B', Ext B B' → Gives H B B' fp fp' → OwnR CA H B' d j v fp'
  | d, k, 0, v, fp, _, _, h => ⟨[], List.nil_sublist fp, fun B' e g => own0.mpr ⟨rfl, OwnR.rp e d k v fp (fun a ha => g a ha (by simp)) h⟩⟩
  | .list ds, k + 1, j + 1, v, fp, hj, nd, h => by
    rw [own_list] at h
    obtain ⟨a, xs, fps, h1, h2, rfl, h4⟩ := h
    rw [List.nodup_cons] at nd
    obtain ⟨fp', s, q⟩ := OwnAll.less ds k j xs fps (by omega) nd.2 h4
    refine ⟨a :: fp', s.cons₂ a, fun B' e g => own_list.mpr ⟨a, xs, fp', h1, h2, rfl, q B' e fun b hb nb o ho => g b (List.mem_cons_of_mem _ hb) (fun z => ?_) o ho⟩⟩
    rcases List.mem_cons.mp z with rfl | z
    · exact nd.1 hb
    · exact nb z
  | .tuple ds, k + 1, j + 1, v, fp, hj, nd, h => by
    rw [own_tuple] at h
    obtain ⟨a, xs, h1, h2, h4⟩ := h
    obtain ⟨fp', s, q⟩ := OwnAll.less ds k j xs fp (by omega) nd h4
    exact ⟨fp', s, fun B' e g => own_tuple.mpr ⟨a, xs, h1, e.rd h2, q B' e g⟩⟩
  | .dict kvs, k + 1, j + 1, v, fp, hj, nd, h => by
    rw [own_dict] at h
    obtain ⟨a, C, dx, fs, fps, h1, h2, rfl, h4⟩ := h
    rw [List.nodup_cons] at nd
    obtain ⟨fp', s, q⟩ := OwnIns.less kvs k j C fs fps (by omega) nd.2 h4
    refine ⟨a :: fp', s.cons₂ a, fun B' e g => own_dict.mpr ⟨a, C, dx, fs, fp', h1, h2, rfl, q B' e fun b hb nb o ho => g b (List.mem_cons_of_mem _ hb) (fun z => ?_) o ho⟩⟩
    rcases List.mem_cons.mp z with rfl | z
    · exact nd.1 hb
    · exact nb z
  | .none, k + 1, j + 1, v, fp, hj, nd, h => ⟨fp, List.Sublist.refl fp, fun B' e g => (own_flat rfl).mpr ⟨((own_flat rfl).mp h).1, Rp.mono e _ v ((own_flat rfl).mp h).2⟩⟩
  | .bool _, k + 1, j + 1, v, fp, hj, nd, h => ⟨fp, List.Sublist.refl fp, fun B' e g => (own_flat rfl).mpr ⟨((own_flat rfl).mp h).1, Rp.mono e _ v ((own_flat rfl).mp h).2⟩⟩
  | .int _, k + 1, j + 1, v, fp, hj, nd, h => ⟨fp, List.Sublist.refl fp, fun B' e g => (own_flat rfl).mpr ⟨((own_flat rfl).mp h).1, Rp.mono e _ v ((own_flat rfl).mp h).2⟩⟩
  | .str _, k + 1, j + 1, v, fp, hj, nd, h => ⟨fp, List.Sublist.refl fp, fun B' e g => (own_flat rfl).mpr ⟨((own_flat rfl).mp h).1, Rp.mono e _ v ((own_flat rfl).mp h).2⟩⟩
  | .list _, 0, _ + 1, _, _, hj, _, _ => by omega
  | .tuple _, 0, _ + 1, _, _, hj, _, _ => by omega
  | .dict _, 0, _ + 1, _, _, hj, _, _ => by omega
  | .none, 0, _ + 1, _, _, hj, _, _ => by omega
  | .bool _, 0, _ + 1, _, _, hj, _, _ => by omega
  | .int _, 0, _ + 1, _, _, hj, _, _ => by omega
  | .str _, 0, _ + 1, _, _, hj, _, _ => by omega
theorem OwnAll.less {H B : Hp} : ∀ (ds : List PyData) (k j : Nat) (xs : List V) (fp : List Addr), j ≤ k → fp.Nodup → OwnAll CA H B ds k xs fp → ∃ fp', fp'.Sublist fp ∧ ∀ B', Ext B B' → Gives H B B' fp fp' → OwnAll CA H B' ds j xs fp'
  | [], k, j, xs, fp, _, _, h => ⟨fp, List.Sublist.refl fp, fun B' e g => by rw [oa_nil] at h ⊢; exact h⟩
  | d :: ds, k, j, xs, fp, hj, nd, h => by
    rw [oa_cons] at h
    obtain ⟨v, vs, f1, f2, h1, rfl, h3, h4⟩ := h
    rw [List.nodup_append] at nd
    obtain ⟨n1, n2, n3⟩ := nd
    obtain ⟨g1, s1, q1⟩ := OwnR.less d k j v f1 hj n1 h3
    obtain ⟨g2, s2, q2⟩ := OwnAll.less ds k j vs f2 hj n2 h4
    refine ⟨g1 ++ g2, s1.append s2, fun B' e g => oa_cons.mpr ⟨v, vs, g1, g2, h1, rfl, q1 B' e fun b hb nb o ho => g b (List.mem_append_left _ hb) (fun z => ?_) o ho, q2 B' e fun b hb nb o ho => g b (List.mem_append_right _ hb) (fun z => ?_) o ho⟩⟩
    · rcases List.mem_append.mp z with z | z
      · exact nb z
      · exact n3 b hb b (s2.subset z) rfl
    · rcases List.mem_append.mp z with z | z
      · exact n3 b (s1.subset z) b hb rfl
      · exact nb z
theorem OwnIns.less {H B : Hp} : ∀ (kvs : List (PyData × PyData)) (k j : Nat) (C : Addr) (fs : List (Str × V)) (fp : List Addr), j ≤ k → fp.Nodup → OwnIns CA H B kvs k C fs fp → ∃ fp', fp'.Sublist fp ∧ ∀ B', Ext B B' → Gives H B B' fp fp' → OwnIns CA H B' kvs j C fs fp'
  | [], _, _, _, _, _, _, _, h => by simp only [OwnIns] at h
  | (_, _) :: r, k, j, C, fs, fp, hj, nd, h => by
    simp only [OwnIns] at h
    obtain ⟨fp', s, q⟩ := OwnFs.less r k j fs fp hj nd h.2
    refine ⟨fp', s, fun B' e g => ?_⟩
    simp only [OwnIns]
    exact ⟨h.1, q B' e g⟩
theorem OwnFs.less {H B : Hp} : ∀ (kvs : List (PyData × PyData)) (k j : Nat) (fs : List (Str × V)) (fp : List Addr), j ≤ k → fp.Nodup → OwnFs CA H B kvs k fs fp → ∃ fp', fp'.Sublist fp ∧ ∀ B', Ext B B' → Gives H B B' fp fp' → OwnFs CA H B' kvs j fs fp'
  | [], k, j, fs, fp, _, _, h => ⟨fp, List.Sublist.refl fp, fun B' e g => by rw [of_nil] at h ⊢; exact h⟩
  | (x, d) :: r, k, j, fs, fp, hj, nd, h => by
    rw [of_cons] at h
    obtain ⟨y, v, fs', f1, f2, h1, rfl, h3, h4, h5⟩ := h
    rw [List.nodup_append] at nd
    obtain ⟨n1, n2, n3⟩ := nd
    obtain ⟨g1, s1, q1⟩ := OwnR.less d k j v f1 hj n1 h4
    obtain ⟨g2, s2, q2⟩ := OwnFs.less r k j fs' f2 hj n2 h5
    refine ⟨g1 ++ g2, s1.append s2, fun B' e g => of_cons.mpr ⟨y, v, fs', g1, g2, h1, rfl, h3, q1 B' e fun b hb nb o ho => g b (List.mem_append_left _ hb) (fun z => ?_) o ho, q2 B' e fun b hb nb o ho => g b (List.mem_append_right _ hb) (fun z => ?_) o ho⟩⟩
    · rcases List.mem_append.mp z with z | z
      · exact nb z
      · exact n3 b hb b (s2.subset z) rfl
    · rcases List.mem_append.mp z with z | z
      · exact n3 b (s1.subset z) b hb rfl
      · exact nb z
end
mutual
/-- all below depth k is flat -/
def flatAt : PyData → Nat → Bool
  | .list ds, k + 1 => flatAll ds k
  | .tuple ds, k + 1 => flatAll ds k
  | .dict kvs, k + 1 => flatFs kvs k
  | .none, _ => true
  | .bool _, _ => true
  | .int _, _ => true
  | .str _, _ => true
  | .list _, 0 => false
  | .tuple _, 0 => false
  | .dict _, 0 => false
def flatAll : List PyData → Nat → Bool
  | [], _ => true
  | d :: ds, k => flatAt d k && flatAll ds k
def flatFs : List (PyData × PyData) → Nat → Bool
  | [], _ => true
  | (_, d) :: r, k => flatAt d k && flatFs r k
end
theorem flatAt0 {d : PyData} (h : flatAt d 0 = true) : flat d = true := by cases d <;> simp [flatAt, flat] at h ⊢
mutual
theorem OwnR.deep {H B : Hp} : ∀ (d : PyData) (k j : Nat) (v : V) (fp : List Addr), k ≤ j → flatAt d k = true → OwnR CA H B d k v fp → OwnR CA H B d j v fp
  | .none, _, _, v, fp, _, _, h => (own_flat rfl).mpr ((own_flat rfl).mp h)
  | .bool _, _, _, v, fp, _, _, h => (own_flat rfl).mpr ((own_flat rfl).mp h)
  | .int _, _, _, v, fp, _, _, h => (own_flat rfl).mpr ((own_flat rfl).mp h)
  | .str _, _, _, v, fp, _, _, h => (own_flat rfl).mpr ((own_flat rfl).mp h)
  | .list ds, k + 1, j + 1, v, fp, hj, f, h => by
    rw [own_list] at h ⊢
    obtain ⟨a, xs, fps, h1, h2, h3, h4⟩ := h
    exact ⟨a, xs, fps, h1, h2, h3, OwnAll.deep ds k j xs fps (by omega) (by simpa only [flatAt] using f) h4⟩
  | .tuple ds, k + 1, j + 1, v, fp, hj, f, h => by
    rw [own_tuple] at h ⊢
    obtain ⟨a, xs, h1, h2, h4⟩ := h
    exact ⟨a, xs, h1, h2, OwnAll.deep ds k j xs fp (by omega) (by simpa only [flatAt] using f) h4⟩
  | .dict kvs, k + 1, j + 1, v, fp, hj, f, h => by
    rw [own_dict] at h ⊢
    obtain ⟨a, C, dx, fs, fps, h1, h2, h3, h4⟩ := h
    exact ⟨a, C, dx, fs, fps, h1, h2, h3, OwnIns.deep kvs k j C fs fps (by omega) (by simpa only [flatAt] using f) h4⟩
  | .list ds, 0, _, _, _, _, f, _ => by simp [flatAt] at f
  | .tuple ds, 0, _, _, _, _, f, _ => by simp [flatAt] at f
  | .dict ds, 0, _, _, _, _, f, _ => by simp [flatAt] at f
  | .list ds, k + 1, 0, _, _, hj, f, h => by omega
  | .tuple ds, k + 1, 0, _, _, hj, f, h => by omega
  | .dict ds, k + 1, 0, _, _, hj, f, h => by omega
theorem OwnAll.deep {H B : Hp} : ∀ (ds : List PyData) (k j : Nat) (xs : List V) (fp : List Addr), k ≤ j → flatAll ds k = true → OwnAll CA H B ds k xs fp → OwnAll CA H B ds j xs fp
  | [], k, j, xs, fp, _, _, h => by rw [oa_nil] at h ⊢; exact h
  | d :: ds, k, j, xs, fp, hj, f, h => by
    rw [oa_cons] at h ⊢
    obtain ⟨v, vs, f1, f2, h1, h2, h3, h4⟩ := h
    simp only [flatAll, Bool.and_eq_true] at f
    exact ⟨v, vs, f1, f2, h1, h2, OwnR.deep d k j v f1 hj f.1 h3, OwnAll.deep ds k j vs f2 hj f.2 h4⟩
theorem OwnIns.deep {H B : Hp} : ∀ (kvs : List (PyData × PyData)) (k j : Nat) (C : Addr) (fs : List (Str × V)) (fp : List Addr), k ≤ j → flatFs kvs k = true → OwnIns CA H B kvs k C fs fp → OwnIns CA H B kvs j C fs fp
  | [], _, _, _, _, _, _, _, h => by simp only [OwnIns] at h
  | (_, _) :: r, k, j, C, fs, fp, hj, f, h => by
    simp only [OwnIns] at h ⊢
    simp only [flatFs, Bool.and_eq_true] at f
    exact ⟨h.1, OwnFs.deep r k j fs fp hj f.2 h.2⟩
theorem OwnFs.deep {H B : Hp} : ∀ (kvs : List (PyData × PyData)) (k j : Nat) (fs : List (Str × V)) (fp : List Addr), k ≤ j → flatFs kvs k = true → OwnFs CA H B kvs k fs fp → OwnFs CA H B kvs j fs fp
  | [], k, j, fs, fp, _, _, h => by rw [of_nil] at h ⊢; exact h
  | (x, d) :: r, k, j, fs, fp, hj, f, h => by
    rw [of_cons] at h ⊢
    obtain ⟨y, v, fs', f1, f2, h1, h2, h3, h4, h5⟩ := h
    simp only [flatFs, Bool.and_eq_true] at f
    exact ⟨y, v, fs', f1, f2, h1, h2, h3, OwnR.deep d k j v f1 hj f.1 h4, OwnFs.deep r k j fs' f2 hj f.2 h5⟩
end
end Dz

set_option Elab.async false
set_option linter.all false
set_option maxRecDepth 100000
set_option maxHeartbeats 4000000
/-! A small language of pure expressions over data, and what they are worth. -/
namespace Dz
open PySem L2
inductive BOp | add | sub | mul | fdiv | mod | pow | shr | band
  deriving DecidableEq
inductive COp | eq | ne | lt | le | gt | ge | isin | notin | is | isnot
  deriving DecidableEq
inductive Ty | int | bool | list | tuple | str
  deriving DecidableEq
inductive Bi | len | sum | sorted | sortedR | max2 | maxL | minL | abs | int1 | all | any | isi (t : Ty) | rng1 | rng2 | index
  deriving DecidableEq
inductive Src | seq | range1 | range2 | enum | zip
  deriving DecidableEq
inductive Tg | one (i : Nat) | many (is : List Nat)
  deriving DecidableEq
/-- slots: a datum that stands still; a tree of our own down to a depth, of which no other part speaks -/
inductive Sl | no | fz (d : D) | own (k : Nat) (d : D)
inductive L
  | var (i : Nat) | own (i : Nat) | own1 (i : Nat) | c (d : D)
  | bin (o : BOp) (a b : L) | neg (a : L) | not (a : L) | and (a b : L) | or (a b : L) | ite (t a b : L)
  | cmp (o : COp) (a b : L) | chain (o o' : COp) (a b e : L)
  | ix (a i : L) | slice (a lo hi : L) | rev (a : L) | list1 (a : L)
  | anil | acons (a r : L) | lst (a : L) | tup (a : L)
  | call (b : Bool) (f k : Nat) (a : L) | meth (b : Bool) (m : Str) (tab : List (Str × Nat)) (k : Nat) (o a : L)
  | bi (b : Bi) (a : L)
  | comp (k : Src) (s : L) (g : Tg) (vs : List Nat) (t e : L)
  | fld (a : L) (f : Str) | isC (a : L) (cs : List Str)
  | flat1 (a : L) | rd (a : L)
def isOwn1 : L → Bool
  | .own1 _ => true
  | _ => false
/-- does not speak of what is our own -/
def good : L → Bool
  | .own _ => false
  | .own1 _ => false
  | .rd _ => false
  | .ix a _ => good a || isOwn1 a
  | .fld a _ => good a
  | .and _ b => good b
  | .or _ b => good b
  | .ite _ a b => good a && good b
  | _ => true
/-- how deep a value is new -/
def nw : L → Nat
  | .var _ => 0
  | .own _ => 0
  | .own1 _ => 0
  | .c d => if flat d then 9 else 0
  | .bin _ _ _ => 1
  | .neg _ => 9
  | .not _ => 9
  | .and _ b => nw b
  | .or _ b => nw b
  | .ite _ a b => min (nw a) (nw b)
  | .cmp _ _ _ => 9
  | .chain _ _ _ _ _ => 9
  | .ix _ _ => 0
  | .slice _ _ _ => 1
  | .rev _ => 1
  | .list1 _ => 1
  | .anil => 9
  | .acons a r => min (nw a) (nw r)
  | .lst a => nw a + 1
  | .tup a => nw a + 1
  | .call b _ k _ => if b then 9 else k
  | .meth b _ _ k _ _ => if b then 9 else k
  | .bi _ _ => 9
  | .comp _ _ _ _ _ e => nw e + 1
  | .fld _ _ => 0
  | .isC _ _ => 9
  | .flat1 _ => 9
  | .rd _ => 0
def isRd : L → Bool
  | .rd _ => true
  | _ => false
/-- what an operator may read -/
def okop (l : L) : Bool := good l || isRd l || isOwn1 l
def okA : L → Bool
  | .anil => true
  | .acons a r => okop a && okA r
  | _ => false
def goodA : L → Bool
  | .anil => true
  | .acons a r => good a && goodA r
  | _ => false
def lim (n : Nat) : Bool := decide (n ≤ 100000)
def small (i : Int) : Bool := decide (-(2 ^ 64) < i) && decide (i < 2 ^ 64)
def wide (i : Int) : Bool := decide (i.natAbs < 2 ^ 2000)
def lim63 (i : Int) : Bool := decide (-(2 ^ 62) ≤ i) && decide (i < 2 ^ 62)
def opB : BOp → D → D → Option D
  | .add, .int i, .int j => some (.int (i + j))
  | .add, .list a, .list b => if lim (a.length + b.length) then some (.list (a ++ b)) else none
  | .add, .tuple a, .tuple b => if lim (a.length + b.length) then some (.tuple (a ++ b)) else none
  | .add, .str a, .str b => if lim (a.length + b.length) then some (.str (a ++ b)) else none
  | .sub, .int i, .int j => some (.int (i - j))
  | .mul, .int i, .int j => if small i || small j || (wide i && wide j) then some (.int (i * j)) else none
  | .mul, .list a, .int k => if lim63 k && lim (a.length * k.toNat) then some (.list (List.replicate k.toNat a).flatten) else none
  | .fdiv, .int i, .int j => if decide (0 < j) && decide (j < 1073741824) then some (.int (i / j)) else none
  | .mod, .int i, .int j => if decide (0 < j) then some (.int (i % j)) else none
  | .pow, .int i, .int j => if decide (0 ≤ j) && decide (j ≤ 1000000) && decide (i.natAbs < 2 ^ 64) then some (.int (i ^ j.toNat)) else none
  | .shr, .int i, .int j => if decide (0 ≤ j) then some (.int (i / 2 ^ j.toNat)) else none
  | .band, .int i, .int j => if j = 1 then some (.int (i % 2)) else if j = 3 then some (.int (i % 4)) else none
  | _, _, _ => none
def isNone : D → Bool
  | .none => true
  | _ => false
def ordOk (a b : D) : Bool := PySem.W.alike a b && !isNone a && decide (min a.depth b.depth ≤ 60)
def inD (d : D) (ds : List D) : Bool := ds.any fun z => PyData.eqv z d
def opC : COp → D → D → Option Bool
  | .eq, a, b => if SeqAt.shaped a && SeqAt.shaped b then some (PyData.eqv a b) else none
  | .ne, a, b => if SeqAt.shaped a && SeqAt.shaped b then some (!PyData.eqv a b) else none
  | .lt, .int i, .int j => some (decide (i < j))
  | .le, .int i, .int j => some (decide (i ≤ j))
  | .gt, .int i, .int j => some (decide (j < i))
  | .ge, .int i, .int j => some (decide (j ≤ i))
  | .gt, a, b => if ordOk a b && plain a && plain b then some (PySem.W.dataLt b a) else none
  | .isin, d, .list ds => if SeqAt.shaped d && SeqAt.shaped (.list ds) then some (inD d ds) else none
  | .notin, d, .list ds => if SeqAt.shaped d && SeqAt.shaped (.list ds) then some (!inD d ds) else none
  | .isin, d, .tuple ds => if flat d && ds.all flat then some (inD d ds) else none
  | .notin, d, .tuple ds => if flat d && ds.all flat then some (!inD d ds) else none
  | .is, d, .none => some (isNone d)
  | .isnot, d, .none => some (!isNone d)
  | .is, .bool a, .bool b => some (decide (a = b))
  | .isnot, .bool a, .bool b => some (!decide (a = b))
  | _, _, _ => none
def intsOf : List D → Option (List Int)
  | [] => some []
  | .int i :: r => (intsOf r).map (i :: ·)
  | _ :: _ => none
def boolsOf : List D → Option (List Bool)
  | [] => some []
  | .bool i :: r => (boolsOf r).map (i :: ·)
  | _ :: _ => none
def ins (x : Int) : List Int → List Int
  | [] => [x]
  | y :: r => if x ≤ y then x :: y :: r else y :: ins x r
def isort : List Int → List Int
  | [] => []
  | x :: r => ins x (isort r)
def maxI : Int → List Int → Int
  | m, [] => m
  | m, x :: r => maxI (if m < x then x else m) r
def minI : Int → List Int → Int
  | m, [] => m
  | m, x :: r => minI (if x < m then x else m) r
def isTy : Ty → D → Option Bool
  | _, .dict _ => none
  | .int, .int _ => some true
  | .int, .bool _ => some true
  | .bool, .bool _ => some true
  | .list, .list _ => some true
  | .tuple, .tuple _ => some true
  | .str, .str _ => some true
  | _, _ => some false
def idx? (d : D) : List D → Option Nat
  | [] => none
  | x :: r => if PyData.eqv x d then some 0 else (idx? d r).map (· + 1)
def rangeD (lo : Int) (n : Nat) : List D := (List.range n).map fun (i : Nat) => PyData.int (lo + (i : Int))
def biF : Bi → List D → Option D
  | .len, [.list ds] => some (.int ds.length)
  | .len, [.tuple ds] => some (.int ds.length)
  | .len, [.str x] => if lim x.length then some (.int x.length) else none
  | .sum, [.list ds] => (intsOf ds).map fun ns => .int ns.sum
  | .sorted, [.list ds] => (intsOf ds).map fun ns => .list ((isort ns).map PyData.int)
  | .sortedR, [.list ds] => (intsOf ds).map fun ns => .list ((isort ns).reverse.map PyData.int)
  | .max2, [.int i, .int j] => some (.int (if j > i then j else i))
  | .maxL, [.list ds] => (intsOf ds).bind fun | [] => none | x :: r => some (.int (maxI x r))
  | .minL, [.list ds] => (intsOf ds).bind fun | [] => none | x :: r => some (.int (minI x r))
  | .abs, [.int i] => some (.int (if i < 0 then -i else i))
  | .int1, [.int i] => some (.int i)
  | .int1, [.bool b] => some (.int (if b then 1 else 0))
  | .all, [.list ds] => (boolsOf ds).map fun bs => .bool (bs.all id)
  | .any, [.list ds] => (boolsOf ds).map fun bs => .bool (bs.any id)
  | .isi t, [d] => (isTy t d).map PyData.bool
  | .rng1, [.int n] => if lim63 n && lim n.toNat then some (.list (rangeD 0 n.toNat)) else none
  | .rng2, [.int a, .int b] => if lim63 a && lim63 b && lim (b - a).toNat then some (.list (rangeD a (b - a).toNat)) else none
  | .index, [.list ds, .int i] => (intsOf ds).bind fun _ => (idx? (.int i) ds).map fun (j : Nat) => PyData.int (j : Int)
  | _, _ => none
def pairD (a b : D) : D := .tuple [a, b]
def srcF : Src → List D → Option (List D)
  | .seq, [.list ds] => some ds
  | .seq, [.tuple ds] => some ds
  | .range1, [.int n] => if lim63 n then some (rangeD 0 n.toNat) else none
  | .range2, [.int a, .int b] => if lim63 a && lim63 b then some (rangeD a (b - a).toNat) else none
  | .enum, [.list ds] => some ((List.range ds.length).zipWith (fun (i : Nat) d => pairD (.int (i : Int)) d) ds)
  | .zip, [.list a, .list b] => some (a.zipWith pairD b)
  | _, _ => none
def setAll : List Nat → List D → List Sl → Option (List Sl)
  | [], [], ρ => some ρ
  | i :: is, d :: ds, ρ => setAll is ds (ρ.set i (.fz d))
  | _, _, _ => none
def bindT : Tg → D → List Sl → Option (List Sl)
  | .one i, d, ρ => some (ρ.set i (.fz d))
  | .many is, .tuple ds, ρ => setAll is ds ρ
  | _, _, _ => none
def wipeD (ρ : List Sl) : List Nat → List Sl
  | [] => ρ
  | v :: vs => (wipeD ρ vs).set v .no
def partO : D → Option (Option Int)
  | .none => some none
  | .int i => some (some i)
  | _ => none
def cutD (xs : List D) (lo hi : Option Int) : List D := (xs.drop (HT.sIx xs.length 0 lo)).take (HT.sIx xs.length xs.length hi - HT.sIx xs.length 0 lo)
def sliceF : D → Option Int → Option Int → Option D
  | .list xs, lo, hi => some (.list (cutD xs lo hi))
  | .tuple xs, lo, hi => some (.tuple (cutD xs lo hi))
  | _, _, _ => none
def ixF : D → D → Option D
  | .list ds, .int i => atI ds i
  | .tuple ds, .int i => atI ds i
  | _, _ => none
def unT : Option D → Option (List D)
  | some (.tuple xs) => some xs
  | _ => none
def unB : Option D → Option Bool
  | some (.bool b) => some b
  | _ => none
def compGo (t e : List Sl → Option D) (g : Tg) (ρ : List Sl) : List D → Option (List D)
  | [] => some []
  | x :: r => (bindT g x ρ).bind fun ρ' => (unB (t ρ')).bind fun b => if b then (e ρ').bind fun y => (compGo t e g ρ r).map (y :: ·) else compGo t e g ρ r
def list1F : D → Option D
  | .list ds => some (.list ds)
  | .tuple ds => some (.list ds)
  | _ => none
def clsOf : D → Option Str
  | .dict ((.str c, _) :: _) => some c
  | _ => none
def fldGet : List (D × D) → Str → Option D
  | [], _ => none
  | (k, d) :: r, f => match k with
    | .str n => if n = f then some d else fldGet r f
    | _ => none
def fldF : D → Str → Option D
  | .dict (_ :: r), f => fldGet r f
  | _, _ => none
/-- F: what the defs are worth -/
def evE (F : Nat → List D → Option D) : L → List Sl → Option D
  | .var i, ρ => match ρ[i]? with
    | some (.fz d) => some d
    | _ => none
  | .own i, ρ => match ρ[i]? with
    | some (.own _ d) => some d
    | some (.fz d) => some d
    | _ => none
  | .own1 i, ρ => match ρ[i]? with
    | some (.own 1 d) => (match d with | .list ds => some (.list ds) | _ => none)
    | some (.fz d) => (match d with | .list ds => some (.list ds) | _ => none)
    | _ => none
  | .c d, _ => some d
  | .bin o a b, ρ => (evE F a ρ).bind fun x => (evE F b ρ).bind fun y => opB o x y
  | .neg a, ρ => match evE F a ρ with
    | some (.int i) => some (.int (-i))
    | _ => none
  | .not a, ρ => (unB (evE F a ρ)).map fun b => .bool (!b)
  | .and a b, ρ => (unB (evE F a ρ)).bind fun x => if x then evE F b ρ else some (.bool false)
  | .or a b, ρ => (unB (evE F a ρ)).bind fun x => if x then some (.bool true) else evE F b ρ
  | .ite t a b, ρ => (unB (evE F t ρ)).bind fun x => if x then evE F a ρ else evE F b ρ
  | .cmp o a b, ρ => (evE F a ρ).bind fun x => (evE F b ρ).bind fun y => (opC o x y).map PyData.bool
  | .chain o o' a b e, ρ => (evE F a ρ).bind fun x => (evE F b ρ).bind fun y => (opC o x y).bind fun k => if k then (evE F e ρ).bind fun z => (opC o' y z).map PyData.bool else some (.bool false)
  | .ix a i, ρ => (evE F a ρ).bind fun x => (evE F i ρ).bind fun y => ixF x y
  | .slice a lo hi, ρ => (evE F a ρ).bind fun x => ((evE F lo ρ).bind partO).bind fun l => ((evE F hi ρ).bind partO).bind fun h => sliceF x l h
  | .rev a, ρ => match evE F a ρ with
    | some (.list ds) => some (.list ds.reverse)
    | _ => none
  | .anil, _ => some (.tuple [])
  | .acons a r, ρ => (evE F a ρ).bind fun x => (unT (evE F r ρ)).map fun xs => .tuple (x :: xs)
  | .lst a, ρ => (unT (evE F a ρ)).bind fun xs => if lim xs.length then some (.list xs) else none
  | .tup a, ρ => (unT (evE F a ρ)).bind fun xs => if lim xs.length then some (.tuple xs) else none
  | .list1 a, ρ => (evE F a ρ).bind list1F
  | .call b f k a, ρ => (unT (evE F a ρ)).bind fun xs => (F f xs).bind fun d => if !b || flatAt d k then some d else none
  | .meth b m tab k o a, ρ => (evE F o ρ).bind fun s => (clsOf s).bind fun c => (tab.lookup c).bind fun f => if (fldF s m).isSome then none else (unT (evE F a ρ)).bind fun xs => (F f (s :: xs)).bind fun d => if !b || flatAt d k then some d else none
  | .isC a cs, ρ => (evE F a ρ).bind fun d => (clsOf d).map fun c => .bool (cs.contains c)
  | .flat1 a, ρ => (evE F a ρ).bind fun d => if flatAt d (if good a then nw a else 0) then some d else none
  | .rd a, ρ => (evE F a ρ).bind fun d => if flatAt d 1 then some d else none
  | .bi b a, ρ => (unT (evE F a ρ)).bind fun xs => biF b xs
  | .comp k s g vs t e, ρ => ((unT (evE F s ρ)).bind fun xs => srcF k xs).bind fun items => if lim items.length then (compGo (evE F t) (evE F e) g (wipeD ρ vs) items).map PyData.list else none
  | .fld a f, ρ => (evE F a ρ).bind fun d => fldF d f
end Dz

set_option Elab.async false
set_option linter.all false
set_option maxRecDepth 100000
set_option maxHeartbeats 4000000
namespace Dz
open PySem L2
variable {CA : Cmap}
/-! ### values that stand for data, with O left out -/
/-- what is our own are lists and instances that are there -/
def Sub (O : Addr → Bool) (H : Hp) : Prop := ∀ p, O p = true → (∃ xs, H p = some (.lst xs)) ∨ ∃ C dx fs, H p = some (.ins C dx fs)
def sup (O : Addr → Bool) (fp : List Addr) : Addr → Bool := fun a => O a || decide (a ∈ fp)
theorem sup_nil (O : Addr → Bool) : sup O [] = O := by funext a; simp [sup]
theorem sup_false {O : Addr → Bool} {fp : List Addr} {a : Addr} : sup O fp a = false ↔ O a = false ∧ a ∉ fp := by simp [sup]
theorem sup_true {O : Addr → Bool} {fp : List Addr} {a : Addr} : sup O fp a = true ↔ O a = true ∨ a ∈ fp := by simp [sup]
/-- a value that is new down to depth k -/
def NewQ (CA : Cmap) (O : Addr → Bool) (H H' : Hp) (k : Nat) (d : D) (v : V) : Prop := ∃ fp : List Addr, fp.Nodup ∧ (∀ a ∈ fp, H a = none) ∧ OwnR CA H' (off (sup O fp) H') d k v fp
/-- what an operator may read -/
def VL (CA : Cmap) (O : Addr → Bool) (H : Hp) (d : D) (v : V) : Prop := Rp CA (off O H) d v ∨ (flatAt d 1 = true ∧ Rp CA H d v) ∨ ∃ ds a xs, d = .list ds ∧ v = .ref a ∧ Rd H a (.lst xs) ∧ RpAll CA (off O H) ds xs
/-- a list of our own whose items stand still -/
def Own1 (CA : Cmap) (O : Addr → Bool) (H : Hp) (d : D) (v : V) : Prop := ∀ ds, d = .list ds → ∃ a xs, v = .ref a ∧ Rd H a (.lst xs) ∧ RpAll CA (off O H) ds xs
/-- what an expression leaves -/
def VR (CA : Cmap) (O : Addr → Bool) (H H' : Hp) (l : L) (d : D) (v : V) : Prop := if good l = true then NewQ CA O H H' (nw l) d v else Rp CA H' d v ∧ (isRd l = true → flatAt d 1 = true) ∧ (isOwn1 l = true → Own1 CA O H' d v ∧ ∃ ds, d = .list ds)
section
variable {O : Addr → Bool} {H H' H'' : Hp} {d : D} {v : V} {k : Nat} {l : L}
theorem Sub.some (h : Sub O H) {p : Addr} (q : O p = true) : ∃ o, H p = some o := by
  rcases h p q with ⟨xs, e⟩ | ⟨C, dx, fs, e⟩ <;> exact ⟨_, e⟩
theorem Sub.ext (h : Sub O H) (e : Ext H H') : Sub O H' := fun p q => by
  rcases h p q with ⟨xs, x⟩ | ⟨C, dx, fs, x⟩
  · exact .inl ⟨xs, e _ _ x⟩
  · exact .inr ⟨C, dx, fs, e _ _ x⟩
theorem Sub.new (h : Sub O H) {p : Addr} (n : H p = none) : O p = false := by
  cases q : O p with
  | false => rfl
  | true =>
    obtain ⟨o, x⟩ := h.some q
    rw [n] at x
    cases x
theorem Sub.tup (h : Sub O H) {p : Addr} {xs : List V} (r : Rd H p (.tup xs)) : Rd (off O H) p (.tup xs) := by
  have q : O p = false := by
    cases q : O p with
    | false => rfl
    | true =>
      rcases h p q with ⟨ys, x⟩ | ⟨C, dx, fs, x⟩ <;> rcases r with r | ⟨o, r⟩ <;> (rw [x] at r; cases r)
  rcases r with r | ⟨o, r⟩
  · exact .inl (off_some.mpr ⟨q, r⟩)
  · exact .inr ⟨o, off_some.mpr ⟨q, r⟩⟩
theorem rd_off {O : Addr → Bool} {H : Hp} {a : Addr} {u : HO} (h : Rd (off O H) a u) : Rd H a u := (off_ext O H).rd h
theorem off_sup_ext {fp : List Addr} : Ext (off (sup O fp) H) (off O H) := off_le fun a q => sup_true.mpr (.inl q)
theorem oa0 {B : Hp} : ∀ {ds : List D} {xs : List V} {fp : List Addr}, OwnAll CA H B ds 0 xs fp ↔ fp = [] ∧ RpAll CA B ds xs
  | [], xs, fp => by rw [oa_nil, ra_nil]; exact And.comm
  | d :: ds, xs, fp => by
    rw [oa_cons, ra_cons]
    constructor
    · rintro ⟨v, vs, f1, f2, h1, rfl, h3, h4⟩
      obtain ⟨rfl, h3'⟩ := own0.mp h3
      obtain ⟨rfl, h4'⟩ := oa0.mp h4
      exact ⟨rfl, v, vs, h1, h3', h4'⟩
    · rintro ⟨rfl, v, vs, h1, h3, h4⟩
      exact ⟨v, vs, [], [], h1, rfl, own0.mpr ⟨rfl, h3⟩, oa0.mpr ⟨rfl, h4⟩⟩
def Kind (H : Hp) (p : Addr) : Prop := (∃ xs, H p = some (.lst xs)) ∨ ∃ C dx fs, H p = some (.ins C dx fs)
theorem Kind.some {p : Addr} (h : Kind H p) : ∃ o, H p = some o := by rcases h with ⟨xs, e⟩ | ⟨C, dx, fs, e⟩ <;> exact ⟨_, e⟩
theorem OwnR.here : ∀ {d : D} {k : Nat} {v : V} {fp : List Addr} {B : Hp}, OwnR CA H B d k v fp → ∀ a ∈ fp, Kind H a
  | d, 0, v, fp, B, h => by rw [(own0.mp h).1]; intro a ha; cases ha
  | .list ds, k + 1, v, fp, B, h => by
    obtain ⟨a, xs, fps, h1, h2, rfl, h4⟩ := own_list.mp h
    intro b hb
    rcases List.mem_cons.mp hb with rfl | hb
    · exact .inl ⟨_, h2⟩
    · exact go ds k xs fps B h4 b hb
  | .tuple ds, k + 1, v, fp, B, h => by
    obtain ⟨a, xs, h1, h2, h4⟩ := own_tuple.mp h
    exact go ds k xs fp B h4
  | .dict kvs, k + 1, v, fp, B, h => by
    obtain ⟨a, C, dx, fs, fps, h1, h2, rfl, h4⟩ := own_dict.mp h
    intro b hb
    rcases List.mem_cons.mp hb with rfl | hb
    · exact .inr ⟨_, _, _, h2⟩
    · match kvs, h4 with
      | (_, _) :: r, h4 =>
        simp only [OwnIns] at h4
        exact gof r k fs fps B h4.2 b hb
  | .none, k + 1, v, fp, B, h => by rw [((own_flat rfl).mp h).1]; intro a ha; cases ha
  | .bool _, k + 1, v, fp, B, h => by rw [((own_flat rfl).mp h).1]; intro a ha; cases ha
  | .int _, k + 1, v, fp, B, h => by rw [((own_flat rfl).mp h).1]; intro a ha; cases ha
  | .str _, k + 1, v, fp, B, h => by rw [((own_flat rfl).mp h).1]; intro a ha; cases ha
where
  go : ∀ (ds : List D) (k : Nat) (xs : List V) (fp : List Addr) (B : Hp), OwnAll CA H B ds k xs fp → ∀ a ∈ fp, Kind H a
    | [], k, xs, fp, B, h => by rw [(oa_nil.mp h).2]; intro a ha; cases ha
    | d :: ds, k, xs, fp, B, h => by
      obtain ⟨v, vs, f1, f2, h1, rfl, h3, h4⟩ := oa_cons.mp h
      intro a ha
      rcases List.mem_append.mp ha with ha | ha
      · exact OwnR.here h3 a ha
      · exact go ds k vs f2 B h4 a ha
  gof : ∀ (ds : List (D × D)) (k : Nat) (xs : List (Str × V)) (fp : List Addr) (B : Hp), OwnFs CA H B ds k xs fp → ∀ a ∈ fp, Kind H a
    | [], k, xs, fp, B, h => by rw [(of_nil.mp h).2]; intro a ha; cases ha
    | (x, d) :: ds, k, xs, fp, B, h => by
      obtain ⟨y, v, vs, f1, f2, h1, rfl, h0, h3, h4⟩ := of_cons.mp h
      intro a ha
      rcases List.mem_append.mp ha with ha | ha
      · exact OwnR.here h3 a ha
      · exact gof ds k vs f2 B h4 a ha
theorem NewQ.of (r : Rp CA (off O H') d v) : NewQ CA O H H' 0 d v := ⟨[], .nil, fun _ h => (by cases h), own0.mpr ⟨rfl, by rw [sup_nil]; exact r⟩⟩
theorem NewQ.flat (f : flat d = true) (r : Rp CA H'' d v) : NewQ CA O H H' k d v := ⟨[], .nil, fun _ h => (by cases h), (own_flat f).mpr ⟨rfl, Rp.flat f r⟩⟩
theorem NewQ.ext (e : Ext H' H'') (h : NewQ CA O H H' k d v) : NewQ CA O H H'' k d v := by
  obtain ⟨fp, n, f, o⟩ := h
  exact ⟨fp, n, f, OwnR.mono e.off d k v fp (fun a _ o x => e a o x) o⟩
theorem NewQ.back (e : Ext H H') (h : NewQ CA O H' H'' k d v) : NewQ CA O H H'' k d v := by
  obtain ⟨fp, n, f, o⟩ := h
  exact ⟨fp, n, fun a ha => e.back (f a ha), o⟩
theorem NewQ.rp (s : Sub O H) (h : NewQ CA O H H' k d v) : Rp CA (off O H') d v := by
  obtain ⟨fp, n, f, o⟩ := h
  exact OwnR.rp off_sup_ext d k v fp (fun a ha u x => off_some.mpr ⟨s.new (f a ha), x⟩) o
theorem NewQ.less {j : Nat} (sb : Sub O H) (hj : j ≤ k) (h : NewQ CA O H H' k d v) : NewQ CA O H H' j d v := by
  obtain ⟨fp, n, f, o⟩ := h
  obtain ⟨fp', s, q⟩ := OwnR.less d k j v fp hj n o
  refine ⟨fp', n.sublist s, fun a ha => f a (s.subset ha), q _ (off_le fun a z => ?_) fun a ha na u x => ?_⟩
  · rcases sup_true.mp z with z | z
    · exact sup_true.mpr (.inl z)
    · exact sup_true.mpr (.inr (s.subset z))
  · exact off_some.mpr ⟨sup_false.mpr ⟨sb.new (f a ha), na⟩, x⟩
theorem NewQ.deep {j : Nat} (sb : Sub O H) (f : flatAt d k = true) (h : NewQ CA O H H' k d v) : NewQ CA O H H' j d v := by
  by_cases hj : k ≤ j
  · obtain ⟨fp, n, q, o⟩ := h
    exact ⟨fp, n, q, OwnR.deep d k j v fp hj f o⟩
  · exact h.less sb (by omega)
theorem VL.ext (e : Ext H H') (h : VL CA O H d v) : VL CA O H' d v := by
  rcases h with r | r | ⟨ds, a, xs, h1, h2, h3, h4⟩
  · exact .inl (Rp.mono e.off d v r)
  · exact .inr (.inl ⟨r.1, Rp.mono e d v r.2⟩)
  · exact .inr (.inr ⟨ds, a, xs, h1, h2, e.rd h3, RpAll.mono e.off ds xs h4⟩)
theorem VL.rp (h : VL CA O H d v) : Rp CA H d v := by
  rcases h with r | r | ⟨ds, a, xs, h1, h2, h3, h4⟩
  · exact Rp.mono (off_ext O H) d v r
  · exact r.2
  · rw [h1, h2]
    exact rp_list.mpr ⟨a, xs, rfl, h3, RpAll.mono (off_ext O H) ds xs h4⟩
theorem Own1.ext (e : Ext H H') (h : Own1 CA O H d v) : Own1 CA O H' d v := fun ds q => let ⟨a, xs, h1, h2, h3⟩ := h ds q; ⟨a, xs, h1, e.rd h2, RpAll.mono e.off ds xs h3⟩
theorem RpAll.flats {H H' : Hp} : ∀ {ds : List D} {xs : List V}, flatAll ds 0 = true → RpAll CA H ds xs → RpAll CA H' ds xs
  | [], _, _, h => by rw [ra_nil] at h ⊢; exact h
  | d :: ds, _, f, h => by
    obtain ⟨v, vs, rfl, h1, h2⟩ := ra_cons.mp h
    simp only [flatAll, Bool.and_eq_true] at f
    exact .cons (Rp.flat (flatAt0 f.1) h1) (RpAll.flats f.2 h2)
theorem VL.list {ds : List D} (h : VL CA O H (.list ds) v) : ∃ a xs, v = .ref a ∧ Rd H a (.lst xs) ∧ RpAll CA (off O H) ds xs := by
  rcases h with h | ⟨f, h⟩ | ⟨ds', a, xs, h1, h2, h3, h4⟩
  · obtain ⟨a, xs, h1, h2, h3⟩ := rp_list.mp h
    exact ⟨a, xs, h1, rd_off h2, h3⟩
  · obtain ⟨a, xs, h1, h2, h3⟩ := rp_list.mp h
    exact ⟨a, xs, h1, h2, RpAll.flats (by simpa only [flatAt] using f) h3⟩
  · cases h1
    exact ⟨a, xs, h2, h3, h4⟩
theorem VL.tuple {ds : List D} (sb : Sub O H) (h : VL CA O H (.tuple ds) v) : ∃ a xs, v = .ref a ∧ Rd H a (.tup xs) ∧ RpAll CA (off O H) ds xs ∧ Rp CA (off O H) (.tuple ds) v := by
  rcases h with h | ⟨f, h⟩ | ⟨ds', a, xs, h1, _⟩
  · obtain ⟨a, xs, h1, h2, h3⟩ := rp_tuple.mp h
    exact ⟨a, xs, h1, rd_off h2, h3, h⟩
  · obtain ⟨a, xs, h1, h2, h3⟩ := rp_tuple.mp h
    have h4 : RpAll CA (off O H) ds xs := RpAll.flats (by simpa only [flatAt] using f) h3
    exact ⟨a, xs, h1, h2, h4, rp_tuple.mpr ⟨a, xs, h1, sb.tup h2, h4⟩⟩
  · cases h1
theorem VL.int {i : Int} (h : VL CA O H (.int i) v) : v = .int i := rp_int.mp h.rp
theorem VL.bool {b : Bool} (h : VL CA O H (.bool b) v) : v = .bl b := rp_bool.mp h.rp
theorem VL.str {x : Str} (h : VL CA O H (.str x) v) : v = .str x := rp_str.mp h.rp
theorem VR.good (g : good l = true) : VR CA O H H' l d v ↔ NewQ CA O H H' (nw l) d v := by unfold VR; rw [if_pos g]
theorem VR.rp (s : Sub O H) (h : VR CA O H H' l d v) : Rp CA H' d v := by
  unfold VR at h
  split at h
  · exact Rp.mono (off_ext O H') d v (h.rp s)
  · exact h.1
theorem VR.vl (s : Sub O H) (g : okop l = true) (h : VR CA O H H' l d v) : VL CA O H' d v := by
  unfold VR at h
  split at h
  · exact .inl (h.rp s)
  · rename_i q
    unfold okop at g
    simp only [Bool.or_eq_true] at g
    rcases g with (g | g) | g
    · exact absurd g q
    · exact .inr (.inl ⟨h.2.1 g, h.1⟩)
    · obtain ⟨h1, ds, h2⟩ := h.2.2 g
      obtain ⟨a, xs, q1, q2, q3⟩ := h1 ds h2
      exact .inr (.inr ⟨ds, a, xs, h2, q1, q2, q3⟩)
theorem VR.ext (e : Ext H' H'') (h : VR CA O H H' l d v) : VR CA O H H'' l d v := by
  unfold VR at h ⊢
  split at h
  · rename_i g
    rw [if_pos g]
    exact h.ext e
  · rename_i g
    rw [if_neg g]
    exact ⟨Rp.mono e d v h.1, h.2.1, fun z => ⟨(h.2.2 z).1.ext e, (h.2.2 z).2⟩⟩
theorem VR.back (e : Ext H H') (h : VR CA O H' H'' l d v) : VR CA O H H'' l d v := by
  unfold VR at h ⊢
  split at h
  · rename_i g
    rw [if_pos g]
    exact h.back e
  · rename_i g
    rw [if_neg g]
    exact h
theorem VR.int (s : Sub O H) {i : Int} (h : VR CA O H H' l (.int i) v) : v = .int i := rp_int.mp (h.rp s)
theorem VR.bool (s : Sub O H) {b : Bool} (h : VR CA O H H' l (.bool b) v) : v = .bl b := rp_bool.mp (h.rp s)
theorem VR.flat (f : flat d = true) (r : Rp CA H'' d v) (n : isRd l = false) (n1 : isOwn1 l = false) : VR CA O H H' l d v := by
  unfold VR
  split
  · exact .flat f r
  · exact ⟨Rp.flat f r, (fun z => by rw [n] at z; cases z), (fun z => by rw [n1] at z; cases z)⟩
theorem off_new {p : Addr} {o : HO} {fp : List Addr} (n : H p = Option.none) (hf : ∀ a ∈ fp, a = p) : Ext (off O H) (off (sup O fp) (upd H p o)) := fun a u h => by
  obtain ⟨h1, h2⟩ := off_some.mp h
  have ne : a ≠ p := ne_of_none h2 n
  exact off_some.mpr ⟨sup_false.mpr ⟨h1, fun z => ne (hf a z)⟩, by rw [upd_ne ne]; exact h2⟩
theorem new_lst {p : Addr} {ds : List D} {xs : List V} (n : H p = Option.none) (h : RpAll CA (off O H) ds xs) : NewQ CA O H (upd H p (.lst xs)) 1 (.list ds) (.ref p) :=
  ⟨[p], by simp, fun a ha => by rw [List.mem_singleton.mp ha]; exact n, own_list.mpr ⟨p, xs, [], rfl, upd_same, rfl, oa0.mpr ⟨rfl, RpAll.mono (off_new n fun a ha => List.mem_singleton.mp ha) ds xs h⟩⟩⟩
theorem new_tup {p : Addr} {ds : List D} {xs : List V} (s : Sub O H) (n : H p = Option.none) (h : RpAll CA (off O H) ds xs) : NewQ CA O H (upd H p (.tup xs)) 1 (.tuple ds) (.ref p) :=
  ⟨[], .nil, fun _ h => (by cases h), own_tuple.mpr ⟨p, xs, rfl, .inl (off_some.mpr ⟨by rw [sup_nil]; exact s.new n, upd_same⟩), oa0.mpr ⟨rfl, RpAll.mono (off_new n fun a ha => by cases ha) ds xs h⟩⟩⟩
theorem same_tup {ds : List D} (h : Rp CA (off O H) (.tuple ds) v) : NewQ CA O H H 1 (.tuple ds) v := by
  obtain ⟨a, xs, h1, h2, h3⟩ := rp_tuple.mp h
  exact ⟨[], .nil, fun _ h => (by cases h), own_tuple.mpr ⟨a, xs, h1, by rw [sup_nil]; exact h2, oa0.mpr ⟨rfl, by rw [sup_nil]; exact h3⟩⟩⟩
theorem new_flats {p : Addr} {ds : List D} {xs : List V} (sb : Sub O H) (n : H p = Option.none) (f : flatAll ds 0 = true) (h : RpAll CA (off O H) ds xs) (k : Nat) : NewQ CA O H (upd H p (.lst xs)) k (.list ds) (.ref p) :=
  (new_lst n h).deep sb (by simpa only [flatAt] using f)
theorem flat_ints : ∀ ns : List Int, flatAll (ns.map PyData.int) 0 = true
  | [] => rfl
  | n :: ns => by rw [List.map_cons, flatAll, flat_ints ns]; rfl
theorem lim_line {n : Nat} (h : lim n = true) : n ≤ sizeLine := Nat.le_trans (of_decide_eq_true h) (by decide)
theorem lim_lt {n : Nat} (h : lim n = true) : n < sizeLine := Nat.lt_of_le_of_lt (of_decide_eq_true h) (by decide)
end
/-- what is wanted of a new value -/
abbrev Wants (CA : Cmap) (O : Addr → Bool) (H : Hp) (Q : VK) (k : Nat) (d : D) : Prop := ∀ z H', Ext H H' → NewQ CA O H H' k d z → Q z H'
/-! ### lists that are read, tracked or known -/
section
variable {X : Cx} {pins : List (Addr × Obj)} {σ : St} {H : Hp} {s : Shared}
theorem rdL (I : Inv X pins σ H s) {l : Addr} {xs : List V} (hH : Rd H l (.lst xs)) : xs.length ≤ sizeLine ∧ ∃ (its : List Value) (n : Nat), Vals xs its ∧ xs.length = its.length ∧ s.heap.get? l = some { cls := .type "list", data := .seq its.toArray n } := by
  obtain ⟨z, its, n, r, e⟩ := hH.ok I.hok
  exact ⟨z, its, n, r, r.length, e⟩
def rCatR : R2 := fun x y H Q => ∃ l b xs zs, x = .ref l ∧ y = .ref b ∧ Rd H l (.lst xs) ∧ Rd H b (.lst zs) ∧ xs.length + zs.length ≤ sizeLine ∧ ∀ p, H p = none → Q (.ref p) (upd H p (.lst (xs ++ zs)))
theorem op_catR : OpR X (binaryOp .Add) rCatR := by
  intro pins s σ H x y v u Q I rx ry h
  obtain ⟨l, b, xs, zs, rfl, rfl, hH, hB, hz, q⟩ := h
  cases rx
  cases ry
  obtain ⟨z, its, n, r, hl, e⟩ := rdL I hH
  obtain ⟨z2, its2, n2, r2, hl2, e2⟩ := rdL I hB
  refine PySem.P.add_list e e2 ?_ (by rw [List.size_toArray, List.size_toArray]; omega)
  have ea : its.toArray ++ its2.toArray = (its ++ its2).toArray := by simp
  rw [ea]
  exact ⟨.ref _, _, I.lnew (t' := s.toks) (r.append r2) (by rw [List.length_append]; omega), rfl, q _ I.fresh⟩
end
/-! the repetition of a list that is read -/
open PySem PySem.Spec PyProof.Rows in
theorem op_repR {X : Cx} : OpR X (binaryOp .Mult) (fun x y H Q => ∃ l k xs, x = .ref l ∧ y = .int k ∧ Rd H l (.lst xs) ∧ -(2 ^ 63) ≤ k ∧ k < 2 ^ 63 ∧ xs.length * k.toNat ≤ sizeLine ∧
  ∀ p, H p = none → Q (.ref p) (upd H p (.lst (List.replicate k.toNat xs).flatten))) := by
  intro pins s σ H x y v u Q I rx ry h
  obtain ⟨l, k, xs, rfl, rfl, hH, h1, h2, hz, q⟩ := h
  cases rx
  obtain ⟨t, rfl⟩ := ry
  obtain ⟨z, its, n, r, hl, e⟩ := rdL I hH
  have hlen : its.toArray.size * k.toNat ≤ sizeLine := by rw [List.size_toArray, ← hl]; exact hz
  have hcap : ¬ its.toArray.size * k.toNat > (2 ^ 63 - 1) / 8 := by
    have : (sizeLine : Nat) ≤ (2 ^ 63 - 1) / 8 := by decide
    omega
  have hfit : ¬ (!Builtin.List.listFitsIndex k) = true := by
    rw [fitsIndex_both h1 h2]
    exact Bool.false_ne_true
  have hlong : ¬ Builtin.List.listTooLong (its.toArray.size * k.toNat) = true := by
    rw [notLongL hlen]
    exact Bool.false_ne_true
  have hnew : List.foldl (fun x1 x2 => x1 ++ x2) #[] (List.replicate (if its.toArray.isEmpty = true then 0 else k.toNat) its.toArray) = (List.replicate k.toNat its).flatten.toArray := by
    have f0 : ∀ m : Nat, List.foldl (fun x1 x2 => x1 ++ x2) #[] (List.replicate m its.toArray) = (List.replicate m its).flatten.toArray := fun m => by
      have := foldl_rep its m []
      rw [List.nil_append] at this
      exact this
    rw [f0]
    cases its with
    | nil => simp
    | cons a r' => rw [if_neg (by simp)]
  refine wpAny_binaryOp_repeat_ref (T := "list") (U := "int") (by decide) ⟨_, e, rfl⟩ (fun s' => typeIs_int s' k t) noFill_list_mul F.fills_int_mul F.slot_int_rmul repeat_list F.slot_int_index.lookup
    (call_meets F.slot_int_rmul (typeIs_int s k t) F.entry_int_rmul (F.args_int_rmul_2 _ _) (int___rmul___int_list k t l its.toArray n)
      ⟨e, rfl, ⟨_, e, rfl⟩, call_meets F.slot_list_mul ⟨_, e, rfl⟩ F.entry_list_mul (F.args_list_mul_2 _ _) (AutoListH.list___mul___list_int_3 l its.toArray n k t hfit hcap hlong) ⟨e, ?_⟩⟩)
  rw [hnew]
  exact ⟨.ref _, _, I.lnew (t' := s.toks) (r.rep k.toNat) (by rw [PyProof.Rows.lm_len_rep_flat, Nat.mul_comm]; exact hz), rfl, q _ I.fresh⟩
/-! ### binary operators -/
def opPy : BOp → Operator
  | .add => .Add
  | .sub => .Sub
  | .mul => .Mult
  | .fdiv => .FloorDiv
  | .mod => .Mod
  | .pow => .Pow
  | .shr => .RShift
  | .band => .BitAnd
def rB (CA : Cmap) (o : BOp) : R2 := fun x y H Q => ∃ O dx dy d, Sub O H ∧ VL CA O H dx x ∧ VL CA O H dy y ∧ opB o dx dy = some d ∧ Wants CA O H Q 1 d
theorem wants_int {O : Addr → Bool} {H : Hp} {Q : VK} {i : Int} {k : Nat} (h : Wants CA O H Q k (.int i)) : Q (.int i) H := h _ _ (Ext.refl H) (.flat rfl (H'' := H) (rp_int.mpr rfl))
theorem wants_bool {O : Addr → Bool} {H : Hp} {Q : VK} {i : Bool} {k : Nat} (h : Wants CA O H Q k (.bool i)) : Q (.bl i) H := h _ _ (Ext.refl H) (.flat rfl (H'' := H) (rp_bool.mpr rfl))
theorem opB_ok {X : Cx} {o : BOp} : OpR X (binaryOp (opPy o)) (rB CA o) := by
  intro pins s σ H x y v u Q I rx ry h
  obtain ⟨O, dx, dy, d, sb, h1, h2, ho, k⟩ := h
  cases o with
  | add =>
    cases dx <;> cases dy <;> simp only [opB, Option.ite_none_right_eq_some, Option.some.injEq, reduceCtorEq] at ho
    · subst ho
      rw [h1.int] at rx
      rw [h2.int] at ry
      exact op_add pins s σ H _ _ v u Q I rx ry ⟨_, _, rfl, rfl, wants_int k⟩
    · obtain ⟨hl, rfl⟩ := ho
      rw [h1.str] at rx
      rw [h2.str] at ry
      exact op_add_str pins s σ H _ _ v u Q I rx ry ⟨_, _, rfl, rfl, lim_line hl, k _ _ (Ext.refl H) (.flat rfl (H'' := H) (rp_str.mpr rfl))⟩
    · obtain ⟨hl, rfl⟩ := ho
      obtain ⟨a, xs, rfl, ha, ra⟩ := h1.list
      obtain ⟨b, ys, rfl, hb, rb⟩ := h2.list
      refine op_catR pins s σ H _ _ v u Q I rx ry ⟨a, b, xs, ys, rfl, rfl, ha, hb, ?_, fun p hp => k _ _ (Ext.new hp) (new_lst hp (ra.append rb))⟩
      rw [ra.length, rb.length]
      exact lim_line hl
    · obtain ⟨hl, rfl⟩ := ho
      obtain ⟨a, xs, rfl, ha, ra, wa⟩ := h1.tuple sb
      obtain ⟨b, ys, rfl, hb, rb, wb⟩ := h2.tuple sb
      refine op_catA pins s σ H _ _ v u Q I rx ry ⟨a, b, xs, ys, rfl, rfl, .inl ha, .inl hb, ?_, fun z => k _ _ (Ext.refl H) (same_tup ?_), fun z z2 => k _ _ (Ext.refl H) (same_tup ?_), fun _ _ p hp => k _ _ (Ext.new hp) (new_tup sb hp (ra.append rb))⟩
      · rw [ra.length, rb.length]
        exact lim_line hl
      · subst z
        rename_i as bs
        have : as = [] := by
          have := ra.length
          exact List.eq_nil_of_length_eq_zero (by simpa using this.symm)
        subst this
        exact wb
      · subst z2
        rename_i as bs
        have : bs = [] := by
          have := rb.length
          exact List.eq_nil_of_length_eq_zero (by simpa using this.symm)
        subst this
        rw [List.append_nil]
        exact wa
  | sub =>
    cases dx <;> cases dy <;> simp only [opB, Option.ite_none_right_eq_some, Option.some.injEq, reduceCtorEq] at ho
    subst ho
    rw [h1.int] at rx
    rw [h2.int] at ry
    exact op_sub pins s σ H _ _ v u Q I rx ry ⟨_, _, rfl, rfl, wants_int k⟩
  | mul =>
    cases dx <;> cases dy <;> simp only [opB, Option.ite_none_right_eq_some, Option.some.injEq, reduceCtorEq] at ho
    · obtain ⟨hc, rfl⟩ := ho
      rw [h1.int] at rx
      rw [h2.int] at ry
      simp only [Bool.or_eq_true, Bool.and_eq_true, small, wide, decide_eq_true_eq] at hc
      rcases hc with hc | ⟨hc1, hc2⟩
      · exact op_mul pins s σ H _ _ v u Q I rx ry ⟨_, _, rfl, rfl, hc, wants_int k⟩
      · exact op_mulX pins s σ H _ _ v u Q I rx ry ⟨_, _, rfl, rfl, mulx_ok hc1 hc2 (by decide), wants_int k⟩
    · obtain ⟨hc, rfl⟩ := ho
      rw [h2.int] at ry
      obtain ⟨a, xs, rfl, ha, ra⟩ := h1.list
      simp only [Bool.and_eq_true, lim63, decide_eq_true_eq] at hc
      refine op_repR pins s σ H _ _ v u Q I rx ry ⟨a, _, xs, rfl, rfl, ha, by omega, by omega, ?_, fun p hp => k _ _ (Ext.new hp) (new_lst hp (ra.rep _))⟩
      rw [ra.length]
      exact lim_line hc.2
  | fdiv =>
    cases dx <;> cases dy <;> simp only [opB, Option.ite_none_right_eq_some, Option.some.injEq, reduceCtorEq] at ho
    obtain ⟨hc, rfl⟩ := ho
    rw [h1.int] at rx
    rw [h2.int] at ry
    simp only [Bool.and_eq_true, decide_eq_true_eq] at hc
    exact op_fdiv pins s σ H _ _ v u Q I rx ry ⟨_, _, rfl, rfl, hc, wants_int k⟩
  | mod =>
    cases dx <;> cases dy <;> simp only [opB, Option.ite_none_right_eq_some, Option.some.injEq, reduceCtorEq] at ho
    obtain ⟨hc, rfl⟩ := ho
    rw [h1.int] at rx
    rw [h2.int] at ry
    simp only [decide_eq_true_eq] at hc
    exact op_mod pins s σ H _ _ v u Q I rx ry ⟨_, _, rfl, rfl, hc, wants_int k⟩
  | pow =>
    cases dx <;> cases dy <;> simp only [opB, Option.ite_none_right_eq_some, Option.some.injEq, reduceCtorEq] at ho
    obtain ⟨hc, rfl⟩ := ho
    rw [h1.int] at rx
    rw [h2.int] at ry
    simp only [Bool.and_eq_true, decide_eq_true_eq] at hc
    exact op_pow pins s σ H _ _ v u Q I rx ry ⟨_, _, rfl, rfl, ⟨hc.1.1, hc.1.2, hc.2⟩, wants_int k⟩
  | shr =>
    cases dx <;> cases dy <;> simp only [opB, Option.ite_none_right_eq_some, Option.some.injEq, reduceCtorEq] at ho
    obtain ⟨hc, rfl⟩ := ho
    rw [h1.int] at rx
    rw [h2.int] at ry
    simp only [decide_eq_true_eq] at hc
    exact op_shr pins s σ H _ _ v u Q I rx ry ⟨_, _, rfl, rfl, hc, wants_int k⟩
  | band =>
    cases dx <;> cases dy <;> simp only [opB, Option.ite_none_right_eq_some, Option.some.injEq, reduceCtorEq] at ho
    rw [h1.int] at rx
    rw [h2.int] at ry
    split at ho
    · rename_i hj
      subst hj
      cases ho
      exact op_andM pins s σ H _ _ v u Q I rx ry ⟨_, 1, rfl, rfl, wants_int k⟩
    · split at ho
      · rename_i hj
        subst hj
        cases ho
        exact op_andM pins s σ H _ _ v u Q I rx ry ⟨_, 2, rfl, rfl, wants_int k⟩
      · cases ho
end Dz

set_option Elab.async false
set_option linter.all false
set_option maxRecDepth 100000
set_option maxHeartbeats 4000000
namespace Dz
open PySem L2
variable {CA : Cmap}
/-! ### comparisons -/
def cmpPy : COp → CmpOp
  | .eq => .Eq
  | .ne => .NotEq
  | .lt => .Lt
  | .le => .LtE
  | .gt => .Gt
  | .ge => .GtE
  | .isin => .In
  | .notin => .NotIn
  | .is => .Is
  | .isnot => .IsNot
def rC (CA : Cmap) (o : COp) : R2 := fun x y H Q => ∃ dx dy b, Rp CA H dx x ∧ Rp CA H dy y ∧ opC o dx dy = some b ∧ Q (.bl b) H
theorem flatV_of {H : Hp} : ∀ {d : D} {v : V}, flat d = true → Rp CA H d v → flatV v = true
  | .none, v, _, h => by rw [rp_none.mp h]; rfl
  | .bool _, v, _, h => by rw [rp_bool.mp h]; rfl
  | .int _, v, _, h => by rw [rp_int.mp h]; rfl
  | .str _, v, _, h => by rw [rp_str.mp h]; rfl
  | .list _, _, f, _ => by simp [flat] at f
  | .tuple _, _, f, _ => by simp [flat] at f
  | .dict _, _, f, _ => by simp [flat] at f
theorem eqV_of {H : Hp} : ∀ {d e : D} {v w : V}, flat d = true → flat e = true → Rp CA H d v → Rp CA H e w → eqV v w = PyData.eqv d e := by
  intro d e v w fd fe hd he
  cases d <;> simp [flat] at fd <;> cases e <;> simp [flat] at fe <;> simp at hd he <;> subst hd he <;> simp [eqV, PyData.eqv]
theorem inV_of {H : Hp} {d : D} {v : V} (fd : flat d = true) (hd : Rp CA H d v) : ∀ {ds : List D} {vs : List V}, ds.all flat = true → RpAll CA H ds vs → inV v vs = inD d ds ∧ vs.all flatV = true
  | [], vs, _, h => by rw [ra_nil.mp h]; exact ⟨rfl, rfl⟩
  | e :: ds, vs, f, h => by
    obtain ⟨w, ws, rfl, h1, h2⟩ := ra_cons.mp h
    rw [List.all_cons, Bool.and_eq_true] at f
    have ih := inV_of fd hd f.2 h2
    refine ⟨?_, ?_⟩
    · have e1 : inV v (w :: ws) = (eqV w v || inV v ws) := rfl
      have e2 : inD d (e :: ds) = (PyData.eqv e d || inD d ds) := rfl
      rw [e1, e2, eqV_of f.1 fd h1 hd, ih.1]
    · rw [List.all_cons, Bool.and_eq_true]
      exact ⟨flatV_of f.1 h1, ih.2⟩
theorem isNone_of {H : Hp} : ∀ {d : D} {v : V}, Rp CA H d v → decide (v = V.non) = isNone d
  | .none, v, h => by rw [rp_none.mp h]; rfl
  | .bool _, v, h => by rw [rp_bool.mp h]; rfl
  | .int _, v, h => by rw [rp_int.mp h]; rfl
  | .str _, v, h => by rw [rp_str.mp h]; rfl
  | .list _, v, h => by obtain ⟨a, xs, rfl, _⟩ := rp_list.mp h; rfl
  | .tuple _, v, h => by obtain ⟨a, xs, rfl, _⟩ := rp_tuple.mp h; rfl
  | .dict _, v, h => by
    simp only [Rp] at h
    obtain ⟨a, _, _, _, rfl, _⟩ := h
    rfl
mutual
theorem plain_alike : ∀ a b : D, PySem.W.alike a b = true → plain a = true ∨ plain b = true → True
  | _, _, _, _ => trivial
end
theorem opC_ok {X : Cx} {o : COp} (hu : X.A.units + 65 < cLine) : OpR X (compareOp (cmpPy o)) (rC CA o) := by
  intro pins s σ H x y v u Q I rx ry h
  obtain ⟨dx, dy, b, h1, h2, ho, k⟩ := h
  have hu64 : X.A.units + 64 < cLine := by omega
  cases o with
  | eq =>
    simp only [opC, Option.ite_none_right_eq_some, Option.some.injEq, Bool.and_eq_true] at ho
    obtain ⟨⟨s1, s2⟩, rfl⟩ := ho
    exact op_eqD hu64 pins s σ H _ _ v u Q I rx ry ⟨dx, dy, Rp.dp dx x (plain_shaped s1) h1, Rp.dp dy y (plain_shaped s2) h2, s1, s2, k⟩
  | ne =>
    simp only [opC, Option.ite_none_right_eq_some, Option.some.injEq, Bool.and_eq_true] at ho
    obtain ⟨⟨s1, s2⟩, rfl⟩ := ho
    exact op_neD hu64 pins s σ H _ _ v u Q I rx ry ⟨dx, dy, Rp.dp dx x (plain_shaped s1) h1, Rp.dp dy y (plain_shaped s2) h2, s1, s2, k⟩
  | lt =>
    cases dx <;> cases dy <;> simp only [opC, Option.some.injEq, reduceCtorEq] at ho
    subst ho
    rw [rp_int.mp h1] at rx
    rw [rp_int.mp h2] at ry
    exact op_lt pins s σ H _ _ v u Q I rx ry ⟨_, _, rfl, rfl, k⟩
  | le =>
    cases dx <;> cases dy <;> simp only [opC, Option.some.injEq, reduceCtorEq] at ho
    subst ho
    rw [rp_int.mp h1] at rx
    rw [rp_int.mp h2] at ry
    exact op_le pins s σ H _ _ v u Q I rx ry ⟨_, _, rfl, rfl, k⟩
  | ge =>
    cases dx <;> cases dy <;> simp only [opC, Option.some.injEq, reduceCtorEq] at ho
    subst ho
    rw [rp_int.mp h1] at rx
    rw [rp_int.mp h2] at ry
    exact op_ge pins s σ H _ _ v u Q I rx ry ⟨_, _, rfl, rfl, k⟩
  | gt =>
    have gen : ordOk dx dy = true → plain dx = true → plain dy = true → Q (.bl (PySem.W.dataLt dy dx)) H → wpAny (model X.prog X.w) X.A (compareOp .Gt v u) (EP X pins σ Q) X.xe s := fun ok p1 p2 q => by
      unfold ordOk at ok
      simp only [Bool.and_eq_true, decide_eq_true_eq] at ok
      obtain ⟨⟨ok1, ok2⟩, ok3⟩ := ok
      obtain ⟨as, r1⟩ := Dp.reads I dx x v (Rp.dp dx x p1 h1) rx
      obtain ⟨bs, r2⟩ := Dp.reads I dy y u (Rp.dp dy y p2 h2) ry
      exact PySem.W.gt_data r1 r2 ok1 (fun z => by subst z; simp [isNone] at ok2) (by omega) ⟨.bl _, H, I, rfl, q⟩
    by_cases hi : ∃ i j, dx = .int i ∧ dy = .int j
    · obtain ⟨i, j, rfl, rfl⟩ := hi
      simp only [opC, Option.some.injEq] at ho
      subst ho
      rw [rp_int.mp h1] at rx
      rw [rp_int.mp h2] at ry
      exact op_gt pins s σ H _ _ v u Q I rx ry ⟨_, _, rfl, rfl, k⟩
    · have e : opC .gt dx dy = if (ordOk dx dy && plain dx && plain dy) = true then some (PySem.W.dataLt dy dx) else none := by
        cases dx <;> cases dy <;> first | rfl | exact absurd ⟨_, _, rfl, rfl⟩ hi
      rw [e, Option.ite_none_right_eq_some] at ho
      simp only [Bool.and_eq_true, Option.some.injEq] at ho
      obtain ⟨⟨⟨q1, q2⟩, q3⟩, rfl⟩ := ho
      exact gen q1 q2 q3 k
  | isin =>
    cases dy <;> simp only [opC, Option.ite_none_right_eq_some, Option.some.injEq, Bool.and_eq_true, reduceCtorEq] at ho
    · obtain ⟨⟨s1, s2⟩, rfl⟩ := ho
      exact op_inD hu pins s σ H _ _ v u Q I rx ry ⟨dx, _, Rp.dp dx x (plain_shaped s1) h1, Rp.dp _ y (plain_shaped s2) h2, s1, s2, k⟩
    · obtain ⟨⟨s1, s2⟩, rfl⟩ := ho
      obtain ⟨a, xs, rfl, ha, ra⟩ := rp_tuple.mp h2
      obtain ⟨e1, e2⟩ := inV_of s1 h1 s2 ra
      refine op_in_seq pins s σ H _ _ v u Q I rx ry ⟨a, xs, rfl, .inr (.inl ha), flatV_of s1 h1, e2, ?_⟩
      rw [if_neg Bool.false_ne_true, e1]
      exact k
  | notin =>
    cases dy <;> simp only [opC, Option.ite_none_right_eq_some, Option.some.injEq, Bool.and_eq_true, reduceCtorEq] at ho
    · obtain ⟨⟨s1, s2⟩, rfl⟩ := ho
      exact op_notInD hu pins s σ H _ _ v u Q I rx ry ⟨dx, _, Rp.dp dx x (plain_shaped s1) h1, Rp.dp _ y (plain_shaped s2) h2, s1, s2, k⟩
    · obtain ⟨⟨s1, s2⟩, rfl⟩ := ho
      obtain ⟨a, xs, rfl, ha, ra⟩ := rp_tuple.mp h2
      obtain ⟨e1, e2⟩ := inV_of s1 h1 s2 ra
      refine op_notIn_seq pins s σ H _ _ v u Q I rx ry ⟨a, xs, rfl, .inr (.inl ha), flatV_of s1 h1, e2, ?_⟩
      rw [if_pos rfl, e1]
      exact k
  | is =>
    by_cases hn : dy = .none
    · subst hn
      have e : opC .is dx .none = some (isNone dx) := by cases dx <;> rfl
      rw [e, Option.some.injEq] at ho
      subst ho
      rw [rp_none.mp h2] at ry
      refine op_isN pins s σ H _ _ v u Q I rx ry ⟨rfl, ?_⟩
      rw [isNone_of h1]
      exact k
    · cases dx <;> cases dy <;> simp only [opC, Option.some.injEq, reduceCtorEq] at ho <;> try exact absurd rfl hn
      subst ho
      rw [rp_bool.mp h1] at rx
      rw [rp_bool.mp h2] at ry
      exact op_is_bl pins s σ H _ _ v u Q I rx ry ⟨_, _, rfl, rfl, k⟩
  | isnot =>
    by_cases hn : dy = .none
    · subst hn
      have e : opC .isnot dx .none = some (!isNone dx) := by cases dx <;> rfl
      rw [e, Option.some.injEq] at ho
      subst ho
      rw [rp_none.mp h2] at ry
      refine op_notN pins s σ H _ _ v u Q I rx ry ⟨rfl, ?_⟩
      rw [isNone_of h1]
      exact k
    · cases dx <;> cases dy <;> simp only [opC, Option.some.injEq, reduceCtorEq] at ho <;> try exact absurd rfl hn
      subst ho
      rw [rp_bool.mp h1] at rx
      rw [rp_bool.mp h2] at ry
      exact op_isnot_bl pins s σ H _ _ v u Q I rx ry ⟨_, _, rfl, rfl, k⟩
/-! ### items, slices -/
theorem atI_of {H : Hp} {ds : List D} {xs : List V} {i : Int} {d : D} (r : RpAll CA H ds xs) (h : atI ds i = some d) : ∃ v, atI xs i = some v ∧ Rp CA H d v := by
  unfold atI at h ⊢
  rw [r.length]
  cases e : ixN ds.length i with
  | none => rw [e] at h; cases h
  | some j =>
    rw [e] at h
    exact r.get h
def rIxD (CA : Cmap) : R2 := fun x y H Q => ∃ B dx dy d, Ext B H ∧ Rp CA B dx x ∧ Rp CA H dy y ∧ ixF dx dy = some d ∧ ∀ z, Rp CA B d z → Q z H
theorem ixD_ok {X : Cx} : IxR X (rIxD CA) := by
  intro a b pins s σ H x y v u Q I rx ry h
  obtain ⟨B, dx, dy, d, e, h1, h2, ho, k⟩ := h
  refine (ix_seq (X := X)) a b pins s σ H x y v u Q I rx ry ?_
  cases dx <;> cases dy <;> simp only [ixF, reduceCtorEq] at ho
  · obtain ⟨p, xs, rfl, ha, ra⟩ := rp_list.mp h1
    obtain ⟨w, e1, e2⟩ := atI_of ra ho
    exact .inl ⟨p, xs, _, w, rfl, rp_int.mp h2, .inl (e.rd ha), e1, k _ e2⟩
  · obtain ⟨p, xs, rfl, ha, ra⟩ := rp_tuple.mp h1
    obtain ⟨w, e1, e2⟩ := atI_of ra ho
    exact .inr (.inl ⟨p, xs, _, w, rfl, rp_int.mp h2, .inl (e.rd ha), e1, k _ e2⟩)
theorem cut_of {H : Hp} {ds : List D} {xs : List V} {lo hi : Option Int} (r : RpAll CA H ds xs) : RpAll CA H (cutD ds lo hi) (cutV xs lo hi) := by
  unfold cutD cutV
  rw [r.length]
  exact (r.drop _).take _
def rSlD (CA : Cmap) : V → Option Int → Option Int → Hp → VK → Prop := fun x lo hi H Q => ∃ O dx d, Sub O H ∧ VL CA O H dx x ∧ sliceF dx lo hi = some d ∧ Wants CA O H Q 1 d
theorem slD_ok {X : Cx} : SlR X (rSlD CA) := by
  intro pins s σ H x v vl vu lo hi sl Q I rx hs pl pu h
  obtain ⟨O, dx, d, sb, h1, ho, k⟩ := h
  cases dx <;> simp only [sliceF, reduceCtorEq, Option.some.injEq] at ho
  · subst ho
    obtain ⟨p, xs, rfl, ha, ra⟩ := h1.list
    exact sl_list pins s σ H _ v vl vu lo hi sl Q I rx hs pl pu ⟨p, xs, rfl, .inl ha, fun q hq => k _ _ (Ext.new hq) (new_lst hq (cut_of ra))⟩
  · subst ho
    obtain ⟨p, xs, rfl, ha, ra, w⟩ := h1.tuple sb
    refine sl_tupA pins s σ H _ v vl vu lo hi sl Q I rx hs pl pu ⟨p, xs, rfl, .inl ha, fun z => k _ _ (Ext.refl H) (same_tup ?_), fun _ q hq => k _ _ (Ext.new hq) (new_tup sb hq (cut_of ra))⟩
    rename_i ds
    have e : cutD ds lo hi = ds := by
      unfold cutD
      rw [← ra.length, z.1, z.2, List.drop_zero, Nat.sub_zero]
      exact List.take_of_length_le (by rw [ra.length]; exact Nat.le_refl _)
    rw [e]
    exact w
end Dz

set_option Elab.async false
set_option linter.all false
set_option maxRecDepth 100000
set_option maxHeartbeats 4000000
namespace Dz
open PySem L2
variable {CA : Cmap}
/-! ### sorting -/
theorem ins_perm (x : Int) : ∀ l : List Int, (ins x l).Perm (x :: l)
  | [] => .refl _
  | y :: r => by
    unfold ins
    split
    · exact .refl _
    · exact ((ins_perm x r).cons y).trans (.swap x y r)
theorem isort_perm : ∀ l : List Int, (isort l).Perm l
  | [] => .refl _
  | x :: r => (ins_perm x (isort r)).trans ((isort_perm r).cons x)
theorem ins_sorted (x : Int) : ∀ {l : List Int}, l.Pairwise (· ≤ ·) → (ins x l).Pairwise (· ≤ ·)
  | [], _ => by simp [ins]
  | y :: r, h => by
    unfold ins
    rw [List.pairwise_cons] at h
    split
    · rename_i hxy
      rw [List.pairwise_cons]
      refine ⟨fun z hz => ?_, List.pairwise_cons.mpr h⟩
      rcases List.mem_cons.mp hz with rfl | hz
      · exact hxy
      · exact Int.le_trans hxy (h.1 z hz)
    · rename_i hxy
      rw [List.pairwise_cons]
      refine ⟨fun z hz => ?_, ins_sorted x h.2⟩
      rcases List.mem_cons.mp ((ins_perm x r).mem_iff.mp hz) with rfl | hz
      · omega
      · exact h.1 z hz
theorem isort_sorted : ∀ l : List Int, (isort l).Pairwise (· ≤ ·)
  | [] => .nil
  | x :: r => ins_sorted x (isort_sorted r)
theorem sorted_one {a b : List Int} (hp : a.Perm b) (ha : a.Pairwise (· ≤ ·)) (hb : b.Pairwise (· ≤ ·)) : a = b :=
  List.Perm.eq_of_pairwise (fun _ _ _ _ h1 h2 => Int.le_antisymm h1 h2) ha hb hp
theorem sorted_oneR {a b : List Int} (hp : a.Perm b) (ha : a.Pairwise (· ≥ ·)) (hb : b.Pairwise (· ≥ ·)) : a = b :=
  List.Perm.eq_of_pairwise (fun _ _ _ _ h1 h2 => Int.le_antisymm h2 h1) ha hb hp
theorem isort_is {ns ns' : List Int} (p : ns'.Perm ns) (s : ns'.Pairwise (· ≤ ·)) : ns' = isort ns := sorted_one (p.trans (isort_perm ns).symm) s (isort_sorted ns)
theorem isort_isR {ns ns' : List Int} (p : ns'.Perm ns) (s : ns'.Pairwise (· ≥ ·)) : ns' = (isort ns).reverse := by
  refine sorted_oneR (p.trans ((isort_perm ns).symm.trans (List.reverse_perm _).symm)) s ?_
  rw [List.pairwise_reverse]
  exact (isort_sorted ns).imp fun h => h
/-! ### lists of numbers, of truths -/
theorem intsOf_is : ∀ {ds : List D} {ns : List Int}, intsOf ds = some ns → ds = ns.map PyData.int
  | [], ns, h => by simp only [intsOf, Option.some.injEq] at h; subst h; rfl
  | .int i :: r, ns, h => by
    simp only [intsOf, Option.map_eq_some_iff] at h
    obtain ⟨m, h1, rfl⟩ := h
    rw [List.map_cons, ← intsOf_is h1]
  | .none :: _, _, h => by simp [intsOf] at h
  | .bool _ :: _, _, h => by simp [intsOf] at h
  | .str _ :: _, _, h => by simp [intsOf] at h
  | .list _ :: _, _, h => by simp [intsOf] at h
  | .tuple _ :: _, _, h => by simp [intsOf] at h
  | .dict _ :: _, _, h => by simp [intsOf] at h
theorem intsOf_map : ∀ ns : List Int, intsOf (ns.map PyData.int) = some ns
  | [] => rfl
  | n :: r => by rw [List.map_cons, intsOf, intsOf_map r]; rfl
theorem boolsOf_is : ∀ {ds : List D} {ns : List Bool}, boolsOf ds = some ns → ds = ns.map PyData.bool
  | [], ns, h => by simp only [boolsOf, Option.some.injEq] at h; subst h; rfl
  | .bool i :: r, ns, h => by
    simp only [boolsOf, Option.map_eq_some_iff] at h
    obtain ⟨m, h1, rfl⟩ := h
    rw [List.map_cons, ← boolsOf_is h1]
  | .none :: _, _, h => by simp [boolsOf] at h
  | .int _ :: _, _, h => by simp [boolsOf] at h
  | .str _ :: _, _, h => by simp [boolsOf] at h
  | .list _ :: _, _, h => by simp [boolsOf] at h
  | .tuple _ :: _, _, h => by simp [boolsOf] at h
  | .dict _ :: _, _, h => by simp [boolsOf] at h
theorem boolsOf_map : ∀ ns : List Bool, boolsOf (ns.map PyData.bool) = some ns
  | [] => rfl
  | n :: r => by rw [List.map_cons, boolsOf, boolsOf_map r]; rfl
theorem eqv_int (a b : Int) : PyData.eqv (.int a) (.int b) = (a == b) := by simp [PyData.eqv]
theorem idx_int {i : Int} : ∀ {ns : List Int} {j : Nat}, idx? (.int i) (ns.map PyData.int) = some j → ns[j]? = some i ∧ ∀ m, m < j → ns[m]? ≠ some i
  | [], j, h => by cases h
  | n :: ns, j, h => by
    rw [List.map_cons, idx?, eqv_int] at h
    split at h
    · rename_i q
      cases h
      exact ⟨by simpa using q, fun m hm => by omega⟩
    · rename_i q
      rw [Option.map_eq_some_iff] at h
      obtain ⟨j', h', rfl⟩ := h
      obtain ⟨q1, q2⟩ := idx_int h'
      refine ⟨by simpa using q1, fun m hm => ?_⟩
      cases m with
      | zero => intro z; simp at z; exact q (by simp [z])
      | succ m => simpa using q2 m (by omega)
theorem maxI_ge : ∀ (m : Int) (l : List Int), m ≤ maxI m l ∧ ∀ y ∈ l, y ≤ maxI m l
  | m, [] => ⟨Int.le_refl _, fun _ h => nomatch h⟩
  | m, x :: r => by
    unfold maxI
    have ih := maxI_ge (if m < x then x else m) r
    refine ⟨?_, fun y hy => ?_⟩
    · have := ih.1
      split at this <;> split <;> omega
    · rcases List.mem_cons.mp hy with rfl | hy
      · have := ih.1
        split at this <;> split <;> omega
      · exact ih.2 y hy
theorem maxI_mem : ∀ (m : Int) (l : List Int), maxI m l ∈ m :: l
  | m, [] => by simp [maxI]
  | m, x :: r => by
    unfold maxI
    have ih := maxI_mem (if m < x then x else m) r
    rcases List.mem_cons.mp ih with h | h
    · rw [h]
      split <;> simp
    · exact List.mem_cons_of_mem _ (List.mem_cons_of_mem _ h)
theorem minI_le : ∀ (m : Int) (l : List Int), minI m l ≤ m ∧ ∀ y ∈ l, minI m l ≤ y
  | m, [] => ⟨Int.le_refl _, fun _ h => nomatch h⟩
  | m, x :: r => by
    unfold minI
    have ih := minI_le (if x < m then x else m) r
    refine ⟨?_, fun y hy => ?_⟩
    · have := ih.1
      split at this <;> split <;> omega
    · rcases List.mem_cons.mp hy with rfl | hy
      · have := ih.1
        split at this <;> split <;> omega
      · exact ih.2 y hy
theorem minI_mem : ∀ (m : Int) (l : List Int), minI m l ∈ m :: l
  | m, [] => by simp [minI]
  | m, x :: r => by
    unfold minI
    have ih := minI_mem (if x < m then x else m) r
    rcases List.mem_cons.mp ih with h | h
    · rw [h]
      split <;> simp
    · exact List.mem_cons_of_mem _ (List.mem_cons_of_mem _ h)
/-! ### the built-ins -/
def rBi (CA : Cmap) (b : Bi) : List V → Hp → VK → Prop := fun xs H Q => ∃ O ds d, Sub O H ∧ RpAll CA H ds xs ∧ biF b ds = some d ∧ Wants CA O H Q 9 d
theorem one_arg' {H : Hp} {ds : List D} {xs : List V} {d : D} (r : RpAll CA H ds xs) (e : ds = [d]) : ∃ v, xs = [v] ∧ Rp CA H d v := by
  subst e
  obtain ⟨v, vs, rfl, h, t⟩ := ra_cons.mp r
  rw [ra_nil.mp t]
  exact ⟨v, rfl, h⟩
theorem two_arg' {H : Hp} {ds : List D} {xs : List V} {d e : D} (r : RpAll CA H ds xs) (q : ds = [d, e]) : ∃ v w, xs = [v, w] ∧ Rp CA H d v ∧ Rp CA H e w := by
  subst q
  obtain ⟨v, vs, rfl, h, t⟩ := ra_cons.mp r
  obtain ⟨w, ws, rfl, h', t'⟩ := ra_cons.mp t
  rw [ra_nil.mp t']
  exact ⟨v, w, rfl, h, h'⟩
theorem lst_ints {H : Hp} {ds : List D} {ns : List Int} {v : V} (h : Rp CA H (.list ds) v) (e : intsOf ds = some ns) : ∃ a, v = .ref a ∧ Rd H a (.lst (ns.map V.int)) := by
  obtain ⟨a, xs, rfl, h1, h2⟩ := rp_list.mp h
  rw [intsOf_is e, RpAll.ints] at h2
  subst h2
  exact ⟨a, rfl, h1⟩
theorem lst_bools {H : Hp} {ds : List D} {ns : List Bool} {v : V} (h : Rp CA H (.list ds) v) (e : boolsOf ds = some ns) : ∃ a, v = .ref a ∧ Rd H a (.lst (ns.map V.bl)) := by
  obtain ⟨a, xs, rfl, h1, h2⟩ := rp_list.mp h
  rw [boolsOf_is e, RpAll.bools] at h2
  subst h2
  exact ⟨a, rfl, h1⟩
section
variable {X : Cx}
/-- one argument -/
theorem bi_one {b : Bi} (hb : ∀ ds, (∀ a, ds ≠ [a]) → biF b ds = none) {ds : List D} {d : D} (ho : biF b ds = some d) : ∃ a, ds = [a] := by
  by_cases h : ∃ a, ds = [a]
  · exact h
  · rw [hb ds fun a e => h ⟨a, e⟩] at ho
    cases ho
theorem bi_len : CallR X (.builtin "len") (rBi CA .len) := by
  intro pins s σ H xs us Q I r h
  obtain ⟨O, ds, d, sb, ra, ho, k⟩ := h
  obtain ⟨a, rfl⟩ := bi_one (b := .len) (fun ds h => by
    cases ds with
    | nil => rfl
    | cons a r => cases r with
      | nil => exact absurd rfl (h a)
      | cons _ _ => cases a <;> rfl) ho
  obtain ⟨v, rfl, h1⟩ := one_arg' ra rfl
  cases a <;> simp only [biF, Option.ite_none_right_eq_some, Option.some.injEq, reduceCtorEq] at ho
  · obtain ⟨hl, rfl⟩ := ho
    rw [rp_str.mp h1] at r
    exact call_len_str pins s σ H _ us Q I r ⟨_, rfl, lim_line hl, wants_int k⟩
  · subst ho
    obtain ⟨a, ys, rfl, h2, h3⟩ := rp_list.mp h1
    refine call_len_seq pins s σ H _ us Q I r ⟨a, ys, rfl, .inl (.inl h2), ?_⟩
    rw [h3.length]
    exact wants_int k
  · subst ho
    obtain ⟨a, ys, rfl, h2, h3⟩ := rp_tuple.mp h1
    refine call_len_seq pins s σ H _ us Q I r ⟨a, ys, rfl, .inr (.inl h2), ?_⟩
    rw [h3.length]
    exact wants_int k
theorem bi_sum (hc : X.calm = true) : CallR X (.builtin "sum") (rBi CA .sum) := by
  intro pins s σ H xs us Q I r h
  obtain ⟨O, ds, d, sb, ra, ho, k⟩ := h
  obtain ⟨a, rfl⟩ := bi_one (b := .sum) (fun ds h => by
    cases ds with
    | nil => rfl
    | cons a r => cases r with
      | nil => exact absurd rfl (h a)
      | cons _ _ => cases a <;> rfl) ho
  obtain ⟨v, rfl, h1⟩ := one_arg' ra rfl
  cases a <;> simp only [biF, Option.map_eq_some_iff, reduceCtorEq] at ho
  obtain ⟨ns, e, rfl⟩ := ho
  obtain ⟨a, rfl, h2⟩ := lst_ints h1 e
  exact cr_sum hc pins s σ H _ us Q I r ⟨a, ns, rfl, .inl h2, wants_int k⟩
theorem bi_sorted : CallR X (.builtin "sorted") (rBi CA .sorted) := by
  intro pins s σ H xs us Q I r h
  obtain ⟨O, ds, d, sb, ra, ho, k⟩ := h
  obtain ⟨a, rfl⟩ := bi_one (b := .sorted) (fun ds h => by
    cases ds with
    | nil => rfl
    | cons a r => cases r with
      | nil => exact absurd rfl (h a)
      | cons _ _ => cases a <;> rfl) ho
  obtain ⟨v, rfl, h1⟩ := one_arg' ra rfl
  cases a <;> simp only [biF, Option.map_eq_some_iff, reduceCtorEq] at ho
  obtain ⟨ns, e, rfl⟩ := ho
  obtain ⟨a, rfl, h2⟩ := lst_ints h1 e
  refine cr_sortedI pins s σ H _ us Q I r ⟨a, ns, rfl, .inl h2, fun ns' p hp hs hn => k _ _ (Ext.new hn) (new_flats sb hn (flat_ints _) ?_ 9)⟩
  rw [isort_is hp hs]
  exact RpAll.ints.mpr rfl
theorem bi_sortedR : CallRK X (.builtin "sorted") [Str.ofString "reverse"] (fun xs zs H Q => zs = [.bl true] ∧ rBi CA .sortedR xs H Q) := by
  intro pins s σ H xs zs us ws Q I r rz h
  obtain ⟨rfl, O, ds, d, sb, ra, ho, k⟩ := h
  obtain ⟨a, rfl⟩ := bi_one (b := .sortedR) (fun ds h => by
    cases ds with
    | nil => rfl
    | cons a r => cases r with
      | nil => exact absurd rfl (h a)
      | cons _ _ => cases a <;> rfl) ho
  obtain ⟨v, rfl, h1⟩ := one_arg' ra rfl
  cases a <;> simp only [biF, Option.map_eq_some_iff, reduceCtorEq] at ho
  obtain ⟨ns, e, rfl⟩ := ho
  obtain ⟨a, rfl, h2⟩ := lst_ints h1 e
  refine cr_sortedRev (b := true) pins s σ H _ _ us ws Q I r rz ⟨a, ns, rfl, rfl, .inl h2, fun ns' p hp hs hn => k _ _ (Ext.new hn) (new_flats sb hn (flat_ints _) ?_ 9)⟩
  rw [isort_isR hp hs]
  exact RpAll.ints.mpr rfl
theorem bi_max2 (hc : X.calm = true) : CallR X (.builtin "max") (rBi CA .max2) := by
  intro pins s σ H xs us Q I r h
  obtain ⟨O, ds, d, sb, ra, ho, k⟩ := h
  obtain ⟨i, j, rfl⟩ : ∃ i j, ds = [.int i, .int j] := by
    cases ds with
    | nil => cases ho
    | cons a r => cases r with
      | nil => cases a <;> cases ho
      | cons b r => cases r with
        | nil => cases a <;> cases b <;> first | exact ⟨_, _, rfl⟩ | cases ho
        | cons _ _ => cases a <;> cases b <;> cases ho
  simp only [biF, Option.some.injEq] at ho
  subst ho
  obtain ⟨v, w, rfl, h1, h2⟩ := two_arg' ra rfl
  rw [rp_int.mp h1, rp_int.mp h2] at r
  exact call_max2 hc pins s σ H _ us Q I r ⟨i, j, rfl, wants_int k⟩
theorem bi_maxL (hc : X.calm = true) : CallR X (.builtin "max") (rBi CA .maxL) := by
  intro pins s σ H xs us Q I r h
  obtain ⟨O, ds, d, sb, ra, ho, k⟩ := h
  obtain ⟨a, rfl⟩ := bi_one (b := .maxL) (fun ds h => by
    cases ds with
    | nil => rfl
    | cons a r => cases r with
      | nil => exact absurd rfl (h a)
      | cons _ _ => cases a <;> rfl) ho
  obtain ⟨v, rfl, h1⟩ := one_arg' ra rfl
  cases a <;> simp only [biF, Option.bind_eq_some_iff, reduceCtorEq] at ho
  obtain ⟨ns, e, ho⟩ := ho
  obtain ⟨a, rfl, h2⟩ := lst_ints h1 e
  cases ns with
  | nil => cases ho
  | cons x l =>
    simp only [Option.some.injEq] at ho
    subst ho
    refine cr_max hc pins s σ H _ us Q I r ⟨a, x :: l, rfl, .inl h2, Nat.succ_pos _, fun m hm hle => ?_⟩
    have e1 : m = maxI x l := by
      have h3 := hle _ (maxI_mem x l)
      rcases List.mem_cons.mp hm with rfl | hm
      · exact Int.le_antisymm (maxI_ge _ _).1 h3
      · exact Int.le_antisymm ((maxI_ge x l).2 m hm) h3
    rw [e1]
    exact wants_int k
theorem bi_minL (hc : X.calm = true) : CallR X (.builtin "min") (rBi CA .minL) := by
  intro pins s σ H xs us Q I r h
  obtain ⟨O, ds, d, sb, ra, ho, k⟩ := h
  obtain ⟨a, rfl⟩ := bi_one (b := .minL) (fun ds h => by
    cases ds with
    | nil => rfl
    | cons a r => cases r with
      | nil => exact absurd rfl (h a)
      | cons _ _ => cases a <;> rfl) ho
  obtain ⟨v, rfl, h1⟩ := one_arg' ra rfl
  cases a <;> simp only [biF, Option.bind_eq_some_iff, reduceCtorEq] at ho
  obtain ⟨ns, e, ho⟩ := ho
  obtain ⟨a, rfl, h2⟩ := lst_ints h1 e
  cases ns with
  | nil => cases ho
  | cons x l =>
    simp only [Option.some.injEq] at ho
    subst ho
    refine cr_min hc pins s σ H _ us Q I r ⟨a, x :: l, rfl, .inl h2, Nat.succ_pos _, fun m hm hle => ?_⟩
    have e1 : m = minI x l := by
      have h3 := hle _ (minI_mem x l)
      rcases List.mem_cons.mp hm with rfl | hm
      · exact Int.le_antisymm h3 (minI_le _ _).1
      · exact Int.le_antisymm h3 ((minI_le x l).2 m hm)
    rw [e1]
    exact wants_int k
theorem bi_abs : CallR X (.builtin "abs") (rBi CA .abs) := by
  intro pins s σ H xs us Q I r h
  obtain ⟨O, ds, d, sb, ra, ho, k⟩ := h
  obtain ⟨a, rfl⟩ := bi_one (b := .abs) (fun ds h => by
    cases ds with
    | nil => rfl
    | cons a r => cases r with
      | nil => exact absurd rfl (h a)
      | cons _ _ => cases a <;> rfl) ho
  obtain ⟨v, rfl, h1⟩ := one_arg' ra rfl
  cases a <;> simp only [biF, Option.some.injEq, reduceCtorEq] at ho
  subst ho
  rw [rp_int.mp h1] at r
  exact call_abs pins s σ H _ us Q I r ⟨_, rfl, wants_int k⟩
theorem bi_int1 : CallR X (.type "int") (rBi CA .int1) := by
  intro pins s σ H xs us Q I r h
  obtain ⟨O, ds, d, sb, ra, ho, k⟩ := h
  obtain ⟨a, rfl⟩ := bi_one (b := .int1) (fun ds h => by
    cases ds with
    | nil => rfl
    | cons a r => cases r with
      | nil => exact absurd rfl (h a)
      | cons _ _ => cases a <;> rfl) ho
  obtain ⟨v, rfl, h1⟩ := one_arg' ra rfl
  cases a <;> simp only [biF, Option.some.injEq, reduceCtorEq] at ho
  · subst ho
    rw [rp_bool.mp h1] at r
    exact call_int1 pins s σ H _ us Q I r (.inr ⟨_, rfl, wants_int k⟩)
  · subst ho
    rw [rp_int.mp h1] at r
    exact call_int1 pins s σ H _ us Q I r (.inl ⟨_, rfl, wants_int k⟩)
def rL1 (CA : Cmap) : List V → Hp → VK → Prop := fun xs H Q => ∃ O dx d v, Sub O H ∧ xs = [v] ∧ VL CA O H dx v ∧ list1F dx = some d ∧ Wants CA O H Q 1 d
theorem bi_list1 : CallR X (.type "list") (rL1 CA) := by
  intro pins s σ H xs us Q I r h
  obtain ⟨O, a, d, v, sb, rfl, h1, ho, k⟩ := h
  cases a <;> simp only [list1F, Option.some.injEq, reduceCtorEq] at ho
  · subst ho
    obtain ⟨a, ys, rfl, h2, h3⟩ := h1.list
    exact call_list_of pins s σ H _ us Q I r ⟨a, ys, rfl, .inl (.inl h2), fun l hl => k _ _ (Ext.new hl) (new_lst hl h3)⟩
  · subst ho
    obtain ⟨a, ys, rfl, h2, h3, _⟩ := h1.tuple sb
    exact call_list_of pins s σ H _ us Q I r ⟨a, ys, rfl, .inr (.inl h2), fun l hl => k _ _ (Ext.new hl) (new_lst hl h3)⟩
theorem bi_all (hc : X.calm = true) : CallR X (.builtin "all") (rBi CA .all) := by
  intro pins s σ H xs us Q I r h
  obtain ⟨O, ds, d, sb, ra, ho, k⟩ := h
  obtain ⟨a, rfl⟩ := bi_one (b := .all) (fun ds h => by
    cases ds with
    | nil => rfl
    | cons a r => cases r with
      | nil => exact absurd rfl (h a)
      | cons _ _ => cases a <;> rfl) ho
  obtain ⟨v, rfl, h1⟩ := one_arg' ra rfl
  cases a <;> simp only [biF, Option.map_eq_some_iff, reduceCtorEq] at ho
  obtain ⟨ns, e, rfl⟩ := ho
  obtain ⟨a, rfl, h2⟩ := lst_bools h1 e
  exact cr_all hc pins s σ H _ us Q I r ⟨a, ns, rfl, .inl h2, wants_bool k⟩
theorem bi_any (hc : X.calm = true) : CallR X (.builtin "any") (rBi CA .any) := by
  intro pins s σ H xs us Q I r h
  obtain ⟨O, ds, d, sb, ra, ho, k⟩ := h
  obtain ⟨a, rfl⟩ := bi_one (b := .any) (fun ds h => by
    cases ds with
    | nil => rfl
    | cons a r => cases r with
      | nil => exact absurd rfl (h a)
      | cons _ _ => cases a <;> rfl) ho
  obtain ⟨v, rfl, h1⟩ := one_arg' ra rfl
  cases a <;> simp only [biF, Option.map_eq_some_iff, reduceCtorEq] at ho
  obtain ⟨ns, e, rfl⟩ := ho
  obtain ⟨a, rfl, h2⟩ := lst_bools h1 e
  exact cr_any hc pins s σ H _ us Q I r ⟨a, ns, rfl, .inl h2, wants_bool k⟩
/-! isinstance with a built-in class -/
def tyName : Ty → String
  | .int => "int"
  | .bool => "bool"
  | .list => "list"
  | .tuple => "tuple"
  | .str => "str"
theorem lst_ty {H : Hp} {a : Addr} {xs : List V} (h : Rd H a (.lst xs)) : TyX X.K H (.ref a) (.type "list") := by
  rcases h with h | ⟨o, h⟩
  · exact .base (.lst h)
  · exact .base (.frz h)
theorem tup_ty {H : Hp} {a : Addr} {xs : List V} (h : Rd H a (.tup xs)) : TyX X.K H (.ref a) (.type "tuple") := by
  rcases h with h | ⟨o, h⟩
  · exact .base (.tup h)
  · exact .fTuple h
theorem bi_isi (t : Ty) : CallR X (.builtin "isinstance") (fun xs H Q => ∃ d v b, xs = [v, .ty (tyName t)] ∧ Rp CA H d v ∧ isTy t d = some b ∧ Q (.bl b) H) := by
  intro pins s σ H xs us Q I r h
  obtain ⟨d, v, b, rfl, h1, ho, k⟩ := h
  cases d with
  | dict _ => cases t <;> cases ho
  | none =>
    rw [rp_none.mp h1] at r
    cases t <;> cases ho <;> exact call_isi pins s σ H _ us Q I r ⟨_, _, _, _, _, rfl, .ty _, .base .non, kit_ty (by decide +kernel), k⟩
  | bool _ =>
    rw [rp_bool.mp h1] at r
    cases t <;> cases ho <;> exact call_isi pins s σ H _ us Q I r ⟨_, _, _, _, _, rfl, .ty _, .base (.bl _), kit_ty (by decide +kernel), k⟩
  | int _ =>
    rw [rp_int.mp h1] at r
    cases t <;> cases ho <;> exact call_isi pins s σ H _ us Q I r ⟨_, _, _, _, _, rfl, .ty _, .base (.int _), kit_ty (by decide +kernel), k⟩
  | str _ =>
    rw [rp_str.mp h1] at r
    cases t <;> cases ho <;> exact call_isi pins s σ H _ us Q I r ⟨_, _, _, _, _, rfl, .ty _, .base (.str _), kit_ty (by decide +kernel), k⟩
  | list _ =>
    obtain ⟨a, ys, rfl, h2, h3⟩ := rp_list.mp h1
    cases t <;> cases ho <;> exact call_isi pins s σ H _ us Q I r ⟨_, _, _, _, _, rfl, .ty _, lst_ty h2, kit_ty (by decide +kernel), k⟩
  | tuple _ =>
    obtain ⟨a, ys, rfl, h2, h3⟩ := rp_tuple.mp h1
    cases t <;> cases ho <;> exact call_isi pins s σ H _ us Q I r ⟨_, _, _, _, _, rfl, .ty _, tup_ty h2, kit_ty (by decide +kernel), k⟩
end
end Dz

set_option Elab.async false
set_option linter.all false
set_option maxRecDepth 100000
set_option maxHeartbeats 4000000
namespace Dz
open PySem L2
/-! ### slots that stand for data -/
structure EnvR (CA : Cmap) (O : Addr → Bool) (H : Hp) (σ : St) (ρ : List Sl) : Prop where
  sub : Sub O H
  len : ρ.length = σ.length
  fz : ∀ (i : Nat) (d : D), ρ[i]? = some (.fz d) → ∃ v, σ[i]? = some (some v) ∧ Rp CA (off O H) d v
  own : ∃ w : Addr → Option Nat, (∀ a i, w a = some i → O a = true) ∧ ∀ (i k : Nat) (d : D), ρ[i]? = some (.own k d) → ∃ v fp, σ[i]? = some (some v) ∧ fp.Nodup ∧ (∀ a ∈ fp, w a = some i) ∧ OwnR CA H (off O H) d k v fp
variable {CA : Cmap} {F : Nat → List D → Option D}
theorem EnvR.grow {O O' : Addr → Bool} {H H' : Hp} {σ : St} {ρ : List Sl} (E : EnvR CA O H σ ρ) (s : Sub O' H') (e : Ext H H') (oo : ∀ a, O a = true → O' a = true) (eo : Ext (off O H) (off O' H')) : EnvR CA O' H' σ ρ where
  sub := s
  len := E.len
  fz := fun i d h => let ⟨v, h1, h2⟩ := E.fz i d h; ⟨v, h1, Rp.mono eo d v h2⟩
  own := let ⟨w, h0, h⟩ := E.own; ⟨w, fun a i q => oo a (h0 a i q), fun i k d q => let ⟨v, fp, h1, h2, h3, h4⟩ := h i k d q; ⟨v, fp, h1, h2, h3, OwnR.mono eo d k v fp (fun a _ o x => e a o x) h4⟩⟩
theorem EnvR.ext {O : Addr → Bool} {H H' : Hp} {σ : St} {ρ : List Sl} (E : EnvR CA O H σ ρ) (e : Ext H H') : EnvR CA O H' σ ρ := E.grow (E.sub.ext e) e (fun _ h => h) e.off
theorem EnvR.read {O : Addr → Bool} {H : Hp} {σ : St} {ρ : List Sl} (E : EnvR CA O H σ ρ) {i k : Nat} {d : D} (h : ρ[i]? = some (.own k d)) : ∃ v, σ[i]? = some (some v) ∧ Rp CA H d v := by
  obtain ⟨w, _, q⟩ := E.own
  obtain ⟨v, fp, h1, _, _, h4⟩ := q i k d h
  exact ⟨v, h1, OwnR.rp (off_ext O H) d k v fp (fun a _ o x => x) h4⟩
/-- what is new is taken as our own for a while -/
theorem Sub.sup {O : Addr → Bool} {H : Hp} {fp : List Addr} (s : Sub O H) (h : ∀ a ∈ fp, Kind H a) : Sub (sup O fp) H := fun p q => by
  rcases sup_true.mp q with q | q
  · exact s p q
  · exact h p q
theorem off_grow {O : Addr → Bool} {H H' : Hp} {fp : List Addr} (e : Ext H H') (n : ∀ a ∈ fp, H a = none) : Ext (off O H) (off (sup O fp) H') := fun a o h => by
  obtain ⟨h1, h2⟩ := off_some.mp h
  refine off_some.mpr ⟨sup_false.mpr ⟨h1, fun z => ?_⟩, e a o h2⟩
  rw [n a z] at h2
  cases h2
theorem EnvR.sup {O : Addr → Bool} {H H' : Hp} {fp : List Addr} {σ : St} {ρ : List Sl} (E : EnvR CA O H σ ρ) (e : Ext H H') (n : ∀ a ∈ fp, H a = none) (h : ∀ a ∈ fp, Kind H' a) : EnvR CA (sup O fp) H' σ ρ :=
  E.grow ((E.sub.ext e).sup h) e (fun a q => sup_true.mpr (.inl q)) (off_grow e n)
/-- with the addresses -/
def VRf (CA : Cmap) (O : Addr → Bool) (H H' : Hp) (l : L) (d : D) (v : V) (fp : List Addr) : Prop :=
  if good l = true then fp.Nodup ∧ (∀ a ∈ fp, H a = none) ∧ OwnR CA H' (off (sup O fp) H') d (nw l) v fp else fp = [] ∧ Rp CA H' d v ∧ (isRd l = true → flatAt d 1 = true) ∧ (isOwn1 l = true → Own1 CA O H' d v ∧ ∃ ds, d = .list ds)
theorem VR.f {O : Addr → Bool} {H H' : Hp} {l : L} {d : D} {v : V} (h : VR CA O H H' l d v) : ∃ fp, VRf CA O H H' l d v fp := by
  unfold VR at h
  unfold VRf
  split at h
  · rename_i g
    obtain ⟨fp, q⟩ := h
    exact ⟨fp, by rw [if_pos g]; exact q⟩
  · rename_i g
    exact ⟨[], by rw [if_neg g]; exact ⟨rfl, h⟩⟩
theorem VRf.vr {O : Addr → Bool} {H H' : Hp} {l : L} {d : D} {v : V} {fp : List Addr} (h : VRf CA O H H' l d v fp) : VR CA O H H' l d v := by
  unfold VRf at h
  unfold VR
  split at h
  · rename_i g
    rw [if_pos g]
    exact ⟨fp, h⟩
  · rename_i g
    rw [if_neg g]
    exact h.2
theorem VRf.new {O : Addr → Bool} {H H' : Hp} {l : L} {d : D} {v : V} {fp : List Addr} (h : VRf CA O H H' l d v fp) : (∀ a ∈ fp, H a = none) ∧ ∀ a ∈ fp, Kind H' a := by
  unfold VRf at h
  split at h
  · exact ⟨h.2.1, OwnR.here h.2.2⟩
  · rw [h.1]
    exact ⟨fun a z => (by cases z), fun a z => (by cases z)⟩
/-- a row of arguments, one behind another -/
def AL (CA : Cmap) : (Addr → Bool) → Hp → Hp → L → List D → List V → Prop
  | O, H, H', .anil, ds, vs => ds = [] ∧ vs = [] ∧ Ext H H'
  | O, H, H', .acons a r, ds, vs => ∃ d ds' v vs' fp H1, ds = d :: ds' ∧ vs = v :: vs' ∧ Ext H H1 ∧ VRf CA O H H1 a d v fp ∧ AL CA (sup O fp) H1 H' r ds' vs'
  | _, _, _, _, _, _ => False
theorem sup_sup (O : Addr → Bool) (f g : List Addr) : sup (sup O f) g = sup O (f ++ g) := by
  funext a
  simp only [sup, List.mem_append]
  cases O a <;> simp
theorem AL.ext {O : Addr → Bool} {H H' : Hp} : ∀ {l : L} {ds : List D} {vs : List V}, AL CA O H H' l ds vs → Ext H H' := by
  intro l
  induction l generalizing O H with
  | anil => intro ds vs h; exact h.2.2
  | acons a r _ ih =>
    intro ds vs h
    obtain ⟨d, ds', v, vs', fp, H1, _, _, e, _, h2⟩ := h
    exact e.trans (ih h2)
  | _ => intro ds vs h; exact h.elim
theorem AL.rp {H' : Hp} : ∀ {l : L} {O : Addr → Bool} {H : Hp} {ds : List D} {vs : List V}, Sub O H → AL CA O H H' l ds vs → RpAll CA H' ds vs := by
  intro l
  induction l with
  | anil => intro O H ds vs s h; rw [h.1, h.2.1]; exact .nil
  | acons a r _ ih =>
    intro O H ds vs s h
    obtain ⟨d, ds', v, vs', fp, H1, rfl, rfl, e, q, h2⟩ := h
    exact .cons (Rp.mono h2.ext d v (q.vr.rp s)) (ih ((s.ext e).sup q.new.2) h2)
  | _ => intro O H ds vs s h; exact h.elim
theorem AL.good {H' : Hp} : ∀ {l : L} {O : Addr → Bool} {H : Hp} {ds : List D} {vs : List V}, Sub O H → goodA l = true → AL CA O H H' l ds vs → RpAll CA (off O H') ds vs := by
  intro l
  induction l with
  | anil => intro O H ds vs s g h; rw [h.1, h.2.1]; exact .nil
  | acons a r _ ih =>
    intro O H ds vs s g h
    obtain ⟨d, ds', v, vs', fp, H1, rfl, rfl, e, q, h2⟩ := h
    simp only [goodA, Bool.and_eq_true] at g
    refine .cons (Rp.mono h2.ext.off d v (((VR.good g.1).mp q.vr).rp s)) ?_
    have := ih ((s.ext e).sup q.new.2) g.2 h2
    exact RpAll.mono off_sup_ext ds' vs' this
  | _ => intro O H ds vs s g h; exact h.elim
theorem AL.own {H' : Hp} : ∀ {l : L} {O : Addr → Bool} {H : Hp} {ds : List D} {vs : List V}, Sub O H → goodA l = true → AL CA O H H' l ds vs → ∃ fp : List Addr, fp.Nodup ∧ (∀ a ∈ fp, H a = none) ∧ OwnAll CA H' (off (sup O fp) H') ds (nw l) vs fp := by
  intro l
  induction l with
  | anil => intro O H ds vs s g h; rw [h.1, h.2.1]; exact ⟨[], .nil, fun a z => (by cases z), oa_nil.mpr ⟨rfl, rfl⟩⟩
  | acons a r _ ih =>
    intro O H ds vs s g h
    obtain ⟨d, ds', v, vs', fp, H1, rfl, rfl, e, q, h2⟩ := h
    simp only [goodA, Bool.and_eq_true] at g
    have qn := q.new
    obtain ⟨fp2, n2, f2, o2⟩ := ih ((s.ext e).sup qn.2) g.2 h2
    unfold VRf at q
    rw [if_pos g.1] at q
    obtain ⟨n1, f1, o1⟩ := q
    have s1 : Sub (sup O fp) H1 := (s.ext e).sup qn.2
    obtain ⟨g1, sg1, q1⟩ := OwnR.less d (nw a) (nw (.acons a r)) v fp (Nat.min_le_left _ _) n1 o1
    obtain ⟨g2, sg2, q2⟩ := OwnAll.less ds' (nw r) (nw (.acons a r)) vs' fp2 (Nat.min_le_right _ _) n2 o2
    have dis : ∀ x ∈ fp, ∀ y ∈ fp2, x ≠ y := fun x hx y hy z => by
      obtain ⟨o, ho⟩ := (qn.2 x hx).some
      rw [z, f2 y hy] at ho
      cases ho
    refine ⟨g1 ++ g2, List.nodup_append.mpr ⟨n1.sublist sg1, n2.sublist sg2, fun x hx y hy => dis x (sg1.subset hx) y (sg2.subset hy)⟩, fun x hx => ?_, oa_cons.mpr ⟨v, vs', g1, g2, rfl, rfl, ?_, ?_⟩⟩
    · rcases List.mem_append.mp hx with hx | hx
      · exact f1 x (sg1.subset hx)
      · exact e.back (f2 x (sg2.subset hx))
    · refine OwnR.mono (Ext.refl _) d _ v g1 (fun x hx o ho => h2.ext x o ho) (q1 _ (fun x o ho => ?_) fun x hx nx o ho => ?_)
      · obtain ⟨z1, z2⟩ := off_some.mp ho
        obtain ⟨z3, z4⟩ := sup_false.mp z1
        refine off_some.mpr ⟨sup_false.mpr ⟨z3, fun z => ?_⟩, h2.ext x o z2⟩
        rcases List.mem_append.mp z with z | z
        · exact z4 (sg1.subset z)
        · rw [f2 x (sg2.subset z)] at z2
          cases z2
      · refine off_some.mpr ⟨sup_false.mpr ⟨s.new (f1 x hx), fun z => ?_⟩, h2.ext x o ho⟩
        rcases List.mem_append.mp z with z | z
        · exact nx z
        · exact dis x hx x (sg2.subset z) rfl
    · refine q2 _ (fun x o ho => ?_) fun x hx nx o ho => ?_
      · obtain ⟨z1, z2⟩ := off_some.mp ho
        obtain ⟨z3, z4⟩ := sup_false.mp z1
        obtain ⟨z5, z6⟩ := sup_false.mp z3
        refine off_some.mpr ⟨sup_false.mpr ⟨z5, fun z => ?_⟩, z2⟩
        rcases List.mem_append.mp z with z | z
        · exact z6 (sg1.subset z)
        · exact z4 (sg2.subset z)
      · refine off_some.mpr ⟨sup_false.mpr ⟨s.new (e.back (f2 x hx)), fun z => ?_⟩, ho⟩
        rcases List.mem_append.mp z with z | z
        · exact dis x (sg1.subset z) x hx rfl
        · exact nx z
  | _ => intro O H ds vs s g h; exact h.elim
/-- item by item: how deep each is new -/
def nwL : L → List Nat
  | .acons a r => nw a :: nwL r
  | _ => []
inductive OwnK (CA : Cmap) (H B : Hp) : List Nat → List D → List V → List Addr → Prop
  | nil : OwnK CA H B [] [] [] []
  | cons {k : Nat} {ks : List Nat} {d : D} {ds : List D} {v : V} {vs : List V} {f g : List Addr} : OwnR CA H B d k v f → OwnK CA H B ks ds vs g → OwnK CA H B (k :: ks) (d :: ds) (v :: vs) (f ++ g)
theorem OwnK.here {H B : Hp} {ks : List Nat} {ds : List D} {vs : List V} {fp : List Addr} (h : OwnK CA H B ks ds vs fp) : ∀ a ∈ fp, Kind H a := by
  induction h with
  | nil => intro a z; cases z
  | cons o _ ih =>
    intro a z
    rcases List.mem_append.mp z with z | z
    · exact OwnR.here o a z
    · exact ih a z
theorem OwnK.mono {H B B' : Hp} {ks : List Nat} {ds : List D} {vs : List V} {fp : List Addr} (e : Ext B B') (h : OwnK CA H B ks ds vs fp) : OwnK CA H B' ks ds vs fp := by
  induction h with
  | nil => exact .nil
  | cons o _ ih => exact .cons (OwnR.mono e _ _ _ _ (fun _ _ _ z => z) o) ih
theorem AL.ownK {H' : Hp} : ∀ {l : L} {O : Addr → Bool} {H : Hp} {ds : List D} {vs : List V}, Sub O H → goodA l = true → AL CA O H H' l ds vs → ∃ fp : List Addr, fp.Nodup ∧ (∀ a ∈ fp, H a = none) ∧ OwnK CA H' (off (sup O fp) H') (nwL l) ds vs fp := by
  intro l
  induction l with
  | anil => intro O H ds vs s g h; rw [h.1, h.2.1]; exact ⟨[], .nil, fun a z => (by cases z), .nil⟩
  | acons a r _ ih =>
    intro O H ds vs s g h
    obtain ⟨d, ds', v, vs', fp, H1, rfl, rfl, e, q, h2⟩ := h
    simp only [goodA, Bool.and_eq_true] at g
    have qn := q.new
    obtain ⟨fp2, n2, f2, o2⟩ := ih ((s.ext e).sup qn.2) g.2 h2
    unfold VRf at q
    rw [if_pos g.1] at q
    obtain ⟨n1, f1, o1⟩ := q
    have dis : ∀ x ∈ fp, ∀ y ∈ fp2, x ≠ y := fun x hx y hy z => by
      obtain ⟨o, ho⟩ := (qn.2 x hx).some
      rw [z, f2 y hy] at ho
      cases ho
    refine ⟨fp ++ fp2, List.nodup_append.mpr ⟨n1, n2, dis⟩, fun x hx => ?_, .cons ?_ ?_⟩
    · rcases List.mem_append.mp hx with hx | hx
      · exact f1 x hx
      · exact e.back (f2 x hx)
    · refine OwnR.mono (fun x o ho => ?_) d _ v fp (fun x hx o ho => h2.ext x o ho) o1
      obtain ⟨z1, z2⟩ := off_some.mp ho
      obtain ⟨z3, z4⟩ := sup_false.mp z1
      refine off_some.mpr ⟨sup_false.mpr ⟨z3, fun z => ?_⟩, h2.ext x o z2⟩
      rcases List.mem_append.mp z with z | z
      · exact z4 z
      · rw [f2 x z] at z2
        cases z2
    · rw [← sup_sup]
      exact o2
  | _ => intro O H ds vs s g h; exact h.elim
/-- the reading of an expression: its slots stand for ρ, it is worth d there -/
def tD (CA : Cmap) (F : Nat → List D → Option D) (l : L) : TE := fun σ H Q => ∃ O ρ d, EnvR CA O H σ ρ ∧ evE F l ρ = some d ∧ ∀ v H', Ext H H' → VR CA O H H' l d v → Q v H'
def tT (CA : Cmap) (F : Nat → List D → Option D) (l : L) : TT := fun σ H Q => ∃ O ρ b, EnvR CA O H σ ρ ∧ evE F l ρ = some (.bool b) ∧ ∀ H', Ext H H' → Q b H'
def tA (CA : Cmap) (F : Nat → List D → Option D) (l : L) : TA := fun σ H Q => ∃ O ρ ds, EnvR CA O H σ ρ ∧ evE F l ρ = some (.tuple ds) ∧ ∀ vs H', Ext H H' → AL CA O H H' l ds vs → Q vs H'
section
variable {X : Cx} {pos p0 : Pos}
theorem PE.imp {e : Expr} {t t' : TE} (h : PE X e t) (i : ∀ σ H Q, t' σ H Q → t σ H Q) : PE X e t' := ⟨fun pins s σ H Q I q => h.run pins s σ H Q I (i σ H Q q)⟩
theorem PT.imp {e : Expr} {t t' : TT} (h : PT X e t) (i : ∀ σ H Q, t' σ H Q → t σ H Q) : PT X e t' := ⟨fun pins s σ H Q I q => h.run pins s σ H Q I (i σ H Q q)⟩
theorem PW.imp {e : Expr} {t t' : TT} (h : PW X e t) (i : ∀ σ H Q, t' σ H Q → t σ H Q) : PW X e t' := ⟨fun wh pins s σ H Q I q => h.run wh pins s σ H Q I (i σ H Q q)⟩
theorem PA.imp {e : List Expr} {t t' : TA} (h : PA X e t) (i : ∀ σ H Q, t' σ H Q → t σ H Q) : PA X e t' := ⟨fun pos pins s σ H Q I q => h.run pos pins s σ H Q I (i σ H Q q)⟩
theorem unB_some {o : Option D} {b : Bool} : unB o = some b ↔ o = some (.bool b) := by
  cases o with
  | none => simp [unB]
  | some d => cases d <;> simp [unB]
theorem unT_some {o : Option D} {xs : List D} : unT o = some xs ↔ o = some (.tuple xs) := by
  cases o with
  | none => simp [unT]
  | some d => cases d <;> simp [unT]
/-- the value as a truth -/
theorem tD_tB {l : L} {σ : St} {H : Hp} {Q : Bool → Hp → Prop} (h : tT CA F l σ H Q) : tB (tD CA F l) σ H Q := by
  obtain ⟨O, ρ, b, E, ev, k⟩ := h
  exact ⟨O, ρ, _, E, ev, fun v H' e r => ⟨b, r.bool E.sub, k H' e⟩⟩
theorem tD_test {l : L} {σ : St} {H : Hp} {Q : Bool → Hp → Prop} (h : tT CA F l σ H Q) : tTest (tD CA F l) σ H Q := by
  obtain ⟨O, ρ, b, E, ev, k⟩ := h
  exact ⟨O, ρ, _, E, ev, fun v H' e r => ⟨b, r.bool E.sub, k H' e⟩⟩
/-! coercions -/
theorem snd_flat1 {e : Expr} {l : L} (h : PE X e (tD CA F l)) : PE X e (tD CA F (.flat1 l)) := by
  refine PE.imp h fun σ H Q ⟨O, ρ, d, E, ev, k⟩ => ?_
  rw [evE, Option.bind_eq_some_iff] at ev
  obtain ⟨d', ed, ev⟩ := ev
  rw [Option.ite_none_right_eq_some] at ev
  obtain ⟨hf, ev⟩ := ev
  cases ev
  refine ⟨O, ρ, d, E, ed, fun v H' e r => k v H' e ((VR.good rfl).mpr ?_)⟩
  unfold VR at r
  split at r
  · rename_i g
    rw [if_pos g] at hf
    exact r.deep E.sub hf
  · rename_i g
    rw [if_neg g] at hf
    exact .flat (flatAt0 hf) r.1
theorem snd_rd {e : Expr} {l : L} (h : PE X e (tD CA F l)) : PE X e (tD CA F (.rd l)) := by
  refine PE.imp h fun σ H Q ⟨O, ρ, d, E, ev, k⟩ => ?_
  rw [evE, Option.bind_eq_some_iff] at ev
  obtain ⟨d', ed, ev⟩ := ev
  rw [Option.ite_none_right_eq_some] at ev
  obtain ⟨hf, ev⟩ := ev
  cases ev
  refine ⟨O, ρ, d, E, ed, fun v H' e r => k v H' e ?_⟩
  unfold VR
  rw [if_neg (by simp [good])]
  exact ⟨r.rp E.sub, fun _ => hf, fun z => nomatch z⟩
/-! names, constants -/
theorem snd_var {i : Nat} {x : Str} (hN : X.N[i]? = some x) (hv : Vis X.env.scope x) (hd : (x == ("__debug__" : Str)) = false) (hcd : (x == ("__classdict__" : Str)) = false) : PE X (.Name x pos) (tD CA F (.var i)) := by
  refine PE.imp (pe_var hN hv hd hcd) fun σ H Q ⟨O, ρ, d, E, ev, k⟩ => ?_
  simp only [evE] at ev
  split at ev
  · rename_i d' e
    cases ev
    obtain ⟨v, h1, h2⟩ := E.fz i d e
    exact ⟨v, h1, k v H (Ext.refl H) ((VR.good rfl).mpr (.of h2))⟩
  · cases ev
theorem snd_own {i : Nat} {x : Str} (hN : X.N[i]? = some x) (hv : Vis X.env.scope x) (hd : (x == ("__debug__" : Str)) = false) (hcd : (x == ("__classdict__" : Str)) = false) : PE X (.Name x pos) (tD CA F (.own i)) := by
  refine PE.imp (pe_var hN hv hd hcd) fun σ H Q ⟨O, ρ, d, E, ev, k⟩ => ?_
  simp only [evE] at ev
  split at ev
  · rename_i j d' e
    cases ev
    obtain ⟨v, h1, h2⟩ := E.read e
    exact ⟨_, h1, k _ H (Ext.refl H) (by unfold VR good; rw [if_neg Bool.false_ne_true]; exact ⟨h2, (fun z => nomatch z), fun z => nomatch z⟩)⟩
  · rename_i d' e
    cases ev
    obtain ⟨v, h1, h2⟩ := E.fz i d e
    exact ⟨v, h1, k v H (Ext.refl H) (by unfold VR good; rw [if_neg Bool.false_ne_true]; exact ⟨Rp.mono (off_ext O H) d v h2, (fun z => nomatch z), fun z => nomatch z⟩)⟩
  · cases ev
theorem snd_c {e : Expr} {d : D} {v : V} (h : PE X e (tC v)) (hf : flat d = true) (r : ∀ H, Rp CA H d v) : PE X e (tD CA F (.c d)) := by
  refine PE.imp h fun σ H Q ⟨O, ρ, d', E, ev, k⟩ => ?_
  simp only [evE, Option.some.injEq] at ev
  subst ev
  exact k v H (Ext.refl H) ((VR.good rfl).mpr (.flat hf (r H)))
/-! operators -/
theorem snd_bin {o : BOp} {a b : Expr} {la lb : L} (ga : okop la = true) (gb : okop lb = true) (ha : PE X a (tD CA F la)) (hb : PE X b (tD CA F lb)) : PE X (.BinOp a (opPy o) b pos) (tD CA F (.bin o la lb)) := by
  refine PE.imp (pe_op (opB_ok (CA := CA)) ha hb) fun σ H Q ⟨O, ρ, d, E, ev, k⟩ => ?_
  simp only [evE, Option.bind_eq_some_iff] at ev
  obtain ⟨x, ex, y, ey, eo⟩ := ev
  exact ⟨O, ρ, x, E, ex, fun v H1 e1 r1 => ⟨O, ρ, y, E.ext e1, ey, fun u H2 e2 r2 => ⟨O, x, y, d, E.sub.ext (e1.trans e2), (r1.vl E.sub ga).ext e2, r2.vl (E.sub.ext e1) gb, eo, fun z H3 e3 r3 => k z H3 ((e1.trans e2).trans e3) ((VR.good rfl).mpr (r3.back (e1.trans e2)))⟩⟩⟩
theorem snd_neg {a : Expr} {la : L} (ha : PE X a (tD CA F la)) : PE X (.UnaryOp .USub a pos) (tD CA F (.neg la)) := by
  refine PE.imp (pe_un un_neg ha) fun σ H Q ⟨O, ρ, d, E, ev, k⟩ => ?_
  simp only [evE] at ev
  split at ev
  · rename_i i ei
    cases ev
    exact ⟨O, ρ, _, E, ei, fun v H1 e1 r1 => ⟨i, r1.int E.sub, k _ H1 e1 (.flat (H'' := H) rfl (rp_int.mpr rfl) rfl rfl)⟩⟩
  · cases ev
theorem snd_not {a : Expr} {la : L} (ha : PE X a (tD CA F la)) : PE X (.UnaryOp .Not a pos) (tD CA F (.not la)) := by
  refine PE.imp (pe_not ha) fun σ H Q ⟨O, ρ, d, E, ev, k⟩ => ?_
  simp only [evE, Option.map_eq_some_iff, unB_some] at ev
  obtain ⟨b, eb, rfl⟩ := ev
  exact ⟨O, ρ, _, E, eb, fun v H1 e1 r1 => ⟨b, r1.bool E.sub, k _ H1 e1 (.flat (H'' := H) rfl (rp_bool.mpr rfl) rfl rfl)⟩⟩
theorem snt_not {a : Expr} {la : L} (ha : PT X a (tT CA F la)) : PT X (.UnaryOp .Not a pos) (tT CA F (.not la)) := by
  refine PT.imp (pt_not ha) fun σ H Q ⟨O, ρ, d, E, ev, k⟩ => ?_
  simp only [evE, Option.map_eq_some_iff, unB_some, PyData.bool.injEq] at ev
  obtain ⟨b, eb, rfl⟩ := ev
  exact ⟨O, ρ, b, E, eb, k⟩
/-- the same value by another name -/
theorem VR.as {O : Addr → Bool} {H H1 H' : Hp} {l l' : L} {d : D} {v : V} (s : Sub O H1) (e : Ext H H1) (hg : Dz.good l' = true → Dz.good l = true) (hn : nw l' ≤ nw l) (hr : isRd l' = false) (hr1 : isOwn1 l' = false) (h : VR CA O H1 H' l d v) : VR CA O H H' l' d v := by
  unfold VR
  split
  · rename_i g
    exact (((VR.good (hg g)).mp h).less s hn).back e
  · exact ⟨h.rp s, (fun z => by rw [hr] at z; cases z), (fun z => by rw [hr1] at z; cases z)⟩
theorem snd_and {a b : Expr} {rest : List Expr} {la lb : L} (ha : PE X a (tD CA F la)) (hb : PE X (.BoolOp .And (b :: rest) pos) (tD CA F lb)) : PE X (.BoolOp .And (a :: b :: rest) pos) (tD CA F (.and la lb)) := by
  refine PE.imp (pe_and ha hb) fun σ H Q ⟨O, ρ, d, E, ev, k⟩ => ?_
  simp only [evE, Option.bind_eq_some_iff, unB_some] at ev
  obtain ⟨c, ec, ev⟩ := ev
  refine ⟨O, ρ, _, E, ec, fun v H1 e1 r1 => ⟨c, r1.bool E.sub, ?_⟩⟩
  cases c with
  | true =>
    rw [if_pos rfl] at ev ⊢
    exact ⟨O, ρ, d, E.ext e1, ev, fun w H2 e2 r2 => k w H2 (e1.trans e2) (VR.as (l := lb) (E.sub.ext e1) e1 (fun z => z) (Nat.le_refl _) rfl rfl r2)⟩
  | false =>
    rw [if_neg Bool.false_ne_true] at ev ⊢
    cases ev
    exact k _ H1 e1 (.flat (H'' := H) rfl (rp_bool.mpr rfl) rfl rfl)
theorem snd_or {a b : Expr} {rest : List Expr} {la lb : L} (ha : PE X a (tD CA F la)) (hb : PE X (.BoolOp .Or (b :: rest) pos) (tD CA F lb)) : PE X (.BoolOp .Or (a :: b :: rest) pos) (tD CA F (.or la lb)) := by
  refine PE.imp (pe_or ha hb) fun σ H Q ⟨O, ρ, d, E, ev, k⟩ => ?_
  simp only [evE, Option.bind_eq_some_iff, unB_some] at ev
  obtain ⟨c, ec, ev⟩ := ev
  refine ⟨O, ρ, _, E, ec, fun v H1 e1 r1 => ⟨c, r1.bool E.sub, ?_⟩⟩
  cases c with
  | false =>
    rw [if_neg Bool.false_ne_true] at ev ⊢
    exact ⟨O, ρ, d, E.ext e1, ev, fun w H2 e2 r2 => k w H2 (e1.trans e2) (VR.as (l := lb) (E.sub.ext e1) e1 (fun z => z) (Nat.le_refl _) rfl rfl r2)⟩
  | true =>
    rw [if_pos rfl] at ev ⊢
    cases ev
    exact k _ H1 e1 (.flat (H'' := H) rfl (rp_bool.mpr rfl) rfl rfl)
theorem snw_and {a b : Expr} {rest : List Expr} {la lb : L} (ha : PT X a (tT CA F la)) (hb : PW X (.BoolOp .And (b :: rest) pos) (tT CA F lb)) : PW X (.BoolOp .And (a :: b :: rest) pos) (tT CA F (.and la lb)) := by
  refine PW.imp (pw_and ha hb) fun σ H Q ⟨O, ρ, d, E, ev, k⟩ => ?_
  simp only [evE, Option.bind_eq_some_iff, unB_some] at ev
  obtain ⟨c, ec, ev⟩ := ev
  refine ⟨O, ρ, c, E, ec, fun H1 e1 => ?_⟩
  cases c with
  | true =>
    rw [if_pos rfl] at ev ⊢
    exact ⟨O, ρ, d, E.ext e1, ev, fun H2 e2 => k H2 (e1.trans e2)⟩
  | false =>
    rw [if_neg Bool.false_ne_true] at ev ⊢
    cases ev
    exact k H1 e1
theorem snw_or {a b : Expr} {rest : List Expr} {la lb : L} (ha : PT X a (tT CA F la)) (hb : PW X (.BoolOp .Or (b :: rest) pos) (tT CA F lb)) : PW X (.BoolOp .Or (a :: b :: rest) pos) (tT CA F (.or la lb)) := by
  refine PW.imp (pw_or ha hb) fun σ H Q ⟨O, ρ, d, E, ev, k⟩ => ?_
  simp only [evE, Option.bind_eq_some_iff, unB_some] at ev
  obtain ⟨c, ec, ev⟩ := ev
  refine ⟨O, ρ, c, E, ec, fun H1 e1 => ?_⟩
  cases c with
  | false =>
    rw [if_neg Bool.false_ne_true] at ev ⊢
    exact ⟨O, ρ, d, E.ext e1, ev, fun H2 e2 => k H2 (e1.trans e2)⟩
  | true =>
    rw [if_pos rfl] at ev ⊢
    cases ev
    exact k H1 e1
theorem snd_ite {t a b : Expr} {lt la lb : L} (ht : PT X t (tT CA F lt)) (ha : PE X a (tD CA F la)) (hb : PE X b (tD CA F lb)) : PE X (.IfExp t a b pos) (tD CA F (.ite lt la lb)) := by
  refine PE.imp (pe_ifExp ht ha hb) fun σ H Q ⟨O, ρ, d, E, ev, k⟩ => ?_
  simp only [evE, Option.bind_eq_some_iff, unB_some] at ev
  obtain ⟨c, ec, ev⟩ := ev
  refine ⟨O, ρ, c, E, ec, fun H1 e1 => ?_⟩
  cases c with
  | true =>
    rw [if_pos rfl] at ev ⊢
    exact ⟨O, ρ, d, E.ext e1, ev, fun w H2 e2 r2 => k w H2 (e1.trans e2) (r2.as (E.sub.ext e1) e1 (fun z => by simp only [good, Bool.and_eq_true] at z; exact z.1) (Nat.min_le_left _ _) rfl rfl)⟩
  | false =>
    rw [if_neg Bool.false_ne_true] at ev ⊢
    exact ⟨O, ρ, d, E.ext e1, ev, fun w H2 e2 r2 => k w H2 (e1.trans e2) (r2.as (E.sub.ext e1) e1 (fun z => by simp only [good, Bool.and_eq_true] at z; exact z.2) (Nat.min_le_right _ _) rfl rfl)⟩
/-! comparisons -/
theorem imp_cmp {o : COp} {la lb : L} {σ : St} {H : Hp} {Q : VK} (h : tD CA F (.cmp o la lb) σ H Q) : tOp (rC CA o) (tD CA F la) (tD CA F lb) σ H Q := by
  obtain ⟨O, ρ, d, E, ev, k⟩ := h
  simp only [evE, Option.bind_eq_some_iff, Option.map_eq_some_iff] at ev
  obtain ⟨x, ex, y, ey, b, eo, rfl⟩ := ev
  exact ⟨O, ρ, x, E, ex, fun v H1 e1 r1 => ⟨O, ρ, y, E.ext e1, ey, fun u H2 e2 r2 => ⟨x, y, b, Rp.mono e2 x v (r1.rp E.sub), r2.rp (E.sub.ext e1), eo, k _ H2 (e1.trans e2) (.flat (H'' := H) rfl (rp_bool.mpr rfl) rfl rfl)⟩⟩⟩
theorem snd_cmp {o : COp} {a b : Expr} {la lb : L} (hu : X.A.units + 65 < cLine) (ha : PE X a (tD CA F la)) (hb : PE X b (tD CA F lb)) (hm : behindInMarks (cmpPy o) b = false) : PE X (.Compare a [cmpPy o] [b] pos) (tD CA F (.cmp o la lb)) :=
  PE.imp (pe_cmpR (opC_ok (CA := CA) hu) ha hb hm) fun σ H Q h => imp_cmp h
theorem snt_cmp {o : COp} {a b : Expr} {la lb : L} (hu : X.A.units + 65 < cLine) (ha : PE X a (tD CA F la)) (hb : PE X b (tD CA F lb)) (hm : behindInMarks (cmpPy o) b = false) : PT X (.Compare a [cmpPy o] [b] pos) (tT CA F (.cmp o la lb)) :=
  PT.imp (pt_cmpR (opC_ok (CA := CA) hu) ha hb hm) fun σ H Q h => imp_cmp (tD_test h)
theorem imp_chain {o o' : COp} {la lb lc : L} {σ : St} {H : Hp} {Q : VK} (h : tD CA F (.chain o o' la lb lc) σ H Q) : tChain (rC CA o) (rC CA o') (tD CA F la) (tD CA F lb) (tD CA F lc) σ H Q := by
  obtain ⟨O, ρ, d, E, ev, k⟩ := h
  simp only [evE, Option.bind_eq_some_iff] at ev
  obtain ⟨x, ex, y, ey, c, ec, ev⟩ := ev
  refine ⟨O, ρ, x, E, ex, fun v H1 e1 r1 => ⟨O, ρ, y, E.ext e1, ey, fun u H2 e2 r2 => ⟨x, y, c, Rp.mono e2 x v (r1.rp E.sub), r2.rp (E.sub.ext e1), ec, c, rfl, ?_⟩⟩⟩
  cases c with
  | true =>
    rw [if_pos rfl] at ev ⊢
    simp only [Option.bind_eq_some_iff, Option.map_eq_some_iff] at ev
    obtain ⟨z, ez, b, eb, rfl⟩ := ev
    exact ⟨O, ρ, z, E.ext (e1.trans e2), ez, fun w H3 e3 r3 => ⟨y, z, b, Rp.mono e3 y u (r2.rp (E.sub.ext e1)), r3.rp (E.sub.ext (e1.trans e2)), eb, k _ H3 ((e1.trans e2).trans e3) (.flat (H'' := H) rfl (rp_bool.mpr rfl) rfl rfl)⟩⟩
  | false =>
    rw [if_neg Bool.false_ne_true] at ev ⊢
    cases ev
    exact k _ H2 (e1.trans e2) (.flat (H'' := H) rfl (rp_bool.mpr rfl) rfl rfl)
theorem snd_chain {o o' : COp} {a b c : Expr} {la lb lc : L} (hu : X.A.units + 65 < cLine) (ha : PE X a (tD CA F la)) (hb : PE X b (tD CA F lb)) (hc : PE X c (tD CA F lc)) (hm : lastMarks [cmpPy o, cmpPy o'] [b, c] = false) :
    PE X (.Compare a [cmpPy o, cmpPy o'] [b, c] pos) (tD CA F (.chain o o' la lb lc)) := PE.imp (pe_chain (opC_ok (CA := CA) hu) (opC_ok (CA := CA) hu) ha hb hc hm) fun σ H Q h => imp_chain h
theorem snt_chain {o o' : COp} {a b c : Expr} {la lb lc : L} (hu : X.A.units + 65 < cLine) (ha : PE X a (tD CA F la)) (hb : PE X b (tD CA F lb)) (hc : PE X c (tD CA F lc)) (hm : lastMarks [cmpPy o, cmpPy o'] [b, c] = false) :
    PT X (.Compare a [cmpPy o, cmpPy o'] [b, c] pos) (tT CA F (.chain o o' la lb lc)) := PT.imp (pt_chain (opC_ok (CA := CA) hu) (opC_ok (CA := CA) hu) ha hb hc hm) fun σ H Q h => imp_chain (tD_test h)
/-! items, slices -/
/-- a part of a value, read in the heap that fits -/
theorem VR.part {O : Addr → Bool} {H H1 H2 : Hp} {l l' : L} {d : D} {v : V} (s : Sub O H) (e2 : Ext H1 H2) (hg : Dz.good l' = Dz.good l) (hn : nw l' = 0) (hr : isRd l' = false) (hr1 : isOwn1 l' = false) (h : VR CA O H H1 l d v) :
    ∃ B, Ext B H2 ∧ Rp CA B d v ∧ ∀ d' z, Rp CA B d' z → VR CA O H H2 l' d' z := by
  cases g : Dz.good l with
  | true =>
    refine ⟨off O H2, off_ext O H2, Rp.mono e2.off d v (((VR.good g).mp h).rp s), fun d' z r => (VR.good (hg.trans g)).mpr ?_⟩
    rw [hn]
    exact .of r
  | false =>
    refine ⟨H2, Ext.refl _, Rp.mono e2 d v (h.rp s), fun d' z r => ?_⟩
    unfold VR
    rw [if_neg (by rw [hg, g]; exact Bool.false_ne_true)]
    exact ⟨r, (fun w => by rw [hr] at w; cases w), (fun w => by rw [hr1] at w; cases w)⟩
theorem snd_own1 {i : Nat} {x : Str} (hN : X.N[i]? = some x) (hv : Vis X.env.scope x) (hd : (x == ("__debug__" : Str)) = false) (hcd : (x == ("__classdict__" : Str)) = false) : PE X (.Name x pos) (tD CA F (.own1 i)) := by
  refine PE.imp (pe_var hN hv hd hcd) fun σ H Q ⟨O, ρ, d, E, ev, k⟩ => ?_
  simp only [evE] at ev
  split at ev
  · rename_i d' e
    split at ev
    · cases ev
      obtain ⟨v, h1, h2⟩ := E.read e
      obtain ⟨w, _, q⟩ := E.own
      obtain ⟨v', fp, h3, _, _, h4⟩ := q i 1 _ e
      rw [h1] at h3
      cases h3
      obtain ⟨a, xs, fps, rfl, h5, _, h6⟩ := own_list.mp h4
      refine ⟨_, h1, k _ H (Ext.refl H) ?_⟩
      unfold VR good
      rw [if_neg Bool.false_ne_true]
      exact ⟨h2, (fun z => nomatch z), fun _ => ⟨fun ds q => by cases q; exact ⟨a, xs, rfl, .inl h5, (oa0.mp h6).2⟩, _, rfl⟩⟩
    · cases ev
  · rename_i d' e
    split at ev
    · cases ev
      obtain ⟨v, h1, h2⟩ := E.fz i _ e
      refine ⟨v, h1, k v H (Ext.refl H) ?_⟩
      unfold VR good
      rw [if_neg Bool.false_ne_true]
      refine ⟨Rp.mono (off_ext O H) _ v h2, (fun z => nomatch z), fun _ => ⟨fun ds q => ?_, _, rfl⟩⟩
      cases q
      obtain ⟨a, xs, e1, e2, e3⟩ := rp_list.mp h2
      exact ⟨a, xs, e1, rd_off e2, e3⟩
    · cases ev
  · cases ev
/-- a value in which an item is read -/
def rIxE (CA : Cmap) : R2 := fun x y H Q => ∃ B dx dy d, (∀ ds, dx = .list ds → ∃ a xs, x = .ref a ∧ Rd H a (.lst xs) ∧ RpAll CA B ds xs) ∧ (∀ ds, dx = .tuple ds → ∃ a xs, x = .ref a ∧ Rd H a (.tup xs) ∧ RpAll CA B ds xs) ∧ Rp CA H dy y ∧ ixF dx dy = some d ∧ ∀ z, Rp CA B d z → Q z H
theorem ixE_ok : IxR X (rIxE CA) := by
  intro a b pins s σ H x y v u Q I rx ry h
  obtain ⟨B, dx, dy, d, h1, h1', h2, ho, k⟩ := h
  refine (ix_seq (X := X)) a b pins s σ H x y v u Q I rx ry ?_
  cases dx <;> cases dy <;> simp only [ixF, reduceCtorEq] at ho
  · obtain ⟨p, xs, rfl, ha, ra⟩ := h1 _ rfl
    obtain ⟨w, e1, e2⟩ := atI_of ra ho
    exact .inl ⟨p, xs, _, w, rfl, rp_int.mp h2, .inl ha, e1, k _ e2⟩
  · obtain ⟨p, xs, rfl, ha, ra⟩ := h1' _ rfl
    obtain ⟨w, e1, e2⟩ := atI_of ra ho
    exact .inr (.inl ⟨p, xs, _, w, rfl, rp_int.mp h2, .inl ha, e1, k _ e2⟩)
theorem snd_ix {a b : Expr} {la lb : L} (ha : PE X a (tD CA F la)) (hb : PE X b (tD CA F lb)) (hs : PlainIx b) : PE X (.Subscript a b pos) (tD CA F (.ix la lb)) := by
  refine PE.imp (pe_ix (ixE_ok (CA := CA)) ha hb hs) fun σ H Q ⟨O, ρ, d, E, ev, k⟩ => ?_
  simp only [evE, Option.bind_eq_some_iff] at ev
  obtain ⟨x, ex, y, ey, eo⟩ := ev
  refine ⟨O, ρ, x, E, ex, fun v H1 e1 r1 => ⟨O, ρ, y, E.ext e1, ey, fun u H2 e2 r2 => ?_⟩⟩
  have fin : ∀ B, Ext B H2 → Rp CA B x v → (∀ z, Rp CA B d z → VR CA O H H2 (.ix la lb) d z) → rIxE CA v u H2 Q := fun B b1 b2 b3 => by
    refine ⟨B, x, y, d, fun ds e => ?_, fun ds e => ?_, r2.rp (E.sub.ext e1), eo, fun z rz => k z H2 (e1.trans e2) (b3 z rz)⟩
    · subst e
      obtain ⟨a, xs, q1, q2, q3⟩ := rp_list.mp b2
      exact ⟨a, xs, q1, b1.rd q2, q3⟩
    · subst e
      obtain ⟨a, xs, q1, q2, q3⟩ := rp_tuple.mp b2
      exact ⟨a, xs, q1, b1.rd q2, q3⟩
  cases g : good la with
  | true =>
    refine fin (off O H2) (off_ext O H2) (Rp.mono e2.off x v (((VR.good g).mp r1).rp E.sub)) fun z r => (VR.good (by simp [good, g])).mpr ?_
    exact .of r
  | false =>
    cases g1 : isOwn1 la with
    | true =>
      unfold VR at r1
      rw [if_neg (by rw [g]; exact Bool.false_ne_true)] at r1
      obtain ⟨o1, ds, rfl⟩ := r1.2.2 g1
      obtain ⟨a, xs, q1, q2, q3⟩ := o1 ds rfl
      refine ⟨off O H2, _, y, d, fun ds' e => ?_, fun ds' e => (by cases e), r2.rp (E.sub.ext e1), eo, fun z rz => k z H2 (e1.trans e2) ((VR.good (by simp [good, g, g1])).mpr (.of rz))⟩
      cases e
      exact ⟨a, xs, q1, e2.rd q2, RpAll.mono e2.off ds xs q3⟩
    | false =>
      refine fin H2 (Ext.refl _) (Rp.mono e2 x v (r1.rp E.sub)) fun z r => ?_
      unfold VR
      rw [if_neg (by simp [good, g, g1])]
      exact ⟨r, (fun w => nomatch w), fun w => nomatch w⟩
def tPartD (CA : Cmap) (F : Nat → List D → Option D) (l : L) : TO := fun σ H Q => ∃ O ρ o, EnvR CA O H σ ρ ∧ (evE F l ρ).bind partO = some o ∧ ∀ H', Ext H H' → Q o H'
theorem part_none : PO X none (tPartD CA F (.c .none)) := by
  refine ⟨fun pins s σ H Q I ⟨O, ρ, o, E, ev, k⟩ => (po_none (X := X)).run pins s σ H Q I ?_⟩
  simp only [evE, Option.bind_some, partO, Option.some.injEq] at ev
  subst ev
  exact k H (Ext.refl H)
theorem snd_slice {a : Expr} {lo hi : Option Expr} {la ll lh : L} {p2 : Pos} (ga : okop la = true) (ha : PE X a (tD CA F la)) (hl : PO X lo (tPartD CA F ll)) (hh : PO X hi (tPartD CA F lh)) : PE X (.Subscript a (.Slice lo hi none p2) pos) (tD CA F (.slice la ll lh)) := by
  refine PE.imp (pe_slice (slD_ok (CA := CA)) ha hl hh) fun σ H Q ⟨O, ρ, d, E, ev, k⟩ => ?_
  rw [evE, Option.bind_eq_some_iff] at ev
  obtain ⟨x, ex, ev⟩ := ev
  rw [Option.bind_eq_some_iff] at ev
  obtain ⟨l, el, ev⟩ := ev
  rw [Option.bind_eq_some_iff] at ev
  obtain ⟨u, eu, eo⟩ := ev
  exact ⟨O, ρ, x, E, ex, fun v H1 e1 r1 => ⟨O, ρ, l, E.ext e1, el, fun H2 e2 => ⟨O, ρ, u, E.ext (e1.trans e2), eu, fun H3 e3 => ⟨O, x, d, E.sub.ext ((e1.trans e2).trans e3), (r1.vl E.sub ga).ext (e2.trans e3), eo, fun z H4 e4 r4 => k z H4 (((e1.trans e2).trans e3).trans e4) ((VR.good rfl).mpr (r4.back ((e1.trans e2).trans e3)))⟩⟩⟩⟩
theorem snd_rev {a : Expr} {la : L} {k0 : Nat} {p1 p2 p3 : Pos} (ga : okop la = true) (ha : PE X a (tD CA F la)) : PE X (.Subscript a (.Slice none none (some (.UnaryOp .USub (.Constant (.int 1) k0 p1) p2)) p3) pos) (tD CA F (.rev la)) := by
  refine PE.imp (pe_revL ha) fun σ H Q ⟨O, ρ, d, E, ev, k⟩ => ?_
  simp only [evE] at ev
  split at ev
  · rename_i ds e
    cases ev
    refine ⟨O, ρ, _, E, e, fun v H1 e1 r1 => ?_⟩
    obtain ⟨p, xs, rfl, h2, h3⟩ := (r1.vl E.sub ga).list
    exact ⟨p, xs, rfl, .inl h2, fun q hq => k _ _ (e1.trans (Ext.new hq)) ((VR.good rfl).mpr ((new_lst hq h3.reverse).back e1))⟩
  · cases ev
/-! argument lists, displays -/
theorem sna_nil : PA X [] (tA CA F .anil) := PA.imp pa_nil fun σ H Q ⟨O, ρ, ds, E, ev, k⟩ => by
  simp only [evE, Option.some.injEq, PyData.tuple.injEq] at ev
  subst ev
  exact k [] H (Ext.refl H) ⟨rfl, rfl, Ext.refl H⟩
theorem sna_cons {e : Expr} {es : List Expr} {la lr : L} (ha : PE X e (tD CA F la)) (hr : PA X es (tA CA F lr)) (hs : starEach (e :: es) X.env = (false, eval e X.env) :: starEach es X.env) : PA X (e :: es) (tA CA F (.acons la lr)) :=
  PA.imp (pa_cons ha hr hs) fun σ H Q ⟨O, ρ, ds, E, ev, k⟩ => by
    simp only [evE, Option.bind_eq_some_iff, Option.map_eq_some_iff, unT_some, PyData.tuple.injEq] at ev
    obtain ⟨x, ex, xs, exs, rfl⟩ := ev
    refine ⟨O, ρ, x, E, ex, fun v H1 e1 r1 => ?_⟩
    obtain ⟨fp, q⟩ := r1.f
    have qn := q.new
    exact ⟨sup O fp, ρ, xs, E.sup e1 qn.1 qn.2, exs, fun vs H2 e2 r2 => k _ H2 (e1.trans e2) ⟨x, xs, v, vs, fp, H1, rfl, rfl, e1, q, r2⟩⟩
theorem new_all {O : Addr → Bool} {H H1 : Hp} {p : Addr} {ds : List D} {xs : List V} {k : Nat} {fp : List Addr} (s : Sub O H) (e1 : Ext H H1) (hp : H1 p = none) (n : fp.Nodup) (f : ∀ a ∈ fp, H a = none) (kd : ∀ a ∈ fp, Kind H1 a) (o : OwnAll CA H1 (off (sup O fp) H1) ds k xs fp) :
    NewQ CA O H (upd H1 p (.lst xs)) (k + 1) (.list ds) (.ref p) := by
  have np : ∀ a ∈ fp, a ≠ p := fun a ha => let ⟨u, hu⟩ := (kd a ha).some; ne_of_none hu hp
  refine ⟨p :: fp, List.nodup_cons.mpr ⟨fun z => np p z rfl, n⟩, fun a ha => ?_, own_list.mpr ⟨p, xs, fp, rfl, upd_same, rfl, OwnAll.mono (fun a u h => ?_) ds k xs fp (fun a ha u h => by rw [upd_ne (np a ha)]; exact h) o⟩⟩
  · rcases List.mem_cons.mp ha with rfl | ha
    · exact e1.back hp
    · exact f a ha
  · obtain ⟨h1, h2⟩ := off_some.mp h
    obtain ⟨h3, h4⟩ := sup_false.mp h1
    have ne := ne_of_none h2 hp
    refine off_some.mpr ⟨sup_false.mpr ⟨h3, fun z => ?_⟩, by rw [upd_ne ne]; exact h2⟩
    rcases List.mem_cons.mp z with z | z
    · exact ne z
    · exact h4 z
theorem new_allT {O : Addr → Bool} {H H1 : Hp} {p : Addr} {ds : List D} {xs : List V} {k : Nat} {fp : List Addr} (s : Sub O H) (e1 : Ext H H1) (hp : H1 p = none) (n : fp.Nodup) (f : ∀ a ∈ fp, H a = none) (kd : ∀ a ∈ fp, Kind H1 a) (o : OwnAll CA H1 (off (sup O fp) H1) ds k xs fp) :
    NewQ CA O H (upd H1 p (.tup xs)) (k + 1) (.tuple ds) (.ref p) := by
  have np : ∀ a ∈ fp, a ≠ p := fun a ha => let ⟨u, hu⟩ := (kd a ha).some; ne_of_none hu hp
  refine ⟨fp, n, f, own_tuple.mpr ⟨p, xs, rfl, .inl (off_some.mpr ⟨sup_false.mpr ⟨s.new (e1.back hp), fun z => np p z rfl⟩, upd_same⟩), OwnAll.mono (fun a u h => ?_) ds k xs fp (fun a ha u h => by rw [upd_ne (np a ha)]; exact h) o⟩⟩
  obtain ⟨h1, h2⟩ := off_some.mp h
  exact off_some.mpr ⟨h1, by rw [upd_ne (ne_of_none h2 hp)]; exact h2⟩
theorem OwnAll.here {H B : Hp} {ds : List D} {k : Nat} {xs : List V} {fp : List Addr} (h : OwnAll CA H B ds k xs fp) : ∀ a ∈ fp, Kind H a := OwnR.here.go ds k xs fp B h
theorem snd_lst {es : List Expr} {la : L} (g : goodA la = true) (ha : PA X es (tA CA F la)) : PE X (.List es pos) (tD CA F (.lst la)) := by
  refine PE.imp (pe_lst ha) fun σ H Q ⟨O, ρ, d, E, ev, k⟩ => ?_
  simp only [evE, Option.bind_eq_some_iff, unT_some, Option.ite_none_right_eq_some, Option.some.injEq] at ev
  obtain ⟨xs, exs, hl, rfl⟩ := ev
  refine ⟨O, ρ, xs, E, exs, fun vs H1 e1 r1 => ⟨by rw [(r1.rp E.sub).length]; exact lim_line hl, fun p hp => ?_⟩⟩
  obtain ⟨fp, n, f, o⟩ := r1.own E.sub g
  exact k _ _ (e1.trans (Ext.new hp)) ((VR.good rfl).mpr (new_all E.sub e1 hp n f o.here o))
theorem snd_tup {es : List Expr} {la : L} {x1 : Nat} (g : goodA la = true) (ha : PA X es (tA CA F la)) : PE X (.Tuple es x1 pos) (tD CA F (.tup la)) := by
  refine PE.imp (pe_tup ha) fun σ H Q ⟨O, ρ, d, E, ev, k⟩ => ?_
  simp only [evE, Option.bind_eq_some_iff, unT_some, Option.ite_none_right_eq_some, Option.some.injEq] at ev
  obtain ⟨xs, exs, hl, rfl⟩ := ev
  refine ⟨O, ρ, xs, E, exs, fun vs H1 e1 r1 => ⟨by rw [(r1.rp E.sub).length]; exact lim_line hl, fun p hp => ?_⟩⟩
  obtain ⟨fp, n, f, o⟩ := r1.own E.sub g
  exact k _ _ (e1.trans (Ext.new hp)) ((VR.good rfl).mpr (new_allT E.sub e1 hp n f o.here o))
/-! built-ins -/
theorem imp_bi {b : Bi} {la : L} {σ : St} {H : Hp} {Q : VK} (h : tD CA F (.bi b la) σ H Q) : tCB (rBi CA b) (tA CA F la) σ H Q := by
  obtain ⟨O, ρ, d, E, ev, k⟩ := h
  simp only [evE, Option.bind_eq_some_iff, unT_some] at ev
  obtain ⟨xs, exs, eo⟩ := ev
  exact ⟨O, ρ, xs, E, exs, fun vs H1 e1 r1 => ⟨O, xs, d, E.sub.ext e1, r1.rp E.sub, eo, fun z H2 e2 r2 => k z H2 (e1.trans e2) ((VR.good rfl).mpr (r2.back e1))⟩⟩
/-- the only argument -/
theorem AL.one {O : Addr → Bool} {H H' : Hp} {a : L} {ds : List D} {vs : List V} (s : Sub O H) (h : AL CA O H H' (.acons a .anil) ds vs) : ∃ d v, ds = [d] ∧ vs = [v] ∧ VR CA O H H' a d v := by
  obtain ⟨d, ds', v, vs', fp, H1, rfl, rfl, e, q, h2⟩ := h
  obtain ⟨rfl, rfl, e2⟩ := h2
  exact ⟨d, v, rfl, rfl, q.vr.ext e2⟩
theorem AL.two {O : Addr → Bool} {H H' : Hp} {a b : L} {ds : List D} {vs : List V} (s : Sub O H) (h : AL CA O H H' (.acons a (.acons b .anil)) ds vs) : ∃ d d' v v', ds = [d, d'] ∧ vs = [v, v'] ∧ (okop a = true → VL CA O H' d v) ∧ (okop b = true → VL CA O H' d' v') ∧ Rp CA H' d v ∧ Rp CA H' d' v' := by
  obtain ⟨d, ds', v, vs', fp, H1, rfl, rfl, e, q, h2⟩ := h
  obtain ⟨d', ds', v', vs', fp', H2, rfl, rfl, e', q', h3⟩ := h2
  obtain ⟨rfl, rfl, e3⟩ := h3
  have s' : Sub (sup O fp) H1 := (s.ext e).sup q.new.2
  refine ⟨d, d', v, v', rfl, rfl, fun g => (q.vr.vl s g).ext (e'.trans e3), fun g => ?_, Rp.mono (e'.trans e3) d v (q.vr.rp s), Rp.mono e3 d' v' (q'.vr.rp s')⟩
  rcases (q'.vr.vl s' g).ext e3 with h | h | ⟨ds, a, xs, h1, h2, h3, h4⟩
  · exact .inl (Rp.mono off_sup_ext d' v' h)
  · exact .inr (.inl h)
  · exact .inr (.inr ⟨ds, a, xs, h1, h2, h3, RpAll.mono off_sup_ext ds xs h4⟩)
theorem imp_list1 {la : L} {σ : St} {H : Hp} {Q : VK} (g : okop la = true) (h : tD CA F (.list1 la) σ H Q) : tCB (rL1 CA) (tA CA F (.acons la .anil)) σ H Q := by
  obtain ⟨O, ρ, d, E, ev, k⟩ := h
  simp only [evE, Option.bind_eq_some_iff] at ev
  obtain ⟨x, ex, eo⟩ := ev
  refine ⟨O, ρ, [x], E, by simp only [evE, ex, Option.bind_some, unT, Option.map_some], fun vs H1 e1 r1 => ?_⟩
  obtain ⟨x', v, hx, rfl, r⟩ := r1.one E.sub
  cases hx
  exact ⟨O, x, d, v, E.sub.ext e1, rfl, r.vl E.sub g, eo, fun z H2 e2 r2 => k z H2 (e1.trans e2) ((VR.good rfl).mpr (r2.back e1))⟩
end
end Dz

set_option Elab.async false
set_option linter.all false
set_option maxRecDepth 100000
set_option maxHeartbeats 4000000
namespace Dz
open PySem L2
variable {CA : Cmap} {F : Nat → List D → Option D}
/-! ### what is walked -/
def ItW (CA : Cmap) (O : Addr → Bool) (H B : Hp) (J : It) (items : List D) : Prop := ∃ (G : Hp → Prop) (Y : Nat → Hp → V → Hp → Prop), Walk J items.length G Y ∧ (∀ H2, Ext B H2 → G H2) ∧
  ∀ (i : Nat) (O2 : Addr → Bool) (H2 : Hp) (x : V) (H3 : Hp), i < items.length → Ext (off O H) (off O2 H2) → Sub O2 H2 → Y i H2 x H3 → Ext H2 H3 ∧ ∃ d, items[i]? = some d ∧ Rp CA (off O2 H3) d x
/-- the heap in which the source stands still -/
def srcB (l : L) (O : Addr → Bool) (H : Hp) : Hp := if goodA l = true then off O H else H
def tI (CA : Cmap) (F : Nat → List D → Option D) (k : Src) (l : L) : TI := fun σ H R => ∃ O ρ items, EnvR CA O H σ ρ ∧ (unT (evE F l ρ)).bind (srcF k) = some items ∧ ∀ J H', Ext H H' → ItW CA O H' (srcB l O H') J items → R J H'
/-- a list that is a source -/
def SrcL (CA : Cmap) (O : Addr → Bool) (H B : Hp) (ds : List D) (v : V) : Prop := ∃ a xs, v = .ref a ∧ Rd B a (.lst xs) ∧ Rd H a (.lst xs) ∧ RpAll CA (off O H) ds xs
def SrcT (CA : Cmap) (O : Addr → Bool) (H B : Hp) (ds : List D) (v : V) : Prop := ∃ a xs, v = .ref a ∧ Rd B a (.tup xs) ∧ Rd H a (.tup xs) ∧ RpAll CA (off O H) ds xs
theorem srcB_ext (l : L) (O : Addr → Bool) (H : Hp) : Ext (srcB l O H) H := by
  unfold srcB
  split
  · exact off_ext O H
  · exact Ext.refl H
theorem srcL_of {O : Addr → Bool} {H : Hp} {l : L} {ds : List D} {v : V} (h1 : goodA l = true → Rp CA (off O H) (.list ds) v) (h2 : VL CA O H (.list ds) v) : SrcL CA O H (srcB l O H) ds v := by
  unfold srcB
  split
  · rename_i g
    obtain ⟨a, xs, e, r, q⟩ := rp_list.mp (h1 g)
    exact ⟨a, xs, e, r, rd_off r, q⟩
  · obtain ⟨a, xs, e, r, q⟩ := h2.list
    exact ⟨a, xs, e, r, r, q⟩
theorem srcT_of {O : Addr → Bool} {H : Hp} {l : L} {ds : List D} {v : V} (s : Sub O H) (h2 : VL CA O H (.tuple ds) v) : SrcT CA O H (srcB l O H) ds v := by
  obtain ⟨a, xs, e, r, q, _⟩ := h2.tuple s
  refine ⟨a, xs, e, ?_, r, q⟩
  unfold srcB
  split
  · exact s.tup r
  · exact r
section
variable {X : Cx} {pos p0 : Pos} {tg : Expr}
theorem PI.imp {e : Expr} {t t' : TI} (h : PI X tg e t) (i : ∀ σ H Q, t' σ H Q → t σ H Q) : PI X tg e t' := ⟨fun pins s σ H Q I q => h.run pins s σ H Q I (i σ H Q q)⟩
theorem PI.or {e : Expr} {t t' : TI} (h : PI X tg e t) (h' : PI X tg e t') : PI X tg e (fun σ H R => t σ H R ∨ t' σ H R) := ⟨fun pins s σ H Q I q => q.elim (h.run pins s σ H Q I) (h'.run pins s σ H Q I)⟩
theorem ranges_get {lo : Int} {n i : Nat} (h : i < n) : (rangeD lo n)[i]? = some (.int (lo + (i : Int))) := by
  unfold rangeD
  rw [List.getElem?_map, List.getElem?_range h]
  rfl
theorem rangeD_length {lo : Int} {n : Nat} : (rangeD lo n).length = n := by unfold rangeD; simp
theorem itw_range {O : Addr → Bool} {H B : Hp} {lo : Int} {n : Nat} : ItW CA O H B (Itr lo n) (rangeD lo n) := by
  refine ⟨fun _ => True, YFn fun i => .int (lo + i), by rw [rangeD_length]; exact walk_range, fun _ _ => trivial, fun i O2 H2 x H3 hi _ _ y => ?_⟩
  obtain ⟨rfl, rfl⟩ := y
  rw [rangeD_length] at hi
  exact ⟨Ext.refl _, _, ranges_get hi, rp_int.mpr rfl⟩
theorem itw_list {K : PySem.W.Frag} {O : Addr → Bool} {H B : Hp} {ds : List D} {v : V} (h : SrcL CA O H B ds v) : ∃ a, v = .ref a ∧ (∃ xs, SqL K H a xs) ∧ ItW CA O H B (Itl K a) ds := by
  obtain ⟨a, xs, rfl, h1, h0, h2⟩ := h
  refine ⟨a, rfl, ⟨xs, .inl h0⟩, fun H2 => SqL K H2 a xs, YAt xs, by rw [← h2.length]; exact walk_list, fun H2 e => .inl (e.rd h1), fun i O2 H2 x H3 hi e _ y => ?_⟩
  obtain ⟨rfl, hx⟩ := y
  obtain ⟨d, e1, e2⟩ := h2.got hx
  exact ⟨Ext.refl _, d, e1, Rp.mono e d x e2⟩
theorem itw_tup {K : PySem.W.Frag} {O : Addr → Bool} {H B : Hp} {ds : List D} {v : V} (h : SrcT CA O H B ds v) : ∃ a, v = .ref a ∧ (∃ xs, SqT K H a xs) ∧ ItW CA O H B (Itt K a) ds := by
  obtain ⟨a, xs, rfl, h1, h0, h2⟩ := h
  refine ⟨a, rfl, ⟨xs, .inl h0⟩, fun H2 => SqT K H2 a xs, YAt xs, by rw [← h2.length]; exact walk_tup, fun H2 e => .inl (e.rd h1), fun i O2 H2 x H3 hi e _ y => ?_⟩
  obtain ⟨rfl, hx⟩ := y
  obtain ⟨d, e1, e2⟩ := h2.got hx
  exact ⟨Ext.refl _, d, e1, Rp.mono e d x e2⟩
theorem pair_rep {O2 : Addr → Bool} {H2 : Hp} {T : Addr} {x y : V} {dx dy : D} (sb : Sub O2 H2) (n : H2 T = none) (h1 : Rp CA (off O2 H2) dx x) (h2 : Rp CA (off O2 H2) dy y) : Rp CA (off O2 (upd H2 T (.tup [x, y]))) (pairD dx dy) (.ref T) :=
  (new_tup sb n (.cons h1 (.cons h2 .nil))).rp sb
theorem itw_enum {K : PySem.W.Frag} {O : Addr → Bool} {H B : Hp} {ds : List D} {v : V} (h : SrcL CA O H B ds v) :
    ∃ a xs, v = .ref a ∧ SqL K H a xs ∧ ItW CA O H B (Ite K a) ((List.range ds.length).zipWith (fun (i : Nat) d => pairD (.int (i : Int)) d) ds) := by
  obtain ⟨a, xs, rfl, h1, h0, h2⟩ := h
  have el : ((List.range ds.length).zipWith (fun (i : Nat) d => pairD (.int (i : Int)) d) ds).length = xs.length := by
    rw [List.length_zipWith, List.length_range, h2.length]
    simp
  refine ⟨a, xs, rfl, .inl h0, fun H2 => SqL K H2 a xs, YPair (fun i => some (.int (i : Nat))) (fun i => xs[i]?), by rw [el]; exact walk_enum, fun H2 e => .inl (e.rd h1), fun i O2 H2 x H3 hi e sb y => ?_⟩
  rw [el] at hi
  obtain ⟨T, x1, y1, rfl, n, rfl, hx, hy⟩ := y
  cases hx
  obtain ⟨d, e1, e2⟩ := h2.got hy
  refine ⟨Ext.new n, pairD (.int (i : Int)) d, ?_, pair_rep sb n (rp_int.mpr rfl) (Rp.mono e d y1 e2)⟩
  rw [List.getElem?_zipWith, List.getElem?_range (by rw [← h2.length]; exact hi), e1]
theorem itw_zip {K : PySem.W.Frag} {O : Addr → Bool} {H B : Hp} {ds es : List D} {v w : V} (h : SrcL CA O H B ds v) (h' : SrcL CA O H B es w) :
    ∃ a b xs ys, v = .ref a ∧ w = .ref b ∧ SqL K H a xs ∧ SqL K H b ys ∧ ItW CA O H B (Itz K a b) (ds.zipWith pairD es) := by
  obtain ⟨a, xs, rfl, h1, h0, h2⟩ := h
  obtain ⟨b, ys, rfl, h3, h00, h4⟩ := h'
  have el : (ds.zipWith pairD es).length = min xs.length ys.length := by rw [List.length_zipWith, h2.length, h4.length]
  refine ⟨a, b, xs, ys, rfl, rfl, .inl h0, .inl h00, fun H2 => SqL K H2 a xs ∧ SqL K H2 b ys, YPair (fun i => xs[i]?) (fun i => ys[i]?), walk_zip el, fun H2 e => ⟨.inl (e.rd h1), .inl (e.rd h3)⟩, fun i O2 H2 x H3 hi e sb y => ?_⟩
  obtain ⟨T, x1, y1, rfl, n, rfl, hx, hy⟩ := y
  obtain ⟨d1, e1, e2⟩ := h2.got hx
  obtain ⟨d2, e3, e4⟩ := h4.got hy
  refine ⟨Ext.new n, pairD d1 d2, ?_, pair_rep sb n (Rp.mono e d1 x1 e2) (Rp.mono e d2 y1 e4)⟩
  rw [List.getElem?_zipWith, e1, e3]
/-! the sources -/
theorem goodA_one {l : L} (h : goodA (.acons l .anil) = true) : good l = true := by simpa [goodA] using h
theorem sni_seq {e : Expr} {l : L} (g : okop l = true) (he : PE X e (tD CA F l)) : PI X tg e (tI CA F .seq (.acons l .anil)) := by
  refine PI.imp (PI.or (pi_list he) (pi_tup he)) fun σ H R ⟨O, ρ, items, E, ev, k⟩ => ?_
  simp only [evE, Option.bind_eq_some_iff, unT_some, Option.map_eq_some_iff, Option.some.injEq, PyData.tuple.injEq] at ev
  obtain ⟨xs, ⟨x, ex, ys, rfl, rfl⟩, es⟩ := ev
  cases x <;> simp only [srcF, Option.some.injEq, reduceCtorEq] at es
  · subst es
    refine .inl ⟨O, ρ, _, E, ex, fun v H1 e1 r1 => ?_⟩
    obtain ⟨a, rfl, q1, q2⟩ := itw_list (K := X.K) (srcL_of (l := .acons l .anil) (fun gg => ((VR.good (goodA_one gg)).mp r1).rp E.sub) (r1.vl E.sub g))
    exact ⟨a, rfl, q1, k _ H1 e1 q2⟩
  · subst es
    refine .inr ⟨O, ρ, _, E, ex, fun v H1 e1 r1 => ?_⟩
    obtain ⟨a, rfl, q1, q2⟩ := itw_tup (K := X.K) (srcT_of (l := .acons l .anil) (E.sub.ext e1) (r1.vl E.sub g))
    exact ⟨a, rfl, q1, k _ H1 e1 q2⟩
theorem sni_rng1 {a : Expr} {l : L} {y : Str} (hy : y = "range") (hg : Gl X y) (hm : X.mg y = none) (ha : PA X [a] (tA CA F l)) (hs : starEach [a] X.env = [(false, eval a X.env)]) : PI X tg (.Call (.Name y p0) [a] [] pos) (tI CA F .range1 l) := by
  subst hy
  refine PI.imp (pi_range1 hg hm ha hs) fun σ H R ⟨O, ρ, items, E, ev, k⟩ => ?_
  simp only [Option.bind_eq_some_iff, unT_some] at ev
  obtain ⟨xs, exs, es⟩ := ev
  refine ⟨O, ρ, xs, E, exs, fun vs H1 e1 r1 => ?_⟩
  obtain ⟨n, rfl⟩ : ∃ n, xs = [.int n] := by
    cases xs with
    | nil => cases es
    | cons d r => cases r with
      | nil => cases d <;> first | exact ⟨_, rfl⟩ | cases es
      | cons _ _ => cases d <;> cases es
  simp only [srcF, Option.ite_none_right_eq_some, Option.some.injEq, lim63, Bool.and_eq_true, decide_eq_true_eq] at es
  obtain ⟨⟨h1, h2⟩, rfl⟩ := es
  obtain ⟨v, rfl, hv⟩ := one_arg' (r1.rp E.sub) rfl
  exact ⟨n, by rw [rp_int.mp hv], h1, h2, k _ H1 e1 itw_range⟩
theorem sni_rng2 {a b : Expr} {l : L} {y : Str} (hy : y = "range") (hg : Gl X y) (hm : X.mg y = none) (ha : PA X [a, b] (tA CA F l)) (hs : starEach [a, b] X.env = [(false, eval a X.env), (false, eval b X.env)]) (hs2 : starEach [b] X.env = [(false, eval b X.env)]) :
    PI X tg (.Call (.Name y p0) [a, b] [] pos) (tI CA F .range2 l) := by
  subst hy
  refine PI.imp (pi_range2 hg hm ha hs hs2) fun σ H R ⟨O, ρ, items, E, ev, k⟩ => ?_
  simp only [Option.bind_eq_some_iff, unT_some] at ev
  obtain ⟨xs, exs, es⟩ := ev
  refine ⟨O, ρ, xs, E, exs, fun vs H1 e1 r1 => ?_⟩
  obtain ⟨n, m, rfl⟩ : ∃ n m, xs = [.int n, .int m] := by
    cases xs with
    | nil => cases es
    | cons d r => cases r with
      | nil => cases d <;> cases es
      | cons d' r => cases r with
        | nil => cases d <;> cases d' <;> first | exact ⟨_, _, rfl⟩ | cases es
        | cons _ _ => cases d <;> cases d' <;> cases es
  simp only [srcF, Option.ite_none_right_eq_some, Option.some.injEq, lim63, Bool.and_eq_true, decide_eq_true_eq] at es
  obtain ⟨⟨⟨h1, h2⟩, h3, h4⟩, rfl⟩ := es
  obtain ⟨v, w, rfl, hv, hw⟩ := two_arg' (r1.rp E.sub) rfl
  exact ⟨n, m, by rw [rp_int.mp hv, rp_int.mp hw], ⟨h1, h2, h3, h4⟩, k _ H1 e1 itw_range⟩
theorem sni_enum {a : Expr} {l : L} {y : Str} {elts : List Expr} {kk : Nat} {tpos : Pos} (g : okop l = true) (hy : y = "enumerate") (hg : Gl X y) (hm : X.mg y = none) (ha : PA X [a] (tA CA F (.acons l .anil))) (hs : starEach [a] X.env = [(false, eval a X.env)]) :
    PI X (.Tuple elts kk tpos) (.Call (.Name y p0) [a] [] pos) (tI CA F .enum (.acons l .anil)) := by
  subst hy
  refine PI.imp (pi_enum hg hm ha hs) fun σ H R ⟨O, ρ, items, E, ev, k⟩ => ?_
  simp only [Option.bind_eq_some_iff, unT_some] at ev
  obtain ⟨xs, exs, es⟩ := ev
  refine ⟨O, ρ, xs, E, exs, fun vs H1 e1 r1 => ?_⟩
  obtain ⟨d, v, rfl, rfl, r⟩ := r1.one E.sub
  cases d <;> simp only [srcF, Option.some.injEq, reduceCtorEq] at es
  subst es
  obtain ⟨a, ys, rfl, q1, q2⟩ := itw_enum (K := X.K) (srcL_of (l := .acons l .anil) (fun gg => ((VR.good (goodA_one gg)).mp r).rp E.sub) (r.vl E.sub g))
  exact ⟨a, ys, rfl, q1, k _ H1 e1 q2⟩
theorem sni_zip {a b : Expr} {la lb : L} {y : Str} {elts : List Expr} {kk : Nat} {tpos : Pos} (ga : okop la = true) (gb : okop lb = true) (hy : y = "zip") (hg : Gl X y) (hm : X.mg y = none) (ha : PA X [a, b] (tA CA F (.acons la (.acons lb .anil)))) (hs : starEach [a, b] X.env = (false, eval a X.env) :: starEach [b] X.env) (hpl : (backTo pos (starEach [b] X.env)).any (·.1) = false) :
    PI X (.Tuple elts kk tpos) (.Call (.Name y p0) [a, b] [] pos) (tI CA F .zip (.acons la (.acons lb .anil))) := by
  subst hy
  refine PI.imp (pi_zip hg hm ha hs hpl) fun σ H R ⟨O, ρ, items, E, ev, k⟩ => ?_
  simp only [Option.bind_eq_some_iff, unT_some] at ev
  obtain ⟨xs, exs, es⟩ := ev
  refine ⟨O, ρ, xs, E, exs, fun vs H1 e1 r1 => ?_⟩
  have gd : goodA (.acons la (.acons lb .anil)) = true → RpAll CA (off O H1) xs vs := fun gg => r1.good E.sub gg
  obtain ⟨d, d', v, w, rfl, rfl, h1, h2, _, _⟩ := r1.two E.sub
  cases d <;> cases d' <;> simp only [srcF, Option.some.injEq, reduceCtorEq] at es
  subst es
  obtain ⟨a, b, ys, zs, rfl, rfl, q1, q2, q3⟩ := itw_zip (K := X.K) (srcL_of (l := .acons la (.acons lb .anil)) (fun gg => by
    obtain ⟨v', w', e, p1, p2⟩ := two_arg' (gd gg) rfl
    cases e
    exact p1) (h1 ga)) (srcL_of (l := .acons la (.acons lb .anil)) (fun gg => by
    obtain ⟨v', w', e, p1, p2⟩ := two_arg' (gd gg) rfl
    cases e
    exact p2) (h2 gb))
  exact ⟨a, b, ys, zs, rfl, q1, q2, k _ H1 e1 q3⟩
end
/-! ### slots set -/
theorem EnvR.set {O : Addr → Bool} {H : Hp} {σ : St} {ρ : List Sl} {i : Nat} {d : D} {v : V} (E : EnvR CA O H σ ρ) (r : Rp CA (off O H) d v) : EnvR CA O H (σ.set i (some v)) (ρ.set i (.fz d)) where
  sub := E.sub
  len := by simpa using E.len
  fz := fun j d' h => by
    have hl := E.len
    by_cases e : i = j
    · subst e
      by_cases hi : i < ρ.length
      · rw [List.getElem?_set_self hi] at h
        cases h
        exact ⟨v, List.getElem?_set_self (by omega), r⟩
      · rw [List.getElem?_eq_none (by simpa using hi)] at h
        cases h
    · rw [List.getElem?_set_ne e] at h ⊢
      exact E.fz j d' h
  own := by
    obtain ⟨w, h0, q⟩ := E.own
    refine ⟨w, h0, fun j k d' h => ?_⟩
    by_cases e : i = j
    · subst e
      by_cases hi : i < ρ.length
      · rw [List.getElem?_set_self hi] at h
        cases h
      · rw [List.getElem?_eq_none (by simpa using hi)] at h
        cases h
    · rw [List.getElem?_set_ne e] at h ⊢
      exact q j k d' h
theorem EnvR.drop {O : Addr → Bool} {H : Hp} {σ : St} {ρ : List Sl} {i : Nat} (E : EnvR CA O H σ ρ) : EnvR CA O H (σ.set i none) (ρ.set i .no) where
  sub := E.sub
  len := by simpa using E.len
  fz := fun j d' h => by
    by_cases e : i = j
    · subst e
      by_cases hi : i < ρ.length
      · rw [List.getElem?_set_self hi] at h
        cases h
      · rw [List.getElem?_eq_none (by simpa using hi)] at h
        cases h
    · rw [List.getElem?_set_ne e] at h ⊢
      exact E.fz j d' h
  own := by
    obtain ⟨w, h0, q⟩ := E.own
    refine ⟨w, h0, fun j k d' h => ?_⟩
    by_cases e : i = j
    · subst e
      by_cases hi : i < ρ.length
      · rw [List.getElem?_set_self hi] at h
        cases h
      · rw [List.getElem?_eq_none (by simpa using hi)] at h
        cases h
    · rw [List.getElem?_set_ne e] at h ⊢
      exact q j k d' h
theorem EnvR.wipe {O : Addr → Bool} {H : Hp} {σ : St} {ρ : List Sl} (E : EnvR CA O H σ ρ) : ∀ vs : List Nat, EnvR CA O H (L2.wipe σ vs) (wipeD ρ vs)
  | [] => E
  | v :: vs => (EnvR.wipe E vs).drop
theorem wipeD_length (ρ : List Sl) : ∀ vs : List Nat, (wipeD ρ vs).length = ρ.length
  | [] => rfl
  | v :: vs => by unfold wipeD; rw [List.length_set, wipeD_length ρ vs]
theorem setAll_length : ∀ {is : List Nat} {ds : List D} {ρ ρ' : List Sl}, setAll is ds ρ = some ρ' → ρ'.length = ρ.length
  | [], [], _, _, h => by cases h; rfl
  | _ :: is, _ :: ds, ρ, _, h => by
    rw [setAll] at h
    rw [setAll_length h, List.length_set]
  | [], _ :: _, _, _, h => by cases h
  | _ :: _, [], _, _, h => by cases h
theorem bindT_length {g : Tg} {d : D} {ρ ρ' : List Sl} (h : bindT g d ρ = some ρ') : ρ'.length = ρ.length := by
  cases g with
  | one i => cases h; simp
  | many is =>
    cases d <;> simp only [bindT, reduceCtorEq] at h
    exact setAll_length h
/-! targets -/
def gNames : List Nat → TGs
  | [] => gNil
  | i :: is => gCons (gName i) (gNames is)
def gT (K : PySem.W.Frag) : Tg → TG
  | .one i => gName i
  | .many is => gTup K is.length (gNames is)
def tgSlots : Tg → List Nat
  | .one i => [i]
  | .many is => is
theorem gNames_ok {O : Addr → Bool} {H : Hp} : ∀ {is : List Nat} {ds : List D} {xs : List V} {σ : St} {ρ ρ' : List Sl} {Q : St → Hp → Prop}, EnvR CA O H σ ρ → RpAll CA (off O H) ds xs → setAll is ds ρ = some ρ' →
    (∀ σ', EnvR CA O H σ' ρ' → σ'.length = σ.length → (∀ j, j ∉ is → σ'[j]? = σ[j]?) → Q σ' H) → gNames is xs σ H Q
  | [], [], xs, σ, ρ, ρ', Q, E, r, h, k => by
    cases h
    exact ⟨ra_nil.mp r, k σ E rfl fun _ _ => rfl⟩
  | i :: is, d :: ds, xs, σ, ρ, ρ', Q, E, r, h, k => by
    obtain ⟨v, vs, rfl, h1, h2⟩ := ra_cons.mp r
    rw [setAll] at h
    refine ⟨v, vs, rfl, gNames_ok (E.set h1) h2 h fun σ' E' l' n' => k σ' E' (by simpa using l') fun j hj => ?_⟩
    rw [n' j fun z => hj (List.mem_cons_of_mem _ z), List.getElem?_set_ne]
    exact fun z => hj (by rw [z]; exact List.mem_cons_self)
  | [], _ :: _, _, _, _, _, _, _, _, h, _ => by cases h
  | _ :: _, [], _, _, _, _, _, _, _, h, _ => by cases h
theorem setAll_len : ∀ {is : List Nat} {ds : List D} {ρ ρ' : List Sl}, setAll is ds ρ = some ρ' → ds.length = is.length
  | [], [], _, _, _ => rfl
  | _ :: is, _ :: ds, ρ, _, h => by
    rw [setAll] at h
    simp [setAll_len h]
  | [], _ :: _, _, _, h => by cases h
  | _ :: _, [], _, _, h => by cases h
theorem gT_ok {K : PySem.W.Frag} {O : Addr → Bool} {H : Hp} {g : Tg} {d : D} {v : V} {σ : St} {ρ ρ' : List Sl} {Q : St → Hp → Prop} (E : EnvR CA O H σ ρ) (r : Rp CA (off O H) d v) (h : bindT g d ρ = some ρ')
    (k : ∀ σ', EnvR CA O H σ' ρ' → σ'.length = σ.length → (∀ j, j ∉ tgSlots g → σ'[j]? = σ[j]?) → Q σ' H) : gT K g v σ H Q := by
  cases g with
  | one i =>
    cases h
    refine k _ (E.set r) (by simp) fun j hj => ?_
    rw [List.getElem?_set_ne]
    exact fun z => hj (by rw [z]; exact List.mem_cons_self)
  | many is =>
    cases d <;> simp only [bindT, reduceCtorEq] at h
    obtain ⟨a, xs, rfl, h1, h2⟩ := rp_tuple.mp r
    refine ⟨a, xs, rfl, .inl (rd_off h1), by rw [h2.length, setAll_len h], gNames_ok E h2 h k⟩
end Dz

set_option Elab.async false
set_option linter.all false
set_option maxRecDepth 100000
set_option maxHeartbeats 4000000
namespace Dz
open PySem L2
variable {CA : Cmap} {F : Nat → List D → Option D}
/-! ### comprehensions -/
def plus (O : Addr → Bool) (D : Addr) : Addr → Bool := fun a => O a || a == D
theorem plus_same (O : Addr → Bool) (D : Addr) : plus O D D = true := by unfold plus; simp
theorem plus_of {O : Addr → Bool} {D a : Addr} (h : O a = true) : plus O D a = true := by unfold plus; simp [h]
theorem plus_ne {O : Addr → Bool} {D a : Addr} (h : O a = false) (n : a ≠ D) : plus O D a = false := by unfold plus; simp [h, n]
theorem off_plus_upd {O : Addr → Bool} {D : Addr} {H : Hp} {o : HO} : off (plus O D) (upd H D o) = off (plus O D) H := by
  funext a
  unfold off
  by_cases e : a = D
  · subst e
    rw [plus_same, if_pos rfl, if_pos rfl]
  · rw [upd_ne e]
/-- what is new beside D -/
def Beside (H : Hp) (D : Addr) (H' : Hp) : Prop := ∀ a o, H a = some o → H' a = some o ∧ a ≠ D
theorem Beside.ext {H H' H2 : Hp} {D : Addr} (b : Beside H D H') (e : Ext H' H2) : Beside H D H2 := fun a o h => ⟨e a o (b a o h).1, (b a o h).2⟩
theorem Beside.upd {H H' : Hp} {D : Addr} {o : HO} (b : Beside H D H') : Beside H D (upd H' D o) := fun a u h => ⟨by rw [upd_ne (b a u h).2]; exact (b a u h).1, (b a u h).2⟩
theorem Beside.toExt {H H' : Hp} {D : Addr} (b : Beside H D H') : Ext H H' := fun a o h => (b a o h).1
theorem Beside.off {O : Addr → Bool} {H H' : Hp} {D : Addr} (b : Beside H D H') : Ext (off O H) (off (plus O D) H') := fun a o h => by
  obtain ⟨h1, h2⟩ := off_some.mp h
  exact off_some.mpr ⟨plus_ne h1 (b a o h2).2, (b a o h2).1⟩
theorem wipe_get (σ : St) (vs : List Nat) (i : Nat) : (wipe σ vs)[i]? = if i ∈ vs then (if i < σ.length then some none else none) else σ[i]? := by
  induction vs with
  | nil => simp [wipe]
  | cons v vs ih =>
    unfold wipe
    by_cases e : v = i
    · subst e
      by_cases hl : v < σ.length
      · rw [List.getElem?_set_self (by rw [wipe_length]; exact hl)]
        simp [hl]
      · rw [List.getElem?_eq_none (by simpa [wipe_length] using hl)]
        simp [hl]
    · rw [List.getElem?_set_ne e, ih]
      have : i ≠ v := fun z => e z.symm
      simp [this]
theorem wipe_eq {σ σ' : St} {vs : List Nat} (hl : σ'.length = σ.length) (h : ∀ (j : Nat), j ∉ vs → σ'[j]? = σ[j]?) : wipe σ' vs = wipe σ vs := by
  apply List.ext_getElem?
  intro i
  rw [wipe_get, wipe_get, hl]
  by_cases hi : i ∈ vs
  · simp [hi]
  · simp [hi, h i hi]
theorem wipe_wipe (σ : St) (vs : List Nat) : wipe (wipe σ vs) vs = wipe σ vs := by
  apply List.ext_getElem?
  intro i
  rw [wipe_get, wipe_get, wipe_length]
  by_cases hi : i ∈ vs <;> simp [hi]
theorem OwnAll.append {H B : Hp} {k : Nat} : ∀ {ds es : List D} {xs ys : List V} {f g : List Addr}, OwnAll CA H B ds k xs f → OwnAll CA H B es k ys g → OwnAll CA H B (ds ++ es) k (xs ++ ys) (f ++ g)
  | [], es, xs, ys, f, g, h, t => by
    obtain ⟨rfl, rfl⟩ := oa_nil.mp h
    exact t
  | d :: ds, es, xs, ys, f, g, h, t => by
    obtain ⟨v, vs, f1, f2, rfl, rfl, h3, h4⟩ := oa_cons.mp h
    rw [List.cons_append, List.cons_append, List.append_assoc]
    exact oa_cons.mpr ⟨v, vs ++ ys, f1, f2 ++ g, rfl, rfl, h3, OwnAll.append h4 t⟩
theorem OwnAll.length {H B : Hp} {k : Nat} : ∀ {ds : List D} {xs : List V} {f : List Addr}, OwnAll CA H B ds k xs f → xs.length = ds.length
  | [], xs, f, h => by rw [(oa_nil.mp h).1]; rfl
  | d :: ds, xs, f, h => by
    obtain ⟨v, vs, f1, f2, rfl, rfl, h3, h4⟩ := oa_cons.mp h
    simp [OwnAll.length h4]
theorem off_upd {S : Addr → Bool} {p : Addr} {H : Hp} {o : HO} (h : S p = true) : off S (upd H p o) = off S H := by
  funext a
  unfold off
  by_cases e : a = p
  · subst e
    rw [h, if_pos rfl, if_pos rfl]
  · rw [upd_ne e]
theorem sup_plus (O : Addr → Bool) (D : Addr) (f : List Addr) : sup (plus O D) f = sup O (D :: f) := by
  funext a
  simp only [sup, plus, List.mem_cons]
  cases O a <;> by_cases h : a = D <;> simp [h]
theorem comp_imp {K : PySem.W.Frag} {k : Src} {ls : L} {g : Tg} {vs : List Nat} {lt le : L} (hg : ∀ i ∈ tgSlots g, i ∈ vs) (gl : good le = true) {σ : St} {H : Hp} {Q : VK} (h : tD CA F (.comp k ls g vs lt le) σ H Q) :
    tLc (tI CA F k ls) (gT K g) (tT CA F lt) (tD CA F le) vs σ H Q := by
  obtain ⟨O, ρ, d, E, ev, kk⟩ := h
  rw [evE, Option.bind_eq_some_iff] at ev
  obtain ⟨items, ei, ev⟩ := ev
  rw [Option.ite_none_right_eq_some, Option.map_eq_some_iff] at ev
  obtain ⟨hlim, out, eo, rfl⟩ := ev
  refine ⟨O, ρ, items, E, ei, fun J H1 e1 hJ => ?_⟩
  intro Da hD
  obtain ⟨G, Y, W, hG, hY⟩ := hJ
  have E1 := E.ext e1
  have bs0 : Beside H1 Da (upd H1 Da (.lst [])) := fun a o q => ⟨by rw [upd_ne (ne_of_none q hD)]; exact q, ne_of_none q hD⟩
  have oD : O Da = false := E1.sub.new hD
  refine lc_it W (fun i H' => Beside H1 Da H' ∧ ∃ acc ys rest fps, H' Da = some (.lst acc) ∧ fps.Nodup ∧ (∀ a ∈ fps, H1 a = none ∧ a ≠ Da) ∧ OwnAll CA H' (off (sup (plus O Da) fps) H') ys (nw le) acc fps ∧ ys.length ≤ i ∧ compGo (evE F lt) (evE F le) g (wipeD ρ vs) (items.drop i) = some rest ∧ ys ++ rest = out) ?_ ?_ ?_ ?_
  · exact ⟨bs0, [], [], out, [], upd_same, .nil, fun a z => (by cases z), oa_nil.mpr ⟨rfl, rfl⟩, Nat.le_refl _, eo, rfl⟩
  · rintro i H' _ ⟨b, _⟩
    exact hG H' ((srcB_ext ls O H1).trans b.toExt)
  · rintro i x H' H3 hi ⟨b, acc, ys, rest, fps, hacc, fnd, fnew, own, hyl, er, eout⟩ y
    have exO : Ext (off O H1) (off (sup (plus O Da) fps) H') := fun a o q => by
      obtain ⟨q1, q2⟩ := off_some.mp q
      exact off_some.mpr ⟨sup_false.mpr ⟨plus_ne q1 (b a o q2).2, fun z => by rw [(fnew a z).1] at q2; cases q2⟩, (b a o q2).1⟩
    have sO : Sub (sup (plus O Da) fps) H' := fun p q => by
      rcases sup_true.mp q with q | q
      · by_cases e : p = Da
        · rw [e]
          exact .inl ⟨acc, hacc⟩
        · refine (E1.sub.ext b.toExt) p ?_
          unfold plus at q
          simpa [e] using q
      · exact own.here p q
    have EB : EnvR CA (sup (plus O Da) fps) H' σ ρ := E1.grow sO b.toExt (fun a q => sup_true.mpr (.inl (plus_of q))) exO
    obtain ⟨e3, dx, hdx, rx⟩ := hY i (sup (plus O Da) fps) H' x H3 hi exO sO y
    have hdrop : items.drop i = dx :: items.drop (i + 1) := by
      obtain ⟨hlt, he⟩ := List.getElem?_eq_some_iff.mp hdx
      rw [List.drop_eq_getElem_cons hlt, he]
    rw [hdrop, compGo, Option.bind_eq_some_iff] at er
    obtain ⟨ρ', eb, er⟩ := er
    rw [Option.bind_eq_some_iff] at er
    obtain ⟨c, ec, er⟩ := er
    rw [unB_some] at ec
    have EW := (EB.ext e3).wipe vs
    refine gT_ok EW rx eb fun σ2 E2 l2 n2 => ⟨?_, ?_⟩
    · rw [wipe_eq l2 fun j hj => n2 j fun z => hj (hg j z), wipe_wipe]
    · refine ⟨_, ρ', c, E2, ec, fun H4 e4 => ?_⟩
      have b4 := (b.ext e3).ext e4
      have e34 := e3.trans e4
      have hacc4 := e34 _ _ hacc
      cases c with
      | true =>
        rw [if_pos rfl] at er
        refine iteT ?_
        rw [Option.bind_eq_some_iff] at er
        obtain ⟨dy, ey, er⟩ := er
        rw [Option.map_eq_some_iff] at er
        obtain ⟨rest', er', rfl⟩ := er
        refine ⟨_, ρ', dy, E2.ext e4, ey, fun v H5 e5 r5 => ?_⟩
        obtain ⟨fp, n5, f5, o5⟩ := (VR.good gl).mp r5
        have e35 := e34.trans e5
        have k5 := OwnR.here o5
        have nDa : ∀ a ∈ fp, a ≠ Da := fun a ha z => by
          rw [z] at ha
          rw [f5 Da ha] at hacc4
          cases hacc4
        have sDa : sup (plus O Da) (fps ++ fp) Da = true := sup_true.mpr (.inl (plus_same O Da))
        refine ⟨acc, e5 _ _ hacc4, ?_, (b4.ext e5).upd, acc ++ [v], ys ++ [dy], rest', fps ++ fp, upd_same, ?_, ?_, ?_, by rw [List.length_append]; simp; omega, er', by rw [← eout]; simp⟩
        · have h1 := own.length
          have h2 : items.length ≤ 100000 := of_decide_eq_true hlim
          exact Nat.lt_of_le_of_lt (show acc.length ≤ 100000 by omega) (by decide)
        · refine List.nodup_append.mpr ⟨fnd, n5, fun x hx y hy z => ?_⟩
          obtain ⟨o, ho⟩ := (own.here x hx).some
          have := e34 x o ho
          rw [z, f5 y hy] at this
          cases this
        · intro a ha
          rcases List.mem_append.mp ha with ha | ha
          · exact fnew a ha
          · exact ⟨b4.toExt.back (f5 a ha), nDa a ha⟩
        · rw [off_upd sDa]
          refine OwnAll.mono (Ext.refl _) _ _ _ _ (fun a ha o ho => ?_) (OwnAll.append (OwnAll.mono (fun a o q => ?_) ys (nw le) acc fps (fun a ha o ho => e35 a o ho) own) (oa_cons.mpr ⟨v, [], fp, [], rfl, by simp, ?_, oa_nil.mpr ⟨rfl, rfl⟩⟩))
          · rw [upd_ne]
            · exact ho
            · rcases List.mem_append.mp ha with ha | ha
              · exact (fnew a ha).2
              · exact nDa a ha
          · obtain ⟨q1, q2⟩ := off_some.mp q
            obtain ⟨q3, q4⟩ := sup_false.mp q1
            refine off_some.mpr ⟨sup_false.mpr ⟨q3, fun z => ?_⟩, e35 a o q2⟩
            rcases List.mem_append.mp z with z | z
            · exact q4 z
            · have := e34 a o q2
              rw [f5 a z] at this
              cases this
          · rw [← sup_sup]
            exact o5
      | false =>
        rw [if_neg Bool.false_ne_true] at er
        refine iteF ?_
        exact ⟨b4, acc, ys, rest, fps, hacc4, fnd, fnew, OwnAll.mono (e34.off) ys (nw le) acc fps (fun a ha o ho => e34 a o ho) own, by omega, er, eout⟩
  · rintro H' ⟨b, acc, ys, rest, fps, hacc, fnd, fnew, own, _, er, eout⟩
    rw [List.drop_length, compGo] at er
    cases er
    rw [List.append_nil] at eout
    subst eout
    refine kk _ H' (e1.trans b.toExt) ((VR.good rfl).mpr ⟨Da :: fps, List.nodup_cons.mpr ⟨fun z => (fnew Da z).2 rfl, fnd⟩, fun a ha => ?_, own_list.mpr ⟨Da, acc, fps, rfl, hacc, rfl, ?_⟩⟩)
    · rcases List.mem_cons.mp ha with rfl | ha
      · exact e1.back hD
      · exact e1.back (fnew a ha).1
    · rw [← sup_plus]
      exact own
/-! ### what a def promises -/
inductive Rs | ok (d : D) | exc (c : Str)
/-- what a def gives or raises, and what its first parameter is then -/
abbrev Sem := List D → Option (Rs × D)
def okF (G : Nat → Dz.Sem) : Nat → List D → Option D := fun f xs => match G f xs with
  | some (.ok d, _) => some d
  | _ => none
/-- n arguments that stand still; what it gives is new down to k -/
def spD (CA : Cmap) (n : Nat) (sem : Dz.Sem) (k : Nat) : Sp := fun vs H Q E => ∃ O ds r s', Sub O H ∧ RpAll CA (off O H) ds vs ∧ ds.length = n ∧ sem ds = some (r, s') ∧ match r with
  | .ok d => ∀ v H', Ext H H' → NewQ CA O H H' k d v → Q v H'
  | .exc c => ∀ H', Ext H H' → E (.ref (CA.exc c)) none H'
theorem spD_len {n : Nat} {sem : Dz.Sem} {k : Nat} {vs : List V} {H : Hp} {Q : VK} {E : XK} (h : spD CA n sem k vs H Q E) : vs.length = n := by
  obtain ⟨O, ds, r, s', _, ra, e, _⟩ := h
  rw [ra.length, e]
/-- what stood beside fp stands as it stood -/
def But (fp : List Addr) (H H' : Hp) : Prop := ∀ a o, H a = some o → a ∉ fp → H' a = some o
/-- the first argument is a tree of our own down to k and may be changed; n more that stand still; what it gives is flat -/
def spM (CA : Cmap) (n : Nat) (sem : Dz.Sem) (k : Nat) : Sp := fun vs H Q E => ∃ O fp d0 v0 ds vs' r s', Sub O H ∧ vs = v0 :: vs' ∧ fp.Nodup ∧ (∀ a ∈ fp, O a = true) ∧ OwnR CA H (off O H) d0 k v0 fp ∧ RpAll CA (off O H) ds vs' ∧ ds.length = n ∧ sem (d0 :: ds) = some (r, s') ∧
  ∀ H' fp', But fp H H' → fp'.Nodup → (∀ a ∈ fp', a ∈ fp ∨ H a = none) → (∀ a ∈ fp, Kind H' a) → OwnR CA H' (off (sup O fp') H') s' k v0 fp' → match r with
    | .ok d => ∀ v, flat d = true → Rp CA H' d v → Q v H'
    | .exc c => E (.ref (CA.exc c)) none H'
/-- a new object of the class -/
def inst (c : Str) : D := .dict [(.str c, .none)]
/-- what the making of an object gives, by its __init__ -/
def makes (c : Str) (i : Dz.Sem) : Dz.Sem := fun ds => (i (inst c :: ds)).map fun rs => match rs.1 with
  | .ok _ => (.ok rs.2, .none)
  | .exc e => (.exc e, .none)
/-- the def or the class that the name x holds -/
inductive Callee (CA : Cmap) (G : Nat → Dz.Sem) (X : Cx) (x : Str) (f kk : Nat) : Prop
  | fn (a : Addr) (fd : FuncData) (ps : List Str) (k n kn : Nat) : FnOk X.prog X.w X.K X.mg X.base (L2.CX X.prog X.w) k a fd ps (spD CA n (G f) kn) → Room k X.A → X.mg x = some (.ref a) → PySem.W.keepIn X.K (.ref a) = true → Binds X.K fd ps [] →
      (∀ ds r, G f ds = some r → ds.length = n) → kk ≤ kn → Callee CA G X x f kk
  | mk (c : Str) (C : Addr) (i : Nat) (a : Addr) (fd : FuncData) (ps : List Str) (k n kn : Nat) : CA.ins c = some C → Mk X.K C a → FnOk X.prog X.w X.K X.mg X.base (L2.CX X.prog X.w) k a fd ps (spM CA n (G i) (kn + 1)) → Room (k + 1) X.A → X.mg x = some (.ref C) → Binds X.K fd ps [] →
      (∀ ds r, G i ds = some r → ds.length = n + 1) → (∀ ds, G f ds = makes c (G i) ds) → (∀ ds d s, G i ds = some (.ok d, s) → d = .none) → kk ≤ kn + 1 → Callee CA G X x f kk
/-- a method of the objects of a class -/
inductive MethOk (CA : Cmap) (G : Nat → Dz.Sem) (X : Cx) (c m : Str) (f kk : Nat) : Prop
  | mk (C a : Addr) (fd : FuncData) (ps : List Str) (k n kn : Nat) : CA.ins c = some C → Cls X.K C → Meth X.K C m a → FnOk X.prog X.w X.K X.mg X.base (L2.CX X.prog X.w) k a fd ps (spD CA n (G f) kn) → Room k X.A → Binds X.K fd ps [] → (∀ ds r, G f ds = some r → ds.length = n) → kk ≤ kn → MethOk CA G X c m f kk
/-- what isinstance asks of the class of an object -/
structure InsF (K : PySem.W.Frag) (C : Addr) : Prop where
  cl : Cls K C
  ha : PySem.W.findIn K (.ref C) "__class__" = some (some (.builtin "object.__class__"))
  hn : PySem.W.specialIn K (.builtin "object.__class__") "__get__" = some (some (.builtin "getset_descriptor.__get__"))
  htk : PySem.W.takesIn K (.builtin "object.__class__") = some true
  hm : PySem.W.mroIn K C (.type "object") = some true
/-- a class by which isinstance is asked; cs: the classes below it -/
def ClsT (CA : Cmap) (X : Cx) (y : Str) (cs : List Str) : Prop := ∃ D, X.mg y = some (.ref D) ∧ ∀ c C, CA.ins c = some C → InsF X.K C ∧ PySem.W.kitOne X.K (.ref C) (.ref D) = some (cs.contains c)
section
variable {X : Cx} {pos p0 : Pos} {G : Nat → Dz.Sem}
mutual
/-- where all below is flat, another heap will do -/
theorem OwnR.rebase {H B B' : Hp} (t : ∀ a xs, Rd B a (.tup xs) → Rd B' a (.tup xs)) : ∀ (d : PyData) (k : Nat) (v : V) (fp : List Addr), flatAt d k = true → OwnR CA H B d k v fp → OwnR CA H B' d k v fp
  | .none, _, v, fp, _, h => (own_flat rfl).mpr ⟨((own_flat rfl).mp h).1, Rp.flat rfl ((own_flat rfl).mp h).2⟩
  | .bool _, _, v, fp, _, h => (own_flat rfl).mpr ⟨((own_flat rfl).mp h).1, Rp.flat rfl ((own_flat rfl).mp h).2⟩
  | .int _, _, v, fp, _, h => (own_flat rfl).mpr ⟨((own_flat rfl).mp h).1, Rp.flat rfl ((own_flat rfl).mp h).2⟩
  | .str _, _, v, fp, _, h => (own_flat rfl).mpr ⟨((own_flat rfl).mp h).1, Rp.flat rfl ((own_flat rfl).mp h).2⟩
  | .list ds, k + 1, v, fp, f, h => by
    rw [own_list] at h ⊢
    obtain ⟨a, xs, fps, h1, h2, h3, h4⟩ := h
    exact ⟨a, xs, fps, h1, h2, h3, OwnAll.rebase t ds k xs fps (by simpa only [flatAt] using f) h4⟩
  | .tuple ds, k + 1, v, fp, f, h => by
    rw [own_tuple] at h ⊢
    obtain ⟨a, xs, h1, h2, h4⟩ := h
    exact ⟨a, xs, h1, t _ _ h2, OwnAll.rebase t ds k xs fp (by simpa only [flatAt] using f) h4⟩
  | .dict kvs, k + 1, v, fp, f, h => by
    rw [own_dict] at h ⊢
    obtain ⟨a, C, dx, fs, fps, h1, h2, h3, h4⟩ := h
    exact ⟨a, C, dx, fs, fps, h1, h2, h3, OwnIns.rebase t kvs k C fs fps (by simpa only [flatAt] using f) h4⟩
  | .list ds, 0, _, _, f, _ => by simp [flatAt] at f
  | .tuple ds, 0, _, _, f, _ => by simp [flatAt] at f
  | .dict ds, 0, _, _, f, _ => by simp [flatAt] at f
theorem OwnAll.rebase {H B B' : Hp} (t : ∀ a xs, Rd B a (.tup xs) → Rd B' a (.tup xs)) : ∀ (ds : List PyData) (k : Nat) (xs : List V) (fp : List Addr), flatAll ds k = true → OwnAll CA H B ds k xs fp → OwnAll CA H B' ds k xs fp
  | [], k, xs, fp, _, h => by rw [oa_nil] at h ⊢; exact h
  | d :: ds, k, xs, fp, f, h => by
    rw [oa_cons] at h ⊢
    obtain ⟨v, vs, f1, f2, h1, h2, h3, h4⟩ := h
    simp only [flatAll, Bool.and_eq_true] at f
    exact ⟨v, vs, f1, f2, h1, h2, OwnR.rebase t d k v f1 f.1 h3, OwnAll.rebase t ds k vs f2 f.2 h4⟩
theorem OwnIns.rebase {H B B' : Hp} (t : ∀ a xs, Rd B a (.tup xs) → Rd B' a (.tup xs)) : ∀ (kvs : List (PyData × PyData)) (k : Nat) (C : Addr) (fs : List (Str × V)) (fp : List Addr), flatFs kvs k = true → OwnIns CA H B kvs k C fs fp → OwnIns CA H B' kvs k C fs fp
  | [], _, _, _, _, _, h => by simp only [OwnIns] at h
  | (_, _) :: r, k, C, fs, fp, f, h => by
    simp only [OwnIns] at h ⊢
    simp only [flatFs, Bool.and_eq_true] at f
    exact ⟨h.1, OwnFs.rebase t r k fs fp f.2 h.2⟩
theorem OwnFs.rebase {H B B' : Hp} (t : ∀ a xs, Rd B a (.tup xs) → Rd B' a (.tup xs)) : ∀ (kvs : List (PyData × PyData)) (k : Nat) (fs : List (Str × V)) (fp : List Addr), flatFs kvs k = true → OwnFs CA H B kvs k fs fp → OwnFs CA H B' kvs k fs fp
  | [], k, fs, fp, _, h => by rw [of_nil] at h ⊢; exact h
  | (x, d) :: r, k, fs, fp, f, h => by
    rw [of_cons] at h ⊢
    obtain ⟨y, v, fs', f1, f2, h1, h2, h3, h4, h5⟩ := h
    simp only [flatFs, Bool.and_eq_true] at f
    exact ⟨y, v, fs', f1, f2, h1, h2, h3, OwnR.rebase t d k v f1 f.1 h4, OwnFs.rebase t r k fs' f2 f.2 h5⟩
end
/-- what was asked with nothing our own -/
theorem NewQ.lent {O : Addr → Bool} {H H' : Hp} {k j : Nat} {d : D} {v : V} (s : Sub O H) (e : Ext H H') (f : flatAt d k = true) (h : NewQ CA none0 H H' k d v) : NewQ CA O H H' j d v := by
  obtain ⟨fp, n, q, o⟩ := h
  have s' : Sub (sup O fp) H' := (s.ext e).sup (OwnR.here o)
  exact NewQ.deep s f ⟨fp, n, q, OwnR.rebase (fun a xs r => s'.tup (rd_off r)) d k v fp f o⟩
theorem none0_sub (H : Hp) : Sub none0 H := fun p q => by cases q
/-- what a call wants, by what it is worth -/
theorem call_sp {b : Bool} {n k kn : Nat} {sem : Dz.Sem} {O : Addr → Bool} {H H1 : Hp} {xs : List D} {vs : List V} {d : D} {s' : D} {Q : VK} {E : XK} (s : Sub O H) (e1 : Ext H H1) (hk : k ≤ kn) (hl : xs.length = n)
    (hg : b = false → RpAll CA (off O H1) xs vs) (hr : RpAll CA H1 xs vs) (hs : sem xs = some (.ok d, s')) (hb : (!b || flatAt d k) = true)
    (kq : ∀ v H2, Ext H1 H2 → NewQ CA O H H2 (if b then 9 else k) d v → Q v H2) : spD CA n sem kn vs H1 Q E := by
  cases b with
  | false => exact ⟨O, xs, .ok d, s', s.ext e1, hg rfl, hl, hs, fun v H2 e2 r2 => kq v H2 e2 ((r2.less (s.ext e1) hk).back e1)⟩
  | true =>
    refine ⟨none0, xs, .ok d, s', none0_sub H1, by rw [off_none]; exact hr, hl, hs, fun v H2 e2 r2 => kq v H2 e2 ?_⟩
    have r3 := r2.less (none0_sub H1) hk
    exact (r3.lent (s.ext e1) e2 (by simpa using hb)).back e1
theorem okF_some {G : Nat → Dz.Sem} {f : Nat} {xs : List D} {d : D} (h : okF G f xs = some d) : ∃ s', G f xs = some (.ok d, s') := by
  unfold okF at h
  split at h
  · rename_i d' s' e
    cases h
    exact ⟨s', e⟩
  · cases h
/-- the making of an object by its __init__ -/
theorem make_sp {c : Str} {C : Addr} (hC : CA.ins c = some C) {n kn : Nat} {i : Dz.Sem} {O : Addr → Bool} {H1 : Hp} {xs : List D} {vs : List V} {r : Rs} {Q : VK} {E : XK} (s : Sub O H1) (hl : xs.length = n) (hg : RpAll CA (off O H1) xs vs) (hs : makes c i xs = some (r, .none)) (hn : ∀ ds d s, i ds = some (.ok d, s) → d = .none)
    (kq : match r with
      | .ok d => ∀ v H2, Ext H1 H2 → NewQ CA O H1 H2 (kn + 1) d v → Q v H2
      | .exc e => ∀ H2, Ext H1 H2 → E (.ref (CA.exc e)) none H2) :
    ∀ x dx, H1 x = none → H1 dx = none → dx ≠ x → spM CA n i (kn + 1) (.ref x :: (vs ++ [])) (upd (upd H1 dx (.own x)) x (.ins C dx [])) (fun v H2 => v = .non ∧ Q (.ref x) H2) E := by
  intro x dx nx ndx ne
  unfold makes at hs
  rw [Option.map_eq_some_iff] at hs
  obtain ⟨⟨r0, s0⟩, h1, h2⟩ := hs
  have eH : Ext H1 (upd (upd H1 dx (.own x)) x (.ins C dx [])) := fun a o q => by
    rw [upd_ne (ne_of_none q nx), upd_ne (ne_of_none q ndx)]
    exact q
  have eO : Ext (off O H1) (off (sup O [x]) (upd (upd H1 dx (.own x)) x (.ins C dx []))) := fun a o q => by
    obtain ⟨q1, q2⟩ := off_some.mp q
    exact off_some.mpr ⟨sup_false.mpr ⟨q1, fun z => ne_of_none q2 nx (List.mem_singleton.mp z)⟩, eH a o q2⟩
  refine ⟨sup O [x], [x], inst c, .ref x, xs, vs ++ [], r0, s0, (s.ext eH).sup fun a ha => .inr ⟨C, dx, [], by rw [List.mem_singleton.mp ha]; exact upd_same⟩, rfl, by simp, fun a ha => sup_true.mpr (.inr ha), ?_, by rw [List.append_nil]; exact RpAll.mono eO xs vs hg, hl, h1, fun H' fp' bt nd fn kd o => ?_⟩
  · exact own_dict.mpr ⟨x, C, dx, [], [], rfl, upd_same, rfl, by simp only [OwnIns]; exact ⟨⟨c, rfl, hC⟩, of_nil.mpr ⟨rfl, rfl⟩⟩⟩
  · have e2 : Ext H1 H' := fun a o q => bt a o (eH a o q) fun z => ne_of_none q nx (List.mem_singleton.mp z)
    have fr : ∀ a ∈ fp', H1 a = none := fun a ha => by
      rcases fn a ha with z | z
      · rw [List.mem_singleton.mp z]; exact nx
      · exact eH.back z
    cases r0 with
    | ok d0 =>
      simp only [Prod.mk.injEq] at h2
      obtain ⟨rfl, _⟩ := h2
      obtain rfl := hn _ _ _ h1
      intro v hf hv
      refine ⟨rp_none.mp hv, kq _ H' e2 ⟨fp', nd, fr, OwnR.mono (off_le fun a z => ?_) s0 _ _ fp' (fun a _ o h => h) o⟩⟩
      rcases sup_true.mp z with z | z
      · exact sup_true.mpr (.inl (sup_true.mpr (.inl z)))
      · exact sup_true.mpr (.inr z)
    | exc e0 =>
      simp only [Prod.mk.injEq] at h2
      obtain ⟨rfl, _⟩ := h2
      exact kq H' e2
theorem makes_s {c : Str} {i : Dz.Sem} {xs : List D} {r : Rs} {s : D} (h : makes c i xs = some (r, s)) : s = .none := by
  unfold makes at h
  rw [Option.map_eq_some_iff] at h
  obtain ⟨⟨r0, s0⟩, _, h2⟩ := h
  cases r0 <;> (simp only [Prod.mk.injEq] at h2; exact h2.2.symm)
theorem makes_l {c : Str} {i : Dz.Sem} {xs : List D} {r : Rs × D} {n : Nat} (hl : ∀ ds r, i ds = some r → ds.length = n + 1) (h : makes c i xs = some r) : xs.length = n := by
  unfold makes at h
  rw [Option.map_eq_some_iff] at h
  obtain ⟨r0, h1, _⟩ := h
  have := hl _ _ h1
  simpa using this
theorem snd_call {b : Bool} {x : Str} {f k : Nat} {e : Expr} {es : List Expr} {la : L} (c : Callee CA G X x f k) (hg : Gl X x) (hd : (x == ("__debug__" : Str)) = false) (ga : b = false → goodA la = true) (ha : PA X (e :: es) (tA CA (okF G) la))
    (he : starEach (e :: es) X.env = (false, eval e X.env) :: starEach es X.env) (hpl : (backTo pos (starEach es X.env)).any (·.1) = false) : PE X (.Call (.Name x p0) (e :: es) [] pos) (tD CA (okF G) (.call b f k la)) := by
  cases c with
  | fn a fd ps j n kn Fn hr hm hk hb hl hkk =>
    refine PE.imp (pe_call Fn hr hg hm hk hb .nil passL ha hd he hpl) fun σ H Q ⟨O, ρ, d, E, ev, kq⟩ => ?_
    simp only [evE, Option.bind_eq_some_iff, unT_some, Option.ite_none_right_eq_some, Option.some.injEq] at ev
    obtain ⟨xs, exs, d', ec, hbf, rfl⟩ := ev
    obtain ⟨s', eg⟩ := okF_some ec
    refine ⟨O, ρ, xs, E, exs, fun vs H1 e1 r1 => ?_⟩
    show spD CA n (G f) kn (vs ++ []) H1 Q E0
    rw [List.append_nil]
    exact call_sp (b := b) E.sub e1 hkk (hl _ _ eg) (fun z => r1.good E.sub (ga z)) (r1.rp E.sub) eg hbf fun v H2 e2 r2 => kq v H2 (e1.trans e2) ((VR.good rfl).mpr r2)
  | mk c C i a fd ps j n kn hC M Fn hr hm hb hl hf hn hkk =>
    refine PE.imp (pe_make M Fn hr hg hm hb .nil passL ha hd he hpl) fun σ H Q ⟨O, ρ, d, E, ev, kq⟩ => ?_
    simp only [evE, Option.bind_eq_some_iff, unT_some, Option.ite_none_right_eq_some, Option.some.injEq] at ev
    obtain ⟨xs, exs, d', ec, hbf, rfl⟩ := ev
    obtain ⟨s', eg⟩ := okF_some ec
    rw [hf] at eg
    obtain rfl := makes_s eg
    refine ⟨O, ρ, xs, E, exs, fun vs H1 e1 r1 => ?_⟩
    cases b with
    | false => exact make_sp hC (r := .ok d') (E.sub.ext e1) (makes_l hl eg) (r1.good E.sub (ga rfl)) eg hn fun v H2 e2 r2 => kq v H2 (e1.trans e2) ((VR.good rfl).mpr ((r2.less (E.sub.ext e1) hkk).back e1))
    | true =>
      refine make_sp hC (O := none0) (r := .ok d') (none0_sub H1) (makes_l hl eg) (by rw [off_none]; exact r1.rp E.sub) eg hn fun v H2 e2 r2 => kq v H2 (e1.trans e2) ((VR.good rfl).mpr ?_)
      exact ((r2.less (none0_sub H1) hkk).lent (E.sub.ext e1) e2 (by simpa using hbf)).back e1
theorem snd_call0 {b : Bool} {x : Str} {f k : Nat} (c : Callee CA G X x f k) (hg : Gl X x) (hd : (x == ("__debug__" : Str)) = false) : PE X (.Call (.Name x p0) [] [] pos) (tD CA (okF G) (.call b f k .anil)) := by
  cases c with
  | fn a fd ps j n kn Fn hr hm hk hb hl hkk =>
    refine PE.imp (pe_call0 Fn hr hg hm hk hb .nil passL hd) fun σ H Q ⟨O, ρ, d, E, ev, kq⟩ => ?_
    simp only [evE, Option.bind_eq_some_iff, unT_some, Option.ite_none_right_eq_some, Option.some.injEq, PyData.tuple.injEq, exists_eq_left'] at ev
    obtain ⟨d', ec, hbf, rfl⟩ := ev
    obtain ⟨s', eg⟩ := okF_some ec
    exact call_sp (b := b) E.sub (Ext.refl H) hkk (hl _ _ eg) (fun z => .nil) .nil eg hbf fun v H2 e2 r2 => kq v H2 e2 ((VR.good rfl).mpr r2)
  | mk c C i a fd ps j n kn hC M Fn hr hm hb hl hf hn hkk =>
    refine PE.imp (pe_make0 M Fn hr hg hm hb .nil passL hd) fun σ H Q ⟨O, ρ, d, E, ev, kq⟩ => ?_
    simp only [evE, Option.bind_eq_some_iff, unT_some, Option.ite_none_right_eq_some, Option.some.injEq, PyData.tuple.injEq, exists_eq_left'] at ev
    obtain ⟨d', ec, hbf, rfl⟩ := ev
    obtain ⟨s', eg⟩ := okF_some ec
    rw [hf] at eg
    obtain rfl := makes_s eg
    cases b with
    | false => exact make_sp hC (r := .ok d') (vs := []) E.sub (makes_l hl eg) .nil eg hn fun v H2 e2 r2 => kq v H2 e2 ((VR.good rfl).mpr (r2.less E.sub hkk))
    | true =>
      refine make_sp hC (O := none0) (vs := []) (r := .ok d') (none0_sub H) (makes_l hl eg) .nil eg hn fun v H2 e2 r2 => kq v H2 e2 ((VR.good rfl).mpr ?_)
      exact (r2.less (none0_sub H) hkk).lent E.sub e2 (by simpa using hbf)
end
end Dz

set_option Elab.async false
set_option linter.all false
set_option maxRecDepth 100000
set_option maxHeartbeats 4000000
namespace Dz
open PySem L2
/-! ### from the text to the small language -/
structure Ctx where
  N : List Str
  sc : Scope
  fx : Str → Bool
  ow : List (Nat × Nat)
  ex : List Str
  rx : List Str
  fl : List Str
  fn : List (Str × (Nat × Nat))
  gl : List (Str × Int)
  mt : List (Str × (List (Str × Nat) × Nat)) := []
  cl : List (Str × List Str) := []
def Ctx.blk (C : Ctx) (scope : Scope) : Ctx := { C with sc := relS scope C.sc, fx := fun x => scope.names.lookup x == some .cell }
def vis (sc : Scope) (x : Str) : Bool := match sc.names.lookup x with
  | some .local => true
  | some .cell => true
  | some .free => true
  | _ => false
def glb (sc : Scope) (x : Str) : Bool := match sc.names.lookup x with
  | some .globalImplicit => true
  | _ => false
def locB (C : Ctx) (x : Str) : Bool := match C.sc.names.lookup x with
  | some .local => true
  | some .cell => C.fx x
  | _ => false
def plainN (x : Str) : Bool := !(x == ("__debug__" : Str)) && !(x == ("__classdict__" : Str)) && !(x == ("__name__" : Str))
def slotOf (N : List Str) (x : Str) : Option Nat := (List.range N.length).find? fun i => decide (N[i]? = some x)
def cName (C : Ctx) (x : Str) : Option L :=
  if plainN x then
    if vis C.sc x then (slotOf C.N x).map fun i => match C.ow.lookup i with | some 1 => .own1 i | some _ => .own i | none => .var i
    else if glb C.sc x then (C.gl.lookup x).map fun i => .c (.int i) else none
  else none
def cConst : Const → Option L
  | .none => some (.c .none)
  | .bool b => some (.c (.bool b))
  | .int i => some (.c (.int i))
  | .str x => some (.c (.str x))
  | _ => none
def bOf : Operator → Option BOp
  | .Add => some .add
  | .Sub => some .sub
  | .Mult => some .mul
  | .FloorDiv => some .fdiv
  | .Mod => some .mod
  | .Pow => some .pow
  | .RShift => some .shr
  | .BitAnd => some .band
  | _ => none
def cOf : CmpOp → COp
  | .Eq => .eq
  | .NotEq => .ne
  | .Lt => .lt
  | .LtE => .le
  | .Gt => .gt
  | .GtE => .ge
  | .In => .isin
  | .NotIn => .notin
  | .Is => .is
  | .IsNot => .isnot
def tyOf (x : Str) : Option Ty :=
  if x = "int" then some .int else if x = "bool" then some .bool else if x = "list" then some .list else if x = "tuple" then some .tuple else if x = "str" then some .str else none
abbrev Rec := Ctx → Expr → Option L
/-- in a place that wants what stands still -/
def toG (l : L) : L := if good l then l else .flat1 l
/-- an operand -/
def toO (l : L) : L := if okop l then l else .rd l
def toN (k : Nat) (l : L) : L := if good l && decide (k ≤ nw l) then l else .flat1 l
def cG (r : Rec) (C : Ctx) (e : Expr) : Option L := (r C e).map toG
def cO (r : Rec) (C : Ctx) (e : Expr) : Option L := (r C e).map toO
def cA (r : Rec) (C : Ctx) : List Expr → Option L
  | [] => some .anil
  | e :: es => (r C e).bind fun l => (cA r C es).map fun ls => .acons l ls
def cAG (r : Rec) (C : Ctx) : List Expr → Option L
  | [] => some .anil
  | e :: es => (cG r C e).bind fun l => (cAG r C es).map fun ls => .acons l ls
def cB (r : Rec) (C : Ctx) (op : BoolOp) : List Expr → Option L
  | [] => none
  | [a] => r C a
  | a :: b :: es => (r C a).bind fun l => (cB r C op (b :: es)).map fun ls => match op with
    | .And => .and l ls
    | .Or => .or l ls
def cPart (r : Rec) (C : Ctx) : Option Expr → Option L
  | none => some (.c .none)
  | some e => (cG r C e).map fun l => .bin .add (.c (.int 0)) l
def cIfs (r : Rec) (C : Ctx) : List Expr → Option L
  | [] => some (.c (.bool true))
  | [c] => r C c
  | _ => none
def names : List Expr → Option (List Str)
  | [] => some []
  | .Name x _ :: r => (names r).map (x :: ·)
  | _ :: _ => none
def slots (C : Ctx) : List Str → Option (List Nat)
  | [] => some []
  | x :: r => if plainN x && locB C x then (slotOf C.N x).bind fun i => (slots C r).map (i :: ·) else none
def tgNames : Expr → Option (List Str)
  | .Name x _ => some [x]
  | .Tuple es _ _ => names es
  | _ => none
def cTg (C : Ctx) : Expr → Option Tg
  | .Name x _ => (slots C [x]).bind fun | [i] => some (.one i) | _ => none
  | .Tuple es _ _ => (names es).bind fun xs => (slots C xs).map .many
  | _ => none
def isTup : Expr → Bool
  | .Tuple _ _ _ => true
  | _ => false
/-- a def's name: not called as a built-in -/
def freeN (C : Ctx) (f : Str) : Bool := plainN f && glb C.sc f && (C.fn.lookup f).isNone
def cSrc (r : Rec) (C : Ctx) (tg : Expr) : Expr → Option (Src × L)
  | .Call (.Name f p0) args kws pos =>
    if freeN C f && kws.isEmpty && decide (f = "range") && args.length == 1 then (cA r C args).map fun l => (.range1, l)
    else if freeN C f && kws.isEmpty && decide (f = "range") && args.length == 2 then (cA r C args).map fun l => (.range2, l)
    else if freeN C f && kws.isEmpty && decide (f = "enumerate") && isTup tg then match args with
      | [a] => (cO r C a).map fun l => (.enum, .acons l .anil)
      | _ => none
    else if freeN C f && kws.isEmpty && decide (f = "zip") && isTup tg then match args with
      | [a, b] => (cO r C a).bind fun l => (cO r C b).map fun l' => (.zip, .acons l (.acons l' .anil))
      | _ => none
    else (cO r C (.Call (.Name f p0) args kws pos)).map fun l => (.seq, .acons l .anil)
  | .Set _ _ _ => none
  | e => (cO r C e).map fun l => (.seq, .acons l .anil)
def ownOf (xs : List Str) (g : Tg) : List (Str × Nat) := xs.zip (tgSlots g)
def cComp (rE rT rN : Rec) (C : Ctx) (elt tg iter : Expr) (ifs : List Expr) (scope : Scope) : Option L :=
  (tgNames tg).bind fun xs => (cTg (C.blk scope) tg).bind fun g =>
    if blkC C.N C.sc scope (ownOf xs g) && ((tgSlots g).all fun i => ((ownOf xs g).map (·.2)).contains i) then
      (cSrc rE C tg iter).bind fun kl => (cIfs rT (C.blk scope) ifs).bind fun lt => (cG rN (C.blk scope) elt).map fun le => L.comp kl.1 kl.2 g ((ownOf xs g).map (·.2)) lt le
    else none
def biOne (f : Str) : Option Bi :=
  if f = "sum" then some .sum else if f = "sorted" then some .sorted else if f = "max" then some .maxL else if f = "min" then some .minL else if f = "abs" then some .abs
  else if f = "int" then some .int1 else if f = "all" then some .all else if f = "any" then some .any else if f = "len" then some .len else none
def isRange (C : Ctx) : List Expr → Option (List Expr)
  | [.Call (.Name r _) args kws _] => if freeN C r && decide (r = "range") && kws.isEmpty && (args.length == 1 || args.length == 2) then some args else none
  | _ => none
def cBi (r : Rec) (C : Ctx) (f : Str) (args : List Expr) (kws : List Keyword) : Option L :=
  if freeN C f then
    match kws with
    | [] =>
      if decide (f = "list") && (isRange C args).isSome then (isRange C args).bind fun as => (cA r C as).map fun l => .bi (if as.length == 1 then .rng1 else .rng2) l
      else if decide (f = "list") then match args with
        | [a] => (cO r C a).map .list1
        | _ => none
      else if decide (f = "isinstance") then match args with
        | [a, .Name t _] => match C.cl.lookup t with
          | some cs => if plainN t && glb C.sc t then (r C a).map fun l => .isC l cs else none
          | none => if freeN C t then (tyOf t).bind fun T => (r C a).map fun l => .bi (.isi T) (.acons l .anil) else none
        | _ => none
      else if decide (f = "max") && args.length == 2 then (cA r C args).map fun l => .bi .max2 l
      else if args.length == 1 then (biOne f).bind fun b => (cA r C args).map fun l => .bi b l else none
    | [⟨some k, .Constant (.bool true) _ _, _⟩] => if decide (f = "sorted") && decide (k = "reverse") && args.length == 1 then (cA r C args).map fun l => .bi .sortedR l else none
    | _ => none
  else none
def cCall (r : Rec) (C : Ctx) (f : Str) (args : List Expr) (kws : List Keyword) : Option L :=
  match C.fn.lookup f with
  | some k => if plainN f && glb C.sc f && kws.isEmpty then (cA r C args).map fun l => .call (!goodA l) k.1 k.2 l else none
  | none => cBi r C f args kws
def isAttrBase : Expr → Bool
  | .Call (.Name _ _) [] [] _ => true
  | _ => false
def stepE (rE rT : Rec) : Rec := fun C e => match e with
  | .Name x _ => cName C x
  | .Constant c _ _ => cConst c
  | .BinOp a op b _ => (bOf op).bind fun o => (cO rE C a).bind fun la => (cO rE C b).map fun lb => .bin o la lb
  | .UnaryOp .Not a _ => (rE C a).map .not
  | .UnaryOp .USub a _ => (rE C a).map .neg
  | .BoolOp op es _ => cB rE C op es
  | .IfExp t a b _ => (rT C t).bind fun lt => (rE C a).bind fun la => (rE C b).map fun lb => .ite lt la lb
  | .Compare a [op] [b] _ => if behindInMarks op b then none else (rE C a).bind fun la => (rE C b).map fun lb => .cmp (cOf op) la lb
  | .Compare a [op, op'] [b, c] _ => if lastMarks [op, op'] [b, c] then none else (rE C a).bind fun la => (rE C b).bind fun lb => (rE C c).map fun lc => .chain (cOf op) (cOf op') la lb lc
  | .Subscript a (.Slice none none (some (.UnaryOp .USub (.Constant (.int 1) _ _) _)) _) _ => (cO rE C a).map .rev
  | .Subscript a (.Slice lo hi none _) _ => (cO rE C a).bind fun la => (cPart rE C lo).bind fun ll => (cPart rE C hi).map fun lh => .slice la ll lh
  | .Subscript _ (.Slice _ _ _ _) _ => none
  | .Subscript a i _ => (rE C a).bind fun la => (rE C i).map fun li => .ix la li
  | .List es _ => (cAG rE C es).map .lst
  | .Tuple es _ _ => (cAG rE C es).map .tup
  | .Call (.Name f _) args kws _ => cCall rE C f args kws
  | .Call (.Attribute o m ap) args [] cp => match C.mt.lookup m with
    | some tk => if !(isAttrBase o) && (ap.endLine == cp.line) && decide (args.length < 30) then (rE C o).bind fun lo => (cA rE C args).map fun la => .meth (!(good lo && goodA la)) m tk.1 tk.2 lo la else none
    | none => match args with
      | [a] => if decide (m = "index") && (ap.endLine == cp.line) && !(isAttrBase o) then (rE C o).bind fun lo => (rE C a).map fun la => .bi .index (.acons lo (.acons la .anil)) else none
      | _ => none
  | .Attribute a f _ => if C.fl.contains f && !(isAttrBase a) then (rE C a).map fun l => .fld l f else none
  | .ListComp elt [⟨tg, iter, ifs, 0⟩] scope _ => cComp rE rT rE C elt tg iter ifs scope
  | _ => none
/-- what is to be new down to k -/
def stepN (rE rT : Rec) (rN : Nat → Rec) : Nat → Rec := fun k C e => match k, e with
  | k + 1, .List es _ => (cAG (rN k) C es).map fun l => toN (k + 1) (.lst l)
  | k + 1, .Tuple es _ _ => (cAG (rN k) C es).map fun l => toN (k + 1) (.tup l)
  | k + 1, .ListComp elt [⟨tg, iter, ifs, 0⟩] scope _ => (cComp rE rT (rN k) C elt tg iter ifs scope).map (toN (k + 1))
  | k, .IfExp t a b _ => (rT C t).bind fun lt => (rN k C a).bind fun la => (rN k C b).map fun lb => toN k (.ite lt la lb)
  | k, e => (stepE rE rT C e).map (toN k)
def cBT (r : Rec) (C : Ctx) (op : BoolOp) : List Expr → Option L
  | [] => none
  | [a] => r C a
  | a :: b :: es => (r C a).bind fun l => (cBT r C op (b :: es)).map fun ls => match op with
    | .And => .and l ls
    | .Or => .or l ls
def stepT (rT sE : Rec) : Rec := fun C e => match e with
  | .UnaryOp .Not x _ => (rT C x).map .not
  | .BoolOp op es _ => cBT rT C op es
  | .IfExp _ _ _ _ => none
  | e => sE C e
structure Rs3 where
  e : Rec
  t : Rec
  n : Nat → Rec
def cET : Nat → Rs3
  | 0 => ⟨fun _ _ => none, fun _ _ => none, fun _ _ _ => none⟩
  | n + 1 => ⟨stepE (cET n).e (cET n).t, stepT (cET n).t (stepE (cET n).e (cET n).t), stepN (cET n).e (cET n).t (cET n).n⟩
end Dz

set_option Elab.async false
set_option linter.all false
set_option maxRecDepth 100000
set_option maxHeartbeats 4000000
namespace Dz
open PySem L2
def bnames : List Str := ["len", "sum", "sorted", "max", "min", "abs", "int", "list", "all", "any", "isinstance", "range", "enumerate", "zip", "bool", "tuple", "str"]
/-- an error class of the program -/
structure ExcF (K : PySem.W.Frag) (mg : Str → Option Value) (c : Str) (C : Addr) : Prop where
  xi : PySem.W.excIn K C [.type "ValueError", .type "Exception", .type "BaseException", .type "object"] "ValueError.__new__" = true
  g : mg c = some (.ref C)
  k : PySem.W.keepIn K (.ref C) = true
  b : PySem.W.subIn K (.ref C) (.type "BaseException") = some true
  t : PySem.W.typeIn K (.ref C) = some (.type "type")
/-- what the classes of objects are -/
structure ClsF (CA : Cmap) (fl : List Str) (K : PySem.W.Frag) : Prop where
  cl : ∀ c C, CA.ins c = some C → Cls K C
  na : ∀ c C f, CA.ins c = some C → f ∈ fl → NoAttr K C f
structure Fit (CA : Cmap) (G : Nat → Dz.Sem) (C : Ctx) (X : Cx) : Prop where
  n : X.N = C.N
  nd : C.N.Nodup
  sc : X.env.scope = C.sc
  fx : X.fn = C.fx
  calm : X.calm = true
  un : X.A.units + 65 < cLine
  bl : ∀ x, x ∈ bnames → X.mg x = none
  gl : ∀ x i, C.gl.lookup x = some i → ∃ t, X.mg x = some (.int i t)
  ex : ∀ c, c ∈ C.ex → ExcF X.K X.mg c (CA.exc c)
  cf : ClsF CA C.fl X.K
  fn : ∀ x f, C.fn.lookup x = some f → Callee CA G X x f.1 f.2
  mt : ∀ m tk, C.mt.lookup m = some tk → ∀ c f, tk.1.lookup c = some f → MethOk CA G X c m f tk.2
  cl : ∀ y cs, C.cl.lookup y = some cs → ClsT CA X y cs
variable {CA : Cmap} {G : Nat → Dz.Sem}
theorem Fit.blk {C : Ctx} {X : Cx} (T : Fit CA G C X) (scope : Scope) (s : Shared) (H : Hp) (a : Addr) (cl : List (Str × Addr)) (fp : List Addr) : Fit CA G (C.blk scope) (X.blk s H scope (compEnvC scope cl a X.env) fp) where
  n := T.n
  nd := T.nd
  sc := by
    show relS scope X.env.scope = relS scope C.sc
    rw [T.sc]
  fx := rfl
  calm := T.calm
  un := T.un
  bl := T.bl
  gl := T.gl
  ex := T.ex
  cf := T.cf
  fn := fun x f h => by
    cases T.fn x f h with
    | fn a fd ps k n kn h1 h2 h3 h4 h5 h6 h7 => exact .fn a fd ps k n kn h1 h2 h3 h4 h5 h6 h7
    | mk c C i a fd ps k n kn h0 h1 h2 h3 h4 h5 h6 h7 h8 h9 => exact .mk c C i a fd ps k n kn h0 h1 h2 h3 h4 h5 h6 h7 h8 h9
  mt := fun m tk h c f hf => by
    cases T.mt m tk h c f hf with
    | mk C a fd ps k n kn h0 h1 h2 h3 h4 h5 h6 h7 => exact .mk C a fd ps k n kn h0 h1 h2 h3 h4 h5 h6 h7
  cl := T.cl
def isStar : Expr → Bool
  | .Starred _ _ => true
  | _ => false
def Sound (CA : Cmap) (G : Nat → Dz.Sem) (r : Rec) : Prop := ∀ C X e l, Fit CA G C X → r C e = some l → PE X e (tD CA (okF G) l) ∧ isStar e = false
def SoundT (CA : Cmap) (G : Nat → Dz.Sem) (r : Rec) : Prop := ∀ C X e l, Fit CA G C X → r C e = some l → PT X e (tT CA (okF G) l)
section
variable {C : Ctx} {X : Cx} {rE rT : Rec}
theorem slotOf_ok {N : List Str} {x : Str} {i : Nat} (h : slotOf N x = some i) : N[i]? = some x := by
  have := List.find?_some h
  simpa using this
theorem plainN_ok {x : Str} (h : plainN x = true) : (x == ("__debug__" : Str)) = false ∧ (x == ("__classdict__" : Str)) = false ∧ x ≠ ("__name__" : Str) := by
  unfold plainN at h
  simp only [Bool.and_eq_true, Bool.not_eq_true'] at h
  refine ⟨h.1.1, h.1.2, fun e => ?_⟩
  rw [e] at h
  exact absurd h.2 (by decide)
theorem vis_ok (T : Fit CA G C X) {x : Str} (h : vis C.sc x = true) : Vis X.env.scope x := by
  unfold vis at h
  rw [T.sc]
  split at h
  · exact .inl (by assumption)
  · exact .inr (.inl (by assumption))
  · exact .inr (.inr (by assumption))
  · cases h
theorem glb_ok (T : Fit CA G C X) {x : Str} (h : glb C.sc x = true) : Gl X x := by
  unfold glb at h
  show X.env.scope.names.lookup x = _
  rw [T.sc]
  split at h
  · assumption
  · cases h
theorem cName_ok (T : Fit CA G C X) {x : Str} {l : L} {pos : Pos} (h : cName C x = some l) : PE X (.Name x pos) (tD CA (okF G) l) := by
  unfold cName at h
  split at h
  · rename_i hp
    obtain ⟨p1, p2, p3⟩ := plainN_ok hp
    split at h
    · rename_i hv
      rw [Option.map_eq_some_iff] at h
      obtain ⟨i, hi, rfl⟩ := h
      have hN : X.N[i]? = some x := by rw [T.n]; exact slotOf_ok hi
      split
      · exact snd_own1 hN (vis_ok T hv) p1 p2
      · exact snd_own hN (vis_ok T hv) p1 p2
      · exact snd_var hN (vis_ok T hv) p1 p2
    · split at h
      · rename_i hg
        rw [Option.map_eq_some_iff] at h
        obtain ⟨i, hi, rfl⟩ := h
        obtain ⟨t, ht⟩ := T.gl x i hi
        exact snd_c (pe_glob (glb_ok T hg) ht (v := .int i) ⟨t, rfl⟩ p1) rfl fun _ => rp_int.mpr rfl
      · cases h
  · cases h
theorem cConst_ok {c : Const} {k : Nat} {pos : Pos} {l : L} (h : cConst c = some l) : PE X (.Constant c k pos) (tD CA (okF G) l) := by
  cases c <;> simp only [cConst, Option.some.injEq, reduceCtorEq] at h <;> subst h
  · exact snd_c pe_non rfl fun _ => rp_none.mpr rfl
  · exact snd_c pe_bl rfl fun _ => rp_bool.mpr rfl
  · exact snd_c pe_int rfl fun _ => rp_int.mpr rfl
  · exact snd_c pe_str rfl fun _ => rp_str.mpr rfl
theorem toG_ok {e : Expr} {l : L} (h : PE X e (tD CA (okF G) l)) : PE X e (tD CA (okF G) (toG l)) ∧ good (toG l) = true := by
  unfold toG
  split
  · rename_i g
    exact ⟨h, g⟩
  · exact ⟨snd_flat1 h, rfl⟩
theorem toO_ok {e : Expr} {l : L} (h : PE X e (tD CA (okF G) l)) : PE X e (tD CA (okF G) (toO l)) ∧ okop (toO l) = true := by
  unfold toO
  split
  · rename_i g
    exact ⟨h, g⟩
  · exact ⟨snd_rd h, rfl⟩
theorem toN_ok {e : Expr} {l : L} {k : Nat} (hk : k ≤ 9) (h : PE X e (tD CA (okF G) l)) : PE X e (tD CA (okF G) (toN k l)) ∧ good (toN k l) = true ∧ k ≤ nw (toN k l) := by
  unfold toN
  split
  · rename_i g
    rw [Bool.and_eq_true, decide_eq_true_eq] at g
    exact ⟨h, g⟩
  · exact ⟨snd_flat1 h, rfl, hk⟩
theorem cG_ok {r : Rec} (S : Sound CA G r) (T : Fit CA G C X) {e : Expr} {l : L} (h : cG r C e = some l) : PE X e (tD CA (okF G) l) ∧ good l = true ∧ isStar e = false := by
  unfold cG at h
  rw [Option.map_eq_some_iff] at h
  obtain ⟨l', h1, rfl⟩ := h
  obtain ⟨p, st⟩ := S C X e l' T h1
  exact ⟨(toG_ok p).1, (toG_ok p).2, st⟩
theorem cO_ok {r : Rec} (S : Sound CA G r) (T : Fit CA G C X) {e : Expr} {l : L} (h : cO r C e = some l) : PE X e (tD CA (okF G) l) ∧ okop l = true ∧ isStar e = false := by
  unfold cO at h
  rw [Option.map_eq_some_iff] at h
  obtain ⟨l', h1, rfl⟩ := h
  obtain ⟨p, st⟩ := S C X e l' T h1
  exact ⟨(toO_ok p).1, (toO_ok p).2, st⟩
theorem star1 {e : Expr} {es : List Expr} {env : Env} (h : isStar e = false) : starEach (e :: es) env = (false, eval e env) :: starEach es env := by
  cases e <;> first | rfl | simp [isStar] at h
theorem noStar {env : Env} {pos : Pos} : ∀ {es : List Expr}, (∀ e ∈ es, isStar e = false) → (backTo pos (starEach es env)).any (·.1) = false
  | [], _ => rfl
  | e :: es, h => by
    rw [star1 (h e List.mem_cons_self)]
    have ih := noStar (env := env) (pos := pos) (es := es) fun x hx => h x (List.mem_cons_of_mem _ hx)
    unfold backTo at ih ⊢
    rw [List.map_cons, List.any_cons, ih]
    rfl
theorem cA_ok (S : Sound CA G rE) (T : Fit CA G C X) : ∀ {es : List Expr} {l : L}, cA rE C es = some l → PA X es (tA CA (okF G) l) ∧ ∀ e ∈ es, isStar e = false
  | [], l, h => by
    cases h
    exact ⟨sna_nil, fun _ h => nomatch h⟩
  | e :: es, l, h => by
    unfold cA at h
    rw [Option.bind_eq_some_iff] at h
    obtain ⟨le, h1, h2⟩ := h
    rw [Option.map_eq_some_iff] at h2
    obtain ⟨ls, h3, rfl⟩ := h2
    obtain ⟨p, st⟩ := S C X e le T h1
    obtain ⟨q, sts⟩ := cA_ok S T h3
    refine ⟨sna_cons p q (star1 st), fun x hx => ?_⟩
    rcases List.mem_cons.mp hx with rfl | hx
    · exact st
    · exact sts x hx
theorem cAG_ok (S : Sound CA G rE) (T : Fit CA G C X) : ∀ {es : List Expr} {l : L}, cAG rE C es = some l → PA X es (tA CA (okF G) l) ∧ goodA l = true ∧ ∀ e ∈ es, isStar e = false
  | [], l, h => by
    cases h
    exact ⟨sna_nil, rfl, fun _ h => nomatch h⟩
  | e :: es, l, h => by
    unfold cAG at h
    rw [Option.bind_eq_some_iff] at h
    obtain ⟨le, h1, h2⟩ := h
    rw [Option.map_eq_some_iff] at h2
    obtain ⟨ls, h3, rfl⟩ := h2
    obtain ⟨p, g, st⟩ := cG_ok S T h1
    obtain ⟨q, gs, sts⟩ := cAG_ok S T h3
    refine ⟨sna_cons p q (star1 st), by rw [goodA, g, gs]; rfl, fun x hx => ?_⟩
    rcases List.mem_cons.mp hx with rfl | hx
    · exact st
    · exact sts x hx
theorem cB_ok (S : Sound CA G rE) (T : Fit CA G C X) {op : BoolOp} {pos : Pos} : ∀ {es : List Expr} {l : L}, cB rE C op es = some l → PE X (.BoolOp op es pos) (tD CA (okF G) l)
  | [], l, h => by cases h
  | [a], l, h => by
    unfold cB at h
    exact pe_one (S C X a l T h).1
  | a :: b :: es, l, h => by
    unfold cB at h
    rw [Option.bind_eq_some_iff] at h
    obtain ⟨la, h1, h2⟩ := h
    rw [Option.map_eq_some_iff] at h2
    obtain ⟨lb, h3, rfl⟩ := h2
    have q := cB_ok S T (pos := pos) h3
    cases op with
    | And => exact snd_and (S C X a la T h1).1 q
    | Or => exact snd_or (S C X a la T h1).1 q
theorem cBT_ok (S : SoundT CA G rT) (T : Fit CA G C X) {op : BoolOp} {pos : Pos} : ∀ {es : List Expr} {l : L}, cBT rT C op es = some l → PW X (.BoolOp op es pos) (tT CA (okF G) l)
  | [], l, h => by cases h
  | [a], l, h => by
    unfold cBT at h
    cases op with
    | And => exact pw_and1 (S C X a l T h)
    | Or => exact pw_or1 (S C X a l T h)
  | a :: b :: es, l, h => by
    unfold cBT at h
    rw [Option.bind_eq_some_iff] at h
    obtain ⟨la, h1, h2⟩ := h
    rw [Option.map_eq_some_iff] at h2
    obtain ⟨lb, h3, rfl⟩ := h2
    have q := cBT_ok S T (pos := pos) h3
    cases op with
    | And => exact snw_and (S C X a la T h1) q
    | Or => exact snw_or (S C X a la T h1) q
theorem part_some' {F : Nat → List D → Option D} {e : Expr} {l : L} (h : PE X e (tD CA F l)) : PO X (some e) (tPartD CA F (.bin .add (.c (.int 0)) l)) := by
  refine ⟨fun pins s σ H Q I ⟨O, ρ, o, E, ev, k⟩ => (po_some h).run pins s σ H Q I ?_⟩
  simp only [Option.bind_eq_some_iff, evE, Option.some.injEq, exists_eq_left', Option.bind_some] at ev
  obtain ⟨d, ⟨x, ex, eo⟩, ep⟩ := ev
  cases x <;> simp only [opB, Option.some.injEq, reduceCtorEq] at eo
  subst eo
  simp only [partO, Option.some.injEq] at ep
  subst ep
  exact ⟨O, ρ, _, E, ex, fun v H1 e1 r1 => ⟨_, r1.int E.sub, by rw [Int.zero_add] at k; exact k H1 e1⟩⟩
theorem cPart_ok (S : Sound CA G rE) (T : Fit CA G C X) {o : Option Expr} {l : L} (h : cPart rE C o = some l) : PO X o (tPartD CA (okF G) l) := by
  cases o with
  | none =>
    cases h
    exact part_none
  | some e =>
    unfold cPart at h
    rw [Option.map_eq_some_iff] at h
    obtain ⟨l', h1, rfl⟩ := h
    exact part_some' (cG_ok S T h1).1
theorem cmpPy_cOf (op : CmpOp) : cmpPy (cOf op) = op := by cases op <;> rfl
theorem opPy_bOf {op : Operator} {o : BOp} (h : bOf op = some o) : opPy o = op := by cases op <;> cases h <;> rfl
/-! targets -/
theorem locB_ok (T : Fit CA G C X) {x : Str} (h : locB C x = true) : Loc X.env.scope x ∧ (X.fn x = true ∨ X.env.scope.names.lookup x = some .local) := by
  unfold locB at h
  rw [T.sc, T.fx]
  split at h
  · rename_i e
    exact ⟨.inl e, .inr e⟩
  · rename_i e
    exact ⟨.inr e, .inl h⟩
  · cases h
theorem pgs_of (T : Fit CA G C X) : ∀ {es : List Expr} {xs : List Str} {is : List Nat}, names es = some xs → slots C xs = some is → PGs X es (gNames is) ∧ (assignEach es X.env).length = is.length ∧ (assignEach es X.env).findIdx? (·.1) = none ∧ xs.length = is.length
  | [], xs, is, h1, h2 => by
    cases h1
    cases h2
    exact ⟨pgs_nil, rfl, rfl, rfl⟩
  | .Name x p :: es, xs, is, h1, h2 => by
    unfold names at h1
    rw [Option.map_eq_some_iff] at h1
    obtain ⟨ys, h3, rfl⟩ := h1
    unfold slots at h2
    rw [Option.ite_none_right_eq_some] at h2
    obtain ⟨hb, h2⟩ := h2
    rw [Option.bind_eq_some_iff] at h2
    obtain ⟨i, hi, h2⟩ := h2
    rw [Option.map_eq_some_iff] at h2
    obtain ⟨js, h4, rfl⟩ := h2
    rw [Bool.and_eq_true] at hb
    obtain ⟨q1, q2, q3, q4⟩ := pgs_of T h3 h4
    obtain ⟨l1, l2⟩ := locB_ok T hb.2
    refine ⟨pgs_cons (pg_name (by rw [T.n]; exact T.nd) (by rw [T.n]; exact slotOf_ok hi) l1 l2) q1 rfl, ?_, ?_, ?_⟩
    · show (assignEach es X.env).length + 1 = _
      rw [q2]
      rfl
    · show ((false, assign (.Name x p) X.env) :: assignEach es X.env).findIdx? (·.1) = none
      rw [List.findIdx?_cons, q3]
      rfl
    · simp [q4]
  | .BoolOp .. :: _, _, _, h, _ => by cases h
  | .NamedExpr .. :: _, _, _, h, _ => by cases h
  | .BinOp .. :: _, _, _, h, _ => by cases h
  | .UnaryOp .. :: _, _, _, h, _ => by cases h
  | .Lambda .. :: _, _, _, h, _ => by cases h
  | .IfExp .. :: _, _, _, h, _ => by cases h
  | .Dict .. :: _, _, _, h, _ => by cases h
  | .Set .. :: _, _, _, h, _ => by cases h
  | .ListComp .. :: _, _, _, h, _ => by cases h
  | .SetComp .. :: _, _, _, h, _ => by cases h
  | .DictComp .. :: _, _, _, h, _ => by cases h
  | .GeneratorExp .. :: _, _, _, h, _ => by cases h
  | .Await .. :: _, _, _, h, _ => by cases h
  | .Yield .. :: _, _, _, h, _ => by cases h
  | .YieldFrom .. :: _, _, _, h, _ => by cases h
  | .Compare .. :: _, _, _, h, _ => by cases h
  | .Call .. :: _, _, _, h, _ => by cases h
  | .FormattedValue .. :: _, _, _, h, _ => by cases h
  | .JoinedStr .. :: _, _, _, h, _ => by cases h
  | .Constant .. :: _, _, _, h, _ => by cases h
  | .Attribute .. :: _, _, _, h, _ => by cases h
  | .Subscript .. :: _, _, _, h, _ => by cases h
  | .Starred .. :: _, _, _, h, _ => by cases h
  | .List .. :: _, _, _, h, _ => by cases h
  | .Tuple .. :: _, _, _, h, _ => by cases h
  | .Slice .. :: _, _, _, h, _ => by cases h
theorem cTg_ok (T : Fit CA G C X) {e : Expr} {g : Tg} (h : cTg C e = some g) : PG X e (gT X.K g) := by
  unfold cTg at h
  split at h
  · rename_i x p
    rw [Option.bind_eq_some_iff] at h
    obtain ⟨is, h1, h2⟩ := h
    unfold slots at h1
    rw [Option.ite_none_right_eq_some] at h1
    obtain ⟨hb, h1⟩ := h1
    rw [Option.bind_eq_some_iff] at h1
    obtain ⟨i, hi, h1⟩ := h1
    cases h1
    cases h2
    rw [Bool.and_eq_true] at hb
    obtain ⟨l1, l2⟩ := locB_ok T hb.2
    exact pg_name (by rw [T.n]; exact T.nd) (by rw [T.n]; exact slotOf_ok hi) l1 l2
  · rename_i es k p
    rw [Option.bind_eq_some_iff] at h
    obtain ⟨xs, h1, h2⟩ := h
    rw [Option.map_eq_some_iff] at h2
    obtain ⟨is, h3, rfl⟩ := h2
    obtain ⟨q1, q2, q3, q4⟩ := pgs_of T h1 h3
    exact pg_tup T.calm q1 q2 q3
  · cases h
end
end Dz

set_option Elab.async false
set_option linter.all false
set_option maxRecDepth 100000
set_option maxHeartbeats 4000000
namespace Dz
open PySem L2
variable {CA : Cmap} {G : Nat → Dz.Sem}
section
variable {C : Ctx} {X : Cx} {rE rT : Rec} {p0 pos : Pos}
theorem freeN_ok (T : Fit CA G C X) {f : Str} (h : freeN C f = true) : (f == ("__debug__" : Str)) = false ∧ f ≠ ("__name__" : Str) ∧ Gl X f := by
  unfold freeN at h
  simp only [Bool.and_eq_true] at h
  obtain ⟨p1, p2, p3⟩ := plainN_ok h.1.1
  exact ⟨p1, p3, glb_ok T h.1.2⟩
theorem noFold {e : Expr} {env : Env} (h : ∀ a b c, e ≠ .Set a b c) (x : Value) : foldedSetIterable e env x = pure x := by
  cases e <;> first | rfl | exact absurd rfl (h _ _ _)
theorem len1 {α : Type} {l : List α} (h : (l.length == 1) = true) : ∃ a, l = [a] := by
  match l, h with
  | [a], _ => exact ⟨a, rfl⟩
theorem len2 {α : Type} {l : List α} (h : (l.length == 2) = true) : ∃ a b, l = [a, b] := by
  match l, h with
  | [a, b], _ => exact ⟨a, b, rfl⟩
theorem isTup_ok {e : Expr} (h : isTup e = true) : ∃ es k p, e = .Tuple es k p := by
  cases e <;> simp [isTup] at h
  exact ⟨_, _, _, rfl⟩
theorem isEmpty_ok {α : Type} {l : List α} (h : l.isEmpty = true) : l = [] := List.isEmpty_iff.mp h
theorem cSrc_ok (S : Sound CA G rE) (T : Fit CA G C X) {tg e : Expr} {kl : Src × L} (h : cSrc rE C tg e = some kl) : PI X tg e (tI CA (okF G) kl.1 kl.2) ∧ ∀ a b c, e ≠ .Set a b c := by
  unfold cSrc at h
  split at h
  · rename_i f p args kws pos
    refine ⟨?_, fun _ _ _ z => nomatch z⟩
    split at h
    · rename_i hc
      simp only [Bool.and_eq_true, decide_eq_true_eq] at hc
      obtain ⟨⟨⟨h1, h2⟩, h3⟩, h4⟩ := hc
      obtain ⟨a, rfl⟩ := len1 h4
      obtain rfl := isEmpty_ok h2
      rw [Option.map_eq_some_iff] at h
      obtain ⟨l, hl, rfl⟩ := h
      obtain ⟨pa, st⟩ := cA_ok S T hl
      obtain ⟨_, _, g⟩ := freeN_ok T h1
      exact sni_rng1 h3 g (T.bl f (by rw [h3]; decide)) pa (by rw [star1 (st a List.mem_cons_self)]; rfl)
    · split at h
      · rename_i hc
        simp only [Bool.and_eq_true, decide_eq_true_eq] at hc
        obtain ⟨⟨⟨h1, h2⟩, h3⟩, h4⟩ := hc
        obtain ⟨a, b, rfl⟩ := len2 h4
        obtain rfl := isEmpty_ok h2
        rw [Option.map_eq_some_iff] at h
        obtain ⟨l, hl, rfl⟩ := h
        obtain ⟨pa, st⟩ := cA_ok S T hl
        obtain ⟨_, _, g⟩ := freeN_ok T h1
        have sb : starEach [b] X.env = [(false, eval b X.env)] := by rw [star1 (st b (by simp))]; rfl
        exact sni_rng2 h3 g (T.bl f (by rw [h3]; decide)) pa (by rw [star1 (st a List.mem_cons_self), sb]) sb
      · split at h
        · rename_i hc
          simp only [Bool.and_eq_true, decide_eq_true_eq] at hc
          obtain ⟨⟨⟨h1, h2⟩, h3⟩, h5⟩ := hc
          split at h
          · rename_i a
            obtain rfl := isEmpty_ok h2
            obtain ⟨es, k, tp, rfl⟩ := isTup_ok h5
            rw [Option.map_eq_some_iff] at h
            obtain ⟨l, hl, rfl⟩ := h
            obtain ⟨pa, gl, st⟩ := cO_ok S T hl
            obtain ⟨_, _, g⟩ := freeN_ok T h1
            exact sni_enum gl h3 g (T.bl f (by rw [h3]; decide)) (sna_cons pa sna_nil (star1 st)) (by rw [star1 st]; rfl)
          · cases h
        · split at h
          · rename_i hc
            simp only [Bool.and_eq_true, decide_eq_true_eq] at hc
            obtain ⟨⟨⟨h1, h2⟩, h3⟩, h5⟩ := hc
            split at h
            · rename_i a b
              obtain rfl := isEmpty_ok h2
              obtain ⟨es, k, tp, rfl⟩ := isTup_ok h5
              rw [Option.bind_eq_some_iff] at h
              obtain ⟨l, hl, h⟩ := h
              rw [Option.map_eq_some_iff] at h
              obtain ⟨l', hl', rfl⟩ := h
              obtain ⟨pa, ga, st⟩ := cO_ok S T hl
              obtain ⟨pb, gb, stb⟩ := cO_ok S T hl'
              obtain ⟨_, _, g⟩ := freeN_ok T h1
              exact sni_zip ga gb h3 g (T.bl f (by rw [h3]; decide)) (sna_cons pa (sna_cons pb sna_nil (star1 stb)) (star1 st)) (star1 st) (noStar fun x hx => by rw [List.mem_singleton.mp hx]; exact stb)
            · cases h
          · rw [Option.map_eq_some_iff] at h
            obtain ⟨l, hl, rfl⟩ := h
            obtain ⟨h4, h5, _⟩ := cO_ok S T hl
            exact sni_seq h5 h4
  · cases h
  · rename_i h0
    rw [Option.map_eq_some_iff] at h
    obtain ⟨l, hl, rfl⟩ := h
    obtain ⟨h4, h5, _⟩ := cO_ok S T hl
    exact ⟨sni_seq h5 h4, fun a b c z => by
      first
        | exact h0 a b c z
        | (rename_i h1; exact h1 a b c z)⟩
theorem cIfs_ok (S : SoundT CA G rT) (T : Fit CA G C X) {ifs : List Expr} {l : L} (h : cIfs rT C ifs = some l) : PTs X ifs (tT CA (okF G) l) := by
  unfold cIfs at h
  split at h
  · cases h
    refine ⟨fun pins s σ H Q I ⟨O, ρ, b, E, ev, k⟩ => (pts_nil (X := X)).run pins s σ H Q I ?_⟩
    simp only [evE, Option.some.injEq, PyData.bool.injEq] at ev
    subst ev
    exact k H (Ext.refl H)
  · exact pts_one (S C X _ l T h)
  · cases h
theorem cComp_ok {rN : Rec} (S : Sound CA G rE) (ST : SoundT CA G rT) (SN : Sound CA G rN) (T : Fit CA G C X) {elt tg iter : Expr} {ifs : List Expr} {scope : Scope} {l : L} (h : cComp rE rT rN C elt tg iter ifs scope = some l) : PE X (.ListComp elt [⟨tg, iter, ifs, 0⟩] scope pos) (tD CA (okF G) l) := by
  unfold cComp at h
  rw [Option.bind_eq_some_iff] at h
  obtain ⟨xs, hxs, h⟩ := h
  rw [Option.bind_eq_some_iff] at h
  obtain ⟨g, hg, h⟩ := h
  rw [Option.ite_none_right_eq_some] at h
  obtain ⟨hb, h⟩ := h
  rw [Option.bind_eq_some_iff] at h
  obtain ⟨kl, hkl, h⟩ := h
  rw [Option.bind_eq_some_iff] at h
  obtain ⟨lt, hlt, h⟩ := h
  rw [Option.map_eq_some_iff] at h
  obtain ⟨le, hle, rfl⟩ := h
  simp only [Bool.and_eq_true, List.all_eq_true, List.contains_iff_mem] at hb
  obtain ⟨q1, q2⟩ := cSrc_ok S T hkl
  have h5 : good le = true := by
    unfold cG at hle
    rw [Option.map_eq_some_iff] at hle
    obtain ⟨l', _, rfl⟩ := hle
    unfold toG
    split
    · assumption
    · rfl
  exact PE.imp (pe_lc (own := ownOf xs g) (g := gT X.K g) (tt := tT CA (okF G) lt) (te := tD CA (okF G) le) T.calm (by rw [T.n]; exact T.nd) q1 (blkOk_by (by rw [T.n, T.sc]; exact hb.1)) (fun s H a cl fp => cTg_ok (T.blk scope s H a cl fp) hg) (fun s H a cl fp => cIfs_ok ST (T.blk scope s H a cl fp) hlt)
    (fun s H a cl fp => (cG_ok SN (T.blk scope s H a cl fp) hle).1) fun x => noFold q2 x) fun σ H Q hh => comp_imp hb.2 h5 hh
/-! built-ins -/
theorem cl_bi {f : Str} {id : String} {b : Bi} {e : Expr} {es : List Expr} {l : L} (T : Fit CA G C X) (hf : freeN C f = true) (hb : f ∈ bnames) (hv : bootBuiltins f = some (.builtin id)) (hr : CallR X (.builtin id) (rBi CA b)) (pa : PA X (e :: es) (tA CA (okF G) l)) (st : ∀ x ∈ e :: es, isStar x = false) :
    PE X (.Call (.Name f p0) (e :: es) [] pos) (tD CA (okF G) (.bi b l)) := by
  obtain ⟨d, n, g⟩ := freeN_ok T hf
  exact PE.imp (pe_callB hr g (T.bl f hb) hv pa n d (star1 (st e List.mem_cons_self)) (noStar fun x hx => st x (List.mem_cons_of_mem _ hx))) fun σ H Q h => imp_bi h
theorem cl_ty {f : Str} {id : String} {b : Bi} {e : Expr} {es : List Expr} {l : L} (T : Fit CA G C X) (hf : freeN C f = true) (hb : f ∈ bnames) (hv : bootBuiltins f = some (.type id)) (hr : CallR X (.type id) (rBi CA b)) (pa : PA X (e :: es) (tA CA (okF G) l)) (st : ∀ x ∈ e :: es, isStar x = false) :
    PE X (.Call (.Name f p0) (e :: es) [] pos) (tD CA (okF G) (.bi b l)) := by
  obtain ⟨d, n, g⟩ := freeN_ok T hf
  exact PE.imp (pe_callTy hr g (T.bl f hb) hv pa n d (star1 (st e List.mem_cons_self)) (noStar fun x hx => st x (List.mem_cons_of_mem _ hx))) fun σ H Q h => imp_bi h
theorem biOne_ok (T : Fit CA G C X) {f : Str} {b : Bi} {e : Expr} {l : L} (hf : freeN C f = true) (h : biOne f = some b) (pa : PA X [e] (tA CA (okF G) l)) (st : ∀ x ∈ [e], isStar x = false) : PE X (.Call (.Name f p0) [e] [] pos) (tD CA (okF G) (.bi b l)) := by
  unfold biOne at h
  split at h
  · rename_i q; subst q; cases h
    exact cl_bi T hf (by decide) (by decide +kernel) (bi_sum T.calm) pa st
  split at h
  · rename_i q; subst q; cases h
    exact cl_bi T hf (by decide) (by decide +kernel) bi_sorted pa st
  split at h
  · rename_i q; subst q; cases h
    exact cl_bi T hf (by decide) (by decide +kernel) (bi_maxL T.calm) pa st
  split at h
  · rename_i q; subst q; cases h
    exact cl_bi T hf (by decide) (by decide +kernel) (bi_minL T.calm) pa st
  split at h
  · rename_i q; subst q; cases h
    exact cl_bi T hf (by decide) (by decide +kernel) bi_abs pa st
  split at h
  · rename_i q; subst q; cases h
    exact cl_ty T hf (by decide) (by decide +kernel) bi_int1 pa st
  split at h
  · rename_i q; subst q; cases h
    exact cl_bi T hf (by decide) (by decide +kernel) (bi_all T.calm) pa st
  split at h
  · rename_i q; subst q; cases h
    exact cl_bi T hf (by decide) (by decide +kernel) (bi_any T.calm) pa st
  split at h
  · rename_i q; subst q; cases h
    exact cl_bi T hf (by decide) (by decide +kernel) bi_len pa st
  · cases h
theorem rgV_rep {H : Hp} {a b : Int} : RpAll CA H (rangeD a (b - a).toNat) (rgV a b) := by
  have e : rangeD a (b - a).toNat = ((List.range (b - a).toNat).map fun (i : Nat) => a + (i : Int)).map PyData.int := by
    unfold rangeD
    rw [List.map_map]
    rfl
  have e2 : rgV a b = ((List.range (b - a).toNat).map fun (i : Nat) => a + (i : Int)).map V.int := by
    unfold rgV
    rw [List.map_map]
    rfl
  rw [e, e2]
  exact RpAll.ints.mpr rfl
theorem flat_range (a : Int) (n : Nat) : flatAll (rangeD a n) 0 = true := by
  have e : rangeD a n = ((List.range n).map fun (i : Nat) => a + (i : Int)).map PyData.int := by
    unfold rangeD
    rw [List.map_map]
    rfl
  rw [e]
  exact flat_ints _
theorem prg_of (S : Sound CA G rE) (T : Fit CA G C X) {r : Str} {args : List Expr} {l : L} (hf : freeN C r = true) (hr : r = "range") (hl : cA rE C args = some l) {p1 p2 : Pos} (hlen : args.length == 1 || args.length == 2) :
    ∃ t, PRg X (.Call (.Name r p1) args [] p2) t ∧ ∀ σ H (Q : VK), tD CA (okF G) (.bi (if args.length == 1 then .rng1 else .rng2) l) σ H Q → tLstRg t σ H Q := by
  obtain ⟨d, n, g⟩ := freeN_ok T hf
  subst hr
  have hm := T.bl "range" (by decide)
  match args, hlen, hl with
  | [a], _, hl =>
    unfold cA at hl
    rw [Option.bind_eq_some_iff] at hl
    obtain ⟨la, h1, h2⟩ := hl
    rw [Option.map_eq_some_iff] at h2
    obtain ⟨ls, h3, rfl⟩ := h2
    cases h3
    obtain ⟨pa, st⟩ := S C X a la T h1
    refine ⟨_, prg_1 g hm pa (star1 st), fun σ H Q ⟨O, ρ, dd, E, ev, k⟩ => ?_⟩
    simp only [evE, Option.bind_eq_some_iff, Option.map_eq_some_iff, unT_some, PyData.tuple.injEq, Option.some.injEq] at ev
    obtain ⟨xs, ⟨x, ex, ys, rfl, rfl⟩, eb⟩ := ev
    cases x <;> simp only [biF, reduceCtorEq, List.length_cons, List.length_nil, Nat.zero_add, beq_self_eq_true, if_true, Option.ite_none_right_eq_some, Option.some.injEq] at eb
    obtain ⟨hc, rfl⟩ := eb
    simp only [Bool.and_eq_true, lim63, lim, decide_eq_true_eq] at hc
    refine ⟨O, ρ, _, E, ex, fun v H1 e1 r1 => ⟨_, r1.int E.sub, ⟨by omega, by omega, hc.1.1, hc.1.2, by omega⟩, fun q hq => k _ _ (e1.trans (Ext.new hq)) ((VR.good rfl).mpr (NewQ.back e1 ?_))⟩⟩
    have q0 : ∀ b : Int, NewQ CA O H1 (upd H1 q (.lst (rgV 0 b))) 9 (.list (rangeD 0 b.toNat)) (.ref q) := fun b => by
      have := new_flats (CA := CA) (E.sub.ext e1) hq (flat_range 0 (b - 0).toNat) (rgV_rep (CA := CA) (H := off O H1) (a := 0) (b := b)) 9
      rw [Int.sub_zero] at this
      exact this
    exact q0 _
  | [a, b], _, hl =>
    unfold cA at hl
    rw [Option.bind_eq_some_iff] at hl
    obtain ⟨la, h1, h2⟩ := hl
    rw [Option.map_eq_some_iff] at h2
    obtain ⟨ls, h3, rfl⟩ := h2
    unfold cA at h3
    rw [Option.bind_eq_some_iff] at h3
    obtain ⟨lb, h6, h7⟩ := h3
    rw [Option.map_eq_some_iff] at h7
    obtain ⟨ls', h8, rfl⟩ := h7
    cases h8
    obtain ⟨pa, st⟩ := S C X a la T h1
    obtain ⟨pb, stb⟩ := S C X b lb T h6
    refine ⟨_, prg_2 g hm pa pb (star1 st) (star1 stb) (noStar fun x hx => by rw [List.mem_singleton.mp hx]; exact stb), fun σ H Q ⟨O, ρ, dd, E, ev, k⟩ => ?_⟩
    simp only [evE, Option.bind_eq_some_iff, Option.map_eq_some_iff, unT_some, PyData.tuple.injEq, Option.some.injEq] at ev
    obtain ⟨xs, ⟨x, ex, ys, ⟨y, ey, zs, rfl, rfl⟩, rfl⟩, eb⟩ := ev
    cases x <;> cases y <;> simp only [biF, reduceCtorEq, List.length_cons, List.length_nil, Nat.zero_add, Nat.reduceAdd, Nat.reduceBEq, Bool.false_eq_true, if_false, Option.ite_none_right_eq_some, Option.some.injEq] at eb
    obtain ⟨hc, rfl⟩ := eb
    simp only [Bool.and_eq_true, lim63, lim, decide_eq_true_eq] at hc
    refine ⟨O, ρ, _, E, ex, fun v H1 e1 r1 => ⟨O, ρ, _, E.ext e1, ey, fun w H2 e2 r2 => ⟨_, _, r1.int E.sub, r2.int (E.sub.ext e1), ⟨hc.1.1.1, hc.1.1.2, hc.1.2.1, hc.1.2.2, by omega⟩, fun q hq => k _ _ ((e1.trans e2).trans (Ext.new hq)) ((VR.good rfl).mpr (NewQ.back (e1.trans e2) ?_))⟩⟩⟩
    exact new_flats (CA := CA) (E.sub.ext (e1.trans e2)) hq (flat_range _ _) rgV_rep 9
theorem tyOf_ok {t : Str} {T' : Ty} (h : tyOf t = some T') : t ∈ bnames ∧ bootBuiltins t = some (.type (tyName T')) ∧ t ≠ "__name__" := by
  unfold tyOf at h
  split at h
  · rename_i q; subst q; cases h; exact ⟨by decide, by decide +kernel, by decide⟩
  split at h
  · rename_i q; subst q; cases h; exact ⟨by decide, by decide +kernel, by decide⟩
  split at h
  · rename_i q; subst q; cases h; exact ⟨by decide, by decide +kernel, by decide⟩
  split at h
  · rename_i q; subst q; cases h; exact ⟨by decide, by decide +kernel, by decide⟩
  split at h
  · rename_i q; subst q; cases h; exact ⟨by decide, by decide +kernel, by decide⟩
  · cases h
theorem snd_isi (T : Fit CA G C X) {f t : Str} {T' : Ty} {a : Expr} {la : L} {p1 : Pos} (hf : freeN C f = true) (hi : f = "isinstance") (ht : freeN C t = true) (hT : tyOf t = some T') (pa : PE X a (tD CA (okF G) la)) (st : isStar a = false) :
    PE X (.Call (.Name f p0) [a, .Name t p1] [] pos) (tD CA (okF G) (.bi (.isi T') (.acons la .anil))) := by
  subst hi
  obtain ⟨d, n, g⟩ := freeN_ok T hf
  obtain ⟨d2, n2, g2⟩ := freeN_ok T ht
  obtain ⟨tb, tv, _⟩ := tyOf_ok hT
  have pt : PE X (.Name t p1) (tC (.ty (tyName T'))) := pe_bltn g2 (T.bl t tb) tv rfl n2 d2
  refine PE.imp (pe_callB (bi_isi (CA := CA) T') g (T.bl _ (by decide)) (by decide +kernel) (pa_cons pa (pa_cons pt pa_nil rfl) (star1 st)) n d (star1 st) (noStar fun x hx => by rw [List.mem_singleton.mp hx]; rfl)) fun σ H Q ⟨O, ρ, dd, E, ev, k⟩ => ?_
  simp only [evE, Option.bind_eq_some_iff, Option.map_eq_some_iff, unT_some, PyData.tuple.injEq, Option.some.injEq] at ev
  obtain ⟨xs, ⟨x, ex, ys, rfl, rfl⟩, eb⟩ := ev
  simp only [biF, Option.map_eq_some_iff] at eb
  obtain ⟨b, eb, rfl⟩ := eb
  exact ⟨O, ρ, x, E, ex, fun v H1 e1 r1 => ⟨x, v, b, rfl, r1.rp E.sub, eb, k _ H1 e1 (.flat (H'' := H) rfl (rp_bool.mpr rfl) rfl rfl)⟩⟩
theorem attrBase {o : Expr} {f : Str} {env : Env} (h : isAttrBase o = false) : attributeBase o f env (eval o env) = eval o env := by
  unfold attributeBase
  split
  · simp [isAttrBase] at h
  · rfl
theorem rp_dict {H : Hp} {kvs : List (D × D)} {v : V} : Rp CA H (.dict kvs) v ↔ ∃ a C dx fs, v = .ref a ∧ H a = some (.ins C dx fs) ∧ RpIns CA H kvs C fs := by simp only [Rp]
theorem rpFs_get {H : Hp} {f : Str} : ∀ {r : List (D × D)} {fs : List (Str × V)} {d : D}, RpFs CA H r fs → fldGet r f = some d → ∃ u, fs.lookup f = some u ∧ Rp CA H d u
  | [], _, _, _, e => by simp [fldGet] at e
  | (n, c) :: r, fs, d, h, e => by
    simp only [RpFs] at h
    obtain ⟨y, v, fs', rfl, rfl, h3, h4⟩ := h
    unfold fldGet at e
    simp only at e
    by_cases z : y = f
    · rw [if_pos z] at e
      cases e
      subst z
      exact ⟨v, by simp [List.lookup], h3⟩
    · rw [if_neg z] at e
      have e2 : (f == y) = false := beq_eq_false_iff_ne.mpr fun w => z w.symm
      obtain ⟨u, q1, q2⟩ := rpFs_get h4 e
      exact ⟨u, by rw [List.lookup_cons, e2]; exact q1, q2⟩
theorem rpFs_none {H : Hp} {f : Str} : ∀ {r : List (D × D)} {fs : List (Str × V)}, RpFs CA H r fs → fldGet r f = none → fs.lookup f = none
  | [], fs, h, _ => by
    simp only [RpFs] at h
    rw [h]
    rfl
  | (n, c) :: r, fs, h, e => by
    simp only [RpFs] at h
    obtain ⟨y, v, fs', rfl, rfl, h3, h4⟩ := h
    unfold fldGet at e
    simp only at e
    by_cases z : y = f
    · rw [if_pos z] at e
      cases e
    · rw [if_neg z] at e
      have e2 : (f == y) = false := beq_eq_false_iff_ne.mpr fun w => z w.symm
      rw [List.lookup_cons, e2]
      exact rpFs_none h4 e
theorem snd_fld {a : Expr} {la : L} {f : Str} (T : Fit CA G C X) (hf : f ∈ C.fl) (pa : PE X a (tD CA (okF G) la)) (hb : isAttrBase a = false) : PE X (.Attribute a f pos) (tD CA (okF G) (.fld la f)) := by
  refine PE.imp (pe_fld pa (attrBase hb)) fun σ H Q ⟨O, ρ, d, E, ev, k⟩ => ?_
  simp only [evE, Option.bind_eq_some_iff] at ev
  obtain ⟨x, ex, ef⟩ := ev
  refine ⟨O, ρ, x, E, ex, fun v H1 e1 r1 => ?_⟩
  unfold fldF at ef
  split at ef
  · rename_i kc r
    obtain ⟨B, b1, b2, b3⟩ := VR.part (l := la) (l' := .fld la f) (H2 := H1) E.sub (Ext.refl _) rfl rfl rfl rfl r1
    obtain ⟨p, D, dx, fs, rfl, q1, q2⟩ := rp_dict.mp b2
    obtain ⟨kk, kd⟩ := kc
    simp only [RpIns] at q2
    obtain ⟨⟨c, rfl, hc⟩, q2⟩ := q2
    obtain ⟨u, u1, u2⟩ := rpFs_get q2 ef
    exact ⟨p, D, dx, fs, u, rfl, b1 _ _ q1, T.cf.cl c D hc, T.cf.na c D f hc hf, u1, k u H1 e1 (b3 d u u2)⟩
  · cases ef
theorem cls_dict {s : D} {c : Str} (h : clsOf s = some c) : ∃ d r, s = .dict ((.str c, d) :: r) := by
  unfold clsOf at h
  split at h
  · cases h
    exact ⟨_, _, rfl⟩
  · cases h
theorem meth_ev {b : Bool} {m : Str} {tab : List (Str × Nat)} {k : Nat} {lo la : L} {ρ : List Sl} {d : D} (ev : evE (okF G) (.meth b m tab k lo la) ρ = some d) : ∃ s0 c f xs, evE (okF G) lo ρ = some s0 ∧ clsOf s0 = some c ∧ tab.lookup c = some f ∧ fldF s0 m = none ∧ evE (okF G) la ρ = some (.tuple xs) ∧ okF G f (s0 :: xs) = some d ∧ (!b || flatAt d k) = true := by
  simp only [evE, Option.bind_eq_some_iff] at ev
  obtain ⟨s0, h1, c, h2, f, h3, ev⟩ := ev
  split at ev
  · cases ev
  · rename_i h4
    simp only [Option.bind_eq_some_iff, unT_some, Option.ite_none_right_eq_some, Option.some.injEq] at ev
    obtain ⟨xs, h5, d', h6, h7, rfl⟩ := ev
    exact ⟨s0, c, f, xs, h1, h2, h3, by simpa using h4, h5, h6, h7⟩
theorem meth_fin {b : Bool} {m : Str} {k kn n f : Nat} {lo la : L} {O : Addr → Bool} {H H1 H2 : Hp} {σ : St} {ρ : List Sl} {s0 d : D} {xs : List D} {v : V} {vs : List V} {Q : VK} {Ex : XK} {tab : List (Str × Nat)} (E : EnvR CA O H σ ρ) (gb : b = false → good lo = true ∧ goodA la = true) (e1 : Ext H H1) (e2 : Ext H1 H2) (r1 : VR CA O H H1 lo s0 v) (r2 : AL CA O H1 H2 la xs vs)
    (ec : okF G f (s0 :: xs) = some d) (hbf : (!b || flatAt d k) = true) (hl : ∀ ds r, G f ds = some r → ds.length = n) (hkk : k ≤ kn) (kq : ∀ v H', Ext H H' → VR CA O H H' (.meth b m tab k lo la) d v → Q v H') : spD CA n (G f) kn (v :: vs) H2 Q Ex := by
  obtain ⟨s', eg⟩ := okF_some ec
  refine call_sp (b := b) E.sub (e1.trans e2) hkk (hl _ _ eg) (fun z => ?_) ?_ eg hbf fun w H3 e3 r3 => kq w H3 ((e1.trans e2).trans e3) ((VR.good rfl).mpr r3)
  · obtain ⟨g1, g2⟩ := gb z
    exact .cons (Rp.mono e2.off _ _ (((VR.good g1).mp r1).rp E.sub)) (r2.good (E.sub.ext e1) g2)
  · exact .cons (Rp.mono e2 _ _ (r1.rp E.sub)) (r2.rp (E.sub.ext e1))
theorem eval_meth {o : Expr} {m : Str} {ap cp : Pos} {args : List Expr} {env : Env} (hb : isAttrBase o = false) (hs : (backTo cp (starEach args env)).any (·.1) = false) (hl : args.length < 30) (hline : (ap.endLine == cp.line) = true) :
    eval (.Call (.Attribute o m ap) args [] cp) env = (do
      let ov ← eval o env
      standAt ap.atName
      let (f, first) ← holding [ov] (getMethod ov m (do return (← importBound o env).getD true))
      callWith cp f first (backTo cp (starEach args env)) (backToKw cp (keywordEach [] env))) := by
  have hform : methodCallForm (args.length + ([] : List Keyword).length) (backTo cp (starEach args env)) (backToKw cp (keywordEach [] env)) = true := by
    have h1 : (backTo cp (starEach args env)).all (fun x => !x.1) = true := by
      rw [List.any_eq_false] at hs
      exact List.all_eq_true.mpr fun x hx => by simpa using hs x hx
    unfold methodCallForm
    rw [h1]
    show (true && true && decide (args.length + 0 + 0 < 30)) = true
    rw [decide_eq_true (by omega)]
    rfl
  rw [arm_eval_Call, attrBase hb]
  unfold methodCall calleeOf methodCallPos
  simp only [hform, hline, if_true, Bool.not_true, Bool.or_true, pure_bind]
theorem snd_meth {b : Bool} {m : Str} {tab : List (Str × Nat)} {k : Nat} {o e : Expr} {es : List Expr} {lo la : L} {ap cp : Pos} (hM : ∀ c f, tab.lookup c = some f → MethOk CA G X c m f k) (po : PE X o (tD CA (okF G) lo)) (gb : b = false → good lo = true ∧ goodA la = true) (pa : PA X (e :: es) (tA CA (okF G) la))
    (he : starEach (e :: es) X.env = (false, eval e X.env) :: starEach es X.env) (hpl : (backTo cp (starEach es X.env)).any (·.1) = false) (hb : isAttrBase o = false) (h30 : (e :: es).length < 30) (hln : (ap.endLine == cp.line) = true) : PE X (.Call (.Attribute o m ap) (e :: es) [] cp) (tD CA (okF G) (.meth b m tab k lo la)) := by
  refine ⟨fun pins s σ H Q I ⟨O, ρ, d, E, ev, kq⟩ => ?_⟩
  obtain ⟨s0, c, f, xs, es0, hc, hf, hno, exs, ec, hbf⟩ := meth_ev ev
  cases hM c f hf with
  | mk C a fd ps j n kn hC cl me Fn hr hb' hl hkk =>
    refine (pe_meth (E := E0) po cl me Fn hr hb' .nil passL pa he hpl (eval_meth hb (by rw [he]; exact hpl) h30 hln)).run pins s σ H Q I ?_
    refine ⟨O, ρ, s0, E, es0, fun v H1 e1 r1 => ?_⟩
    obtain ⟨d0, r, rfl⟩ := cls_dict hc
    obtain ⟨p, D, dx, fs, rfl, q1, q2⟩ := rp_dict.mp (r1.rp E.sub)
    simp only [RpIns] at q2
    obtain ⟨⟨c', hcc, hc'⟩, q2⟩ := q2
    cases hcc
    rw [hC] at hc'
    cases hc'
    refine ⟨p, dx, fs, rfl, q1, rpFs_none q2 hno, O, ρ, xs, E.ext e1, exs, fun vs H2 e2 al => ?_⟩
    show spD CA n (G f) kn (.ref p :: (vs ++ [])) H2 Q E0
    rw [List.append_nil]
    exact meth_fin (tab := tab) (m := m) E gb e1 e2 r1 al ec hbf hl hkk kq
theorem snd_meth0 {b : Bool} {m : Str} {tab : List (Str × Nat)} {k : Nat} {o : Expr} {lo : L} {ap cp : Pos} (hM : ∀ c f, tab.lookup c = some f → MethOk CA G X c m f k) (po : PE X o (tD CA (okF G) lo)) (gb : b = false → good lo = true) (hb : isAttrBase o = false) (hln : (ap.endLine == cp.line) = true) : PE X (.Call (.Attribute o m ap) [] [] cp) (tD CA (okF G) (.meth b m tab k lo .anil)) := by
  refine ⟨fun pins s σ H Q I ⟨O, ρ, d, E, ev, kq⟩ => ?_⟩
  obtain ⟨s0, c, f, xs, es0, hc, hf, hno, exs, ec, hbf⟩ := meth_ev ev
  cases exs
  cases hM c f hf with
  | mk C a fd ps j n kn hC cl me Fn hr hb' hl hkk =>
    refine (pe_meth0 (E := E0) po cl me Fn hr hb' .nil passL (eval_meth (args := []) hb rfl (by decide) hln)).run pins s σ H Q I ?_
    refine ⟨O, ρ, s0, E, es0, fun v H1 e1 r1 => ?_⟩
    obtain ⟨d0, r, rfl⟩ := cls_dict hc
    obtain ⟨p, D, dx, fs, rfl, q1, q2⟩ := rp_dict.mp (r1.rp E.sub)
    simp only [RpIns] at q2
    obtain ⟨⟨c', hcc, hc'⟩, q2⟩ := q2
    cases hcc
    rw [hC] at hc'
    cases hc'
    refine ⟨p, dx, fs, rfl, q1, rpFs_none q2 hno, ?_⟩
    show spD CA n (G f) kn (.ref p :: ([] ++ [])) H1 Q E0
    exact meth_fin (tab := tab) (m := m) (la := .anil) (H2 := H1) E (fun z => ⟨gb z, rfl⟩) e1 (Ext.refl _) r1 ⟨rfl, rfl, Ext.refl _⟩ ec hbf hl hkk kq
theorem snd_isC (T : Fit CA G C X) {f t : Str} {cs : List Str} {a : Expr} {la : L} {p1 : Pos} (hf : freeN C f = true) (hi : f = "isinstance") (ht : C.cl.lookup t = some cs) (hp : plainN t = true) (hg2 : glb C.sc t = true) (pa : PE X a (tD CA (okF G) la)) (st : isStar a = false) :
    PE X (.Call (.Name f p0) [a, .Name t p1] [] pos) (tD CA (okF G) (.isC la cs)) := by
  subst hi
  obtain ⟨d, n, g⟩ := freeN_ok T hf
  obtain ⟨D, hD, hk⟩ := T.cl t cs ht
  have pt : PE X (.Name t p1) (tC (.ref D)) := pe_glob (glb_ok T hg2) hD rfl (plainN_ok hp).1
  refine PE.imp (pe_callB call_isi g (T.bl _ (by decide)) (by decide +kernel) (pa_cons pa (pa_cons pt pa_nil rfl) (star1 st)) n d (star1 st) (noStar fun x hx => by rw [List.mem_singleton.mp hx]; rfl)) fun σ H Q ⟨O, ρ, dd, E, ev, k⟩ => ?_
  simp only [evE, Option.bind_eq_some_iff, Option.map_eq_some_iff] at ev
  obtain ⟨x, ex, c, hc, rfl⟩ := ev
  refine ⟨O, ρ, x, E, ex, fun v H1 e1 r1 => ?_⟩
  obtain ⟨d0, r, rfl⟩ := cls_dict hc
  obtain ⟨p, C', dx, fs, rfl, q1, q2⟩ := rp_dict.mp (r1.rp E.sub)
  simp only [RpIns] at q2
  obtain ⟨⟨c', hcc, hc'⟩, q2⟩ := q2
  cases hcc
  obtain ⟨F, hkk⟩ := hk c C' hc'
  exact ⟨.ref p, .ref D, .ref C', .ref D, cs.contains c, rfl, .own D, .base (.ins q1 F.cl F.ha F.hn F.htk F.hm), hkk, k _ H1 e1 (.flat (H'' := H) rfl (rp_bool.mpr rfl) rfl rfl)⟩
theorem cBi_ok (S : Sound CA G rE) (T : Fit CA G C X) {f : Str} {args : List Expr} {kws : List Keyword} {l : L} (h : cBi rE C f args kws = some l) : PE X (.Call (.Name f p0) args kws pos) (tD CA (okF G) l) := by
  unfold cBi at h
  rw [Option.ite_none_right_eq_some] at h
  obtain ⟨hf, h⟩ := h
  obtain ⟨d, n, g⟩ := freeN_ok T hf
  split at h
  · split at h
    · rename_i hc
      simp only [Bool.and_eq_true, decide_eq_true_eq] at hc
      rw [Option.bind_eq_some_iff] at h
      obtain ⟨as, has, h⟩ := h
      rw [Option.map_eq_some_iff] at h
      obtain ⟨la, hla, rfl⟩ := h
      unfold isRange at has
      split at has
      · rename_i r p1 as' kws' p2
        rw [Option.ite_none_right_eq_some] at has
        obtain ⟨q, has⟩ := has
        cases has
        simp only [Bool.and_eq_true, decide_eq_true_eq] at q
        obtain ⟨⟨⟨w1, w2⟩, w3⟩, w4⟩ := q
        obtain rfl := isEmpty_ok w3
        obtain ⟨t, pr, im⟩ := prg_of S T (p1 := p1) (p2 := p2) w1 w2 hla w4
        obtain ⟨e0, _⟩ := hc
        subst e0
        exact PE.imp (pe_listRg T.calm g (T.bl _ (by decide)) pr rfl) im
      · cases has
    split at h
    · rename_i hc
      simp only [decide_eq_true_eq] at hc
      split at h
      · rename_i a hn1
        rw [Option.map_eq_some_iff] at h
        obtain ⟨la, hla, rfl⟩ := h
        obtain ⟨pa, gla, st⟩ := cO_ok S T hla
        subst hc
        exact PE.imp (pe_callTy (bi_list1 (CA := CA)) g (T.bl _ (by decide)) (by decide +kernel) (sna_cons pa sna_nil (star1 st)) n d (star1 st) rfl) fun σ H Q h => imp_list1 gla h
      · cases h
    split at h
    · rename_i hc
      simp only [decide_eq_true_eq] at hc
      split at h
      · rename_i a t p1 hn1
        split at h
        · rename_i cs hcl
          rw [Option.ite_none_right_eq_some] at h
          obtain ⟨ht, h⟩ := h
          rw [Option.map_eq_some_iff] at h
          obtain ⟨la, hla, rfl⟩ := h
          rw [Bool.and_eq_true] at ht
          obtain ⟨pa, st⟩ := S C X a la T hla
          exact snd_isC T hf hc hcl ht.1 ht.2 pa st
        · rw [Option.ite_none_right_eq_some] at h
          obtain ⟨ht, h⟩ := h
          rw [Option.bind_eq_some_iff] at h
          obtain ⟨T', hT, h⟩ := h
          rw [Option.map_eq_some_iff] at h
          obtain ⟨la, hla, rfl⟩ := h
          obtain ⟨pa, st⟩ := S C X a la T hla
          exact snd_isi T hf hc ht hT pa st
      · cases h
    split at h
    · rename_i hc
      simp only [Bool.and_eq_true, decide_eq_true_eq] at hc
      rw [Option.map_eq_some_iff] at h
      obtain ⟨la, hla, rfl⟩ := h
      obtain ⟨a, b, rfl⟩ := len2 hc.2
      obtain ⟨pa, st⟩ := cA_ok S T hla
      obtain ⟨e0, _⟩ := hc
      subst e0
      exact cl_bi T hf (by decide) (by decide +kernel) (bi_max2 T.calm) pa st
    · rw [Option.ite_none_right_eq_some] at h
      obtain ⟨hc, h⟩ := h
      rw [Option.bind_eq_some_iff] at h
      obtain ⟨b, hb, h⟩ := h
      rw [Option.map_eq_some_iff] at h
      obtain ⟨la, hla, rfl⟩ := h
      obtain ⟨a, rfl⟩ := len1 hc
      obtain ⟨pa, st⟩ := cA_ok S T hla
      exact biOne_ok T hf hb pa st
  · rename_i k k1 p1 p2
    rw [Option.ite_none_right_eq_some] at h
    obtain ⟨hc, h⟩ := h
    rw [Option.map_eq_some_iff] at h
    obtain ⟨la, hla, rfl⟩ := h
    simp only [Bool.and_eq_true, decide_eq_true_eq] at hc
    obtain ⟨⟨e1, e2⟩, e3⟩ := hc
    obtain ⟨a, rfl⟩ := len1 e3
    obtain ⟨pa, st⟩ := cA_ok S T hla
    subst e1 e2
    refine PE.imp (pe_callBK (bi_sortedR (CA := CA)) g (T.bl _ (by decide)) (by decide +kernel) pa (pk_cons pe_bl pk_nil) n d ?_ (noStar st) rfl rfl rfl) fun σ H Q h => ?_
    · rw [star1 (st a List.mem_cons_self)]
      rfl
    · obtain ⟨O, ρ, dd, E, ev, k⟩ := h
      simp only [evE, Option.bind_eq_some_iff, unT_some] at ev
      obtain ⟨xs, exs, eo⟩ := ev
      exact ⟨O, ρ, xs, E, exs, fun vs H1 e1 r1 => ⟨rfl, O, xs, dd, E.sub.ext e1, r1.rp E.sub, eo, fun z H2 e2 r2 => k z H2 (e1.trans e2) ((VR.good rfl).mpr (r2.back e1))⟩⟩
  · cases h
theorem cCall_ok (S : Sound CA G rE) (T : Fit CA G C X) {f : Str} {args : List Expr} {kws : List Keyword} {l : L} (h : cCall rE C f args kws = some l) : PE X (.Call (.Name f p0) args kws pos) (tD CA (okF G) l) := by
  unfold cCall at h
  split at h
  · rename_i k hk
    rw [Option.ite_none_right_eq_some] at h
    obtain ⟨hc, h⟩ := h
    rw [Option.map_eq_some_iff] at h
    obtain ⟨la, hla, rfl⟩ := h
    simp only [Bool.and_eq_true] at hc
    obtain ⟨⟨q1, q2⟩, q3⟩ := hc
    obtain rfl := isEmpty_ok q3
    obtain ⟨r1, r2, r3⟩ := plainN_ok q1
    obtain ⟨pa, st⟩ := cA_ok S T hla
    cases args with
    | nil =>
      cases hla
      exact snd_call0 (T.fn f k hk) (glb_ok T q2) r1
    | cons a as => exact snd_call (T.fn f k hk) (glb_ok T q2) r1 (fun z => by simpa using z) pa (star1 (st a List.mem_cons_self)) (noStar fun x hx => st x (List.mem_cons_of_mem _ hx))
  · exact cBi_ok S T h
theorem tyL {H : Hp} {ds : List D} {v : V} (h : Rp CA H (.list ds) v) : tyV X.K "list" v H := by
  obtain ⟨a, xs, rfl, r, _⟩ := rp_list.mp h
  exact .inl ⟨rfl, xs, .inl r⟩
theorem snd_index {o a : Expr} {lo la : L} {ap cp : Pos} (po : PE X o (tD CA (okF G) lo)) (pa : PE X a (tD CA (okF G) la)) (st : isStar a = false) (hb : isAttrBase o = false) (hl : (ap.endLine == cp.line) = true) : PE X (.Call (.Attribute o "index" ap) [a] [] cp) (tD CA (okF G) (.bi .index (.acons lo (.acons la .anil)))) := by
  have hst := star1 (es := []) (env := X.env) st
  refine PE.imp (pe_bm PySem.F.plainAttrs_list PySem.F.slot_list_index PySem.F.type_list_index mt_index po (sna_cons pa sna_nil hst) (attrBase hb) (by rw [hst]; rfl) hl hst (by rfl)) fun σ H Q ⟨O, ρ, dd, E, ev, k⟩ => ?_
  simp only [evE, Option.bind_eq_some_iff, Option.map_eq_some_iff, unT_some, PyData.tuple.injEq, Option.some.injEq] at ev
  obtain ⟨xs, ⟨x, ex, ys, ⟨y, ey, zs, rfl, rfl⟩, rfl⟩, eb⟩ := ev
  cases x <;> cases y <;> simp only [biF, reduceCtorEq, Option.bind_eq_some_iff, Option.map_eq_some_iff] at eb
  rename_i ds i
  obtain ⟨ns, hns, j, hj, rfl⟩ := eb
  obtain rfl := intsOf_is hns
  obtain ⟨i1, i2⟩ := idx_int hj
  refine ⟨O, ρ, _, E, ex, fun v H1 e1 r1 => ?_⟩
  obtain ⟨a0, rfl, hR⟩ := lst_ints (r1.rp E.sub) hns
  refine ⟨tyL (r1.rp E.sub), O, ρ, [.int i], E.ext e1, by rw [evE, ey]; rfl, fun vs H2 e2 al => ?_⟩
  obtain ⟨dy, vy, hd, rfl, ry⟩ := al.one (E.sub.ext e1)
  cases hd
  have hv := ry.int (E.sub.ext e1)
  subst hv
  refine ⟨a0, ns.map V.int, .int i, j, .int i, rfl, rfl, .inl (e2.rd hR), rfl, ?_, by rw [List.getElem?_map, i1]; rfl, by simp [eqV], fun m z' hm hz => ?_, k _ H2 (e1.trans e2) (.flat (H'' := H) rfl (rp_int.mpr rfl) rfl rfl)⟩
  · rw [List.all_map]
    exact List.all_eq_true.mpr fun _ _ => rfl
  · rw [List.getElem?_map, Option.map_eq_some_iff] at hz
    obtain ⟨n, hn, rfl⟩ := hz
    have := i2 m hm
    rw [hn] at this
    simp only [eqV, beq_eq_false_iff_ne, ne_eq]
    intro z
    exact this (by rw [z])
theorem stepE_ok (S : Sound CA G rE) (ST : SoundT CA G rT) : Sound CA G (stepE rE rT) := by
  intro C X e l T h
  unfold stepE at h
  split at h
  · exact ⟨cName_ok T h, rfl⟩
  · exact ⟨cConst_ok h, rfl⟩
  · rw [Option.bind_eq_some_iff] at h
    obtain ⟨o, ho, h⟩ := h
    rw [Option.bind_eq_some_iff] at h
    obtain ⟨la, ha, h⟩ := h
    rw [Option.map_eq_some_iff] at h
    obtain ⟨lb, hb, rfl⟩ := h
    rw [← opPy_bOf ho]
    obtain ⟨pa, ga, _⟩ := cO_ok S T ha
    obtain ⟨pb, gb, _⟩ := cO_ok S T hb
    exact ⟨snd_bin ga gb pa pb, rfl⟩
  · rw [Option.map_eq_some_iff] at h
    obtain ⟨la, ha, rfl⟩ := h
    exact ⟨snd_not (S _ _ _ _ T ha).1, rfl⟩
  · rw [Option.map_eq_some_iff] at h
    obtain ⟨la, ha, rfl⟩ := h
    exact ⟨snd_neg (S _ _ _ _ T ha).1, rfl⟩
  · exact ⟨cB_ok S T h, rfl⟩
  · rw [Option.bind_eq_some_iff] at h
    obtain ⟨lt, ht, h⟩ := h
    rw [Option.bind_eq_some_iff] at h
    obtain ⟨la, ha, h⟩ := h
    rw [Option.map_eq_some_iff] at h
    obtain ⟨lb, hb, rfl⟩ := h
    exact ⟨snd_ite (ST _ _ _ _ T ht) (S _ _ _ _ T ha).1 (S _ _ _ _ T hb).1, rfl⟩
  · split at h
    · cases h
    · rename_i a op b p hm
      rw [Option.bind_eq_some_iff] at h
      obtain ⟨la, ha, h⟩ := h
      rw [Option.map_eq_some_iff] at h
      obtain ⟨lb, hb, rfl⟩ := h
      refine ⟨?_, rfl⟩
      have := snd_cmp (pos := p) (o := cOf op) T.un (S _ _ _ _ T ha).1 (S _ _ _ _ T hb).1 (by rw [cmpPy_cOf]; exact (Bool.not_eq_true _).mp hm)
      rw [cmpPy_cOf] at this
      exact this
  · split at h
    · cases h
    · rename_i a op op' b c p hm
      rw [Option.bind_eq_some_iff] at h
      obtain ⟨la, ha, h⟩ := h
      rw [Option.bind_eq_some_iff] at h
      obtain ⟨lb, hb, h⟩ := h
      rw [Option.map_eq_some_iff] at h
      obtain ⟨lc, hc, rfl⟩ := h
      refine ⟨?_, rfl⟩
      have := snd_chain (pos := p) (o := cOf op) (o' := cOf op') T.un (S _ _ _ _ T ha).1 (S _ _ _ _ T hb).1 (S _ _ _ _ T hc).1 (by rw [cmpPy_cOf, cmpPy_cOf]; exact (Bool.not_eq_true _).mp hm)
      rw [cmpPy_cOf, cmpPy_cOf] at this
      exact this
  · rw [Option.map_eq_some_iff] at h
    obtain ⟨la, ha, rfl⟩ := h
    obtain ⟨pa, ga, _⟩ := cO_ok S T ha
    exact ⟨snd_rev ga pa, rfl⟩
  · rw [Option.bind_eq_some_iff] at h
    obtain ⟨la, ha, h⟩ := h
    rw [Option.bind_eq_some_iff] at h
    obtain ⟨ll, hl, h⟩ := h
    rw [Option.map_eq_some_iff] at h
    obtain ⟨lh, hh, rfl⟩ := h
    obtain ⟨pa, ga, _⟩ := cO_ok S T ha
    exact ⟨snd_slice ga pa (cPart_ok S T hl) (cPart_ok S T hh), rfl⟩
  · cases h
  · rename_i a i p h1 h2 h3
    rw [Option.bind_eq_some_iff] at h
    obtain ⟨la, ha, h⟩ := h
    rw [Option.map_eq_some_iff] at h
    obtain ⟨lb, hb, rfl⟩ := h
    refine ⟨snd_ix (S _ _ _ _ T ha).1 (S _ _ _ _ T hb).1 fun o i' => ?_, rfl⟩
    cases i <;> first | rfl | exact absurd rfl (h3 _ _ _ _)
  · rw [Option.map_eq_some_iff] at h
    obtain ⟨la, ha, rfl⟩ := h
    exact ⟨snd_lst (cAG_ok S T ha).2.1 (cAG_ok S T ha).1, rfl⟩
  · rw [Option.map_eq_some_iff] at h
    obtain ⟨la, ha, rfl⟩ := h
    exact ⟨snd_tup (cAG_ok S T ha).2.1 (cAG_ok S T ha).1, rfl⟩
  · exact ⟨cCall_ok S T h, rfl⟩
  · split at h
    · rename_i o m ap args cp _ tk hmt
      rw [Option.ite_none_right_eq_some] at h
      obtain ⟨hc, h⟩ := h
      rw [Option.bind_eq_some_iff] at h
      obtain ⟨lo, ho, h⟩ := h
      rw [Option.map_eq_some_iff] at h
      obtain ⟨la, hla, rfl⟩ := h
      simp only [Bool.and_eq_true, Bool.not_eq_true', decide_eq_true_eq] at hc
      obtain ⟨⟨hc, hln⟩, h30⟩ := hc
      obtain ⟨pa, st⟩ := cA_ok S T hla
      cases args with
      | nil =>
        cases hla
        exact ⟨snd_meth0 (T.mt m tk hmt) (S _ _ _ _ T ho).1 (fun z => by simpa [goodA] using z) hc hln, rfl⟩
      | cons a as => exact ⟨snd_meth (T.mt m tk hmt) (S _ _ _ _ T ho).1 (fun z => by simpa using z) pa (star1 (st a List.mem_cons_self)) (noStar fun x hx => st x (List.mem_cons_of_mem _ hx)) hc h30 hln, rfl⟩
    · split at h
      · rw [Option.ite_none_right_eq_some] at h
        obtain ⟨hc, h⟩ := h
        rw [Option.bind_eq_some_iff] at h
        obtain ⟨lo, ho, h⟩ := h
        rw [Option.map_eq_some_iff] at h
        obtain ⟨la, ha, rfl⟩ := h
        simp only [Bool.and_eq_true, decide_eq_true_eq, Bool.not_eq_true'] at hc
        obtain ⟨⟨h1, h2⟩, h3⟩ := hc
        subst h1
        exact ⟨snd_index (S _ _ _ _ T ho).1 (S _ _ _ _ T ha).1 (S _ _ _ _ T ha).2 h3 h2, rfl⟩
      · cases h
  · rw [Option.ite_none_right_eq_some] at h
    obtain ⟨hc, h⟩ := h
    rw [Option.map_eq_some_iff] at h
    obtain ⟨la, ha, rfl⟩ := h
    simp only [Bool.and_eq_true, Bool.not_eq_true'] at hc
    exact ⟨snd_fld T (List.contains_iff_mem.mp hc.1) (S _ _ _ _ T ha).1 hc.2, rfl⟩
  · exact ⟨cComp_ok S ST S T h, rfl⟩
  · cases h
theorem stepT_ok (S : Sound CA G rE) (ST : SoundT CA G rT) : SoundT CA G (stepT rT (stepE rE rT)) := by
  intro C X e l T h
  unfold stepT at h
  split at h
  · rw [Option.map_eq_some_iff] at h
    obtain ⟨la, ha, rfl⟩ := h
    exact snt_not (ST _ _ _ _ T ha)
  · exact (cBT_ok ST T h).pt
  · cases h
  · rename_i h1 h2 h3
    by_cases hc : ∃ a ops bs p, e = .Compare a ops bs p
    · obtain ⟨a, ops, bs, p, rfl⟩ := hc
      rcases ops with _ | ⟨o1, _ | ⟨o2, _ | ⟨o3, os⟩⟩⟩ <;> rcases bs with _ | ⟨b1, _ | ⟨b2, _ | ⟨b3, bs'⟩⟩⟩
      all_goals first
        | (cases h; done)
        | skip
      · have h : (if behindInMarks o1 b1 = true then none else (rE C a).bind fun la => (rE C b1).map fun lb => .cmp (cOf o1) la lb) = some l := h
        split at h
        · cases h
        · rename_i hm
          rw [Option.bind_eq_some_iff] at h
          obtain ⟨la, ha, h⟩ := h
          rw [Option.map_eq_some_iff] at h
          obtain ⟨lb, hb, rfl⟩ := h
          have := snt_cmp (pos := p) (o := cOf o1) T.un (S _ _ _ _ T ha).1 (S _ _ _ _ T hb).1 (by rw [cmpPy_cOf]; exact (Bool.not_eq_true _).mp hm)
          rw [cmpPy_cOf] at this
          exact this
      · have h : (if lastMarks [o1, o2] [b1, b2] = true then none else (rE C a).bind fun la => (rE C b1).bind fun lb => (rE C b2).map fun lc => .chain (cOf o1) (cOf o2) la lb lc) = some l := h
        split at h
        · cases h
        · rename_i hm
          rw [Option.bind_eq_some_iff] at h
          obtain ⟨la, ha, h⟩ := h
          rw [Option.bind_eq_some_iff] at h
          obtain ⟨lb, hb, h⟩ := h
          rw [Option.map_eq_some_iff] at h
          obtain ⟨lc, hc, rfl⟩ := h
          have := snt_chain (pos := p) (o := cOf o1) (o' := cOf o2) T.un (S _ _ _ _ T ha).1 (S _ _ _ _ T hb).1 (S _ _ _ _ T hc).1 (by rw [cmpPy_cOf, cmpPy_cOf]; exact (Bool.not_eq_true _).mp hm)
          rw [cmpPy_cOf, cmpPy_cOf] at this
          exact this
    · have pe := (stepE_ok S ST _ _ _ _ T h).1
      refine PT.imp (pt_val pe fun whole => ?_) fun σ H Q hh => tD_tB hh
      cases e <;> first | rfl | exact absurd ⟨_, _, _, _, rfl⟩ hc | exact absurd rfl (h2 _ _ _) | exact absurd rfl (h3 _ _ _ _) | skip
      rename_i op x p
      cases op <;> first | rfl | exact absurd rfl (h1 _ _)
def SoundN (CA : Cmap) (G : Nat → Dz.Sem) (r : Nat → Rec) : Prop := ∀ k C X e l, k ≤ 9 → Fit CA G C X → r k C e = some l → PE X e (tD CA (okF G) l) ∧ good l = true ∧ k ≤ nw l ∧ isStar e = false
theorem stepN_ok {rN : Nat → Rec} (S : Sound CA G rE) (ST : SoundT CA G rT) (SN : SoundN CA G rN) : SoundN CA G (stepN rE rT rN) := by
  intro k C X e l hk T h
  have SK : ∀ j, j ≤ 9 → Sound CA G (rN j) := fun j hj C X e l T h => ⟨(SN j C X e l hj T h).1, (SN j C X e l hj T h).2.2.2⟩
  unfold stepN at h
  split at h
  · rename_i k es p
    rw [Option.map_eq_some_iff] at h
    obtain ⟨la, ha, rfl⟩ := h
    obtain ⟨pa, ga, _⟩ := cAG_ok (SK k (by omega)) T ha
    obtain ⟨q1, q2, q3⟩ := toN_ok hk (snd_lst (pos := p) ga pa)
    exact ⟨q1, q2, q3, rfl⟩
  · rename_i k es x1 p
    rw [Option.map_eq_some_iff] at h
    obtain ⟨la, ha, rfl⟩ := h
    obtain ⟨pa, ga, _⟩ := cAG_ok (SK k (by omega)) T ha
    obtain ⟨q1, q2, q3⟩ := toN_ok hk (snd_tup (pos := p) (x1 := x1) ga pa)
    exact ⟨q1, q2, q3, rfl⟩
  · rename_i k elt tg iter ifs scope p
    rw [Option.map_eq_some_iff] at h
    obtain ⟨la, ha, rfl⟩ := h
    obtain ⟨q1, q2, q3⟩ := toN_ok hk (cComp_ok (pos := p) S ST (SK k (by omega)) T ha)
    exact ⟨q1, q2, q3, rfl⟩
  · rw [Option.bind_eq_some_iff] at h
    obtain ⟨lt, ht, h⟩ := h
    rw [Option.bind_eq_some_iff] at h
    obtain ⟨la, ha, h⟩ := h
    rw [Option.map_eq_some_iff] at h
    obtain ⟨lb, hb, rfl⟩ := h
    obtain ⟨q1, q2, q3⟩ := toN_ok hk (snd_ite (ST _ _ _ _ T ht) (SN _ _ _ _ _ hk T ha).1 (SN _ _ _ _ _ hk T hb).1)
    exact ⟨q1, q2, q3, rfl⟩
  · rw [Option.map_eq_some_iff] at h
    obtain ⟨la, ha, rfl⟩ := h
    obtain ⟨pa, st⟩ := stepE_ok S ST _ _ _ _ T ha
    obtain ⟨q1, q2, q3⟩ := toN_ok hk pa
    exact ⟨q1, q2, q3, st⟩
end
theorem cET_ok : ∀ n : Nat, Sound CA G (cET n).e ∧ SoundT CA G (cET n).t ∧ SoundN CA G (cET n).n
  | 0 => ⟨fun _ _ _ _ _ h => (by cases h), fun _ _ _ _ _ h => (by cases h), fun _ _ _ _ _ _ _ h => (by cases h)⟩
  | n + 1 => ⟨stepE_ok (cET_ok n).1 (cET_ok n).2.1, stepT_ok (cET_ok n).1 (cET_ok n).2.1, stepN_ok (cET_ok n).1 (cET_ok n).2.1 (cET_ok n).2.2⟩
end Dz

set_option Elab.async false
set_option linter.all false
set_option maxRecDepth 100000
set_option maxHeartbeats 4000000
/-! Statements of the small language, and what they do to the slots. -/
namespace Dz
open PySem L2
/-- a step into a tree: an item, a field -/
inductive Pst | ix (l : L) | fld (f : Str)
/-- an item of a row: an expression, or a slot of our own that is given away -/
inductive Itm | e (l : L) | mv (i : Nat)
/-- changes of a list in place -/
inductive Mut | append | remove | extend | popI | pop | clear | reverse | insert
  deriving DecidableEq
inductive S
  | skip | seq (a b : S)
  | setT (gs : List (Nat × Nat)) (e : L) | set (i k : Nat) (e : L)
  | mut (m : Mut) (i : Nat) (p : List Pst) (k : Nat) (a : L)
  | put (i : Nat) (p : List Pst) (ix : L) (k : Nat) (e : L)
  | fput (i : Nat) (f : Str) (k : Nat) (e : L) | fputM (i : Nat) (f : Str) (k : Nat) (es : List Itm)
  | ifs (t : L) (a b : S)
  | for_ (k : Src) (s : L) (g : Tg) (b : S)
  | wh (t : L) (b : S)
  | ret (e : L) | retO (i : Nat) | retM (es : List Itm) | retN
  | raise (c : Str)
  | expr (e : L)
  | exprX (b : Bool) (f k : Nat) (a : L) | setX (i k : Nat) (b : Bool) (f kf : Nat) (a : L) | retX (b : Bool) (f k : Nat) (a : L)
  | methX (i : Nat) (m : Str) (tab : List (Str × Nat)) (k : Nat) (a : L) | methB (m : Str) (tab : List (Str × Nat)) (k : Nat) (o a : L)
  | try_ (b : S) (cs : List Str) (h : S)
  | frz (i : Nat)
inductive Out | nx (ρ : List Sl) | rt (ρ : List Sl) (d : D) | ex (ρ : List Sl) (c : Str)
abbrev Ps := Sum Int Str
def getP : D → List Ps → Option D
  | d, [] => some d
  | .list ds, .inl i :: p => (atI ds i).bind fun d => getP d p
  | .tuple ds, .inl i :: p => (atI ds i).bind fun d => getP d p
  | .dict (_ :: r), .inr f :: p => (fldGet r f).bind fun d => getP d p
  | _, _ => none
def fldSet : List (D × D) → Str → D → List (D × D)
  | [], f, d => [(.str f, d)]
  | (.str n, d') :: r, f, d => if n = f then (.str n, d) :: r else (.str n, d') :: fldSet r f d
  | x :: r, f, d => x :: fldSet r f d
def setI (ds : List D) (i : Int) (d : D) : Option (List D) := (ixN ds.length i).map fun j => ds.set j d
def setP : D → List Ps → D → Option D
  | _, [], x => some x
  | .list ds, .inl i :: p, x => (atI ds i).bind fun d => (setP d p x).bind fun d' => (setI ds i d').map PyData.list
  | .tuple ds, .inl i :: p, x => (atI ds i).bind fun d => (setP d p x).bind fun d' => (setI ds i d').map PyData.tuple
  | .dict (h :: r), .inr f :: p, x => (fldGet r f).bind fun d => (setP d p x).map fun d' => .dict (h :: fldSet r f d')
  | _, _, _ => none
section
variable (F : Nat → List D → Option D)
def evP : List Pst → List Sl → Option (List Ps)
  | [], _ => some []
  | .ix l :: r, ρ => match evE F l ρ with
    | some (.int i) => (evP r ρ).map fun p => .inl i :: p
    | _ => none
  | .fld f :: r, ρ => (evP r ρ).map fun p => .inr f :: p
def mutF : Mut → List D → List D → Option (List D)
  | .append, ds, [x] => if lim (ds.length + 1) then some (ds ++ [x]) else none
  | .remove, ds, [.int i] => (intsOf ds).bind fun _ => (idx? (.int i) ds).map fun j => ds.eraseIdx j
  | .extend, ds, [.list es] => if lim (ds.length + es.length) then some (ds ++ es) else none
  | .pop, ds, [] => if ds.isEmpty then none else some ds.dropLast
  | .popI, ds, [.int i] => if lim63 i then (ixN ds.length i).map fun j => ds.eraseIdx j else none
  | .clear, _, [] => some []
  | .reverse, ds, [] => some ds.reverse
  | .insert, ds, [.int i, x] => if decide (0 ≤ i) && lim63 i && lim (ds.length + 1) then some (ds.take i.toNat ++ [x] ++ ds.drop i.toNat) else none
  | _, _, _ => none
def forGo (b : List Sl → Option Out) (g : Tg) : List D → List Sl → Option Out
  | [], ρ => some (.nx ρ)
  | x :: r, ρ => (bindT g x ρ).bind fun ρ' => (b ρ').bind fun o => match o with
    | .nx ρ2 => forGo b g r ρ2
    | o => some o
def whGo (t : List Sl → Option D) (b : List Sl → Option Out) : Nat → List Sl → Option Out
  | 0, _ => none
  | n + 1, ρ => (unB (t ρ)).bind fun c => if c then (b ρ).bind fun o => match o with
      | .nx ρ2 => whGo t b n ρ2
      | o => some o
    else some (.nx ρ)
/-- the slots of a row of targets -/
def setG : List (Nat × Nat) → List D → List Sl → Option (List Sl)
  | [], [], ρ => some ρ
  | (i, k) :: is, d :: ds, ρ => setG is ds (ρ.set i (if k = 0 then .fz d else .own k d))
  | _, _, _ => none
def evI : List Itm → List Sl → Option (List D)
  | [], _ => some []
  | .e l :: r, ρ => (evE F l ρ).bind fun d => (evI r ρ).map (d :: ·)
  | .mv i :: r, ρ => match ρ[i]? with
    | some (.own _ d) => (evI r (ρ.set i .no)).map (d :: ·)
    | _ => none
def slotO (ρ : List Sl) (i k : Nat) : Option D := match ρ[i]? with
  | some (.own j d) => if j = k then some d else none
  | _ => none
end
/-- slots that are given away in a row -/
def mvs : List Itm → List Nat
  | [] => []
  | .e _ :: r => mvs r
  | .mv i :: r => i :: mvs r
/-- the depth to which a row is new -/
def nwI : List Itm → List Sl → Nat
  | [], _ => 9
  | .e l :: r, ρ => min (nw l) (nwI r ρ)
  | .mv i :: r, ρ => min (match ρ[i]? with | some (.own k _) => k | _ => 0) (nwI r (ρ.set i .no))
def gone (ρ : List Sl) : List Nat → List Sl
  | [] => ρ
  | i :: r => gone (ρ.set i .no) r
/-- kf: the depth to which what is told is new; io: the first parameter is changed -/
structure Fs where
  kf : Nat
  io : Bool
def evS (G : Nat → Dz.Sem) (q : Fs) : S → List Sl → Option Out
  | .skip, ρ => some (.nx ρ)
  | .seq a b, ρ => (evS G q a ρ).bind fun o => match o with
    | .nx ρ2 => evS G q b ρ2
    | o => some o
  | .setT gs e, ρ => (unT (evE (okF G) e ρ)).bind fun ds => (setG gs ds ρ).map .nx
  | .set i k e, ρ => (evE (okF G) e ρ).map fun d => .nx (ρ.set i (if k = 0 then .fz d else .own k d))
  | .mut m i p k a, ρ => (slotO ρ i (p.length + k + 1)).bind fun d => (evP (okF G) p ρ).bind fun pp => (unT (evE (okF G) a ρ)).bind fun xs => match getP d pp with
    | some (.list ds) => (mutF m ds xs).bind fun ds' => (setP d pp (.list ds')).map fun d' => .nx (ρ.set i (.own (p.length + k + 1) d'))
    | _ => none
  | .put i p x k e, ρ => (slotO ρ i (p.length + k + 1)).bind fun d => (evE (okF G) e ρ).bind fun y => (evP (okF G) p ρ).bind fun pp => match evE (okF G) x ρ, getP d pp with
    | some (.int j), some (.list ds) => (setI ds j y).bind fun ds' => (setP d pp (.list ds')).map fun d' => .nx (ρ.set i (.own (p.length + k + 1) d'))
    | _, _ => none
  | .fput i f k e, ρ => (slotO ρ i (k + 1)).bind fun d => (evE (okF G) e ρ).bind fun y => match d with
    | .dict (h :: r) => if decide (r.length < 999) then some (.nx (ρ.set i (.own (k + 1) (.dict (h :: fldSet r f y))))) else none
    | _ => none
  | .fputM i f k es, ρ => (slotO ρ i (k + 1)).bind fun d => (evI (okF G) es ρ).bind fun ys => match d with
    | .dict (h :: r) => if decide (r.length < 999) && decide (k ≤ nwI es ρ + 1) && !(mvs es).contains i && lim ys.length then some (.nx ((gone ρ (mvs es)).set i (.own (k + 1) (.dict (h :: fldSet r f (.tuple ys)))))) else none
    | _ => none
  | .ifs t a b, ρ => (unB (evE (okF G) t ρ)).bind fun c => if c then evS G q a ρ else evS G q b ρ
  | .for_ k s g b, ρ => ((unT (evE (okF G) s ρ)).bind (srcF k)).bind fun items => forGo (evS G q b) g items ρ
  | .wh t b, ρ => whGo (evE (okF G) t) (evS G q b) 1000 ρ
  | .ret e, ρ => (evE (okF G) e ρ).bind fun d => if q.io && !flat d then none else some (.rt ρ d)
  | .retO i, ρ => match ρ[i]? with
    | some (.own k d) => if decide (q.kf ≤ k) && !q.io then some (.rt ρ d) else none
    | _ => none
  | .retM es, ρ => (evI (okF G) es ρ).bind fun ys => if decide (q.kf ≤ nwI es ρ + 1) && !q.io && lim ys.length then some (.rt ρ (.tuple ys)) else none
  | .retN, ρ => some (.rt ρ .none)
  | .raise c, ρ => some (.ex ρ c)
  | .expr e, ρ => (evE (okF G) e ρ).map fun _ => .nx ρ
  | .exprX b f k a, ρ => (unT (evE (okF G) a ρ)).bind fun xs => (G f xs).bind fun r => match r.1 with
    | .ok d => some (.nx ρ)
    | .exc c => some (.ex ρ c)
  | .setX i k b f kf a, ρ => (unT (evE (okF G) a ρ)).bind fun xs => (G f xs).bind fun r => match r.1 with
    | .ok d => if !b || flatAt d kf then some (.nx (ρ.set i (if k = 0 then .fz d else .own k d))) else none
    | .exc c => some (.ex ρ c)
  | .retX b f k a, ρ => (unT (evE (okF G) a ρ)).bind fun xs => (G f xs).bind fun r => match r.1 with
    | .ok d => if (!b || flatAt d k) && !(q.io && !flat d) then some (.rt ρ d) else none
    | .exc c => some (.ex ρ c)
  | .methX i m tab k a, ρ => (slotO ρ i k).bind fun s => (clsOf s).bind fun c => (tab.lookup c).bind fun f => if (fldF s m).isSome then none else (unT (evE (okF G) a ρ)).bind fun xs => (G f (s :: xs)).bind fun r => match r.1 with
    | .ok d => if flat d then some (.nx (ρ.set i (.own k r.2))) else none
    | .exc c => some (.ex (ρ.set i (.own k r.2)) c)
  | .methB m tab k o a, ρ => (evE (okF G) o ρ).bind fun s => (clsOf s).bind fun c => (tab.lookup c).bind fun f => if (fldF s m).isSome then none else (unT (evE (okF G) a ρ)).bind fun xs => (G f (s :: xs)).bind fun r => match r.1 with
    | .ok d => some (.nx ρ)
    | .exc c => some (.ex ρ c)
  | .try_ b cs h, ρ => (evS G q b ρ).bind fun o => match o with
    | .ex ρ2 c => if cs.contains c then evS G q h ρ2 else some (.ex ρ2 c)
    | o => some o
  | .frz i, ρ => match ρ[i]? with
    | some (.own _ d) => some (.nx (ρ.set i (.fz d)))
    | some (.fz d) => some (.nx (ρ.set i (.fz d)))
    | _ => none
/-- the def as a whole: its slots, its body -/
def slots0 (n : Nat) (q : Fs) (kio : Nat) (ds : List D) : List Sl := (match q.io, ds with
  | true, d :: r => .own kio d :: r.map .fz
  | _, ds => ds.map .fz) ++ List.replicate n .no
def ioOf (kio : Nat) (q : Fs) (ρ : List Sl) : Option D := if q.io then slotO ρ 0 kio else some .none
def semS (G : Nat → Dz.Sem) (q : Fs) (kio np nl : Nat) (s : S) : Dz.Sem := fun ds => if ds.length = np then
    (evS G q s (slots0 nl q kio ds)).bind fun o => match o with
      | .nx ρ => (ioOf kio q ρ).map fun x => (.ok .none, x)
      | .rt ρ d => (ioOf kio q ρ).map fun x => (.ok d, x)
      | .ex ρ c => (ioOf kio q ρ).map fun x => (.exc c, x)
  else none
end Dz

set_option Elab.async false
set_option linter.all false
set_option maxRecDepth 100000
set_option maxHeartbeats 4000000
namespace Dz
open PySem L2
variable {CA : Cmap}
/-- what stood at the def's start: its heap, what of it may be changed, what is the caller's own, the first argument -/
structure Fx where
  R : Hp
  fp0 : List Addr
  O0 : Addr → Bool
  v0 : V
  q : Fs
structure EnvW (CA : Cmap) (x : Fx) (w : Addr → Option Nat) (O : Addr → Bool) (H : Hp) (σ : St) (ρ : List Sl) : Prop where
  sub : Sub O H
  len : ρ.length = σ.length
  fz : ∀ (i : Nat) (d : D), ρ[i]? = some (.fz d) → ∃ v, σ[i]? = some (some v) ∧ Rp CA (off O H) d v
  wO : ∀ a i, w a = some i → O a = true ∧ (x.R a = none ∨ (a ∈ x.fp0 ∧ i = 0))
  own : ∀ (i k : Nat) (d : D), ρ[i]? = some (.own k d) → ∃ v fp, σ[i]? = some (some v) ∧ fp.Nodup ∧ (∀ a ∈ fp, w a = some i) ∧ OwnR CA H (off O H) d k v fp
  frame : But x.fp0 x.R H
  inO : ∀ a, x.O0 a = true → O a = true
  s0 : Sub x.O0 x.R
  f0 : ∀ a ∈ x.fp0, x.O0 a = true
  mode : x.q.io = false → x.fp0 = []
  io0 : x.q.io = true → σ[0]? = some (some x.v0)
def EnvS (CA : Cmap) (x : Fx) (O : Addr → Bool) (H : Hp) (σ : St) (ρ : List Sl) : Prop := ∃ w, EnvW CA x w O H σ ρ
section
variable {x : Fx} {w : Addr → Option Nat} {O : Addr → Bool} {H H' : Hp} {σ : St} {ρ : List Sl}
theorem EnvW.r (E : EnvW CA x w O H σ ρ) : EnvR CA O H σ ρ := ⟨E.sub, E.len, E.fz, w, fun a i h => (E.wO a i h).1, E.own⟩
theorem EnvS.r (E : EnvS CA x O H σ ρ) : EnvR CA O H σ ρ := let ⟨_, h⟩ := E; h.r
theorem But.ext {fp : List Addr} {R : Hp} (b : But fp R H) (e : Ext H H') : But fp R H' := fun a o h n => e a o (b a o h n)
/-- the heap grows; fp, new, is set aside -/
theorem EnvW.grow (E : EnvW CA x w O H σ ρ) {fp : List Addr} (e : Ext H H') (n : ∀ a ∈ fp, H a = none) (kd : ∀ a ∈ fp, Kind H' a) : EnvW CA x w (sup O fp) H' σ ρ where
  sub := (E.sub.ext e).sup kd
  len := E.len
  fz := fun i d h => let ⟨v, h1, h2⟩ := E.fz i d h; ⟨v, h1, Rp.mono (off_grow e n) d v h2⟩
  wO := fun a i h => ⟨sup_true.mpr (.inl (E.wO a i h).1), (E.wO a i h).2⟩
  own := fun i k d h => let ⟨v, fp, h1, h2, h3, h4⟩ := E.own i k d h; ⟨v, fp, h1, h2, h3, OwnR.mono (off_grow e n) d k v fp (fun a _ o z => e a o z) h4⟩
  frame := E.frame.ext e
  inO := fun a h => sup_true.mpr (.inl (E.inO a h))
  s0 := E.s0
  f0 := E.f0
  mode := E.mode
  io0 := E.io0
theorem EnvW.ext (E : EnvW CA x w O H σ ρ) (e : Ext H H') : EnvW CA x w O H' σ ρ := by
  have := E.grow (fp := []) e (fun a h => (by cases h)) fun a h => (by cases h)
  rw [sup_nil] at this
  exact this
theorem EnvS.ext (E : EnvS CA x O H σ ρ) (e : Ext H H') : EnvS CA x O H' σ ρ := let ⟨w, h⟩ := E; ⟨w, h.ext e⟩
/-- what is not there was not there at the start -/
theorem EnvW.new (E : EnvW CA x w O H σ ρ) {a : Addr} (h : H a = none) : x.R a = none := by
  cases q : x.R a with
  | none => rfl
  | some o =>
    by_cases ha : a ∈ x.fp0
    · obtain ⟨u, hu⟩ := E.sub.some (E.inO a (E.f0 a ha))
      rw [h] at hu
      cases hu
    · rw [E.frame a o q ha] at h
      cases h
def less (O : Addr → Bool) (f : List Addr) : Addr → Bool := fun a => O a && !decide (a ∈ f)
theorem less_true {f : List Addr} {a : Addr} : less O f a = true ↔ O a = true ∧ a ∉ f := by simp [less]
theorem less_false {f : List Addr} {a : Addr} : less O f a = false ↔ O a = false ∨ a ∈ f := by
  unfold less
  cases O a <;> simp
theorem off_less {f : List Addr} : Ext (off O H) (off (less O f) H) := off_le fun a h => (less_true.mp h).1
/-- the slot of a datum that is our own down to k, of one that stands still -/
def slK (k : Nat) (d : D) : Sl := if k = 0 then .fz d else .own k d
theorem getElem?_set' {α : Type} {l : List α} {i j : Nat} {y z : α} (h : (l.set i y)[j]? = some z) : (j = i ∧ i < l.length ∧ z = y) ∨ (j ≠ i ∧ l[j]? = some z) := by
  by_cases e : i = j
  · subst e
    by_cases hi : i < l.length
    · rw [List.getElem?_set_self hi] at h
      cases h
      exact .inl ⟨rfl, hi, rfl⟩
    · rw [List.getElem?_eq_none (by simpa using hi)] at h
      cases h
  · rw [List.getElem?_set_ne e] at h
    exact .inr ⟨fun z => e z.symm, h⟩
/-- what was set aside is given to a slot -/
theorem EnvW.assign (E : EnvW CA x w O H σ ρ) {i k kd : Nat} {d : D} {v : V} {fp : List Addr} (nd : fp.Nodup) (fO : ∀ a ∈ fp, O a = true) (fw : ∀ a ∈ fp, w a = none) (fR : ∀ a ∈ fp, x.R a = none) (o : OwnR CA H (off O H) d kd v fp) (hk : k ≤ kd) (hi : x.q.io = true → i ≠ 0) :
    ∃ w' O', EnvW CA x w' O' H (σ.set i (some v)) (ρ.set i (slK k d)) ∧ (∀ a, O' a = true → O a = true) ∧ ∀ a, a ∉ fp → O' a = O a ∧ w' a = w a := by
  obtain ⟨fp', sl, q⟩ := OwnR.less d kd k v fp hk nd o
  have g : OwnR CA H (off (less O (fp.filter fun a => !decide (a ∈ fp'))) H) d k v fp' := q _ off_less fun a ha na u hu => off_some.mpr ⟨less_false.mpr (.inr (List.mem_filter.mpr ⟨ha, by simp [na]⟩)), hu⟩
  refine ⟨fun a => if a ∈ fp' then (if k = 0 then none else some i) else w a, less O (fp.filter fun a => !decide (a ∈ fp')), ?_, fun a h => (less_true.mp h).1, fun a ha => ⟨?_, ?_⟩⟩
  · have iO : ∀ a, x.O0 a = true → a ∉ fp := fun a h z => by
      obtain ⟨u, hu⟩ := E.s0.some h
      rw [fR a z] at hu
      cases hu
    have keep : ∀ a j, w a = some j → less O (fp.filter fun a => !decide (a ∈ fp')) a = true := fun a j h => less_true.mpr ⟨(E.wO a j h).1, fun z => by
      rw [fw a (List.mem_filter.mp z).1] at h
      cases h⟩
    refine ⟨fun p h => E.sub p (less_true.mp h).1, by simpa using E.len, fun j d' h => ?_, fun a j h => ?_, fun j k' d' h => ?_, E.frame, fun a h => less_true.mpr ⟨E.inO a h, fun z => iO a h (List.mem_filter.mp z).1⟩, E.s0, E.f0, E.mode, fun h => ?_⟩
    · rcases getElem?_set' h with ⟨rfl, hl, e⟩ | ⟨ne, h⟩
      · unfold slK at e
        split at e
        · rename_i z
          cases e
          subst z
          exact ⟨v, List.getElem?_set_self (by rw [← E.len]; exact hl), (own0.mp g).2⟩
        · cases e
      · obtain ⟨u, h1, h2⟩ := E.fz j d' h
        exact ⟨u, by rw [List.getElem?_set_ne (fun z => ne z.symm)]; exact h1, Rp.mono off_less d' u h2⟩
    · split at h
      · rename_i z
        split at h
        · cases h
        · cases h
          exact ⟨less_true.mpr ⟨fO a (sl.subset z), fun y => by simpa [z] using (List.mem_filter.mp y).2⟩, .inl (fR a (sl.subset z))⟩
      · exact ⟨keep a j h, (E.wO a j h).2⟩
    · rcases getElem?_set' h with ⟨rfl, hl, e⟩ | ⟨ne, h⟩
      · unfold slK at e
        split at e
        · cases e
        · rename_i z
          cases e
          refine ⟨v, fp', List.getElem?_set_self (by rw [← E.len]; exact hl), nd.sublist sl, fun a ha => ?_, g⟩
          rw [if_pos ha, if_neg z]
      · obtain ⟨u, f, h1, h2, h3, h4⟩ := E.own j k' d' h
        refine ⟨u, f, by rw [List.getElem?_set_ne (fun z => ne z.symm)]; exact h1, h2, fun a ha => ?_, OwnR.mono off_less d' k' u f (fun a _ o z => z) h4⟩
        have : a ∉ fp' := fun z => by
          have := fw a (sl.subset z)
          rw [h3 a ha] at this
          cases this
        rw [if_neg this]
        exact h3 a ha
    · rw [List.getElem?_set_ne (hi h)]
      exact E.io0 h
  · have : a ∉ fp.filter fun a => !decide (a ∈ fp') := fun z => ha (List.mem_filter.mp z).1
    unfold less
    simp [ha]
  · have : a ∉ fp' := fun z => ha (sl.subset z)
    simp only
    rw [if_neg this]
/-- a slot that is emptied -/
theorem EnvW.unset (E : EnvW CA x w O H σ ρ) (i : Nat) : EnvW CA x w O H σ (ρ.set i .no) := by
  refine ⟨E.sub, by simpa using E.len, fun j d' h => ?_, E.wO, fun j k' d' h => ?_, E.frame, E.inO, E.s0, E.f0, E.mode, E.io0⟩
  · rcases getElem?_set' h with ⟨_, _, e⟩ | ⟨_, h⟩
    · cases e
    · exact E.fz j d' h
  · rcases getElem?_set' h with ⟨_, _, e⟩ | ⟨_, h⟩
    · cases e
    · exact E.own j k' d' h
/-- a slot whose datum is let go: it stands still from now on -/
theorem EnvW.freeze (E : EnvW CA x w O H σ ρ) {i k : Nat} {d : D} (h : ρ[i]? = some (.own k d)) (hi : x.q.io = true → i ≠ 0) :
    ∃ w' O', EnvW CA x w' O' H σ (ρ.set i (.fz d)) ∧ (∀ a, O' a = true → O a = true) := by
  obtain ⟨v, fp, h1, h2, h3, h4⟩ := E.own i k d h
  have fR : ∀ a ∈ fp, x.R a = none := fun a ha => by
    rcases (E.wO a i (h3 a ha)).2 with z | ⟨z1, z2⟩
    · exact z
    · cases q : x.q.io with
      | true => exact absurd z2 (hi q)
      | false =>
        rw [E.mode q] at z1
        cases z1
  -- first set aside, then given back
  have E1 : EnvW CA x (fun a => if a ∈ fp then none else w a) O H σ (ρ.set i .no) := by
    refine ⟨E.sub, by simpa using E.len, fun j d' h => ?_, fun a j h => ?_, fun j k' d' h => ?_, E.frame, E.inO, E.s0, E.f0, E.mode, E.io0⟩
    · rcases getElem?_set' h with ⟨_, _, e⟩ | ⟨_, h⟩
      · cases e
      · exact E.fz j d' h
    · split at h
      · cases h
      · exact E.wO a j h
    · rcases getElem?_set' h with ⟨_, _, e⟩ | ⟨ne, h⟩
      · cases e
      · obtain ⟨u, f, q1, q2, q3, q4⟩ := E.own j k' d' h
        refine ⟨u, f, q1, q2, fun a ha => ?_, q4⟩
        rw [if_neg]
        · exact q3 a ha
        · intro z
          have := h3 a z
          rw [q3 a ha] at this
          exact ne (Option.some.inj this)
  obtain ⟨w', O', E2, l, _⟩ := E1.assign (i := i) (k := 0) h2 (fun a ha => (E.wO a i (h3 a ha)).1) (fun a ha => by rw [if_pos ha]) fR h4 (Nat.zero_le _) hi
  refine ⟨w', O', ?_, l⟩
  have e1 : σ.set i (some v) = σ := by
    obtain ⟨hl, hv⟩ := List.getElem?_eq_some_iff.mp h1
    apply List.ext_getElem?
    intro j
    by_cases e : i = j
    · subst e
      rw [List.getElem?_set_self hl, h1]
    · rw [List.getElem?_set_ne e]
  rw [e1, List.set_set] at E2
  exact E2
end
end Dz

set_option Elab.async false
set_option linter.all false
set_option maxRecDepth 100000
set_option maxHeartbeats 4000000
namespace Dz
open PySem L2
variable {CA : Cmap}
/-! ### a part of a tree of our own -/
section
variable {H B : Hp}
theorem set_same {α : Type} {l : List α} {i : Nat} {y : α} (h : l[i]? = some y) : l.set i y = l := by
  apply List.ext_getElem?
  intro j
  by_cases e : i = j
  · subst e
    rw [List.getElem?_set_self (List.getElem?_eq_some_iff.mp h).1, h]
  · rw [List.getElem?_set_ne e]
/-- the rest stays -/
def Agree (f : List Addr) (H H' : Hp) : Prop := ∀ a ∈ f, ∀ o, H a = some o → H' a = some o
theorem Agree.left {f g : List Addr} {H H' : Hp} (h : Agree (f ++ g) H H') : Agree f H H' := fun a ha => h a (List.mem_append_left _ ha)
theorem Agree.right {f g : List Addr} {H H' : Hp} (h : Agree (f ++ g) H H') : Agree g H H' := fun a ha => h a (List.mem_append_right _ ha)
theorem OwnAll.at {k : Nat} : ∀ {ds : List D} {xs : List V} {fp : List Addr} (j : Nat) {d : D}, OwnAll CA H B ds k xs fp → ds[j]? = some d → ∃ u pre f post, xs[j]? = some u ∧ fp = pre ++ f ++ post ∧ OwnR CA H B d k u f ∧
    (∀ H' B' d' u' f', Agree (pre ++ post) H H' → Ext B B' → OwnR CA H' B' d' k u' f' → OwnAll CA H' B' (ds.set j d') k (xs.set j u') (pre ++ f' ++ post)) ∧
    (∀ H' B', Agree (pre ++ post) H H' → Ext B B' → OwnAll CA H' B' (ds.eraseIdx j) k (xs.eraseIdx j) (pre ++ post))
  | [], _, _, _, _, _, e => by simp at e
  | c :: ds, xs, fp, 0, d, h, e => by
    obtain ⟨v, vs, f1, f2, rfl, rfl, h3, h4⟩ := oa_cons.mp h
    simp at e
    subst e
    refine ⟨v, [], f1, f2, rfl, by simp, h3, fun H' B' d' u' f' ag eb o => ?_, fun H' B' ag eb => ?_⟩
    · exact oa_cons.mpr ⟨u', vs, f', f2, rfl, by simp, o, OwnAll.mono eb ds k vs f2 (fun a ha => ag a (by simpa using ha)) h4⟩
    · exact OwnAll.mono eb ds k vs f2 (fun a ha => ag a (by simpa using ha)) h4
  | c :: ds, xs, fp, j + 1, d, h, e => by
    obtain ⟨v, vs, f1, f2, rfl, rfl, h3, h4⟩ := oa_cons.mp h
    obtain ⟨u, pre, f, post, q1, rfl, q3, q4, q5⟩ := OwnAll.at j h4 (by simpa using e)
    refine ⟨u, f1 ++ pre, f, post, by simpa using q1, by simp, q3, fun H' B' d' u' f' ag eb o => ?_, fun H' B' ag eb => ?_⟩
    · rw [List.append_assoc] at ag
      exact oa_cons.mpr ⟨v, vs.set j u', f1, pre ++ f' ++ post, rfl, by simp, OwnR.mono eb c k v f1 ag.left h3, q4 H' B' d' u' f' ag.right eb o⟩
    · rw [List.append_assoc] at ag
      exact oa_cons.mpr ⟨v, vs.eraseIdx j, f1, pre ++ post, rfl, by simp, OwnR.mono eb c k v f1 ag.left h3, q5 H' B' ag.right eb⟩
theorem putF_same {f : Str} {v : V} : ∀ {fs : List (Str × V)}, fs.lookup f = some v → putF f v fs = fs
  | [], h => by cases h
  | (g, y) :: r, h => by
    unfold putF
    by_cases e : g = f
    · subst e
      rw [if_pos rfl]
      simp [List.lookup] at h
      rw [h]
    · rw [if_neg e]
      have e2 : (f == g) = false := beq_eq_false_iff_ne.mpr fun z => e z.symm
      rw [List.lookup_cons, e2] at h
      rw [putF_same h]
theorem OwnFs.at {k : Nat} {f : Str} : ∀ {r : List (D × D)} {fs : List (Str × V)} {fp : List Addr} {d : D}, OwnFs CA H B r k fs fp → fldGet r f = some d → ∃ u pre g post, fs.lookup f = some u ∧ fp = pre ++ g ++ post ∧ OwnR CA H B d k u g ∧
    (∀ H' B' d' u' g', Agree (pre ++ post) H H' → Ext B B' → OwnR CA H' B' d' k u' g' → OwnFs CA H' B' (fldSet r f d') k (putF f u' fs) (pre ++ g' ++ post))
  | [], _, _, _, _, e => by simp [fldGet] at e
  | (n, c) :: r, fs, fp, d, h, e => by
    obtain ⟨y, v, fs', f1, f2, rfl, rfl, rfl, h3, h4⟩ := of_cons.mp h
    unfold fldGet at e
    simp only at e
    by_cases z : y = f
    · rw [if_pos z] at e
      cases e
      subst z
      refine ⟨v, [], f1, f2, by simp [List.lookup], by simp, h3, fun H' B' d' u' g' ag eb o => ?_⟩
      unfold fldSet putF
      rw [if_pos rfl, if_pos rfl]
      exact of_cons.mpr ⟨y, u', fs', g', f2, rfl, by simp, rfl, o, OwnFs.mono eb r k fs' f2 (fun a ha => ag a (by simpa using ha)) h4⟩
    · rw [if_neg z] at e
      obtain ⟨u, pre, g, post, q1, rfl, q3, q4⟩ := OwnFs.at h4 e
      have e2 : (f == y) = false := beq_eq_false_iff_ne.mpr fun w => z w.symm
      refine ⟨u, f1 ++ pre, g, post, by rw [List.lookup_cons, e2]; exact q1, by simp, q3, fun H' B' d' u' g' ag eb o => ?_⟩
      unfold fldSet putF
      rw [if_neg z, if_neg z]
      rw [List.append_assoc] at ag
      exact of_cons.mpr ⟨y, v, putF f u' fs', f1, pre ++ g' ++ post, rfl, by simp, rfl, OwnR.mono eb c k v f1 ag.left h3, q4 H' B' d' u' g' ag.right eb o⟩
/-- a field that is new -/
theorem OwnFs.put {k : Nat} {f : Str} : ∀ {r : List (D × D)} {fs : List (Str × V)} {fp : List Addr}, OwnFs CA H B r k fs fp → ∃ pre g post, fp = pre ++ g ++ post ∧
    (∀ H' B' d' u' g', Agree (pre ++ post) H H' → Ext B B' → OwnR CA H' B' d' k u' g' → OwnFs CA H' B' (fldSet r f d') k (putF f u' fs) (pre ++ g' ++ post))
  | [], fs, fp, h => by
    obtain ⟨rfl, rfl⟩ := of_nil.mp h
    refine ⟨[], [], [], rfl, fun H' B' d' u' g' ag eb o => ?_⟩
    unfold fldSet putF
    exact of_cons.mpr ⟨f, u', [], g', [], rfl, by simp, rfl, o, of_nil.mpr ⟨rfl, rfl⟩⟩
  | (n, c) :: r, fs, fp, h => by
    obtain ⟨y, v, fs', f1, f2, rfl, rfl, rfl, h3, h4⟩ := of_cons.mp h
    by_cases z : y = f
    · subst z
      refine ⟨[], f1, f2, by simp, fun H' B' d' u' g' ag eb o => ?_⟩
      unfold fldSet putF
      rw [if_pos rfl, if_pos rfl]
      exact of_cons.mpr ⟨y, u', fs', g', f2, rfl, by simp, rfl, o, OwnFs.mono eb r k fs' f2 (fun a ha => ag a (by simpa using ha)) h4⟩
    · obtain ⟨pre, g, post, rfl, q4⟩ := OwnFs.put (f := f) h4
      refine ⟨f1 ++ pre, g, post, by simp, fun H' B' d' u' g' ag eb o => ?_⟩
      unfold fldSet putF
      rw [if_neg z, if_neg z]
      rw [List.append_assoc] at ag
      exact of_cons.mpr ⟨y, v, putF f u' fs', f1, pre ++ g' ++ post, rfl, by simp, rfl, OwnR.mono eb c k v f1 ag.left h3, q4 H' B' d' u' g' ag.right eb o⟩
theorem OwnFs.length {k : Nat} : ∀ {r : List (D × D)} {fs : List (Str × V)} {fp : List Addr}, OwnFs CA H B r k fs fp → fs.length = r.length
  | [], fs, fp, h => by rw [(of_nil.mp h).1]; rfl
  | (n, c) :: r, fs, fp, h => by
    obtain ⟨y, v, fs', f1, f2, rfl, rfl, rfl, h3, h4⟩ := of_cons.mp h
    simp [OwnFs.length h4]
/-- the value at the end of a path -/
def VP (H : Hp) : V → List Ps → V → Prop
  | v, [], v' => v' = v
  | v, .inl j :: p, v' => ∃ a xs u, v = .ref a ∧ (Rd H a (.lst xs) ∨ Rd H a (.tup xs)) ∧ atI xs j = some u ∧ VP H u p v'
  | v, .inr f :: p, v' => ∃ a C dx fs u, v = .ref a ∧ H a = some (.ins C dx fs) ∧ fs.lookup f = some u ∧ VP H u p v'
theorem VP.ext {H H' : Hp} (e : Ext H H') : ∀ {p : List Ps} {v v' : V}, VP H v p v' → VP H' v p v'
  | [], _, _, h => h
  | .inl j :: p, v, v', h => by
    obtain ⟨a, xs, u, h1, h2, h3, h4⟩ := h
    exact ⟨a, xs, u, h1, h2.elim (fun z => .inl (e.rd z)) (fun z => .inr (e.rd z)), h3, VP.ext e h4⟩
  | .inr f :: p, v, v', h => by
    obtain ⟨a, C, dx, fs, u, h1, h2, h3, h4⟩ := h
    exact ⟨a, C, dx, fs, u, h1, e _ _ h2, h3, VP.ext e h4⟩
theorem VP.snoc {H : Hp} : ∀ {p q : List Ps} {v v' v'' : V}, VP H v p v' → VP H v' q v'' → VP H v (p ++ q) v''
  | [], _, _, _, _, h, t => by
    have : _ = _ := h
    subst this
    exact t
  | .inl j :: p, q, v, v', v'', h, t => by
    obtain ⟨a, xs, u, h1, h2, h3, h4⟩ := h
    exact ⟨a, xs, u, h1, h2, h3, VP.snoc h4 t⟩
  | .inr f :: p, q, v, v', v'', h, t => by
    obtain ⟨a, C, dx, fs, u, h1, h2, h3, h4⟩ := h
    exact ⟨a, C, dx, fs, u, h1, h2, h3, VP.snoc h4 t⟩
theorem atI_nat' {α : Type} {l : List α} {i : Int} {y : α} (h : atI l i = some y) : ∃ n, ixN l.length i = some n ∧ l[n]? = some y := by
  unfold atI at h
  cases e : ixN l.length i with
  | none => rw [e] at h; cases h
  | some n => rw [e] at h; exact ⟨n, rfl, h⟩
/-- the part at the end of a path, and the whole with another part there -/
theorem focus (eB : Ext B H) : ∀ {p : List Ps} {d : D} {k : Nat} {v : V} {fp : List Addr} {sub : D} {v' : V}, OwnR CA H B d k v fp → getP d p = some sub → VP H v p v' → p.length < k → ∃ pre f post, fp = pre ++ f ++ post ∧ OwnR CA H B sub (k - p.length) v' f ∧
    ∀ H' B' sub' f', Agree (pre ++ post) H H' → Ext B B' → OwnR CA H' B' sub' (k - p.length) v' f' → ∃ d', setP d p sub' = some d' ∧ OwnR CA H' B' d' k v (pre ++ f' ++ post)
  | [], d, k, v, fp, sub, v', h, g, vp, _ => by
    have hv : v' = v := vp
    subst hv
    have hg : sub = d := by
      cases d <;> (simp only [getP, Option.some.injEq] at g; exact g.symm)
    subst hg
    refine ⟨[], fp, [], by simp, h, fun H' B' sub' f' _ _ o => ⟨sub', by cases sub <;> rfl, ?_⟩⟩
    rw [List.nil_append, List.append_nil]
    exact o
  | .inl j :: p, d, k + 1, v, fp, sub, v', h, g, vp, hl => by
    cases d <;> simp only [getP, reduceCtorEq, Option.bind_eq_some_iff] at g
    · rename_i ds
      obtain ⟨d1, hd, g⟩ := g
      obtain ⟨a, xs, fps, rfl, h2, rfl, h4⟩ := own_list.mp h
      obtain ⟨a', xs', u, e1, e2, e3, vp⟩ := vp
      cases e1
      have ex : xs' = xs := by
        rcases e2 with (z | ⟨o, z⟩) | (z | ⟨o, z⟩) <;> rw [h2] at z <;> cases z
        rfl
      subst ex
      obtain ⟨n, hn, hd⟩ := atI_nat' hd
      obtain ⟨n', hn', hu⟩ := atI_nat' e3
      rw [h4.length, hn] at hn'
      cases hn'
      obtain ⟨u', pre, f, post, q1, rfl, q3, q4, _⟩ := OwnAll.at n h4 hd
      rw [hu] at q1
      cases q1
      obtain ⟨pre2, f2, post2, rfl, r2, r3⟩ := focus eB q3 g vp (by simpa using hl)
      have ek : k + 1 - (Sum.inl j :: p : List Ps).length = k - p.length := by simp
      refine ⟨a :: (pre ++ pre2), f2, post2 ++ post, by simp, by rw [ek]; exact r2, fun H' B' sub' f' ag eb o => ?_⟩
      rw [ek] at o
      have ag1 : Agree (pre2 ++ post2) H H' := fun b hb => ag b (by
        rcases List.mem_append.mp hb with z | z <;> simp [z])
      have ag2 : Agree (pre ++ post) H H' := fun b hb => ag b (by
        rcases List.mem_append.mp hb with z | z <;> simp [z])
      obtain ⟨d', s1, s2⟩ := r3 H' B' sub' f' ag1 eb o
      have := q4 H' B' d' u _ ag2 eb s2
      rw [set_same hu] at this
      refine ⟨.list (ds.set n d'), ?_, own_list.mpr ⟨a, _, (pre ++ pre2) ++ f' ++ (post2 ++ post), rfl, ag a (by simp) _ h2, rfl, ?_⟩⟩
      · simp only [setP]
        unfold atI
        rw [hn]
        simp only [Option.bind_some]
        rw [hd]
        simp only [Option.bind_some, s1]
        unfold setI
        rw [hn]
        rfl
      · have e5 : (pre ++ pre2) ++ f' ++ (post2 ++ post) = pre ++ (pre2 ++ f' ++ post2) ++ post := by simp
        rw [e5]
        exact this
    · rename_i ds
      obtain ⟨d1, hd, g⟩ := g
      obtain ⟨a, xs, rfl, h2, h4⟩ := own_tuple.mp h
      obtain ⟨a', xs', u, e1, e2, e3, vp⟩ := vp
      cases e1
      have ex : xs' = xs := by
        have h2' := eB.rd h2
        rcases e2 with (z | ⟨o, z⟩) | (z | ⟨o, z⟩) <;> rcases h2' with y | ⟨o', y⟩ <;> rw [y] at z <;> cases z <;> rfl
      subst ex
      obtain ⟨n, hn, hd⟩ := atI_nat' hd
      obtain ⟨n', hn', hu⟩ := atI_nat' e3
      rw [h4.length, hn] at hn'
      cases hn'
      obtain ⟨u', pre, f, post, q1, rfl, q3, q4, _⟩ := OwnAll.at n h4 hd
      rw [hu] at q1
      cases q1
      obtain ⟨pre2, f2, post2, rfl, r2, r3⟩ := focus eB q3 g vp (by simpa using hl)
      have ek : k + 1 - (Sum.inl j :: p : List Ps).length = k - p.length := by simp
      refine ⟨pre ++ pre2, f2, post2 ++ post, by simp, by rw [ek]; exact r2, fun H' B' sub' f' ag eb o => ?_⟩
      rw [ek] at o
      have ag1 : Agree (pre2 ++ post2) H H' := fun b hb => ag b (by
        rcases List.mem_append.mp hb with z | z <;> simp [z])
      have ag2 : Agree (pre ++ post) H H' := fun b hb => ag b (by
        rcases List.mem_append.mp hb with z | z <;> simp [z])
      obtain ⟨d', s1, s2⟩ := r3 H' B' sub' f' ag1 eb o
      have := q4 H' B' d' u _ ag2 eb s2
      rw [set_same hu] at this
      refine ⟨.tuple (ds.set n d'), ?_, own_tuple.mpr ⟨a, _, rfl, eb.rd h2, ?_⟩⟩
      · simp only [setP]
        unfold atI
        rw [hn]
        simp only [Option.bind_some]
        rw [hd]
        simp only [Option.bind_some, s1]
        unfold setI
        rw [hn]
        rfl
      · have e5 : (pre ++ pre2) ++ f' ++ (post2 ++ post) = pre ++ (pre2 ++ f' ++ post2) ++ post := by simp
        rw [e5]
        exact this
  | .inr x :: p, d, k + 1, v, fp, sub, v', h, g, vp, hl => by
    cases d with
    | dict kvs =>
      cases kvs with
      | nil => simp [getP] at g
      | cons hd r =>
        simp only [getP, Option.bind_eq_some_iff] at g
        obtain ⟨d1, hd1, g⟩ := g
        obtain ⟨a, C, dx, fs, fps, rfl, h2, rfl, h4⟩ := own_dict.mp h
        obtain ⟨a', C', dx', fs', u, e1, e2, e3, vp⟩ := vp
        cases e1
        rw [h2] at e2
        cases e2
        obtain ⟨kc, kd⟩ := hd
        simp only [OwnIns] at h4
        obtain ⟨hc, h4⟩ := h4
        obtain ⟨u', pre, f, post, q1, rfl, q3, q4⟩ := OwnFs.at h4 hd1
        rw [e3] at q1
        cases q1
        obtain ⟨pre2, f2, post2, rfl, r2, r3⟩ := focus eB q3 g vp (by simpa using hl)
        have ek : k + 1 - (Sum.inr x :: p : List Ps).length = k - p.length := by simp
        refine ⟨a :: (pre ++ pre2), f2, post2 ++ post, by simp, by rw [ek]; exact r2, fun H' B' sub' f' ag eb o => ?_⟩
        rw [ek] at o
        have ag1 : Agree (pre2 ++ post2) H H' := fun b hb => ag b (by
          rcases List.mem_append.mp hb with z | z <;> simp [z])
        have ag2 : Agree (pre ++ post) H H' := fun b hb => ag b (by
          rcases List.mem_append.mp hb with z | z <;> simp [z])
        obtain ⟨d', s1, s2⟩ := r3 H' B' sub' f' ag1 eb o
        have := q4 H' B' d' u _ ag2 eb s2
        rw [putF_same e3] at this
        refine ⟨.dict ((kc, kd) :: fldSet r x d'), ?_, own_dict.mpr ⟨a, C, dx, fs, (pre ++ pre2) ++ f' ++ (post2 ++ post), rfl, ag a (by simp) _ h2, rfl, ?_⟩⟩
        · simp only [setP, hd1, Option.bind_some, s1, Option.map_some]
        · simp only [OwnIns]
          have e5 : (pre ++ pre2) ++ f' ++ (post2 ++ post) = pre ++ (pre2 ++ f' ++ post2) ++ post := by simp
          rw [e5]
          exact ⟨hc, this⟩
    | _ => simp [getP] at g
  | _ :: _, _, 0, _, _, _, _, _, _, _, hl => by simp at hl
end
end Dz

set_option Elab.async false
set_option linter.all false
set_option maxRecDepth 100000
set_option maxHeartbeats 4000000
namespace Dz
open PySem L2
variable {CA : Cmap} {F : Nat → List D → Option D}
/-! ### a list of our own is changed -/
section
variable {x : Fx} {w : Addr → Option Nat} {O : Addr → Bool} {H : Hp} {σ : St} {ρ : List Sl}
theorem nodup_mid {pre f post : List Addr} (h : (pre ++ f ++ post).Nodup) : f.Nodup ∧ (pre ++ post).Nodup ∧ ∀ a ∈ f, a ∉ pre ++ post := by
  rw [List.append_assoc, List.nodup_append] at h
  obtain ⟨h1, h2, h3⟩ := h
  rw [List.nodup_append] at h2
  obtain ⟨h4, h5, h6⟩ := h2
  refine ⟨h4, List.nodup_append.mpr ⟨h1, h5, fun a ha b hb => h3 a ha b (List.mem_append_right _ hb)⟩, fun a ha z => ?_⟩
  rcases List.mem_append.mp z with z | z
  · exact h3 a z a (List.mem_append_left _ ha) rfl
  · exact h6 a ha a z rfl
theorem nodup_mid' {pre f post : List Addr} (h1 : f.Nodup) (h2 : (pre ++ post).Nodup) (h3 : ∀ a ∈ f, a ∉ pre ++ post) : (pre ++ f ++ post).Nodup := by
  rw [List.nodup_append] at h2
  obtain ⟨q1, q2, q3⟩ := h2
  rw [List.append_assoc, List.nodup_append]
  refine ⟨q1, List.nodup_append.mpr ⟨h1, q2, fun a ha b hb z => h3 a ha (by rw [z]; exact List.mem_append_right _ hb)⟩, fun a ha b hb z => ?_⟩
  rcases List.mem_append.mp hb with hb | hb
  · exact h3 b hb (by rw [← z]; exact List.mem_append_left _ ha)
  · exact q3 a ha b hb z
/-- the list at the end of a path, and what comes of it -/
theorem EnvW.mutate (E : EnvW CA x w O H σ ρ) {i kk : Nat} {d : D} {pp : List Ps} {ds : List D} {v : V} {v' : V} (h : ρ[i]? = some (.own (pp.length + kk + 1) d)) (g : getP d pp = some (.list ds)) (hv : σ[i]? = some (some v)) (vp : VP H v pp v') :
    ∃ l xs fps, v' = .ref l ∧ H l = some (.lst xs) ∧ fps.Nodup ∧ (∀ a ∈ fps, w a = some i) ∧ OwnAll CA H (off O H) ds kk xs fps ∧
      ∀ ds' xs' fps', fps'.Nodup → (∀ a ∈ fps', a ∈ fps ∨ (O a = true ∧ w a = none ∧ x.R a = none)) → OwnAll CA H (off O H) ds' kk xs' fps' → ∃ d' w', setP d pp (.list ds') = some d' ∧ EnvW CA x w' O (upd H l (.lst xs')) σ (ρ.set i (.own (pp.length + kk + 1) d')) ∧ off O (upd H l (.lst xs')) = off O H := by
  obtain ⟨v0, fp, h1, h2, h3, h4⟩ := E.own i _ d h
  rw [hv] at h1
  cases h1
  obtain ⟨pre, f, post, rfl, o, reb⟩ := focus (off_ext O H) h4 g vp (by omega)
  have ek : pp.length + kk + 1 - pp.length = kk + 1 := by omega
  rw [ek] at o reb
  obtain ⟨l, xs, fps, rfl, hl, rfl, oa⟩ := own_list.mp o
  obtain ⟨n1, n2, n3⟩ := nodup_mid h2
  rw [List.nodup_cons] at n1
  have wl : w l = some i := h3 l (by simp)
  have Ol : O l = true := (E.wO l i wl).1
  refine ⟨l, xs, fps, rfl, hl, n1.2, fun a ha => h3 a (by simp [ha]), oa, fun ds' xs' fps' nd new oa' => ?_⟩
  have lnot : l ∉ fps' := fun z => by
    rcases new l z with z | ⟨_, z, _⟩
    · exact n1.1 z
    · rw [wl] at z
      cases z
  have eoff : off O (upd H l (.lst xs')) = off O H := off_upd Ol
  have ag : Agree (pre ++ post) H (upd H l (.lst xs')) := fun a ha o ho => by
    rw [upd_ne fun z => n3 l (by simp) (by rw [← z]; exact ha)]
    exact ho
  obtain ⟨d', s1, s2⟩ := reb (upd H l (.lst xs')) (off O H) (.list ds') (l :: fps') ag (Ext.refl _) (own_list.mpr ⟨l, xs', fps', rfl, upd_same, rfl, OwnAll.mono (Ext.refl _) ds' kk xs' fps' (fun a ha o ho => by
    rw [upd_ne fun z => lnot (by rw [← z]; exact ha)]
    exact ho) oa'⟩)
  refine ⟨d', fun a => if a ∈ fps' then some i else w a, s1, ?_, eoff⟩
  have nw' : ∀ a ∈ fps', O a = true ∧ (x.R a = none ∨ (a ∈ x.fp0 ∧ i = 0)) := fun a ha => by
    rcases new a ha with z | ⟨z1, _, z2⟩
    · exact E.wO a i (h3 a (by simp [z]))
    · exact ⟨z1, .inl z2⟩
  refine ⟨fun p hp => ?_, by simpa using E.len, fun j d2 hj => ?_, fun a j hj => ?_, fun j k2 d2 hj => ?_, fun a o ho na => ?_, E.inO, E.s0, E.f0, E.mode, E.io0⟩
  · by_cases e : p = l
    · rw [e]
      exact .inl ⟨xs', upd_same⟩
    · rw [upd_ne e]
      exact E.sub p hp
  · rw [eoff]
    rcases getElem?_set' hj with ⟨_, _, e⟩ | ⟨_, hj⟩
    · cases e
    · exact E.fz j d2 hj
  · split at hj
    · rename_i z
      cases hj
      exact nw' a z
    · exact E.wO a j hj
  · rw [eoff]
    rcases getElem?_set' hj with ⟨rfl, _, e⟩ | ⟨ne, hj⟩
    · cases e
      refine ⟨v, pre ++ (l :: fps') ++ post, hv, nodup_mid' (List.nodup_cons.mpr ⟨lnot, nd⟩) n2 (fun a ha z => ?_), fun a ha => ?_, s2⟩
      · rcases List.mem_cons.mp ha with rfl | ha
        · exact n3 a (by simp) z
        · rcases new a ha with y | ⟨_, y, _⟩
          · exact n3 a (by simp [y]) z
          · have := h3 a (by rcases List.mem_append.mp z with z | z <;> simp [z])
            rw [y] at this
            cases this
      · split
        · rfl
        · rename_i z
          apply h3 a
          rcases List.mem_append.mp ha with ha | ha
          · rcases List.mem_append.mp ha with ha | ha
            · simp [ha]
            · rcases List.mem_cons.mp ha with rfl | ha
              · simp
              · exact absurd ha z
          · simp [ha]
    · obtain ⟨u, f2, q1, q2, q3, q4⟩ := E.own j k2 d2 hj
      have nl : ∀ a ∈ f2, a ≠ l := fun a ha z => by
        have := q3 a ha
        rw [z, wl] at this
        exact ne (Option.some.inj this).symm
      refine ⟨u, f2, q1, q2, fun a ha => ?_, OwnR.mono (Ext.refl _) d2 k2 u f2 (fun a ha o ho => by rw [upd_ne (nl a ha)]; exact ho) q4⟩
      rw [if_neg]
      · exact q3 a ha
      · intro z
        rcases new a z with y | ⟨_, y, _⟩
        · have := h3 a (by simp [y])
          rw [q3 a ha] at this
          exact ne (Option.some.inj this)
        · rw [q3 a ha] at y
          cases y
  · have : a ≠ l := fun z => by
      rw [z] at ho na
      rcases (E.wO l i wl).2 with y | ⟨y, _⟩
      · rw [y] at ho
        cases ho
      · exact na y
    rw [upd_ne this]
    exact E.frame a o ho na
/-- one object of a slot's tree is changed -/
theorem EnvW.change (E : EnvW CA x w O H σ ρ) {i k : Nat} {d' : D} {v : V} {fp fp' : List Addr} {l : Addr} {ob : HO} (hv : σ[i]? = some (some v)) (h3 : ∀ a ∈ fp, w a = some i) (hl : l ∈ fp) (kd : Kind (upd H l ob) l) (nd : fp'.Nodup)
    (new : ∀ a ∈ fp', a ∈ fp ∨ (O a = true ∧ w a = none ∧ x.R a = none)) (o : OwnR CA (upd H l ob) (off O H) d' k v fp') : EnvW CA x (fun a => if a ∈ fp' then some i else w a) O (upd H l ob) σ (ρ.set i (.own k d')) ∧ off O (upd H l ob) = off O H := by
  have wl : w l = some i := h3 l hl
  have Ol : O l = true := (E.wO l i wl).1
  have eoff : off O (upd H l ob) = off O H := off_upd Ol
  have nw' : ∀ a ∈ fp', O a = true ∧ (x.R a = none ∨ (a ∈ x.fp0 ∧ i = 0)) := fun a ha => by
    rcases new a ha with z | ⟨z1, _, z2⟩
    · exact E.wO a i (h3 a z)
    · exact ⟨z1, .inl z2⟩
  refine ⟨⟨fun p hp => ?_, by simpa using E.len, fun j d2 hj => ?_, fun a j hj => ?_, fun j k2 d2 hj => ?_, fun a o ho na => ?_, E.inO, E.s0, E.f0, E.mode, E.io0⟩, eoff⟩
  · by_cases e : p = l
    · rw [e]
      exact kd
    · rw [upd_ne e]
      exact E.sub p hp
  · rw [eoff]
    rcases getElem?_set' hj with ⟨_, _, e⟩ | ⟨_, hj⟩
    · cases e
    · exact E.fz j d2 hj
  · split at hj
    · rename_i z
      cases hj
      exact nw' a z
    · exact E.wO a j hj
  · rw [eoff]
    rcases getElem?_set' hj with ⟨rfl, _, e⟩ | ⟨ne, hj⟩
    · cases e
      exact ⟨v, fp', hv, nd, fun a ha => by simp [ha], o⟩
    · obtain ⟨u, f2, q1, q2, q3, q4⟩ := E.own j k2 d2 hj
      have nl : ∀ a ∈ f2, a ≠ l := fun a ha z => by
        have := q3 a ha
        rw [z, wl] at this
        exact ne (Option.some.inj this).symm
      refine ⟨u, f2, q1, q2, fun a ha => ?_, OwnR.mono (Ext.refl _) d2 k2 u f2 (fun a ha o ho => by rw [upd_ne (nl a ha)]; exact ho) q4⟩
      rw [if_neg]
      · exact q3 a ha
      · intro z
        rcases new a z with y | ⟨_, y, _⟩
        · have := h3 a y
          rw [q3 a ha] at this
          exact ne (Option.some.inj this)
        · rw [q3 a ha] at y
          cases y
  · have : a ≠ l := fun z => by
      rw [z] at ho na
      rcases (E.wO l i wl).2 with y | ⟨y, _⟩
      · rw [y] at ho
        cases ho
      · exact na y
    rw [upd_ne this]
    exact E.frame a o ho na
/-- a field of an object that is our own -/
theorem EnvW.field (E : EnvW CA x w O H σ ρ) {i k : Nat} {kc : D × D} {r : List (D × D)} {v : V} {f : Str} (h : ρ[i]? = some (.own (k + 1) (.dict (kc :: r)))) (hv : σ[i]? = some (some v)) :
    ∃ c a C dx fs, kc.1 = .str c ∧ CA.ins c = some C ∧ v = .ref a ∧ H a = some (.ins C dx fs) ∧ fs.length = r.length ∧
      ∀ y u fp, fp.Nodup → (∀ b ∈ fp, O b = true ∧ w b = none ∧ x.R b = none) → OwnR CA H (off O H) y k u fp → ∃ w', EnvW CA x w' O (upd H a (.ins C dx (putF f u fs))) σ (ρ.set i (.own (k + 1) (.dict (kc :: fldSet r f y)))) ∧ off O (upd H a (.ins C dx (putF f u fs))) = off O H := by
  obtain ⟨v0, fp0, h1, h2, h3, h4⟩ := E.own i _ _ h
  rw [hv] at h1
  cases h1
  obtain ⟨a, C, dx, fs, fps, rfl, ha, rfl, oi⟩ := own_dict.mp h4
  obtain ⟨k1, k2⟩ := kc
  simp only [OwnIns] at oi
  obtain ⟨⟨c, rfl, hC⟩, of⟩ := oi
  obtain ⟨pre, g, post, rfl, st⟩ := OwnFs.put (f := f) of
  refine ⟨c, a, C, dx, fs, rfl, hC, rfl, ha, OwnFs.length of, fun y u fp nd hn ow => ?_⟩
  rw [List.nodup_cons] at h2
  obtain ⟨n1, n2, n3⟩ := nodup_mid h2.2
  have wa : w a = some i := h3 a (by simp)
  have anot : ∀ b ∈ fp, b ≠ a := fun b hb z => by
    have := (hn b hb).2.1
    rw [z, wa] at this
    cases this
  have ag : Agree (pre ++ post) H (upd H a (.ins C dx (putF f u fs))) := fun b hb o ho => by
    rw [upd_ne fun z => h2.1 (by rw [← z]; rcases List.mem_append.mp hb with y | y <;> simp [y])]
    exact ho
  have q := st (upd H a (.ins C dx (putF f u fs))) (off O H) y u fp ag (Ext.refl _) (OwnR.mono (Ext.refl _) y k u fp (fun b hb o ho => by rw [upd_ne (anot b hb)]; exact ho) ow)
  have c1 : a ∉ pre ++ fp ++ post := fun z => by
    rcases List.mem_append.mp z with z | z
    · rcases List.mem_append.mp z with z | z
      · exact h2.1 (by simp [z])
      · exact anot a z rfl
    · exact h2.1 (by simp [z])
  have c2 : ∀ b ∈ fp, b ∉ pre ++ post := fun b hb z => by
    have := h3 b (by rcases List.mem_append.mp z with y | y <;> simp [y])
    rw [(hn b hb).2.1] at this
    cases this
  have c3 : ∀ b ∈ a :: (pre ++ fp ++ post), b ∈ a :: (pre ++ g ++ post) ∨ (O b = true ∧ w b = none ∧ x.R b = none) := fun b hb => by
    rcases List.mem_cons.mp hb with rfl | hb
    · exact .inl (by simp)
    · rcases List.mem_append.mp hb with hb | hb
      · rcases List.mem_append.mp hb with hb | hb
        · exact .inl (by simp [hb])
        · exact .inr (hn b hb)
      · exact .inl (by simp [hb])
  have res := E.change (i := i) (k := k + 1) (fp := a :: (pre ++ g ++ post)) (fp' := a :: (pre ++ fp ++ post)) (l := a) (ob := .ins C dx (putF f u fs)) (d' := .dict ((.str c, k2) :: fldSet r f y)) hv h3 (by simp) (.inr ⟨C, dx, putF f u fs, upd_same⟩) (List.nodup_cons.mpr ⟨c1, nodup_mid' nd n2 c2⟩) c3 (own_dict.mpr ⟨a, C, dx, putF f u fs, pre ++ fp ++ post, rfl, upd_same, rfl, by simp only [OwnIns]; exact ⟨⟨c, rfl, hC⟩, q⟩⟩)
  exact ⟨_, res.1, res.2⟩
end
/-! ### paths -/
theorem evP_snoc : ∀ {st : List Pst} {s : Pst} {ρ : List Sl} {pp : List Ps}, evP F (st ++ [s]) ρ = some pp → ∃ p1 p2, evP F st ρ = some p1 ∧ evP F [s] ρ = some p2 ∧ pp = p1 ++ p2
  | [], s, ρ, pp, h => ⟨[], pp, rfl, h, rfl⟩
  | .ix l :: st, s, ρ, pp, h => by
    rw [List.cons_append, evP] at h
    split at h
    · rename_i i e
      rw [Option.map_eq_some_iff] at h
      obtain ⟨p, hp, rfl⟩ := h
      obtain ⟨p1, p2, q1, q2, rfl⟩ := evP_snoc hp
      exact ⟨.inl i :: p1, p2, by rw [evP, e]; simp [q1], q2, rfl⟩
    · cases h
  | .fld f :: st, s, ρ, pp, h => by
    rw [List.cons_append, evP, Option.map_eq_some_iff] at h
    obtain ⟨p, hp, rfl⟩ := h
    obtain ⟨p1, p2, q1, q2, rfl⟩ := evP_snoc hp
    exact ⟨.inr f :: p1, p2, by rw [evP]; simp [q1], q2, rfl⟩
theorem evP_len : ∀ {st : List Pst} {ρ : List Sl} {pp : List Ps}, evP F st ρ = some pp → pp.length = st.length
  | [], ρ, pp, h => by cases h; rfl
  | .ix l :: st, ρ, pp, h => by
    rw [evP] at h
    split at h
    · rw [Option.map_eq_some_iff] at h
      obtain ⟨p, hp, rfl⟩ := h
      simp [evP_len hp]
    · cases h
  | .fld f :: st, ρ, pp, h => by
    rw [evP, Option.map_eq_some_iff] at h
    obtain ⟨p, hp, rfl⟩ := h
    simp [evP_len hp]
theorem getP_append : ∀ {p q : List Ps} {d s : D}, getP d (p ++ q) = some s → ∃ m, getP d p = some m ∧ getP m q = some s
  | [], q, d, s, h => ⟨d, by cases d <;> rfl, h⟩
  | .inl j :: p, q, d, s, h => by
    cases d <;> simp only [List.cons_append, getP, reduceCtorEq, Option.bind_eq_some_iff] at h ⊢
    all_goals
      obtain ⟨d1, h1, h2⟩ := h
      obtain ⟨m, m1, m2⟩ := getP_append h2
      exact ⟨m, ⟨d1, h1, m1⟩, m2⟩
  | .inr f :: p, q, d, s, h => by
    cases d with
    | dict kvs =>
      cases kvs with
      | nil => simp [getP] at h
      | cons a r =>
        simp only [List.cons_append, getP, Option.bind_eq_some_iff] at h ⊢
        obtain ⟨d1, h1, h2⟩ := h
        obtain ⟨m, m1, m2⟩ := getP_append h2
        exact ⟨m, ⟨d1, h1, m1⟩, m2⟩
    | _ => simp [getP] at h
def tP (CA : Cmap) (F : Nat → List D → Option D) (i : Nat) (st : List Pst) : TE := fun σ H Q => ∃ O ρ k d pp sub, EnvR CA O H σ ρ ∧ ρ[i]? = some (.own k d) ∧ evP F st ρ = some pp ∧ getP d pp = some sub ∧
  ∀ v v' H', Ext H H' → σ[i]? = some (some v) → VP H' v pp v' → Rp CA H' sub v' → Q v' H'
section
variable {X : Cx} {pos p0 : Pos}
theorem snp_name {i : Nat} {x : Str} (hN : X.N[i]? = some x) (hv : Vis X.env.scope x) (hd : (x == ("__debug__" : Str)) = false) (hcd : (x == ("__classdict__" : Str)) = false) : PE X (.Name x pos) (tP CA F i []) := by
  refine PE.imp (pe_var hN hv hd hcd) fun σ H Q ⟨O, ρ, k, d, pp, sub, E, h, ep, g, kq⟩ => ?_
  cases ep
  have : sub = d := by cases d <;> (simp only [getP, Option.some.injEq] at g; exact g.symm)
  subst this
  obtain ⟨v, h1, h2⟩ := E.read h
  exact ⟨v, h1, kq v v H (Ext.refl H) h1 rfl h2⟩
def rIxP : R2 := fun x y H Q => ∃ a xs j u, x = .ref a ∧ y = .int j ∧ (Rd H a (.lst xs) ∨ Rd H a (.tup xs)) ∧ atI xs j = some u ∧ Q u H
theorem ixP_ok : IxR X rIxP := by
  intro a b pins s σ H x y v u Q I rx ry h
  refine (ix_seq (X := X)) a b pins s σ H x y v u Q I rx ry ?_
  obtain ⟨p, xs, j, w, rfl, rfl, h1 | h1, h2, k⟩ := h
  · exact .inl ⟨p, xs, _, w, rfl, rfl, .inl h1, h2, k⟩
  · exact .inr (.inl ⟨p, xs, _, w, rfl, rfl, .inl h1, h2, k⟩)
theorem snp_ix {a b : Expr} {i : Nat} {st : List Pst} {lb : L} (ha : PE X a (tP CA F i st)) (hb : PE X b (tD CA F lb)) (hs : PlainIx b) : PE X (.Subscript a b pos) (tP CA F i (st ++ [.ix lb])) := by
  refine PE.imp (pe_ix ixP_ok ha hb hs) fun σ H Q ⟨O, ρ, k, d, pp, sub, E, h, ep, g, kq⟩ => ?_
  obtain ⟨p1, p2, e1, e2, rfl⟩ := evP_snoc ep
  obtain ⟨m, g1, g2⟩ := getP_append g
  rw [evP] at e2
  split at e2
  · rename_i j ej
    simp only [evP, Option.map_some, Option.some.injEq] at e2
    subst e2
    refine ⟨O, ρ, k, d, p1, m, E, h, e1, g1, fun v v' H1 x1 hv vp rp => ⟨O, ρ, _, E.ext x1, ej, fun u H2 x2 r2 => ?_⟩⟩
    have rp2 := Rp.mono x2 m v' rp
    have hu := r2.int (E.sub.ext x1)
    subst hu
    cases m <;> simp only [getP, reduceCtorEq, Option.bind_eq_some_iff] at g2
    · obtain ⟨d1, hd1, g2⟩ := g2
      have : sub = d1 := by cases d1 <;> (simp only [getP, Option.some.injEq] at g2; exact g2.symm)
      subst this
      obtain ⟨a, xs, rfl, q1, q2⟩ := rp_list.mp rp2
      obtain ⟨z, z1, z2⟩ := atI_of q2 hd1
      exact ⟨a, xs, j, z, rfl, rfl, .inl q1, z1, kq v z H2 (x1.trans x2) hv (VP.snoc (vp.ext x2) ⟨a, xs, z, rfl, .inl q1, z1, rfl⟩) z2⟩
    · obtain ⟨d1, hd1, g2⟩ := g2
      have : sub = d1 := by cases d1 <;> (simp only [getP, Option.some.injEq] at g2; exact g2.symm)
      subst this
      obtain ⟨a, xs, rfl, q1, q2⟩ := rp_tuple.mp rp2
      obtain ⟨z, z1, z2⟩ := atI_of q2 hd1
      exact ⟨a, xs, j, z, rfl, rfl, .inr q1, z1, kq v z H2 (x1.trans x2) hv (VP.snoc (vp.ext x2) ⟨a, xs, z, rfl, .inr q1, z1, rfl⟩) z2⟩
  · cases e2
theorem snp_fld {o : Expr} {i : Nat} {st : List Pst} {f : Str} {fl : List Str} (T : ClsF CA fl X.K) (hf : f ∈ fl) (ho : PE X o (tP CA F i st)) (hb : attributeBase o f X.env (eval o X.env) = eval o X.env) : PE X (.Attribute o f pos) (tP CA F i (st ++ [.fld f])) := by
  refine PE.imp (pe_fld ho hb) fun σ H Q ⟨O, ρ, k, d, pp, sub, E, h, ep, g, kq⟩ => ?_
  obtain ⟨p1, p2, e1, e2, rfl⟩ := evP_snoc ep
  obtain ⟨m, g1, g2⟩ := getP_append g
  simp only [evP, Option.map_some, Option.some.injEq] at e2
  subst e2
  refine ⟨O, ρ, k, d, p1, m, E, h, e1, g1, fun v v' H1 x1 hv vp rp => ?_⟩
  cases m with
  | dict kvs =>
    cases kvs with
    | nil => simp [getP] at g2
    | cons kc r =>
      simp only [getP, Option.bind_eq_some_iff] at g2
      obtain ⟨d1, hd1, g2⟩ := g2
      have : sub = d1 := by cases d1 <;> (simp only [getP, Option.some.injEq] at g2; exact g2.symm)
      subst this
      obtain ⟨a, C, dx, fs, rfl, q1, q2⟩ := rp_dict.mp rp
      obtain ⟨kk, kd⟩ := kc
      simp only [RpIns] at q2
      obtain ⟨⟨c, rfl, hc⟩, q2⟩ := q2
      obtain ⟨u, u1, u2⟩ := rpFs_get q2 hd1
      exact ⟨a, C, dx, fs, u, rfl, q1, T.cl c C hc, T.na c C f hc hf, u1, kq v u H1 x1 hv (VP.snoc vp ⟨a, C, dx, fs, u, rfl, q1, u1, rfl⟩) u2⟩
  | _ => simp [getP] at g2
end
end Dz

set_option Elab.async false
set_option linter.all false
set_option maxRecDepth 100000
set_option maxHeartbeats 4000000
namespace Dz
open PySem L2
variable {CA : Cmap} {G : Nat → Dz.Sem}
/-! ### what a statement leaves -/
def RV (CA : Cmap) (x : Fx) (H' : Hp) (d : D) (v : V) : Prop := if x.q.io = true then flat d = true ∧ Rp CA H' d v else NewQ CA x.O0 x.R H' x.q.kf d v
def endS (CA : Cmap) (x : Fx) (W : WX) (B : Hp) (D : Ends) : Out → Prop
  | .nx ρ => ∀ σ H O, Ext B (off O H) → EnvS CA x O H σ ρ → D.nx σ H
  | .rt ρ d => ∀ v σ H O, Ext B (off O H) → EnvS CA x O H σ ρ → RV CA x H d v → D.rt v H
  | .ex ρ c => ∀ σ H O, Ext B (off O H) → EnvS CA x O H σ ρ → W (.ref (CA.exc c)) none σ H
def tS (CA : Cmap) (G : Nat → Dz.Sem) (x : Fx) (W : WX) (s : S) : TS := fun D σ H => ∃ O ρ o, EnvS CA x O H σ ρ ∧ evS G x.q s ρ = some o ∧ endS CA x W (off O H) D o
section
variable {x : Fx} {W : WX} {X : Cx} {pos : Pos}
theorem endS.up {B B' : Hp} {D : Ends} {o : Out} (e : Ext B B') (h : endS CA x W B D o) : endS CA x W B' D o := by
  cases o with
  | nx ρ => exact fun σ H O e' E => h σ H O (e.trans e') E
  | rt ρ d => exact fun v σ H O e' E => h v σ H O (e.trans e') E
  | ex ρ c => exact fun σ H O e' E => h σ H O (e.trans e') E
/-- another way on -/
theorem endS.on {B : Hp} {D D' : Ends} {o : Out} (hr : D'.rt = D.rt) (hn : ∀ ρ, o = .nx ρ → ∀ σ H O, Ext B (off O H) → EnvS CA x O H σ ρ → D'.nx σ H) (h : endS CA x W B D o) : endS CA x W B D' o := by
  cases o with
  | nx ρ => exact hn ρ rfl
  | rt ρ d => exact fun v σ H O e' E r => by rw [hr]; exact h v σ H O e' E r
  | ex ρ c => exact h
theorem PS.imp {st : Stmt} {t t' : TS} (h : PS X st t) (i : ∀ D σ H, t' D σ H → t D σ H) : PS X st t' := ⟨fun pins s σ H D I q => h.run pins s σ H D I (i D σ H q)⟩
theorem PSs.imp {st : List Stmt} {t t' : TS} (h : PSs X st t) (i : ∀ D σ H, t' D σ H → t D σ H) : PSs X st t' := ⟨fun pins s σ H D I q => h.run pins s σ H D I (i D σ H q)⟩
theorem sts_nil : PSs X [] (tS CA G x W .skip) := by
  refine PSs.imp pss_nil fun D σ H ⟨O, ρ, o, E, ev, k⟩ => ?_
  cases ev
  exact k σ H O (Ext.refl _) E
theorem seq_imp {a b : S} {D : Ends} {σ : St} {H : Hp} (h : tS CA G x W (.seq a b) D σ H) : tSeq (tS CA G x W a) (tS CA G x W b) D σ H := by
  obtain ⟨O, ρ, o, E, ev, k⟩ := h
  rw [evS, Option.bind_eq_some_iff] at ev
  obtain ⟨o1, e1, ev⟩ := ev
  refine ⟨O, ρ, o1, E, e1, ?_⟩
  cases o1 with
  | nx ρ2 => exact fun σ' H' O' e' E' => ⟨O', ρ2, o, E', ev, k.up e'⟩
  | rt ρ2 d => cases ev; exact k
  | ex ρ2 c => cases ev; exact k
theorem sts_cons {st : Stmt} {rest : List Stmt} {a b : S} (h1 : PS X st (tS CA G x W a)) (h2 : PSs X rest (tS CA G x W b)) : PSs X (st :: rest) (tS CA G x W (.seq a b)) := PSs.imp (pss_cons h1 h2) fun _ _ _ h => seq_imp h
/-! a slot let go -/
theorem frz_imp {i : Nat} {s : S} {D : Ends} {σ : St} {H : Hp} (hi : x.q.io = true → i ≠ 0) (h : tS CA G x W (.seq (.frz i) s) D σ H) : tS CA G x W s D σ H := by
  obtain ⟨O, ρ, o, ⟨w, E⟩, ev, k⟩ := h
  rw [evS, Option.bind_eq_some_iff] at ev
  obtain ⟨o1, e1, ev⟩ := ev
  rw [evS] at e1
  split at e1
  · rename_i kk d hd
    cases e1
    obtain ⟨w', O', E', l⟩ := E.freeze hd hi
    exact ⟨O', _, o, ⟨w', E'⟩, ev, k.up (off_le l)⟩
  · rename_i d hd
    cases e1
    have ev : evS G x.q s (ρ.set i (.fz d)) = some o := ev
    rw [set_same hd] at ev
    exact ⟨O, ρ, o, ⟨w, E⟩, ev, k⟩
  · cases e1
/-! ### new values into slots -/
/-- what was made is set aside -/
theorem EnvW.made {w : Addr → Option Nat} {O : Addr → Bool} {H H' : Hp} {σ : St} {ρ : List Sl} (E : EnvW CA x w O H σ ρ) (e : Ext H H') {fp : List Addr} (n : ∀ a ∈ fp, H a = none) (kd : ∀ a ∈ fp, Kind H' a) :
    EnvW CA x w (sup O fp) H' σ ρ ∧ (∀ a ∈ fp, sup O fp a = true) ∧ (∀ a ∈ fp, w a = none) ∧ ∀ a ∈ fp, x.R a = none := by
  refine ⟨E.grow e n kd, fun a ha => sup_true.mpr (.inr ha), fun a ha => ?_, fun a ha => E.new (n a ha)⟩
  cases q : w a with
  | none => rfl
  | some i =>
    obtain ⟨o, ho⟩ := E.sub.some (E.wO a i q).1
    rw [n a ha] at ho
    cases ho
theorem set_imp {i k : Nat} {l : L} (g : good l = true) (hk : k ≤ nw l) (hi : x.q.io = true → i ≠ 0) {D : Ends} {σ : St} {H : Hp} (h : tS CA G x W (.set i k l) D σ H) : tAsg (tD CA (okF G) l) (gName i) D σ H := by
  obtain ⟨O, ρ, o, ⟨w, E⟩, ev, kq⟩ := h
  rw [evS, Option.map_eq_some_iff] at ev
  obtain ⟨d, ed, rfl⟩ := ev
  refine ⟨O, ρ, d, E.r, ed, fun v H' e r => ?_⟩
  obtain ⟨fp, n, f, ow⟩ := (VR.good g).mp r
  obtain ⟨E1, q1, q2, q3⟩ := E.made e f (OwnR.here ow)
  obtain ⟨w', O', E2, l2, _⟩ := E1.assign (i := i) n q1 q2 q3 ow hk hi
  exact kq _ H' O' ((off_grow e f).trans (off_le l2)) ⟨w', E2⟩
def setV : List (Nat × Nat) → List V → St → St
  | (i, _) :: gs, v :: vs, σ => setV gs vs (σ.set i (some v))
  | _, _, σ => σ
theorem assignAll : ∀ {gs : List (Nat × Nat)} {ds : List D} {kd : Nat} {vs : List V} {fp : List Addr} {w : Addr → Option Nat} {O : Addr → Bool} {H : Hp} {σ : St} {ρ ρ' : List Sl}, EnvW CA x w O H σ ρ → fp.Nodup → (∀ a ∈ fp, O a = true) → (∀ a ∈ fp, w a = none) → (∀ a ∈ fp, x.R a = none) →
    OwnAll CA H (off O H) ds kd vs fp → (∀ g ∈ gs, g.2 ≤ kd ∧ (x.q.io = true → g.1 ≠ 0)) → setG gs ds ρ = some ρ' → ∃ w' O', EnvW CA x w' O' H (setV gs vs σ) ρ' ∧ (∀ a, O' a = true → O a = true) ∧ vs.length = gs.length
  | [], [], kd, vs, fp, w, O, H, σ, ρ, ρ', E, _, _, _, _, o, _, h => by
    cases h
    obtain ⟨rfl, _⟩ := oa_nil.mp o
    exact ⟨w, O, E, fun _ z => z, rfl⟩
  | (i, k) :: gs, d :: ds, kd, vs, fp, w, O, H, σ, ρ, ρ', E, nd, fO, fw, fR, o, hg, h => by
    obtain ⟨v, vs', f1, f2, rfl, rfl, o1, o2⟩ := oa_cons.mp o
    rw [List.nodup_append] at nd
    obtain ⟨n1, n2, n3⟩ := nd
    obtain ⟨hk, hi⟩ := hg (i, k) List.mem_cons_self
    obtain ⟨w1, O1, E1, l1, s1⟩ := E.assign (i := i) (k := k) n1 (fun a ha => fO a (List.mem_append_left _ ha)) (fun a ha => fw a (List.mem_append_left _ ha)) (fun a ha => fR a (List.mem_append_left _ ha)) o1 hk hi
    have ni : ∀ a ∈ f2, a ∉ f1 := fun a ha z => n3 a z a ha rfl
    rw [setG] at h
    obtain ⟨w2, O2, E2, l2, e2⟩ := assignAll E1 n2 (fun a ha => by rw [(s1 a (ni a ha)).1]; exact fO a (List.mem_append_right _ ha)) (fun a ha => by rw [(s1 a (ni a ha)).2]; exact fw a (List.mem_append_right _ ha)) (fun a ha => fR a (List.mem_append_right _ ha)) (OwnAll.mono (off_le l1) ds kd vs' f2 (fun a _ o z => z) o2) (fun g hg' => hg g (List.mem_cons_of_mem _ hg')) h
    exact ⟨w2, O2, E2, fun a z => l1 a (l2 a z), by simp [e2]⟩
  | [], _ :: _, _, _, _, _, _, _, _, _, _, _, _, _, _, _, _, _, h => by cases h
  | _ :: _, [], _, _, _, _, _, _, _, _, _, _, _, _, _, _, _, _, h => by cases h
theorem gNames_set : ∀ {gs : List (Nat × Nat)} {vs : List V} {σ : St} {H : Hp} {Q : St → Hp → Prop}, vs.length = gs.length → Q (setV gs vs σ) H → gNames (gs.map (·.1)) vs σ H Q
  | [], [], σ, H, Q, _, h => ⟨rfl, h⟩
  | (i, k) :: gs, v :: vs, σ, H, Q, hl, h => ⟨v, vs, rfl, gNames_set (by simpa using hl) h⟩
  | [], _ :: _, _, _, _, hl, _ => by simp at hl
  | _ :: _, [], _, _, _, hl, _ => by simp at hl
/-- the items of a tuple that is new -/
theorem NewQ.items {O : Addr → Bool} {H H' : Hp} {k : Nat} {ds : List D} {v : V} (h : NewQ CA O H H' k (.tuple ds) v) : ∃ a xs fp, v = .ref a ∧ Rd H' a (.tup xs) ∧ fp.Nodup ∧ (∀ a ∈ fp, H a = none) ∧ OwnAll CA H' (off (sup O fp) H') ds (k - 1) xs fp := by
  obtain ⟨fp, n, f, o⟩ := h
  cases k with
  | zero =>
    obtain ⟨rfl, r⟩ := own0.mp o
    obtain ⟨a, xs, rfl, r1, r2⟩ := rp_tuple.mp r
    exact ⟨a, xs, [], rfl, rd_off r1, n, f, oa0.mpr ⟨rfl, r2⟩⟩
  | succ k =>
    obtain ⟨a, xs, rfl, r1, r2⟩ := own_tuple.mp o
    exact ⟨a, xs, fp, rfl, rd_off r1, n, f, r2⟩
theorem setT_imp {gs : List (Nat × Nat)} {l : L} (g : good l = true) (hk : ∀ q ∈ gs, q.2 ≤ nw l - 1 ∧ (x.q.io = true → q.1 ≠ 0)) {D : Ends} {σ : St} {H : Hp} (h : tS CA G x W (.setT gs l) D σ H) : tAsg (tD CA (okF G) l) (gTup X.K gs.length (gNames (gs.map (·.1)))) D σ H := by
  obtain ⟨O, ρ, o, ⟨w, E⟩, ev, kq⟩ := h
  rw [evS, Option.bind_eq_some_iff] at ev
  obtain ⟨ds, ed, ev⟩ := ev
  rw [Option.map_eq_some_iff] at ev
  obtain ⟨ρ', es, rfl⟩ := ev
  rw [unT_some] at ed
  refine ⟨O, ρ, _, E.r, ed, fun v H' e r => ?_⟩
  obtain ⟨a, xs, fp, rfl, r1, n, f, ow⟩ := ((VR.good g).mp r).items
  obtain ⟨E1, q1, q2, q3⟩ := E.made e f ow.here
  obtain ⟨w', O', E2, l2, hl⟩ := assignAll E1 n q1 q2 q3 ow hk es
  exact ⟨a, xs, rfl, .inl r1, hl, gNames_set hl (kq _ H' O' ((off_grow e f).trans (off_le l2)) ⟨w', E2⟩)⟩
def leK : List (Nat × Nat) → List Nat → Bool
  | [], [] => true
  | g :: gs, k :: ks => decide (g.2 ≤ k) && leK gs ks
  | _, _ => false
theorem assignK : ∀ {gs : List (Nat × Nat)} {ds : List D} {ks : List Nat} {vs : List V} {fp : List Addr} {w : Addr → Option Nat} {O : Addr → Bool} {H : Hp} {σ : St} {ρ ρ' : List Sl}, EnvW CA x w O H σ ρ → fp.Nodup → (∀ a ∈ fp, O a = true) → (∀ a ∈ fp, w a = none) → (∀ a ∈ fp, x.R a = none) →
    OwnK CA H (off O H) ks ds vs fp → leK gs ks = true → (∀ g ∈ gs, x.q.io = true → g.1 ≠ 0) → setG gs ds ρ = some ρ' → ∃ w' O', EnvW CA x w' O' H (setV gs vs σ) ρ' ∧ (∀ a, O' a = true → O a = true) ∧ vs.length = gs.length
  | [], ds, ks, vs, fp, w, O, H, σ, ρ, ρ', E, _, _, _, _, o, hg, _, h => by
    cases o with
    | nil =>
      cases h
      exact ⟨w, O, E, fun _ z => z, rfl⟩
    | cons _ _ => cases hg
  | (i, k) :: gs, ds, ks, vs, fp, w, O, H, σ, ρ, ρ', E, nd, fO, fw, fR, o, hg, hi, h => by
    cases o with
    | nil => cases hg
    | @cons kd ks d ds v vs' f1 f2 o1 o2 =>
      rw [List.nodup_append] at nd
      obtain ⟨n1, n2, n3⟩ := nd
      rw [leK, Bool.and_eq_true, decide_eq_true_eq] at hg
      obtain ⟨w1, O1, E1, l1, s1⟩ := E.assign (i := i) (k := k) n1 (fun a ha => fO a (List.mem_append_left _ ha)) (fun a ha => fw a (List.mem_append_left _ ha)) (fun a ha => fR a (List.mem_append_left _ ha)) o1 hg.1 (hi (i, k) List.mem_cons_self)
      have ni : ∀ a ∈ f2, a ∉ f1 := fun a ha z => n3 a z a ha rfl
      rw [setG] at h
      obtain ⟨w2, O2, E2, l2, e2⟩ := assignK E1 n2 (fun a ha => by rw [(s1 a (ni a ha)).1]; exact fO a (List.mem_append_right _ ha)) (fun a ha => by rw [(s1 a (ni a ha)).2]; exact fw a (List.mem_append_right _ ha)) (fun a ha => fR a (List.mem_append_right _ ha)) (o2.mono (off_le l1)) hg.2 (fun g hg' => hi g (List.mem_cons_of_mem _ hg')) h
      exact ⟨w2, O2, E2, fun a z => l1 a (l2 a z), by simp [e2]⟩
/-- the same, from a row of arguments -/
theorem setA_imp {gs : List (Nat × Nat)} {l : L} (g : goodA l = true) (hk : leK gs (nwL l) = true) (hi : ∀ q ∈ gs, x.q.io = true → q.1 ≠ 0) {D : Ends} {σ : St} {H : Hp} (h : tS CA G x W (.setT gs (.tup l)) D σ H) : tA CA (okF G) l σ H fun vs H1 => vs.length = gs.length ∧ D.nx (setV gs vs σ) H1 := by
  obtain ⟨O, ρ, o, ⟨w, E⟩, ev, kq⟩ := h
  rw [evS, Option.bind_eq_some_iff] at ev
  obtain ⟨ds, ed, ev⟩ := ev
  rw [Option.map_eq_some_iff] at ev
  obtain ⟨ρ', es, rfl⟩ := ev
  rw [unT_some, evE, Option.bind_eq_some_iff] at ed
  obtain ⟨ds', ed, ev⟩ := ed
  rw [Option.ite_none_right_eq_some] at ev
  obtain ⟨_, ev⟩ := ev
  cases ev
  rw [unT_some] at ed
  refine ⟨O, ρ, _, E.r, ed, fun vs H' e r => ?_⟩
  obtain ⟨fp, n, f, ow⟩ := r.ownK E.sub g
  obtain ⟨E1, q1, q2, q3⟩ := E.made e f ow.here
  obtain ⟨w', O', E2, l2, hl⟩ := assignK E1 n q1 q2 q3 ow hk hi es
  exact ⟨hl, kq _ H' O' ((off_grow e f).trans (off_le l2)) ⟨w', E2⟩⟩
/-! ### ways -/
theorem st_if {c : Expr} {a b : List Stmt} {lt : L} {sa sb : S} (hc : PT X c (tT CA (okF G) lt)) (ha : PSs X a (tS CA G x W sa)) (hb : PSs X b (tS CA G x W sb)) : PS X (.If c a b pos) (tS CA G x W (.ifs lt sa sb)) := by
  refine PS.imp (ps_if hc ha hb) fun D σ H ⟨O, ρ, o, E, ev, k⟩ => ?_
  rw [evS, Option.bind_eq_some_iff] at ev
  obtain ⟨t, et, ev⟩ := ev
  rw [unB_some] at et
  refine ⟨O, ρ, t, E.r, et, fun H' e => ?_⟩
  cases t with
  | true =>
    rw [if_pos rfl] at ev ⊢
    exact ⟨O, ρ, o, E.ext e, ev, k.up e.off⟩
  | false =>
    rw [if_neg Bool.false_ne_true] at ev ⊢
    exact ⟨O, ρ, o, E.ext e, ev, k.up e.off⟩
theorem st_expr {e : Expr} {l : L} (he : PE X e (tD CA (okF G) l)) (hs : swapsWith e none pos.line X.env = pure false) : PS X (.Expr e pos) (tS CA G x W (.expr l)) := by
  refine PS.imp (ps_expr he hs) fun D σ H ⟨O, ρ, o, E, ev, k⟩ => ?_
  rw [evS, Option.map_eq_some_iff] at ev
  obtain ⟨d, ed, rfl⟩ := ev
  exact ⟨O, ρ, d, E.r, ed, fun v H' e r => k σ H' O e.off (E.ext e)⟩
theorem EnvW.ret {w : Addr → Option Nat} {O : Addr → Bool} {H H' : Hp} {σ : St} {ρ : List Sl} (E : EnvW CA x w O H σ ρ) {k : Nat} {d : D} {v : V} (hk : x.q.kf ≤ k) (h : NewQ CA O H H' k d v) : NewQ CA x.O0 x.R H' x.q.kf d v := by
  obtain ⟨fp, n, f, o⟩ := h.less E.sub hk
  exact ⟨fp, n, fun a ha => E.new (f a ha), OwnR.mono (off_le fun a z => by
    rcases sup_true.mp z with z | z
    · exact sup_true.mpr (.inl (E.inO a z))
    · exact sup_true.mpr (.inr z)) d _ v fp (fun a _ o z => z) o⟩
theorem st_ret {e : Expr} {l : L} (g : good l = true) (hk : x.q.io = false → x.q.kf ≤ nw l) (he : PE X e (tD CA (okF G) l)) : PS X (.Return (some e) pos) (tS CA G x W (.ret l)) := by
  refine PS.imp (ps_ret he) fun D σ H ⟨O, ρ, o, ⟨w, E⟩, ev, k⟩ => ?_
  rw [evS, Option.bind_eq_some_iff] at ev
  obtain ⟨d, ed, ev⟩ := ev
  split at ev
  · cases ev
  · rename_i hio
    cases ev
    refine ⟨O, ρ, d, E.r, ed, fun v H' e r => k v σ H' O e.off ⟨w, E.ext e⟩ ?_⟩
    unfold RV
    cases q : x.q.io with
    | true =>
      rw [if_pos rfl]
      rw [q] at hio
      exact ⟨by simpa using hio, r.rp E.sub⟩
    | false =>
      rw [if_neg Bool.false_ne_true]
      exact E.ret (hk q) ((VR.good g).mp r)
theorem st_retN : PS X (.Return none pos) (tS CA G x W .retN) := by
  refine PS.imp ps_retN fun D σ H ⟨O, ρ, o, E, ev, k⟩ => ?_
  cases ev
  refine k .non σ H O (Ext.refl _) E ?_
  unfold RV
  split
  · exact ⟨rfl, rp_none.mpr rfl⟩
  · exact .flat (H'' := H) rfl (rp_none.mpr rfl)
theorem st_retO {i : Nat} {y : Str} {p' : Pos} (hN : X.N[i]? = some y) (hv : Vis X.env.scope y) (hd : (y == ("__debug__" : Str)) = false) (hcd : (y == ("__classdict__" : Str)) = false) : PS X (.Return (some (.Name y p')) pos) (tS CA G x W (.retO i)) := by
  refine PS.imp (ps_ret (pe_var hN hv hd hcd)) fun D σ H ⟨O, ρ, o, ⟨w, E⟩, ev, k⟩ => ?_
  rw [evS] at ev
  split at ev
  · rename_i kk d h
    split at ev
    · rename_i hc
      cases ev
      simp only [Bool.and_eq_true, decide_eq_true_eq, Bool.not_eq_true'] at hc
      obtain ⟨v, fp, h1, h2, h3, h4⟩ := E.own i kk d h
      refine ⟨v, h1, k v σ H O (Ext.refl _) ⟨w, E⟩ ?_⟩
      unfold RV
      rw [if_neg (by rw [hc.2]; exact Bool.false_ne_true)]
      have fR : ∀ a ∈ fp, x.R a = none := fun a ha => by
        rcases (E.wO a i (h3 a ha)).2 with z | ⟨z, _⟩
        · exact z
        · rw [E.mode hc.2] at z
          cases z
      have : NewQ CA x.O0 x.R H kk d v := ⟨fp, h2, fR, OwnR.mono (off_le fun a z => by
        rcases sup_true.mp z with z | z
        · exact E.inO a z
        · exact (E.wO a i (h3 a z)).1) d kk v fp (fun a _ o z => z) h4⟩
      exact this.less E.s0 hc.1
    · cases ev
  · cases ev
/-! ### loops -/
/-- the target of a loop -/
theorem gTS {K : PySem.W.Frag} {g : Tg} {d : D} {v : V} {w : Addr → Option Nat} {O : Addr → Bool} {H : Hp} {σ : St} {ρ ρ' : List Sl} {Q : St → Hp → Prop} (E : EnvW CA x w O H σ ρ) (hi : x.q.io = true → ∀ i ∈ tgSlots g, i ≠ 0) (r : Rp CA (off O H) d v) (h : bindT g d ρ = some ρ')
    (k : ∀ σ' O' w', EnvW CA x w' O' H σ' ρ' → (∀ a, O' a = true → O a = true) → Q σ' H) : gT K g v σ H Q := by
  cases g with
  | one i =>
    cases h
    obtain ⟨w', O', E', l, _⟩ := E.assign (i := i) (k := 0) (kd := 0) (fp := []) .nil (fun a z => (by cases z)) (fun a z => (by cases z)) (fun a z => (by cases z)) (own0.mpr ⟨rfl, r⟩) (Nat.le_refl _) (fun z => hi z i List.mem_cons_self)
    exact k _ O' w' E' l
  | many is =>
    cases d <;> simp only [bindT, reduceCtorEq] at h
    rename_i ds
    obtain ⟨a, xs, rfl, h1, h2⟩ := rp_tuple.mp r
    have hs : ∀ {is : List Nat} {ds : List D} {ρ ρ' : List Sl}, setAll is ds ρ = some ρ' → setG (is.map fun i => (i, 0)) ds ρ = some ρ' := by
      intro is
      induction is with
      | nil => intro ds ρ ρ' h; cases ds <;> exact h
      | cons i is ih =>
        intro ds ρ ρ' h
        cases ds with
        | nil => cases h
        | cons d ds => exact ih h
    obtain ⟨w', O', E', l, hl⟩ := assignAll (gs := is.map fun i => (i, 0)) (kd := 0) (fp := []) E .nil (fun a z => (by cases z)) (fun a z => (by cases z)) (fun a z => (by cases z)) (oa0.mpr ⟨rfl, h2⟩) (fun g hg => by
      obtain ⟨i, hi', rfl⟩ := List.mem_map.mp hg
      exact ⟨Nat.le_refl _, fun z => hi z i hi'⟩) (hs h)
    refine ⟨a, xs, rfl, .inl (rd_off h1), by rw [hl, List.length_map], ?_⟩
    have := gNames_set (gs := is.map fun i => (i, 0)) (H := H) (Q := Q) hl (k _ O' w' E' l)
    have e5 : (is.map fun i => (i, 0)).map (·.1) = is := by
      rw [List.map_map]
      exact List.map_id is
    rw [e5] at this
    exact this
theorem st_for {tg iter : Expr} {body : List Stmt} {k : Src} {l : L} {g : Tg} {b : S} (gl : goodA l = true) (hi : x.q.io = true → ∀ i ∈ tgSlots g, i ≠ 0) (hp : PassesOwn (model X.prog X.w) X.A X.env X.xe) (hc : X.calm = true) (hI : PI X tg iter (tI CA (okF G) k l)) (hg : PG X tg (gT X.K g)) (hb : PSs X body (tS CA G x W b))
    (hs : ∀ z, foldedSetIterable iter X.env z = pure z) : PS X (.For tg iter body [] pos) (tS CA G x W (.for_ k l g b)) := by
  refine PS.imp (ps_for hp hc hI hg hb hs) fun D σ H ⟨O, ρ, o, E, ev, kq⟩ => ?_
  rw [evS, Option.bind_eq_some_iff] at ev
  obtain ⟨items, ei, ev⟩ := ev
  refine ⟨O, ρ, items, E.r, ei, fun J H1 e1 hJ => ?_⟩
  obtain ⟨Gd, Y, Wk, hG, hY⟩ := hJ
  have eB : srcB l O H1 = off O H1 := by unfold srcB; rw [if_pos gl]
  refine for_it Wk (fun i σ' H' => ∃ O' ρ', EnvS CA x O' H' σ' ρ' ∧ Ext (off O H1) (off O' H') ∧ forGo (evS G x.q b) g (items.drop i) ρ' = some o) ⟨O, ρ, E.ext e1, Ext.refl _, ev⟩ (fun i σ' H' _ ⟨O', ρ', _, ex, _⟩ => hG H' (by rw [eB]; exact ex.trans (off_ext O' H'))) (fun i v σ' H' H3 hlt ⟨O', ρ', ⟨w', E'⟩, ex, er⟩ y => ?_) (fun σ' H' ⟨O', ρ', E', ex, er⟩ => ?_)
  · obtain ⟨e3, dx, hdx, rx⟩ := hY i O' H' v H3 hlt ex E'.sub y
    have hdrop : items.drop i = dx :: items.drop (i + 1) := by
      obtain ⟨hl, he⟩ := List.getElem?_eq_some_iff.mp hdx
      rw [List.drop_eq_getElem_cons hl, he]
    rw [hdrop, forGo, Option.bind_eq_some_iff] at er
    obtain ⟨ρ2, eb, er⟩ := er
    rw [Option.bind_eq_some_iff] at er
    obtain ⟨ob, eob, er⟩ := er
    refine gTS (E'.ext e3) hi rx eb fun σ2 O2 w2 E2 l2 => ⟨O2, ρ2, ob, ⟨w2, E2⟩, eob, ?_⟩
    have ex2 : Ext (off O H1) (off O2 H3) := ex.trans (e3.off.trans (off_le l2))
    cases ob with
    | nx ρ3 => exact fun σ4 H4 O4 e4 E4 => ⟨O4, ρ3, E4, ex2.trans e4, er⟩
    | rt ρ3 d =>
      cases er
      exact kq.up (e1.off.trans ex2)
    | ex ρ3 c =>
      cases er
      exact kq.up (e1.off.trans ex2)
  · rw [List.drop_length, forGo] at er
    cases er
    exact kq σ' H' O' (e1.off.trans ex) E'
theorem st_while {c : Expr} {body : List Stmt} {lt : L} {b : S} (hp : PassesOwn (model X.prog X.w) X.A X.env X.xe) (hc : PT X c (tT CA (okF G) lt)) (hb : PSs X body (tS CA G x W b)) : PS X (.While c body [] pos) (tS CA G x W (.wh lt b)) := by
  refine PS.imp (ps_while hp hc hb) fun D σ H ⟨O, ρ, o, E, ev, kq⟩ => ?_
  rw [evS] at ev
  refine ⟨fun m σ' H' => ∃ O' ρ', EnvS CA x O' H' σ' ρ' ∧ Ext (off O H) (off O' H') ∧ whGo (evE (okF G) lt) (evS G x.q b) m ρ' = some o, ⟨1000, O, ρ, E, Ext.refl _, ev⟩, ?_⟩
  rintro m σ' H' ⟨O', ρ', E', ex, er⟩
  cases m with
  | zero => cases er
  | succ m =>
    rw [whGo, Option.bind_eq_some_iff] at er
    obtain ⟨t, et, er⟩ := er
    rw [unB_some] at et
    refine ⟨O', ρ', t, E'.r, et, fun H2 e2 => ?_⟩
    cases t with
    | true =>
      rw [if_pos rfl] at er ⊢
      rw [Option.bind_eq_some_iff] at er
      obtain ⟨ob, eob, er⟩ := er
      refine ⟨fun σ3 H3 => ∃ O3 ρ3, EnvS CA x O3 H3 σ3 ρ3 ∧ Ext (off O H) (off O3 H3) ∧ whGo (evE (okF G) lt) (evS G x.q b) m ρ3 = some o, fun σ3 H3 h3 => ⟨m, Nat.lt_succ_self m, h3⟩, O', ρ', ob, E'.ext e2, eob, ?_⟩
      have ex2 : Ext (off O H) (off O' H2) := ex.trans e2.off
      cases ob with
      | nx ρ3 => exact fun σ4 H4 O4 e4 E4 => ⟨O4, ρ3, E4, ex2.trans e4, er⟩
      | rt ρ3 d =>
        cases er
        exact kq.up ex2
      | ex ρ3 c =>
        cases er
        exact kq.up ex2
    | false =>
      rw [if_neg Bool.false_ne_true] at er ⊢
      cases er
      exact kq σ' H2 O' (ex.trans e2.off) (E'.ext e2)
/-! ### raising -/
theorem st_raise {e : Expr} {c : Str} (hc : X.calm = true) (tk : Takes X W) (he : PMk X e fun _ H Q => Q (.ref (CA.exc c)) none H) : PS X (.Raise (some e) none pos) (tS CA G x W (.raise c)) := by
  refine PS.imp (ps_raise hc tk he) fun D σ H ⟨O, ρ, o, E, ev, k⟩ => ?_
  cases ev
  exact k σ H O (Ext.refl _) E
end
end Dz

set_option Elab.async false
set_option linter.all false
set_option maxRecDepth 100000
set_option maxHeartbeats 4000000
namespace Dz
open PySem L2
variable {CA : Cmap} {G : Nat → Dz.Sem}
section
variable {x : Fx} {W : WX} {X : Cx} {pos apos cpos : Pos}
theorem slotO_some {ρ : List Sl} {i k : Nat} {d : D} (h : slotO ρ i k = some d) : ρ[i]? = some (.own k d) := by
  unfold slotO at h
  split at h
  · rename_i j d' e
    split at h
    · rename_i q
      cases h
      rw [e, q]
    · cases h
  · cases h
/-- what all changes in place have in common -/
theorem mut_imp {m : Mut} {i k : Nat} {p : List Pst} {la : L} {r : V → List V → Hp → VK → Prop} {DD : Ends} {σ : St} {H : Hp}
    (hr : ∀ {w : Addr → Option Nat} {O : Addr → Bool} {H1 H2 : Hp} {ρ : List Sl} {d : D} {pp : List Ps} {ds xs ds' : List D} {v v' : V} {vs : List V} {Q : VK}, EnvW CA x w O H1 σ ρ → Ext H1 H2 → ρ[i]? = some (.own (pp.length + k + 1) d) → getP d pp = some (.list ds) → σ[i]? = some (some v) → VP H1 v pp v' → mutF m ds xs = some ds' → AL CA O H1 H2 la xs vs →
      (∀ d' H3 O' z, setP d pp (.list ds') = some d' → Ext (off O H1) (off O' H3) → EnvS CA x O' H3 σ (ρ.set i (.own (pp.length + k + 1) d')) → Q z H3) → r v' vs H2 Q)
    (h : tS CA G x W (.mut m i p k la) DD σ H) : tDrop (tBM X.K "list" r (tP CA (okF G) i p) (tA CA (okF G) la)) DD σ H := by
  obtain ⟨O, ρ, o, ⟨w, E⟩, ev, kq⟩ := h
  rw [evS, Option.bind_eq_some_iff] at ev
  obtain ⟨d, hd, ev⟩ := ev
  rw [Option.bind_eq_some_iff] at ev
  obtain ⟨pp, hp, ev⟩ := ev
  rw [Option.bind_eq_some_iff] at ev
  obtain ⟨xs, hx, ev⟩ := ev
  rw [unT_some] at hx
  split at ev
  · rename_i ds g
    rw [Option.bind_eq_some_iff] at ev
    obtain ⟨ds', hm, ev⟩ := ev
    rw [Option.map_eq_some_iff] at ev
    obtain ⟨d', hs, rfl⟩ := ev
    have el := evP_len hp
    have hd := slotO_some hd
    rw [← el] at hd kq
    refine ⟨O, ρ, _, d, pp, .list ds, E.r, hd, hp, g, fun v v' H1 e1 hv vp rp => ⟨tyL rp, O, ρ, xs, E.r.ext e1, hx, fun vs H2 e2 al => ?_⟩⟩
    refine hr (E.ext e1) e2 hd g hv vp hm al fun d2 H3 O3 z hs2 ex E3 => ?_
    rw [hs] at hs2
    cases hs2
    exact kq σ H3 O3 (e1.off.trans ex) E3
  · cases ev
theorem st_append {o e : Expr} {i k : Nat} {p : List Pst} {l : L} (gl : good l = true) (hk : k ≤ nw l) (ho : PE X o (tP CA (okF G) i p)) (he : PE X e (tD CA (okF G) l)) (st : isStar e = false)
    (hb : attributeBase o "append" X.env (eval o X.env) = eval o X.env) (hl : (apos.endLine == cpos.line) = true) : PS X (.Expr (.Call (.Attribute o "append" apos) [e] [] cpos) pos) (tS CA G x W (.mut .append i p k (.acons l .anil))) := by
  have hst := star1 (es := []) (env := X.env) st
  refine PS.imp (ps_expr (pe_bm PySem.F.plainAttrs_list PySem.F.slot_list_append PySem.F.type_list_append mt_append ho (sna_cons he sna_nil hst) hb (by rw [hst]; rfl) hl hst (by rfl))) fun D σ H h => mut_imp (fun {w O H1 H2 ρ d pp ds xs ds' v v' vs Q} E e2 hd g hv vp hm al kq => ?_) h
  obtain ⟨y, u, rfl, rfl, r⟩ := al.one E.sub
  simp only [mutF, Option.ite_none_right_eq_some, Option.some.injEq] at hm
  obtain ⟨hlim, rfl⟩ := hm
  obtain ⟨fp, n, f, ow⟩ := ((VR.good gl).mp r).less E.sub hk
  obtain ⟨E1, q1, q2, q3⟩ := E.made e2 f (OwnR.here ow)
  obtain ⟨a, zs, fps, rfl, ha, nf, wf, oa, mk⟩ := E1.mutate hd g hv (vp.ext e2)
  obtain ⟨d', w', s1, E3, eo⟩ := mk (ds ++ [y]) (zs ++ [u]) (fps ++ fp) (List.nodup_append.mpr ⟨nf, n, fun b hb c hc z => by
    have z1 := wf b hb
    rw [z, q2 c hc] at z1
    cases z1⟩) (fun b hb => by
    rcases List.mem_append.mp hb with z | z
    · exact .inl z
    · exact .inr ⟨q1 b z, q2 b z, q3 b z⟩) (oa.append (oa_cons.mpr ⟨u, [], fp, [], rfl, by simp, ow, oa_nil.mpr ⟨rfl, rfl⟩⟩))
  refine ⟨a, zs, u, rfl, rfl, ha, ?_, kq d' _ (sup O fp) _ s1 (by rw [eo]; exact off_grow e2 f) ⟨w', E3⟩⟩
  have := lim_line hlim
  rw [oa.length]
  omega
theorem st_extend {o e : Expr} {i k : Nat} {p : List Pst} {l : L} (gl : good l = true) (hk : k + 1 ≤ nw l) (ho : PE X o (tP CA (okF G) i p)) (he : PE X e (tD CA (okF G) l)) (st : isStar e = false)
    (hb : attributeBase o "extend" X.env (eval o X.env) = eval o X.env) (hl : (apos.endLine == cpos.line) = true) : PS X (.Expr (.Call (.Attribute o "extend" apos) [e] [] cpos) pos) (tS CA G x W (.mut .extend i p k (.acons l .anil))) := by
  have hst := star1 (es := []) (env := X.env) st
  refine PS.imp (ps_expr (pe_bm PySem.F.plainAttrs_list PySem.F.slot_list_extend PySem.F.type_list_extend mt_extend ho (sna_cons he sna_nil hst) hb (by rw [hst]; rfl) hl hst (by rfl))) fun D σ H h => mut_imp (fun {w O H1 H2 ρ d pp ds xs ds' v v' vs Q} E e2 hd g hv vp hm al kq => ?_) h
  obtain ⟨y, u, rfl, rfl, r⟩ := al.one E.sub
  cases y <;> simp only [mutF, Option.ite_none_right_eq_some, Option.some.injEq, reduceCtorEq] at hm
  rename_i es
  obtain ⟨hlim, rfl⟩ := hm
  obtain ⟨fp, n, f, ow⟩ := ((VR.good gl).mp r).less E.sub hk
  obtain ⟨E1, q1, q2, q3⟩ := E.made e2 f (OwnR.here ow)
  obtain ⟨b, ys, fpz, rfl, hB, rfl, oz⟩ := own_list.mp ow
  obtain ⟨a, zs, fps, rfl, ha, nf, wf, oa, mk⟩ := E1.mutate hd g hv (vp.ext e2)
  rw [List.nodup_cons] at n
  obtain ⟨d', w', s1, E3, eo⟩ := mk (ds ++ es) (zs ++ ys) (fps ++ fpz) (List.nodup_append.mpr ⟨nf, n.2, fun b hb c hc z => by
    have z1 := wf b hb
    rw [z, q2 c (List.mem_cons_of_mem _ hc)] at z1
    cases z1⟩) (fun b hb => by
    rcases List.mem_append.mp hb with z | z
    · exact .inl z
    · exact .inr ⟨q1 b (List.mem_cons_of_mem _ z), q2 b (List.mem_cons_of_mem _ z), q3 b (List.mem_cons_of_mem _ z)⟩) (oa.append oz)
  refine ⟨a, b, zs, ys, rfl, rfl, ha, hB, ?_, kq d' _ _ _ s1 (by rw [eo]; exact off_grow e2 f) ⟨w', E3⟩⟩
  rw [oa.length, oz.length]
  exact lim_line hlim
theorem erase_map {α β : Type} (f : α → β) : ∀ (l : List α) (j : Nat), (l.map f).eraseIdx j = (l.eraseIdx j).map f
  | [], _ => rfl
  | _ :: _, 0 => rfl
  | a :: l, j + 1 => by rw [List.map_cons, List.eraseIdx_cons_succ, List.eraseIdx_cons_succ, List.map_cons, erase_map f l j]
theorem st_remove {o e : Expr} {i k : Nat} {p : List Pst} {l : L} (ho : PE X o (tP CA (okF G) i p)) (he : PE X e (tD CA (okF G) l)) (st : isStar e = false)
    (hb : attributeBase o "remove" X.env (eval o X.env) = eval o X.env) (hl : (apos.endLine == cpos.line) = true) : PS X (.Expr (.Call (.Attribute o "remove" apos) [e] [] cpos) pos) (tS CA G x W (.mut .remove i p k (.acons l .anil))) := by
  have hst := star1 (es := []) (env := X.env) st
  refine PS.imp (ps_expr (pe_bm PySem.F.plainAttrs_list PySem.F.slot_list_remove PySem.F.type_list_remove mt_remove ho (sna_cons he sna_nil hst) hb (by rw [hst]; rfl) hl hst (by rfl))) fun D σ H h => mut_imp (fun {w O H1 H2 ρ d pp ds xs ds' v v' vs Q} E e2 hd g hv vp hm al kq => ?_) h
  obtain ⟨y, u, rfl, rfl, r⟩ := al.one E.sub
  cases y <;> simp only [mutF, Option.bind_eq_some_iff, Option.map_eq_some_iff, reduceCtorEq] at hm
  rename_i n0
  obtain ⟨ns, hns, j, hj, rfl⟩ := hm
  have eds := intsOf_is hns
  have hu := r.int E.sub
  subst hu
  obtain ⟨a, zs, fps, rfl, ha, nf, wf, oa, mk⟩ := (E.ext e2).mutate hd g hv (vp.ext e2)
  have ezs : zs = ns.map V.int := by
    have := OwnAll.rp (H2 := H2) (off_ext O H2) ds k zs fps (fun a _ o z => z) oa
    rw [eds] at this
    exact RpAll.ints.mp this
  rw [eds] at hj
  obtain ⟨j1, j2⟩ := idx_int hj
  obtain ⟨u, pre, f, post, _, rfl, _, _, er⟩ := OwnAll.at j oa (d := .int n0) (by rw [eds, List.getElem?_map, j1]; rfl)
  obtain ⟨d', w', s1, E3, eo⟩ := mk (ds.eraseIdx j) (zs.eraseIdx j) (pre ++ post) (nodup_mid nf).2.1 (fun b hb => .inl (by
    rcases List.mem_append.mp hb with z | z <;> simp [z])) (er H2 _ (fun a _ o z => z) (Ext.refl _))
  have ez : (zs.eraseIdx j) = (ns.eraseIdx j).map V.int := by rw [ezs]; exact erase_map V.int ns j
  rw [ez] at E3 eo
  exact ⟨a, ns, n0, j, rfl, rfl, by rw [← ezs]; exact ha, j1, j2, kq d' _ O _ s1 (by rw [eo]; exact e2.off) ⟨w', E3⟩⟩
/-! an item is put -/
theorem sw_sub {e o i : Expr} {p : Pos} {n : Nat} {env : Env} : swapsWithSole [.Subscript o i p] e n env = pure false := by cases e <;> rfl
theorem sw_stores {e o i : Expr} {p : Pos} {env : Env} : swappedStores [.Subscript o i p] e env = pure none := rfl
theorem st_put {o ie e : Expr} {i k : Nat} {p : List Pst} {li l : L} {tp : Pos} (gl : good l = true) (hk : k ≤ nw l) (he : PE X e (tD CA (okF G) l)) (ho : PE X o (tP CA (okF G) i p)) (hi : PE X ie (tD CA (okF G) li)) (hs : ∀ a b c d, ie ≠ .Slice a b c d) :
    PS X (.Assign [.Subscript o ie tp] e pos) (tS CA G x W (.put i p li k l)) := by
  refine PS.imp (ps_asg he (pg_sub ho hi set_list (fun v => ?_)) sw_sub sw_stores rfl) fun D σ H h => ?_
  · cases ie <;> first | rfl | exact absurd rfl (hs _ _ _ _)
  obtain ⟨O, ρ, o, ⟨w, E⟩, ev, kq⟩ := h
  rw [evS, Option.bind_eq_some_iff] at ev
  obtain ⟨d, hd, ev⟩ := ev
  rw [Option.bind_eq_some_iff] at ev
  obtain ⟨y, hy, ev⟩ := ev
  rw [Option.bind_eq_some_iff] at ev
  obtain ⟨pp, hp, ev⟩ := ev
  split at ev
  · rename_i j ds hj g
    rw [Option.bind_eq_some_iff] at ev
    obtain ⟨ds', hm, ev⟩ := ev
    rw [Option.map_eq_some_iff] at ev
    obtain ⟨d', hs, rfl⟩ := ev
    have el := evP_len hp
    have hd := slotO_some hd
    rw [← el] at hd kq
    unfold setI at hm
    rw [Option.map_eq_some_iff] at hm
    obtain ⟨n, hn, rfl⟩ := hm
    refine ⟨O, ρ, y, E.r, hy, fun v H1 e1 r1 => ?_⟩
    obtain ⟨fp, nd, f, ow⟩ := ((VR.good gl).mp r1).less E.sub hk
    obtain ⟨E1, q1, q2, q3⟩ := E.made e1 f (OwnR.here ow)
    refine ⟨sup O fp, ρ, _, d, pp, .list ds, E1.r, hd, hp, g, fun v0 v' H2 e2 hv vp rp => ⟨sup O fp, ρ, .int j, E1.r.ext e2, hj, fun u H3 e3 r3 => ?_⟩⟩
    have hu := r3.int (E1.sub.ext e2)
    subst hu
    have E3 := E1.ext (e2.trans e3)
    obtain ⟨a, zs, fps, rfl, ha, nf, wf, oa, mk⟩ := E3.mutate hd g hv (vp.ext e3)
    have hnl : n < ds.length := (ixN_seq hn).2.1
    obtain ⟨u', pre, f', post, _, rfl, _, st, _⟩ := OwnAll.at n oa (d := ds[n]) (List.getElem?_eq_some_iff.mpr ⟨hnl, rfl⟩)
    obtain ⟨m1, m2, m3⟩ := nodup_mid nf
    have ow3 : OwnR CA H3 (off (sup O fp) H3) y k v fp := OwnR.mono (e2.trans e3).off y k v fp (fun a _ o z => (e2.trans e3) a o z) ow
    obtain ⟨d2, w', s1, E4, eo⟩ := mk (ds.set n y) (zs.set n v) (pre ++ fp ++ post) (nodup_mid' nd m2 fun b hb z => by
      have z1 := wf b (by rcases List.mem_append.mp z with z | z <;> simp [z])
      rw [q2 b hb] at z1
      cases z1) (fun b hb => by
      rcases List.mem_append.mp hb with z | z
      · rcases List.mem_append.mp z with z | z
        · exact .inl (by simp [z])
        · exact .inr ⟨q1 b z, q2 b z, q3 b z⟩
      · exact .inl (by simp [z])) (st H3 _ y v fp (fun a _ o z => z) (Ext.refl _) ow3)
    rw [hs] at s1
    cases s1
    refine ⟨a, zs, j, n, rfl, rfl, ha, by rw [oa.length]; exact hn, kq σ _ _ ?_ ⟨w', E4⟩⟩
    rw [eo]
    exact (off_grow e1 f).trans (e2.trans e3).off
  · cases ev
/-! a field is put -/
theorem sw_attr {e o : Expr} {f : Str} {p : Pos} {n : Nat} {env : Env} : swapsWith e (some (.Attribute o f p)) n env = pure false := by cases e <;> rfl
theorem st_fput {o e : Expr} {i k : Nat} {f : Str} {l : L} {fl : List Str} {tp : Pos} (T : ClsF CA fl X.K) (hf : f ∈ fl) (gl : good l = true) (hk : k ≤ nw l) (he : PE X e (tD CA (okF G) l)) (ho : PE X o (tP CA (okF G) i [])) :
    PS X (.Assign [.Attribute o f tp] e pos) (tS CA G x W (.fput i f k l)) := by
  refine PS.imp (ps_fld ho he sw_attr) fun D σ H h => ?_
  obtain ⟨O, ρ, o, ⟨w, E⟩, ev, kq⟩ := h
  rw [evS, Option.bind_eq_some_iff] at ev
  obtain ⟨d, hd, ev⟩ := ev
  rw [Option.bind_eq_some_iff] at ev
  obtain ⟨y, hy, ev⟩ := ev
  have hd := slotO_some hd
  split at ev
  · rename_i kc r _
    rw [Option.ite_none_right_eq_some] at ev
    obtain ⟨hlen, ev⟩ := ev
    cases ev
    refine ⟨O, ρ, y, E.r, hy, fun u H1 e1 r1 => ?_⟩
    obtain ⟨fp, nd, fr, ow⟩ := ((VR.good gl).mp r1).less E.sub hk
    obtain ⟨E1, q1, q2, q3⟩ := E.made e1 fr (OwnR.here ow)
    refine ⟨sup O fp, ρ, _, .dict (kc :: r), [], .dict (kc :: r), E1.r, hd, rfl, rfl, fun v0 v' H2 e2 hv vp rp => ?_⟩
    cases vp
    have E2 := E1.ext e2
    obtain ⟨c, a, C, dx, fs, hc, hC, rfl, ha, hl, mk⟩ := E2.field (f := f) hd hv
    have ow2 : OwnR CA H2 (off (sup O fp) H2) y k u fp := OwnR.mono e2.off y k u fp (fun a _ o z => e2 a o z) ow
    obtain ⟨w', E3, eo⟩ := mk y u fp nd (fun b hb => ⟨q1 b hb, q2 b hb, q3 b hb⟩) ow2
    refine ⟨a, C, dx, fs, rfl, ha, T.cl c C hC, T.na c C f hC hf, ?_, kq σ _ _ ?_ ⟨w', E3⟩⟩
    · have := of_decide_eq_true hlen
      rw [hl]
      omega
    · rw [eo]
      exact (off_grow e1 fr).trans e2.off
  · cases ev
/-! ### calls that may raise -/
theorem callX_sp {b : Bool} {n kn k : Nat} {f : Nat} {O : Addr → Bool} {H H1 : Hp} {xs : List D} {vs : List V} {r : Rs × D} {Q : VK} {E : XK} (s : Sub O H) (e1 : Ext H H1) (hk : k ≤ kn) (hl : xs.length = n) (hg : b = false → RpAll CA (off O H1) xs vs) (hr : RpAll CA H1 xs vs) (hs : G f xs = some r)
    (ok : ∀ d v H2, r.1 = .ok d → Ext H1 H2 → (b = false → NewQ CA O H H2 k d v) → (b = true → flatAt d k = true → NewQ CA O H H2 9 d v) → Q v H2) (ex : ∀ c H2, r.1 = .exc c → Ext H1 H2 → E (.ref (CA.exc c)) none H2) : spD CA n (G f) kn vs H1 Q E := by
  obtain ⟨r0, s'⟩ := r
  cases b with
  | false =>
    refine ⟨O, xs, r0, s', s.ext e1, hg rfl, hl, hs, ?_⟩
    cases r0 with
    | ok d => exact fun v H2 e2 r2 => ok d v H2 rfl e2 (fun _ => (r2.less (s.ext e1) hk).back e1) fun z => nomatch z
    | exc c => exact fun H2 e2 => ex c H2 rfl e2
  | true =>
    refine ⟨none0, xs, r0, s', none0_sub H1, by rw [off_none]; exact hr, hl, hs, ?_⟩
    cases r0 with
    | ok d => exact fun v H2 e2 r2 => ok d v H2 rfl e2 (fun z => nomatch z) fun _ hf => ((r2.less (none0_sub H1) hk).lent (s.ext e1) e2 hf).back e1
    | exc c => exact fun H2 e2 => ex c H2 rfl e2
/-- a call whose errors the statement lets through -/
def tX (CA : Cmap) (G : Nat → Dz.Sem) (W : WX) (b : Bool) (f k : Nat) (la : L) : TE := fun σ H Q => ∃ O ρ xs r, EnvR CA O H σ ρ ∧ evE (okF G) la ρ = some (.tuple xs) ∧ G f xs = some r ∧
  (∀ d v H2, r.1 = .ok d → Ext H H2 → (b = false → NewQ CA O H H2 k d v) → (b = true → flatAt d k = true → NewQ CA O H H2 9 d v) → Q v H2) ∧ ∀ c H2, r.1 = .exc c → Ext H H2 → W (.ref (CA.exc c)) none σ H2
/-- the making of an object whose __init__ may raise, at the slots as they stand -/
theorem run_makeS {k : Nat} {C f : Addr} {fd : FuncData} {ps : List Str} {sp : Sp} {E : XK} {pins : List (Addr × Obj)} {σ : St} {H : Hp} {s : Shared} {Q : VK} {us : List Value} {vs : List V} (M : Mk X.K C f)
    (F : FnOk X.prog X.w X.K X.mg X.base (L2.CX X.prog X.w) k f fd ps sp) (hr : Room (k + 1) X.A) (hb : Binds X.K fd ps []) (hx : PassesAt (L2.CX X.prog X.w) X σ E) (I : Inv X pins σ H s) (r : Vals vs us)
    (h : ∀ y dy, H y = none → H dy = none → dy ≠ y → sp (.ref y :: (vs ++ [])) (upd (upd H dy (.own y)) y (.ins C dy [])) (fun v H2 => v = .non ∧ Q (.ref y) H2) E) :
    wpAny (model X.prog X.w) X.A (call (.ref C) us) (EP X pins σ Q) X.xe s := by
  obtain ⟨n, hn⟩ : ∃ n, n = s.heap.objs.size := ⟨_, rfl⟩
  have fr : ∀ m, n ≤ m → H m = none := fun m hm => I.hok.fresh (by rw [← hn]; exact hm)
  have hq := h (n + 1) n (fr _ (Nat.le_succ n)) (fr _ (Nat.le_refl n)) (Nat.ne_of_lt (Nat.lt_succ_self n))
  subst hn
  rw [List.append_nil] at hq
  have J := Inv.made (C := C) I
  have rr : Vals (V.ref (s.heap.objs.size + 1) :: vs) (Value.ref (s.heap.objs.size + 1) :: us) := .cons rfl r
  have hl : (Value.ref (s.heap.objs.size + 1) :: us).length = ps.length := by rw [← rr.length, F.len _ _ _ _ hq]
  have bd := hb _ (Value.ref (s.heap.objs.size + 1) :: us) J.kIn (by rw [List.append_nil]; exact hl)
  rw [List.append_nil] at bd
  refine wpAny_call (make_map (f := f) I.kIn M.makes M.init (beq_iff_eq.mp M.fn) ?_)
  refine codeAny_mono (F.run _ X.stack _ _ _ _ _ _ E (hr.make C us []) (J.env0.make C us []) bd rr hq) fun res s' hq' => ?_
  match res, hq' with
  | .error e, hq' => exact hx pins _ _ e s' J hq'
  | .ok (.ret u), hq' =>
    obtain ⟨v, H', I3, rv, ev, q3⟩ := J.after hq'
    subst ev
    exact ⟨rv, V.ref (s.heap.objs.size + 1), H', I3, rfl, q3⟩
  | .ok .next, hq' => exact hq'.elim
  | .ok .brk, hq' => exact hq'.elim
  | .ok .cont, hq' => exact hq'.elim
theorem snx_call {b : Bool} {y : Str} {f k : Nat} {e : Expr} {es : List Expr} {la : L} {p0 : Pos} (tk : Takes X W) (c : Callee CA G X y f k) (hg : Gl X y) (hd : (y == ("__debug__" : Str)) = false) (ga : b = false → goodA la = true) (ha : PA X (e :: es) (tA CA (okF G) la))
    (he : starEach (e :: es) X.env = (false, eval e X.env) :: starEach es X.env) (hpl : (backTo pos (starEach es X.env)).any (·.1) = false) : PE X (.Call (.Name y p0) (e :: es) [] pos) (tX CA G W b f k la) := by
  cases c with
  | fn a fd ps j n kn Fn hr hm hk hb hl hkk =>
    refine PE.imp (pe_callS Fn hr hg hm hk hb (fun σ => passAt tk σ) ha hd he hpl) fun σ H Q ⟨O, ρ, xs, r, E, ev, eg, ok, ex⟩ => ?_
    exact ⟨O, ρ, xs, E, ev, fun vs H1 e1 r1 => callX_sp (b := b) E.sub e1 hkk (hl _ _ eg) (fun z => r1.good E.sub (ga z)) (r1.rp E.sub) eg (fun d v H2 h1 e2 h3 h4 => ok d v H2 h1 (e1.trans e2) h3 h4) fun c H2 h1 e2 => ex c H2 h1 (e1.trans e2)⟩
  | mk c C i a fd ps j n kn hC M Fn hr hm hb hl hf hn hkk =>
    refine ⟨fun pins s σ H Q I ⟨O, ρ, xs, r, E, ev, eg, ok, ex⟩ => ?_⟩
    refine wpAny_Call_Name_kw (ld_glob I hg hm ?_ hd)
    refine PySem.W.callWith_K (h₀ := X.base) I.ok.mod.kin M.kp (thn (ha.run pos pins s σ H (fun vs H1 => Ext H H1 ∧ AL CA O H H1 la xs vs) I ⟨O, ρ, xs, E, ev, fun vs H1 e1 r1 => ⟨e1, r1⟩⟩) fun us s1 ⟨vs, H1, I1, rv, e1, r1⟩ => ⟨I1.kIn, ?_⟩) he hpl
    refine run_makeS M Fn hr hb (passAt tk σ) I1 rv ?_
    rw [hf] at eg
    obtain ⟨r0, s0⟩ := r
    obtain rfl := makes_s eg
    cases b with
    | false =>
      refine make_sp hC (r := r0) (E.sub.ext e1) (makes_l hl eg) (r1.good E.sub (ga rfl)) eg hn ?_
      cases r0 with
      | ok d => exact fun v H2 e2 r2 => ok d v H2 rfl (e1.trans e2) (fun _ => (r2.less (E.sub.ext e1) hkk).back e1) fun z => nomatch z
      | exc c => exact fun H2 e2 => ex c H2 rfl (e1.trans e2)
    | true =>
      refine make_sp hC (O := none0) (r := r0) (none0_sub H1) (makes_l hl eg) (by rw [off_none]; exact r1.rp E.sub) eg hn ?_
      cases r0 with
      | ok d => exact fun v H2 e2 r2 => ok d v H2 rfl (e1.trans e2) (fun z => nomatch z) fun _ hf => ((r2.less (none0_sub H1) hkk).lent (E.sub.ext e1) e2 hf).back e1
      | exc c => exact fun H2 e2 => ex c H2 rfl (e1.trans e2)
theorem st_exprX {b : Bool} {f k : Nat} {e : Expr} {la : L} (he : PE X e (tX CA G W b f k la)) (hs : swapsWith e none pos.line X.env = pure false) : PS X (.Expr e pos) (tS CA G x W (.exprX b f k la)) := by
  refine PS.imp (ps_expr he hs) fun D σ H ⟨O, ρ, o, E, ev, kq⟩ => ?_
  rw [evS, Option.bind_eq_some_iff] at ev
  obtain ⟨xs, exs, ev⟩ := ev
  rw [Option.bind_eq_some_iff] at ev
  obtain ⟨r, er, ev⟩ := ev
  rw [unT_some] at exs
  refine ⟨O, ρ, xs, r, E.r, exs, er, fun d v H2 h1 e2 _ _ => ?_, fun c H2 h1 e2 => ?_⟩
  · rw [h1] at ev
    cases ev
    exact kq σ H2 O e2.off (E.ext e2)
  · rw [h1] at ev
    cases ev
    exact kq σ H2 O e2.off (E.ext e2)
theorem st_setX {i kk : Nat} {b : Bool} {f k : Nat} {e : Expr} {la : L} (hk : kk ≤ (if b then 9 else k)) (hi : x.q.io = true → i ≠ 0) {st : Stmt} (hp : PS X st (tAsg (tX CA G W b f k la) (gName i))) : PS X st (tS CA G x W (.setX i kk b f k la)) := by
  refine PS.imp hp fun D σ H ⟨O, ρ, o, ⟨w, E⟩, ev, kq⟩ => ?_
  rw [evS, Option.bind_eq_some_iff] at ev
  obtain ⟨xs, exs, ev⟩ := ev
  rw [Option.bind_eq_some_iff] at ev
  obtain ⟨r, er, ev⟩ := ev
  rw [unT_some] at exs
  refine ⟨O, ρ, xs, r, E.r, exs, er, fun d v H2 h1 e2 n1 n2 => ?_, fun c H2 h1 e2 => ?_⟩
  · rw [h1] at ev
    simp only [Option.ite_none_right_eq_some] at ev
    obtain ⟨hb, ev⟩ := ev
    cases ev
    have nq : NewQ CA O H H2 (if b then 9 else k) d v := by
      cases b with
      | false => exact n1 rfl
      | true => exact n2 rfl (by simpa using hb)
    obtain ⟨fp, n, f, ow⟩ := nq
    obtain ⟨E1, q1, q2, q3⟩ := E.made e2 f (OwnR.here ow)
    obtain ⟨w', O', E2, l2, _⟩ := E1.assign (i := i) n q1 q2 q3 ow hk hi
    exact kq _ H2 O' ((off_grow e2 f).trans (off_le l2)) ⟨w', E2⟩
  · rw [h1] at ev
    cases ev
    exact kq σ H2 O e2.off ⟨w, E.ext e2⟩
theorem st_retX {b : Bool} {f k : Nat} {e : Expr} {la : L} (hk : x.q.io = false → x.q.kf ≤ (if b then 9 else k)) (he : PE X e (tX CA G W b f k la)) : PS X (.Return (some e) pos) (tS CA G x W (.retX b f k la)) := by
  refine PS.imp (ps_ret he) fun D σ H ⟨O, ρ, o, ⟨w, E⟩, ev, kq⟩ => ?_
  rw [evS, Option.bind_eq_some_iff] at ev
  obtain ⟨xs, exs, ev⟩ := ev
  rw [Option.bind_eq_some_iff] at ev
  obtain ⟨r, er, ev⟩ := ev
  rw [unT_some] at exs
  refine ⟨O, ρ, xs, r, E.r, exs, er, fun d v H2 h1 e2 n1 n2 => ?_, fun c H2 h1 e2 => ?_⟩
  · rw [h1] at ev
    simp only [Option.ite_none_right_eq_some, Bool.and_eq_true] at ev
    obtain ⟨⟨hb, hio⟩, ev⟩ := ev
    cases ev
    have nq : NewQ CA O H H2 (if b then 9 else k) d v := by
      cases b with
      | false => exact n1 rfl
      | true => exact n2 rfl (by simpa using hb)
    refine kq v σ H2 O e2.off ⟨w, E.ext e2⟩ ?_
    unfold RV
    cases q : x.q.io with
    | true =>
      rw [if_pos rfl]
      rw [q] at hio
      exact ⟨by simpa using hio, Rp.mono (off_ext O H2) d v (nq.rp E.sub)⟩
    | false =>
      rw [if_neg Bool.false_ne_true]
      exact E.ret (hk q) nq
  · rw [h1] at ev
    cases ev
    exact kq σ H2 O e2.off ⟨w, E.ext e2⟩
end
end Dz

set_option Elab.async false
set_option linter.all false
set_option maxRecDepth 100000
set_option maxHeartbeats 4000000
namespace Dz
open PySem L2
variable {CA : Cmap} {G : Nat → Dz.Sem}
/-! ### rows in which slots are given away -/
def tM (CA : Cmap) (G : Nat → Dz.Sem) (x : Fx) (its : List Itm) : TA := fun σ H Q => ∃ w O ρ ds, ∃ P : List Addr, EnvW CA x w O H σ ρ ∧ (∀ a ∈ P, O a = true ∧ w a = none) ∧ evI (okF G) its ρ = some ds ∧
  ∀ vs H' w' O' fp, Ext H H' → EnvW CA x w' O' H' σ (gone ρ (mvs its)) → Ext (off O H) (off O' H') → (∀ a ∈ P, O' a = true ∧ w' a = none) → fp.Nodup → (∀ a ∈ fp, O' a = true ∧ w' a = none ∧ x.R a = none ∧ a ∉ P) → OwnAll CA H' (off O' H') ds (nwI its ρ) vs fp → Q vs H'
section
variable {x : Fx} {W : WX} {X : Cx} {pos : Pos}
theorem snm_nil : PA X [] (tM CA G x []) := PA.imp pa_nil fun σ H Q ⟨w, O, ρ, ds, P, E, hP, ev, k⟩ => by
  cases ev
  exact k [] H w O [] (Ext.refl H) E (Ext.refl _) hP .nil (fun a z => (by cases z)) (oa_nil.mpr ⟨rfl, rfl⟩)
theorem snm_e {e : Expr} {es : List Expr} {l : L} {r : List Itm} (gl : good l = true) (he : PE X e (tD CA (okF G) l)) (hr : PA X es (tM CA G x r)) (hs : starEach (e :: es) X.env = (false, eval e X.env) :: starEach es X.env) : PA X (e :: es) (tM CA G x (.e l :: r)) :=
  PA.imp (pa_cons he hr hs) fun σ H Q ⟨w, O, ρ, ds, P, E, hP, ev, k⟩ => by
    rw [evI, Option.bind_eq_some_iff] at ev
    obtain ⟨d, ed, ev⟩ := ev
    rw [Option.map_eq_some_iff] at ev
    obtain ⟨ds', es', rfl⟩ := ev
    refine ⟨O, ρ, d, E.r, ed, fun v H1 e1 r1 => ?_⟩
    obtain ⟨fp1, n1, f1, o1⟩ := (VR.good gl).mp r1
    obtain ⟨E1, q1, q2, q3⟩ := E.made e1 f1 (OwnR.here o1)
    have nP : ∀ a ∈ fp1, a ∉ P := fun a ha z => by
      obtain ⟨o, ho⟩ := E.sub.some (hP a z).1
      rw [f1 a ha] at ho
      cases ho
    refine ⟨w, sup O fp1, ρ, ds', P ++ fp1, E1, fun a ha => ?_, es', fun vs H2 w2 O2 fp2 e2 E2 x2 h2 n2 f2 o2 => ?_⟩
    · rcases List.mem_append.mp ha with z | z
      · exact ⟨sup_true.mpr (.inl (hP a z).1), (hP a z).2⟩
      · exact ⟨q1 a z, q2 a z⟩
    · obtain ⟨g1, s1, l1⟩ := OwnR.less d (nw l) (min (nw l) (nwI r ρ)) v fp1 (Nat.min_le_left _ _) n1 o1
      obtain ⟨g2, s2, l2⟩ := OwnAll.less ds' (nwI r ρ) (min (nw l) (nwI r ρ)) vs fp2 (Nat.min_le_right _ _) n2 o2
      have dis : ∀ a ∈ fp1, ∀ b ∈ fp2, a ≠ b := fun a ha b hb z => (f2 b hb).2.2.2 (List.mem_append_right _ (by rw [← z]; exact ha))
      -- what is let go of both
      have hL : ∀ a, less O2 ((fp1 ++ fp2).filter fun a => !decide (a ∈ g1 ++ g2)) a = true → O2 a = true := fun a z => (less_true.mp z).1
      have wn : ∀ a ∈ fp1 ++ fp2, w2 a = none := fun a ha => by
        rcases List.mem_append.mp ha with z | z
        · exact (h2 a (List.mem_append_right _ z)).2
        · exact (f2 a z).2.1
      have Rn : ∀ a ∈ fp1 ++ fp2, x.R a = none := fun a ha => by
        rcases List.mem_append.mp ha with z | z
        · exact q3 a z
        · exact (f2 a z).2.2.1
      have E3 : EnvW CA x w2 (less O2 ((fp1 ++ fp2).filter fun a => !decide (a ∈ g1 ++ g2))) H2 σ (gone ρ (mvs r)) := by
        refine ⟨fun p hp => E2.sub p (hL p hp), E2.len, fun j d' h => ?_, fun a j h => ⟨less_true.mpr ⟨(E2.wO a j h).1, fun z => ?_⟩, (E2.wO a j h).2⟩, fun j k' d' h => ?_, E2.frame, fun a h => less_true.mpr ⟨E2.inO a h, fun z => ?_⟩, E2.s0, E2.f0, E2.mode, E2.io0⟩
        · obtain ⟨u, h1, h2⟩ := E2.fz j d' h
          exact ⟨u, h1, Rp.mono off_less d' u h2⟩
        · rw [wn a (List.mem_filter.mp z).1] at h
          cases h
        · obtain ⟨u, f, h1, h2, h3, h4⟩ := E2.own j k' d' h
          exact ⟨u, f, h1, h2, h3, OwnR.mono off_less d' k' u f (fun a _ o z => z) h4⟩
        · obtain ⟨u, hu⟩ := E2.s0.some h
          rw [Rn a (List.mem_filter.mp z).1] at hu
          cases hu
      have sub12 : ∀ a ∈ g1 ++ g2, a ∈ fp1 ++ fp2 := fun a ha => by
        rcases List.mem_append.mp ha with z | z
        · exact List.mem_append_left _ (s1.subset z)
        · exact List.mem_append_right _ (s2.subset z)
      have giv : ∀ a ∈ fp1 ++ fp2, a ∉ g1 ++ g2 → less O2 ((fp1 ++ fp2).filter fun a => !decide (a ∈ g1 ++ g2)) a = false := fun a ha na => less_false.mpr (.inr (List.mem_filter.mpr ⟨ha, by simpa using na⟩))
      refine k _ H2 w2 _ (g1 ++ g2) (e1.trans e2) E3 ((off_grow e1 f1).trans (x2.trans off_less)) (fun a ha => ⟨less_true.mpr ⟨(h2 a (List.mem_append_left _ ha)).1, fun z => ?_⟩, (h2 a (List.mem_append_left _ ha)).2⟩) (List.nodup_append.mpr ⟨n1.sublist s1, n2.sublist s2, fun a ha b hb => dis a (s1.subset ha) b (s2.subset hb)⟩) (fun a ha => ⟨less_true.mpr ⟨?_, fun z => ?_⟩, wn a (sub12 a ha), Rn a (sub12 a ha), fun z => ?_⟩) (oa_cons.mpr ⟨v, vs, g1, g2, rfl, rfl, ?_, ?_⟩)
      · rcases List.mem_append.mp (List.mem_filter.mp z).1 with y | y
        · exact nP a y ha
        · exact (f2 a y).2.2.2 (List.mem_append_left _ ha)
      · rcases List.mem_append.mp ha with z | z
        · exact (h2 a (List.mem_append_right _ (s1.subset z))).1
        · exact (f2 a (s2.subset z)).1
      · have := (List.mem_filter.mp z).2
        simp only [Bool.not_eq_true', decide_eq_false_iff_not] at this
        exact this ha
      · rcases List.mem_append.mp ha with y | y
        · exact nP a (s1.subset y) z
        · exact (f2 a (s2.subset y)).2.2.2 (List.mem_append_left _ z)
      · refine OwnR.mono (Ext.refl _) d _ v g1 (fun a _ o z => e2 a o z) (l1 _ (x2.trans off_less) fun a ha na o ho => off_some.mpr ⟨giv a (List.mem_append_left _ ha) fun z => ?_, e2 a o ho⟩)
        rcases List.mem_append.mp z with z | z
        · exact na z
        · exact dis a ha a (s2.subset z) rfl
      · refine l2 _ off_less fun a ha na o ho => off_some.mpr ⟨giv a (List.mem_append_right _ ha) fun z => ?_, ho⟩
        rcases List.mem_append.mp z with z | z
        · exact dis a (s1.subset z) a ha rfl
        · exact na z
theorem snm_mv {i : Nat} {y : Str} {p' : Pos} {es : List Expr} {r : List Itm} (hi : x.q.io = true → i ≠ 0) (hN : X.N[i]? = some y) (hv : Vis X.env.scope y) (hd : (y == ("__debug__" : Str)) = false) (hcd : (y == ("__classdict__" : Str)) = false) (hr : PA X es (tM CA G x r)) : PA X (.Name y p' :: es) (tM CA G x (.mv i :: r)) :=
  PA.imp (pa_cons (pe_var hN hv hd hcd) hr rfl) fun σ H Q ⟨w, O, ρ, ds, P, E, hP, ev, k⟩ => by
    rw [evI] at ev
    split at ev
    · rename_i kk d hd
      rw [Option.map_eq_some_iff] at ev
      obtain ⟨ds', es', rfl⟩ := ev
      obtain ⟨v, fp1, h1, n1, h3, o1⟩ := E.own i kk d hd
      have fR : ∀ a ∈ fp1, x.R a = none := fun a ha => by
        rcases (E.wO a i (h3 a ha)).2 with z | ⟨z1, z2⟩
        · exact z
        · cases q : x.q.io with
          | true => exact absurd z2 (hi q)
          | false =>
            rw [E.mode q] at z1
            cases z1
      have nP : ∀ a ∈ fp1, a ∉ P := fun a ha z => by
        have := (hP a z).2
        rw [h3 a ha] at this
        cases this
      have E1 : EnvW CA x (fun a => if a ∈ fp1 then none else w a) O H σ (ρ.set i .no) := by
        refine ⟨E.sub, by simpa using E.len, fun j d' h => ?_, fun a j h => ?_, fun j k' d' h => ?_, E.frame, E.inO, E.s0, E.f0, E.mode, E.io0⟩
        · rcases getElem?_set' h with ⟨_, _, e⟩ | ⟨_, h⟩
          · cases e
          · exact E.fz j d' h
        · split at h
          · cases h
          · exact E.wO a j h
        · rcases getElem?_set' h with ⟨_, _, e⟩ | ⟨ne, h⟩
          · cases e
          · obtain ⟨u, f, q1, q2, q3, q4⟩ := E.own j k' d' h
            refine ⟨u, f, q1, q2, fun a ha => ?_, q4⟩
            rw [if_neg]
            · exact q3 a ha
            · intro z
              have := h3 a z
              rw [q3 a ha] at this
              exact ne (Option.some.inj this)
      refine ⟨v, h1, fun a => if a ∈ fp1 then none else w a, O, ρ.set i .no, ds', P ++ fp1, E1, fun a ha => ?_, es', fun vs H2 w2 O2 fp2 e2 E2 x2 h2 n2 f2 o2 => ?_⟩
      · rcases List.mem_append.mp ha with z | z
        · exact ⟨(hP a z).1, by show (if a ∈ fp1 then none else w a) = none; rw [if_neg fun y => nP a y z]; exact (hP a z).2⟩
        · exact ⟨(E.wO a i (h3 a z)).1, by show (if a ∈ fp1 then none else w a) = none; rw [if_pos z]⟩
      · have en : nwI (.mv i :: r) ρ = min kk (nwI r (ρ.set i .no)) := by rw [nwI, hd]
        obtain ⟨g1, s1, l1⟩ := OwnR.less d kk (min kk (nwI r (ρ.set i .no))) v fp1 (Nat.min_le_left _ _) n1 o1
        obtain ⟨g2, s2, l2⟩ := OwnAll.less ds' (nwI r (ρ.set i .no)) (min kk (nwI r (ρ.set i .no))) vs fp2 (Nat.min_le_right _ _) n2 o2
        have dis : ∀ a ∈ fp1, ∀ b ∈ fp2, a ≠ b := fun a ha b hb z => (f2 b hb).2.2.2 (List.mem_append_right _ (by rw [← z]; exact ha))
        have hL : ∀ a, less O2 ((fp1 ++ fp2).filter fun a => !decide (a ∈ g1 ++ g2)) a = true → O2 a = true := fun a z => (less_true.mp z).1
        have wn : ∀ a ∈ fp1 ++ fp2, w2 a = none := fun a ha => by
          rcases List.mem_append.mp ha with z | z
          · exact (h2 a (List.mem_append_right _ z)).2
          · exact (f2 a z).2.1
        have Rn : ∀ a ∈ fp1 ++ fp2, x.R a = none := fun a ha => by
          rcases List.mem_append.mp ha with z | z
          · exact fR a z
          · exact (f2 a z).2.2.1
        have E3 : EnvW CA x w2 (less O2 ((fp1 ++ fp2).filter fun a => !decide (a ∈ g1 ++ g2))) H2 σ (gone (ρ.set i .no) (mvs r)) := by
          refine ⟨fun p hp => E2.sub p (hL p hp), E2.len, fun j d' h => ?_, fun a j h => ⟨less_true.mpr ⟨(E2.wO a j h).1, fun z => ?_⟩, (E2.wO a j h).2⟩, fun j k' d' h => ?_, E2.frame, fun a h => less_true.mpr ⟨E2.inO a h, fun z => ?_⟩, E2.s0, E2.f0, E2.mode, E2.io0⟩
          · obtain ⟨u, h1, h2⟩ := E2.fz j d' h
            exact ⟨u, h1, Rp.mono off_less d' u h2⟩
          · rw [wn a (List.mem_filter.mp z).1] at h
            cases h
          · obtain ⟨u, f, h1, h2, h3, h4⟩ := E2.own j k' d' h
            exact ⟨u, f, h1, h2, h3, OwnR.mono off_less d' k' u f (fun a _ o z => z) h4⟩
          · obtain ⟨u, hu⟩ := E2.s0.some h
            rw [Rn a (List.mem_filter.mp z).1] at hu
            cases hu
        have sub12 : ∀ a ∈ g1 ++ g2, a ∈ fp1 ++ fp2 := fun a ha => by
          rcases List.mem_append.mp ha with z | z
          · exact List.mem_append_left _ (s1.subset z)
          · exact List.mem_append_right _ (s2.subset z)
        have giv : ∀ a ∈ fp1 ++ fp2, a ∉ g1 ++ g2 → less O2 ((fp1 ++ fp2).filter fun a => !decide (a ∈ g1 ++ g2)) a = false := fun a ha na => less_false.mpr (.inr (List.mem_filter.mpr ⟨ha, by simpa using na⟩))
        refine k _ H2 w2 _ (g1 ++ g2) e2 E3 (x2.trans off_less) (fun a ha => ⟨less_true.mpr ⟨(h2 a (List.mem_append_left _ ha)).1, fun z => ?_⟩, (h2 a (List.mem_append_left _ ha)).2⟩) (List.nodup_append.mpr ⟨n1.sublist s1, n2.sublist s2, fun a ha b hb => dis a (s1.subset ha) b (s2.subset hb)⟩) (fun a ha => ⟨less_true.mpr ⟨?_, fun z => ?_⟩, wn a (sub12 a ha), Rn a (sub12 a ha), fun z => ?_⟩) (oa_cons.mpr ⟨v, vs, g1, g2, rfl, rfl, ?_, ?_⟩)
        · rcases List.mem_append.mp (List.mem_filter.mp z).1 with y | y
          · exact nP a y ha
          · exact (f2 a y).2.2.2 (List.mem_append_left _ ha)
        · rcases List.mem_append.mp ha with z | z
          · exact (h2 a (List.mem_append_right _ (s1.subset z))).1
          · exact (f2 a (s2.subset z)).1
        · have := (List.mem_filter.mp z).2
          simp only [Bool.not_eq_true', decide_eq_false_iff_not] at this
          exact this ha
        · rcases List.mem_append.mp ha with y | y
          · exact nP a (s1.subset y) z
          · exact (f2 a (s2.subset y)).2.2.2 (List.mem_append_left _ z)
        · rw [en]
          refine OwnR.mono (Ext.refl _) d _ v g1 (fun a _ o z => e2 a o z) (l1 _ (x2.trans off_less) fun a ha na o ho => off_some.mpr ⟨giv a (List.mem_append_left _ ha) fun z => ?_, e2 a o ho⟩)
          rcases List.mem_append.mp z with z | z
          · exact na z
          · exact dis a ha a (s2.subset z) rfl
        · rw [en]
          refine l2 _ off_less fun a ha na o ho => off_some.mpr ⟨giv a (List.mem_append_right _ ha) fun z => ?_, ho⟩
          rcases List.mem_append.mp z with z | z
          · exact dis a (s1.subset z) a ha rfl
          · exact na z
    · cases ev
theorem st_retM {es : List Expr} {its : List Itm} {x1 : Nat} {p' : Pos} (ha : PA X es (tM CA G x its)) : PS X (.Return (some (.Tuple es x1 p')) pos) (tS CA G x W (.retM its)) := by
  refine PS.imp (ps_ret (pe_tup ha)) fun D σ H ⟨O, ρ, o, ⟨w, E⟩, ev, k⟩ => ?_
  rw [evS, Option.bind_eq_some_iff] at ev
  obtain ⟨ys, ey, ev⟩ := ev
  split at ev
  · rename_i hc
    cases ev
    simp only [Bool.and_eq_true, decide_eq_true_eq, Bool.not_eq_true'] at hc
    obtain ⟨⟨hk, hio⟩, hl⟩ := hc
    refine ⟨w, O, ρ, ys, [], E, fun a z => (by cases z), ey, fun vs H1 w1 O1 fp e1 E1 x1 _ n1 f1 o1 => ⟨by rw [o1.length]; exact lim_line hl, fun p hp => ?_⟩⟩
    have np : ∀ a ∈ fp, a ≠ p := fun a ha => let ⟨u, hu⟩ := (o1.here a ha).some; ne_of_none hu hp
    refine k _ σ _ O ((e1.trans (Ext.new hp)).off) ⟨w, E.ext (e1.trans (Ext.new hp))⟩ ?_
    unfold RV
    rw [if_neg (by rw [hio]; exact Bool.false_ne_true)]
    have : NewQ CA x.O0 x.R (upd H1 p (.tup vs)) (nwI its ρ + 1) (.tuple ys) (.ref p) := by
      refine ⟨fp, n1, fun a ha => (f1 a ha).2.2.1, own_tuple.mpr ⟨p, vs, rfl, .inl (off_some.mpr ⟨sup_false.mpr ⟨?_, fun z => np p z rfl⟩, upd_same⟩), OwnAll.mono (fun a u h => ?_) ys _ vs fp (fun a ha u h => by rw [upd_ne (np a ha)]; exact h) o1⟩⟩
      · cases q : x.O0 p with
        | false => rfl
        | true =>
          obtain ⟨u, hu⟩ := E1.sub.some (E1.inO p q)
          rw [hp] at hu
          cases hu
      · obtain ⟨z1, z2⟩ := off_some.mp h
        refine off_some.mpr ⟨?_, by rw [upd_ne (ne_of_none z2 hp)]; exact z2⟩
        cases q : sup x.O0 fp a with
        | false => rfl
        | true =>
          rcases sup_true.mp q with q | q
          · rw [E1.inO a q] at z1
            cases z1
          · rw [(f1 a q).1] at z1
            cases z1
    exact this.less E.s0 hk
  · cases ev
end
end Dz

set_option Elab.async false
set_option linter.all false
set_option maxRecDepth 100000
set_option maxHeartbeats 4000000
/-! From statements of the text to the small language. -/
namespace Dz
open PySem L2
def ownSlot (C : Ctx) (x : Str) : Option (Nat × Nat) := if plainN x && vis C.sc x then (slotOf C.N x).bind fun i => (C.ow.lookup i).map fun k => (i, k) else none
/-- the slot, deep enough, at the root of a row of steps -/
def mvR (C : Ctx) : Nat → Expr → List Nat
  | 0, _ => []
  | n + 1, e => match e with
    | .Name x _ => match ownSlot C x with
      | some (i, k) => if decide (2 ≤ k) then [i] else []
      | none => []
    | .Subscript a _ _ => mvR C n a
    | .Attribute a _ _ => mvR C n a
    | _ => []
def mv1 (C : Ctx) : Expr → List Nat
  | .Name x _ => match ownSlot C x with
    | some (i, _) => [i]
    | none => []
  | .IfExp _ (.Name x _) b _ => (match ownSlot C x with
    | some (i, _) => [i]
    | none => []) ++ match b with
      | .Name y _ => match ownSlot C y with
        | some (i, _) => [i]
        | none => []
      | _ => []
  | .Subscript a _ _ => mvR C 20 a
  | _ => []
/-- how deep a name's value is to be our own, where it is told by a def that gives less -/
def kFor (C : Ctx) (i : Nat) : Expr → Nat
  | .Call (.Name f _) _ _ _ => match C.fn.lookup f with
    | some k => if decide (k.2 < (C.ow.lookup i).getD 0) then 0 else (C.ow.lookup i).getD 0
    | none => (C.ow.lookup i).getD 0
  | _ => (C.ow.lookup i).getD 0
/-- slots that are given away in rows within a value -/
def mvX (C : Ctx) : Nat → Expr → List Nat
  | 0, _ => []
  | n + 1, e => match e with
    | .Tuple es _ _ => es.flatMap fun a => mv1 C a ++ mvX C n a
    | .List es _ => es.flatMap fun a => mv1 C a ++ mvX C n a
    | .Call f args _ _ => mvX C n f ++ args.flatMap (mvX C n)
    | .BinOp a _ b _ => mvX C n a ++ mvX C n b
    | .Compare a _ bs _ => mvX C n a ++ bs.flatMap (mvX C n)
    | .BoolOp _ es _ => es.flatMap (mvX C n)
    | .UnaryOp _ a _ => mvX C n a
    | .IfExp t a b _ => mvX C n t ++ mvX C n a ++ mvX C n b
    | .Subscript a i _ => mvX C n a ++ mvX C n i
    | .Attribute a _ _ => mvX C n a
    | _ => []
/-- slots that are given away by a value -/
def mvE (C : Ctx) (e : Expr) : List Nat := mv1 C e ++ mvX C 20 e
/-- by a source -/
def mvI (C : Ctx) : Expr → List Nat
  | .Call (.Name f _) args _ _ => if decide (f = "enumerate") || decide (f = "zip") then args.flatMap (mv1 C) ++ args.flatMap (mvX C 20) else args.flatMap (mvX C 20)
  | e => mvE C e
def Ctx.no (C : Ctx) (is : List Nat) : Ctx := { C with ow := C.ow.filter fun p => !is.contains p.1 }
def frzs : List Nat → S → S
  | [], s => s
  | i :: r, s => .seq (.frz i) (frzs r s)
def cPath (rE : Rec) (C : Ctx) : Nat → Expr → Option (Nat × Nat × List Pst)
  | 0, _ => none
  | n + 1, e => match e with
    | .Name x _ => (ownSlot C x).map fun ik => (ik.1, ik.2, [])
    | .Subscript _ (.Slice _ _ _ _) _ => none
    | .Subscript a i _ => (cPath rE C n a).bind fun p => (rE C i).map fun l => (p.1, p.2.1, p.2.2 ++ [.ix l])
    | .Attribute a f _ => if C.fl.contains f && !(isAttrBase a) then (cPath rE C n a).map fun p => (p.1, p.2.1, p.2.2 ++ [.fld f]) else none
    | _ => none
def mutOf (m : Str) : Option Mut := if m = "append" then some .append else if m = "extend" then some .extend else if m = "remove" then some .remove else none
def io0 (q : Fs) (i : Nat) : Bool := !q.io || decide (i ≠ 0)
def swB (C : Ctx) (x : Str) (p : Pos) : Expr → Bool
  | .ListComp _ _ scope pos => decide (C.sc.names.lookup x = some .local) && (p.line == pos.line) && !(scope.names.any fun (n, k) => n == x && (k == .local || k == .cell))
  | .SetComp _ _ _ _ => true
  | .DictComp _ _ _ _ _ => true
  | _ => false
def rxCall (C : Ctx) (r : Rec) : Expr → Option (Bool × Nat × Nat × L)
  | .Call (.Name f _) (a :: as) [] _ => match C.fn.lookup f with
    | some k => if C.rx.contains f && plainN f && glb C.sc f then (cA r C (a :: as)).map fun l => (!goodA l, k.1, k.2, l) else none
    | none => none
  | _ => none
/-- the names of a row of targets -/
def tgs (C : Ctx) (es : List Expr) : Option (List (Nat × Nat)) := (names es).bind fun xs => (slots C xs).map fun is => is.map fun i => (i, (C.ow.lookup i).getD 0)
def maxK : List (Nat × Nat) → Nat
  | [] => 0
  | (_, k) :: r => max k (maxK r)
def swOne (C : Ctx) (ln : Nat) : Expr → Option Str
  | .Name id pos => if (C.sc.names.lookup id == some .local && pos.line == ln) = true then some id else none
  | _ => none
def swNames (C : Ctx) (ts : List Expr) : List Str := ts.filterMap (swOne C ((ts.head?.map (·.pos.line)).getD 0))
/-- do two or three plain names on a line take their values from the right -/
def swN (C : Ctx) (ts vs : List Expr) : Option Bool :=
  if (!(ts.length == 2 || ts.length == 3) || vs.length != ts.length) = true then some false
  else if (vs.any isStar) = true then none
  else if ((swNames C ts).length != ts.length || (swNames C ts).eraseDups.length != (swNames C ts).length) = true then some false
  else if (vs.all (foldedForSure 8)) = true then some false
  else if (vs.all (constantsAlone 8)) = true then none
  else some true
def isTupE : Expr → Bool
  | .Tuple _ _ _ => true
  | _ => false
def itms (rN : Rec) (C : Ctx) (q : Fs) : List Expr → Option (List Itm)
  | [] => some []
  | e :: es => match e with
    | .Name x _ => match ownSlot C x with
      | some (i, _) => if io0 q i then (itms rN C q es).map (.mv i :: ·) else none
      | none => (cG rN C e).bind fun l => (itms rN C q es).map (.e l :: ·)
    | e => (cG rN C e).bind fun l => (itms rN C q es).map (.e l :: ·)
/-- a row of values, each as new as its target wants it -/
def cAK (r : Nat → Rec) (C : Ctx) : List (Nat × Nat) → List Expr → Option L
  | g :: gs, e :: es => (cG (r g.2) C e).bind fun l => (cAK r C gs es).map fun ls => .acons l ls
  | [], [] => some .anil
  | _, _ => none
abbrev RecS := Ctx → List Stmt → Option S
/-- one statement; r: its blocks -/
def cS1 (n : Nat) (q : Fs) (r : RecS) (C : Ctx) : Stmt → Option S
  | .Assign [.Name x p] e _ =>
    if plainN x && locB C x && decide (C.sc.kind = .function) then (slotOf C.N x).bind fun i =>
      if io0 q i then
        match rxCall C (cET n).e e with
        | some (b, f, kf, l) => if decide ((C.ow.lookup i).getD 0 ≤ if b then 9 else kf) then some (.setX i ((C.ow.lookup i).getD 0) b f kf l) else none
        | none =>
          let ms := mvE C e
          if ms.all (io0 q) && decide (kFor C i e ≤ 9) && (!(swB C x p e) || isLC e) then ((cET n).n (kFor C i e) (C.no ms) e).map fun l => frzs ms (.set i (kFor C i e) l) else none
      else none
    else none
  | .Assign [.Tuple ts _ _] (.Tuple vs kt pt) _ => (tgs C ts).bind fun gs =>
      let ms := mvE C (.Tuple vs kt pt)
      if gs.all (fun g => io0 q g.1) && ms.all (io0 q) && decide (maxK gs ≤ 8) && decide (C.sc.kind = .function) && decide ((gs.map (·.1)).Nodup) then
        (swN C ts vs).bind fun b => if b then (cAK (cET n).n (C.no ms) gs vs).bind fun l => if leK gs (nwL l) && isNames ts then some (frzs ms (.setT gs (.tup l))) else none
          else (cAG ((cET n).n (maxK gs)) (C.no ms) vs).bind fun l => if gs.all (fun g => decide (g.2 ≤ nw l)) then some (frzs ms (.setT gs (.tup l))) else none
      else none
  | .Assign [.Tuple ts _ _] e _ => (tgs C ts).bind fun gs =>
      let ms := mvE C e
      if gs.all (fun g => io0 q g.1) && ms.all (io0 q) && decide (maxK gs ≤ 8) && !isTupE e then
        ((cET n).n (if maxK gs = 0 then 0 else maxK gs + 1) (C.no ms) e).bind fun l => if gs.all fun g => decide (g.2 ≤ nw l - 1) then some (frzs ms (.setT gs l)) else none
      else none
  | .Assign [.Subscript o i _] e _ => (cPath (cET n).e C n o).bind fun p =>
      let ms := mvE C e
      if decide (p.2.2.length < p.2.1) && ms.all (io0 q) && !isSl i && decide (p.2.1 ≤ 9) && !ms.contains p.1 then
        ((cET n).n (p.2.1 - p.2.2.length - 1) (C.no ms) e).bind fun l => ((cET n).e C i).map fun li => frzs ms (.put p.1 p.2.2 li (p.2.1 - p.2.2.length - 1) l)
      else none
  | .Assign [.Attribute (.Name y yp) f _] e _ => (ownSlot C y).bind fun ik =>
      let ms := mvE C e
      if C.fl.contains f && decide (1 ≤ ik.2) && decide (ik.2 ≤ 9) && ms.all (io0 q) && !ms.contains ik.1 then
        ((cET n).n (ik.2 - 1) (C.no ms) e).map fun l => frzs ms (.fput ik.1 f (ik.2 - 1) l)
      else none
  | .Expr (.Call (.Attribute o m ap) [e] [] cp) _ => (mutOf m).bind fun mt => (cPath (cET n).e C n o).bind fun p =>
      let ms := mvE C e
      if decide (p.2.2.length < p.2.1) && ms.all (io0 q) && (ap.endLine == cp.line) && decide (p.2.1 ≤ 8) && !ms.contains p.1 && !(isAttrBase o) then
        (if mt = .remove then (cET n).e (C.no ms) e else (cET n).n (p.2.1 - p.2.2.length - 1 + (if mt = .extend then 1 else 0)) (C.no ms) e).map fun l => frzs ms (.mut mt p.1 p.2.2 (p.2.1 - p.2.2.length - 1) (.acons l .anil))
      else none
  | .Expr e _ => match rxCall C (cET n).e e with
    | some (b, f, kf, l) => some (.exprX b f kf l)
    | none => none
  | .If c a b _ => if (mvX C 20 c).all (io0 q) then ((cET n).t (C.no (mvX C 20 c)) c).bind fun lt => (r C a).bind fun sa => (r C b).map fun sb => frzs (mvX C 20 c) (.ifs lt sa sb) else none
  | .For tg iter body [] _ =>
      let ms := mvI C iter
      if ms.all (io0 q) then (cSrc (cET n).e (C.no ms) tg iter).bind fun kl => (cTg C tg).bind fun g => if goodA kl.2 && ((tgSlots g).all fun i => io0 q i && (C.ow.lookup i).isNone) then (r C body).map fun b => frzs ms (.for_ kl.1 kl.2 g b) else none
      else none
  | .While c body [] _ => ((cET n).t C c).bind fun lt => (r C body).map fun b => .wh lt b
  | .Return none _ => some .retN
  | .Return (some e) _ => match e with
    | .Name x p => match ownSlot C x with
      | some (i, k) => if decide (q.kf ≤ k) && !q.io then some (.retO i) else if io0 q i then ((cET n).n 0 (C.no [i]) (.Name x p)).bind fun l => if q.io || decide (q.kf ≤ nw l) then some (frzs [i] (.ret l)) else none else none
      | none => if decide (q.kf ≤ 9) then ((cET n).n (if q.io then 0 else q.kf) (C.no []) (.Name x p)).map fun l => frzs [] (.ret l) else none
    | .Tuple es kt pt => if decide (q.kf ≤ 1) || q.io then
          let ms := mvE C (.Tuple es kt pt)
          if ms.all (io0 q) && decide (q.kf ≤ 9) then ((cET n).n (if q.io then 0 else q.kf) (C.no ms) (.Tuple es kt pt)).map fun l => frzs ms (.ret l) else none
        else if decide (q.kf ≤ 9) then (itms ((cET n).n (q.kf - 1)) C q es).map .retM else none
    | e => match rxCall C (cET n).e e with
      | some (b, f, kf, l) => if q.io || decide (q.kf ≤ if b then 9 else kf) then some (.retX b f kf l) else none
      | none =>
        let ms := mvE C e
        if ms.all (io0 q) && decide (q.kf ≤ 9) then ((cET n).n (if q.io then 0 else q.kf) (C.no ms) e).map fun l => frzs ms (.ret l) else none
  | .Raise (some (.Call (.Name c _) [.Constant (.str _) _ _] [] _)) none _ => if C.ex.contains c && glb C.sc c && plainN c then some (.raise c) else none
  | _ => none
where
  isLC : Expr → Bool
    | .ListComp _ [⟨_, _, _, 0⟩] _ _ => true
    | _ => false
  isNames : List Expr → Bool
    | [.Name _ _, .Name _ _] => true
    | [.Name _ _, .Name _ _, .Name _ _] => true
    | _ => false
  isSl : Expr → Bool
    | .Slice _ _ _ _ => true
    | _ => false
def cSs (r : Ctx → Stmt → Option S) (C : Ctx) : List Stmt → Option S
  | [] => some .skip
  | st :: rest => (r C st).bind fun a => (cSs r C rest).map fun b => .seq a b
def cST (n : Nat) (q : Fs) : Nat → RecS
  | 0 => fun _ _ => none
  | m + 1 => fun C l => cSs (fun C st => cS1 n q (cST n q m) C st) C l
end Dz

set_option Elab.async false
set_option linter.all false
set_option maxRecDepth 100000
set_option maxHeartbeats 4000000
namespace Dz
open PySem L2
variable {CA : Cmap} {G : Nat → Dz.Sem}
theorem Fit.no {C : Ctx} {X : Cx} (T : Fit CA G C X) (is : List Nat) : Fit CA G (C.no is) X := ⟨T.n, T.nd, T.sc, T.fx, T.calm, T.un, T.bl, T.gl, T.ex, T.cf, T.fn, T.mt, T.cl⟩
structure FitS (CA : Cmap) (G : Nat → Dz.Sem) (C : Ctx) (X : Cx) (W : WX) : Prop where
  f : Fit CA G C X
  tk : Takes X W
  po : PassesOwn (model X.prog X.w) X.A X.env X.xe
section
variable {x : Fx} {W : WX} {X : Cx} {C : Ctx} {n : Nat} {pos : Pos}
theorem io0_ok {q : Fs} {i : Nat} (h : io0 q i = true) : q.io = true → i ≠ 0 := by
  unfold io0 at h
  simp only [Bool.or_eq_true, Bool.not_eq_true', decide_eq_true_eq] at h
  intro z
  rcases h with h | h
  · rw [h] at z
    cases z
  · exact h
theorem frzs_imp {s : S} {D : Ends} {σ : St} {H : Hp} : ∀ {ms : List Nat}, ms.all (io0 x.q) = true → tS CA G x W (frzs ms s) D σ H → tS CA G x W s D σ H
  | [], _, h => h
  | m :: ms, hm, h => by
    rw [List.all_cons, Bool.and_eq_true] at hm
    exact frzs_imp hm.2 (frz_imp (io0_ok hm.1) h)
theorem frz_ps {ms : List Nat} {s : S} {st : Stmt} (hm : ms.all (io0 x.q) = true) (h : PS X st (tS CA G x W s)) : PS X st (tS CA G x W (frzs ms s)) := PS.imp h fun _ _ _ q => frzs_imp hm q
theorem ownSlot_ok (T : Fit CA G C X) {y : Str} {i k : Nat} (h : ownSlot C y = some (i, k)) : X.N[i]? = some y ∧ Vis X.env.scope y ∧ (y == ("__debug__" : Str)) = false ∧ (y == ("__classdict__" : Str)) = false := by
  unfold ownSlot at h
  rw [Option.ite_none_right_eq_some, Bool.and_eq_true] at h
  obtain ⟨⟨h1, h2⟩, h⟩ := h
  rw [Option.bind_eq_some_iff] at h
  obtain ⟨j, hj, h⟩ := h
  rw [Option.map_eq_some_iff] at h
  obtain ⟨k', _, e⟩ := h
  cases e
  obtain ⟨p1, p2, _⟩ := plainN_ok h1
  exact ⟨by rw [T.n]; exact slotOf_ok hj, vis_ok T h2, p1, p2⟩
theorem cPath_ok {rE : Rec} (S : Sound CA G rE) (T : Fit CA G C X) : ∀ (m : Nat) {e : Expr} {p : Nat × Nat × List Pst}, cPath rE C m e = some p → PE X e (tP CA (okF G) p.1 p.2.2)
  | 0, _, _, h => by cases h
  | m + 1, e, p, h => by
    unfold cPath at h
    split at h
    · rw [Option.map_eq_some_iff] at h
      obtain ⟨ik, h1, rfl⟩ := h
      obtain ⟨q1, q2, q3, q4⟩ := ownSlot_ok T h1
      exact snp_name q1 q2 q3 q4
    · cases h
    · rename_i a i p0 hne
      rw [Option.bind_eq_some_iff] at h
      obtain ⟨p1, h1, h⟩ := h
      rw [Option.map_eq_some_iff] at h
      obtain ⟨l, h2, rfl⟩ := h
      refine snp_ix (cPath_ok S T m h1) (S C X i l T h2).1 fun o i' => ?_
      cases i <;> first | rfl | exact absurd rfl (hne _ _ _ _)
    · rename_i a f p0
      rw [Option.ite_none_right_eq_some, Bool.and_eq_true] at h
      obtain ⟨⟨h1, h2⟩, h⟩ := h
      rw [Option.map_eq_some_iff] at h
      obtain ⟨p1, h3, rfl⟩ := h
      exact snp_fld T.cf (List.contains_iff_mem.mp h1) (cPath_ok S T m h3) (attrBase (by simpa using h2))
    · cases h
theorem flat1_te {l : L} {F : Nat → List D → Option D} {σ : St} {H : Hp} {Q : VK} (h : tD CA F (.flat1 l) σ H Q) : tD CA F l σ H Q := by
  obtain ⟨O, ρ, d, E, ev, k⟩ := h
  rw [evE, Option.bind_eq_some_iff] at ev
  obtain ⟨d', ed, ev⟩ := ev
  rw [Option.ite_none_right_eq_some] at ev
  obtain ⟨hf, ev⟩ := ev
  cases ev
  refine ⟨O, ρ, d, E, ed, fun v H' e r => k v H' e ((VR.good rfl).mpr ?_)⟩
  unfold VR at r
  split at r
  · rename_i g
    rw [if_pos g] at hf
    exact r.deep E.sub hf
  · rename_i g
    rw [if_neg g] at hf
    exact .flat (flatAt0 hf) r.1
theorem toN_te {l : L} {k : Nat} {F : Nat → List D → Option D} {σ : St} {H : Hp} {Q : VK} (h : tD CA F (toN k l) σ H Q) : tD CA F l σ H Q := by
  unfold toN at h
  split at h
  · exact h
  · exact flat1_te h
/-! ### name = value -/
theorem sw_false {y : Str} {p : Pos} {e : Expr} {m : Nat} (T : Fit CA G C X) (hb : swB C y p e = false) : swapsWith e (some (.Name y p)) m X.env = pure false := by
  cases e <;> first | rfl | (simp [swB] at hb; done) | skip
  rename_i elt gs scope pos'
  unfold swB at hb
  have hk : X.env.kindOf y = C.sc.names.lookup y := by unfold Env.kindOf; rw [T.sc]
  show (pure (X.env.blockKind == .function && X.env.kindOf y == some .local && p.line == pos'.line && !(scope.names.any fun (n, k) => n == y && (k == .local || k == .cell))) : PySem.Sem Bool) = pure false
  rw [hk]
  congr 1
  have hb' : ((C.sc.names.lookup y == some NameKind.local) && (p.line == pos'.line) && !(scope.names.any fun (n, k) => n == y && (k == .local || k == .cell))) = false := by
    rw [← hb]
    congr 2
    by_cases z : C.sc.names.lookup y = some NameKind.local
    · rw [z]; rfl
    · rw [decide_eq_false z, beq_eq_false_iff_ne.mpr z]
  cases q : X.env.blockKind == ScopeKind.function with
  | false => rfl
  | true =>
    rw [Bool.true_and]
    exact hb'
theorem comp_set {rE rT rN : Rec} (S : Sound CA G rE) (ST : SoundT CA G rT) (SN : Sound CA G rN) (T : Fit CA G C X) (hkd : C.sc.kind = .function) {elt tg iter : Expr} {ifs : List Expr} {scope : Scope} {l : L} {p py spos : Pos} {y : Str} {i : Nat} (hi : X.N[i]? = some y)
    (hb : swB C y py (.ListComp elt [⟨tg, iter, ifs, 0⟩] scope p) = true) (h : cComp rE rT rN C elt tg iter ifs scope = some l) : PS X (.Assign [.Name y py] (.ListComp elt [⟨tg, iter, ifs, 0⟩] scope p) spos) (tAsg (tD CA (okF G) l) (gName i)) := by
  unfold swB at hb
  simp only [Bool.and_eq_true, decide_eq_true_eq, Bool.not_eq_true'] at hb
  obtain ⟨⟨b1, b2⟩, b3⟩ := hb
  have hloc : X.env.scope.names.lookup y = some .local := by rw [T.sc]; exact b1
  have hsw : swapsWith (.ListComp elt [⟨tg, iter, ifs, 0⟩] scope p) (some (.Name y py)) spos.line X.env = pure true := sw_true (by rw [T.sc]; exact hkd) hloc b2 b3
  unfold cComp at h
  rw [Option.bind_eq_some_iff] at h
  obtain ⟨xs, hxs, h⟩ := h
  rw [Option.bind_eq_some_iff] at h
  obtain ⟨g, hg, h⟩ := h
  rw [Option.ite_none_right_eq_some] at h
  obtain ⟨hb, h⟩ := h
  rw [Option.bind_eq_some_iff] at h
  obtain ⟨kl, hkl, h⟩ := h
  rw [Option.bind_eq_some_iff] at h
  obtain ⟨lt, hlt, h⟩ := h
  rw [Option.map_eq_some_iff] at h
  obtain ⟨le, hle, rfl⟩ := h
  simp only [Bool.and_eq_true, List.all_eq_true, List.contains_iff_mem] at hb
  obtain ⟨q1, q2⟩ := cSrc_ok S T hkl
  have h5 : good le = true := by
    unfold cG at hle
    rw [Option.map_eq_some_iff] at hle
    obtain ⟨l', _, rfl⟩ := hle
    unfold toG
    split
    · assumption
    · rfl
  exact PS.imp (ps_setLc (own := ownOf xs g) (g := gT X.K g) (tt := tT CA (okF G) lt) (te := tD CA (okF G) le) T.calm (by rw [T.n]; exact T.nd) hi hloc hsw q1 (blkOk_by (by rw [T.n, T.sc]; exact hb.1)) (fun s H a cl fp => cTg_ok (T.blk scope s H a cl fp) hg) (fun s H a cl fp => cIfs_ok ST (T.blk scope s H a cl fp) hlt)
    (fun s H a cl fp => (cG_ok SN (T.blk scope s H a cl fp) hle).1) fun z => noFold q2 z) fun D σ H hh => comp_imp hb.2 h5 hh
theorem SK {n : Nat} (j : Nat) (hj : j ≤ 9) : Sound CA G ((cET n).n j) := fun C X e l T h => ⟨((cET_ok n).2.2 j C X e l hj T h).1, ((cET_ok n).2.2 j C X e l hj T h).2.2.2⟩
theorem st_name (T : Fit CA G C X) (hkd : C.sc.kind = .function) {y : Str} {py spos : Pos} {i k : Nat} {e : Expr} {l : L} (hi : X.N[i]? = some y) (hl : locB C y = true) (hk : k ≤ 9) (hs : (!(swB C y py e) || cS1.isLC e) = true) (h : (cET n).n k C e = some l) :
    PS X (.Assign [.Name y py] e spos) (tAsg (tD CA (okF G) l) (gName i)) := by
  obtain ⟨l1, l2⟩ := locB_ok T hl
  have pe := (cET_ok n).2.2 k C X e l hk T h
  cases hb : swB C y py e with
  | false => exact ps_set (by rw [T.n]; exact T.nd) hi l1 pe.1 (sw_false T hb) l2
  | true =>
    rw [hb] at hs
    cases n with
    | zero => cases h
    | succ n =>
      match e, hs, hb, h with
      | .ListComp elt [⟨tg, iter, ifs, 0⟩] scope p, hs, hb, h =>
        cases k with
        | zero =>
          have h : (cComp (cET n).e (cET n).t (cET n).e C elt tg iter ifs scope).map (toN 0) = some l := h
          rw [Option.map_eq_some_iff] at h
          obtain ⟨l', h1, rfl⟩ := h
          exact PS.imp (comp_set (cET_ok n).1 (cET_ok n).2.1 (cET_ok n).1 T hkd hi hb h1) fun D σ H hh => toN_te hh
        | succ k =>
          have h : (cComp (cET n).e (cET n).t ((cET n).n k) C elt tg iter ifs scope).map (toN (k + 1)) = some l := h
          rw [Option.map_eq_some_iff] at h
          obtain ⟨l', h1, rfl⟩ := h
          exact PS.imp (comp_set (cET_ok n).1 (cET_ok n).2.1 (SK k (by omega)) T hkd hi hb h1) fun D σ H hh => toN_te hh
/-! ### targets in a row -/
theorem tgs_ok {es : List Expr} {gs : List (Nat × Nat)} (h : tgs C es = some gs) : ∃ xs is, names es = some xs ∧ slots C xs = some is ∧ gs.map (·.1) = is ∧ gs.length = is.length := by
  unfold tgs at h
  rw [Option.bind_eq_some_iff] at h
  obtain ⟨xs, h1, h⟩ := h
  rw [Option.map_eq_some_iff] at h
  obtain ⟨is, h2, rfl⟩ := h
  refine ⟨xs, is, h1, h2, ?_, by simp⟩
  rw [List.map_map]
  exact List.map_id is
theorem pg_row (T : Fit CA G C X) {es : List Expr} {k : Nat} {p : Pos} {gs : List (Nat × Nat)} (h : tgs C es = some gs) : PG X (.Tuple es k p) (gTup X.K gs.length (gNames (gs.map (·.1)))) := by
  obtain ⟨xs, is, h1, h2, h3, h4⟩ := tgs_ok h
  obtain ⟨q1, q2, q3, q4⟩ := pgs_of T h1 h2
  rw [h3, h4]
  exact pg_tup T.calm q1 q2 q3
theorem sw_tup {e : Expr} {ts : List Expr} {k m : Nat} {p : Pos} {env : Env} : swapsWithSole [.Tuple ts k p] e m env = pure false := by cases e <;> rfl
theorem sw_notup {e : Expr} {ts : List Expr} {k : Nat} {p : Pos} {env : Env} (h : isTupE e = false) : swappedStores [.Tuple ts k p] e env = pure none := by cases e <;> first | rfl | (simp [isTupE] at h)
theorem swN_ok (T : Fit CA G C X) (hkd : C.sc.kind = .function) {ts vs : List Expr} {kt k2 : Nat} {pt p2 : Pos} {b : Bool} (h : swN C ts vs = some b) :
    swappedStores [.Tuple ts kt pt] (.Tuple vs k2 p2) X.env = pure (if b then some (swNames C ts) else none) ∧ (b = true → (swNames C ts).length = ts.length) := by
  have hb : X.env.blockKind = .function := by
    unfold Env.blockKind
    rw [T.sc, hkd]
    rfl
  have hk : ∀ id, X.env.kindOf id = C.sc.names.lookup id := fun id => by unfold Env.kindOf; rw [T.sc]
  have e0 : swappedStores [.Tuple ts kt pt] (.Tuple vs k2 p2) X.env = (if (!(ts.length == 2 || ts.length == 3) || vs.length != ts.length) = true then pure none
      else if (vs.any isStar) = true then pure none
      else if ((swNames C ts).length != ts.length || (swNames C ts).eraseDups.length != (swNames C ts).length) = true then pure none
      else if (vs.all (foldedForSure 8)) = true then pure none
      else if (vs.all (constantsAlone 8)) = true then (do unsupported "assign.tuple-of-constant-expressions:order-of-the-stores"; pure (some (swNames C ts)))
      else pure (some (swNames C ts))) := by
    unfold swappedStores swNames
    simp only [hb, hk, bne_self_eq_false, Bool.or_false]
    rfl
  rw [e0]
  unfold swN at h
  split at h
  · rename_i c1
    cases h
    exact ⟨by rw [if_pos c1]; rfl, fun z => nomatch z⟩
  · rename_i c1
    rw [if_neg c1]
    split at h
    · cases h
    · rename_i c2
      rw [if_neg c2]
      split at h
      · rename_i c3
        cases h
        exact ⟨by rw [if_pos c3]; rfl, fun z => nomatch z⟩
      · rename_i c3
        rw [if_neg c3]
        split at h
        · rename_i c4
          cases h
          exact ⟨by rw [if_pos c4]; rfl, fun z => nomatch z⟩
        · rename_i c4
          rw [if_neg c4]
          split at h
          · cases h
          · rename_i c5
            cases h
            refine ⟨by rw [if_neg c5]; rfl, fun _ => ?_⟩
            simp only [Bool.or_eq_true, not_or, bne_iff_ne, ne_eq, Decidable.not_not] at c3
            exact c3.1
end
end Dz

set_option Elab.async false
set_option linter.all false
set_option maxRecDepth 100000
set_option maxHeartbeats 4000000
namespace Dz
open PySem L2
variable {CA : Cmap} {G : Nat → Dz.Sem}
section
variable {x : Fx} {W : WX} {X : Cx} {C : Ctx} {n : Nat} {pos : Pos}
theorem fm_all {α β : Type} {f : α → Option β} : ∀ {l : List α}, (l.filterMap f).length = l.length → ∀ e ∈ l, ∃ y, f e = some y
  | [], _, e, h => by cases h
  | a :: l, h, e, he => by
    have hle := List.length_filterMap_le f l
    cases q : f a with
    | none =>
      rw [List.filterMap_cons_none q, List.length_cons] at h
      omega
    | some b =>
      rw [List.filterMap_cons_some q, List.length_cons, List.length_cons] at h
      rcases List.mem_cons.mp he with rfl | he
      · exact ⟨b, q⟩
      · exact fm_all (by omega) e he
theorem swOne_some {ln : Nat} {a : Str} {pa : Pos} {y : Str} (h : swOne C ln (.Name a pa) = some y) : y = a ∧ C.sc.names.lookup a = some .local := by
  unfold swOne at h
  rw [Option.ite_none_right_eq_some, Bool.and_eq_true, beq_iff_eq] at h
  obtain ⟨⟨h1, _⟩, h2⟩ := h
  cases h2
  exact ⟨rfl, h1⟩
theorem swNames2 {a b : Str} {pa pb : Pos} (h : (swNames C [.Name a pa, .Name b pb]).length = 2) : swNames C [.Name a pa, .Name b pb] = [a, b] ∧ C.sc.names.lookup a = some .local ∧ C.sc.names.lookup b = some .local := by
  unfold swNames at h ⊢
  have q := fm_all h
  obtain ⟨y1, h1⟩ := q (.Name a pa) (by simp)
  obtain ⟨y2, h2⟩ := q (.Name b pb) (by simp)
  obtain ⟨rfl, l1⟩ := swOne_some h1
  obtain ⟨rfl, l2⟩ := swOne_some h2
  exact ⟨by rw [List.filterMap_cons_some h1, List.filterMap_cons_some h2, List.filterMap_nil], l1, l2⟩
theorem swNames3 {a b c : Str} {pa pb pc : Pos} (h : (swNames C [.Name a pa, .Name b pb, .Name c pc]).length = 3) : swNames C [.Name a pa, .Name b pb, .Name c pc] = [a, b, c] ∧ C.sc.names.lookup a = some .local ∧ C.sc.names.lookup b = some .local ∧ C.sc.names.lookup c = some .local := by
  unfold swNames at h ⊢
  have q := fm_all h
  obtain ⟨y1, h1⟩ := q (.Name a pa) (by simp)
  obtain ⟨y2, h2⟩ := q (.Name b pb) (by simp)
  obtain ⟨y3, h3⟩ := q (.Name c pc) (by simp)
  obtain ⟨rfl, l1⟩ := swOne_some h1
  obtain ⟨rfl, l2⟩ := swOne_some h2
  obtain ⟨rfl, l3⟩ := swOne_some h3
  exact ⟨by rw [List.filterMap_cons_some h1, List.filterMap_cons_some h2, List.filterMap_cons_some h3, List.filterMap_nil], l1, l2, l3⟩
theorem slots2 {a b : Str} {is : List Nat} (h : slots C [a, b] = some is) : ∃ i j, is = [i, j] ∧ slotOf C.N a = some i ∧ slotOf C.N b = some j := by
  simp only [slots, Option.ite_none_right_eq_some, Option.bind_eq_some_iff, Option.map_eq_some_iff, Option.some.injEq] at h
  obtain ⟨_, i, hi, r, ⟨_, j, hj, r', rfl, rfl⟩, rfl⟩ := h
  exact ⟨i, j, rfl, hi, hj⟩
theorem slots3 {a b c : Str} {is : List Nat} (h : slots C [a, b, c] = some is) : ∃ i j l, is = [i, j, l] ∧ slotOf C.N a = some i ∧ slotOf C.N b = some j ∧ slotOf C.N c = some l := by
  simp only [slots, Option.ite_none_right_eq_some, Option.bind_eq_some_iff, Option.map_eq_some_iff, Option.some.injEq] at h
  obtain ⟨_, i, hi, r, ⟨_, j, hj, r', ⟨_, l, hl, r'', rfl, rfl⟩, rfl⟩, rfl⟩ := h
  exact ⟨i, j, l, rfl, hi, hj, hl⟩
/-- a row of names takes a row of values -/
theorem st_row (T : Fit CA G C X) (hkd : C.sc.kind = .function) {ts vs : List Expr} {kt k2 : Nat} {pt p2 : Pos} {gs : List (Nat × Nat)} {l : L} {b : Bool} (ht : tgs C ts = some gs) (hio : ∀ g ∈ gs, x.q.io = true → g.1 ≠ 0) (hnd : (gs.map (·.1)).Nodup) (gl : goodA l = true) (pa : PA X vs (tA CA (okF G) l)) (hs : swN C ts vs = some b)
    (hk : if b then leK gs (nwL l) = true ∧ cS1.isNames ts = true else ∀ g ∈ gs, g.2 ≤ nw l) : PS X (.Assign [.Tuple ts kt pt] (.Tuple vs k2 p2) pos) (tS CA G x W (.setT gs (.tup l))) := by
  obtain ⟨h1, h2⟩ := swN_ok (kt := kt) (k2 := k2) (pt := pt) (p2 := p2) T hkd hs
  cases b with
  | false => exact PS.imp (ps_asg (snd_tup gl pa) (pg_row T ht) sw_tup h1 rfl) fun D σ H h => setT_imp (l := .tup l) rfl (fun g hg => ⟨hk g hg, hio g hg⟩) h
  | true =>
    obtain ⟨hk, hb⟩ : leK gs (nwL l) = true ∧ cS1.isNames ts = true := hk
    have h2 := h2 rfl
    obtain ⟨xs, is, q1, q2, q3, q4⟩ := tgs_ok ht
    have hN : X.N.Nodup := by rw [T.n]; exact T.nd
    match ts, hb, h1, h2, q1 with
    | [.Name a pa', .Name b pb'], _, h1, h2, q1 =>
      cases q1
      obtain ⟨s1, s2, s3⟩ := swNames2 h2
      obtain ⟨i, j, rfl, hi, hj⟩ := slots2 q2
      rw [s1] at h1
      have lv : vs.length = 2 := by
        unfold swN at hs
        split at hs
        · cases hs
        · rename_i c
          simp only [List.length_cons, List.length_nil] at c
          simpa using c
      match vs, lv, pa, h1 with
      | [e1, e2], _, pa, h1 =>
        match gs, q3 with
        | [(i', k1), (j', k2')], q3 =>
          simp only [List.map_cons, List.map_nil, List.cons.injEq, and_true] at q3
          obtain ⟨rfl, rfl⟩ := q3
          have hij : i' ≠ j' := by
            simp at hnd
            exact hnd
          refine PS.imp (ps_par T.calm hN (by rw [T.n]; exact slotOf_ok hi) (by rw [T.n]; exact slotOf_ok hj) hij (by rw [T.sc]; exact s2) (by rw [T.sc]; exact s3) pa h1 sw_tup) fun D σ H h => ?_
          obtain ⟨O, ρ, ds, E, ev, kq⟩ := setA_imp gl hk hio h
          refine ⟨O, ρ, ds, E, ev, fun vs H1 e1 r1 => ?_⟩
          obtain ⟨z1, z2⟩ := kq vs H1 e1 r1
          match vs, z1, z2 with
          | [u, v], _, z2 => exact ⟨u, v, rfl, z2⟩
    | [.Name a pa', .Name b pb', .Name c pc'], _, h1, h2, q1 =>
      cases q1
      obtain ⟨s1, s2, s3, s4⟩ := swNames3 h2
      obtain ⟨i, j, m, rfl, hi, hj, hm⟩ := slots3 q2
      rw [s1] at h1
      have lv : vs.length = 3 := by
        unfold swN at hs
        split at hs
        · cases hs
        · rename_i c
          simp only [List.length_cons, List.length_nil] at c
          simpa using c
      match vs, lv, pa, h1 with
      | [e1, e2, e3], _, pa, h1 =>
        match gs, q3 with
        | [(i', k1), (j', k2'), (m', k3')], q3 =>
          simp only [List.map_cons, List.map_nil, List.cons.injEq, and_true] at q3
          obtain ⟨rfl, rfl, rfl⟩ := q3
          simp only [List.map_cons, List.map_nil, List.nodup_cons, List.mem_cons, List.not_mem_nil, or_false, not_or, not_false_eq_true, List.nodup_nil, and_true] at hnd
          refine PS.imp (ps_par3 T.calm hN (by rw [T.n]; exact slotOf_ok hi) (by rw [T.n]; exact slotOf_ok hj) (by rw [T.n]; exact slotOf_ok hm) hnd.1.1 hnd.1.2 hnd.2 (by rw [T.sc]; exact s2) (by rw [T.sc]; exact s3) (by rw [T.sc]; exact s4) pa h1 sw_tup) fun D σ H h => ?_
          obtain ⟨O, ρ, ds, E, ev, kq⟩ := setA_imp gl hk hio h
          refine ⟨O, ρ, ds, E, ev, fun vs H1 e1 r1 => ?_⟩
          obtain ⟨z1, z2⟩ := kq vs H1 e1 r1
          match vs, z1, z2 with
          | [u, v, w], _, z2 => exact ⟨u, v, w, rfl, z2⟩
theorem rxCall_ok (T : FitS CA G C X W) {e : Expr} {r : Bool × Nat × Nat × L} (h : rxCall C (cET n).e e = some r) : PE X e (tX CA G W r.1 r.2.1 r.2.2.1 r.2.2.2) ∧ ∃ f p as ps, e = .Call (.Name f p) as [] ps := by
  unfold rxCall at h
  split at h
  · rename_i f p a as ps
    split at h
    · rename_i k hk
      rw [Option.ite_none_right_eq_some, Option.map_eq_some_iff] at h
      obtain ⟨hc, l, hl, rfl⟩ := h
      simp only [Bool.and_eq_true] at hc
      obtain ⟨r1, r2, r3⟩ := plainN_ok hc.1.2
      obtain ⟨pa, st⟩ := cA_ok (cET_ok n).1 T.f hl
      exact ⟨snx_call T.tk (T.f.fn f k hk) (glb_ok T.f hc.2) r1 (fun z => by simpa using z) pa (star1 (st a List.mem_cons_self)) (noStar fun x hx => st x (List.mem_cons_of_mem _ hx)), f, p, a :: as, ps, rfl⟩
    · cases h
  · cases h
theorem itms_ok {rN : Rec} (S : Sound CA G rN) (T : Fit CA G C X) : ∀ {es : List Expr} {its : List Itm}, itms rN C x.q es = some its → PA X es (tM CA G x its)
  | [], its, h => by
    cases h
    exact snm_nil
  | e :: es, its, h => by
    unfold itms at h
    have gen : ∀ l', (cG rN C e).bind (fun l => (itms rN C x.q es).map (.e l :: ·)) = some l' → PA X (e :: es) (tM CA G x l') := fun l' h => by
      rw [Option.bind_eq_some_iff] at h
      obtain ⟨l, hl, h⟩ := h
      rw [Option.map_eq_some_iff] at h
      obtain ⟨r, hr, rfl⟩ := h
      obtain ⟨p, g, st⟩ := cG_ok S T hl
      exact snm_e g p (itms_ok S T hr) (star1 st)
    split at h
    · rename_i y p
      split at h
      · rename_i i k ho
        rw [Option.ite_none_right_eq_some] at h
        obtain ⟨hi, h⟩ := h
        rw [Option.map_eq_some_iff] at h
        obtain ⟨r, hr, rfl⟩ := h
        obtain ⟨q1, q2, q3, q4⟩ := ownSlot_ok T ho
        exact snm_mv (io0_ok hi) q1 q2 q3 q4 (itms_ok S T hr)
      · exact gen _ h
    · exact gen _ h
theorem sw_exprCall {f : Expr} {as : List Expr} {ks : List Keyword} {p : Pos} {m : Nat} {env : Env} : swapsWith (.Call f as ks p) none m env = pure false := rfl
theorem cAK_ok : ∀ {gs : List (Nat × Nat)} {es : List Expr} {l : L}, (∀ g ∈ gs, g.2 ≤ 9) → Fit CA G C X → cAK (cET n).n C gs es = some l → PA X es (tA CA (okF G) l) ∧ goodA l = true ∧ ∀ e ∈ es, isStar e = false
  | [], [], l, _, T, h => by
    cases h
    exact ⟨sna_nil, rfl, fun _ h => nomatch h⟩
  | g :: gs, e :: es, l, hg, T, h => by
    unfold cAK at h
    rw [Option.bind_eq_some_iff] at h
    obtain ⟨le, h1, h2⟩ := h
    rw [Option.map_eq_some_iff] at h2
    obtain ⟨ls, h3, rfl⟩ := h2
    obtain ⟨p, g1, st⟩ := cG_ok (SK (n := n) g.2 (hg g List.mem_cons_self)) T h1
    obtain ⟨q, gs', sts⟩ := cAK_ok (fun g hg' => hg g (List.mem_cons_of_mem _ hg')) T h3
    refine ⟨sna_cons p q (star1 st), by rw [goodA, g1, gs']; rfl, fun x hx => ?_⟩
    rcases List.mem_cons.mp hx with rfl | hx
    · exact st
    · exact sts x hx
  | [], _ :: _, l, _, T, h => by cases h
  | _ :: _, [], l, _, T, h => by cases h
theorem maxK_le : ∀ {gs : List (Nat × Nat)} {g : Nat × Nat}, g ∈ gs → g.2 ≤ maxK gs
  | (i, k) :: r, g, h => by
    unfold maxK
    rcases List.mem_cons.mp h with rfl | h
    · exact Nat.le_max_left _ _
    · exact Nat.le_trans (maxK_le h) (Nat.le_max_right _ _)
def SoundS (CA : Cmap) (G : Nat → Dz.Sem) (x : Fx) (W : WX) (X : Cx) (r : RecS) : Prop := ∀ C l s, FitS CA G C X W → r C l = some s → PSs X l (tS CA G x W s)
set_option maxHeartbeats 8000000 in
theorem cS1_ok {r : RecS} (R : SoundS CA G x W X r) (T : FitS CA G C X W) {st : Stmt} {s : S} (h : cS1 n x.q r C st = some s) : PS X st (tS CA G x W s) := by
  have TF := T.f
  unfold cS1 at h
  split at h
  · -- name = value
    rename_i y p e pos
    rw [Option.ite_none_right_eq_some] at h
    obtain ⟨hc, h⟩ := h
    simp only [Bool.and_eq_true, decide_eq_true_eq] at hc
    obtain ⟨⟨c1, c2⟩, c3⟩ := hc
    rw [Option.bind_eq_some_iff] at h
    obtain ⟨i, hi, h⟩ := h
    rw [Option.ite_none_right_eq_some] at h
    obtain ⟨hio, h⟩ := h
    have hN : X.N[i]? = some y := by rw [TF.n]; exact slotOf_ok hi
    split at h
    · rename_i b f kf l hx
      rw [Option.ite_none_right_eq_some] at h
      obtain ⟨hk, h⟩ := h
      cases h
      obtain ⟨pe, f', p', as', ps', rfl⟩ := rxCall_ok T hx
      obtain ⟨l1, l2⟩ := locB_ok TF c2
      exact st_setX (e := .Call (.Name f' p') as' [] ps') (of_decide_eq_true hk) (io0_ok hio) (ps_set (by rw [TF.n]; exact TF.nd) hN l1 pe rfl l2)
    · rw [Option.ite_none_right_eq_some, Option.map_eq_some_iff] at h
      obtain ⟨hc, l, hl, rfl⟩ := h
      simp only [Bool.and_eq_true, decide_eq_true_eq] at hc
      obtain ⟨⟨m1, m2⟩, m3⟩ := hc
      have q := (cET_ok n).2.2 _ (C.no (mvE C e)) X e l m2 (TF.no _) hl
      refine frz_ps m1 (PS.imp (st_name (C := C.no (mvE C e)) (TF.no _) c3 hN c2 m2 m3 hl) fun D σ H hh => set_imp q.2.1 q.2.2.1 (io0_ok hio) hh)
  · -- names = values
    rename_i ts k1 p1 vs kt pt pos
    rw [Option.bind_eq_some_iff] at h
    obtain ⟨gs, hgs, h⟩ := h
    rw [Option.ite_none_right_eq_some] at h
    obtain ⟨hc, h⟩ := h
    simp only [Bool.and_eq_true, decide_eq_true_eq, List.all_eq_true] at hc
    obtain ⟨⟨⟨⟨g1, m1⟩, m2⟩, m3⟩, m4⟩ := hc
    rw [Option.bind_eq_some_iff] at h
    obtain ⟨b, hb, h⟩ := h
    cases b with
    | true =>
      rw [if_pos rfl, Option.bind_eq_some_iff] at h
      obtain ⟨l, hl, h⟩ := h
      rw [Option.ite_none_right_eq_some] at h
      obtain ⟨hc, h⟩ := h
      cases h
      rw [Bool.and_eq_true] at hc
      obtain ⟨pa, gl, _⟩ := cAK_ok (n := n) (fun g hg => by have := maxK_le hg; omega) (TF.no (mvE C (.Tuple vs kt pt))) hl
      exact frz_ps (List.all_eq_true.mpr m1) (st_row TF m3 hgs (fun g hg => io0_ok (g1 g hg)) m4 gl pa hb hc)
    | false =>
      rw [if_neg Bool.false_ne_true, Option.bind_eq_some_iff] at h
      obtain ⟨l, hl, h⟩ := h
      rw [Option.ite_none_right_eq_some, List.all_eq_true] at h
      obtain ⟨hc, h⟩ := h
      cases h
      obtain ⟨pa, gl, _⟩ := cAG_ok (SK (n := n) (maxK gs) (by omega)) (TF.no (mvE C (.Tuple vs kt pt))) hl
      exact frz_ps (List.all_eq_true.mpr m1) (st_row TF m3 hgs (fun g hg => io0_ok (g1 g hg)) m4 gl pa hb fun g hg => of_decide_eq_true (hc g hg))
  · -- names = value
    rename_i ts k1 p1 e pos hne
    rw [Option.bind_eq_some_iff] at h
    obtain ⟨gs, hgs, h⟩ := h
    rw [Option.ite_none_right_eq_some] at h
    obtain ⟨hc, h⟩ := h
    simp only [Bool.and_eq_true, decide_eq_true_eq, List.all_eq_true, Bool.not_eq_true'] at hc
    obtain ⟨⟨⟨g1, m1⟩, m2⟩, m3⟩ := hc
    rw [Option.bind_eq_some_iff] at h
    obtain ⟨l, hl, h⟩ := h
    rw [Option.ite_none_right_eq_some, List.all_eq_true] at h
    obtain ⟨hc, h⟩ := h
    cases h
    have q := (cET_ok n).2.2 _ (C.no (mvE C e)) X e l (by split <;> omega) (TF.no _) hl
    exact frz_ps (List.all_eq_true.mpr m1) (PS.imp (ps_asg q.1 (pg_row TF hgs) sw_tup (sw_notup m3) rfl) fun D σ H hh => setT_imp q.2.1 (fun g hg => ⟨of_decide_eq_true (hc g hg), io0_ok (g1 g hg)⟩) hh)
  · -- an item is put
    rename_i o ie tp e pos
    rw [Option.bind_eq_some_iff] at h
    obtain ⟨p, hp, h⟩ := h
    rw [Option.ite_none_right_eq_some] at h
    obtain ⟨hc, h⟩ := h
    simp only [Bool.and_eq_true, decide_eq_true_eq, Bool.not_eq_true'] at hc
    obtain ⟨⟨⟨⟨c1, c2⟩, c3⟩, c4⟩, c5⟩ := hc
    rw [Option.bind_eq_some_iff] at h
    obtain ⟨l, hl, h⟩ := h
    rw [Option.map_eq_some_iff] at h
    obtain ⟨li, hli, rfl⟩ := h
    have q := (cET_ok n).2.2 _ (C.no (mvE C e)) X e l (by omega) (TF.no _) hl
    refine frz_ps c2 (st_put q.2.1 q.2.2.1 q.1 (cPath_ok (cET_ok n).1 TF n hp) ((cET_ok n).1 C X ie li TF hli).1 fun a b c d z => ?_)
    subst z
    simp [cS1.isSl] at c3
  · -- a field is put
    rename_i y yp f tp e pos
    rw [Option.bind_eq_some_iff] at h
    obtain ⟨ik, hik, h⟩ := h
    rw [Option.ite_none_right_eq_some] at h
    obtain ⟨hc, h⟩ := h
    simp only [Bool.and_eq_true, decide_eq_true_eq, Bool.not_eq_true'] at hc
    obtain ⟨⟨⟨⟨c1, c2⟩, c3⟩, c4⟩, c5⟩ := hc
    rw [Option.map_eq_some_iff] at h
    obtain ⟨l, hl, rfl⟩ := h
    have q := (cET_ok n).2.2 _ (C.no (mvE C e)) X e l (by omega) (TF.no _) hl
    obtain ⟨q1, q2, q3, q4⟩ := ownSlot_ok TF hik
    exact frz_ps c4 (st_fput TF.cf (List.contains_iff_mem.mp c1) q.2.1 q.2.2.1 q.1 (snp_name q1 q2 q3 q4))
  · -- a list is changed
    rename_i o m ap e cp pos
    rw [Option.bind_eq_some_iff] at h
    obtain ⟨mt, hm, h⟩ := h
    rw [Option.bind_eq_some_iff] at h
    obtain ⟨p, hp, h⟩ := h
    rw [Option.ite_none_right_eq_some] at h
    obtain ⟨hc, h⟩ := h
    simp only [Bool.and_eq_true, decide_eq_true_eq, Bool.not_eq_true'] at hc
    obtain ⟨⟨⟨⟨⟨c1, c2⟩, c3⟩, c4⟩, c5⟩, c6⟩ := hc
    rw [Option.map_eq_some_iff] at h
    obtain ⟨l, hl, rfl⟩ := h
    have pp := cPath_ok (cET_ok n).1 TF n hp
    refine frz_ps c2 ?_
    unfold mutOf at hm
    split at hm
    · rename_i z
      cases hm
      subst z
      rw [if_neg (by decide), if_neg (by decide)] at hl
      have q := (cET_ok n).2.2 _ (C.no (mvE C e)) X e l (by omega) (TF.no _) hl
      exact st_append q.2.1 q.2.2.1 pp q.1 q.2.2.2 (attrBase c6) c3
    · split at hm
      · rename_i z
        cases hm
        subst z
        rw [if_neg (by decide), if_pos rfl] at hl
        have q := (cET_ok n).2.2 _ (C.no (mvE C e)) X e l (by omega) (TF.no _) hl
        exact st_extend q.2.1 q.2.2.1 pp q.1 q.2.2.2 (attrBase c6) c3
      · split at hm
        · rename_i z
          cases hm
          subst z
          rw [if_pos rfl] at hl
          have q := (cET_ok n).1 (C.no (mvE C e)) X e l (TF.no _) hl
          exact st_remove pp q.1 q.2 (attrBase c6) c3
        · cases hm
  · -- a call
    split at h
    · rename_i b f kf l hx
      cases h
      obtain ⟨pe, f', p', as', ps', rfl⟩ := rxCall_ok T hx
      exact st_exprX pe rfl
    · cases h
  · -- if
    rw [Option.ite_none_right_eq_some] at h
    obtain ⟨hc, h⟩ := h
    rw [Option.bind_eq_some_iff] at h
    obtain ⟨lt, ht, h⟩ := h
    rw [Option.bind_eq_some_iff] at h
    obtain ⟨sa, ha, h⟩ := h
    rw [Option.map_eq_some_iff] at h
    obtain ⟨sb, hb, rfl⟩ := h
    exact frz_ps hc (st_if ((cET_ok n).2.1 _ X _ lt (TF.no _) ht) (R C _ sa T ha) (R C _ sb T hb))
  · -- for
    rename_i tg iter body pos
    rw [Option.ite_none_right_eq_some] at h
    obtain ⟨hc, h⟩ := h
    rw [Option.bind_eq_some_iff] at h
    obtain ⟨kl, hkl, h⟩ := h
    rw [Option.bind_eq_some_iff] at h
    obtain ⟨g, hg, h⟩ := h
    rw [Option.ite_none_right_eq_some, Option.map_eq_some_iff] at h
    obtain ⟨hc2, b, hb, rfl⟩ := h
    simp only [Bool.and_eq_true, List.all_eq_true] at hc2
    obtain ⟨q1, q2⟩ := cSrc_ok (cET_ok n).1 (TF.no (mvI C iter)) hkl
    exact frz_ps hc (st_for hc2.1 (fun z i hi => io0_ok (hc2.2 i hi).1 z) T.po TF.calm q1 (cTg_ok TF hg) (R C _ b T hb) fun z => noFold q2 z)
  · -- while
    rw [Option.bind_eq_some_iff] at h
    obtain ⟨lt, ht, h⟩ := h
    rw [Option.map_eq_some_iff] at h
    obtain ⟨b, hb, rfl⟩ := h
    exact st_while T.po ((cET_ok n).2.1 C X _ lt TF ht) (R C _ b T hb)
  · cases h
    exact st_retN
  · -- return
    rename_i e pos
    have gen : ∀ (ms : List Nat) (e : Expr) (l : L), x.q.kf ≤ 9 → ms.all (io0 x.q) = true → (cET n).n (if x.q.io then 0 else x.q.kf) (C.no ms) e = some l → PS X (.Return (some e) pos) (tS CA G x W (frzs ms (.ret l))) := fun ms e l h9 hm hl => by
      have q := (cET_ok n).2.2 _ (C.no ms) X e l (by split <;> omega) (TF.no _) hl
      refine frz_ps hm (st_ret q.2.1 (fun z => ?_) q.1)
      have := q.2.2.1
      rw [z] at this
      exact this
    split at h
    · rename_i y p
      split at h
      · rename_i i k ho
        obtain ⟨q1, q2, q3, q4⟩ := ownSlot_ok TF ho
        split at h
        · cases h
          exact st_retO q1 q2 q3 q4
        · rw [Option.ite_none_right_eq_some, Option.bind_eq_some_iff] at h
          obtain ⟨hi, l, hl, h⟩ := h
          rw [Option.ite_none_right_eq_some] at h
          obtain ⟨hk, h⟩ := h
          cases h
          have q := (cET_ok n).2.2 0 (C.no [i]) X _ l (by omega) (TF.no _) hl
          refine frz_ps (by simp [hi]) (st_ret q.2.1 (fun z => ?_) q.1)
          rw [z] at hk
          simpa using hk
      · rw [Option.ite_none_right_eq_some, Option.map_eq_some_iff] at h
        obtain ⟨h9, l, hl, rfl⟩ := h
        exact gen [] _ l (of_decide_eq_true h9) rfl hl
    · rename_i es kt pt
      split at h
      · rw [Option.ite_none_right_eq_some, Option.map_eq_some_iff, Bool.and_eq_true] at h
        obtain ⟨⟨hm, h9⟩, l, hl, rfl⟩ := h
        exact gen _ _ l (of_decide_eq_true h9) hm hl
      · rw [Option.ite_none_right_eq_some, Option.map_eq_some_iff] at h
        obtain ⟨h9, its, hi, rfl⟩ := h
        have := of_decide_eq_true h9
        exact st_retM (itms_ok (SK (n := n) (x.q.kf - 1) (by omega)) TF hi)
    · split at h
      · rename_i b f kf l hx
        rw [Option.ite_none_right_eq_some] at h
        obtain ⟨hk, h⟩ := h
        cases h
        refine st_retX (fun z => ?_) (rxCall_ok T hx).1
        rw [z] at hk
        simpa using hk
      · rw [Option.ite_none_right_eq_some, Option.map_eq_some_iff, Bool.and_eq_true] at h
        obtain ⟨⟨hm, h9⟩, l, hl, rfl⟩ := h
        exact gen _ _ l (of_decide_eq_true h9) hm hl
  · -- raise
    rename_i c p m j p2 p3 pos
    rw [Option.ite_none_right_eq_some] at h
    obtain ⟨hc, h⟩ := h
    cases h
    simp only [Bool.and_eq_true] at hc
    obtain ⟨⟨c1, c2⟩, c3⟩ := hc
    have E := TF.ex c (List.contains_iff_mem.mp c1)
    exact st_raise TF.calm T.tk (pmk_own PySem.F.excBase_ValueError E.xi E.g E.k (raises_own E.b E.t) (glb_ok TF c2) (plainN_ok c3).1)
  · cases h
theorem cSs_ok {r : RecS} (R : SoundS CA G x W X r) (T : FitS CA G C X W) : ∀ {l : List Stmt} {s : S}, cSs (fun C st => cS1 n x.q r C st) C l = some s → PSs X l (tS CA G x W s)
  | [], s, h => by
    cases h
    exact sts_nil
  | st :: rest, s, h => by
    unfold cSs at h
    rw [Option.bind_eq_some_iff] at h
    obtain ⟨a, ha, h⟩ := h
    rw [Option.map_eq_some_iff] at h
    obtain ⟨b, hb, rfl⟩ := h
    exact sts_cons (cS1_ok R T ha) (cSs_ok R T hb)
theorem cST_ok : ∀ (m : Nat), SoundS CA G x W X (cST n x.q m)
  | 0 => fun _ _ _ _ h => by cases h
  | m + 1 => fun C l s T h => cSs_ok (cST_ok m) T h
end
end Dz

set_option Elab.async false
set_option linter.all false
set_option maxRecDepth 100000
set_option maxHeartbeats 4000000
namespace Dz
open PySem PyProof.Rows L2
variable {CA : Cmap} {G : Nat → Dz.Sem}
/-! ### from a def's text to its promise -/
/-- a name that may be called, at a level of the stack -/
inductive Ent (CA : Cmap) (G : Nat → Dz.Sem) (P : Program) (w : World) (K : PySem.W.Frag) (mg : Str → Option Value) (base : Heap) (lv : Nat) (y : Str) (f kk : Nat) : Prop
  | fn (a : Addr) (fd : FuncData) (ps : List Str) (k n kn : Nat) : FnOk P w K mg base (L2.CX P w) k a fd ps (spD CA n (G f) kn) → k ≤ lv → mg y = some (.ref a) → PySem.W.keepIn K (.ref a) = true → Binds K fd ps [] →
      (∀ ds r, G f ds = some r → ds.length = n) → kk ≤ kn → Ent CA G P w K mg base lv y f kk
  | mk (c : Str) (C : Addr) (i : Nat) (a : Addr) (fd : FuncData) (ps : List Str) (k n kn : Nat) : CA.ins c = some C → Mk K C a → FnOk P w K mg base (L2.CX P w) k a fd ps (spM CA n (G i) (kn + 1)) → k + 1 ≤ lv → mg y = some (.ref C) → Binds K fd ps [] →
      (∀ ds r, G i ds = some r → ds.length = n + 1) → (∀ ds, G f ds = makes c (G i) ds) → (∀ ds d s, G i ds = some (.ok d, s) → d = .none) → kk ≤ kn + 1 → Ent CA G P w K mg base lv y f kk
/-- a method that may be called, at a level of the stack -/
inductive EntM (CA : Cmap) (G : Nat → Dz.Sem) (P : Program) (w : World) (K : PySem.W.Frag) (mg : Str → Option Value) (base : Heap) (lv : Nat) (c m : Str) (f kk : Nat) : Prop
  | mk (C a : Addr) (fd : FuncData) (ps : List Str) (k n kn : Nat) : CA.ins c = some C → Cls K C → Meth K C m a → FnOk P w K mg base (L2.CX P w) k a fd ps (spD CA n (G f) kn) → k ≤ lv → Binds K fd ps [] → (∀ ds r, G f ds = some r → ds.length = n) → kk ≤ kn → EntM CA G P w K mg base lv c m f kk
def EntMs (CA : Cmap) (G : Nat → Dz.Sem) (P : Program) (w : World) (K : PySem.W.Frag) (mg : Str → Option Value) (base : Heap) (lv : Nat) (l : List (Str × (List (Str × Nat) × Nat))) : Prop := ∀ m tk, l.lookup m = some tk → ∀ c f, tk.1.lookup c = some f → EntM CA G P w K mg base lv c m f tk.2
theorem entMnil {CA : Cmap} {G : Nat → Dz.Sem} {P : Program} {w : World} {K : PySem.W.Frag} {mg : Str → Option Value} {base : Heap} {lv : Nat} : EntMs CA G P w K mg base lv [] := fun _ _ h => (by cases h)
/-- what holds of the module for a context -/
structure ModF (CA : Cmap) (C : Ctx) (K : PySem.W.Frag) (mg : Str → Option Value) : Prop where
  bl : ∀ x, x ∈ bnames → mg x = none
  gl : ∀ x i, C.gl.lookup x = some i → ∃ t, mg x = some (.int i t)
  ex : ∀ c, c ∈ C.ex → ExcF K mg c (CA.exc c)
  cf : ClsF CA C.fl K
  ct : ∀ y cs, C.cl.lookup y = some cs → ∃ D, mg y = some (.ref D) ∧ ∀ c B, CA.ins c = some B → InsF K B ∧ PySem.W.kitOne K (.ref B) (.ref D) = some (cs.contains c)
section
variable {P : Program} {w : World} {K : PySem.W.Frag} {mg : Str → Option Value} {base : Heap}
theorem fit_of {C : Ctx} {lv : Nat} {qual : Str} {sc : Scope} {f : Addr} {cdv : Value} {A : Around} {outer : List Env} {s : Shared} {H : Hp} {E : XK} (hnd : C.N.Nodup) (hsc : C.sc = sc) (hfx : C.fx = fun _ => true) (M : ModF CA C K mg) (hf : ∀ x f, C.fn.lookup x = some f → Ent CA G P w K mg base lv x f.1 f.2) (hm : EntMs CA G P w K mg base lv C.mt)
    (hr : Room lv (A.deeper (envOfC qual sc s.heap.objs.size f cdv))) : Fit CA G C (cxOf (L2.CX P w) P w K mg base C.N qual sc f cdv A outer s H E) where
  n := rfl
  nd := hnd
  sc := hsc.symm
  fx := hfx.symm
  calm := rfl
  un := by
    have := hr.un
    show (A.deeper (envOfC qual sc s.heap.objs.size f cdv)).units + 65 < cLine
    omega
  bl := M.bl
  gl := M.gl
  ex := M.ex
  cf := M.cf
  fn := fun x f h => by
    cases hf x f h with
    | fn a fd ps k n kn h1 h2 h3 h4 h5 h6 h7 => exact .fn a fd ps k n kn h1 (hr.mono h2) h3 h4 h5 h6 h7
    | mk c C i a fd ps k n kn h0 h1 h2 h3 h4 h5 h6 h7 h8 h9 => exact .mk c C i a fd ps k n kn h0 h1 h2 (hr.mono h3) h4 h5 h6 h7 h8 h9
  mt := fun m tk h c f h' => by
    cases hm m tk h c f h' with
    | mk C a fd ps k n kn h0 h1 h2 h3 h4 h5 h6 h7 => exact .mk C a fd ps k n kn h0 h1 h2 h3 (hr.mono h4) h5 h6 h7
  cl := M.ct
theorem fitS_of {C : Ctx} {qual : Str} {sc : Scope} {f : Addr} {cdv : Value} {A : Around} {outer : List Env} {s : Shared} {H : Hp} {E : XK} (T : Fit CA G C (cxOf (L2.CX P w) P w K mg base C.N qual sc f cdv A outer s H E)) :
    FitS CA G C (cxOf (L2.CX P w) P w K mg base C.N qual sc f cdv A outer s H E) (fun cls d _ H => E cls d H) := ⟨T, takes_of rfl rfl rfl rfl, passes_of rfl⟩
theorem start_get {N : List Str} {vs : List V} {i : Nat} {v : V} (h : vs[i]? = some v) : (L2.start N vs)[i]? = some (some v) := by
  unfold L2.start
  obtain ⟨hl, _⟩ := List.getElem?_eq_some_iff.mp h
  rw [List.getElem?_append_left (by simpa using hl), List.getElem?_map, h]
  rfl
theorem slots0_fz {nl : Nat} {q : Fs} {kio : Nat} {ds : List D} {i : Nat} {d : D} (hq : q.io = false) (h : (slots0 nl q kio ds)[i]? = some (.fz d)) : ds[i]? = some d := by
  unfold slots0 at h
  rw [hq] at h
  simp only at h
  by_cases hl : i < ds.length
  · rw [List.getElem?_append_left (by simpa using hl), List.getElem?_map] at h
    cases e : ds[i]? with
    | none => rw [e] at h; cases h
    | some d' => rw [e] at h; cases h; rfl
  · rw [List.getElem?_append_right (by simpa using hl)] at h
    obtain ⟨h1, h2⟩ := List.getElem?_eq_some_iff.mp h
    rw [List.getElem_replicate] at h2
    cases h2
theorem slots0_own {nl : Nat} {q : Fs} {kio : Nat} {ds : List D} {i k : Nat} {d : D} (hq : q.io = false) (h : (slots0 nl q kio ds)[i]? = some (.own k d)) : False := by
  unfold slots0 at h
  rw [hq] at h
  simp only at h
  by_cases hl : i < ds.length
  · rw [List.getElem?_append_left (by simpa using hl), List.getElem?_map] at h
    cases e : ds[i]? with
    | none => rw [e] at h; cases h
    | some d' => rw [e] at h; cases h
  · rw [List.getElem?_append_right (by simpa using hl)] at h
    obtain ⟨h1, h2⟩ := List.getElem?_eq_some_iff.mp h
    rw [List.getElem_replicate] at h2
    cases h2
theorem But.nil {H H' : Hp} (h : But [] H H') : Ext H H' := fun a o e => h a o e (by simp)
/-- a def that changes none of its arguments -/
theorem fn_pure {nm qual : Str} {st : Stmt} {f : Addr} {fd : FuncData} {C : Ctx} {ps : List Str} {lv n m kf np nl : Nat} {s : S} (F : Fun K nm qual st f fd) (Sc : FnScope C.N ps (defScope st)) (hsc : C.sc = defScope st) (hfx : C.fx = fun _ => true) (M : ModF CA C K mg)
    (hf : ∀ x f, C.fn.lookup x = some f → Ent CA G P w K mg base lv x f.1 f.2) (hm : EntMs CA G P w K mg base lv C.mt) (hnp : ps.length = np) (hnl : C.N.length = np + nl) (h : cST n ⟨kf, false⟩ m C (defBody st) = some s) :
    FnOk P w K mg base (L2.CX P w) (lv + 1) f fd ps (spD CA np (semS G ⟨kf, false⟩ 0 np nl s) kf) := by
  refine F.okX Sc (fun vs H Q E q => by rw [spD_len q, hnp]) (fun cdv A outer s0 H vs Q E hr q => ?_)
  obtain ⟨O, ds, r, s', sub, ra, hl, hs, kq⟩ := q
  refine ⟨_, cST_ok (n := n) (x := ⟨H, [], O, .non, ⟨kf, false⟩⟩) m C _ s (fitS_of (fit_of Sc.nd hsc hfx M hf hm hr)) h, ?_⟩
  unfold semS at hs
  rw [Option.ite_none_right_eq_some, Option.bind_eq_some_iff] at hs
  obtain ⟨_, o, ev, hs⟩ := hs
  have hvl := ra.length
  refine ⟨O, _, o, ⟨fun _ => none, sub, ?_, fun i d hi => ?_, fun a i z => (by cases z), fun i k d hi => (slots0_own rfl hi).elim, fun a o z _ => z, fun a z => z, sub, fun a z => (by cases z), fun _ => rfl, fun z => (by cases z)⟩, ev, ?_⟩
  · unfold slots0 L2.start
    simp only [List.length_append, List.length_map, List.length_replicate]
    omega
  · obtain ⟨v, h1, h2⟩ := ra.get (slots0_fz rfl hi)
    exact ⟨v, start_get h1, h2⟩
  · cases o with
    | nx ρ =>
      simp only [ioOf, Bool.false_eq_true, if_false, Option.map_some, Option.some.injEq, Prod.mk.injEq] at hs
      obtain ⟨rfl, _⟩ := hs
      exact fun σ H' O' e' E' => let ⟨w', E''⟩ := E'; kq .non H' E''.frame.nil (.flat (H'' := H') rfl (rp_none.mpr rfl))
    | rt ρ d =>
      simp only [ioOf, Bool.false_eq_true, if_false, Option.map_some, Option.some.injEq, Prod.mk.injEq] at hs
      obtain ⟨rfl, _⟩ := hs
      exact fun v σ H' O' e' E' rv => let ⟨w', E''⟩ := E'; kq v H' E''.frame.nil (by unfold RV at rv; exact rv)
    | ex ρ c =>
      simp only [ioOf, Bool.false_eq_true, if_false, Option.map_some, Option.some.injEq, Prod.mk.injEq] at hs
      obtain ⟨rfl, _⟩ := hs
      exact fun σ H' O' e' E' => let ⟨w', E''⟩ := E'; kq H' E''.frame.nil
/-- a def that changes its first argument -/
theorem fn_io {nm qual : Str} {st : Stmt} {f : Addr} {fd : FuncData} {C : Ctx} {ps : List Str} {lv n m kf kio np nl : Nat} {s : S} (F : Fun K nm qual st f fd) (Sc : FnScope C.N ps (defScope st)) (hsc : C.sc = defScope st) (hfx : C.fx = fun _ => true) (M : ModF CA C K mg)
    (hf : ∀ x f, C.fn.lookup x = some f → Ent CA G P w K mg base lv x f.1 f.2) (hm : EntMs CA G P w K mg base lv C.mt) (hnp : ps.length = np + 1) (hnl : C.N.length = np + 1 + nl) (h : cST n ⟨kf, true⟩ m C (defBody st) = some s) :
    FnOk P w K mg base (L2.CX P w) (lv + 1) f fd ps (spM CA np (semS G ⟨kf, true⟩ kio (np + 1) nl s) kio) := by
  refine F.okX Sc (fun vs H Q E q => ?_) (fun cdv A outer s0 H vs Q E hr q => ?_)
  · obtain ⟨O, fp, d0, v0, ds, vs', r, s', _, rfl, _, _, _, ra, e, _⟩ := q
    rw [List.length_cons, ra.length, e, hnp]
  obtain ⟨O, fp, d0, v0, ds, vs', r, s', sub, rfl, nd, fO, ow, ra, hl, hs, kq⟩ := q
  refine ⟨_, cST_ok (n := n) (x := ⟨H, fp, O, v0, ⟨kf, true⟩⟩) m C _ s (fitS_of (fit_of Sc.nd hsc hfx M hf hm hr)) h, ?_⟩
  unfold semS at hs
  rw [Option.ite_none_right_eq_some, Option.bind_eq_some_iff] at hs
  obtain ⟨_, o, ev, hs⟩ := hs
  have hvl := ra.length
  have sl : ∀ (i : Nat) (y : Sl), (slots0 nl ⟨kf, true⟩ kio (d0 :: ds))[i + 1]? = some y → (∃ d, y = .fz d ∧ ds[i]? = some d) ∨ y = .no := fun i y hy => by
    unfold slots0 at hy
    simp only [List.cons_append, List.getElem?_cons_succ] at hy
    by_cases hi : i < ds.length
    · rw [List.getElem?_append_left (by simpa using hi), List.getElem?_map, List.getElem?_eq_getElem hi] at hy
      cases hy
      exact .inl ⟨_, rfl, List.getElem?_eq_getElem hi⟩
    · rw [List.getElem?_append_right (by simpa using hi)] at hy
      obtain ⟨h1, h2⟩ := List.getElem?_eq_some_iff.mp hy
      rw [List.getElem_replicate] at h2
      exact .inr h2.symm
  have fin : ∀ {σ : L2.St} {H' : Hp} {O' : Addr → Bool} {ρ : List Sl}, EnvS CA ⟨H, fp, O, v0, ⟨kf, true⟩⟩ O' H' σ ρ → slotO ρ 0 kio = some s' → ∃ fp', But fp H H' ∧ fp'.Nodup ∧ (∀ a ∈ fp', a ∈ fp ∨ H a = none) ∧ (∀ a ∈ fp, Kind H' a) ∧ OwnR CA H' (off (sup O fp') H') s' kio v0 fp' := fun {σ H' O' ρ} ⟨w', E⟩ hsl => by
    obtain ⟨v, fp', h1, h2, h3, h4⟩ := E.own 0 kio s' (slotO_some hsl)
    have := E.io0 rfl
    rw [h1] at this
    cases this
    refine ⟨fp', E.frame, h2, fun a ha => ?_, fun a ha => E.sub a (E.inO a (fO a ha)), OwnR.mono (off_le fun a z => ?_) s' kio _ fp' (fun a _ o z => z) h4⟩
    · rcases (E.wO a 0 (h3 a ha)).2 with z | ⟨z, _⟩
      · exact .inr z
      · exact .inl z
    · rcases sup_true.mp z with z | z
      · exact E.inO a z
      · exact (E.wO a 0 (h3 a z)).1
  refine ⟨O, _, o, ⟨fun a => if a ∈ fp then some 0 else none, sub, ?_, fun i d hi => ?_, fun a i z => ?_, fun i k d hi => ?_, fun a o z _ => z, fun a z => z, sub, fO, fun z => (by cases z), fun _ => start_get rfl⟩, ev, ?_⟩
  · unfold slots0 L2.start
    simp only [List.length_append, List.length_map, List.length_replicate, List.length_cons]
    omega
  · cases i with
    | zero => cases hi
    | succ i =>
      rcases sl i _ hi with ⟨d', e, hd⟩ | e
      · cases e
        obtain ⟨v, h1, h2⟩ := ra.get hd
        exact ⟨v, start_get (vs := v0 :: vs') (by rw [List.getElem?_cons_succ]; exact h1), h2⟩
      · cases e
  · split at z
    · rename_i ha
      cases z
      exact ⟨fO a ha, .inr ⟨ha, rfl⟩⟩
    · cases z
  · cases i with
    | zero =>
      cases hi
      exact ⟨v0, fp, start_get rfl, nd, fun a ha => by simp [ha], ow⟩
    | succ i =>
      rcases sl i _ hi with ⟨d', e, _⟩ | e <;> cases e
  · cases o with
    | nx ρ =>
      simp only [ioOf, if_true, Option.map_eq_some_iff, Prod.mk.injEq] at hs
      obtain ⟨s2, h1, rfl, rfl⟩ := hs
      exact fun σ H' O' e' E' => let ⟨fp', b1, b2, b3, b4, b5⟩ := fin E' h1; kq H' fp' b1 b2 b3 b4 b5 .non rfl (rp_none.mpr rfl)
    | rt ρ d =>
      simp only [ioOf, if_true, Option.map_eq_some_iff, Prod.mk.injEq] at hs
      obtain ⟨s2, h1, rfl, rfl⟩ := hs
      exact fun v σ H' O' e' E' rv => let ⟨fp', b1, b2, b3, b4, b5⟩ := fin E' h1; kq H' fp' b1 b2 b3 b4 b5 v (by unfold RV at rv; exact rv.1) (by unfold RV at rv; exact rv.2)
    | ex ρ c =>
      simp only [ioOf, if_true, Option.map_eq_some_iff, Prod.mk.injEq] at hs
      obtain ⟨s2, h1, rfl, rfl⟩ := hs
      exact fun σ H' O' e' E' => let ⟨fp', b1, b2, b3, b4, b5⟩ := fin E' h1; kq H' fp' b1 b2 b3 b4 b5
theorem semS_len {q : Fs} {kio np nl : Nat} {s : S} {ds : List D} {r : Rs × D} (h : semS G q kio np nl s ds = some r) : ds.length = np := by
  unfold semS at h
  rw [Option.ite_none_right_eq_some] at h
  exact h.1
/-- one def more -/
def ext (G : Nat → Dz.Sem) (n : Nat) (f : Dz.Sem) : Nat → Dz.Sem := fun i => if i = n then f else G i
end
def noLists (K : PySem.W.Frag) : Bool := K.all fun p => match p.2.cls with
  | .type t => t != "list"
  | _ => true
theorem noLists_rd {K : PySem.W.Frag} (h : noLists K = true) {H : Hp} {a : Addr} {xs : List V} (s : SqL K H a xs) : Rd H a (.lst xs) := by
  rcases s with s | ⟨o, its, n, hl, hc, _⟩
  · exact s
  · exfalso
    have mem : ∀ {l : PySem.W.Frag}, l.lookup a = some o → (a, o) ∈ l := by
      intro l
      induction l with
      | nil => intro z; cases z
      | cons p l ih =>
        obtain ⟨b, u⟩ := p
        intro z
        rw [List.lookup_cons] at z
        split at z
        · rename_i e
          cases z
          rw [beq_iff_eq] at e
          subst e
          exact List.mem_cons_self
        · exact List.mem_cons_of_mem _ (ih z)
    have := List.all_eq_true.mp h (a, o) (mem hl)
    simp only [hc] at this
    exact absurd this (by decide)
end Dz
namespace Dz
open PySem PyProof.Rows L2
/-- a def of the program where it stands -/
structure At (K : PySem.W.Frag) (mg : Str → Option Value) (nm : Str) (st : Stmt) (ps : List Str) (a : Addr) (fd : FuncData) : Prop where
  F : Fun K nm nm st a fd
  g : mg nm = some (.ref a)
  b : Binds K fd ps []
section
variable {CA : Cmap} {P : Program} {w : World} {K : PySem.W.Frag} {mg : Str → Option Value} {base : Heap}
def EntAll (CA : Cmap) (G : Nat → Dz.Sem) (P : Program) (w : World) (K : PySem.W.Frag) (mg : Str → Option Value) (base : Heap) (lv : Nat) (l : List (Str × (Nat × Nat))) : Prop := ∀ p ∈ l, Ent CA G P w K mg base lv p.1 p.2.1 p.2.2
theorem entNil {G : Nat → Dz.Sem} {lv : Nat} : EntAll CA G P w K mg base lv [] := fun _ h => (by cases h)
theorem entCons {G : Nat → Dz.Sem} {lv : Nat} {y : Str} {f k : Nat} {l : List (Str × (Nat × Nat))} (h : Ent CA G P w K mg base lv y f k) (t : EntAll CA G P w K mg base lv l) : EntAll CA G P w K mg base lv ((y, (f, k)) :: l) := fun p hp => by
  rcases List.mem_cons.mp hp with rfl | hp
  · exact h
  · exact t p hp
theorem lookup_mem {β : Type} : ∀ {l : List (Str × β)} {y : Str} {f : β}, l.lookup y = some f → (y, f) ∈ l
  | [], _, _, h => by cases h
  | (z, g) :: l, y, f, h => by
    rw [List.lookup_cons] at h
    split at h
    · rename_i e
      cases h
      rw [beq_iff_eq] at e
      subst e
      exact List.mem_cons_self
    · exact List.mem_cons_of_mem _ (lookup_mem h)
theorem EntAll.get {G : Nat → Dz.Sem} {lv : Nat} {l : List (Str × (Nat × Nat))} (t : EntAll CA G P w K mg base lv l) : ∀ x f, l.lookup x = some f → Ent CA G P w K mg base lv x f.1 f.2 := fun x f h => t (x, f) (lookup_mem h)
theorem ent_of {G : Nat → Dz.Sem} {nm : Str} {st : Stmt} {ps : List Str} {a : Addr} {fd : FuncData} {k lv n kn j : Nat} {sem : Dz.Sem} (A : At K mg nm st ps a fd) (F : FnOk P w K mg base (L2.CX P w) k a fd ps (spD CA n sem kn)) (hk : k ≤ lv) (hG : G j = sem) (hl : ∀ ds r, sem ds = some r → ds.length = n) :
    Ent CA G P w K mg base lv nm j kn := .fn a fd ps k n kn (by rw [hG]; exact F) hk A.g A.F.kp A.b (by rw [hG]; exact hl) (Nat.le_refl _)
theorem ModF.as {C C' : Ctx} (M : ModF CA C K mg) (h1 : C'.gl = C.gl) (h2 : C'.ex = C.ex) (h3 : C'.fl = C.fl) (h4 : C'.cl = C.cl) : ModF CA C' K mg := ⟨M.bl, by rw [h1]; exact M.gl, by rw [h2]; exact M.ex, by rw [h3]; exact M.cf, by rw [h4]; exact M.ct⟩
/-- the law's own end -/
theorem law_sp {sem : Dz.Sem} {kf : Nat} (hK : noLists K = true) {H : Hp} {a : Addr} {ns : List Int} (hS : SqL K H a (ns.map V.int)) {s : D} (h : sem [.list (ns.map PyData.int)] = some (.ok (.bool true), s)) :
    spD CA 1 sem kf [.ref a] H (fun v _ => v = .bl true) fun _ _ _ => False := by
  refine ⟨none0, [.list (ns.map PyData.int)], .ok (.bool true), s, none0_sub H, .cons (rp_list.mpr ⟨a, ns.map V.int, rfl, by rw [off_none]; exact noLists_rd hK hS, RpAll.ints.mpr rfl⟩) .nil, rfl, h, fun v H' _ q => ?_⟩
  exact rp_bool.mp (q.rp (none0_sub H))
theorem noCX {H : Hp} {s : Shared} {e : Value} {s' : Shared} (h : L2.CX P w [] H s (fun _ _ _ => False) e s') : False := by
  obtain ⟨_, _, _, _, _, _, _, _, _, _, _, _, z⟩ := h
  exact z
end
end Dz

set_option Elab.async false
set_option linter.all false
set_option maxRecDepth 100000
set_option maxHeartbeats 4000000
namespace Dz
open PySem PyProof.Rows L2
/-! ### makers and methods -/
/-- a body that never tells a value -/
def noRet : S → Bool
  | .seq a b => noRet a && noRet b
  | .ifs _ a b => noRet a && noRet b
  | .for_ _ _ _ b => noRet b
  | .wh _ _ => false
  | .ret _ => false
  | .retO _ => false
  | .retM _ => false
  | .retN => false
  | .retX _ _ _ _ => false
  | .try_ _ _ _ => false
  | _ => true
def isRt : Out → Bool
  | .rt _ _ => true
  | _ => false
theorem noRet_for {b : List Sl → Option Out} (hb : ∀ ρ o, b ρ = some o → isRt o = false) {g : Tg} : ∀ {items : List D} {ρ : List Sl} {o : Out}, forGo b g items ρ = some o → isRt o = false
  | [], ρ, o, h => by cases h; rfl
  | x :: items, ρ, o, h => by
    rw [forGo, Option.bind_eq_some_iff] at h
    obtain ⟨ρ1, h1, h⟩ := h
    rw [Option.bind_eq_some_iff] at h
    obtain ⟨o1, h2, h⟩ := h
    cases o1 with
    | nx ρ2 => exact noRet_for hb h
    | rt ρ2 d => have := hb _ _ h2; cases this
    | ex ρ2 c => cases h; rfl
theorem noRet_ok {G : Nat → Dz.Sem} {q : Fs} : ∀ {s : S} {ρ : List Sl} {o : Out}, noRet s = true → evS G q s ρ = some o → isRt o = false := by
  intro s
  induction s with
  | skip => intro ρ o _ h; cases h; rfl
  | seq a b iha ihb =>
    intro ρ o hn h
    rw [noRet, Bool.and_eq_true] at hn
    rw [evS, Option.bind_eq_some_iff] at h
    obtain ⟨o1, h1, h⟩ := h
    cases o1 with
    | nx ρ2 => exact ihb hn.2 h
    | rt ρ2 d => have := iha hn.1 h1; cases this
    | ex ρ2 c => cases h; rfl
  | ifs t a b iha ihb =>
    intro ρ o hn h
    rw [noRet, Bool.and_eq_true] at hn
    rw [evS, Option.bind_eq_some_iff] at h
    obtain ⟨c, _, h⟩ := h
    cases c with
    | true => exact iha hn.1 h
    | false => exact ihb hn.2 h
  | for_ k s g b ih =>
    intro ρ o hn h
    rw [evS, Option.bind_eq_some_iff] at h
    obtain ⟨items, _, h⟩ := h
    exact noRet_for (fun ρ o z => ih hn z) h
  | setT gs e =>
    intro ρ o _ h
    rw [evS, Option.bind_eq_some_iff] at h
    obtain ⟨ds, _, h⟩ := h
    rw [Option.map_eq_some_iff] at h
    obtain ⟨_, _, rfl⟩ := h
    rfl
  | set i k e =>
    intro ρ o _ h
    rw [evS, Option.map_eq_some_iff] at h
    obtain ⟨_, _, rfl⟩ := h
    rfl
  | «mut» m i p k a =>
    intro ρ o _ h
    rw [evS] at h
    simp only [Option.bind_eq_some_iff] at h
    obtain ⟨d, _, pp, _, xs, _, h⟩ := h
    split at h
    · simp only [Option.bind_eq_some_iff, Option.map_eq_some_iff] at h
      obtain ⟨_, _, _, _, rfl⟩ := h
      rfl
    · cases h
  | put i p x k e =>
    intro ρ o _ h
    rw [evS] at h
    simp only [Option.bind_eq_some_iff] at h
    obtain ⟨d, _, y, _, pp, _, h⟩ := h
    split at h
    · simp only [Option.bind_eq_some_iff, Option.map_eq_some_iff] at h
      obtain ⟨_, _, _, _, rfl⟩ := h
      rfl
    · cases h
  | fput i f k e =>
    intro ρ o _ h
    rw [evS] at h
    simp only [Option.bind_eq_some_iff] at h
    obtain ⟨d, _, y, _, h⟩ := h
    split at h
    · rw [Option.ite_none_right_eq_some] at h
      obtain ⟨_, h⟩ := h
      cases h
      rfl
    · cases h
  | fputM i f k es =>
    intro ρ o _ h
    rw [evS] at h
    simp only [Option.bind_eq_some_iff] at h
    obtain ⟨d, _, y, _, h⟩ := h
    split at h
    · rw [Option.ite_none_right_eq_some] at h
      obtain ⟨_, h⟩ := h
      cases h
      rfl
    · cases h
  | raise c => intro ρ o _ h; cases h; rfl
  | expr e =>
    intro ρ o _ h
    rw [evS, Option.map_eq_some_iff] at h
    obtain ⟨_, _, rfl⟩ := h
    rfl
  | exprX b f k a =>
    intro ρ o _ h
    rw [evS] at h
    simp only [Option.bind_eq_some_iff] at h
    obtain ⟨xs, _, r, _, h⟩ := h
    split at h <;> (cases h; rfl)
  | setX i k b f kf a =>
    intro ρ o _ h
    rw [evS] at h
    simp only [Option.bind_eq_some_iff] at h
    obtain ⟨xs, _, r, _, h⟩ := h
    split at h
    · rw [Option.ite_none_right_eq_some] at h
      obtain ⟨_, h⟩ := h
      cases h
      rfl
    · cases h; rfl
  | methX i m tab k a =>
    intro ρ o _ h
    rw [evS] at h
    simp only [Option.bind_eq_some_iff] at h
    obtain ⟨s, _, c, _, f, _, h⟩ := h
    split at h
    · cases h
    · simp only [Option.bind_eq_some_iff] at h
      obtain ⟨xs, _, r, _, h⟩ := h
      split at h
      · rw [Option.ite_none_right_eq_some] at h
        obtain ⟨_, h⟩ := h
        cases h
        rfl
      · cases h; rfl
  | methB m tab k o a =>
    intro ρ o _ h
    rw [evS] at h
    simp only [Option.bind_eq_some_iff] at h
    obtain ⟨s, _, c, _, f, _, h⟩ := h
    split at h
    · cases h
    · simp only [Option.bind_eq_some_iff] at h
      obtain ⟨xs, _, r, _, h⟩ := h
      split at h <;> (cases h; rfl)
  | frz i =>
    intro ρ o _ h
    rw [evS] at h
    split at h <;> first | (cases h; rfl) | cases h
  | wh t b _ => intro ρ o hn _; cases hn
  | ret e => intro ρ o hn _; cases hn
  | retO i => intro ρ o hn _; cases hn
  | retM es => intro ρ o hn _; cases hn
  | retN => intro ρ o hn _; cases hn
  | retX b f k a => intro ρ o hn _; cases hn
  | try_ b cs h _ _ => intro ρ o hn _; cases hn
theorem noRet_sem {G : Nat → Dz.Sem} {q : Fs} {kio np nl : Nat} {s : S} (hn : noRet s = true) : ∀ ds d s', semS G q kio np nl s ds = some (.ok d, s') → d = .none := by
  intro ds d s' h
  unfold semS at h
  rw [Option.ite_none_right_eq_some, Option.bind_eq_some_iff] at h
  obtain ⟨_, o, ev, h⟩ := h
  have := noRet_ok hn ev
  cases o with
  | nx ρ =>
    rw [Option.map_eq_some_iff] at h
    obtain ⟨_, _, h⟩ := h
    cases h
    rfl
  | rt ρ d => cases this
  | ex ρ c =>
    rw [Option.map_eq_some_iff] at h
    obtain ⟨_, _, h⟩ := h
    cases h
section
variable {CA : Cmap} {P : Program} {w : World} {K : PySem.W.Frag} {mg : Str → Option Value} {base : Heap}
theorem ent_mk {G : Nat → Dz.Sem} {y c : Str} {C a : Addr} {fd : FuncData} {ps : List Str} {k lv n kn i j : Nat} {sem : Dz.Sem} (hC : CA.ins c = some C) (M : Mk K C a) (F : FnOk P w K mg base (L2.CX P w) k a fd ps (spM CA n sem (kn + 1))) (hk : k + 1 ≤ lv) (hm : mg y = some (.ref C)) (hb : Binds K fd ps []) (hGi : G i = sem) (hGj : G j = makes c sem) (hl : ∀ ds r, sem ds = some r → ds.length = n + 1) (hn : ∀ ds d s, sem ds = some (.ok d, s) → d = .none) :
    Ent CA G P w K mg base lv y j (kn + 1) := .mk c C i a fd ps k n kn hC M (by rw [hGi]; exact F) hk hm hb (by rw [hGi]; exact hl) (fun ds => by rw [hGj, hGi]) (by rw [hGi]; exact hn) (Nat.le_refl _)
theorem entm_of {G : Nat → Dz.Sem} {c m : Str} {C a : Addr} {fd : FuncData} {ps : List Str} {k lv n kn j : Nat} {sem : Dz.Sem} (hC : CA.ins c = some C) (cl : Cls K C) (me : Meth K C m a) (F : FnOk P w K mg base (L2.CX P w) k a fd ps (spD CA n sem kn)) (hk : k ≤ lv) (hb : Binds K fd ps []) (hG : G j = sem) (hl : ∀ ds r, sem ds = some r → ds.length = n) :
    EntM CA G P w K mg base lv c m j kn := .mk C a fd ps k n kn hC cl me (by rw [hG]; exact F) hk hb (by rw [hG]; exact hl) (Nat.le_refl _)
/-- one method of some classes -/
theorem entMcons {G : Nat → Dz.Sem} {lv : Nat} {m : Str} {tab : List (Str × Nat)} {k : Nat} {l : List (Str × (List (Str × Nat) × Nat))} (h : ∀ p ∈ tab, EntM CA G P w K mg base lv p.1 m p.2 k) (t : EntMs CA G P w K mg base lv l) : EntMs CA G P w K mg base lv ((m, (tab, k)) :: l) := fun m' tk hl c f hc => by
  rw [List.lookup_cons] at hl
  split at hl
  · rename_i e
    cases hl
    rw [beq_iff_eq] at e
    subst e
    exact h (c, f) (lookup_mem hc)
  · exact t m' tk hl c f hc
end
end Dz

set_option Elab.async false
set_option linter.all false
set_option maxRecDepth 100000
set_option maxHeartbeats 4000000
/-! The plain side: what the defs of the program compute, in plain Lean. -/
namespace Mz
open PySem L2 Dz
/-! ### evaluation -/
theorem atI_nat {α : Type} (l : List α) (n : Nat) : atI l (n : Int) = l[n]? := by
  unfold atI ixN
  rw [if_pos (Int.natCast_nonneg n)]
  by_cases h : n < l.length
  · rw [if_pos (by omega)]
    simp
  · rw [if_neg (by omega), List.getElem?_eq_none (by omega)]
    rfl
@[simp] theorem atI_0 {α : Type} (l : List α) : atI l 0 = l[0]? := atI_nat l 0
@[simp] theorem atI_1 {α : Type} (l : List α) : atI l 1 = l[1]? := atI_nat l 1
@[simp] theorem atI_2 {α : Type} (l : List α) : atI l 2 = l[2]? := atI_nat l 2
@[simp] theorem atI_3 {α : Type} (l : List α) : atI l 3 = l[3]? := atI_nat l 3
@[simp] theorem sh_int (i : Int) : SeqAt.shaped (.int i) = true := by simp [SeqAt.shaped, PyData.canLay0, PyData.depth]
@[simp] theorem sh_bool (i : Bool) : SeqAt.shaped (.bool i) = true := by simp [SeqAt.shaped, PyData.canLay0, PyData.depth]
@[simp] theorem sh_none : SeqAt.shaped .none = true := by simp [SeqAt.shaped, PyData.canLay0, PyData.depth]
/-- laid and no deeper than n -/
def lay (n : Nat) (d : D) : Bool := d.canLay0 && decide (d.depth ≤ n)
theorem lay_shaped {n : Nat} {d : D} (h : lay n d = true) (hn : n ≤ 64) : SeqAt.shaped d = true := by
  simp only [lay, SeqAt.shaped, Bool.and_eq_true, decide_eq_true_eq] at h ⊢
  exact ⟨h.1, by omega⟩
theorem lay_all {n : Nat} : ∀ {ds : List D}, (∀ d ∈ ds, lay n d = true) → PyData.canLayAll0 ds = true ∧ PyData.depthAll ds ≤ n
  | [], _ => ⟨rfl, Nat.zero_le _⟩
  | d :: ds, h => by
    have h1 := h d List.mem_cons_self
    have h2 := lay_all fun x hx => h x (List.mem_cons_of_mem _ hx)
    simp only [lay, Bool.and_eq_true, decide_eq_true_eq] at h1
    simp only [PyData.canLayAll0, PyData.depthAll, Bool.and_eq_true]
    exact ⟨⟨h1.1, h2.1⟩, by omega⟩
theorem lay_list {n : Nat} {ds : List D} (h : ∀ d ∈ ds, lay n d = true) : lay (n + 1) (.list ds) = true := by
  obtain ⟨h1, h2⟩ := lay_all h
  simp only [lay, PyData.canLay0, PyData.depth, Bool.and_eq_true, decide_eq_true_eq]
  exact ⟨h1, decide_eq_true (Nat.succ_le_succ h2)⟩
theorem lay_tuple {n : Nat} {ds : List D} (h : ∀ d ∈ ds, lay n d = true) : lay (n + 1) (.tuple ds) = true := by
  obtain ⟨h1, h2⟩ := lay_all h
  simp only [lay, PyData.canLay0, PyData.depth, Bool.and_eq_true, decide_eq_true_eq]
  exact ⟨h1, decide_eq_true (Nat.succ_le_succ h2)⟩
@[simp] theorem lay_int (n : Nat) (i : Int) : lay n (.int i) = true := by simp [lay, PyData.canLay0, PyData.depth]
@[simp] theorem lay_bool (n : Nat) (i : Bool) : lay n (.bool i) = true := by simp [lay, PyData.canLay0, PyData.depth]
@[simp] theorem lay_none (n : Nat) : lay n .none = true := by simp [lay, PyData.canLay0, PyData.depth]
theorem lay_ints (n : Nat) (ns : List Int) : lay (n + 1) (.list (ns.map PyData.int)) = true := lay_list fun d hd => by
  obtain ⟨i, _, rfl⟩ := List.mem_map.mp hd
  simp
@[simp] theorem sh_ints (ns : List Int) : SeqAt.shaped (.list (ns.map PyData.int)) = true := lay_shaped (lay_ints 0 ns) (by decide)
theorem inD_ints (i : Int) : ∀ ns : List Int, inD (.int i) (ns.map PyData.int) = ns.contains i
  | [] => rfl
  | n :: ns => by
    have e : inD (.int i) ((n :: ns).map PyData.int) = (PyData.eqv (.int n) (.int i) || inD (.int i) (ns.map PyData.int)) := rfl
    rw [e, inD_ints i ns, eqv_int, List.contains_cons]
    congr 1
    by_cases h : n = i
    · subst h; rfl
    · rw [beq_eq_false_iff_ne.mpr h, beq_eq_false_iff_ne.mpr fun z => h z.symm]
theorem compGo_map {α : Type} {t e : List Sl → Option D} {g : Tg} {ρ : List Sl} (emb : α → D) (b : α → Bool) (y : α → D) : ∀ {items : List α}, (∀ a ∈ items, ∃ ρ', bindT g (emb a) ρ = some ρ' ∧ t ρ' = some (.bool (b a)) ∧ (b a = true → e ρ' = some (y a))) → compGo t e g ρ (items.map emb) = some ((items.filter b).map y)
  | [], _ => rfl
  | a :: items, h => by
    obtain ⟨ρ', h1, h2, h3⟩ := h a List.mem_cons_self
    have ih := compGo_map emb b y (items := items) fun x hx => h x (List.mem_cons_of_mem _ hx)
    rw [List.map_cons, compGo, h1, Option.bind_some, h2, unB, Option.bind_some]
    cases hb : b a with
    | true => rw [if_pos rfl, h3 hb, Option.bind_some, ih, List.filter_cons_of_pos hb]; rfl
    | false => rw [if_neg Bool.false_ne_true, ih, List.filter_cons_of_neg (by simp [hb])]
theorem evE_comp {α : Type} {F : Nat → List D → Option D} {k : Src} {ls : L} {g : Tg} {vs : List Nat} {t e : L} {ρ : List Sl} {items : List α} (emb : α → D) (b : α → Bool) (y : α → D) (h1 : (unT (evE F ls ρ)).bind (srcF k) = some (items.map emb)) (hl : items.length ≤ 100000)
    (h : ∀ a ∈ items, ∃ ρ', bindT g (emb a) (wipeD ρ vs) = some ρ' ∧ evE F t ρ' = some (.bool (b a)) ∧ (b a = true → evE F e ρ' = some (y a))) : evE F (.comp k ls g vs t e) ρ = some (.list ((items.filter b).map y)) := by
  rw [evE]
  have e1 : ((unT (evE F ls ρ)).bind fun xs => srcF k xs) = some (items.map emb) := h1
  rw [e1, Option.bind_some, List.length_map, if_pos (by unfold lim; exact decide_eq_true hl), compGo_map emb b y h]
  rfl
theorem evE_comp' {α : Type} {F : Nat → List D → Option D} {k : Src} {ls : L} {g : Tg} {vs : List Nat} {e : L} {ρ : List Sl} {items : List α} (emb : α → D) (y : α → D) (h1 : (unT (evE F ls ρ)).bind (srcF k) = some (items.map emb)) (hl : items.length ≤ 100000)
    (h : ∀ a ∈ items, ∃ ρ', bindT g (emb a) (wipeD ρ vs) = some ρ' ∧ evE F e ρ' = some (y a)) : evE F (.comp k ls g vs (.c (.bool true)) e) ρ = some (.list (items.map y)) := by
  have := evE_comp (t := .c (.bool true)) (e := e) emb (fun _ => true) y h1 hl fun a ha => let ⟨ρ', q1, q2⟩ := h a ha; ⟨ρ', q1, rfl, fun _ => q2⟩
  rw [this, List.filter_eq_self.mpr fun _ _ => rfl]
section
variable {G : Nat → Dz.Sem} {q : Fs} {ρ ρ' : List Sl} {a b : S} {o : Out}
theorem seq_nx (h : evS G q a ρ = some (.nx ρ')) : evS G q (.seq a b) ρ = evS G q b ρ' := by rw [evS, h]; rfl
theorem seq_rt {d : D} (h : evS G q a ρ = some (.rt ρ' d)) : evS G q (.seq a b) ρ = some (.rt ρ' d) := by rw [evS, h]; rfl
theorem seq_ex {c : Str} (h : evS G q a ρ = some (.ex ρ' c)) : evS G q (.seq a b) ρ = some (.ex ρ' c) := by rw [evS, h]; rfl
theorem set_nx {i k : Nat} {e : L} {d : D} (h : evE (okF G) e ρ = some d) : evS G q (.set i k e) ρ = some (.nx (ρ.set i (if k = 0 then .fz d else .own k d))) := by rw [evS, h]; rfl
theorem ret_rt {e : L} {d : D} (hq : q.io = false) (h : evE (okF G) e ρ = some d) : evS G q (.ret e) ρ = some (.rt ρ d) := by rw [evS, h, Option.bind_some, hq]; rfl
theorem ifs_t {t : L} (h : evE (okF G) t ρ = some (.bool true)) : evS G q (.ifs t a b) ρ = evS G q a ρ := by rw [evS, h]; rfl
theorem ifs_f {t : L} (h : evE (okF G) t ρ = some (.bool false)) : evS G q (.ifs t a b) ρ = evS G q b ρ := by rw [evS, h]; rfl
theorem skip_nx : evS G q .skip ρ = some (.nx ρ) := rfl
theorem sem_rt {kio np nl : Nat} {s : S} {ds : List D} {d : D} (hq : q.io = false) (hl : ds.length = np) (h : evS G q s (slots0 nl q kio ds) = some (.rt ρ d)) : semS G q kio np nl s ds = some (.ok d, .none) := by
  unfold semS
  rw [if_pos hl, h, Option.bind_some]
  unfold ioOf
  rw [hq]
  rfl
theorem sem_nx {kio np nl : Nat} {s : S} {ds : List D} (hq : q.io = false) (hl : ds.length = np) (h : evS G q s (slots0 nl q kio ds) = some (.nx ρ)) : semS G q kio np nl s ds = some (.ok .none, .none) := by
  unfold semS
  rw [if_pos hl, h, Option.bind_some]
  unfold ioOf
  rw [hq]
  rfl
/-- a loop by what holds of the slots behind each turn -/
theorem forGo_inv {bd : List Sl → Option Out} {g : Tg} {α : Type} (emb : α → D) (I : List α → List Sl → Prop) {all : List α} (st : ∀ (pre : List α) (x : α) (post : List α) (ρ : List Sl), all = pre ++ x :: post → I pre ρ → ∃ ρ1 ρ2, bindT g (emb x) ρ = some ρ1 ∧ bd ρ1 = some (.nx ρ2) ∧ I (pre ++ [x]) ρ2) :
    ∀ {items pre : List α} {ρ : List Sl}, all = pre ++ items → I pre ρ → ∃ ρ', forGo bd g (items.map emb) ρ = some (.nx ρ') ∧ I all ρ'
  | [], pre, ρ, e, h => ⟨ρ, rfl, by rw [e, List.append_nil]; exact h⟩
  | x :: items, pre, ρ, e, h => by
    obtain ⟨ρ1, ρ2, h1, h2, h3⟩ := st pre x items ρ e h
    obtain ⟨ρ', h4, h5⟩ := forGo_inv emb I st (items := items) (pre := pre ++ [x]) (by rw [e]; simp) h3
    refine ⟨ρ', ?_, h5⟩
    rw [List.map_cons, forGo, h1, Option.bind_some, h2, Option.bind_some]
    exact h4
theorem okF_of {f : Nat} {xs : List D} {d s : D} (h : G f xs = some (.ok d, s)) : okF G f xs = some d := by unfold okF; rw [h]
end
section
variable {F : Nat → List D → Option D} {ρ : List Sl}
theorem ev_nil : evE F .anil ρ = some (.tuple []) := rfl
theorem ev_cons {a r : L} {d : D} {ds : List D} (h : evE F a ρ = some d) (hr : evE F r ρ = some (.tuple ds)) : evE F (.acons a r) ρ = some (.tuple (d :: ds)) := by rw [evE, h, Option.bind_some, hr]; rfl
theorem ev_1 {a : L} {d : D} (h : evE F a ρ = some d) : evE F (.acons a .anil) ρ = some (.tuple [d]) := ev_cons h ev_nil
theorem ev_2 {a b : L} {d e : D} (h : evE F a ρ = some d) (h' : evE F b ρ = some e) : evE F (.acons a (.acons b .anil)) ρ = some (.tuple [d, e]) := ev_cons h (ev_1 h')
theorem ev_3 {a b c : L} {d e f : D} (h : evE F a ρ = some d) (h' : evE F b ρ = some e) (h'' : evE F c ρ = some f) : evE F (.acons a (.acons b (.acons c .anil))) ρ = some (.tuple [d, e, f]) := ev_cons h (ev_2 h' h'')
theorem ev_4 {a b c l : L} {d e f g : D} (h : evE F a ρ = some d) (h' : evE F b ρ = some e) (h'' : evE F c ρ = some f) (h3 : evE F l ρ = some g) : evE F (.acons a (.acons b (.acons c (.acons l .anil)))) ρ = some (.tuple [d, e, f, g]) := ev_cons h (ev_3 h' h'' h3)
theorem ev_bi {b : Bi} {a : L} {xs : List D} (h : evE F a ρ = some (.tuple xs)) : evE F (.bi b a) ρ = biF b xs := by rw [evE, h]; rfl
theorem ev_call {f k : Nat} {a : L} {xs : List D} {d : D} (h : evE F a ρ = some (.tuple xs)) (hf : F f xs = some d) : evE F (.call false f k a) ρ = some d := by rw [evE, h]; simp only [unT, Option.bind_some, hf, Bool.not_false, Bool.true_or, if_true]
theorem ev_callB {f k : Nat} {a : L} {xs : List D} {d : D} (h : evE F a ρ = some (.tuple xs)) (hf : F f xs = some d) (hk : flatAt d k = true) : evE F (.call true f k a) ρ = some d := by rw [evE, h]; simp only [unT, Option.bind_some, hf, hk, Bool.or_true, if_true]
theorem ev_tup {a : L} {xs : List D} (h : evE F a ρ = some (.tuple xs)) (hl : xs.length ≤ 100000) : evE F (.tup a) ρ = some (.tuple xs) := by rw [evE, h]; simp only [unT, Option.bind_some, lim, decide_eq_true hl, if_true]
theorem ev_lst {a : L} {xs : List D} (h : evE F a ρ = some (.tuple xs)) (hl : xs.length ≤ 100000) : evE F (.lst a) ρ = some (.list xs) := by rw [evE, h]; simp only [unT, Option.bind_some, lim, decide_eq_true hl, if_true]
theorem ev_and {a b : L} {x y : Bool} (h : evE F a ρ = some (.bool x)) (h' : x = true → evE F b ρ = some (.bool y)) : evE F (.and a b) ρ = some (.bool (x && y)) := by
  rw [evE, h]
  cases x
  · rfl
  · exact h' rfl
theorem ev_or {a b : L} {x y : Bool} (h : evE F a ρ = some (.bool x)) (h' : x = false → evE F b ρ = some (.bool y)) : evE F (.or a b) ρ = some (.bool (x || y)) := by
  rw [evE, h]
  cases x
  · exact h' rfl
  · rfl
theorem ev_not {a : L} {x : Bool} (h : evE F a ρ = some (.bool x)) : evE F (.not a) ρ = some (.bool (!x)) := by rw [evE, h]; rfl
theorem ev_ite {t a b : L} {x : Bool} {d : D} (h : evE F t ρ = some (.bool x)) (h1 : x = true → evE F a ρ = some d) (h2 : x = false → evE F b ρ = some d) : evE F (.ite t a b) ρ = some d := by
  rw [evE, h]
  cases x
  · exact h2 rfl
  · exact h1 rfl
theorem ev_cmp {o : COp} {a b : L} {x y : D} {k : Bool} (h : evE F a ρ = some x) (h' : evE F b ρ = some y) (hc : opC o x y = some k) : evE F (.cmp o a b) ρ = some (.bool k) := by rw [evE, h, Option.bind_some, h', Option.bind_some, hc]; rfl
theorem ev_bin {o : BOp} {a b : L} {x y d : D} (h : evE F a ρ = some x) (h' : evE F b ρ = some y) (hc : opB o x y = some d) : evE F (.bin o a b) ρ = some d := by rw [evE, h, Option.bind_some, h', Option.bind_some, hc]
theorem ev_ix {a b : L} {x y d : D} (h : evE F a ρ = some x) (h' : evE F b ρ = some y) (hc : ixF x y = some d) : evE F (.ix a b) ρ = some d := by rw [evE, h, Option.bind_some, h', Option.bind_some, hc]
theorem ev_c {d : D} : evE F (.c d) ρ = some d := rfl
theorem ev_var {i : Nat} {d : D} (h : ρ[i]? = some (.fz d)) : evE F (.var i) ρ = some d := by rw [evE, h]
end
theorem rangeD_eq (n : Nat) : rangeD 0 n = (List.range n).map fun (i : Nat) => PyData.int (i : Int) := by
  unfold rangeD
  simp
/-! ### states -/
structure Q where
  rounds : List Int
  jokers : List (Option Int)
  sheets : List (List (Option (List Bool × Bool)))
  struck : List (List Int)
def jkD : Option Int → D
  | none => .none
  | some i => .int i
def shD : Option (List Bool × Bool) → D
  | none => .none
  | some (ts, late) => .tuple [.list (ts.map PyData.bool), .bool late]
def rowD (r : List (Option (List Bool × Bool))) : D := .list (r.map shD)
def intsD (s : List Int) : D := .list (s.map PyData.int)
def stD (q : Q) : D := .tuple [intsD q.rounds, .list (q.jokers.map jkD), .list (q.sheets.map rowD), .list (q.struck.map intsD)]
/-- how many truths are True of questions that aren't struck -/
def cnt (sk : List Int) (ts : List Bool) : Nat := ((List.range ts.length).filter fun i => ts.getD i false && !sk.contains (i : Int)).length
def mark (sk : List Int) (ts : List Bool) (late : Bool) : Int := if late then (if (cnt sk ts : Int) - 1 > 0 then (cnt sk ts : Int) - 1 else 0) else cnt sk ts
/-! ### counted -/
def sCounted : S := ((S.set 3 0 (L.bi Bi.len ((L.comp Src.range1 ((((L.var 0).ix (L.c (PyData.int (0)))).ix (L.var 1)).acons L.anil) (Tg.one 4) [4] ((((L.var 2).ix (L.c (PyData.int (0)))).ix (L.var 4)).and (L.cmp COp.notin (L.var 4) (((L.var 0).ix (L.c (PyData.int (3)))).ix (L.var 1)))) (L.var 4)).acons L.anil))).seq ((S.ret (((L.var 2).ix (L.c (PyData.int (1)))).ite (L.bi Bi.max2 ((L.c (PyData.int (0))).acons ((L.bin BOp.sub (L.var 3) (L.c (PyData.int (1)))).acons L.anil))) (L.var 3))).seq S.skip))
theorem counted_sem (G : Nat → Dz.Sem) (q : Q) (n : Nat) (r : Int) (sk : List Int) (ts : List Bool) (late : Bool) (h1 : q.rounds[n]? = some r) (h2 : q.struck[n]? = some sk) (h3 : (ts.length : Int) = r) (h4 : r ≤ 5) :
    semS G ⟨0, false⟩ 0 3 2 sCounted [stD q, .int n, shD (some (ts, late))] = some (.ok (.int (mark sk ts late)), .none) := by
  have hl : lim63 r = true := by simp [lim63]; omega
  refine sem_rt (q := ⟨0, false⟩) (ρ := [.fz (stD q), .fz (.int n), .fz (shD (some (ts, late))), .fz (.int (cnt sk ts)), .no]) rfl rfl ?_
  show evS G ⟨0, false⟩ sCounted [.fz (stD q), .fz (.int n), .fz (shD (some (ts, late))), .no, .no] = _
  unfold sCounted
  rw [seq_nx (ρ' := [.fz (stD q), .fz (.int n), .fz (shD (some (ts, late))), .fz (.int (cnt sk ts)), .no])]
  · rw [seq_rt]
    refine ret_rt rfl ?_
    cases late
    · simp only [semS, slots0, evS, evE, ioOf, unT, unB, ixF, biF, srcF, list1F, partO, bindT, setAll, setG, wipeD, opB, List.replicate, List.length_cons, List.length_nil, List.map_cons, List.map_nil, List.append_nil, List.cons_append, List.nil_append, List.set_cons_succ, List.set_cons_zero, List.getElem?_cons_succ, List.getElem?_cons_zero, Option.bind_some, Option.bind_none, Option.map_some, Option.map_none, Bool.false_eq_true, if_true, if_false, reduceIte, Nat.reduceAdd, Nat.reduceEqDiff, atI_0, atI_1, atI_2, atI_3, Bool.and_true, Bool.true_and, Bool.and_self, Bool.not_true, Bool.not_false, shD, mark]
    · simp only [semS, slots0, evS, evE, ioOf, unT, unB, ixF, biF, srcF, list1F, partO, bindT, setAll, setG, wipeD, opB, List.replicate, List.length_cons, List.length_nil, List.map_cons, List.map_nil, List.append_nil, List.cons_append, List.nil_append, List.set_cons_succ, List.set_cons_zero, List.getElem?_cons_succ, List.getElem?_cons_zero, Option.bind_some, Option.bind_none, Option.map_some, Option.map_none, Bool.false_eq_true, if_true, if_false, reduceIte, Nat.reduceAdd, Nat.reduceEqDiff, atI_0, atI_1, atI_2, atI_3, Bool.and_true, Bool.true_and, Bool.and_self, Bool.not_true, Bool.not_false, shD, mark]
  · have e0 := evE_comp (F := okF G) (k := .range1) (ls := (((L.var 0).ix (L.c (PyData.int (0)))).ix (L.var 1)).acons L.anil) (g := .one 4) (vs := [4]) (t := (((L.var 2).ix (L.c (PyData.int (0)))).ix (L.var 4)).and (L.cmp COp.notin (L.var 4) (((L.var 0).ix (L.c (PyData.int (3)))).ix (L.var 1)))) (e := L.var 4) (ρ := [.fz (stD q), .fz (.int n), .fz (shD (some (ts, late))), .no, .no])
      (items := List.range ts.length) (fun (i : Nat) => PyData.int (i : Int)) (fun i => ts.getD i false && !sk.contains (i : Int)) (fun (i : Nat) => PyData.int (i : Int)) ?_ (by simp; omega) fun i hi => ⟨_, rfl, ?_, fun _ => ?_⟩
    · rw [set_nx (d := .int (cnt sk ts))]
      · rfl
      · rw [ev_bi (ev_1 e0)]
        simp only [biF, List.length_map]
        rfl
    · simp only [semS, slots0, evS, evE, ioOf, unT, unB, ixF, biF, srcF, list1F, partO, bindT, setAll, setG, wipeD, opB, List.replicate, List.length_cons, List.length_nil, List.map_cons, List.map_nil, List.append_nil, List.cons_append, List.nil_append, List.set_cons_succ, List.set_cons_zero, List.getElem?_cons_succ, List.getElem?_cons_zero, Option.bind_some, Option.bind_none, Option.map_some, Option.map_none, Bool.false_eq_true, if_true, if_false, reduceIte, Nat.reduceAdd, Nat.reduceEqDiff, atI_0, atI_1, atI_2, atI_3, Bool.and_true, Bool.true_and, Bool.and_self, Bool.not_true, Bool.not_false, stD, intsD, atI_nat, List.getElem?_map, h1, hl, rangeD_eq]
      congr 3
      omega
    · have hi : i < ts.length := List.mem_range.mp hi
      simp only [semS, slots0, evS, evE, ioOf, unT, unB, ixF, biF, srcF, list1F, partO, bindT, setAll, setG, wipeD, opB, List.replicate, List.length_cons, List.length_nil, List.map_cons, List.map_nil, List.append_nil, List.cons_append, List.nil_append, List.set_cons_succ, List.set_cons_zero, List.getElem?_cons_succ, List.getElem?_cons_zero, Option.bind_some, Option.bind_none, Option.map_some, Option.map_none, Bool.false_eq_true, if_true, if_false, reduceIte, Nat.reduceAdd, Nat.reduceEqDiff, atI_0, atI_1, atI_2, atI_3, Bool.and_true, Bool.true_and, Bool.and_self, Bool.not_true, Bool.not_false, shD, stD, atI_nat, List.getElem?_map, List.getElem?_eq_getElem hi, h2, intsD, opC, sh_int, sh_ints, inD_ints]
      have : ts.getD i false = ts[i] := by simp [List.getD, List.getElem?_eq_getElem hi]
      rw [this]
      cases ts[i] <;> simp
    · simp only [semS, slots0, evS, evE, ioOf, unT, unB, ixF, biF, srcF, list1F, partO, bindT, setAll, setG, wipeD, opB, List.replicate, List.length_cons, List.length_nil, List.map_cons, List.map_nil, List.append_nil, List.cons_append, List.nil_append, List.set_cons_succ, List.set_cons_zero, List.getElem?_cons_succ, List.getElem?_cons_zero, Option.bind_some, Option.bind_none, Option.map_some, Option.map_none, Bool.false_eq_true, if_true, if_false, reduceIte, Nat.reduceAdd, Nat.reduceEqDiff, atI_0, atI_1, atI_2, atI_3, Bool.and_true, Bool.true_and, Bool.and_self, Bool.not_true, Bool.not_false]
end Mz

set_option Elab.async false
set_option linter.all false
set_option maxRecDepth 100000
set_option maxHeartbeats 4000000
namespace Mz
open PySem L2 Dz
section
variable {G : Nat → Dz.Sem} {q : Fs} {ρ : List Sl}
theorem app_nx {i : Nat} {e : L} {ds : List D} {d : D} (h : ρ[i]? = some (.own 1 (.list ds))) (he : evE (okF G) e ρ = some d) (hl : ds.length < 100000) : evS G q (.mut .append i [] 0 (.acons e .anil)) ρ = some (.nx (ρ.set i (.own 1 (.list (ds ++ [d]))))) := by
  rw [evS]
  have h1 : slotO ρ i (([] : List Pst).length + 0 + 1) = some (.list ds) := by unfold slotO; rw [h]; rfl
  rw [h1, Option.bind_some, evP, Option.bind_some, ev_1 he]
  have hl' : lim (ds.length + 1) = true := decide_eq_true (by omega)
  simp only [unT, Option.bind_some, getP, mutF, hl', if_true, setP, Option.map_some, List.length_nil, Nat.zero_add]
theorem for_inv {α : Type} {k : Src} {l : L} {g : Tg} {b : S} {items : List α} (emb : α → D) (I : List α → List Sl → Prop) (h0 : I [] ρ) (hs : (unT (evE (okF G) l ρ)).bind (srcF k) = some (items.map emb))
    (st : ∀ (pre : List α) (x : α) (post : List α) (ρ : List Sl), items = pre ++ x :: post → I pre ρ → ∃ ρ1 ρ2, bindT g (emb x) ρ = some ρ1 ∧ evS G q b ρ1 = some (.nx ρ2) ∧ I (pre ++ [x]) ρ2) : ∃ ρ', evS G q (.for_ k l g b) ρ = some (.nx ρ') ∧ I items ρ' := by
  obtain ⟨ρ', h1, h2⟩ := forGo_inv emb I st (items := items) (pre := []) rfl h0
  refine ⟨ρ', ?_, h2⟩
  rw [evS, hs]
  exact h1
end
/-! ### keys -/
def keyD (s : Int) (xs : List Int) : D := .tuple [.int s, intsD xs]
def down (xs : List Int) : List Int := (isort xs).reverse
def sKey : S := ((S.ret ((L.bi Bi.sum ((L.var 0).acons L.anil)).acons ((L.bi Bi.sortedR ((L.var 0).acons L.anil)).acons L.anil)).tup).seq S.skip)
theorem key_sem (G : Nat → Dz.Sem) (kf : Nat) (xs : List Int) : semS G ⟨kf, false⟩ 0 1 0 sKey [intsD xs] = some (.ok (keyD xs.sum (down xs)), .none) := by
  refine sem_rt (q := ⟨kf, false⟩) (ρ := [.fz (intsD xs)]) rfl rfl ?_
  show evS G _ sKey [.fz (intsD xs)] = _
  unfold sKey
  rw [seq_rt (ρ' := [.fz (intsD xs)]) (ret_rt rfl (ev_tup (ev_2 (d := .int xs.sum) (e := intsD (down xs)) ?_ ?_) (by simp)))]
  · rfl
  · rw [ev_bi (ev_1 (ev_var rfl))]
    simp only [biF, intsD, intsOf_map, Option.map_some]
  · rw [ev_bi (ev_1 (ev_var rfl))]
    simp only [biF, intsD, intsOf_map, Option.map_some, down]
/-! ### scores -/
def joker (q : Q) (t : Nat) : Option Int := (q.jokers[t]?).getD none
def dbl (j : Option Int) (n : Nat) (m : Int) : Int := if j = some (n : Int) then 2 * m else m
def mk1 (q : Q) (n : Nat) : Option (List Bool × Bool) → Int
  | none => 0
  | some (ts, late) => mark ((q.struck[n]?).getD []) ts late
def row (q : Q) (t : Nat) : List (Option (List Bool × Bool)) := (q.sheets[t]?).getD []
def en {α : Type} (l : List α) : List (Nat × α) := (List.range l.length).zip l
def has (q : Q) (t : Nat) : List Int := (en (row q t)).map fun p => dbl (joker q t) p.1 (mk1 q p.1 p.2)
structure Ok (q : Q) : Prop where
  r1 : 1 ≤ q.rounds.length ∧ q.rounds.length ≤ 5
  r2 : ∀ (n : Nat) (r : Int), q.rounds[n]? = some r → 1 ≤ r ∧ r ≤ 5
  j1 : 2 ≤ q.jokers.length ∧ q.jokers.length ≤ 5
  j2 : ∀ (t : Nat) (i : Int), q.jokers[t]? = some (some i) → 0 ≤ i ∧ i < q.rounds.length
  s1 : q.sheets.length = q.jokers.length
  s2 : ∀ (t : Nat) (r : List (Option (List Bool × Bool))), q.sheets[t]? = some r → r.length = q.rounds.length
  s3 : ∀ (t : Nat) (r : List (Option (List Bool × Bool))) (n : Nat) (ts : List Bool) (late : Bool), q.sheets[t]? = some r → r[n]? = some (some (ts, late)) → q.rounds[n]? = some (ts.length : Int)
  k1 : q.struck.length = q.rounds.length
  k2 : ∀ (n : Nat) (s : List Int), q.struck[n]? = some s → s.Pairwise (· < ·) ∧ ∀ r, q.rounds[n]? = some r → ∀ x ∈ s, 0 ≤ x ∧ x < r
theorem en_mem {α : Type} {l : List α} {n : Nat} {x : α} (h : (n, x) ∈ en l) : l[n]? = some x := by
  unfold en at h
  obtain ⟨i, hi, e⟩ := List.mem_iff_getElem.mp h
  rw [List.getElem_zip] at e
  simp only [List.getElem_range, Prod.mk.injEq] at e
  obtain ⟨rfl, rfl⟩ := e
  exact List.getElem?_eq_getElem _
theorem en_len {α : Type} (l : List α) : (en l).length = l.length := by unfold en; simp
theorem src_enum {α : Type} (l : List α) (f : α → D) : srcF .enum [.list (l.map f)] = some ((en l).map fun p => pairD (.int (p.1 : Int)) (f p.2)) := by
  simp only [srcF, Option.some.injEq, List.length_map]
  unfold en
  rw [List.zip, List.map_zipWith, List.zipWith_map_right]
theorem eqv_jk (j : Option Int) (n : Int) : PyData.eqv (jkD j) (.int n) = decide (j = some n) := by
  cases j with
  | none => simp [jkD, PyData.eqv]
  | some i =>
    simp only [jkD, eqv_int]
    by_cases h : i = n <;> simp [h]
theorem sh_jk (j : Option Int) : SeqAt.shaped (jkD j) = true := by cases j <;> simp [jkD]
theorem isNone_sh (s : Option (List Bool × Bool)) : isNone (shD s) = s.isNone := by
  cases s with
  | none => rfl
  | some p => rfl
def sLeast (c k : Nat) : S := ((S.set 2 1 L.anil.lst).seq ((S.for_ Src.enum ((((L.var 0).ix (L.c (PyData.int (2)))).ix (L.var 1)).acons L.anil) (Tg.many [3, 4]) ((S.set 5 0 ((L.cmp COp.is (L.var 4) (L.c PyData.none)).ite (L.c (PyData.int (0))) (L.call false c 0 ((L.var 0).acons ((L.var 3).acons ((L.var 4).acons L.anil)))))).seq ((S.mut Mut.append 2 [] 0 (((L.cmp COp.eq (((L.var 0).ix (L.c (PyData.int (1)))).ix (L.var 1)) (L.var 3)).ite (L.bin BOp.mul (L.c (PyData.int (2))) (L.var 5)) (L.var 5)).acons L.anil)).seq S.skip))).seq ((S.ret (L.call true k 2 ((L.own1 2).acons L.anil))).seq S.skip)))
/-- what the def counted gives -/
def IsCounted (f : Dz.Sem) : Prop := ∀ (q : Q) (n : Nat) (r : Int) (sk : List Int) (ts : List Bool) (late : Bool), q.rounds[n]? = some r → q.struck[n]? = some sk → (ts.length : Int) = r → r ≤ 5 → f [stD q, .int n, shD (some (ts, late))] = some (.ok (.int (mark sk ts late)), .none)
def IsKey (f : Dz.Sem) : Prop := ∀ xs : List Int, f [intsD xs] = some (.ok (keyD xs.sum (down xs)), .none)
theorem small2 : (small 2 || small 0) = true := by decide
theorem flat_key (s : Int) (xs : List Int) : flatAt (keyD s xs) 2 = true := by
  simp only [keyD, intsD, flatAt, flatAll, Bool.true_and, Bool.and_true]
  exact flat_ints xs
theorem least_sem {G : Nat → Dz.Sem} {c k kf : Nat} (hc : IsCounted (G c)) (hk : IsKey (G k)) {q : Q} (ok : Ok q) {t : Nat} (ht : t < q.jokers.length) :
    semS G ⟨kf, false⟩ 0 2 4 (sLeast c k) [stD q, .int t] = some (.ok (keyD (has q t).sum (down (has q t))), .none) := by
  have hs : q.sheets[t]? = some (row q t) := by
    unfold row
    rw [List.getElem?_eq_getElem (by rw [ok.s1]; exact ht)]
    rfl
  have hj : q.jokers[t]? = some (joker q t) := by
    unfold joker
    rw [List.getElem?_eq_getElem ht]
    rfl
  have hlen : (row q t).length ≤ 5 := by rw [ok.s2 t _ hs]; exact ok.r1.2
  -- the loop
  have loop : ∃ ρ', evS G ⟨kf, false⟩ (S.for_ Src.enum ((((L.var 0).ix (L.c (PyData.int (2)))).ix (L.var 1)).acons L.anil) (Tg.many [3, 4]) ((S.set 5 0 ((L.cmp COp.is (L.var 4) (L.c PyData.none)).ite (L.c (PyData.int (0))) (L.call false c 0 ((L.var 0).acons ((L.var 3).acons ((L.var 4).acons L.anil)))))).seq ((S.mut Mut.append 2 [] 0 (((L.cmp COp.eq (((L.var 0).ix (L.c (PyData.int (1)))).ix (L.var 1)) (L.var 3)).ite (L.bin BOp.mul (L.c (PyData.int (2))) (L.var 5)) (L.var 5)).acons L.anil)).seq S.skip))) [.fz (stD q), .fz (.int t), .own 1 (.list []), .no, .no, .no] = some (.nx ρ') ∧
      ∃ a b d, ρ' = [.fz (stD q), .fz (.int t), .own 1 (intsD ((en (row q t)).map fun p => dbl (joker q t) p.1 (mk1 q p.1 p.2))), a, b, d] := by
    refine for_inv (items := en (row q t)) (fun (p : Nat × Option (List Bool × Bool)) => pairD (.int (p.1 : Int)) (shD p.2)) (fun pre ρ => ∃ a b d, ρ = [.fz (stD q), .fz (.int t), .own 1 (intsD (pre.map fun p => dbl (joker q t) p.1 (mk1 q p.1 p.2))), a, b, d]) ⟨.no, .no, .no, rfl⟩ ?_ fun pre p post ρ hall ⟨a, b, d, e⟩ => ?_
    · rw [ev_1 (d := rowD (row q t))]
      · exact src_enum _ _
      · simp only [semS, slots0, evS, evE, ioOf, unT, unB, ixF, biF, srcF, list1F, partO, bindT, setAll, setG, wipeD, opB, List.replicate, List.length_cons, List.length_nil, List.map_cons, List.map_nil, List.append_nil, List.cons_append, List.nil_append, List.set_cons_succ, List.set_cons_zero, List.getElem?_cons_succ, List.getElem?_cons_zero, Option.bind_some, Option.bind_none, Option.map_some, Option.map_none, Bool.false_eq_true, if_true, if_false, reduceIte, Nat.reduceAdd, Nat.reduceEqDiff, atI_0, atI_1, atI_2, atI_3, Bool.and_true, Bool.true_and, Bool.and_self, Bool.not_true, Bool.not_false, stD, atI_nat, List.getElem?_map, hs]
    · subst e
      obtain ⟨n, sh⟩ := p
      have hp : (n, sh) ∈ en (row q t) := by rw [hall]; simp
      have hpl : pre.length ≤ 5 := by
        have h1 := en_len (row q t)
        rw [hall, List.length_append] at h1
        omega
      have hn := en_mem hp
      have hnl : n < q.rounds.length := by rw [← ok.s2 t _ hs]; exact (List.getElem?_eq_some_iff.mp hn).1
      refine ⟨_, [.fz (stD q), .fz (.int t), .own 1 (.list ((pre.map fun p => dbl (joker q t) p.1 (mk1 q p.1 p.2)).map PyData.int ++ [.int (dbl (joker q t) n (mk1 q n sh))])), .fz (.int n), .fz (shD sh), .fz (.int (mk1 q n sh))], rfl, ?_, ?_⟩
      · rw [seq_nx (set_nx (d := .int (mk1 q n sh)) ?_), seq_nx (app_nx (ds := (pre.map fun p => dbl (joker q t) p.1 (mk1 q p.1 p.2)).map PyData.int) (d := .int (dbl (joker q t) n (mk1 q n sh))) rfl ?_ (by simp; omega))]
        · rfl
        · refine ev_ite (x := decide (joker q t = some (n : Int))) (ev_cmp (x := jkD (joker q t)) (y := .int n) ?_ (ev_var rfl) ?_) (fun z => ?_) (fun z => ?_)
          · simp only [semS, slots0, evS, evE, ioOf, unT, unB, ixF, biF, srcF, list1F, partO, bindT, setAll, setG, wipeD, opB, List.replicate, List.length_cons, List.length_nil, List.map_cons, List.map_nil, List.append_nil, List.cons_append, List.nil_append, List.set_cons_succ, List.set_cons_zero, List.getElem?_cons_succ, List.getElem?_cons_zero, Option.bind_some, Option.bind_none, Option.map_some, Option.map_none, Bool.false_eq_true, if_true, if_false, reduceIte, Nat.reduceAdd, Nat.reduceEqDiff, atI_0, atI_1, atI_2, atI_3, Bool.and_true, Bool.true_and, Bool.and_self, Bool.not_true, Bool.not_false, stD, atI_nat, List.getElem?_map, hj]
          · simp only [opC, sh_jk, sh_int, Bool.and_self, if_true, eqv_jk]
          · have z := of_decide_eq_true z
            refine ev_bin ev_c (ev_var rfl) ?_
            simp only [opB, dbl, if_pos z]
            have : (small 2 || small (mk1 q n sh) || (wide 2 && wide (mk1 q n sh))) = true := by
              have : small 2 = true := by decide
              simp [this]
            rw [if_pos this]
          · have z := of_decide_eq_false z
            rw [ev_var rfl]
            simp only [dbl, if_neg z]
        · refine ev_ite (x := sh.isNone) (ev_cmp (ev_var rfl) ev_c ?_) (fun z => ?_) (fun z => ?_)
          · have : opC .is (shD sh) .none = some (isNone (shD sh)) := by cases shD sh <;> rfl
            rw [this, isNone_sh]
          · cases sh with
            | none => rfl
            | some p => cases z
          · cases sh with
            | none => cases z
            | some p =>
              obtain ⟨ts, late⟩ := p
              have hr := ok.s3 t _ n ts late hs hn
              have hk : q.struck[n]? = some ((q.struck[n]?).getD []) := by
                rw [List.getElem?_eq_getElem (by rw [ok.k1]; exact hnl)]
                rfl
              exact ev_call (ev_3 (ev_var rfl) (ev_var rfl) (ev_var rfl)) (okF_of (hc q n _ _ ts late hr hk rfl (ok.r2 n _ hr).2))
      · exact ⟨.fz (.int n), .fz (shD sh), .fz (.int (mk1 q n sh)), by simp [intsD]⟩
  obtain ⟨ρ', l1, a, b, d, rfl⟩ := loop
  refine sem_rt (q := ⟨kf, false⟩) (ρ := [.fz (stD q), .fz (.int t), .own 1 (intsD (has q t)), a, b, d]) rfl rfl ?_
  show evS G _ (sLeast c k) [.fz (stD q), .fz (.int t), .no, .no, .no, .no] = _
  unfold sLeast
  rw [seq_nx (set_nx (d := .list []) rfl)]
  show evS G _ _ [.fz (stD q), .fz (.int t), .own 1 (.list []), .no, .no, .no] = _
  rw [seq_nx l1, seq_rt (ret_rt rfl (ev_callB (xs := [intsD (has q t)]) (ev_1 rfl) (okF_of (hk (has q t))) (flat_key _ _)))]
  rfl
end Mz

set_option Elab.async false
set_option linter.all false
set_option maxRecDepth 100000
set_option maxHeartbeats 4000000
namespace Mz
open PySem L2 Dz
/-! ### order -/
def lexI : List Int → List Int → Bool
  | [], [] => false
  | [], _ :: _ => true
  | _ :: _, [] => false
  | x :: xs, y :: ys => decide (x < y) || (decide (x = y) && lexI xs ys)
theorem lexI_irr : ∀ xs : List Int, lexI xs xs = false
  | [] => rfl
  | x :: xs => by simp [lexI, lexI_irr xs]
theorem lexI_tot : ∀ {xs ys : List Int}, xs ≠ ys → lexI xs ys = !lexI ys xs
  | [], [], h => absurd rfl h
  | [], _ :: _, _ => rfl
  | _ :: _, [], _ => rfl
  | x :: xs, y :: ys, h => by
    unfold lexI
    by_cases e : x = y
    · subst e
      have : xs ≠ ys := fun z => h (by rw [z])
      simp [lexI_tot this]
    · by_cases l : x < y
      · have : ¬ y < x := by omega
        have e' : ¬ y = x := fun z => e z.symm
        simp [l, this, e']
      · have : y < x := by omega
        simp [l, this, e]
theorem lexI_trans : ∀ {xs ys zs : List Int}, lexI xs ys = true → lexI ys zs = true → lexI xs zs = true
  | [], [], _, h, _ => by cases h
  | [], _ :: _, [], _, h => by cases h
  | [], _ :: _, _ :: _, _, _ => rfl
  | _ :: _, [], _, h, _ => by cases h
  | _ :: _, _ :: _, [], _, h => by cases h
  | x :: xs, y :: ys, z :: zs, h, h' => by
    unfold lexI at h h' ⊢
    simp only [Bool.or_eq_true, Bool.and_eq_true, decide_eq_true_eq] at h h' ⊢
    rcases h with h | ⟨h1, h2⟩
    · rcases h' with h' | ⟨h3, h4⟩
      · exact .inl (by omega)
      · exact .inl (by omega)
    · rcases h' with h' | ⟨h3, h4⟩
      · exact .inl (by omega)
      · exact .inr ⟨by omega, lexI_trans h2 h4⟩
/-- (s, xs) before (t, ys) -/
def ltK (s : Int) (xs : List Int) (t : Int) (ys : List Int) : Bool := decide (s < t) || (decide (s = t) && lexI xs ys)
def ahK (i s : Int) (xs : List Int) (j t : Int) (ys : List Int) : Bool := ltK t ys s xs || ((decide (s = t) && decide (xs = ys)) && decide (i < j))
/-- one table is ahead of another one, by their scores -/
def ah (i : Int) (a : List Int) (j : Int) (b : List Int) : Bool := ahK i a.sum (down a) j b.sum (down b)
theorem ahK_tot {i s j t : Int} {xs ys : List Int} (h : i ≠ j) : ahK i s xs j t ys = !ahK j t ys i s xs := by
  unfold ahK ltK
  by_cases e : s = t
  · subst e
    by_cases e2 : xs = ys
    · subst e2
      by_cases l : i < j
      · have : ¬ j < i := by omega
        simp [l, this, lexI_irr]
      · have : j < i := by omega
        simp [l, this, lexI_irr]
    · have e3 : ¬ ys = xs := fun z => e2 z.symm
      simp [e2, e3, lexI_tot e2]
  · by_cases l : s < t
    · have h1 : ¬ t < s := by omega
      have h2 : ¬ t = s := by omega
      simp [l, h1, h2, e]
    · have h1 : t < s := by omega
      have h2 : ¬ t = s := by omega
      simp [l, h1, h2, e]
theorem ahK_trans {i s j t k u : Int} {xs ys zs : List Int} (h : ahK i s xs j t ys = true) (h' : ahK j t ys k u zs = true) : ahK i s xs k u zs = true := by
  unfold ahK ltK at h h' ⊢
  simp only [Bool.or_eq_true, Bool.and_eq_true, decide_eq_true_eq] at h h' ⊢
  rcases h with (h | ⟨h1, h2⟩) | ⟨⟨h1, h2⟩, h3⟩
  · rcases h' with (h' | ⟨h1', h2'⟩) | ⟨⟨h1', h2'⟩, h3'⟩
    · exact .inl (.inl (by omega))
    · exact .inl (.inl (by omega))
    · exact .inl (.inl (by omega))
  · rcases h' with (h' | ⟨h1', h2'⟩) | ⟨⟨h1', h2'⟩, h3'⟩
    · exact .inl (.inl (by omega))
    · exact .inl (.inr ⟨by omega, lexI_trans h2' h2⟩)
    · subst h2'
      exact .inl (.inr ⟨by omega, h2⟩)
  · subst h2
    rcases h' with (h' | ⟨h1', h2'⟩) | ⟨⟨h1', h2'⟩, h3'⟩
    · exact .inl (.inl (by omega))
    · exact .inl (.inr ⟨by omega, h2'⟩)
    · exact .inr ⟨⟨by omega, h2'⟩, by omega⟩
theorem ahK_irr {i s : Int} {xs : List Int} : ahK i s xs i s xs = false := by
  unfold ahK ltK
  simp [lexI_irr]
/-! ### the program's way to compare -/
theorem lex_ints : ∀ xs ys : List Int, PyProof.Rows.lexLt PyProof.Rows.itemOrd (PySem.W.keyToksAll (xs.map PyData.int) ++ [Sum.inl 0]) (PySem.W.keyToksAll (ys.map PyData.int) ++ [Sum.inl 0]) = lexI xs ys
  | [], [] => by simp [PySem.W.keyToksAll, PyProof.Rows.lexLt, lexI, PyProof.Rows.itemLt]
  | [], y :: ys => by simp [PySem.W.keyToksAll, PyProof.Rows.lexLt, lexI, PyProof.Rows.itemLt]
  | x :: xs, [] => by simp [PySem.W.keyToksAll, PyProof.Rows.lexLt, lexI, PyProof.Rows.itemLt]
  | x :: xs, y :: ys => by
    have ih := lex_ints xs ys
    simp only [List.map_cons, PySem.W.keyToksAll, PySem.W.keyToks, List.cons_append, List.nil_append, PyProof.Rows.lexLt, lexI, PyProof.Rows.itemLt, ih]
    by_cases l : x < y
    · simp [l]
    · by_cases e : x = y
      · subst e
        simp
      · have : y < x := by omega
        simp [l, e, this]
theorem dataLt_key (s t : Int) (xs ys : List Int) : PySem.W.dataLt (keyD s xs) (keyD t ys) = ltK s xs t ys := by
  unfold PySem.W.dataLt keyD intsD ltK
  simp only [PySem.W.keyToksAll, PySem.W.keyToks, List.cons_append, List.nil_append, PyProof.Rows.lexLt, PyProof.Rows.itemLt, lex_ints]
  by_cases l : s < t
  · simp [l]
  · by_cases e : s = t
    · subst e
      simp
      exact lex_ints xs ys
    · have : t < s := by omega
      simp [l, e, this]
theorem alike_ints : ∀ xs ys : List Int, PySem.W.alikeAll (xs.map PyData.int) (ys.map PyData.int) = true
  | [], _ => by simp [PySem.W.alikeAll]
  | _ :: _, [] => by simp [PySem.W.alikeAll]
  | x :: xs, y :: ys => by simp [PySem.W.alikeAll, PySem.W.alike, alike_ints xs ys]
theorem depth_ints : ∀ xs : List Int, PyData.depthAll (xs.map PyData.int) = 0
  | [] => rfl
  | x :: xs => by simp [PyData.depthAll, PyData.depth, depth_ints xs]
theorem plain_ints : ∀ xs : List Int, plainAll (xs.map PyData.int) = true
  | [] => rfl
  | x :: xs => by simp [plainAll, Dz.plain, plain_ints xs]
theorem eqv_ints : ∀ xs ys : List Int, PyData.eqvAll (xs.map PyData.int) (ys.map PyData.int) = decide (xs = ys)
  | [], [] => by simp [PyData.eqvAll]
  | [], _ :: _ => by simp [PyData.eqvAll]
  | _ :: _, [] => by simp [PyData.eqvAll]
  | x :: xs, y :: ys => by
    simp only [List.map_cons, PyData.eqvAll, eqv_int, eqv_ints xs ys, List.cons.injEq, Bool.decide_and]
    by_cases e : x = y <;> simp [e]
theorem gt_key (s t : Int) (xs ys : List Int) : opC .gt (keyD s xs) (keyD t ys) = some (ltK t ys s xs) := by
  have h : (ordOk (keyD s xs) (keyD t ys) && Dz.plain (keyD s xs) && Dz.plain (keyD t ys)) = true := by
    simp only [ordOk, keyD, intsD, PySem.W.alike, PySem.W.alikeAll, alike_ints, isNone, PyData.depth, PyData.depthAll, depth_ints, Dz.plain, plainAll, plain_ints]
    decide
  show (if (ordOk (keyD s xs) (keyD t ys) && Dz.plain (keyD s xs) && Dz.plain (keyD t ys)) = true then some (PySem.W.dataLt (keyD t ys) (keyD s xs)) else none) = _
  rw [if_pos h, dataLt_key]
theorem sh_key (s : Int) (xs : List Int) : SeqAt.shaped (keyD s xs) = true := lay_shaped (n := 2) (lay_tuple fun d hd => by
  rcases List.mem_cons.mp hd with rfl | hd
  · simp
  · rw [List.mem_singleton.mp hd]
    exact lay_ints 0 xs) (by decide)
theorem eq_key (s t : Int) (xs ys : List Int) : opC .eq (keyD s xs) (keyD t ys) = some (decide (s = t) && decide (xs = ys)) := by
  simp only [opC, sh_key, Bool.and_self, if_true]
  simp only [keyD, intsD, PyData.eqv, PyData.eqvAll, eqv_ints, Bool.and_true]
  by_cases e : s = t <;> simp [e]
def sAhead : S := ((S.ret ((L.cmp COp.gt (L.var 1) (L.var 3)).or ((L.cmp COp.eq (L.var 1) (L.var 3)).and (L.cmp COp.lt (L.var 0) (L.var 2))))).seq S.skip)
theorem ahead_sem (G : Nat → Dz.Sem) (i s j t : Int) (xs ys : List Int) : semS G ⟨0, false⟩ 0 4 0 sAhead [.int i, keyD s xs, .int j, keyD t ys] = some (.ok (.bool (ahK i s xs j t ys)), .none) := by
  refine sem_rt (q := ⟨0, false⟩) (ρ := [.fz (.int i), .fz (keyD s xs), .fz (.int j), .fz (keyD t ys)]) rfl rfl ?_
  show evS G _ sAhead [.fz (.int i), .fz (keyD s xs), .fz (.int j), .fz (keyD t ys)] = _
  unfold sAhead
  exact seq_rt (ret_rt rfl (ev_or (ev_cmp (ev_var rfl) (ev_var rfl) (gt_key s t xs ys)) fun _ => ev_and (ev_cmp (ev_var rfl) (ev_var rfl) (eq_key s t xs ys)) fun _ => ev_cmp (ev_var rfl) (ev_var rfl) rfl))
/-! ### the law's own way to compare -/
def sLAhead : S := ((S.ifs (L.cmp COp.ne (L.bi Bi.sum ((L.var 1).acons L.anil)) (L.bi Bi.sum ((L.var 3).acons L.anil))) ((S.ret (L.cmp COp.gt (L.bi Bi.sum ((L.var 1).acons L.anil)) (L.bi Bi.sum ((L.var 3).acons L.anil)))).seq S.skip) S.skip).seq ((S.setT [(4, 0), (5, 0)] ((L.bi Bi.sorted ((L.var 1).acons L.anil)).rev.acons ((L.bi Bi.sorted ((L.var 3).acons L.anil)).rev.acons L.anil)).tup).seq ((S.for_ Src.zip ((L.var 4).acons ((L.var 5).acons L.anil)) (Tg.many [6, 7]) ((S.ifs (L.cmp COp.ne (L.var 6) (L.var 7)) ((S.ret (L.cmp COp.gt (L.var 6) (L.var 7))).seq S.skip) S.skip).seq S.skip)).seq ((S.ret (L.cmp COp.lt (L.var 0) (L.var 2))).seq S.skip))))
theorem zgo {G : Nat → Dz.Sem} {q : Fs} (hq : q.io = false) {p0 p1 p2 p3 p4 p5 : Sl} : ∀ {xs ys : List Int} {a b : Sl}, xs.length = ys.length → ∃ a' b', forGo (evS G q ((S.ifs (L.cmp COp.ne (L.var 6) (L.var 7)) ((S.ret (L.cmp COp.gt (L.var 6) (L.var 7))).seq S.skip) S.skip).seq S.skip)) (Tg.many [6, 7]) ((xs.map PyData.int).zipWith pairD (ys.map PyData.int)) [p0, p1, p2, p3, p4, p5, a, b] =
    some (if xs = ys then .nx [p0, p1, p2, p3, p4, p5, a', b'] else .rt [p0, p1, p2, p3, p4, p5, a', b'] (.bool (lexI ys xs)))
  | [], [], a, b, _ => ⟨a, b, rfl⟩
  | x :: xs, y :: ys, a, b, h => by
    have hl : xs.length = ys.length := by simpa using h
    have hne : evE (okF G) (L.cmp COp.ne (L.var 6) (L.var 7)) [p0, p1, p2, p3, p4, p5, .fz (.int x), .fz (.int y)] = some (.bool (!(x == y))) := ev_cmp (ev_var rfl) (ev_var rfl) (by simp only [opC, sh_int, Bool.and_self, if_true, eqv_int])
    by_cases e : x = y
    · subst e
      obtain ⟨a', b', ih⟩ := zgo hq (p0 := p0) (p1 := p1) (p2 := p2) (p3 := p3) (p4 := p4) (p5 := p5) (G := G) (xs := xs) (ys := ys) (a := .fz (.int x)) (b := .fz (.int x)) hl
      refine ⟨a', b', ?_⟩
      have hb : evS G q ((S.ifs (L.cmp COp.ne (L.var 6) (L.var 7)) ((S.ret (L.cmp COp.gt (L.var 6) (L.var 7))).seq S.skip) S.skip).seq S.skip) [p0, p1, p2, p3, p4, p5, .fz (.int x), .fz (.int x)] = some (.nx [p0, p1, p2, p3, p4, p5, .fz (.int x), .fz (.int x)]) := by
        rw [seq_nx ((ifs_f (by rw [hne]; simp)).trans skip_nx)]
        rfl
      rw [List.map_cons, List.map_cons, List.zipWith_cons_cons, forGo]
      show (some [p0, p1, p2, p3, p4, p5, Sl.fz (.int x), Sl.fz (.int x)]).bind _ = _
      rw [Option.bind_some, hb, Option.bind_some]
      show forGo _ _ _ _ = _
      rw [ih]
      by_cases e2 : xs = ys
      · subst e2
        simp
      · have : ¬ (x :: xs = x :: ys) := fun z => e2 (by injection z)
        rw [if_neg e2, if_neg this]
        simp [lexI]
    · refine ⟨.fz (.int x), .fz (.int y), ?_⟩
      have hb : evS G q ((S.ifs (L.cmp COp.ne (L.var 6) (L.var 7)) ((S.ret (L.cmp COp.gt (L.var 6) (L.var 7))).seq S.skip) S.skip).seq S.skip) [p0, p1, p2, p3, p4, p5, .fz (.int x), .fz (.int y)] = some (.rt [p0, p1, p2, p3, p4, p5, .fz (.int x), .fz (.int y)] (.bool (decide (y < x)))) := by
        rw [seq_rt ((ifs_t (by rw [hne]; simp [e])).trans (seq_rt (ret_rt hq (ev_cmp (ev_var rfl) (ev_var rfl) rfl))))]
      rw [List.map_cons, List.map_cons, List.zipWith_cons_cons, forGo]
      show (some [p0, p1, p2, p3, p4, p5, Sl.fz (.int x), Sl.fz (.int y)]).bind _ = _
      rw [Option.bind_some, hb, Option.bind_some]
      have : ¬ (x :: xs = y :: ys) := fun z => e (by injection z)
      rw [if_neg this]
      have e' : ¬ y = x := fun z => e z.symm
      simp [lexI, e']
  | [], _ :: _, _, _, h => by simp at h
  | _ :: _, [], _, _, h => by simp at h
theorem down_len (xs : List Int) : (down xs).length = xs.length := by
  unfold down
  rw [List.length_reverse]
  exact (isort_perm xs).length_eq
theorem lahead_sem (G : Nat → Dz.Sem) (i j : Int) (a b : List Int) (h : a.length = b.length) : semS G ⟨0, false⟩ 0 4 4 sLAhead [.int i, intsD a, .int j, intsD b] = some (.ok (.bool (ah i a j b)), .none) := by
  have hsum : ∀ {ρ : List Sl} {k : Nat} {xs : List Int}, ρ[k]? = some (.fz (intsD xs)) → evE (okF G) (L.bi Bi.sum ((L.var k).acons L.anil)) ρ = some (.int xs.sum) := fun hk => by
    rw [ev_bi (ev_1 (ev_var hk))]
    simp only [biF, intsD, intsOf_map, Option.map_some]
  have hrev : ∀ {ρ : List Sl} {k : Nat} {xs : List Int}, ρ[k]? = some (.fz (intsD xs)) → evE (okF G) (L.bi Bi.sorted ((L.var k).acons L.anil)).rev ρ = some (intsD (down xs)) := fun {ρ k xs} hk => by
    have : evE (okF G) (L.bi Bi.sorted ((L.var k).acons L.anil)) ρ = some (intsD (isort xs)) := by
      rw [ev_bi (ev_1 (ev_var hk))]
      simp only [biF, intsD, intsOf_map, Option.map_some]
    rw [evE, this]
    simp [intsD, down]
  have fin : ∃ ρ, evS G ⟨0, false⟩ sLAhead [.fz (.int i), .fz (intsD a), .fz (.int j), .fz (intsD b), .no, .no, .no, .no] = some (.rt ρ (.bool (ah i a j b))) := by
    unfold sLAhead
    by_cases e : a.sum = b.sum
    · obtain ⟨a', b', z⟩ := zgo (G := G) (q := ⟨0, false⟩) rfl (p0 := .fz (.int i)) (p1 := .fz (intsD a)) (p2 := .fz (.int j)) (p3 := .fz (intsD b)) (p4 := .fz (intsD (down a))) (p5 := .fz (intsD (down b))) (xs := down a) (ys := down b) (a := .no) (b := .no) (by rw [down_len, down_len]; exact h)
      have hset : evS G ⟨0, false⟩ (S.setT [(4, 0), (5, 0)] ((L.bi Bi.sorted ((L.var 1).acons L.anil)).rev.acons ((L.bi Bi.sorted ((L.var 3).acons L.anil)).rev.acons L.anil)).tup) [.fz (.int i), .fz (intsD a), .fz (.int j), .fz (intsD b), .no, .no, .no, .no] = some (.nx [.fz (.int i), .fz (intsD a), .fz (.int j), .fz (intsD b), .fz (intsD (down a)), .fz (intsD (down b)), .no, .no]) := by
        rw [evS, ev_tup (ev_2 (hrev rfl) (hrev rfl)) (by simp)]
        rfl
      have hfor : evS G ⟨0, false⟩ (S.for_ Src.zip ((L.var 4).acons ((L.var 5).acons L.anil)) (Tg.many [6, 7]) ((S.ifs (L.cmp COp.ne (L.var 6) (L.var 7)) ((S.ret (L.cmp COp.gt (L.var 6) (L.var 7))).seq S.skip) S.skip).seq S.skip)) [.fz (.int i), .fz (intsD a), .fz (.int j), .fz (intsD b), .fz (intsD (down a)), .fz (intsD (down b)), .no, .no] = some (if down a = down b then .nx [.fz (.int i), .fz (intsD a), .fz (.int j), .fz (intsD b), .fz (intsD (down a)), .fz (intsD (down b)), a', b'] else .rt [.fz (.int i), .fz (intsD a), .fz (.int j), .fz (intsD b), .fz (intsD (down a)), .fz (intsD (down b)), a', b'] (.bool (lexI (down b) (down a)))) := by
        rw [evS, ev_2 (ev_var rfl) (ev_var rfl)]
        exact z
      rw [seq_nx ((ifs_f (ev_cmp (hsum rfl) (hsum rfl) (by simp [opC, eqv_int, e]))).trans skip_nx), seq_nx hset]
      by_cases e2 : down a = down b
      · rw [if_pos e2] at hfor
        refine ⟨_, (seq_nx hfor).trans (seq_rt (ret_rt rfl (ev_cmp (ev_var rfl) (ev_var rfl) ?_)))⟩
        simp [opC, ah, ahK, ltK, e, e2, lexI_irr]
      · rw [if_neg e2] at hfor
        refine ⟨[.fz (.int i), .fz (intsD a), .fz (.int j), .fz (intsD b), .fz (intsD (down a)), .fz (intsD (down b)), a', b'], (seq_rt hfor).trans ?_⟩
        simp [ah, ahK, ltK, e, e2]
    · refine ⟨_, seq_rt ((ifs_t (ev_cmp (hsum rfl) (hsum rfl) (by simp [opC, eqv_int, e]))).trans (seq_rt (ret_rt rfl (ev_cmp (hsum rfl) (hsum rfl) ?_))))⟩
      have e' : ¬ b.sum = a.sum := fun z => e z.symm
      simp [opC, ah, ahK, ltK, e, e']
  obtain ⟨ρ, fin⟩ := fin
  exact sem_rt (q := ⟨0, false⟩) rfl rfl fin
end Mz

set_option Elab.async false
set_option linter.all false
set_option maxRecDepth 100000
set_option maxHeartbeats 4000000
namespace Mz
open PySem L2 Dz
/-! ### two ways to sort -/
structure SO (lt : Nat → Nat → Bool) : Prop where
  tot : ∀ i j, i ≠ j → lt i j = !lt j i
  tr : ∀ i j k, lt i j = true → lt j k = true → lt i k = true
  irr : ∀ i, lt i i = false
section
variable {lt : Nat → Nat → Bool}
def Sorted (lt : Nat → Nat → Bool) (l : List Nat) : Prop := l.Pairwise fun i j => lt i j = true
theorem sorted_uniq (o : SO lt) {a b : List Nat} (ha : Sorted lt a) (hb : Sorted lt b) (h : a.Perm b) : a = b :=
  List.Perm.eq_of_pairwise (fun x y _ _ h1 h2 => by
    by_cases e : x = y
    · exact e
    · rw [o.tot x y e, h2] at h1
      cases h1) ha hb h
def insT (lt : Nat → Nat → Bool) (t : Nat) (l : List Nat) : List Nat := l.takeWhile (lt · t) ++ [t] ++ l.dropWhile (lt · t)
theorem insT_perm (t : Nat) (l : List Nat) : (insT lt t l).Perm (t :: l) := by
  unfold insT
  have h : (l.takeWhile (lt · t) ++ [t] ++ l.dropWhile (lt · t)).Perm (t :: (l.takeWhile (lt · t) ++ l.dropWhile (lt · t))) := by
    rw [List.append_assoc]
    exact List.perm_middle
  rw [List.takeWhile_append_dropWhile] at h
  exact h
theorem insT_sorted (o : SO lt) {t : Nat} : ∀ {l : List Nat}, t ∉ l → Sorted lt l → Sorted lt (insT lt t l)
  | [], _, _ => by simp [insT, Sorted]
  | x :: l, hn, h => by
    unfold Sorted at h
    rw [List.pairwise_cons] at h
    have hx : t ≠ x := fun z => hn (by rw [z]; exact List.mem_cons_self)
    have hl : t ∉ l := fun z => hn (List.mem_cons_of_mem _ z)
    cases hlt : lt x t with
    | true =>
      have e : insT lt t (x :: l) = x :: insT lt t l := by
        unfold insT
        rw [List.takeWhile_cons_of_pos (p := (lt · t)) hlt, List.dropWhile_cons_of_pos (p := (lt · t)) hlt]
        rfl
      rw [e]
      unfold Sorted
      rw [List.pairwise_cons]
      refine ⟨fun y hy => ?_, insT_sorted o hl h.2⟩
      rcases List.mem_cons.mp ((insT_perm t l).mem_iff.mp hy) with rfl | hy
      · exact hlt
      · exact h.1 y hy
    | false =>
      have e : insT lt t (x :: l) = t :: x :: l := by
        unfold insT
        rw [List.takeWhile_cons_of_neg (p := (lt · t)) (by simp [hlt]), List.dropWhile_cons_of_neg (p := (lt · t)) (by simp [hlt])]
        rfl
      have ht : lt t x = true := by rw [o.tot t x hx, hlt]; rfl
      rw [e]
      unfold Sorted
      rw [List.pairwise_cons, List.pairwise_cons]
      refine ⟨fun y hy => ?_, h⟩
      rcases List.mem_cons.mp hy with rfl | hy
      · exact ht
      · exact o.tr t x y ht (h.1 y hy)
def stand (lt : Nat → Nat → Bool) : Nat → List Nat
  | 0 => []
  | n + 1 => insT lt n (stand lt n)
theorem stand_perm : ∀ n, (stand lt n).Perm (List.range n)
  | 0 => .refl _
  | n + 1 => by
    unfold stand
    rw [List.range_succ]
    exact (insT_perm n _).trans (((stand_perm n).cons n).trans (List.perm_append_singleton n _).symm)
theorem stand_sorted (o : SO lt) : ∀ n, Sorted lt (stand lt n)
  | 0 => .nil
  | n + 1 => insT_sorted o (fun z => by
    have := (stand_perm n).mem_iff.mp z
    simp at this) (stand_sorted o n)
/-- the one that is ahead of all -/
def best (lt : Nat → Nat → Bool) (b : Nat) (l : List Nat) : Nat := l.foldl (fun b t => if lt t b then t else b) b
theorem best_mem : ∀ {l : List Nat} {b : Nat}, best lt b l ∈ b :: l
  | [], b => by simp [best]
  | x :: l, b => by
    have := best_mem (l := l) (b := if lt x b then x else b)
    unfold best at this ⊢
    rw [List.foldl_cons]
    rcases List.mem_cons.mp this with h | h
    · rw [h]
      split <;> simp
    · exact List.mem_cons_of_mem _ (List.mem_cons_of_mem _ h)
theorem best_le (o : SO lt) : ∀ {l : List Nat} {b : Nat}, ∀ y ∈ b :: l, y ≠ best lt b l → lt (best lt b l) y = true
  | [], b, y, hy, hn => by
    rw [List.mem_singleton.mp hy] at hn
    exact absurd rfl hn
  | x :: l, b, y, hy, hn => by
    have e : best lt b (x :: l) = best lt (if lt x b then x else b) l := rfl
    rw [e] at hn ⊢
    have ih := best_le o (l := l) (b := if lt x b then x else b)
    by_cases h : lt x b = true
    · rw [if_pos h] at hn ih ⊢
      rcases List.mem_cons.mp hy with rfl | hy
      · by_cases z : x = best lt x l
        · rw [← z]; exact h
        · exact o.tr _ x y (ih x List.mem_cons_self z) h
      · exact ih y hy hn
    · rw [if_neg h] at hn ih ⊢
      rcases List.mem_cons.mp hy with rfl | hy
      · exact ih y List.mem_cons_self hn
      · rcases List.mem_cons.mp hy with rfl | hy
        · by_cases eb : y = b
          · subst eb
            exact ih y List.mem_cons_self hn
          · have hb : lt b y = true := by
              rw [o.tot b y fun z => eb z.symm]
              simp [h]
            by_cases z : b = best lt b l
            · rw [← z]; exact hb
            · exact o.tr _ b y (ih b List.mem_cons_self z) hb
        · exact ih y (List.mem_cons_of_mem _ hy) hn
/-- what the law's own sorting keeps -/
structure Sel (lt : Nat → Nat → Bool) (n : Nat) (left found : List Nat) : Prop where
  pm : (found ++ left).Perm (List.range n)
  so : Sorted lt found
  ah : ∀ x ∈ found, ∀ y ∈ left, lt x y = true
theorem Sel.step (o : SO lt) {n x : Nat} {l found : List Nat} (h : Sel lt n (x :: l) found) : Sel lt n ((x :: l).erase (best lt x l)) (found ++ [best lt x l]) := by
  have hm := best_mem (lt := lt) (l := l) (b := x)
  have nd : (found ++ x :: l).Nodup := h.pm.nodup_iff.mpr List.nodup_range
  have ndl : (x :: l).Nodup := (List.nodup_append.mp nd).2.1
  refine ⟨?_, ?_, fun y hy z hz => ?_⟩
  · rw [List.append_assoc]
    exact (List.Perm.append_left found (List.perm_cons_erase hm).symm).trans h.pm
  · unfold Sorted
    rw [List.pairwise_append]
    refine ⟨h.so, List.pairwise_singleton _ _, fun y hy z hz => ?_⟩
    rw [List.mem_singleton.mp hz]
    exact h.ah y hy _ hm
  · have hz' := (ndl.mem_erase_iff).mp hz
    rcases List.mem_append.mp hy with hy | hy
    · exact h.ah y hy z hz'.2
    · rw [List.mem_singleton.mp hy]
      exact best_le o z hz'.2 hz'.1
theorem Sel.done (o : SO lt) {n : Nat} {found : List Nat} (h : Sel lt n [] found) : found = stand lt n := by
  have := h.pm
  rw [List.append_nil] at this
  exact sorted_uniq o h.so (stand_sorted o n) (this.trans (stand_perm n).symm)
end
/-- ahead, by a state's scores -/
def lt (q : Q) (i j : Nat) : Bool := ah (i : Int) (has q i) (j : Int) (has q j)
theorem lt_so (q : Q) : SO (lt q) where
  tot := fun i j h => ahK_tot (by omega)
  tr := fun i j k h h' => ahK_trans h h'
  irr := fun i => ahK_irr
def natsD (l : List Nat) : D := .list (l.map fun (t : Nat) => PyData.int (t : Int))
/-- the standing -/
def standQ (q : Q) : List Nat := stand (lt q) q.jokers.length
/-! ### the program's standing -/
theorem cut_lo (xs : List D) (p : Nat) : cutD xs (some (p : Int)) none = xs.drop p := by
  unfold cutD
  rw [HT.sIx_nat, HT.sIx_none]
  by_cases h : p ≤ xs.length
  · rw [Nat.min_eq_left h]
    exact List.take_of_length_le (by simp)
  · rw [Nat.min_eq_right (by omega), List.drop_length, List.drop_of_length_le (by omega)]
    simp
theorem cut_hi (xs : List D) (p : Nat) : cutD xs none (some (p : Int)) = xs.take p := by
  unfold cutD
  rw [HT.sIx_nat, HT.sIx_none, List.drop_zero, Nat.sub_zero]
  by_cases h : p ≤ xs.length
  · rw [Nat.min_eq_left h]
  · rw [Nat.min_eq_right (by omega), List.take_length, List.take_of_length_le (by omega)]
def IsLeast (f : Dz.Sem) : Prop := ∀ (q : Q) (t : Nat), Ok q → t < q.jokers.length → f [stD q, .int t] = some (.ok (keyD (has q t).sum (down (has q t))), .none)
def IsAhead (f : Dz.Sem) : Prop := ∀ (i s j t : Int) (xs ys : List Int), f [.int i, keyD s xs, .int j, keyD t ys] = some (.ok (.bool (ahK i s xs j t ys)), .none)
def keyQ (q : Q) (t : Nat) : D := keyD (has q t).sum (down (has q t))
def sWh (a : Nat) : L := (L.cmp COp.lt (L.var 4) (L.bi Bi.len ((L.own1 3).acons L.anil))).and (L.call false a 0 (((L.own1 3).ix (L.var 4)).acons (((L.var 1).ix ((L.own1 3).ix (L.var 4))).acons ((L.var 2).acons (((L.var 1).ix (L.var 2)).acons L.anil)))))
def sBd : S := ((S.set 4 0 (L.bin BOp.add (L.var 4) (L.c (PyData.int (1))))).seq S.skip)
def sStand (l a : Nat) : S := ((S.set 1 0 (L.comp Src.range1 ((L.bi Bi.len (((L.var 0).ix (L.c (PyData.int (1)))).acons L.anil)).acons L.anil) (Tg.one 2) [2] (L.c (PyData.bool true)) (L.call false l 2 ((L.var 0).acons ((L.var 2).acons L.anil))))).seq ((S.set 3 1 L.anil.lst).seq ((S.for_ Src.range1 ((L.bi Bi.len ((L.var 1).acons L.anil)).acons L.anil) (Tg.one 2) ((S.set 4 0 (L.c (PyData.int (0)))).seq ((S.wh (sWh a) sBd).seq ((S.set 3 1 (L.bin BOp.add (L.bin BOp.add ((L.own1 3).slice (L.c PyData.none) (L.bin BOp.add (L.c (PyData.int (0))) (L.var 4))) ((L.var 2).acons L.anil).lst) ((L.own1 3).slice (L.bin BOp.add (L.c (PyData.int (0))) (L.var 4)) (L.c PyData.none)))).seq S.skip)))).seq ((S.retO 3).seq S.skip))))
theorem tw_le {α : Type} {f : α → Bool} : ∀ (l : List α), (l.takeWhile f).length ≤ l.length
  | [] => Nat.le_refl _
  | x :: l => by
    have := tw_le (f := f) l
    rw [List.takeWhile_cons]
    split
    · simp; omega
    · simp
theorem tw_hi {α : Type} {f : α → Bool} : ∀ {l : List α} {x : α}, l[(l.takeWhile f).length]? = some x → f x = false
  | [], x, h => by simp at h
  | y :: l, x, h => by
    rw [List.takeWhile_cons] at h
    cases hy : f y with
    | true =>
      rw [hy] at h
      simp only [if_true, List.length_cons, List.getElem?_cons_succ] at h
      exact tw_hi h
    | false =>
      rw [hy] at h
      simp only [Bool.false_eq_true, if_false, List.length_nil, List.getElem?_cons_zero, Option.some.injEq] at h
      rw [← h]; exact hy
theorem tw_lo {α : Type} {f : α → Bool} : ∀ {l : List α} {x : α} {p : Nat}, p < (l.takeWhile f).length → l[p]? = some x → f x = true
  | [], x, p, h, _ => by simp at h
  | y :: l, x, p, h, h' => by
    rw [List.takeWhile_cons] at h
    cases hy : f y with
    | true =>
      rw [hy] at h
      cases p with
      | zero =>
        simp only [List.getElem?_cons_zero, Option.some.injEq] at h'
        rw [← h']; exact hy
      | succ p =>
        simp only [if_true, List.length_cons] at h
        exact tw_lo (l := l) (p := p) (by omega) (by simpa using h')
    | false =>
      rw [hy] at h
      simp at h
theorem wh_go {G : Nat → Dz.Sem} {fs : Fs} {a : Nat} (ha : IsAhead (G a)) {q : Q} {t : Nat} (ht : t < q.jokers.length) {found : List Nat} (hf : ∀ x ∈ found, x < q.jokers.length) : ∀ (m p fuel : Nat), p + m = (found.takeWhile (lt q · t)).length → m < fuel →
    whGo (evE (okF G) (sWh a)) (evS G fs sBd) fuel [.fz (stD q), .fz (.list ((List.range q.jokers.length).map (keyQ q))), .fz (.int t), .own 1 (natsD found), .fz (.int p)] = some (.nx [.fz (stD q), .fz (.list ((List.range q.jokers.length).map (keyQ q))), .fz (.int t), .own 1 (natsD found), .fz (.int ((found.takeWhile (lt q · t)).length : Nat))]) := by
  intro m
  have hlen : ∀ p : Nat, evE (okF G) (L.cmp COp.lt (L.var 4) (L.bi Bi.len ((L.own1 3).acons L.anil))) [.fz (stD q), .fz (.list ((List.range q.jokers.length).map (keyQ q))), .fz (.int t), .own 1 (natsD found), .fz (.int p)] = some (.bool (decide (p < found.length))) := fun p => by
    have e1 : evE (okF G) (L.bi Bi.len ((L.own1 3).acons L.anil)) [.fz (stD q), .fz (.list ((List.range q.jokers.length).map (keyQ q))), .fz (.int t), .own 1 (natsD found), .fz (.int p)] = some (.int (found.length : Nat)) := by
      rw [ev_bi (ev_1 (d := natsD found) rfl)]
      simp [biF, natsD]
    rw [ev_cmp (ev_var rfl) e1 rfl]
    congr 2
    apply decide_eq_decide.mpr
    omega
  have hcall : ∀ (p x : Nat), found[p]? = some x → evE (okF G) (L.call false a 0 (((L.own1 3).ix (L.var 4)).acons (((L.var 1).ix ((L.own1 3).ix (L.var 4))).acons ((L.var 2).acons (((L.var 1).ix (L.var 2)).acons L.anil))))) [.fz (stD q), .fz (.list ((List.range q.jokers.length).map (keyQ q))), .fz (.int t), .own 1 (natsD found), .fz (.int p)] = some (.bool (lt q x t)) := fun p x hx => by
    have hxl := hf x (List.mem_of_getElem? hx)
    have e1 : evE (okF G) ((L.own1 3).ix (L.var 4)) [.fz (stD q), .fz (.list ((List.range q.jokers.length).map (keyQ q))), .fz (.int t), .own 1 (natsD found), .fz (.int p)] = some (.int x) := ev_ix (x := natsD found) rfl (ev_var rfl) (by simp only [ixF, natsD, atI_nat, List.getElem?_map, hx, Option.map_some])
    have e2 : ∀ y : Nat, y < q.jokers.length → ixF (.list ((List.range q.jokers.length).map (keyQ q))) (.int y) = some (keyQ q y) := fun y hy => by
      simp only [ixF, atI_nat, List.getElem?_map, List.getElem?_range hy, Option.map_some]
    exact ev_call (ev_4 e1 (ev_ix (ev_var rfl) e1 (e2 x hxl)) (ev_var rfl) (ev_ix (ev_var rfl) (ev_var rfl) (e2 t ht))) (okF_of (ha _ _ _ _ _ _))
  induction m with
  | zero =>
    intro p fuel hp hfu
    cases fuel with
    | zero => omega
    | succ fuel =>
      rw [whGo]
      have hp : p = (found.takeWhile (lt q · t)).length := by omega
      have hc : evE (okF G) (sWh a) [.fz (stD q), .fz (.list ((List.range q.jokers.length).map (keyQ q))), .fz (.int t), .own 1 (natsD found), .fz (.int p)] = some (.bool false) := by
        by_cases hl : p < found.length
        · have hx : found[p]? = some found[p] := List.getElem?_eq_getElem hl
          have hn : lt q found[p] t = false := by
            exact tw_hi (f := (lt q · t)) (by rw [← hp]; exact hx)
          have := ev_and (hlen p) (y := false) fun _ => by rw [hcall p _ hx, hn]
          unfold sWh
          rw [this]
          simp
        · have := ev_and (F := okF G) (b := (L.call false a 0 (((L.own1 3).ix (L.var 4)).acons (((L.var 1).ix ((L.own1 3).ix (L.var 4))).acons ((L.var 2).acons (((L.var 1).ix (L.var 2)).acons L.anil)))))) (hlen p) (y := false) fun z => by simp [hl] at z
          unfold sWh
          rw [this]
          simp
      rw [hc]
      simp only [unB, Option.bind_some, Bool.false_eq_true, if_false]
      rw [hp]
  | succ m ih =>
    intro p fuel hp hfu
    cases fuel with
    | zero => omega
    | succ fuel =>
      have hpt : p < (found.takeWhile (lt q · t)).length := by omega
      have hl : p < found.length := Nat.lt_of_lt_of_le hpt (tw_le found)
      have hx : found[p]? = some found[p] := List.getElem?_eq_getElem hl
      have hn : lt q found[p] t = true := by
        exact tw_lo (f := (lt q · t)) hpt hx
      rw [whGo]
      have hc : evE (okF G) (sWh a) [.fz (stD q), .fz (.list ((List.range q.jokers.length).map (keyQ q))), .fz (.int t), .own 1 (natsD found), .fz (.int p)] = some (.bool true) := by
        have := ev_and (hlen p) (y := true) fun _ => by rw [hcall p _ hx, hn]
        unfold sWh
        rw [this]
        simp [hl]
      rw [hc]
      have hb : evS G fs sBd [.fz (stD q), .fz (.list ((List.range q.jokers.length).map (keyQ q))), .fz (.int t), .own 1 (natsD found), .fz (.int p)] = some (.nx [.fz (stD q), .fz (.list ((List.range q.jokers.length).map (keyQ q))), .fz (.int t), .own 1 (natsD found), .fz (.int ((p + 1 : Nat) : Int))]) := by
        unfold sBd
        rw [seq_nx (set_nx (d := .int ((p + 1 : Nat) : Int)) (ev_bin (ev_var rfl) ev_c rfl))]
        rfl
      simp only [unB, Option.bind_some, if_true, hb]
      exact ih (p + 1) fuel (by omega) (by omega)
end Mz

set_option Elab.async false
set_option linter.all false
set_option maxRecDepth 100000
set_option maxHeartbeats 4000000
namespace Mz
open PySem L2 Dz
def sKeyM : S := ((S.retM [Itm.e (L.bi Bi.sum ((L.var 0).acons L.anil)), Itm.e (L.bi Bi.sortedR ((L.var 0).acons L.anil))]).seq S.skip)
theorem keyM_sem (G : Nat → Dz.Sem) : IsKey (semS G ⟨2, false⟩ 0 1 0 sKeyM) := fun xs => by
  refine sem_rt (q := ⟨2, false⟩) (ρ := [.fz (intsD xs)]) rfl rfl ?_
  show evS G _ sKeyM [.fz (intsD xs)] = _
  unfold sKeyM
  refine seq_rt ?_
  have h1 : evE (okF G) (L.bi Bi.sum ((L.var 0).acons L.anil)) [.fz (intsD xs)] = some (.int xs.sum) := by
    rw [ev_bi (ev_1 (ev_var rfl))]
    simp only [biF, intsD, intsOf_map, Option.map_some]
  have h2 : evE (okF G) (L.bi Bi.sortedR ((L.var 0).acons L.anil)) [.fz (intsD xs)] = some (intsD (down xs)) := by
    rw [ev_bi (ev_1 (ev_var rfl))]
    simp only [biF, intsD, intsOf_map, Option.map_some, down]
  rw [evS, evI, h1, Option.bind_some, evI, h2, Option.bind_some]
  rfl
theorem range_split {n x : Nat} {pre post : List Nat} (h : List.range n = pre ++ x :: post) : x = pre.length ∧ x < n := by
  have h1 : (List.range n)[pre.length]? = some x := by rw [h]; simp
  obtain ⟨h2, h3⟩ := List.getElem?_eq_some_iff.mp h1
  rw [List.getElem_range] at h3
  rw [List.length_range] at h2
  exact ⟨h3.symm, by omega⟩
theorem tw_take {α : Type} {f : α → Bool} (l : List α) : l.take (l.takeWhile f).length = l.takeWhile f := by
  have h := List.takeWhile_append_dropWhile (p := f) (l := l)
  calc l.take (l.takeWhile f).length = (l.takeWhile f ++ l.dropWhile f).take (l.takeWhile f).length := by rw [h]
    _ = l.takeWhile f := List.take_left' rfl
theorem tw_drop {α : Type} {f : α → Bool} (l : List α) : l.drop (l.takeWhile f).length = l.dropWhile f := by
  have h := List.takeWhile_append_dropWhile (p := f) (l := l)
  calc l.drop (l.takeWhile f).length = (l.takeWhile f ++ l.dropWhile f).drop (l.takeWhile f).length := by rw [h]
    _ = l.dropWhile f := List.drop_left' rfl
theorem lim_le {n : Nat} (h : n ≤ 100000) : lim n = true := decide_eq_true h
theorem l63 {n : Nat} (h : n ≤ 100000) : lim63 (n : Int) = true := by unfold lim63; simp; omega
theorem src_range {n : Nat} (h : n ≤ 100000) : srcF .range1 [.int (n : Int)] = some ((List.range n).map fun (i : Nat) => PyData.int (i : Int)) := by
  simp only [srcF, l63 h, if_true, Int.toNat_natCast, rangeD_eq]
theorem un_range {n : Nat} (h : n ≤ 100000) : (unT (some (.tuple [.int (n : Int)]))).bind (srcF .range1) = some ((List.range n).map fun (i : Nat) => PyData.int (i : Int)) := by
  rw [unT, Option.bind_some, src_range h]
theorem ev_0add {F : Nat → List D → Option D} {ρ : List Sl} {i : Nat} {n : Int} (h : ρ[i]? = some (.fz (.int n))) : evE F (L.bin BOp.add (L.c (PyData.int (0))) (L.var i)) ρ = some (.int n) := by
  rw [ev_bin (d := .int (0 + n)) ev_c (ev_var h) rfl, Int.zero_add]
def IsStand (f : Dz.Sem) : Prop := ∀ q : Q, Ok q → f [stD q] = some (.ok (natsD (standQ q)), .none)
theorem stand_lt (lt : Nat → Nat → Bool) {n x : Nat} (h : x ∈ stand lt n) : x < n := by
  have := (stand_perm n).mem_iff.mp h
  simpa using this
theorem stand_len (lt : Nat → Nat → Bool) (n : Nat) : (stand lt n).length = n := by
  have := (stand_perm (lt := lt) n).length_eq
  simpa using this
theorem stand_sem {G : Nat → Dz.Sem} {l a : Nat} (hl : IsLeast (G l)) (ha : IsAhead (G a)) : IsStand (semS G ⟨1, false⟩ 0 1 4 (sStand l a)) := fun q ok => by
  have hj := ok.j1
  have e1 : ∀ ρ : List Sl, ρ[0]? = some (.fz (stD q)) → evE (okF G) (L.bi Bi.len (((L.var 0).ix (L.c (PyData.int (1)))).acons L.anil)) ρ = some (.int (q.jokers.length : Nat)) := fun ρ hρ => by
    rw [ev_bi (ev_1 (d := .list (q.jokers.map jkD)) (ev_ix (ev_var hρ) ev_c rfl))]
    simp [biF]
  have e2 : evE (okF G) (L.comp Src.range1 ((L.bi Bi.len (((L.var 0).ix (L.c (PyData.int (1)))).acons L.anil)).acons L.anil) (Tg.one 2) [2] (L.c (PyData.bool true)) (L.call false l 2 ((L.var 0).acons ((L.var 2).acons L.anil)))) [.fz (stD q), .no, .no, .no, .no] = some (.list ((List.range q.jokers.length).map (keyQ q))) := by
    refine evE_comp' (items := List.range q.jokers.length) (fun (i : Nat) => PyData.int (i : Int)) (keyQ q) ?_ (by simp; omega) fun i hi => ⟨_, rfl, ?_⟩
    · rw [ev_1 (e1 _ rfl)]
      exact un_range (by omega)
    · exact ev_call (ev_2 (ev_var rfl) (ev_var rfl)) (okF_of (hl q i ok (List.mem_range.mp hi)))
  have loop : ∃ ρ', evS G ⟨1, false⟩ (S.for_ Src.range1 ((L.bi Bi.len ((L.var 1).acons L.anil)).acons L.anil) (Tg.one 2) ((S.set 4 0 (L.c (PyData.int (0)))).seq ((S.wh (sWh a) sBd).seq ((S.set 3 1 (L.bin BOp.add (L.bin BOp.add ((L.own1 3).slice (L.c PyData.none) (L.bin BOp.add (L.c (PyData.int (0))) (L.var 4))) ((L.var 2).acons L.anil).lst) ((L.own1 3).slice (L.bin BOp.add (L.c (PyData.int (0))) (L.var 4)) (L.c PyData.none)))).seq S.skip)))) [.fz (stD q), .fz (.list ((List.range q.jokers.length).map (keyQ q))), .no, .own 1 (.list []), .no] = some (.nx ρ') ∧
      ∃ x y, ρ' = [.fz (stD q), .fz (.list ((List.range q.jokers.length).map (keyQ q))), x, .own 1 (natsD (stand (lt q) (List.range q.jokers.length).length)), y] := by
    refine for_inv (items := List.range q.jokers.length) (fun (i : Nat) => PyData.int (i : Int)) (fun pre ρ => ∃ x y, ρ = [.fz (stD q), .fz (.list ((List.range q.jokers.length).map (keyQ q))), x, .own 1 (natsD (stand (lt q) pre.length)), y]) ⟨.no, .no, rfl⟩ ?_ fun pre t post ρ hall ⟨x, y, e⟩ => ?_
    · rw [ev_1 (d := .int (q.jokers.length : Nat))]
      · exact un_range (by omega)
      · rw [ev_bi (ev_1 (ev_var rfl))]
        simp [biF]
    · subst e
      obtain ⟨rfl, ht⟩ := range_split hall
      have hfl := stand_len (lt q) pre.length
      have hw := wh_go (fs := ⟨1, false⟩) ha ht (found := stand (lt q) pre.length) (fun x hx => by have := stand_lt _ hx; omega) ((stand (lt q) pre.length).takeWhile (lt q · pre.length)).length 0 1000 (by omega) (by
        have := tw_le (f := (lt q · pre.length)) (stand (lt q) pre.length)
        omega)
      have htw := tw_le (f := (lt q · pre.length)) (stand (lt q) pre.length)
      refine ⟨_, [.fz (stD q), .fz (.list ((List.range q.jokers.length).map (keyQ q))), .fz (.int pre.length), .own 1 (natsD (insT (lt q) pre.length (stand (lt q) pre.length))), .fz (.int (((stand (lt q) pre.length).takeWhile (lt q · pre.length)).length : Nat))], rfl, ?_, ⟨_, _, by rw [List.length_append]; rfl⟩⟩
      rw [seq_nx (set_nx (d := .int 0) ev_c)]
      show evS G _ _ [.fz (stD q), .fz (.list ((List.range q.jokers.length).map (keyQ q))), .fz (.int pre.length), .own 1 (natsD (stand (lt q) pre.length)), .fz (.int 0)] = _
      rw [seq_nx (by rw [evS]; exact hw), seq_nx (set_nx (d := natsD (insT (lt q) pre.length (stand (lt q) pre.length))) ?_)]
      · rfl
      · have hsl : ∀ ρ : List Sl, ρ[3]? = some (.own 1 (natsD (stand (lt q) pre.length))) → ρ[4]? = some (.fz (.int (((stand (lt q) pre.length).takeWhile (lt q · pre.length)).length : Nat))) →
          evE (okF G) ((L.own1 3).slice (L.c PyData.none) (L.bin BOp.add (L.c (PyData.int (0))) (L.var 4))) ρ = some (natsD ((stand (lt q) pre.length).takeWhile (lt q · pre.length))) := fun ρ h3 h4 => by
          rw [evE, evE, h3]
          simp only [natsD, Option.bind_some, ev_c, partO, ev_0add h4, sliceF, cut_hi, ← List.map_take, tw_take]
        have hsr : ∀ ρ : List Sl, ρ[3]? = some (.own 1 (natsD (stand (lt q) pre.length))) → ρ[4]? = some (.fz (.int (((stand (lt q) pre.length).takeWhile (lt q · pre.length)).length : Nat))) →
          evE (okF G) ((L.own1 3).slice (L.bin BOp.add (L.c (PyData.int (0))) (L.var 4)) (L.c PyData.none)) ρ = some (natsD ((stand (lt q) pre.length).dropWhile (lt q · pre.length))) := fun ρ h3 h4 => by
          rw [evE, evE, h3]
          simp only [natsD, Option.bind_some, ev_c, partO, ev_0add h4, sliceF, cut_lo, ← List.map_drop, tw_drop]
        have hdl : ((stand (lt q) pre.length).dropWhile (lt q · pre.length)).length ≤ 5 := by
          rw [← tw_drop, List.length_drop]
          omega
        refine ev_bin (x := natsD ((stand (lt q) pre.length).takeWhile (lt q · pre.length) ++ [pre.length])) (ev_bin (hsl _ rfl rfl) (ev_lst (ev_1 (ev_var rfl)) (by simp)) ?_) (hsr _ rfl rfl) ?_
        · simp only [natsD, opB]
          rw [if_pos (lim_le (by simp; omega)), List.map_append]
          rfl
        · simp only [natsD, opB]
          rw [if_pos (lim_le (by simp; omega)), insT, List.map_append, List.map_append, List.map_append]
  obtain ⟨ρ', l1, x, y, rfl⟩ := loop
  refine sem_rt (q := ⟨1, false⟩) (ρ := [.fz (stD q), .fz (.list ((List.range q.jokers.length).map (keyQ q))), x, .own 1 (natsD (standQ q)), y]) rfl rfl ?_
  show evS G _ (sStand l a) [.fz (stD q), .no, .no, .no, .no] = _
  unfold sStand
  rw [seq_nx (set_nx e2)]
  show evS G _ _ [.fz (stD q), .fz (.list ((List.range q.jokers.length).map (keyQ q))), .no, .no, .no] = _
  rw [seq_nx (set_nx (d := .list []) rfl)]
  show evS G _ _ [.fz (stD q), .fz (.list ((List.range q.jokers.length).map (keyQ q))), .no, .own 1 (.list []), .no] = _
  rw [seq_nx l1]
  refine seq_rt ?_
  rw [List.length_range]
  rfl
end Mz

set_option Elab.async false
set_option linter.all false
set_option maxRecDepth 100000
set_option maxHeartbeats 4000000
namespace Mz
open PySem L2 Dz
section
variable {F : Nat → List D → Option D} {ρ : List Sl}
theorem or_ff {a b : L} (h : evE F a ρ = some (.bool false)) (h' : evE F b ρ = some (.bool false)) : evE F (.or a b) ρ = some (.bool false) := ev_or (x := false) (y := false) h fun _ => h'
theorem or_t {a b : L} (h : evE F a ρ = some (.bool true)) : evE F (.or a b) ρ = some (.bool true) := ev_or (x := true) (y := true) h (fun z => by cases z)
theorem or_ft {a b : L} (h : evE F a ρ = some (.bool false)) (h' : evE F b ρ = some (.bool true)) : evE F (.or a b) ρ = some (.bool true) := ev_or (x := false) (y := true) h fun _ => h'
theorem and_tt {a b : L} (h : evE F a ρ = some (.bool true)) (h' : evE F b ρ = some (.bool true)) : evE F (.and a b) ρ = some (.bool true) := ev_and (x := true) (y := true) h fun _ => h'
theorem not_t {a : L} (h : evE F a ρ = some (.bool true)) : evE F (.not a) ρ = some (.bool false) := ev_not (x := true) h
theorem not_f {a : L} (h : evE F a ρ = some (.bool false)) : evE F (.not a) ρ = some (.bool true) := ev_not (x := false) h
theorem ch_t {o o' : COp} {a b e : L} {x y z : D} (h1 : evE F a ρ = some x) (h2 : evE F b ρ = some y) (h3 : opC o x y = some true) (h4 : evE F e ρ = some z) (h5 : opC o' y z = some true) : evE F (.chain o o' a b e) ρ = some (.bool true) := by
  rw [evE, h1, Option.bind_some, h2, Option.bind_some, h3, Option.bind_some, if_pos rfl, h4, Option.bind_some, h5]; rfl
theorem bools_map {α : Type} : ∀ (l : List α) (f : α → Bool), boolsOf (l.map fun a => PyData.bool (f a)) = some (l.map f)
  | [], _ => rfl
  | x :: l, f => by rw [List.map_cons, boolsOf, bools_map l f]; rfl
theorem ev_all {α : Type} {k : Src} {ls : L} {g : Tg} {vs : List Nat} {e : L} {items : List α} (emb : α → D) (h1 : (unT (evE F ls ρ)).bind (srcF k) = some (items.map emb)) (hl : items.length ≤ 100000)
    (h : ∀ a ∈ items, ∃ ρ', bindT g (emb a) (wipeD ρ vs) = some ρ' ∧ evE F e ρ' = some (.bool true)) : evE F (.bi .all (.acons (.comp k ls g vs (.c (.bool true)) e) .anil)) ρ = some (.bool true) := by
  rw [ev_bi (ev_1 (evE_comp' (g := g) (vs := vs) (e := e) emb (fun _ => PyData.bool true) h1 hl h)), biF, bools_map items (fun _ => true)]
  have : (items.map fun _ => true).all id = true := by simp
  rw [Option.map_some, this]
theorem le_i {i j : Int} (h : i ≤ j) : opC .le (.int i) (.int j) = some true := by simp [opC, h]
theorem lt_i {i j : Int} (h : i < j) : opC .lt (.int i) (.int j) = some true := by simp [opC, h]
theorem eq_i {i j : Int} (h : i = j) : opC .eq (.int i) (.int j) = some true := by simp [opC, eqv_int, h]
theorem ne_i {i j : Int} (h : i = j) : opC .ne (.int i) (.int j) = some false := by simp [opC, eqv_int, h]
theorem is_n : opC .is .none .none = some true := rfl
theorem len_l {a : L} {ds : List D} (h : evE F a ρ = some (.list ds)) : evE F (.bi .len (.acons a .anil)) ρ = some (.int (ds.length : Int)) := by rw [ev_bi (ev_1 h)]; rfl
theorem isl_t {a : L} {ds : List D} (h : evE F a ρ = some (.list ds)) : evE F (.bi (.isi .list) (.acons a .anil)) ρ = some (.bool true) := by rw [ev_bi (ev_1 h)]; rfl
theorem un_seq {ds : List D} : (unT (some (.tuple [.list ds]))).bind (srcF .seq) = some ds := rfl
theorem un_zip {a b : List D} : (unT (some (.tuple [.list a, .list b]))).bind (srcF .zip) = some (a.zipWith pairD b) := rfl
end
theorem zip_map {α β : Type} (a : List α) (b : List β) (f : α → D) (g : β → D) : (a.map f).zipWith pairD (b.map g) = (a.zip b).map fun p => pairD (f p.1) (g p.2) := by
  rw [List.zip, List.map_zipWith, List.zipWith_map]
theorem zip_mem {α β : Type} {a : List α} {b : List β} {x : α} {y : β} (h : (x, y) ∈ a.zip b) : ∃ n : Nat, a[n]? = some x ∧ b[n]? = some y := by
  obtain ⟨n, hn, e⟩ := List.mem_iff_getElem.mp h
  rw [List.getElem_zip] at e
  have h1 : n < a.length := by rw [List.length_zip] at hn; omega
  have h2 : n < b.length := by rw [List.length_zip] at hn; omega
  obtain ⟨rfl, rfl⟩ := Prod.mk.inj e
  exact ⟨n, List.getElem?_eq_getElem h1, List.getElem?_eq_getElem h2⟩
def sWhole : S := ((S.ret ((L.bi (Bi.isi Ty.int) ((L.var 0).acons L.anil)).and (L.bi (Bi.isi Ty.bool) ((L.var 0).acons L.anil)).not)).seq S.skip)
def sRounds (w : Nat) : S := ((S.ifs ((L.bi (Bi.isi Ty.list) ((L.var 0).acons L.anil)).not.or (L.chain COp.le COp.le (L.c (PyData.int (1))) (L.bi Bi.len ((L.var 0).acons L.anil)) (L.c (PyData.int (5)))).not) ((S.ret (L.c (PyData.bool false))).seq S.skip) S.skip).seq ((S.ret (L.bi Bi.all ((L.comp Src.seq ((L.var 0).acons L.anil) (Tg.one 1) [1] (L.c (PyData.bool true)) ((L.call false w 0 ((L.var 1).acons L.anil)).and (L.chain COp.le COp.le (L.c (PyData.int (1))) (L.var 1) (L.c (PyData.int (5)))))).acons L.anil))).seq S.skip))
def sTruths : S := ((S.ret ((L.bi (Bi.isi Ty.list) ((L.var 0).acons L.anil)).and ((L.cmp COp.eq (L.bi Bi.len ((L.var 0).acons L.anil)) (L.var 1)).and (L.bi Bi.all ((L.comp Src.seq ((L.var 0).acons L.anil) (Tg.one 2) [2] (L.c (PyData.bool true)) (L.bi (Bi.isi Ty.bool) ((L.var 2).acons L.anil))).acons L.anil))))).seq S.skip)
def sSheet (t : Nat) : S := ((S.ifs (L.cmp COp.is (L.var 0) (L.c PyData.none)) ((S.ret (L.c (PyData.bool true))).seq S.skip) S.skip).seq ((S.ifs ((L.bi (Bi.isi Ty.tuple) ((L.var 0).acons L.anil)).not.or ((L.cmp COp.ne (L.bi Bi.len ((L.var 0).acons L.anil)) (L.c (PyData.int (2)))).or (L.bi (Bi.isi Ty.bool) (((L.var 0).ix (L.c (PyData.int (1)))).acons L.anil)).not)) ((S.ret (L.c (PyData.bool false))).seq S.skip) S.skip).seq ((S.ret (L.call false t 0 (((L.var 0).ix (L.c (PyData.int (0)))).acons ((L.var 1).acons L.anil)))).seq S.skip)))
def sRow (h : Nat) : S := ((S.ifs ((L.bi (Bi.isi Ty.list) ((L.var 0).acons L.anil)).not.or (L.cmp COp.ne (L.bi Bi.len ((L.var 0).acons L.anil)) (L.bi Bi.len ((L.var 1).acons L.anil)))) ((S.ret (L.c (PyData.bool false))).seq S.skip) S.skip).seq ((S.ret (L.bi Bi.all ((L.comp Src.zip ((L.var 0).acons ((L.var 1).acons L.anil)) (Tg.many [2, 3]) [2, 3] (L.c (PyData.bool true)) (L.call false h 0 ((L.var 2).acons ((L.var 3).acons L.anil)))).acons L.anil))).seq S.skip))
def sStruck (w : Nat) : S := ((S.ifs ((L.bi (Bi.isi Ty.list) ((L.var 0).acons L.anil)).not.or (L.bi Bi.all ((L.comp Src.seq ((L.var 0).acons L.anil) (Tg.one 2) [2] (L.c (PyData.bool true)) ((L.call false w 0 ((L.var 2).acons L.anil)).and (L.chain COp.le COp.lt (L.c (PyData.int (0))) (L.var 2) (L.var 1)))).acons L.anil)).not) ((S.ret (L.c (PyData.bool false))).seq S.skip) S.skip).seq ((S.ret (L.bi Bi.all ((L.comp Src.range2 ((L.c (PyData.int (1))).acons ((L.bi Bi.len ((L.var 0).acons L.anil)).acons L.anil)) (Tg.one 3) [3] (L.c (PyData.bool true)) (L.cmp COp.lt ((L.var 0).ix (L.bin BOp.sub (L.var 3) (L.c (PyData.int (1))))) ((L.var 0).ix (L.var 3)))).acons L.anil))).seq S.skip))
def sJoker (w : Nat) : S := ((S.ret ((L.cmp COp.is (L.var 0) (L.c PyData.none)).or ((L.call false w 0 ((L.var 0).acons L.anil)).and (L.chain COp.le COp.lt (L.c (PyData.int (0))) (L.var 0) (L.bi Bi.len ((L.var 1).acons L.anil)))))).seq S.skip)
def sState (r j o k : Nat) : S := ((S.ifs ((L.bi (Bi.isi Ty.tuple) ((L.var 0).acons L.anil)).not.or ((L.cmp COp.ne (L.bi Bi.len ((L.var 0).acons L.anil)) (L.c (PyData.int (4)))).or (L.call false r 0 (((L.var 0).ix (L.c (PyData.int (0)))).acons L.anil)).not)) ((S.ret (L.c (PyData.bool false))).seq S.skip) S.skip).seq ((S.setT [(1, 0), (2, 0), (3, 0), (4, 0)] (L.var 0)).seq ((S.ifs ((L.bi (Bi.isi Ty.list) ((L.var 2).acons L.anil)).not.or (L.chain COp.le COp.le (L.c (PyData.int (2))) (L.bi Bi.len ((L.var 2).acons L.anil)) (L.c (PyData.int (5)))).not) ((S.ret (L.c (PyData.bool false))).seq S.skip) S.skip).seq ((S.ifs (L.bi Bi.all ((L.comp Src.seq ((L.var 2).acons L.anil) (Tg.one 5) [5] (L.c (PyData.bool true)) (L.call false j 0 ((L.var 5).acons ((L.var 1).acons L.anil)))).acons L.anil)).not ((S.ret (L.c (PyData.bool false))).seq S.skip) S.skip).seq ((S.ifs ((L.bi (Bi.isi Ty.list) ((L.var 3).acons L.anil)).not.or ((L.cmp COp.ne (L.bi Bi.len ((L.var 3).acons L.anil)) (L.bi Bi.len ((L.var 2).acons L.anil))).or (L.bi Bi.all ((L.comp Src.seq ((L.var 3).acons L.anil) (Tg.one 6) [6] (L.c (PyData.bool true)) (L.call false o 0 ((L.var 6).acons ((L.var 1).acons L.anil)))).acons L.anil)).not)) ((S.ret (L.c (PyData.bool false))).seq S.skip) S.skip).seq ((S.ifs ((L.bi (Bi.isi Ty.list) ((L.var 4).acons L.anil)).not.or (L.cmp COp.ne (L.bi Bi.len ((L.var 4).acons L.anil)) (L.bi Bi.len ((L.var 1).acons L.anil)))) ((S.ret (L.c (PyData.bool false))).seq S.skip) S.skip).seq ((S.ret (L.bi Bi.all ((L.comp Src.zip ((L.var 4).acons ((L.var 1).acons L.anil)) (Tg.many [7, 8]) [7, 8] (L.c (PyData.bool true)) (L.call false k 0 ((L.var 7).acons ((L.var 8).acons L.anil)))).acons L.anil))).seq S.skip)))))))
def sAskS (s : Nat) : S := ((S.ifs (L.call false s 0 ((L.var 0).acons L.anil)).not ((S.raise ("BadState" : Str)).seq S.skip) S.skip).seq S.skip)
def sAskT (w : Nat) : S := ((S.ifs ((L.call false w 0 ((L.var 1).acons L.anil)).not.or (L.chain COp.le COp.lt (L.c (PyData.int (0))) (L.var 1) (L.bi Bi.len (((L.var 0).ix (L.c (PyData.int (1)))).acons L.anil))).not) ((S.raise ("BadTable" : Str)).seq S.skip) S.skip).seq S.skip)
/-- a def says True of these -/
def Says (f : Dz.Sem) (xs : List D) : Prop := f xs = some (.ok (.bool true), .none)
theorem whole_sem (G : Nat → Dz.Sem) (i : Int) : Says (semS G ⟨0, false⟩ 0 1 0 sWhole) [.int i] := rfl
theorem rounds_sem {G : Nat → Dz.Sem} {w : Nat} (hw : ∀ i, Says (G w) [.int i]) {rs : List Int} (h1 : 1 ≤ rs.length ∧ rs.length ≤ 5) (h2 : ∀ r ∈ rs, 1 ≤ r ∧ r ≤ 5) : Says (semS G ⟨0, false⟩ 0 1 1 (sRounds w)) [intsD rs] := by
  refine sem_rt (q := ⟨0, false⟩) (ρ := [.fz (intsD rs), .no]) rfl rfl ?_
  show evS G _ (sRounds w) [.fz (intsD rs), .no] = _
  unfold sRounds
  rw [seq_nx ((ifs_f (or_ff (not_t (isl_t (ev_var rfl))) (not_t (ch_t ev_c (len_l (ev_var rfl)) (le_i (by simp; omega)) ev_c (le_i (by simp; omega)))))).trans skip_nx)]
  refine seq_rt (ret_rt rfl (ev_all (items := rs) PyData.int ?_ (by omega) fun r hr => ⟨_, rfl, ?_⟩))
  · rw [ev_1 (ev_var rfl)]; exact un_seq
  · exact and_tt (ev_call (ev_1 (ev_var rfl)) (okF_of (hw r))) (ch_t ev_c (ev_var rfl) (le_i (h2 r hr).1) ev_c (le_i (h2 r hr).2))
theorem truths_sem (G : Nat → Dz.Sem) {ts : List Bool} {r : Int} (h : (ts.length : Int) = r) (hr : r ≤ 5) : Says (semS G ⟨0, false⟩ 0 2 1 sTruths) [.list (ts.map PyData.bool), .int r] := by
  refine sem_rt (q := ⟨0, false⟩) (ρ := [.fz (.list (ts.map PyData.bool)), .fz (.int r), .no]) rfl rfl ?_
  show evS G _ sTruths [.fz (.list (ts.map PyData.bool)), .fz (.int r), .no] = _
  unfold sTruths
  refine seq_rt (ret_rt rfl (and_tt (isl_t (ev_var rfl)) (and_tt (ev_cmp (len_l (ev_var rfl)) (ev_var rfl) (eq_i (by simp [h]))) (ev_all (items := ts) PyData.bool ?_ (by omega) fun b hb => ⟨_, rfl, ?_⟩))))
  · rw [ev_1 (ev_var rfl)]; exact un_seq
  · rw [ev_bi (ev_1 (ev_var rfl))]; rfl
theorem sheet_sem {G : Nat → Dz.Sem} {t : Nat} (ht : ∀ (ts : List Bool) (r : Int), (ts.length : Int) = r → r ≤ 5 → Says (G t) [.list (ts.map PyData.bool), .int r]) {s : Option (List Bool × Bool)} {r : Int} (hr : r ≤ 5) (h : ∀ ts late, s = some (ts, late) → (ts.length : Int) = r) : Says (semS G ⟨0, false⟩ 0 2 0 (sSheet t)) [shD s, .int r] := by
  refine sem_rt (q := ⟨0, false⟩) (ρ := [.fz (shD s), .fz (.int r)]) rfl rfl ?_
  show evS G _ (sSheet t) [.fz (shD s), .fz (.int r)] = _
  unfold sSheet
  cases s with
  | none => exact seq_rt ((ifs_t (ev_cmp (ev_var rfl) ev_c is_n)).trans (seq_rt (ret_rt rfl ev_c)))
  | some p =>
    obtain ⟨ts, late⟩ := p
    rw [seq_nx ((ifs_f (ev_cmp (x := shD (some (ts, late))) (y := .none) (ev_var rfl) ev_c rfl)).trans skip_nx), seq_nx ((ifs_f (or_ff (not_t ?_) (or_ff ?_ (not_t ?_)))).trans skip_nx)]
    · exact seq_rt (ret_rt rfl (ev_call (ev_2 (d := .list (ts.map PyData.bool)) (ev_ix (ev_var rfl) ev_c rfl) (ev_var rfl)) (okF_of (ht ts r (h ts late rfl) hr))))
    · rw [ev_bi (ev_1 (ev_var rfl))]; rfl
    · refine ev_cmp (x := .int 2) (y := .int 2) ?_ ev_c (ne_i rfl)
      rw [ev_bi (ev_1 (ev_var rfl))]; rfl
    · rw [ev_bi (ev_1 (d := .bool late) (ev_ix (ev_var rfl) ev_c rfl))]; rfl
theorem row_sem {G : Nat → Dz.Sem} {h : Nat} {row : List (Option (List Bool × Bool))} {rs : List Int} (hh : ∀ (n : Nat) (s : Option (List Bool × Bool)) (r : Int), row[n]? = some s → rs[n]? = some r → Says (G h) [shD s, .int r]) (hl : row.length = rs.length) (h5 : rs.length ≤ 5) : Says (semS G ⟨0, false⟩ 0 2 2 (sRow h)) [rowD row, intsD rs] := by
  refine sem_rt (q := ⟨0, false⟩) (ρ := [.fz (rowD row), .fz (intsD rs), .no, .no]) rfl rfl ?_
  show evS G _ (sRow h) [.fz (rowD row), .fz (intsD rs), .no, .no] = _
  unfold sRow
  rw [seq_nx ((ifs_f (or_ff (not_t (isl_t (ev_var rfl))) (ev_cmp (len_l (ev_var rfl)) (len_l (ev_var rfl)) (ne_i (by simp [hl]))))).trans skip_nx)]
  refine seq_rt (ret_rt rfl (ev_all (items := row.zip rs) (fun p => pairD (shD p.1) (.int p.2)) ?_ (by rw [List.length_zip]; omega) fun p hp => ⟨[.fz (rowD row), .fz (intsD rs), .fz (shD p.1), .fz (.int p.2)], rfl, ?_⟩))
  · rw [ev_2 (ev_var rfl) (ev_var rfl)]
    exact (un_zip (a := row.map shD) (b := rs.map PyData.int)).trans (by rw [zip_map])
  · obtain ⟨n, q1, q2⟩ := zip_mem hp
    exact ev_call (ev_2 (ev_var rfl) (ev_var rfl)) (okF_of (hh n _ _ q1 q2))
theorem un_range2 {n : Nat} (h : n ≤ 100000) : (unT (some (.tuple [.int 1, .int (n : Int)]))).bind (srcF .range2) = some ((List.range (n - 1)).map fun (i : Nat) => PyData.int (1 + (i : Int))) := by
  have e : ((n : Int) - 1).toNat = n - 1 := by omega
  have l1 : lim63 1 = true := by decide
  rw [unT, Option.bind_some, srcF, l1, l63 h, Bool.and_self, if_pos rfl, e]
  rfl
theorem sk_step {G : Nat → Dz.Sem} {ρ : List Sl} {sk : List Int} {i : Nat} (h1 : sk.Pairwise (· < ·)) (hi : i < sk.length - 1) (e0 : ρ[0]? = some (.fz (intsD sk))) (e3 : ρ[3]? = some (.fz (.int (1 + (i : Int))))) : evE (okF G) (L.cmp COp.lt ((L.var 0).ix (L.bin BOp.sub (L.var 3) (L.c (PyData.int (1))))) ((L.var 0).ix (L.var 3))) ρ = some (.bool true) := by
  have e1 : ixF (intsD sk) (.int (i : Int)) = some (.int (sk[i]'(by omega))) := by
    simp only [ixF, intsD, atI_nat, List.getElem?_map, List.getElem?_eq_getElem (show i < sk.length by omega), Option.map_some]
  have e2 : ixF (intsD sk) (.int (1 + (i : Int))) = some (.int (sk[i + 1]'(by omega))) := by
    have : (1 + (i : Int)) = ((i + 1 : Nat) : Int) := by omega
    rw [this]
    simp only [ixF, intsD, atI_nat, List.getElem?_map, List.getElem?_eq_getElem (show i + 1 < sk.length by omega), Option.map_some]
  refine ev_cmp (ev_ix (ev_var e0) (ev_bin (d := .int (i : Int)) (ev_var e3) ev_c ?_) e1) (ev_ix (ev_var e0) (ev_var e3) e2) (lt_i (List.pairwise_iff_getElem.mp h1 i (i + 1) (by omega) (by omega) (by omega)))
  simp only [opB, Option.some.injEq, PyData.int.injEq]
  omega
theorem struck_sem {G : Nat → Dz.Sem} {w : Nat} (hw : ∀ i, Says (G w) [.int i]) {sk : List Int} {r : Int} (hr : r ≤ 5) (h1 : sk.Pairwise (· < ·)) (h2 : ∀ x ∈ sk, 0 ≤ x ∧ x < r) (hl : sk.length ≤ 100) : Says (semS G ⟨0, false⟩ 0 2 2 (sStruck w)) [intsD sk, .int r] := by
  refine sem_rt (q := ⟨0, false⟩) (ρ := [.fz (intsD sk), .fz (.int r), .no, .no]) rfl rfl ?_
  show evS G _ (sStruck w) [.fz (intsD sk), .fz (.int r), .no, .no] = _
  unfold sStruck
  rw [seq_nx ((ifs_f (or_ff (not_t (isl_t (ev_var rfl))) (not_t (ev_all (items := sk) PyData.int ?_ (by omega) fun x hx => ⟨_, rfl, ?_⟩)))).trans skip_nx)]
  · refine seq_rt (ret_rt rfl (ev_all (items := List.range (sk.length - 1)) (fun (i : Nat) => PyData.int (1 + (i : Int))) ?_ (by simp; omega) fun i hi => ⟨_, rfl, ?_⟩))
    · rw [ev_2 ev_c (len_l (ev_var rfl))]
      exact (un_range2 (n := (sk.map PyData.int).length) (by rw [List.length_map]; omega)).trans (by rw [List.length_map])
    · exact sk_step h1 (List.mem_range.mp hi) rfl rfl
  · rw [ev_1 (ev_var rfl)]; exact un_seq
  · exact and_tt (ev_call (ev_1 (ev_var rfl)) (okF_of (hw x))) (ch_t ev_c (ev_var rfl) (le_i (h2 x hx).1) (ev_var rfl) (lt_i (h2 x hx).2))
theorem joker_sem {G : Nat → Dz.Sem} {w : Nat} (hw : ∀ i, Says (G w) [.int i]) {j : Option Int} {rs : List Int} (h : ∀ i, j = some i → 0 ≤ i ∧ i < rs.length) : Says (semS G ⟨0, false⟩ 0 2 0 (sJoker w)) [jkD j, intsD rs] := by
  refine sem_rt (q := ⟨0, false⟩) (ρ := [.fz (jkD j), .fz (intsD rs)]) rfl rfl ?_
  show evS G _ (sJoker w) [.fz (jkD j), .fz (intsD rs)] = _
  unfold sJoker
  refine seq_rt (ret_rt rfl ?_)
  cases j with
  | none => exact or_t (ev_cmp (ev_var rfl) ev_c is_n)
  | some i => exact or_ft (ev_cmp (x := .int i) (y := .none) (ev_var rfl) ev_c rfl) (and_tt (ev_call (ev_1 (ev_var rfl)) (okF_of (hw i))) (ch_t ev_c (ev_var rfl) (le_i (h i rfl).1) (len_l (ev_var rfl)) (lt_i (by rw [List.length_map]; exact (h i rfl).2))))
def IsState (f : Dz.Sem) : Prop := ∀ q, Ok q → Says f [stD q]
theorem Ok.skl {q : Q} (ok : Ok q) {n : Nat} {s : List Int} {r : Int} (h : q.struck[n]? = some s) (hr : q.rounds[n]? = some r) : s.length ≤ 5 := by
  obtain ⟨h1, h2⟩ := ok.k2 n s h
  have h3 := h2 r hr
  have h4 := (ok.r2 n r hr).2
  have : ∀ (l : List Int) (a : Int), l.Pairwise (· < ·) → (∀ x ∈ l, a ≤ x ∧ x < r) → a ≤ r → (l.length : Int) ≤ r - a := by
    intro l
    induction l with
    | nil => intro a _ _ h; simp; omega
    | cons x l ih =>
      intro a hp hx ha
      rw [List.pairwise_cons] at hp
      have q1 := hx x List.mem_cons_self
      have := ih (x + 1) hp.2 (fun y hy => ⟨hp.1 y hy, (hx y (List.mem_cons_of_mem _ hy)).2⟩) (by omega)
      simp only [List.length_cons]
      omega
  have := this s 0 h1 h3 (by have := (ok.r2 n r hr).1; omega)
  omega
theorem state_sem {G : Nat → Dz.Sem} {r j o k : Nat} (hr : ∀ rs : List Int, (1 ≤ rs.length ∧ rs.length ≤ 5) → (∀ r ∈ rs, 1 ≤ r ∧ r ≤ 5) → Says (G r) [intsD rs]) (hj : ∀ (j' : Option Int) (rs : List Int), (∀ i, j' = some i → 0 ≤ i ∧ i < rs.length) → Says (G j) [jkD j', intsD rs])
    (ho : ∀ (row : List (Option (List Bool × Bool))) (rs : List Int), row.length = rs.length → rs.length ≤ 5 → (∀ r ∈ rs, r ≤ 5) → (∀ (n : Nat) (ts : List Bool) (late : Bool), row[n]? = some (some (ts, late)) → rs[n]? = some (ts.length : Int)) → Says (G o) [rowD row, intsD rs])
    (hk : ∀ (sk : List Int) (r : Int), r ≤ 5 → sk.Pairwise (· < ·) → (∀ x ∈ sk, 0 ≤ x ∧ x < r) → sk.length ≤ 100 → Says (G k) [intsD sk, .int r]) : IsState (semS G ⟨0, false⟩ 0 1 8 (sState r j o k)) := fun q ok => by
  refine sem_rt (q := ⟨0, false⟩) (ρ := [.fz (stD q), .fz (intsD q.rounds), .fz (.list (q.jokers.map jkD)), .fz (.list (q.sheets.map rowD)), .fz (.list (q.struck.map intsD)), .no, .no, .no, .no]) rfl rfl ?_
  show evS G _ (sState r j o k) [.fz (stD q), .no, .no, .no, .no, .no, .no, .no, .no] = _
  unfold sState
  have hr5 : ∀ r ∈ q.rounds, 1 ≤ r ∧ r ≤ 5 := fun r hr => by
    obtain ⟨n, hn⟩ := List.mem_iff_getElem?.mp hr
    exact ok.r2 n r hn
  rw [seq_nx ((ifs_f (or_ff (not_t ?_) (or_ff ?_ (not_t (ev_call (ev_1 (d := intsD q.rounds) (ev_ix (ev_var rfl) ev_c rfl)) (okF_of (hr _ ok.r1 hr5))))))).trans skip_nx)]
  · rw [seq_nx (ρ' := [.fz (stD q), .fz (intsD q.rounds), .fz (.list (q.jokers.map jkD)), .fz (.list (q.sheets.map rowD)), .fz (.list (q.struck.map intsD)), .no, .no, .no, .no]) rfl]
    rw [seq_nx ((ifs_f (or_ff (not_t (isl_t (ev_var rfl))) (not_t (ch_t ev_c (len_l (ev_var rfl)) (le_i (by have := ok.j1; simp; omega)) ev_c (le_i (by have := ok.j1; simp; omega)))))).trans skip_nx)]
    rw [seq_nx ((ifs_f (not_t (ev_all (items := q.jokers) jkD ?_ (by have := ok.j1; omega) fun j' hj' => ⟨_, rfl, ?_⟩))).trans skip_nx)]
    · rw [seq_nx ((ifs_f (or_ff (not_t (isl_t (ev_var rfl))) (or_ff (ev_cmp (len_l (ev_var rfl)) (len_l (ev_var rfl)) (ne_i (by simp [ok.s1]))) (not_t (ev_all (items := q.sheets) rowD ?_ (by have := ok.j1; have := ok.s1; omega) fun row hrow => ⟨_, rfl, ?_⟩))))).trans skip_nx)]
      · rw [seq_nx ((ifs_f (or_ff (not_t (isl_t (ev_var rfl))) (ev_cmp (len_l (ev_var rfl)) (len_l (ev_var rfl)) (ne_i (by simp [ok.k1]))))).trans skip_nx)]
        refine seq_rt (ret_rt rfl (ev_all (items := q.struck.zip q.rounds) (fun p => pairD (intsD p.1) (.int p.2)) ?_ (by have := ok.r1; rw [List.length_zip]; omega) fun p hp => ⟨[.fz (stD q), .fz (intsD q.rounds), .fz (.list (q.jokers.map jkD)), .fz (.list (q.sheets.map rowD)), .fz (.list (q.struck.map intsD)), .no, .no, .fz (intsD p.1), .fz (.int p.2)], rfl, ?_⟩))
        · rw [ev_2 (ev_var rfl) (ev_var rfl)]
          exact (un_zip (a := q.struck.map intsD) (b := q.rounds.map PyData.int)).trans (by rw [zip_map])
        · obtain ⟨n, q1, q2⟩ := zip_mem hp
          obtain ⟨k1, k2⟩ := ok.k2 n _ q1
          exact ev_call (ev_2 (ev_var rfl) (ev_var rfl)) (okF_of (hk _ _ (ok.r2 n _ q2).2 k1 (k2 _ q2) (by have := ok.skl q1 q2; omega)))
      · rw [ev_1 (ev_var rfl)]; exact un_seq
      · obtain ⟨n, hn⟩ := List.mem_iff_getElem?.mp hrow
        exact ev_call (ev_2 (ev_var rfl) (ev_var rfl)) (okF_of (ho _ _ (ok.s2 n _ hn) ok.r1.2 (fun r hr => (hr5 r hr).2) fun m ts late hm => ok.s3 n _ m ts late hn hm))
    · rw [ev_1 (ev_var rfl)]; exact un_seq
    · obtain ⟨n, hn⟩ := List.mem_iff_getElem?.mp hj'
      exact ev_call (ev_2 (ev_var rfl) (ev_var rfl)) (okF_of (hj _ _ fun i hi => ok.j2 n i (by rw [hn, hi])))
  · rw [ev_bi (ev_1 (ev_var rfl))]; rfl
  · refine ev_cmp (x := .int 4) (y := .int 4) ?_ ev_c (ne_i rfl)
    rw [ev_bi (ev_1 (ev_var rfl))]; rfl
theorem askS_sem {G : Nat → Dz.Sem} {s : Nat} (h : IsState (G s)) {q : Q} (ok : Ok q) : semS G ⟨0, false⟩ 0 1 0 (sAskS s) [stD q] = some (.ok .none, .none) := by
  refine sem_nx (q := ⟨0, false⟩) (ρ := [.fz (stD q)]) rfl rfl ?_
  show evS G _ (sAskS s) [.fz (stD q)] = _
  unfold sAskS
  rw [seq_nx ((ifs_f (not_t (ev_call (ev_1 (ev_var rfl)) (okF_of (h q ok))))).trans skip_nx)]
  rfl
theorem askT_sem {G : Nat → Dz.Sem} {w : Nat} (hw : ∀ i, Says (G w) [.int i]) {q : Q} {t : Nat} (ht : t < q.jokers.length) : semS G ⟨0, false⟩ 0 2 0 (sAskT w) [stD q, .int t] = some (.ok .none, .none) := by
  refine sem_nx (q := ⟨0, false⟩) (ρ := [.fz (stD q), .fz (.int t)]) rfl rfl ?_
  show evS G _ (sAskT w) [.fz (stD q), .fz (.int t)] = _
  unfold sAskT
  rw [seq_nx ((ifs_f (or_ff (not_t (ev_call (ev_1 (ev_var rfl)) (okF_of (hw _)))) (not_t (ch_t ev_c (ev_var rfl) (le_i (by omega)) (len_l (ds := q.jokers.map jkD) (ev_ix (ev_var rfl) ev_c rfl)) (lt_i (by rw [List.length_map]; omega)))))).trans skip_nx)]
  rfl
end Mz

set_option Elab.async false
set_option linter.all false
set_option maxRecDepth 100000
set_option maxHeartbeats 4000000
namespace Mz
open PySem L2 Dz
def sStanding (s a : Nat) : S := ((S.exprX false s 0 ((L.var 0).acons L.anil)).seq ((S.ret (L.call false a 1 ((L.var 0).acons L.anil))).seq S.skip))
def sTotal (s t l : Nat) : S := ((S.exprX false s 0 ((L.var 0).acons L.anil)).seq ((S.exprX false t 0 ((L.var 0).acons ((L.var 1).acons L.anil))).seq ((S.ret ((L.call false l 2 ((L.var 0).acons ((L.var 1).acons L.anil))).ix (L.c (PyData.int (0))))).seq S.skip)))
def sMark : S := ((S.set 3 0 (L.bi Bi.sum ((L.comp Src.enum (((L.var 2).ix (L.c (PyData.int (0)))).acons L.anil) (Tg.many [4, 5]) [4, 5] ((L.var 5).and (L.cmp COp.notin (L.var 4) (((L.var 0).ix (L.c (PyData.int (3)))).ix (L.var 1)))) (L.c (PyData.int (1)))).acons L.anil))).seq ((S.ret (L.bi Bi.max2 ((L.c (PyData.int (0))).acons ((L.bin BOp.sub (L.var 3) (L.bi Bi.int1 (((L.var 2).ix (L.c (PyData.int (1)))).acons L.anil))).acons L.anil)))).seq S.skip))
def sScores (m : Nat) : S := ((S.set 4 1 L.anil.lst).seq ((S.for_ Src.enum ((((L.var 0).ix (L.c (PyData.int (2)))).ix (L.var 1)).acons L.anil) (Tg.many [5, 6]) ((S.set 7 0 ((L.cmp COp.is (L.var 6) (L.c PyData.none)).ite ((L.var 3).ix (L.var 5)) (L.call false m 0 ((L.var 0).acons ((L.var 5).acons ((L.var 6).acons L.anil)))))).seq ((S.mut Mut.append 4 [] 0 (((L.cmp COp.eq (L.var 2) (L.var 5)).ite (L.bin BOp.add (L.var 7) (L.var 7)) (L.var 7)).acons L.anil)).seq S.skip))).seq ((S.retO 4).seq S.skip)))
def sHas (c : Nat) : S := ((S.ret (L.call false c 1 ((L.var 0).acons ((L.var 1).acons ((((L.var 0).ix (L.c (PyData.int (1)))).ix (L.var 1)).acons ((L.bin BOp.mul ((L.c (PyData.int (0))).acons L.anil).lst (L.bi Bi.len (((L.var 0).ix (L.c (PyData.int (0)))).acons L.anil))).acons L.anil)))))).seq S.skip)
def sCopied : S := ((S.set 1 1 L.anil.lst).seq ((S.for_ Src.seq (((L.var 0).ix (L.c (PyData.int (2)))).acons L.anil) (Tg.one 2) ((S.mut Mut.append 1 [] 0 ((L.comp Src.seq ((L.var 2).acons L.anil) (Tg.one 3) [3] (L.c (PyData.bool true)) ((L.cmp COp.is (L.var 3) (L.c PyData.none)).ite (L.c PyData.none) (((L.var 3).ix (L.c (PyData.int (0)))).list1.acons (((L.var 3).ix (L.c (PyData.int (1)))).acons L.anil)).tup)).acons L.anil)).seq S.skip)).seq ((S.retM [Itm.e ((L.var 0).ix (L.c (PyData.int (0)))).list1, Itm.e ((L.var 0).ix (L.c (PyData.int (1)))).list1, Itm.mv 1, Itm.e (L.comp Src.seq (((L.var 0).ix (L.c (PyData.int (3)))).acons L.anil) (Tg.one 4) [4] (L.c (PyData.bool true)) (L.var 4).list1)]).seq S.skip)))
def sLStand (h a : Nat) : S := ((S.setT [(1, 1), (2, 1)] ((L.bi Bi.rng1 ((L.bi Bi.len (((L.var 0).ix (L.c (PyData.int (1)))).acons L.anil)).acons L.anil)).acons (L.anil.lst.acons L.anil)).tup).seq ((S.wh (L.cmp COp.ne (L.own1 1) L.anil.lst) ((S.set 3 0 ((L.own1 1).ix (L.c (PyData.int (0))))).seq ((S.for_ Src.seq (((L.own1 1).slice (L.bin BOp.add (L.c (PyData.int (0))) (L.c (PyData.int (1)))) (L.c PyData.none)).acons L.anil) (Tg.one 4) ((S.ifs (L.call false a 0 ((L.var 4).acons ((L.call false h 1 ((L.var 0).acons ((L.var 4).acons L.anil))).acons ((L.var 3).acons ((L.call false h 1 ((L.var 0).acons ((L.var 3).acons L.anil))).acons L.anil))))) ((S.set 3 0 (L.var 4)).seq S.skip) S.skip).seq S.skip)).seq ((S.mut Mut.append 2 [] 0 ((L.var 3).acons L.anil)).seq ((S.mut Mut.remove 1 [] 0 ((L.var 3).acons L.anil)).seq S.skip))))).seq ((S.retO 2).seq S.skip)))
theorem exprX_nx {G : Nat → Dz.Sem} {q : Fs} {ρ : List Sl} {b : Bool} {f k : Nat} {a : L} {xs : List D} {d s : D} (h : evE (okF G) a ρ = some (.tuple xs)) (hf : G f xs = some (.ok d, s)) : evS G q (.exprX b f k a) ρ = some (.nx ρ) := by
  rw [evS, h]
  simp only [unT, Option.bind_some, hf]
def IsAskS (f : Dz.Sem) : Prop := ∀ q, Ok q → f [stD q] = some (.ok .none, .none)
def IsAskT (f : Dz.Sem) : Prop := ∀ (q : Q) (t : Nat), t < q.jokers.length → f [stD q, .int t] = some (.ok .none, .none)
theorem standing_sem {G : Nat → Dz.Sem} {s a : Nat} (hs : IsAskS (G s)) (ha : IsStand (G a)) : IsStand (semS G ⟨1, false⟩ 0 1 0 (sStanding s a)) := fun q ok => by
  refine sem_rt (q := ⟨1, false⟩) (ρ := [.fz (stD q)]) rfl rfl ?_
  show evS G _ (sStanding s a) [.fz (stD q)] = _
  unfold sStanding
  rw [seq_nx (exprX_nx (ev_1 (ev_var rfl)) (hs q ok))]
  exact seq_rt (ret_rt rfl (ev_call (ev_1 (ev_var rfl)) (okF_of (ha q ok))))
def IsTotal (f : Dz.Sem) : Prop := ∀ (q : Q) (t : Nat), Ok q → t < q.jokers.length → f [stD q, .int t] = some (.ok (.int (has q t).sum), .none)
theorem total_sem {G : Nat → Dz.Sem} {s t l : Nat} (hs : IsAskS (G s)) (ht : IsAskT (G t)) (hl : IsLeast (G l)) : IsTotal (semS G ⟨0, false⟩ 0 2 0 (sTotal s t l)) := fun q i ok hi => by
  refine sem_rt (q := ⟨0, false⟩) (ρ := [.fz (stD q), .fz (.int i)]) rfl rfl ?_
  show evS G _ (sTotal s t l) [.fz (stD q), .fz (.int i)] = _
  unfold sTotal
  rw [seq_nx (exprX_nx (ev_1 (ev_var rfl)) (hs q ok)), seq_nx (exprX_nx (ev_2 (ev_var rfl) (ev_var rfl)) (ht q i hi))]
  exact seq_rt (ret_rt rfl (ev_ix (ev_call (ev_2 (ev_var rfl) (ev_var rfl)) (okF_of (hl q i ok hi))) ev_c rfl))
/-! ### the law's own mark -/
theorem en_map {α : Type} (l : List α) (d : α) : en l = (List.range l.length).map fun i => (i, l.getD i d) := by
  refine List.ext_getElem (by simp [en]) fun n h1 h2 => ?_
  have h : n < l.length := by simpa [en] using h1
  simp [en, List.getD, List.getElem?_eq_getElem h]
theorem cnt_en (sk : List Int) (ts : List Bool) : ((en ts).filter fun p => p.2 && !sk.contains (p.1 : Int)).length = cnt sk ts := by
  rw [en_map ts false, List.filter_map, List.length_map]
  rfl
theorem sum_ones {α : Type} : ∀ l : List α, (l.map fun _ => (1 : Int)).sum = l.length
  | [] => rfl
  | x :: l => by rw [List.map_cons, List.sum_cons, sum_ones l, List.length_cons]; omega
def IsMark (f : Dz.Sem) : Prop := ∀ (q : Q) (n : Nat) (sk : List Int) (ts : List Bool) (late : Bool), q.struck[n]? = some sk → ts.length ≤ 5 → f [stD q, .int n, shD (some (ts, late))] = some (.ok (.int (mark sk ts late)), .none)
theorem mark_sem (G : Nat → Dz.Sem) : IsMark (semS G ⟨0, false⟩ 0 3 3 sMark) := fun q n sk ts late h2 h5 => by
  refine sem_rt (q := ⟨0, false⟩) (ρ := [.fz (stD q), .fz (.int n), .fz (shD (some (ts, late))), .fz (.int (cnt sk ts)), .no, .no]) rfl rfl ?_
  show evS G _ sMark [.fz (stD q), .fz (.int n), .fz (shD (some (ts, late))), .no, .no, .no] = _
  unfold sMark
  rw [seq_nx (set_nx (d := .int (cnt sk ts)) ?_)]
  · refine seq_rt (ret_rt rfl ?_)
    have e1 : evE (okF G) (L.bi Bi.int1 (((L.var 2).ix (L.c (PyData.int (1)))).acons L.anil)) [.fz (stD q), .fz (.int n), .fz (shD (some (ts, late))), .fz (.int (cnt sk ts)), .no, .no] = some (.int (if late then 1 else 0)) := by
      rw [ev_bi (ev_1 (d := .bool late) (ev_ix (ev_var rfl) ev_c rfl))]
      rfl
    show evE (okF G) _ [.fz (stD q), .fz (.int n), .fz (shD (some (ts, late))), .fz (.int (cnt sk ts)), .no, .no] = _
    refine (ev_bi (ev_2 (d := .int 0) (e := .int ((cnt sk ts : Int) - (if late then 1 else 0))) ev_c (ev_bin (x := .int (cnt sk ts)) (ev_var rfl) e1 rfl))).trans ?_
    simp only [biF, mark]
    cases late
    · simp
      omega
    · simp
  · rw [ev_bi (ev_1 (evE_comp (items := en ts) (fun p => pairD (.int (p.1 : Int)) (.bool p.2)) (fun p => p.2 && !sk.contains (p.1 : Int)) (fun _ => .int 1) ?_ (by rw [en_len]; omega) fun p hp => ⟨[.fz (stD q), .fz (.int n), .fz (shD (some (ts, late))), .no, .fz (.int (p.1 : Int)), .fz (.bool p.2)], rfl, ?_, fun _ => ev_c⟩)), biF]
    · have : ((en ts).filter fun p => p.2 && !sk.contains (p.1 : Int)).map (fun _ => PyData.int 1) = (((en ts).filter fun p => p.2 && !sk.contains (p.1 : Int)).map (fun _ => (1 : Int))).map PyData.int := by rw [List.map_map]; rfl
      rw [this, intsOf_map, Option.map_some, sum_ones, cnt_en]
    · rw [ev_1 (d := .list (ts.map PyData.bool)) (ev_ix (ev_var rfl) ev_c rfl)]
      exact src_enum ts PyData.bool
    · refine ev_and (ev_var rfl) fun _ => ev_cmp (x := .int (p.1 : Int)) (y := intsD sk) (ev_var rfl) (ev_ix (x := .list (q.struck.map intsD)) (ev_ix (ev_var rfl) ev_c rfl) (ev_var rfl) ?_) ?_
      · simp only [ixF, atI_nat, List.getElem?_map, h2, Option.map_some]
      · simp only [opC, intsD, sh_int, sh_ints, Bool.and_self, if_true, inD_ints]
/-! ### the law's own scores -/
def mkB (q : Q) (bl : List Int) (n : Nat) : Option (List Bool × Bool) → Int
  | none => bl.getD n 0
  | some (ts, late) => mark ((q.struck[n]?).getD []) ts late
def scoresB (q : Q) (t : Nat) (j : Option Int) (bl : List Int) : List Int := (en (row q t)).map fun p => dbl j p.1 (mkB q bl p.1 p.2)
def IsScores (f : Dz.Sem) : Prop := ∀ (q : Q) (t : Nat) (j : Option Int) (bl : List Int), Ok q → t < q.jokers.length → bl.length = q.rounds.length → f [stD q, .int t, jkD j, intsD bl] = some (.ok (intsD (scoresB q t j bl)), .none)
theorem scores_sem {G : Nat → Dz.Sem} {m : Nat} (hm : IsMark (G m)) : IsScores (semS G ⟨1, false⟩ 0 4 4 (sScores m)) := fun q t j bl ok ht hbl => by
  have hs : q.sheets[t]? = some (row q t) := by
    unfold row
    rw [List.getElem?_eq_getElem (by rw [ok.s1]; exact ht)]
    rfl
  have hlen : (row q t).length ≤ 5 := by rw [ok.s2 t _ hs]; exact ok.r1.2
  have loop : ∃ ρ', evS G ⟨1, false⟩ (S.for_ Src.enum ((((L.var 0).ix (L.c (PyData.int (2)))).ix (L.var 1)).acons L.anil) (Tg.many [5, 6]) ((S.set 7 0 ((L.cmp COp.is (L.var 6) (L.c PyData.none)).ite ((L.var 3).ix (L.var 5)) (L.call false m 0 ((L.var 0).acons ((L.var 5).acons ((L.var 6).acons L.anil)))))).seq ((S.mut Mut.append 4 [] 0 (((L.cmp COp.eq (L.var 2) (L.var 5)).ite (L.bin BOp.add (L.var 7) (L.var 7)) (L.var 7)).acons L.anil)).seq S.skip))) [.fz (stD q), .fz (.int t), .fz (jkD j), .fz (intsD bl), .own 1 (.list []), .no, .no, .no] = some (.nx ρ') ∧
      ∃ a b d, ρ' = [.fz (stD q), .fz (.int t), .fz (jkD j), .fz (intsD bl), .own 1 (intsD ((en (row q t)).map fun p => dbl j p.1 (mkB q bl p.1 p.2))), a, b, d] := by
    refine for_inv (items := en (row q t)) (fun (p : Nat × Option (List Bool × Bool)) => pairD (.int (p.1 : Int)) (shD p.2)) (fun pre ρ => ∃ a b d, ρ = [.fz (stD q), .fz (.int t), .fz (jkD j), .fz (intsD bl), .own 1 (intsD (pre.map fun p => dbl j p.1 (mkB q bl p.1 p.2))), a, b, d]) ⟨.no, .no, .no, rfl⟩ ?_ fun pre p post ρ hall ⟨a, b, d, e⟩ => ?_
    · rw [ev_1 (d := rowD (row q t))]
      · exact src_enum _ _
      · simp only [semS, slots0, evS, evE, ioOf, unT, unB, ixF, biF, srcF, list1F, partO, bindT, setAll, setG, wipeD, opB, List.replicate, List.length_cons, List.length_nil, List.map_cons, List.map_nil, List.append_nil, List.cons_append, List.nil_append, List.set_cons_succ, List.set_cons_zero, List.getElem?_cons_succ, List.getElem?_cons_zero, Option.bind_some, Option.bind_none, Option.map_some, Option.map_none, Bool.false_eq_true, if_true, if_false, reduceIte, Nat.reduceAdd, Nat.reduceEqDiff, atI_0, atI_1, atI_2, atI_3, Bool.and_true, Bool.true_and, Bool.and_self, Bool.not_true, Bool.not_false, stD, atI_nat, List.getElem?_map, hs]
    · subst e
      obtain ⟨n, sh⟩ := p
      have hp : (n, sh) ∈ en (row q t) := by rw [hall]; simp
      have hpl : pre.length ≤ 5 := by
        have h1 := en_len (row q t)
        rw [hall, List.length_append] at h1
        omega
      have hn := en_mem hp
      have hnl : n < q.rounds.length := by rw [← ok.s2 t _ hs]; exact (List.getElem?_eq_some_iff.mp hn).1
      refine ⟨_, [.fz (stD q), .fz (.int t), .fz (jkD j), .fz (intsD bl), .own 1 (.list ((pre.map fun p => dbl j p.1 (mkB q bl p.1 p.2)).map PyData.int ++ [.int (dbl j n (mkB q bl n sh))])), .fz (.int n), .fz (shD sh), .fz (.int (mkB q bl n sh))], rfl, ?_, ?_⟩
      · rw [seq_nx (set_nx (d := .int (mkB q bl n sh)) ?_), seq_nx (app_nx (ds := (pre.map fun p => dbl j p.1 (mkB q bl p.1 p.2)).map PyData.int) (d := .int (dbl j n (mkB q bl n sh))) rfl ?_ (by simp; omega))]
        · rfl
        · refine ev_ite (x := decide (j = some (n : Int))) (ev_cmp (x := jkD j) (y := .int n) (ev_var rfl) (ev_var rfl) ?_) (fun z => ?_) (fun z => ?_)
          · simp only [opC, sh_jk, sh_int, Bool.and_self, if_true, eqv_jk]
          · have z := of_decide_eq_true z
            rw [ev_bin (ev_var rfl) (ev_var rfl) rfl]
            simp only [dbl, if_pos z, Option.some.injEq, PyData.int.injEq]
            omega
          · have z := of_decide_eq_false z
            rw [ev_var rfl]
            simp only [dbl, if_neg z]
        · refine ev_ite (x := sh.isNone) (ev_cmp (ev_var rfl) ev_c ?_) (fun z => ?_) (fun z => ?_)
          · have : opC .is (shD sh) .none = some (isNone (shD sh)) := by cases shD sh <;> rfl
            rw [this, isNone_sh]
          · cases sh with
            | none =>
              refine ev_ix (ev_var rfl) (ev_var rfl) ?_
              have hb : n < bl.length := by omega
              simp only [ixF, intsD, atI_nat, List.getElem?_map, List.getElem?_eq_getElem hb, Option.map_some, mkB, List.getD, Option.getD_some]
            | some p => cases z
          · cases sh with
            | none => cases z
            | some p =>
              obtain ⟨ts, late⟩ := p
              have hr := ok.s3 t _ n ts late hs hn
              have hk : q.struck[n]? = some ((q.struck[n]?).getD []) := by
                rw [List.getElem?_eq_getElem (by rw [ok.k1]; exact hnl)]
                rfl
              exact ev_call (ev_3 (ev_var rfl) (ev_var rfl) (ev_var rfl)) (okF_of (hm q n _ ts late hk (by have := (ok.r2 n _ hr).2; omega)))
      · exact ⟨.fz (.int n), .fz (shD sh), .fz (.int (mkB q bl n sh)), by simp [intsD]⟩
  obtain ⟨ρ', l1, a, b, d, rfl⟩ := loop
  refine sem_rt (q := ⟨1, false⟩) (ρ := [.fz (stD q), .fz (.int t), .fz (jkD j), .fz (intsD bl), .own 1 (intsD (scoresB q t j bl)), a, b, d]) rfl rfl ?_
  show evS G _ (sScores m) [.fz (stD q), .fz (.int t), .fz (jkD j), .fz (intsD bl), .no, .no, .no, .no] = _
  unfold sScores
  rw [seq_nx (set_nx (d := .list []) rfl)]
  show evS G _ _ [.fz (stD q), .fz (.int t), .fz (jkD j), .fz (intsD bl), .own 1 (.list []), .no, .no, .no] = _
  rw [seq_nx l1]
  exact seq_rt rfl
theorem flat_rep (n : Nat) : (List.replicate n [PyData.int 0]).flatten = (List.replicate n (0 : Int)).map PyData.int := by
  induction n with
  | zero => rfl
  | succ n ih => rw [List.replicate_succ, List.replicate_succ, List.flatten_cons, ih]; rfl
def IsHas (f : Dz.Sem) : Prop := ∀ (q : Q) (t : Nat), Ok q → t < q.jokers.length → f [stD q, .int t] = some (.ok (intsD (has q t)), .none)
theorem has_sem {G : Nat → Dz.Sem} {c : Nat} (hc : IsScores (G c)) : IsHas (semS G ⟨1, false⟩ 0 2 0 (sHas c)) := fun q t ok ht => by
  refine sem_rt (q := ⟨1, false⟩) (ρ := [.fz (stD q), .fz (.int t)]) rfl rfl ?_
  show evS G _ (sHas c) [.fz (stD q), .fz (.int t)] = _
  unfold sHas
  have hj : q.jokers[t]? = some (joker q t) := by
    unfold joker
    rw [List.getElem?_eq_getElem ht]
    rfl
  have e0 : has q t = scoresB q t (joker q t) (List.replicate q.rounds.length 0) := by
    unfold has scoresB
    refine List.map_congr_left fun p hp => ?_
    obtain ⟨n, sh⟩ := p
    cases sh with
    | none => simp [mk1, mkB, List.getD]; by_cases h : n < q.rounds.length <;> simp [h]
    | some s => rfl
  have hr := ok.r1
  refine seq_rt (ret_rt rfl (ev_call (xs := [stD q, .int t, jkD (joker q t), intsD (List.replicate q.rounds.length 0)]) (ev_4 (ev_var rfl) (ev_var rfl) (ev_ix (x := .list (q.jokers.map jkD)) (ev_ix (ev_var rfl) ev_c rfl) (ev_var rfl) ?_) (ev_bin (ev_lst (ev_1 ev_c) (by simp)) (len_l (ds := q.rounds.map PyData.int) (ev_ix (ev_var rfl) ev_c rfl)) ?_)) ?_))
  · simp only [ixF, atI_nat, List.getElem?_map, hj, Option.map_some]
  · rw [opB, List.length_map, l63 (by omega), Int.toNat_natCast, flat_rep, if_pos]
    · rfl
    · rw [Bool.true_and]; exact lim_le (by simp; omega)
  · rw [e0]
    exact okF_of (hc q t (joker q t) _ ok ht (by simp))
/-! ### the law's own standing -/
theorem nats_ints (l : List Nat) : natsD l = intsD (l.map fun (n : Nat) => (n : Int)) := by
  unfold natsD intsD
  rw [List.map_map]
  rfl
theorem sh_nats (l : List Nat) : SeqAt.shaped (natsD l) = true := by rw [nats_ints]; exact sh_ints _
theorem ne_nil (l : List Nat) : opC .ne (natsD l) (.list []) = some (!l.isEmpty) := by
  have h : SeqAt.shaped (.list []) = true := sh_ints []
  simp only [opC, sh_nats, h, Bool.and_self, if_true]
  cases l <;> simp [natsD, PyData.eqv, PyData.eqvAll]
theorem idx_nats {x : Nat} : ∀ {l : List Nat}, x ∈ l → ∃ j, idx? (.int (x : Int)) (l.map fun (t : Nat) => PyData.int (t : Int)) = some j ∧ (l.map fun (t : Nat) => PyData.int (t : Int)).eraseIdx j = (l.erase x).map fun (t : Nat) => PyData.int (t : Int)
  | y :: l, h => by
    by_cases e : y = x
    · subst e
      exact ⟨0, by rw [List.map_cons, idx?, eqv_int]; simp, by simp⟩
    · have hx : x ∈ l := by
        rcases List.mem_cons.mp h with h | h
        · exact absurd h.symm e
        · exact h
      obtain ⟨j, h1, h2⟩ := idx_nats hx
      refine ⟨j + 1, ?_, ?_⟩
      · have : ((y : Int) == (x : Int)) = false := beq_eq_false_iff_ne.mpr (by omega)
        rw [List.map_cons, idx?, eqv_int, this, h1]
        rfl
      · rw [List.map_cons, List.eraseIdx_cons_succ, h2, List.erase_cons_tail (by simpa using e)]
        rfl
theorem rem_nx {G : Nat → Dz.Sem} {q : Fs} {ρ : List Sl} {i : Nat} {e : L} {l : List Nat} {x : Nat} (h : ρ[i]? = some (.own 1 (natsD l))) (he : evE (okF G) e ρ = some (.int (x : Int))) (hx : x ∈ l) : evS G q (.mut .remove i [] 0 (.acons e .anil)) ρ = some (.nx (ρ.set i (.own 1 (natsD (l.erase x))))) := by
  rw [evS]
  have h1 : slotO ρ i (([] : List Pst).length + 0 + 1) = some (natsD l) := by unfold slotO; rw [h]; rfl
  obtain ⟨j, j1, j2⟩ := idx_nats hx
  have h2 : intsOf (l.map fun (t : Nat) => PyData.int (t : Int)) = some (l.map fun (n : Nat) => (n : Int)) := by
    have := nats_ints l
    unfold natsD intsD at this
    injection this with this
    rw [this, intsOf_map]
  rw [h1, Option.bind_some, evP, Option.bind_some, ev_1 he]
  simp only [unT, Option.bind_some, getP, natsD, mutF, h2, j1, Option.map_some, j2, setP, List.length_nil, Nat.zero_add]
def IsLAhead (f : Dz.Sem) : Prop := ∀ (i j : Int) (a b : List Int), a.length = b.length → f [.int i, intsD a, .int j, intsD b] = some (.ok (.bool (ah i a j b)), .none)
def sPick (h a : Nat) : S := ((S.ifs (L.call false a 0 ((L.var 4).acons ((L.call false h 1 ((L.var 0).acons ((L.var 4).acons L.anil))).acons ((L.var 3).acons ((L.call false h 1 ((L.var 0).acons ((L.var 3).acons L.anil))).acons L.anil))))) ((S.set 3 0 (L.var 4)).seq S.skip) S.skip).seq S.skip)
theorem has_len {q : Q} (ok : Ok q) {t : Nat} (ht : t < q.jokers.length) : (has q t).length = q.rounds.length := by
  unfold has
  rw [List.length_map, en_len]
  refine ok.s2 t _ ?_
  unfold row
  rw [List.getElem?_eq_getElem (by rw [ok.s1]; exact ht)]
  rfl
theorem pick_go {G : Nat → Dz.Sem} {fs : Fs} {h a : Nat} (hh : IsHas (G h)) (ha : IsLAhead (G a)) {q : Q} (ok : Ok q) {p1 p2 : Sl} : ∀ {l : List Nat} {b : Nat} {y : Sl}, b < q.jokers.length → (∀ x ∈ l, x < q.jokers.length) →
    ∃ y', forGo (evS G fs (sPick h a)) (.one 4) (l.map fun (t : Nat) => PyData.int (t : Int)) [.fz (stD q), p1, p2, .fz (.int (b : Int)), y] = some (.nx [.fz (stD q), p1, p2, .fz (.int (best (lt q) b l : Nat)), y'])
  | [], b, y, _, _ => ⟨y, rfl⟩
  | x :: l, b, y, hb, hl => by
    have hx := hl x List.mem_cons_self
    obtain ⟨y', ih⟩ := pick_go (fs := fs) hh ha ok (p1 := p1) (p2 := p2) (l := l) (b := if lt q x b then x else b) (y := .fz (.int (x : Int))) (by split <;> assumption) fun z hz => hl z (List.mem_cons_of_mem _ hz)
    refine ⟨y', ?_⟩
    have ht : evE (okF G) (L.call false a 0 ((L.var 4).acons ((L.call false h 1 ((L.var 0).acons ((L.var 4).acons L.anil))).acons ((L.var 3).acons ((L.call false h 1 ((L.var 0).acons ((L.var 3).acons L.anil))).acons L.anil))))) [.fz (stD q), p1, p2, .fz (.int (b : Int)), .fz (.int (x : Int))] = some (.bool (lt q x b)) :=
      ev_call (ev_4 (ev_var rfl) (ev_call (ev_2 (ev_var rfl) (ev_var rfl)) (okF_of (hh q x ok hx))) (ev_var rfl) (ev_call (ev_2 (ev_var rfl) (ev_var rfl)) (okF_of (hh q b ok hb)))) (okF_of (ha _ _ _ _ (by rw [has_len ok hx, has_len ok hb])))
    have hbd : evS G fs (sPick h a) [.fz (stD q), p1, p2, .fz (.int (b : Int)), .fz (.int (x : Int))] = some (.nx [.fz (stD q), p1, p2, .fz (.int ((if lt q x b then x else b : Nat) : Int)), .fz (.int (x : Int))]) := by
      unfold sPick
      cases hc : lt q x b with
      | true =>
        rw [hc] at ht
        rw [seq_nx ((ifs_t ht).trans (seq_nx (set_nx (ev_var rfl))))]
        rfl
      | false =>
        rw [hc] at ht
        rw [seq_nx ((ifs_f ht).trans skip_nx)]
        rfl
    rw [List.map_cons, forGo]
    show (some [.fz (stD q), p1, p2, .fz (.int (b : Int)), .fz (.int (x : Int))]).bind _ = _
    rw [Option.bind_some, hbd, Option.bind_some]
    exact ih
theorem lst_go {G : Nat → Dz.Sem} {fs : Fs} {h a : Nat} (hh : IsHas (G h)) (ha : IsLAhead (G a)) {q : Q} (ok : Ok q) : ∀ (m fuel : Nat) {left found : List Nat} {x y : Sl}, left.length = m → m < fuel → Sel (lt q) q.jokers.length left found →
    ∃ x' y', whGo (evE (okF G) (L.cmp COp.ne (L.own1 1) L.anil.lst)) (evS G fs ((S.set 3 0 ((L.own1 1).ix (L.c (PyData.int (0))))).seq ((S.for_ Src.seq (((L.own1 1).slice (L.bin BOp.add (L.c (PyData.int (0))) (L.c (PyData.int (1)))) (L.c PyData.none)).acons L.anil) (Tg.one 4) (sPick h a)).seq ((S.mut Mut.append 2 [] 0 ((L.var 3).acons L.anil)).seq ((S.mut Mut.remove 1 [] 0 ((L.var 3).acons L.anil)).seq S.skip))))) fuel [.fz (stD q), .own 1 (natsD left), .own 1 (natsD found), x, y] = some (.nx [.fz (stD q), .own 1 (natsD []), .own 1 (natsD (standQ q)), x', y'])
  | _, 0, _, _, _, _, _, hf, _ => by omega
  | m, fuel + 1, [], found, x, y, hm, hf, sel => by
    refine ⟨x, y, ?_⟩
    rw [whGo, ev_cmp (x := natsD []) (y := .list []) rfl rfl (ne_nil [])]
    rw [sel.done (lt_so q)]
    rfl
  | m, fuel + 1, b :: l, found, x, y, hm, hf, sel => by
    have hlt : ∀ z ∈ b :: l, z < q.jokers.length := fun z hz => by
      have := sel.pm.mem_iff.mp (List.mem_append_right found hz)
      simpa using this
    have hfl : found.length ≤ 5 := by
      have := sel.pm.length_eq
      rw [List.length_append, List.length_range] at this
      have := ok.j1
      omega
    have hm' : best (lt q) b l ∈ b :: l := best_mem
    have hm2 : l.length + 1 = m := by simpa using hm
    obtain ⟨y1, hp⟩ := pick_go (fs := fs) hh ha ok (p1 := .own 1 (natsD (b :: l))) (p2 := .own 1 (natsD found)) (l := l) (b := b) (y := y) (hlt b List.mem_cons_self) fun z hz => hlt z (List.mem_cons_of_mem _ hz)
    obtain ⟨x', y', ih⟩ := lst_go (fs := fs) hh ha ok (m - 1) fuel (left := (b :: l).erase (best (lt q) b l)) (found := found ++ [best (lt q) b l]) (x := .fz (.int (best (lt q) b l : Nat))) (y := y1) (by rw [List.length_erase_of_mem hm']; omega) (by omega) (sel.step (lt_so q))
    refine ⟨x', y', ?_⟩
    rw [whGo, ev_cmp (x := natsD (b :: l)) (y := .list []) rfl rfl (ne_nil _)]
    simp only [unB, Option.bind_some, List.isEmpty_cons, Bool.not_false, if_true]
    rw [seq_nx (set_nx (d := .int (b : Int)) (ev_ix (x := natsD (b :: l)) rfl ev_c (by simp [ixF, natsD])))]
    have hsl : evE (okF G) ((L.own1 1).slice (L.bin BOp.add (L.c (PyData.int (0))) (L.c (PyData.int (1)))) (L.c PyData.none)) [.fz (stD q), .own 1 (natsD (b :: l)), .own 1 (natsD found), .fz (.int (b : Int)), y] = some (natsD l) := by
      rw [evE]
      have e1 : evE (okF G) (L.own1 1) [.fz (stD q), .own 1 (natsD (b :: l)), .own 1 (natsD found), .fz (.int (b : Int)), y] = some (natsD (b :: l)) := rfl
      have e2 : evE (okF G) (L.bin BOp.add (L.c (PyData.int (0))) (L.c (PyData.int (1)))) [.fz (stD q), .own 1 (natsD (b :: l)), .own 1 (natsD found), .fz (.int (b : Int)), y] = some (.int ((1 : Nat) : Int)) := rfl
      rw [e1, e2]
      simp only [Option.bind_some, ev_c, partO, natsD, sliceF, cut_lo]
      rfl
    have hfor : evS G fs (S.for_ Src.seq (((L.own1 1).slice (L.bin BOp.add (L.c (PyData.int (0))) (L.c (PyData.int (1)))) (L.c PyData.none)).acons L.anil) (Tg.one 4) (sPick h a)) [.fz (stD q), .own 1 (natsD (b :: l)), .own 1 (natsD found), .fz (.int (b : Int)), y] = some (.nx [.fz (stD q), .own 1 (natsD (b :: l)), .own 1 (natsD found), .fz (.int (best (lt q) b l : Nat)), y1]) := by
      rw [evS, ev_1 hsl]
      exact hp
    show (evS G fs _ [.fz (stD q), .own 1 (natsD (b :: l)), .own 1 (natsD found), .fz (.int (b : Int)), y]).bind _ = _
    rw [seq_nx hfor, seq_nx (app_nx (ds := found.map fun (t : Nat) => PyData.int (t : Int)) (d := .int (best (lt q) b l : Nat)) rfl (ev_var rfl) (by simp; omega))]
    rw [seq_nx (rem_nx (l := b :: l) (x := best (lt q) b l) rfl (ev_var rfl) hm')]
    have e9 : natsD (found ++ [best (lt q) b l]) = .list ((found.map fun (t : Nat) => PyData.int (t : Int)) ++ [.int (best (lt q) b l : Nat)]) := by simp [natsD]
    rw [e9] at ih
    exact ih
theorem lstand_sem {G : Nat → Dz.Sem} {h a : Nat} (hh : IsHas (G h)) (ha : IsLAhead (G a)) : IsStand (semS G ⟨1, false⟩ 0 1 4 (sLStand h a)) := fun q ok => by
  have hj := ok.j1
  obtain ⟨x', y', hw⟩ := lst_go (fs := ⟨1, false⟩) hh ha ok q.jokers.length 1000 (left := List.range q.jokers.length) (found := []) (x := .no) (y := .no) (by simp) (by omega) ⟨.refl _, .nil, fun _ h => nomatch h⟩
  refine sem_rt (q := ⟨1, false⟩) (ρ := [.fz (stD q), .own 1 (natsD []), .own 1 (natsD (standQ q)), x', y']) rfl rfl ?_
  show evS G _ (sLStand h a) [.fz (stD q), .no, .no, .no, .no] = _
  unfold sLStand
  have e1 : evE (okF G) ((L.bi Bi.rng1 ((L.bi Bi.len (((L.var 0).ix (L.c (PyData.int (1)))).acons L.anil)).acons L.anil)).acons (L.anil.lst.acons L.anil)).tup [.fz (stD q), .no, .no, .no, .no] = some (.tuple [natsD (List.range q.jokers.length), .list []]) := by
    refine ev_tup (ev_2 ?_ rfl) (by simp)
    rw [ev_bi (ev_1 (len_l (ds := q.jokers.map jkD) (ev_ix (ev_var rfl) ev_c rfl))), biF, List.length_map, l63 (by omega), Int.toNat_natCast, lim_le (by omega), rangeD_eq]
    rfl
  rw [seq_nx (ρ' := [.fz (stD q), .own 1 (natsD (List.range q.jokers.length)), .own 1 (natsD []), .no, .no]) (by rw [evS, e1]; rfl), seq_nx (by rw [evS]; exact hw)]
  exact seq_rt rfl
/-! ### the law's own copy -/
def IsCopy (f : Dz.Sem) : Prop := ∀ q, Ok q → f [stD q] = some (.ok (stD q), .none)
theorem copied_sem (G : Nat → Dz.Sem) : IsCopy (semS G ⟨2, false⟩ 0 1 4 sCopied) := fun q ok => by
  have hr := ok.r1
  have hj := ok.j1
  have loop : ∃ ρ', evS G ⟨2, false⟩ (S.for_ Src.seq (((L.var 0).ix (L.c (PyData.int (2)))).acons L.anil) (Tg.one 2) ((S.mut Mut.append 1 [] 0 ((L.comp Src.seq ((L.var 2).acons L.anil) (Tg.one 3) [3] (L.c (PyData.bool true)) ((L.cmp COp.is (L.var 3) (L.c PyData.none)).ite (L.c PyData.none) (((L.var 3).ix (L.c (PyData.int (0)))).list1.acons (((L.var 3).ix (L.c (PyData.int (1)))).acons L.anil)).tup)).acons L.anil)).seq S.skip)) [.fz (stD q), .own 1 (.list []), .no, .no, .no] = some (.nx ρ') ∧
      ∃ a, ρ' = [.fz (stD q), .own 1 (.list (q.sheets.map rowD)), a, .no, .no] := by
    refine for_inv (items := q.sheets) rowD (fun pre ρ => ∃ a, ρ = [.fz (stD q), .own 1 (.list (pre.map rowD)), a, .no, .no]) ⟨.no, rfl⟩ ?_ fun pre p post ρ hall ⟨a, e⟩ => ?_
    · rw [ev_1 (d := .list (q.sheets.map rowD)) (ev_ix (ev_var rfl) ev_c rfl)]
      rfl
    · subst e
      have hpl : pre.length ≤ 5 := by
        have h1 := ok.s1
        rw [hall, List.length_append] at h1
        omega
      obtain ⟨n, hn⟩ := List.mem_iff_getElem?.mp (show p ∈ q.sheets by rw [hall]; simp)
      have hp := ok.s2 n p hn
      refine ⟨_, [.fz (stD q), .own 1 (.list (pre.map rowD ++ [rowD p])), .fz (rowD p), .no, .no], rfl, ?_, ⟨_, by rw [List.map_append]; rfl⟩⟩
      rw [seq_nx (app_nx (ds := pre.map rowD) (d := rowD p) rfl ?_ (by simp; omega))]
      · rfl
      · refine evE_comp' (items := p) shD shD ?_ (by omega) fun s hs => ⟨_, rfl, ?_⟩
        · rw [ev_1 (ev_var rfl)]; rfl
        · cases s with
          | none => rfl
          | some s => obtain ⟨ts, late⟩ := s; rfl
  obtain ⟨ρ', l1, a, rfl⟩ := loop
  refine sem_rt (q := ⟨2, false⟩) (ρ := [.fz (stD q), .own 1 (.list (q.sheets.map rowD)), a, .no, .no]) rfl rfl ?_
  show evS G _ sCopied [.fz (stD q), .no, .no, .no, .no] = _
  unfold sCopied
  rw [seq_nx (set_nx (d := .list []) rfl)]
  show evS G _ _ [.fz (stD q), .own 1 (.list []), .no, .no, .no] = _
  rw [seq_nx l1]
  have e3 : evE (okF G) (L.comp Src.seq (((L.var 0).ix (L.c (PyData.int (3)))).acons L.anil) (Tg.one 4) [4] (L.c (PyData.bool true)) (L.var 4).list1) [.fz (stD q), .no, a, .no, .no] = some (.list (q.struck.map intsD)) := by
    refine evE_comp' (items := q.struck) intsD intsD ?_ (by have := ok.k1; omega) fun s hs => ⟨_, rfl, ?_⟩
    · rw [ev_1 (d := .list (q.struck.map intsD)) (ev_ix (ev_var rfl) ev_c rfl)]; rfl
    · rfl
  refine seq_rt ?_
  have e1 : evE (okF G) ((L.var 0).ix (L.c (PyData.int (0)))).list1 [.fz (stD q), .own 1 (.list (q.sheets.map rowD)), a, .no, .no] = some (intsD q.rounds) := rfl
  have e2 : evE (okF G) ((L.var 0).ix (L.c (PyData.int (1)))).list1 [.fz (stD q), .own 1 (.list (q.sheets.map rowD)), a, .no, .no] = some (.list (q.jokers.map jkD)) := rfl
  have e4 : evI (okF G) [Itm.e ((L.var 0).ix (L.c (PyData.int (0)))).list1, Itm.e ((L.var 0).ix (L.c (PyData.int (1)))).list1, Itm.mv 1, Itm.e (L.comp Src.seq (((L.var 0).ix (L.c (PyData.int (3)))).acons L.anil) (Tg.one 4) [4] (L.c (PyData.bool true)) (L.var 4).list1)] [.fz (stD q), .own 1 (.list (q.sheets.map rowD)), a, .no, .no] = some [intsD q.rounds, .list (q.jokers.map jkD), .list (q.sheets.map rowD), .list (q.struck.map intsD)] := by
    rw [evI, e1, Option.bind_some, evI, e2, Option.bind_some, evI]
    show Option.map _ (Option.map _ (Option.map _ (evI (okF G) _ [.fz (stD q), .no, a, .no, .no]))) = _
    rw [evI, e3]
    rfl
  rw [evS, e4]
  rfl
end Mz

set_option Elab.async false
set_option linter.all false
set_option maxRecDepth 100000
set_option maxHeartbeats 4000000
namespace Mz
open PySem L2 Dz
def sNumT : S := ((S.ifs (L.cmp COp.ge (L.var 0) (L.bin BOp.pow (L.c (PyData.int (10))) (L.c (PyData.int (18))))) ((S.ret (L.bin BOp.fdiv (L.var 0) (L.bin BOp.add (L.c (PyData.int (1))) (L.bin BOp.mod (L.var 1) (L.c (PyData.int (7))))))).seq S.skip) S.skip).seq ((S.set 3 0 (L.bin BOp.mod (L.bin BOp.add (L.bin BOp.mul (L.bin BOp.add (L.var 0) (L.bin BOp.mul (L.c (PyData.int (977))) (L.var 1))) (L.c (PyData.int (48271)))) (L.var 2)) (L.c (PyData.int (2147483647))))).seq ((S.set 4 0 (L.bin BOp.mul (L.var 3) (L.bin BOp.add (L.bin BOp.add (L.var 0) (L.bin BOp.mul (L.c (PyData.int (31))) (L.var 1))) (L.c (PyData.int (7)))))).seq ((S.ret (L.bin BOp.fdiv (L.bin BOp.mul (L.bin BOp.mul (L.var 4) (L.bin BOp.add (L.bin BOp.add (L.var 3) (L.var 0)) (L.c (PyData.int (5))))) (L.bin BOp.add (L.bin BOp.mul (L.var 3) (L.var 3)) (L.c (PyData.int (11))))) (L.bin BOp.add (L.c (PyData.int (1009))) (L.var 1)))).seq S.skip))))
def sNumber : S := ((S.ifs (L.cmp COp.ge (L.bi Bi.abs ((L.var 0).acons L.anil)) (L.bin BOp.pow (L.c (PyData.int (10))) (L.c (PyData.int (60))))) ((S.set 0 0 (L.bin BOp.mod (L.var 0) (L.bin BOp.pow (L.c (PyData.int (10))) (L.c (PyData.int (18)))))).seq S.skip) S.skip).seq sNumT)
def IsNum (f : Dz.Sem) : Prop := ∀ (a b c : Int), 0 ≤ b → b ≤ 1000 → ∃ z, f [.int a, .int b, .int c] = some (.ok (.int z), .none)
theorem pow60 {F : Nat → List D → Option D} {ρ : List Sl} : evE F (L.bin BOp.pow (L.c (PyData.int (10))) (L.c (PyData.int (60)))) ρ = some (.int (10 ^ 60)) := rfl
theorem pow18 {F : Nat → List D → Option D} {ρ : List Sl} : evE F (L.bin BOp.pow (L.c (PyData.int (10))) (L.c (PyData.int (18)))) ρ = some (.int (10 ^ 18)) := rfl
theorem mulS {x y : Int} (h : small x = true) : opB .mul (.int x) (.int y) = some (.int (x * y)) := by simp only [opB, h, Bool.true_or, if_true]
theorem mulS' {x y : Int} (h : small y = true) : opB .mul (.int x) (.int y) = some (.int (x * y)) := by simp only [opB, h, Bool.or_true, Bool.true_or, if_true]
theorem mulW {x y : Int} (h : wide x = true) (h' : wide y = true) : opB .mul (.int x) (.int y) = some (.int (x * y)) := by simp only [opB, h, h', Bool.and_self, Bool.or_true, if_true]
theorem modP {x y : Int} (h : 0 < y) : opB .mod (.int x) (.int y) = some (.int (x % y)) := by simp only [opB, h, decide_true, if_true]
theorem fdivP {x y : Int} (h : 0 < y) (h' : y < 1073741824) : opB .fdiv (.int x) (.int y) = some (.int (x / y)) := by simp only [opB, h, h', decide_true, Bool.and_self, if_true]
theorem small_of {x : Int} (h : -(2 ^ 64) < x) (h' : x < 2 ^ 64) : small x = true := by unfold small; rw [decide_eq_true h, decide_eq_true h']; rfl
theorem wide_of {x : Int} {k : Nat} (hk : k ≤ 2000) (h : x.natAbs < 2 ^ k) : wide x = true := decide_eq_true (Nat.lt_of_lt_of_le h (Nat.pow_le_pow_right (by decide) hk))
theorem abs_i {F : Nat → List D → Option D} {ρ : List Sl} {a : L} {i : Int} (h : evE F a ρ = some (.int i)) : evE F (.bi .abs (.acons a .anil)) ρ = some (.int (if i < 0 then -i else i)) := by rw [ev_bi (ev_1 h)]; rfl
theorem num_tail {G : Nat → Dz.Sem} {x b c : Int} {s3 s4 : Sl} (hx : -(10 ^ 60) < x ∧ x < 10 ^ 60) (hb : 0 ≤ b) (hb' : b ≤ 1000) : ∃ ρ z, evS G ⟨0, false⟩ sNumT [.fz (.int x), .fz (.int b), .fz (.int c), s3, s4] = some (.rt ρ (.int z)) := by
  unfold sNumT
  by_cases h : 10 ^ 18 ≤ x
  · refine ⟨_, x / (1 + b % 7), seq_rt ((ifs_t (ev_cmp (ev_var rfl) pow18 (k := true) ?_)).trans (seq_rt (ret_rt rfl (ev_bin (ev_var rfl) (ev_bin ev_c (ev_bin (ev_var rfl) ev_c (modP (by decide))) rfl) (fdivP (by omega) (by omega))))))⟩
    simp only [opC, h, decide_true]
  · have h3 : 0 ≤ ((x + 977 * b) * 48271 + c) % 2147483647 ∧ ((x + 977 * b) * 48271 + c) % 2147483647 < 2147483647 := ⟨Int.emod_nonneg _ (by decide), Int.emod_lt_of_pos _ (by decide)⟩
    rw [seq_nx ((ifs_f (ev_cmp (ev_var rfl) pow18 (k := false) ?_)).trans skip_nx)]
    · rw [seq_nx (set_nx (d := .int (((x + 977 * b) * 48271 + c) % 2147483647)) (ev_bin (ev_bin (ev_bin (ev_bin (ev_var rfl) (ev_bin ev_c (ev_var rfl) (mulS (by decide))) rfl) ev_c (mulS' (by decide))) (ev_var rfl) rfl) ev_c (modP (by decide))))]
      generalize ((x + 977 * b) * 48271 + c) % 2147483647 = y at h3
      show ∃ ρ z, evS G ⟨0, false⟩ _ [.fz (.int x), .fz (.int b), .fz (.int c), .fz (.int y), s4] = _
      have sy : small y = true := small_of (by omega) (by omega)
      rw [seq_nx (set_nx (d := .int (y * (x + 31 * b + 7))) (ev_bin (ev_var rfl) (ev_bin (ev_bin (ev_var rfl) (ev_bin ev_c (ev_var rfl) (mulS (by decide))) rfl) ev_c rfl) (mulS sy)))]
      show ∃ ρ z, evS G ⟨0, false⟩ _ [.fz (.int x), .fz (.int b), .fz (.int c), .fz (.int y), .fz (.int (y * (x + 31 * b + 7)))] = _
      have hyy : 0 ≤ y * y ∧ y * y ≤ 2147483647 * 2147483647 := ⟨Int.mul_nonneg h3.1 h3.1, Int.mul_le_mul (by omega) (by omega) h3.1 (by omega)⟩
      have w1 : wide (y * (x + 31 * b + 7)) = true := by
        refine wide_of (k := 300) (by decide) ?_
        rw [Int.natAbs_mul]
        have a1 : y.natAbs ≤ 2 ^ 31 := by omega
        have a2 : (x + 31 * b + 7).natAbs ≤ 2 ^ 201 := by omega
        exact Nat.lt_of_le_of_lt (Nat.mul_le_mul a1 a2) (by decide)
      have w2 : wide (y + x + 5) = true := by
        refine wide_of (k := 300) (by decide) ?_
        omega
      exact ⟨_, _, seq_rt (ret_rt rfl (ev_bin (ev_bin (ev_bin (ev_var rfl) (ev_bin (ev_bin (ev_var rfl) (ev_var rfl) rfl) ev_c rfl) (mulW w1 w2)) (ev_bin (ev_bin (ev_var rfl) (ev_var rfl) (mulS sy)) ev_c rfl) (mulS' (small_of (by omega) (by omega)))) (ev_bin ev_c (ev_var rfl) rfl) (fdivP (by omega) (by omega))))⟩
    · simp only [opC, h, decide_false]
theorem num_sem (G : Nat → Dz.Sem) : IsNum (semS G ⟨0, false⟩ 0 3 2 sNumber) := fun a b c hb hb' => by
  have : ∃ ρ z, evS G ⟨0, false⟩ sNumber [.fz (.int a), .fz (.int b), .fz (.int c), .no, .no] = some (.rt ρ (.int z)) := by
    unfold sNumber
    by_cases h : 10 ^ 60 ≤ (if a < 0 then -a else a)
    · rw [seq_nx ((ifs_t (ev_cmp (abs_i (ev_var rfl)) pow60 (k := true) ?_)).trans (seq_nx (set_nx (d := .int (a % 10 ^ 18)) (ev_bin (ev_var rfl) pow18 (modP (by decide))))))]
      · have h1 := Int.emod_nonneg a (show (10 ^ 18 : Int) ≠ 0 by decide)
        have h2 := Int.emod_lt_of_pos a (show (0 : Int) < 10 ^ 18 by decide)
        exact num_tail (by omega) hb hb'
      · simp only [opC, h, decide_true]
    · rw [seq_nx ((ifs_f (ev_cmp (abs_i (ev_var rfl)) pow60 (k := false) ?_)).trans skip_nx)]
      · refine num_tail ?_ hb hb'
        split at h <;> omega
      · simp only [opC, h, decide_false]
  obtain ⟨ρ, z, h⟩ := this
  exact ⟨z, sem_rt (q := ⟨0, false⟩) rfl rfl h⟩
end Mz

set_option Elab.async false
set_option linter.all false
set_option maxRecDepth 100000
set_option maxHeartbeats 4000000
namespace Mz
open PySem L2 Dz
def bR (f : Nat) : S := ((S.set 11 0 (L.bin BOp.fdiv (L.bi Bi.abs ((L.call false f 0 (((L.var 2).ix (L.bin BOp.mod (L.bin BOp.add (L.var 10) (L.var 1)) (L.bi Bi.len ((L.var 2).acons L.anil)))).acons ((L.bin BOp.add (L.var 10) (L.var 1)).acons ((L.var 3).acons L.anil)))).acons L.anil)) (L.c (PyData.int (3))))).seq ((S.mut Mut.append 6 [] 0 ((L.bin BOp.add (L.c (PyData.int (1))) (L.bin BOp.mod (L.var 11) (L.c (PyData.int (5))))).acons L.anil)).seq ((S.set 12 0 (L.comp Src.range1 (((L.own1 6).ix (L.c (PyData.int (1))).neg).acons L.anil) (Tg.one 13) [13] (L.cmp COp.eq (L.bin BOp.band (L.bin BOp.shr (L.bin BOp.fdiv (L.var 11) (L.c (PyData.int (5)))) (L.bin BOp.mul (L.c (PyData.int (2))) (L.var 13))) (L.c (PyData.int (3)))) (L.c (PyData.int (3)))) (L.var 13))).seq ((S.mut Mut.append 9 [] 0 (((L.cmp COp.eq (L.bin BOp.mod (L.bin BOp.fdiv (L.var 11) (L.c (PyData.int (5120)))) (L.c (PyData.int (3)))) (L.c (PyData.int (0)))).ite (L.var 12) L.anil.lst).acons L.anil)).seq S.skip))))
def bN (f : Nat) : S := ((S.set 17 0 (L.bin BOp.add (L.bin BOp.add (L.bin BOp.mul (L.c (PyData.int (3))) (L.var 14)) (L.var 10)) (L.var 1))).seq ((S.set 11 0 (L.bin BOp.fdiv (L.bi Bi.abs ((L.call false f 0 (((L.var 2).ix (L.bin BOp.mod (L.var 17) (L.bi Bi.len ((L.var 2).acons L.anil)))).acons ((L.bin BOp.add (L.bin BOp.add (L.bin BOp.mul (L.c (PyData.int (5))) (L.var 14)) (L.var 10)) (L.c (PyData.int (7)))).acons ((L.var 3).acons L.anil)))).acons L.anil)) (L.c (PyData.int (3))))).seq ((S.set 18 0 (L.comp Src.range1 ((L.var 16).acons L.anil) (Tg.one 13) [13] (L.c (PyData.bool true)) (L.cmp COp.eq (L.bin BOp.band (L.bin BOp.shr (L.var 11) (L.var 13)) (L.c (PyData.int (1)))) (L.c (PyData.int (1)))))).seq ((S.set 19 0 (L.cmp COp.gt (L.bin BOp.mod (L.bin BOp.fdiv (L.var 11) (L.c (PyData.int (32)))) (((L.c (PyData.int (1))).acons ((L.c (PyData.int (2))).acons ((L.c (PyData.int (4))).acons ((L.c (PyData.int (9))).acons L.anil)))).tup.ix (L.var 5))) (L.c (PyData.int (0))))).seq ((S.mut Mut.append 15 [] 0 (((L.var 19).ite ((L.var 18).acons ((L.cmp COp.eq (L.bin BOp.mod (L.bin BOp.fdiv (L.var 11) (L.c (PyData.int (1152)))) (L.c (PyData.int (3)))) (L.c (PyData.int (0)))).acons L.anil)).tup (L.c PyData.none)).acons L.anil)).seq S.skip)))))
def bT (f : Nat) : S := ((S.set 15 1 L.anil.lst).seq (((S.frz 6).seq (S.for_ Src.enum ((L.var 6).acons L.anil) (Tg.many [10, 16]) (bN f))).seq (((S.frz 15).seq (S.mut Mut.append 7 [] 0 ((L.var 15).acons L.anil))).seq ((S.set 11 0 (L.bin BOp.fdiv (L.bi Bi.abs ((L.call false f 0 (((L.var 2).ix (L.bin BOp.mod (L.bin BOp.add (L.var 14) (L.var 1)) (L.bi Bi.len ((L.var 2).acons L.anil)))).acons ((L.bin BOp.add (L.var 14) (L.c (PyData.int (31)))).acons ((L.var 3).acons L.anil)))).acons L.anil)) (L.c (PyData.int (3))))).seq ((S.mut Mut.append 8 [] 0 (((L.cmp COp.eq (L.bin BOp.mod (L.var 11) (L.c (PyData.int (2)))) (L.c (PyData.int (0)))).ite (L.bin BOp.mod (L.bin BOp.fdiv (L.var 11) (L.c (PyData.int (2)))) (L.bi Bi.len ((L.own1 6).acons L.anil))) (L.c PyData.none)).acons L.anil)).seq S.skip)))))
def sSt (f : Nat) : S := ((S.set 2 0 ((L.cmp COp.ne (L.var 0) L.anil.lst).ite ((L.var 0).slice (L.c PyData.none) (L.bin BOp.add (L.c (PyData.int (0))) (L.c (PyData.int (63))))) ((L.c (PyData.int (5))).acons L.anil).lst)).seq ((S.set 3 0 (L.bin BOp.add (L.bin BOp.mod (L.bi Bi.abs ((L.bi Bi.sum ((L.var 2).acons L.anil)).acons L.anil)) (L.bin BOp.pow (L.c (PyData.int (10))) (L.c (PyData.int (60))))) (L.bin BOp.mul (L.c (PyData.int (7))) (L.var 1)))).seq ((S.setT [(4, 0), (5, 0)] ((L.bin BOp.add (L.c (PyData.int (2))) (L.bin BOp.mod (L.var 3) (L.c (PyData.int (4))))).acons ((L.bin BOp.mod (L.bin BOp.fdiv (L.var 3) (L.c (PyData.int (4)))) (L.c (PyData.int (4)))).acons L.anil)).tup).seq ((S.setT [(6, 1), (7, 1), (8, 1), (9, 1)] (L.anil.lst.acons (L.anil.lst.acons (L.anil.lst.acons (L.anil.lst.acons L.anil)))).tup).seq ((S.for_ Src.range1 ((L.bin BOp.add (L.c (PyData.int (1))) (L.bin BOp.mod (L.bin BOp.fdiv (L.var 3) (L.c (PyData.int (16)))) (L.c (PyData.int (5))))).acons L.anil) (Tg.one 10) (bR f)).seq ((S.for_ Src.range1 ((L.var 4).acons L.anil) (Tg.one 14) (bT f)).seq (((S.frz 6).seq ((S.frz 8).seq ((S.frz 7).seq ((S.frz 9).seq (S.ret ((L.var 6).acons ((L.var 8).acons ((L.var 7).acons ((L.var 9).acons L.anil)))).tup))))).seq S.skip)))))))

theorem ev_num {G : Nat → Dz.Sem} {f : Nat} (hf : IsNum (G f)) {ρ : List Sl} {ns : List Int} {c i p : Int} {ei ep : L} (h2 : ρ[2]? = some (.fz (intsD ns))) (hn : 1 ≤ ns.length) (h3 : ρ[3]? = some (.fz (.int c))) (hi : evE (okF G) ei ρ = some (.int i)) (hp : evE (okF G) ep ρ = some (.int p)) (p0 : 0 ≤ p) (p1 : p ≤ 1000) :
    ∃ d, 0 ≤ d ∧ evE (okF G) (L.bin BOp.fdiv (L.bi Bi.abs ((L.call false f 0 (((L.var 2).ix (L.bin BOp.mod ei (L.bi Bi.len ((L.var 2).acons L.anil)))).acons (ep.acons ((L.var 3).acons L.anil)))).acons L.anil)) (L.c (PyData.int (3)))) ρ = some (.int d) := by
  have a0 := Int.emod_nonneg i (show (ns.length : Int) ≠ 0 by omega)
  have a1 := Int.emod_lt_of_pos i (show (0 : Int) < ns.length by omega)
  obtain ⟨j, hj⟩ := Int.eq_ofNat_of_zero_le a0
  have hjl : j < ns.length := by omega
  obtain ⟨z, hz⟩ := hf ns[j] p c p0 p1
  have e1 : evE (okF G) ((L.var 2).ix (L.bin BOp.mod ei (L.bi Bi.len ((L.var 2).acons L.anil)))) ρ = some (.int ns[j]) := by
    refine ev_ix (ev_var h2) (ev_bin (d := .int (j : Int)) hi (len_l (ev_var h2)) ?_) ?_
    · rw [List.length_map, modP (by omega), hj]
    · simp only [ixF, intsD, atI_nat, List.getElem?_map, List.getElem?_eq_getElem hjl, Option.map_some]
  refine ⟨(if z < 0 then -z else z) / 3, ?_, ev_bin (abs_i (ev_call (ev_3 e1 hp (ev_var h3)) (okF_of hz))) ev_c (fdivP (by decide) (by decide))⟩
  exact Int.ediv_nonneg (by split <;> omega) (by decide)
theorem band3 {x : Int} : opB .band (.int x) (.int 3) = some (.int (x % 4)) := by simp [opB]
theorem band1 {x : Int} : opB .band (.int x) (.int 1) = some (.int (x % 2)) := by simp [opB]
theorem shrP {x j : Int} (h : 0 ≤ j) : opB .shr (.int x) (.int j) = some (.int (x / 2 ^ j.toNat)) := by simp only [opB, h, decide_true, if_true]
theorem atI_last {α : Type} (l : List α) (x : α) : atI (l ++ [x]) (-1) = some x := by
  unfold atI ixN
  have h1 : ¬ (0 : Int) ≤ -1 := by decide
  have h2 : (-1 + ((l ++ [x]).length : Int)).toNat = l.length := by simp; omega
  have h3 : (0 : Int) ≤ -1 + ((l ++ [x]).length : Int) := by simp; omega
  rw [if_neg h1]
  simp
  rw [if_pos (by omega), show (-1 + ((l.length : Int) + 1)).toNat = l.length by omega]
  simp
/-- what the rounds keep -/
structure R1 (n : Nat) (rs : List Int) (sk : List (List Int)) : Prop where
  l1 : rs.length = n
  l2 : sk.length = n
  r : ∀ (i : Nat) (r : Int), rs[i]? = some r → 1 ≤ r ∧ r ≤ 5
  s : ∀ (i : Nat) (s : List Int), sk[i]? = some s → s.Pairwise (· < ·) ∧ ∀ r, rs[i]? = some r → ∀ x ∈ s, 0 ≤ x ∧ x < r
theorem R1.snoc {n : Nat} {rs : List Int} {sk : List (List Int)} (h : R1 n rs sk) {r : Int} {s : List Int} (h1 : 1 ≤ r ∧ r ≤ 5) (h2 : s.Pairwise (· < ·)) (h3 : ∀ x ∈ s, 0 ≤ x ∧ x < r) : R1 (n + 1) (rs ++ [r]) (sk ++ [s]) := by
  have e1 := h.l1
  have e2 := h.l2
  refine ⟨by simp [e1], by simp [e2], fun i r' hr' => ?_, fun i s' hs' => ?_⟩
  · by_cases hi : i < n
    · rw [List.getElem?_append_left (by omega)] at hr'
      exact h.r i r' hr'
    · rw [List.getElem?_append_right (by omega)] at hr'
      have : r' = r := by
        have hz : i - rs.length = 0 := by
          have := (List.getElem?_eq_some_iff.mp hr').1
          simp at this
          omega
        rw [hz] at hr'
        simpa using hr'.symm
      rw [this]
      exact h1
  · by_cases hi : i < n
    · rw [List.getElem?_append_left (by omega)] at hs'
      refine ⟨(h.s i s' hs').1, fun r' hr' => ?_⟩
      rw [List.getElem?_append_left (by omega)] at hr'
      exact (h.s i s' hs').2 r' hr'
    · rw [List.getElem?_append_right (by omega)] at hs'
      have hz : i - sk.length = 0 := by
        have := (List.getElem?_eq_some_iff.mp hs').1
        simp at this
        omega
      rw [hz] at hs'
      have es : s' = s := by simpa using hs'.symm
      rw [es]
      refine ⟨h2, fun r' hr' => ?_⟩
      rw [List.getElem?_append_right (by omega), show i - rs.length = 0 by omega] at hr'
      have er : r' = r := by simpa using hr'.symm
      rw [er]
      exact h3
section
variable {G : Nat → Dz.Sem} {fs : Fs} {f : Nat} (hf : IsNum (G f)) {sc : D} {ns : List Int} (hn : 1 ≤ ns.length) {sl c k m : Int} (hsl : 0 ≤ sl ∧ sl ≤ 10)
include hf hn hsl
theorem bR_step {n : Nat} (hn5 : n ≤ 10) {rs : List Int} {sk : List (List Int)} (hl : rs.length ≤ 10 ∧ sk.length ≤ 10) {x7 x8 x11 x12 x13 x14 x15 x16 x17 x18 x19 : Sl} : ∃ r s y11 y12, (1 ≤ r ∧ r ≤ 5) ∧ s.Pairwise (· < ·) ∧ (∀ x ∈ s, 0 ≤ x ∧ x < r) ∧ evS G fs (bR f) [.fz sc, .fz (.int sl), .fz (intsD ns), .fz (.int c), .fz (.int k), .fz (.int m), .own 1 (intsD rs), x7, x8, .own 1 (.list (sk.map intsD)), .fz (.int (n : Int)), x11, x12, x13, x14, x15, x16, x17, x18, x19] = some (.nx [.fz sc, .fz (.int sl), .fz (intsD ns), .fz (.int c), .fz (.int k), .fz (.int m), .own 1 (intsD (rs ++ [r])), x7, x8, .own 1 (.list ((sk ++ [s]).map intsD)), .fz (.int (n : Int)), y11, y12, x13, x14, x15, x16, x17, x18, x19]) := by
  obtain ⟨d, d0, hd⟩ := ev_num hf (ρ := [.fz sc, .fz (.int sl), .fz (intsD ns), .fz (.int c), .fz (.int k), .fz (.int m), .own 1 (intsD rs), x7, x8, .own 1 (.list (sk.map intsD)), .fz (.int (n : Int)), x11, x12, x13, x14, x15, x16, x17, x18, x19]) (ei := L.bin BOp.add (L.var 10) (L.var 1)) (ep := L.bin BOp.add (L.var 10) (L.var 1)) (i := n + sl) (p := n + sl) rfl hn rfl (ev_bin (ev_var rfl) (ev_var rfl) rfl) (ev_bin (ev_var rfl) (ev_var rfl) rfl) (by omega) (by omega)
  have r0 := Int.emod_nonneg d (show (5 : Int) ≠ 0 by decide)
  have r1 := Int.emod_lt_of_pos d (show (0 : Int) < 5 by decide)
  obtain ⟨s0, hs1, hs2, hs⟩ : ∃ s0 : List Int, s0.Pairwise (· < ·) ∧ (∀ x ∈ s0, 0 ≤ x ∧ x < 1 + d % 5) ∧ evE (okF G) (L.comp Src.range1 (((L.own1 6).ix (L.c (PyData.int (1))).neg).acons L.anil) (Tg.one 13) [13] (L.cmp COp.eq (L.bin BOp.band (L.bin BOp.shr (L.bin BOp.fdiv (L.var 11) (L.c (PyData.int (5)))) (L.bin BOp.mul (L.c (PyData.int (2))) (L.var 13))) (L.c (PyData.int (3)))) (L.c (PyData.int (3)))) (L.var 13)) [.fz sc, .fz (.int sl), .fz (intsD ns), .fz (.int c), .fz (.int k), .fz (.int m), .own 1 (.list (rs.map PyData.int ++ [.int (1 + d % 5)])), x7, x8, .own 1 (.list (sk.map intsD)), .fz (.int (n : Int)), .fz (.int d), x12, x13, x14, x15, x16, x17, x18, x19] = some (intsD s0) := by
    refine ⟨((List.range (1 + d % 5).toNat).filter fun (i : Nat) => decide (d / 5 / 2 ^ (2 * (i : Int)).toNat % 4 = 3)).map fun (i : Nat) => (i : Int), ?_, ?_, ?_⟩
    · rw [List.pairwise_map]
      exact (List.Pairwise.filter _ List.pairwise_lt_range).imp fun h => by omega
    · intro x hx
      obtain ⟨i, hi, rfl⟩ := List.mem_map.mp hx
      have := List.mem_range.mp (List.mem_filter.mp hi).1
      omega
    · rw [← nats_ints]
      refine evE_comp (items := List.range (1 + d % 5).toNat) (fun (i : Nat) => PyData.int (i : Int)) (fun (i : Nat) => decide (d / 5 / 2 ^ (2 * (i : Int)).toNat % 4 = 3)) (fun (i : Nat) => PyData.int (i : Int)) ?_ (by simp; omega) fun i hi => ⟨_, rfl, ?_, fun _ => ev_var rfl⟩
      · rw [ev_1 (d := .int ((1 + d % 5).toNat : Int)) ?_]
        · exact un_range (by omega)
        · refine ev_ix (x := .list (rs.map PyData.int ++ [.int (1 + d % 5)])) (y := .int (-1)) rfl rfl ?_
          rw [ixF, atI_last, Int.toNat_of_nonneg (by omega)]
      · refine ev_cmp (x := .int (d / 5 / 2 ^ (2 * (i : Int)).toNat % 4)) (y := .int 3) (ev_bin (ev_bin (ev_bin (ev_var rfl) ev_c (fdivP (by decide) (by decide))) (ev_bin ev_c (ev_var rfl) (mulS (by decide))) (shrP (by omega))) ev_c band3) ev_c ?_
        · rw [opC, sh_int, sh_int, Bool.and_self, if_pos rfl, eqv_int]
          rfl
  have l1 : rs.length < 100000 := by omega
  have l2 : sk.length < 100000 := by omega
  refine ⟨1 + d % 5, if d / 5120 % 3 = 0 then s0 else [], .fz (.int d), .fz (intsD s0), by omega, by split <;> simp [hs1], ?_, ?_⟩
  · split
    · exact hs2
    · intro x hx; cases hx
  · unfold bR
    rw [seq_nx (set_nx hd)]
    show evS G fs _ [.fz sc, .fz (.int sl), .fz (intsD ns), .fz (.int c), .fz (.int k), .fz (.int m), .own 1 (intsD rs), x7, x8, .own 1 (.list (sk.map intsD)), .fz (.int (n : Int)), .fz (.int d), x12, x13, x14, x15, x16, x17, x18, x19] = _
    rw [seq_nx (app_nx (ds := rs.map PyData.int) (d := .int (1 + d % 5)) rfl (ev_bin ev_c (ev_bin (ev_var rfl) ev_c (modP (by decide))) rfl) (by simpa using l1))]
    show evS G fs _ [.fz sc, .fz (.int sl), .fz (intsD ns), .fz (.int c), .fz (.int k), .fz (.int m), .own 1 (.list (rs.map PyData.int ++ [.int (1 + d % 5)])), x7, x8, .own 1 (.list (sk.map intsD)), .fz (.int (n : Int)), .fz (.int d), x12, x13, x14, x15, x16, x17, x18, x19] = _
    rw [seq_nx (set_nx hs)]
    show evS G fs _ [.fz sc, .fz (.int sl), .fz (intsD ns), .fz (.int c), .fz (.int k), .fz (.int m), .own 1 (.list (rs.map PyData.int ++ [.int (1 + d % 5)])), x7, x8, .own 1 (.list (sk.map intsD)), .fz (.int (n : Int)), .fz (.int d), .fz (intsD s0), x13, x14, x15, x16, x17, x18, x19] = _
    rw [seq_nx (app_nx (ds := sk.map intsD) (d := intsD (if d / 5120 % 3 = 0 then s0 else [])) rfl ?_ (by simpa using l2))]
    · simp only [intsD, List.map_append]
      rfl
    · refine ev_ite (x := decide (d / 5120 % 3 = 0)) (ev_cmp (x := .int (d / 5120 % 3)) (y := .int 0) (ev_bin (ev_bin (ev_var rfl) ev_c (fdivP (by decide) (by decide))) ev_c (modP (by decide))) ev_c ?_) (fun z => ?_) (fun z => ?_)
      · rw [opC, sh_int, sh_int, Bool.and_self, if_pos rfl, eqv_int]
        rfl
      · rw [if_pos (of_decide_eq_true z)]
        exact ev_var rfl
      · rw [if_neg (of_decide_eq_false z)]
        rfl
end
end Mz

set_option Elab.async false
set_option linter.all false
set_option maxRecDepth 100000
set_option maxHeartbeats 4000000
namespace Mz
open PySem L2 Dz
theorem frz_nx {G : Nat → Dz.Sem} {q : Fs} {ρ : List Sl} {i k : Nat} {d : D} (h : ρ[i]? = some (.own k d) ∨ ρ[i]? = some (.fz d)) : evS G q (.frz i) ρ = some (.nx (ρ.set i (.fz d))) := by
  rw [evS]
  rcases h with h | h <;> rw [h]
theorem eq_ii (i j : Int) : opC .eq (.int i) (.int j) = some (decide (i = j)) := by
  rw [opC, sh_int, sh_int, Bool.and_self, if_pos rfl, eqv_int]
  rfl
def RowOk (rs : List Int) (n : Nat) (row : List (Option (List Bool × Bool))) : Prop := row.length = n ∧ ∀ (i : Nat) (ts : List Bool) (late : Bool), row[i]? = some (some (ts, late)) → rs[i]? = some (ts.length : Int)
theorem RowOk.snoc {rs : List Int} {row : List (Option (List Bool × Bool))} {n : Nat} (h : RowOk rs n row) {z : Int} (hz : rs[n]? = some z) {s : Option (List Bool × Bool)} (hs : ∀ ts late, s = some (ts, late) → (ts.length : Int) = z) : RowOk rs (n + 1) (row ++ [s]) := by
  have e := h.1
  refine ⟨by simp [e], fun i ts late hi => ?_⟩
  by_cases hn : i < n
  · rw [List.getElem?_append_left (by omega)] at hi
    exact h.2 i ts late hi
  · have hl := (List.getElem?_eq_some_iff.mp hi).1
    have : i = n := by simp at hl; omega
    subst this
    rw [List.getElem?_append_right (by omega), e, Nat.sub_self] at hi
    rw [hz, hs ts late (by simpa using hi)]
section
variable {G : Nat → Dz.Sem} {fs : Fs} {f : Nat} (hf : IsNum (G f)) {sc : D} {ns : List Int} (hn : 1 ≤ ns.length) {sl c k m : Int} (hsl : 0 ≤ sl ∧ sl ≤ 10) {rs : List Int}
include hf hn hsl
theorem bN_step (hm : 0 ≤ m ∧ m < 4) {n t : Nat} (hn5 : n ≤ 10) (ht5 : t ≤ 10) {z : Int} (hz : 1 ≤ z ∧ z ≤ 5) {row : List (Option (List Bool × Bool))} (hl : row.length ≤ 10) {x7 x8 x9 x11 x12 x13 x17 x18 x19 : Sl} : ∃ s y11 y17 y18 y19, (∀ ts late, s = some (ts, late) → (ts.length : Int) = z) ∧ evS G fs (bN f) [.fz sc, .fz (.int sl), .fz (intsD ns), .fz (.int c), .fz (.int k), .fz (.int m), .fz (intsD rs), x7, x8, x9, .fz (.int (n : Int)), x11, x12, x13, .fz (.int (t : Int)), .own 1 (.list (row.map shD)), .fz (.int z), x17, x18, x19] = some (.nx [.fz sc, .fz (.int sl), .fz (intsD ns), .fz (.int c), .fz (.int k), .fz (.int m), .fz (intsD rs), x7, x8, x9, .fz (.int (n : Int)), y11, x12, x13, .fz (.int (t : Int)), .own 1 (.list ((row ++ [s]).map shD)), .fz (.int z), y17, y18, y19]) := by
  obtain ⟨d, d0, hd⟩ := ev_num hf (ρ := [.fz sc, .fz (.int sl), .fz (intsD ns), .fz (.int c), .fz (.int k), .fz (.int m), .fz (intsD rs), x7, x8, x9, .fz (.int (n : Int)), x11, x12, x13, .fz (.int (t : Int)), .own 1 (.list (row.map shD)), .fz (.int z), .fz (.int (3 * t + n + sl)), x18, x19]) (ei := L.var 17) (ep := L.bin BOp.add (L.bin BOp.add (L.bin BOp.mul (L.c (PyData.int (5))) (L.var 14)) (L.var 10)) (L.c (PyData.int (7)))) (i := 3 * t + n + sl) (p := 5 * t + n + 7) rfl hn rfl (ev_var rfl) (ev_bin (ev_bin (ev_bin ev_c (ev_var rfl) (mulS (by decide))) (ev_var rfl) rfl) ev_c rfl) (by omega) (by omega)
  have hts : evE (okF G) (L.comp Src.range1 ((L.var 16).acons L.anil) (Tg.one 13) [13] (L.c (PyData.bool true)) (L.cmp COp.eq (L.bin BOp.band (L.bin BOp.shr (L.var 11) (L.var 13)) (L.c (PyData.int (1)))) (L.c (PyData.int (1))))) [.fz sc, .fz (.int sl), .fz (intsD ns), .fz (.int c), .fz (.int k), .fz (.int m), .fz (intsD rs), x7, x8, x9, .fz (.int (n : Int)), .fz (.int d), x12, x13, .fz (.int (t : Int)), .own 1 (.list (row.map shD)), .fz (.int z), .fz (.int (3 * t + n + sl)), x18, x19] = some (.list (((List.range z.toNat).map fun (i : Nat) => decide (d / 2 ^ (i : Int).toNat % 2 = 1)).map PyData.bool)) := by
    rw [List.map_map]
    refine evE_comp' (items := List.range z.toNat) (fun (i : Nat) => PyData.int (i : Int)) _ ?_ (by simp; omega) fun i hi => ⟨_, rfl, ?_⟩
    · rw [ev_1 (d := .int (z.toNat : Int)) (by rw [Int.toNat_of_nonneg (by omega)]; exact ev_var rfl)]
      exact un_range (by omega)
    · exact ev_cmp (ev_bin (ev_bin (ev_var rfl) (ev_var rfl) (shrP (by omega))) ev_c band1) ev_c (eq_ii _ _)
  obtain ⟨w, hw0, hw⟩ : ∃ w : Int, 0 < w ∧ ixF (.tuple [.int 1, .int 2, .int 4, .int 9]) (.int m) = some (.int w) := by
    have : m = 0 ∨ m = 1 ∨ m = 2 ∨ m = 3 := by omega
    rcases this with rfl | rfl | rfl | rfl
    · exact ⟨1, by decide, by simp [ixF]⟩
    · exact ⟨2, by decide, by simp [ixF]⟩
    · exact ⟨4, by decide, by simp [ixF]⟩
    · exact ⟨9, by decide, by simp [ixF]⟩
  generalize hT : ((List.range z.toNat).map fun (i : Nat) => decide (d / 2 ^ (i : Int).toNat % 2 = 1)) = ts at hts
  have hTl : (ts.length : Int) = z := by rw [← hT]; simp; omega
  refine ⟨if 0 < d / 32 % w then some (ts, decide (d / 1152 % 3 = 0)) else none, .fz (.int d), .fz (.int (3 * t + n + sl)), .fz (.list (ts.map PyData.bool)), .fz (.bool (decide (0 < d / 32 % w))), ?_, ?_⟩
  · intro ts' late h
    split at h
    · injection h with h
      injection h with h1 h2
      rw [← h1]; exact hTl
    · cases h
  · unfold bN
    rw [seq_nx (set_nx (d := .int (3 * t + n + sl)) (ev_bin (ev_bin (ev_bin ev_c (ev_var rfl) (mulS (by decide))) (ev_var rfl) rfl) (ev_var rfl) rfl))]
    show evS G fs _ [.fz sc, .fz (.int sl), .fz (intsD ns), .fz (.int c), .fz (.int k), .fz (.int m), .fz (intsD rs), x7, x8, x9, .fz (.int (n : Int)), x11, x12, x13, .fz (.int (t : Int)), .own 1 (.list (row.map shD)), .fz (.int z), .fz (.int (3 * t + n + sl)), x18, x19] = _
    rw [seq_nx (set_nx hd)]
    show evS G fs _ [.fz sc, .fz (.int sl), .fz (intsD ns), .fz (.int c), .fz (.int k), .fz (.int m), .fz (intsD rs), x7, x8, x9, .fz (.int (n : Int)), .fz (.int d), x12, x13, .fz (.int (t : Int)), .own 1 (.list (row.map shD)), .fz (.int z), .fz (.int (3 * t + n + sl)), x18, x19] = _
    rw [seq_nx (set_nx hts)]
    show evS G fs _ [.fz sc, .fz (.int sl), .fz (intsD ns), .fz (.int c), .fz (.int k), .fz (.int m), .fz (intsD rs), x7, x8, x9, .fz (.int (n : Int)), .fz (.int d), x12, x13, .fz (.int (t : Int)), .own 1 (.list (row.map shD)), .fz (.int z), .fz (.int (3 * t + n + sl)), .fz (.list (ts.map PyData.bool)), x19] = _
    rw [seq_nx (set_nx (d := .bool (decide (0 < d / 32 % w))) (ev_cmp (x := .int (d / 32 % w)) (y := .int 0) (ev_bin (ev_bin (ev_var rfl) ev_c (fdivP (by decide) (by decide))) (ev_ix (x := .tuple [.int 1, .int 2, .int 4, .int 9]) rfl (ev_var rfl) hw) (modP hw0)) ev_c rfl))]
    show evS G fs _ [.fz sc, .fz (.int sl), .fz (intsD ns), .fz (.int c), .fz (.int k), .fz (.int m), .fz (intsD rs), x7, x8, x9, .fz (.int (n : Int)), .fz (.int d), x12, x13, .fz (.int (t : Int)), .own 1 (.list (row.map shD)), .fz (.int z), .fz (.int (3 * t + n + sl)), .fz (.list (ts.map PyData.bool)), .fz (.bool (decide (0 < d / 32 % w)))] = _
    rw [seq_nx (app_nx (ds := row.map shD) (d := shD (if 0 < d / 32 % w then some (ts, decide (d / 1152 % 3 = 0)) else none)) rfl ?_ (by rw [List.length_map]; omega))]
    · rw [List.map_append]
      rfl
    · refine ev_ite (x := decide (0 < d / 32 % w)) (ev_var rfl) (fun z => ?_) (fun z => ?_)
      · rw [if_pos (of_decide_eq_true z)]
        exact ev_tup (ev_2 (ev_var rfl) (ev_cmp (x := .int (d / 1152 % 3)) (y := .int 0) (ev_bin (ev_bin (ev_var rfl) ev_c (fdivP (by decide) (by decide))) ev_c (modP (by decide))) ev_c (eq_ii _ _))) (by simp)
      · rw [if_neg (of_decide_eq_false z)]
        exact ev_c
theorem bT_step (hm : 0 ≤ m ∧ m < 4) (hrs : 1 ≤ rs.length ∧ rs.length ≤ 5) (hr : ∀ (i : Nat) (r : Int), rs[i]? = some r → 1 ≤ r ∧ r ≤ 5) {t : Nat} (ht5 : t ≤ 10) {sh : List (List (Option (List Bool × Bool)))} {js : List (Option Int)} (hl : sh.length ≤ 10 ∧ js.length ≤ 10) {x6 x9 x10 x11 x12 x13 x15 x16 x17 x18 x19 : Sl} (h6 : x6 = .own 1 (intsD rs) ∨ x6 = .fz (intsD rs)) : ∃ row j y10 y11 y15 y16 y17 y18 y19, RowOk rs rs.length row ∧ (∀ i, j = some i → 0 ≤ i ∧ i < (rs.length : Int)) ∧ evS G fs (bT f) [.fz sc, .fz (.int sl), .fz (intsD ns), .fz (.int c), .fz (.int k), .fz (.int m), x6, .own 1 (.list (sh.map rowD)), .own 1 (.list (js.map jkD)), x9, x10, x11, x12, x13, .fz (.int (t : Int)), x15, x16, x17, x18, x19] = some (.nx [.fz sc, .fz (.int sl), .fz (intsD ns), .fz (.int c), .fz (.int k), .fz (.int m), .fz (intsD rs), .own 1 (.list ((sh ++ [row]).map rowD)), .own 1 (.list ((js ++ [j]).map jkD)), x9, y10, y11, x12, x13, .fz (.int (t : Int)), y15, y16, y17, y18, y19]) := by
  have loop : ∃ ρ', evS G fs (S.for_ Src.enum ((L.var 6).acons L.anil) (Tg.many [10, 16]) (bN f)) [.fz sc, .fz (.int sl), .fz (intsD ns), .fz (.int c), .fz (.int k), .fz (.int m), .fz (intsD rs), .own 1 (.list (sh.map rowD)), .own 1 (.list (js.map jkD)), x9, x10, x11, x12, x13, .fz (.int (t : Int)), .own 1 (.list []), x16, x17, x18, x19] = some (.nx ρ') ∧ ∃ row y10 y11 y16 y17 y18 y19, RowOk rs (en rs).length row ∧ ρ' = [.fz sc, .fz (.int sl), .fz (intsD ns), .fz (.int c), .fz (.int k), .fz (.int m), .fz (intsD rs), .own 1 (.list (sh.map rowD)), .own 1 (.list (js.map jkD)), x9, y10, y11, x12, x13, .fz (.int (t : Int)), .own 1 (.list (row.map shD)), y16, y17, y18, y19] := by
    refine for_inv (items := en rs) (fun (p : Nat × Int) => pairD (.int (p.1 : Int)) (.int p.2)) (fun pre ρ => ∃ row y10 y11 y16 y17 y18 y19, RowOk rs pre.length row ∧ ρ = [.fz sc, .fz (.int sl), .fz (intsD ns), .fz (.int c), .fz (.int k), .fz (.int m), .fz (intsD rs), .own 1 (.list (sh.map rowD)), .own 1 (.list (js.map jkD)), x9, y10, y11, x12, x13, .fz (.int (t : Int)), .own 1 (.list (row.map shD)), y16, y17, y18, y19]) ⟨[], x10, x11, x16, x17, x18, x19, ⟨rfl, fun i ts late h => by simp at h⟩, rfl⟩ ?_ fun pre p post ρ hall ⟨row, y10, y11, y16, y17, y18, y19, hrow, e⟩ => ?_
    · rw [ev_1 (ev_var rfl)]
      exact src_enum rs PyData.int
    · subst e
      obtain ⟨n, z⟩ := p
      have hnz : rs[n]? = some z := en_mem (by rw [hall]; simp)
      have hnl : n = pre.length ∧ n < rs.length := by
        have h1 : (en rs)[pre.length]? = some (n, z) := by rw [hall]; simp
        rw [en_map rs 0, List.getElem?_map] at h1
        obtain ⟨w, h2, h3⟩ := Option.map_eq_some_iff.mp h1
        have h4 := List.getElem?_eq_some_iff.mp h2
        obtain ⟨h5, h6⟩ := h4
        rw [List.getElem_range] at h6
        rw [List.length_range] at h5
        have h7 : w = n := congrArg Prod.fst h3
        omega
      have hrl := hrow.1
      obtain ⟨s, a11, a17, a18, a19, hs, hb⟩ := bN_step (fs := fs) (sc := sc) (c := c) (k := k) (rs := rs) hf hn hsl hm (n := n) (t := t) (by omega) ht5 (hr n z hnz) (row := row) (by omega) (x7 := .own 1 (.list (sh.map rowD))) (x8 := .own 1 (.list (js.map jkD))) (x9 := x9) (x11 := y11) (x12 := x12) (x13 := x13) (x17 := y17) (x18 := y18) (x19 := y19)
      refine ⟨_, _, rfl, hb, row ++ [s], _, _, _, _, _, _, ?_, rfl⟩
      rw [List.length_append]
      exact hrow.snoc (by rw [← hnl.1]; exact hnz) hs
  obtain ⟨ρ', l1, row, y10, y11, y16, y17, y18, y19, hrow, rfl⟩ := loop
  rw [en_len] at hrow
  obtain ⟨d, d0, hd⟩ := ev_num hf (ρ := [.fz sc, .fz (.int sl), .fz (intsD ns), .fz (.int c), .fz (.int k), .fz (.int m), .fz (intsD rs), .own 1 (.list (sh.map rowD ++ [rowD row])), .own 1 (.list (js.map jkD)), x9, y10, y11, x12, x13, .fz (.int (t : Int)), .fz (rowD row), y16, y17, y18, y19]) (ei := L.bin BOp.add (L.var 14) (L.var 1)) (ep := L.bin BOp.add (L.var 14) (L.c (PyData.int (31)))) (i := t + sl) (p := t + 31) rfl hn rfl (ev_bin (ev_var rfl) (ev_var rfl) rfl) (ev_bin (ev_var rfl) ev_c rfl) (by omega) (by omega)
  have q0 := Int.emod_nonneg (d / 2) (show (rs.length : Int) ≠ 0 by omega)
  have q1 := Int.emod_lt_of_pos (d / 2) (show (0 : Int) < rs.length by omega)
  refine ⟨row, if d % 2 = 0 then some (d / 2 % rs.length) else none, y10, .fz (.int d), .fz (rowD row), y16, y17, y18, y19, hrow, fun i hi => ?_, ?_⟩
  · split at hi
    · injection hi with hi
      rw [← hi]
      exact ⟨q0, q1⟩
    · cases hi
  · have hfz : evS G fs (S.frz 6) [.fz sc, .fz (.int sl), .fz (intsD ns), .fz (.int c), .fz (.int k), .fz (.int m), x6, .own 1 (.list (sh.map rowD)), .own 1 (.list (js.map jkD)), x9, x10, x11, x12, x13, .fz (.int (t : Int)), .own 1 (.list []), x16, x17, x18, x19] = some (.nx [.fz sc, .fz (.int sl), .fz (intsD ns), .fz (.int c), .fz (.int k), .fz (.int m), .fz (intsD rs), .own 1 (.list (sh.map rowD)), .own 1 (.list (js.map jkD)), x9, x10, x11, x12, x13, .fz (.int (t : Int)), .own 1 (.list []), x16, x17, x18, x19]) := frz_nx (k := 1) (d := intsD rs) (h6.imp (fun e => congrArg some e) (fun e => congrArg some e))
    unfold bT
    rw [seq_nx (set_nx (d := .list []) rfl)]
    show evS G fs _ [.fz sc, .fz (.int sl), .fz (intsD ns), .fz (.int c), .fz (.int k), .fz (.int m), x6, .own 1 (.list (sh.map rowD)), .own 1 (.list (js.map jkD)), x9, x10, x11, x12, x13, .fz (.int (t : Int)), .own 1 (.list []), x16, x17, x18, x19] = _
    rw [seq_nx ((seq_nx hfz).trans l1)]
    rw [seq_nx ((seq_nx (frz_nx (k := 1) (d := rowD row) (.inl rfl))).trans (app_nx (ds := sh.map rowD) (d := rowD row) rfl (ev_var rfl) (by rw [List.length_map]; omega)))]
    show evS G fs _ [.fz sc, .fz (.int sl), .fz (intsD ns), .fz (.int c), .fz (.int k), .fz (.int m), .fz (intsD rs), .own 1 (.list (sh.map rowD ++ [rowD row])), .own 1 (.list (js.map jkD)), x9, y10, y11, x12, x13, .fz (.int (t : Int)), .fz (rowD row), y16, y17, y18, y19] = _
    rw [seq_nx (set_nx hd)]
    show evS G fs _ [.fz sc, .fz (.int sl), .fz (intsD ns), .fz (.int c), .fz (.int k), .fz (.int m), .fz (intsD rs), .own 1 (.list (sh.map rowD ++ [rowD row])), .own 1 (.list (js.map jkD)), x9, y10, .fz (.int d), x12, x13, .fz (.int (t : Int)), .fz (rowD row), y16, y17, y18, y19] = _
    rw [seq_nx (app_nx (ds := js.map jkD) (d := jkD (if d % 2 = 0 then some (d / 2 % rs.length) else none)) rfl ?_ (by rw [List.length_map]; omega))]
    · rw [List.map_append, List.map_append]
      rfl
    · refine ev_ite (x := decide (d % 2 = 0)) (ev_cmp (ev_bin (ev_var rfl) ev_c (modP (by decide))) ev_c (eq_ii _ _)) (fun z => ?_) (fun z => ?_)
      · rw [if_pos (of_decide_eq_true z)]
        refine ev_bin (ev_bin (ev_var rfl) ev_c (fdivP (by decide) (by decide))) (len_l (ds := rs.map PyData.int) rfl) ?_
        rw [List.length_map]
        exact modP (by omega)
      · rw [if_neg (of_decide_eq_false z)]
        exact ev_c
end
end Mz

set_option Elab.async false
set_option linter.all false
set_option maxRecDepth 100000
set_option maxHeartbeats 4000000
namespace Mz
open PySem L2 Dz
theorem ne_nilI (l : List Int) : opC .ne (intsD l) (.list []) = some (!l.isEmpty) := by
  have h : SeqAt.shaped (.list []) = true := sh_ints []
  have h' : SeqAt.shaped (intsD l) = true := sh_ints l
  simp only [opC, h, h', Bool.and_self, if_true]
  cases l <;> simp [intsD, PyData.eqv, PyData.eqvAll]
def IsLState (f : Dz.Sem) : Prop := ∀ (xs : List Int) (sl : Int), 0 ≤ sl → sl ≤ 10 → ∃ q, Ok q ∧ f [intsD xs, .int sl] = some (.ok (stD q), .none)
theorem head_ns {G : Nat → Dz.Sem} {xs : List Int} {ρ : List Sl} (h : ρ[0]? = some (.fz (intsD xs))) : ∃ ns : List Int, 1 ≤ ns.length ∧ evE (okF G) ((L.cmp COp.ne (L.var 0) L.anil.lst).ite ((L.var 0).slice (L.c PyData.none) (L.bin BOp.add (L.c (PyData.int (0))) (L.c (PyData.int (63))))) ((L.c (PyData.int (5))).acons L.anil).lst) ρ = some (intsD ns) := by
  have e1 := ev_cmp (F := okF G) (o := .ne) (ev_var h) (show evE (okF G) L.anil.lst ρ = some (.list []) from rfl) (ne_nilI xs)
  cases xs with
  | nil => exact ⟨[5], by simp, ev_ite e1 (fun z => by simp at z) (fun _ => rfl)⟩
  | cons x xs =>
    refine ⟨(x :: xs).take 63, by simp, ev_ite e1 (fun _ => ?_) (fun z => by simp at z)⟩
    rw [evE, ev_var h]
    have e2 : evE (okF G) (L.bin BOp.add (L.c (PyData.int (0))) (L.c (PyData.int (63)))) ρ = some (.int ((63 : Nat) : Int)) := rfl
    rw [e2]
    simp only [Option.bind_some, ev_c, partO, intsD, sliceF, cut_hi, ← List.map_take]
theorem sSt_sem {G : Nat → Dz.Sem} {f : Nat} (hf : IsNum (G f)) : IsLState (semS G ⟨0, false⟩ 0 2 18 (sSt f)) := fun xs sl sl0 sl1 => by
  obtain ⟨ns, hn, hns⟩ := head_ns (G := G) (xs := xs) (ρ := [.fz (intsD xs), .fz (.int sl), .no, .no, .no, .no, .no, .no, .no, .no, .no, .no, .no, .no, .no, .no, .no, .no, .no, .no]) rfl
  obtain ⟨c, hc0, hc⟩ : ∃ c : Int, 0 ≤ c ∧ evE (okF G) (L.bin BOp.add (L.bin BOp.mod (L.bi Bi.abs ((L.bi Bi.sum ((L.var 2).acons L.anil)).acons L.anil)) (L.bin BOp.pow (L.c (PyData.int (10))) (L.c (PyData.int (60))))) (L.bin BOp.mul (L.c (PyData.int (7))) (L.var 1))) [.fz (intsD xs), .fz (.int sl), .fz (intsD ns), .no, .no, .no, .no, .no, .no, .no, .no, .no, .no, .no, .no, .no, .no, .no, .no, .no] = some (.int c) := by
    refine ⟨(if ns.sum < 0 then -ns.sum else ns.sum) % 10 ^ 60 + 7 * sl, ?_, ev_bin (ev_bin (abs_i ?_) pow60 (modP (by decide))) (ev_bin ev_c (ev_var rfl) (mulS (by decide))) rfl⟩
    · have := Int.emod_nonneg (if ns.sum < 0 then -ns.sum else ns.sum) (show (10 ^ 60 : Int) ≠ 0 by decide)
      omega
    · rw [ev_bi (ev_1 (ev_var rfl))]
      simp only [biF, intsD, intsOf_map, Option.map_some]
  have c4 := Int.emod_nonneg c (show (4 : Int) ≠ 0 by decide)
  have c4' := Int.emod_lt_of_pos c (show (0 : Int) < 4 by decide)
  have m0 := Int.emod_nonneg (c / 4) (show (4 : Int) ≠ 0 by decide)
  have m1 := Int.emod_lt_of_pos (c / 4) (show (0 : Int) < 4 by decide)
  have n0 := Int.emod_nonneg (c / 16) (show (5 : Int) ≠ 0 by decide)
  have n1 := Int.emod_lt_of_pos (c / 16) (show (0 : Int) < 5 by decide)
  have loop1 : ∃ ρ', evS G ⟨0, false⟩ (S.for_ Src.range1 ((L.bin BOp.add (L.c (PyData.int (1))) (L.bin BOp.mod (L.bin BOp.fdiv (L.var 3) (L.c (PyData.int (16)))) (L.c (PyData.int (5))))).acons L.anil) (Tg.one 10) (bR f)) [.fz (intsD xs), .fz (.int sl), .fz (intsD ns), .fz (.int c), .fz (.int (2 + c % 4)), .fz (.int (c / 4 % 4)), .own 1 (.list []), .own 1 (.list []), .own 1 (.list []), .own 1 (.list []), .no, .no, .no, .no, .no, .no, .no, .no, .no, .no] = some (.nx ρ') ∧ ∃ rs sk y10 y11 y12, R1 (List.range (1 + c / 16 % 5).toNat).length rs sk ∧ ρ' = [.fz (intsD xs), .fz (.int sl), .fz (intsD ns), .fz (.int c), .fz (.int (2 + c % 4)), .fz (.int (c / 4 % 4)), .own 1 (intsD rs), .own 1 (.list []), .own 1 (.list []), .own 1 (.list (sk.map intsD)), y10, y11, y12, .no, .no, .no, .no, .no, .no, .no] := by
    refine for_inv (items := List.range (1 + c / 16 % 5).toNat) (fun (i : Nat) => PyData.int (i : Int)) (fun pre ρ => ∃ rs sk y10 y11 y12, R1 pre.length rs sk ∧ ρ = [.fz (intsD xs), .fz (.int sl), .fz (intsD ns), .fz (.int c), .fz (.int (2 + c % 4)), .fz (.int (c / 4 % 4)), .own 1 (intsD rs), .own 1 (.list []), .own 1 (.list []), .own 1 (.list (sk.map intsD)), y10, y11, y12, .no, .no, .no, .no, .no, .no, .no]) ⟨[], [], .no, .no, .no, ⟨rfl, rfl, fun i r h => by simp at h, fun i s h => by simp at h⟩, rfl⟩ ?_ fun pre n post ρ hall ⟨rs, sk, y10, y11, y12, hR, e⟩ => ?_
    · rw [ev_1 (d := .int ((1 + c / 16 % 5).toNat : Int))]
      · exact un_range (by omega)
      · rw [Int.toNat_of_nonneg (by omega)]
        exact ev_bin ev_c (ev_bin (ev_bin (ev_var rfl) ev_c (fdivP (by decide) (by decide))) ev_c (modP (by decide))) rfl
    · subst e
      obtain ⟨hpe, hpl⟩ := range_split hall
      have a1 := hR.l1
      have a2 := hR.l2
      obtain ⟨r, s, z11, z12, b1, b2, b3, hb⟩ := bR_step (fs := ⟨0, false⟩) hf hn (sc := intsD xs) (c := c) (k := 2 + c % 4) (m := c / 4 % 4) ⟨sl0, sl1⟩ (n := n) (by omega) (rs := rs) (sk := sk) (by omega) (x7 := .own 1 (.list [])) (x8 := .own 1 (.list [])) (x11 := y11) (x12 := y12) (x13 := .no) (x14 := .no) (x15 := .no) (x16 := .no) (x17 := .no) (x18 := .no) (x19 := .no)
      refine ⟨_, _, rfl, hb, _, _, _, _, _, ?_, rfl⟩
      rw [List.length_append]
      exact hR.snoc b1 b2 b3
  obtain ⟨ρ1, l1, rs, sk, y10, y11, y12, hR, rfl⟩ := loop1
  rw [List.length_range] at hR
  have a1 := hR.l1
  have a2 := hR.l2
  have loop2 : ∃ ρ', evS G ⟨0, false⟩ (S.for_ Src.range1 ((L.var 4).acons L.anil) (Tg.one 14) (bT f)) [.fz (intsD xs), .fz (.int sl), .fz (intsD ns), .fz (.int c), .fz (.int (2 + c % 4)), .fz (.int (c / 4 % 4)), .own 1 (intsD rs), .own 1 (.list []), .own 1 (.list []), .own 1 (.list (sk.map intsD)), y10, y11, y12, .no, .no, .no, .no, .no, .no, .no] = some (.nx ρ') ∧ ∃ (y6 : Sl) (sh : List (List (Option (List Bool × Bool)))) (js : List (Option Int)) (y10 y11 y14 y15 y16 y17 y18 y19 : Sl), ((y6 = .own 1 (intsD rs) ∨ y6 = .fz (intsD rs)) ∧ sh.length = (List.range (2 + c % 4).toNat).length ∧ (∀ row ∈ sh, RowOk rs rs.length row) ∧ js.length = (List.range (2 + c % 4).toNat).length ∧ (∀ j ∈ js, ∀ i, j = some i → 0 ≤ i ∧ i < (rs.length : Int))) ∧ ρ' = [.fz (intsD xs), .fz (.int sl), .fz (intsD ns), .fz (.int c), .fz (.int (2 + c % 4)), .fz (.int (c / 4 % 4)), y6, .own 1 (.list (sh.map rowD)), .own 1 (.list (js.map jkD)), .own 1 (.list (sk.map intsD)), y10, y11, y12, .no, y14, y15, y16, y17, y18, y19] := by
    refine for_inv (items := List.range (2 + c % 4).toNat) (fun (i : Nat) => PyData.int (i : Int)) (fun pre ρ => ∃ (y6 : Sl) (sh : List (List (Option (List Bool × Bool)))) (js : List (Option Int)) (y10 y11 y14 y15 y16 y17 y18 y19 : Sl), ((y6 = .own 1 (intsD rs) ∨ y6 = .fz (intsD rs)) ∧ sh.length = pre.length ∧ (∀ row ∈ sh, RowOk rs rs.length row) ∧ js.length = pre.length ∧ (∀ j ∈ js, ∀ i, j = some i → 0 ≤ i ∧ i < (rs.length : Int))) ∧ ρ = [.fz (intsD xs), .fz (.int sl), .fz (intsD ns), .fz (.int c), .fz (.int (2 + c % 4)), .fz (.int (c / 4 % 4)), y6, .own 1 (.list (sh.map rowD)), .own 1 (.list (js.map jkD)), .own 1 (.list (sk.map intsD)), y10, y11, y12, .no, y14, y15, y16, y17, y18, y19]) ⟨.own 1 (intsD rs), [], [], y10, y11, .no, .no, .no, .no, .no, .no, ⟨.inl rfl, rfl, (fun _ h => absurd h List.not_mem_nil), rfl, (fun _ h => absurd h List.not_mem_nil)⟩, rfl⟩ ?_ fun pre t post ρ hall ⟨y6, sh, js, y10, y11, y14, y15, y16, y17, y18, y19, ⟨p1, p2, p3, p4, p5⟩, e⟩ => ?_
    · rw [ev_1 (d := .int ((2 + c % 4).toNat : Int))]
      · exact un_range (by omega)
      · rw [Int.toNat_of_nonneg (by omega)]
        exact ev_var rfl
    · subst e
      obtain ⟨hpe, hpl⟩ := range_split hall
      obtain ⟨row, j, z10, z11, z15, z16, z17, z18, z19, b1, b2, hb⟩ := bT_step (fs := ⟨0, false⟩) hf hn (sc := intsD xs) (c := c) (k := 2 + c % 4) (m := c / 4 % 4) ⟨sl0, sl1⟩ ⟨m0, m1⟩ (rs := rs) (by omega) hR.r (t := t) (by omega) (sh := sh) (js := js) (by omega) (x6 := y6) (x9 := .own 1 (.list (sk.map intsD))) (x10 := y10) (x11 := y11) (x12 := y12) (x13 := .no) (x15 := y15) (x16 := y16) (x17 := y17) (x18 := y18) (x19 := y19) p1
      refine ⟨_, _, rfl, hb, .fz (intsD rs), sh ++ [row], js ++ [j], z10, z11, .fz (.int (t : Int)), z15, z16, z17, z18, z19, ⟨.inr rfl, by simp [p2], fun w hw => ?_, by simp [p4], fun w hw => ?_⟩, rfl⟩
      · rcases List.mem_append.mp hw with h | h
        · exact p3 w h
        · rw [List.mem_singleton.mp h]; exact b1
      · rcases List.mem_append.mp hw with h | h
        · exact p5 w h
        · rw [List.mem_singleton.mp h]; exact b2
  obtain ⟨ρ2, l2, y6, sh, js, w10, w11, y14, y15, y16, y17, y18, y19, ⟨p1, p2, p3, p4, p5⟩, rfl⟩ := loop2
  rw [List.length_range] at p2 p4
  refine ⟨⟨rs, js, sh, sk⟩, ⟨by show 1 ≤ rs.length ∧ rs.length ≤ 5; omega, hR.r, by show 2 ≤ js.length ∧ js.length ≤ 5; omega, fun t i h => p5 _ (List.mem_of_getElem? h) i rfl, by show sh.length = js.length; omega, fun t r h => (p3 r (List.mem_of_getElem? h)).1, fun t r n ts late h h' => (p3 r (List.mem_of_getElem? h)).2 n ts late h', by show sk.length = rs.length; omega, hR.s⟩, ?_⟩
  have hfz : evS G ⟨0, false⟩ (S.frz 6) [.fz (intsD xs), .fz (.int sl), .fz (intsD ns), .fz (.int c), .fz (.int (2 + c % 4)), .fz (.int (c / 4 % 4)), y6, .own 1 (.list (sh.map rowD)), .own 1 (.list (js.map jkD)), .own 1 (.list (sk.map intsD)), w10, w11, y12, .no, y14, y15, y16, y17, y18, y19] = some (.nx [.fz (intsD xs), .fz (.int sl), .fz (intsD ns), .fz (.int c), .fz (.int (2 + c % 4)), .fz (.int (c / 4 % 4)), .fz (intsD rs), .own 1 (.list (sh.map rowD)), .own 1 (.list (js.map jkD)), .own 1 (.list (sk.map intsD)), w10, w11, y12, .no, y14, y15, y16, y17, y18, y19]) := frz_nx (k := 1) (d := intsD rs) (p1.imp (fun e => congrArg some e) (fun e => congrArg some e))
  refine sem_rt (q := ⟨0, false⟩) (ρ := [.fz (intsD xs), .fz (.int sl), .fz (intsD ns), .fz (.int c), .fz (.int (2 + c % 4)), .fz (.int (c / 4 % 4)), .fz (intsD rs), .fz (.list (sh.map rowD)), .fz (.list (js.map jkD)), .fz (.list (sk.map intsD)), w10, w11, y12, .no, y14, y15, y16, y17, y18, y19]) rfl rfl ?_
  show evS G _ (sSt f) [.fz (intsD xs), .fz (.int sl), .no, .no, .no, .no, .no, .no, .no, .no, .no, .no, .no, .no, .no, .no, .no, .no, .no, .no] = _
  unfold sSt
  rw [seq_nx (set_nx hns)]
  show evS G _ _ [.fz (intsD xs), .fz (.int sl), .fz (intsD ns), .no, .no, .no, .no, .no, .no, .no, .no, .no, .no, .no, .no, .no, .no, .no, .no, .no] = _
  rw [seq_nx (set_nx hc)]
  show evS G _ _ [.fz (intsD xs), .fz (.int sl), .fz (intsD ns), .fz (.int c), .no, .no, .no, .no, .no, .no, .no, .no, .no, .no, .no, .no, .no, .no, .no, .no] = _
  rw [seq_nx (ρ' := [.fz (intsD xs), .fz (.int sl), .fz (intsD ns), .fz (.int c), .fz (.int (2 + c % 4)), .fz (.int (c / 4 % 4)), .no, .no, .no, .no, .no, .no, .no, .no, .no, .no, .no, .no, .no, .no]) ?_]
  · rw [seq_nx (ρ' := [.fz (intsD xs), .fz (.int sl), .fz (intsD ns), .fz (.int c), .fz (.int (2 + c % 4)), .fz (.int (c / 4 % 4)), .own 1 (.list []), .own 1 (.list []), .own 1 (.list []), .own 1 (.list []), .no, .no, .no, .no, .no, .no, .no, .no, .no, .no]) rfl, seq_nx l1, seq_nx l2]
    refine seq_rt ?_
    rw [seq_nx hfz, seq_nx (frz_nx (k := 1) (d := .list (js.map jkD)) (.inl rfl)), seq_nx (frz_nx (k := 1) (d := .list (sh.map rowD)) (.inl rfl)), seq_nx (frz_nx (k := 1) (d := .list (sk.map intsD)) (.inl rfl))]
    exact ret_rt rfl (ev_tup (ev_4 (ev_var rfl) (ev_var rfl) (ev_var rfl) (ev_var rfl)) (by simp))
  · rw [evS, ev_tup (ev_2 (ev_bin ev_c (ev_bin (ev_var rfl) ev_c (modP (by decide))) rfl) (ev_bin (ev_bin (ev_var rfl) ev_c (fdivP (by decide) (by decide))) ev_c (modP (by decide)))) (by simp)]
    rfl
end Mz

set_option Elab.async false
set_option linter.all false
set_option maxRecDepth 100000
set_option maxHeartbeats 4000000
namespace Mz
open PySem L2 Dz
theorem ne_self {d : D} {n : Nat} (h : lay n d = true) (hn : n ≤ 64) : opC .ne d d = some false := by
  have h1 := lay_shaped h hn
  have h2 : PyData.eqv d d = true := SeqAt.eqv_refl d (by simp only [lay, Bool.and_eq_true] at h; exact h.1)
  simp only [opC, h1, Bool.and_self, if_true, h2, Bool.not_true]
theorem lay_mono {d : D} {n m : Nat} (h : lay n d = true) (hm : n ≤ m) : lay m d = true := by
  simp only [lay, Bool.and_eq_true, decide_eq_true_eq] at h ⊢
  exact ⟨h.1, by omega⟩
theorem lay_sh (s : Option (List Bool × Bool)) : lay 2 (shD s) = true := by
  cases s with
  | none => simp [shD]
  | some p =>
    obtain ⟨ts, late⟩ := p
    refine lay_tuple fun d hd => ?_
    rcases List.mem_cons.mp hd with rfl | hd
    · exact lay_list fun d hd => by obtain ⟨b, _, rfl⟩ := List.mem_map.mp hd; simp
    · rw [List.mem_singleton.mp hd]; simp
theorem lay_st (q : Q) : lay 5 (stD q) = true := by
  refine lay_tuple fun d hd => ?_
  simp only [List.mem_cons, List.not_mem_nil, or_false] at hd
  rcases hd with rfl | rfl | rfl | rfl
  · exact lay_ints 3 _
  · exact lay_list fun d hd => by obtain ⟨j, _, rfl⟩ := List.mem_map.mp hd; cases j <;> simp [jkD]
  · exact lay_list fun d hd => by
      obtain ⟨r, _, rfl⟩ := List.mem_map.mp hd
      exact lay_list fun d hd => by obtain ⟨s, _, rfl⟩ := List.mem_map.mp hd; exact lay_sh s
  · exact lay_list fun d hd => by obtain ⟨s, _, rfl⟩ := List.mem_map.mp hd; exact lay_ints 2 _
theorem lay_nats (l : List Nat) : lay 1 (natsD l) = true := by rw [nats_ints]; exact lay_ints 0 _
theorem flat_intsD (xs : List Int) : flatAt (intsD xs) 1 = true := flat_ints xs
theorem flat_int (i : Int) : flatAt (.int i) 0 = true := rfl
theorem ne_ii (i : Int) : opC .ne (.int i) (.int i) = some false := ne_i rfl
theorem flat_nats (l : List Nat) : flatAt (natsD l) 1 = true := by rw [nats_ints]; exact flat_ints _
/-- the state that the law changes it to -/
def qm1 (q : Q) (r : Int) : Q := { q with jokers := q.jokers.set 0 none, struck := q.struck.set 0 ((List.range r.toNat).map fun (i : Nat) => (i : Int)) }
theorem qm1_ok {q : Q} (ok : Ok q) {r : Int} (hr : q.rounds[0]? = some r) : Ok (qm1 q r) := by
  refine ⟨ok.r1, ok.r2, by simpa [qm1] using ok.j1, fun t i h => ?_, by simpa [qm1] using ok.s1, ok.s2, ok.s3, by simpa [qm1] using ok.k1, fun n s h => ?_⟩
  · simp only [qm1, List.getElem?_set] at h
    split at h
    · split at h
      · cases h
      · cases h
    · exact ok.j2 t i h
  · simp only [qm1, List.getElem?_set] at h
    split at h
    · rename_i h0
      subst h0
      split at h
      · injection h with h
        subst h
        refine ⟨?_, fun r' hr' x hx => ?_⟩
        · rw [List.pairwise_map]
          exact List.pairwise_lt_range.imp fun h => by omega
        · have : r' = r := by
            have : q.rounds[0]? = some r' := hr'
            rw [hr] at this
            injection this with this
            exact this.symm
          obtain ⟨i, hi, rfl⟩ := List.mem_map.mp hx
          have := List.mem_range.mp hi
          omega
      · cases h
    · exact ok.k2 n s h
theorem put_nx {G : Nat → Dz.Sem} {fs : Fs} {ρ : List Sl} {i : Nat} {e : L} {y : D} {p : Nat} {ds : List D} {es : List D} (h : ρ[i]? = some (.own 2 (.tuple es))) (he : evE (okF G) e ρ = some y) (h1 : es[p]? = some (.list ds)) (hl : 0 < ds.length) : evS G fs (.put i [Pst.ix (L.c (PyData.int (p : Int)))] (L.c (PyData.int (0))) 0 e) ρ = some (.nx (ρ.set i (.own 2 (.tuple (es.set p (.list (ds.set 0 y))))))) := by
  have hs : slotO ρ i (([Pst.ix (L.c (PyData.int (p : Int)))] : List Pst).length + 0 + 1) = some (.tuple es) := by unfold slotO; rw [h]; rfl
  have hp : evP (okF G) [Pst.ix (L.c (PyData.int (p : Int)))] ρ = some [.inl (p : Int)] := rfl
  have hg : getP (.tuple es) [.inl (p : Int)] = some (.list ds) := by rw [getP, Mz.atI_nat, h1]; rfl
  have hi0 : setI ds 0 y = some (ds.set 0 y) := by
    unfold setI ixN
    rw [if_pos (by decide), if_pos (by omega)]
    rfl
  have hpl : p < es.length := (List.getElem?_eq_some_iff.mp h1).1
  have hip : setI es (p : Int) (.list (ds.set 0 y)) = some (es.set p (.list (ds.set 0 y))) := by
    unfold setI ixN
    rw [if_pos (by omega), if_pos (by omega)]
    rfl
  have hsp : setP (.tuple es) [.inl (p : Int)] (.list (ds.set 0 y)) = some (.tuple (es.set p (.list (ds.set 0 y)))) := by
    rw [setP, Mz.atI_nat, h1, Option.bind_some, setP, Option.bind_some, hip]
    rfl
  rw [evS, hs, Option.bind_some, he, Option.bind_some, hp, Option.bind_some, ev_c]
  simp only [hg, hi0, Option.bind_some, hsp, Option.map_some]
  rfl
theorem own_e {F : Nat → List D → Option D} {ρ : List Sl} {i k : Nat} {d : D} (h : ρ[i]? = some (.own k d)) : evE F (.own i) ρ = some d := by rw [evE, h]
theorem sum_i {F : Nat → List D → Option D} {ρ : List Sl} {a : L} {xs : List Int} (h : evE F a ρ = some (intsD xs)) : evE F (.bi .sum (.acons a .anil)) ρ = some (.int xs.sum) := by
  rw [ev_bi (ev_1 h)]
  simp only [biF, intsD, intsOf_map, Option.map_some]
/-- a state with all questions of its first round struck -/
def qs (q : Q) (r : Int) : Q := { q with struck := q.struck.set 0 ((List.range r.toNat).map fun (i : Nat) => (i : Int)) }
theorem qs_ok {q : Q} (ok : Ok q) {r : Int} (hr : q.rounds[0]? = some r) : Ok (qs q r) := by
  refine ⟨ok.r1, ok.r2, ok.j1, ok.j2, ok.s1, ok.s2, ok.s3, by simpa [qs] using ok.k1, fun n s h => ?_⟩
  simp only [qs, List.getElem?_set] at h
  split at h
  · rename_i h0
    subst h0
    split at h
    · injection h with h
      subst h
      refine ⟨?_, fun r' hr' x hx => ?_⟩
      · rw [List.pairwise_map]
        exact List.pairwise_lt_range.imp fun h => by omega
      · have : r' = r := by
          have : q.rounds[0]? = some r' := hr'
          rw [hr] at this
          injection this with this
          exact this.symm
        obtain ⟨i, hi, rfl⟩ := List.mem_map.mp hx
        have := List.mem_range.mp hi
        omega
    · cases h
  · exact ok.k2 n s h
end Mz

set_option Elab.async false
set_option linter.all false
set_option maxRecDepth 100000
set_option maxHeartbeats 4000000
/-! Plain laws of scores: what a table can come to have. -/
namespace Mz
open PySem L2 Dz
def ltS (a b : List Int) : Bool := ltK a.sum (down a) b.sum (down b)
theorem ltK_irr (s : Int) (xs : List Int) : ltK s xs s xs = false := by simp [ltK, lexI_irr]
theorem ltK_trans {s t u : Int} {xs ys zs : List Int} (h : ltK s xs t ys = true) (h' : ltK t ys u zs = true) : ltK s xs u zs = true := by
  unfold ltK at h h' ⊢
  simp only [Bool.or_eq_true, Bool.and_eq_true, decide_eq_true_eq] at h h' ⊢
  rcases h with h | ⟨h1, h2⟩
  · rcases h' with h' | ⟨h1', h2'⟩
    · exact .inl (by omega)
    · exact .inl (by omega)
  · rcases h' with h' | ⟨h1', h2'⟩
    · exact .inl (by omega)
    · exact .inr ⟨by omega, lexI_trans h2 h2'⟩
theorem ltK_asym {s t : Int} {xs ys : List Int} (h : ltK s xs t ys = true) : ltK t ys s xs = false := by
  cases h' : ltK t ys s xs with
  | false => rfl
  | true => have := ltK_trans h h'; rw [ltK_irr] at this; cases this
/-- neither before the other: the same -/
theorem ltK_eq {s t : Int} {xs ys : List Int} (h : ltK s xs t ys = false) (h' : ltK t ys s xs = false) : s = t ∧ xs = ys := by
  unfold ltK at h h'
  simp only [Bool.or_eq_false_iff, Bool.and_eq_false_iff, decide_eq_false_iff_not] at h h'
  have e : s = t := by omega
  refine ⟨e, ?_⟩
  by_cases e2 : xs = ys
  · exact e2
  · have h1 : lexI xs ys = false := by rcases h.2 with z | z; exact absurd e z; exact z
    have h2 : lexI ys xs = false := by rcases h'.2 with z | z; exact absurd e.symm z; exact z
    have := lexI_tot e2
    rw [h1, h2] at this
    cases this
/-- at most -/
def leS (a b : List Int) : Prop := ltS b a = false
theorem leS_refl (a : List Int) : leS a a := ltK_irr _ _
theorem leS_trans {a b c : List Int} (h : leS a b) (h' : leS b c) : leS a c := by
  unfold leS ltS at *
  cases z : ltK c.sum (down c) a.sum (down a) with
  | false => rfl
  | true =>
    exfalso
    cases z2 : ltK a.sum (down a) b.sum (down b) with
    | true => rw [ltK_trans z z2] at h'; cases h'
    | false =>
      obtain ⟨e1, e2⟩ := ltK_eq z2 h
      rw [e1, e2, h'] at z
      cases z
theorem leS_tot (a b : List Int) : leS a b ∨ leS b a := by
  unfold leS ltS
  cases z : ltK b.sum (down b) a.sum (down a) with
  | false => exact .inl rfl
  | true => exact .inr (ltK_asym z)
theorem leS_of_lt {a b : List Int} (h : ltS a b = true) : leS a b := ltK_asym h
/-- ahead: greater, or the same and lower -/
theorem ah_iff (i : Int) (a : List Int) (j : Int) (b : List Int) : ah i a j b = true ↔ leS b a ∧ (leS a b → i < j) := by
  unfold ah ahK leS ltS
  cases z : ltK b.sum (down b) a.sum (down a) with
  | true =>
    rw [ltK_asym z]
    simp
  | false =>
    simp only [Bool.false_or, Bool.and_eq_true, decide_eq_true_eq]
    constructor
    · rintro ⟨⟨e1, e2⟩, h⟩
      rw [e1, e2]
      exact ⟨ltK_irr _ _, fun _ => h⟩
    · rintro ⟨h1, h2⟩
      exact ⟨ltK_eq h1 z, h2 trivial⟩
theorem ah_mono {i j : Int} {a a' b b' : List Int} (ha : leS a a') (hb : leS b' b) (h : ah i a j b = true) : ah i a' j b' = true := by
  rw [ah_iff] at h ⊢
  exact ⟨leS_trans hb (leS_trans h.1 ha), fun z => h.2 (leS_trans ha (leS_trans z hb))⟩
/-- one by one at most -/
def le1 : List Int → List Int → Prop
  | [], [] => True
  | x :: xs, y :: ys => x ≤ y ∧ le1 xs ys
  | _, _ => False
theorem le1_sum : ∀ {a b : List Int}, le1 a b → a.sum ≤ b.sum ∧ (a.sum = b.sum → a = b)
  | [], [], _ => ⟨Int.le_refl _, fun _ => rfl⟩
  | x :: xs, y :: ys, h => by
    obtain ⟨h1, h2⟩ := le1_sum h.2
    have h3 := h.1
    rw [List.sum_cons, List.sum_cons]
    refine ⟨by omega, fun e => ?_⟩
    have e1 : x = y := by omega
    have e2 : xs.sum = ys.sum := by omega
    rw [e1, h2 e2]
  | [], _ :: _, h => h.elim
  | _ :: _, [], h => h.elim
theorem le1_le {a b : List Int} (h : le1 a b) : leS a b := by
  obtain ⟨h1, h2⟩ := le1_sum h
  unfold leS ltS ltK
  by_cases e : a.sum = b.sum
  · rw [h2 e]
    simp [lexI_irr]
  · have : ¬ b.sum < a.sum := by omega
    have e' : ¬ b.sum = a.sum := fun z => e z.symm
    simp [this, e']
theorem le1_map {α : Type} {f g : α → Int} : ∀ {l : List α}, (∀ x ∈ l, f x ≤ g x) → le1 (l.map f) (l.map g)
  | [], _ => trivial
  | x :: l, h => ⟨h x List.mem_cons_self, le1_map fun y hy => h y (List.mem_cons_of_mem _ hy)⟩
/-! ### marks, jokers -/
def optsD (ms : List (Option Int)) : D := .list (ms.map jkD)
def full (q : Q) (n : Nat) : Int := (q.rounds[n]?).getD 0 - (((q.struck[n]?).getD []).length : Int)
def mkM (q : Q) (ms : List (Option Int)) (n : Nat) : Option (List Bool × Bool) → Int
  | none => ((ms[n]?).getD none).getD 0
  | some (ts, late) => mark ((q.struck[n]?).getD []) ts late
/-- a table's scores with a joker and marks -/
def scM (q : Q) (t : Nat) (j : Option Int) (ms : List (Option Int)) : List Int := (en (row q t)).map fun p => dbl j p.1 (mkM q ms p.1 p.2)
def fullM (q : Q) (t : Nat) : List (Option Int) := (en (row q t)).map fun p => if p.2.isNone then some (full q p.1) else none
def zeroM (q : Q) (t : Nat) : List (Option Int) := (row q t).map fun s => if s.isNone then some 0 else none
def jks (q : Q) (t : Nat) : List (Option Int) := match joker q t with
  | some i => [some i]
  | none => none :: ((en (row q t)).filter fun p => p.2.isNone).map fun p => some (p.1 : Int)
/-- with all marks -/
def topS (q : Q) (t : Nat) (j : Option Int) : List Int := scM q t j (fullM q t)
def bestJ (q : Q) (t : Nat) : Option Int := (jks q t).tail.foldl (fun b j => if ltS (topS q t b) (topS q t j) then j else b) ((jks q t).headD none)
def bestR (q : Q) (t : Nat) : List Int := topS q t (bestJ q t)
theorem jks_ne (q : Q) (t : Nat) : jks q t = (jks q t).headD none :: (jks q t).tail := by unfold jks; split <;> rfl
theorem foldB_mem {α : Type} {f : α → α → Bool} : ∀ {l : List α} {b : α}, l.foldl (fun b j => if f b j then j else b) b ∈ b :: l
  | [], b => by simp
  | x :: l, b => by
    rw [List.foldl_cons]
    have := foldB_mem (f := f) (l := l) (b := if f b x then x else b)
    rcases List.mem_cons.mp this with h | h
    · rw [h]; split <;> simp
    · exact List.mem_cons_of_mem _ (List.mem_cons_of_mem _ h)
theorem foldB_le {α : Type} {g : α → List Int} : ∀ {l : List α} {b : α}, ∀ y ∈ b :: l, leS (g y) (g (l.foldl (fun b j => if ltS (g b) (g j) then j else b) b))
  | [], b, y, hy => by rw [List.mem_singleton.mp hy]; exact leS_refl _
  | x :: l, b, y, hy => by
    rw [List.foldl_cons]
    have ih := foldB_le (g := g) (l := l) (b := if ltS (g b) (g x) then x else b)
    have h0 := ih _ List.mem_cons_self
    rcases List.mem_cons.mp hy with rfl | hy
    · refine leS_trans ?_ h0
      split
      · rename_i h; exact leS_of_lt h
      · exact leS_refl _
    · rcases List.mem_cons.mp hy with rfl | hy
      · refine leS_trans ?_ h0
        split
        · exact leS_refl _
        · rename_i h; exact (Bool.not_eq_true _).mp h
      · exact ih y (List.mem_cons_of_mem _ hy)
theorem bestJ_mem (q : Q) (t : Nat) : bestJ q t ∈ jks q t := by rw [jks_ne q t]; exact foldB_mem (f := fun b j => ltS (topS q t b) (topS q t j))
theorem best_ge (q : Q) (t : Nat) {j : Option Int} (h : j ∈ jks q t) : leS (topS q t j) (bestR q t) := by rw [jks_ne q t] at h; exact foldB_le (g := topS q t) j h
theorem mark_nn (sk : List Int) (ts : List Bool) (late : Bool) : 0 ≤ mark sk ts late := by
  unfold mark
  split
  · split <;> omega
  · omega
/-- marks that a table can come to have -/
def Fits (q : Q) (t : Nat) (ms : List (Option Int)) : Prop := ∀ (n : Nat), (row q t)[n]? = some none → ∃ m, ms[n]? = some (some m) ∧ 0 ≤ m ∧ m ≤ full q n
theorem joker_mem (q : Q) (t : Nat) : joker q t ∈ jks q t := by unfold jks; split <;> simp_all
theorem dbl_mono {j : Option Int} {n : Nat} {a b : Int} (h : a ≤ b) : dbl j n a ≤ dbl j n b := by unfold dbl; split <;> omega
theorem fullM_get {q : Q} {t n : Nat} {s : Option (List Bool × Bool)} (h : (row q t)[n]? = some s) : (fullM q t)[n]? = some (if s.isNone then some (full q n) else none) := by
  unfold fullM
  rw [List.getElem?_map]
  have hn := (List.getElem?_eq_some_iff.mp h)
  have : (en (row q t))[n]? = some (n, s) := by
    unfold en
    rw [List.getElem?_zip_eq_some]
    exact ⟨List.getElem?_range hn.1, h⟩
  rw [this]
  rfl
theorem zeroM_get {q : Q} {t n : Nat} {s : Option (List Bool × Bool)} (h : (row q t)[n]? = some s) : (zeroM q t)[n]? = some (if s.isNone then some 0 else none) := by
  unfold zeroM
  rw [List.getElem?_map, h]
  rfl
theorem scM_zero (q : Q) (t : Nat) : scM q t (joker q t) (zeroM q t) = has q t := by
  unfold scM has
  refine List.map_congr_left fun p hp => ?_
  obtain ⟨n, s⟩ := p
  have hn := en_mem hp
  cases s with
  | none => simp [mk1, mkM, zeroM_get hn]
  | some s => rfl
theorem has_le {q : Q} {t : Nat} {j : Option Int} {ms : List (Option Int)} (hj : j ∈ jks q t) (hm : Fits q t ms) : leS (has q t) (scM q t j ms) := by
  refine le1_le (le1_map fun p hp => ?_)
  obtain ⟨n, s⟩ := p
  have hn := en_mem hp
  have h0 : mk1 q n s ≤ mkM q ms n s ∧ 0 ≤ mk1 q n s := by
    cases s with
    | none =>
      obtain ⟨m, h1, h2, _⟩ := hm n hn
      simp [mk1, mkM, h1, h2]
    | some s => exact ⟨Int.le_refl _, mark_nn _ _ _⟩
  show dbl (joker q t) n (mk1 q n s) ≤ dbl j n (mkM q ms n s)
  unfold jks at hj
  split at hj
  · rename_i i e
    rw [List.mem_singleton.mp hj, e]
    exact dbl_mono h0.1
  · rename_i e
    rw [e]
    unfold dbl
    simp only [reduceCtorEq, if_false]
    split <;> omega
theorem le_top {q : Q} {t : Nat} {j : Option Int} {ms : List (Option Int)} (hm : Fits q t ms) : leS (scM q t j ms) (topS q t j) := by
  refine le1_le (le1_map fun p hp => dbl_mono ?_)
  obtain ⟨n, s⟩ := p
  have hn := en_mem hp
  cases s with
  | none =>
    obtain ⟨m, h1, _, h3⟩ := hm n hn
    simp [mkM, h1, fullM_get hn, h3]
  | some s => exact Int.le_refl _
/-- all that a table can come to have lies between what it has and its best -/
theorem le_best {q : Q} {t : Nat} {j : Option Int} {ms : List (Option Int)} (hj : j ∈ jks q t) (hm : Fits q t ms) : leS (scM q t j ms) (bestR q t) := leS_trans (le_top hm) (best_ge q t hj)
theorem full_nn {q : Q} (ok : Ok q) (n : Nat) : 0 ≤ full q n := by
  unfold full
  by_cases h : n < q.rounds.length
  · have h1 : q.rounds[n]? = some q.rounds[n] := List.getElem?_eq_getElem h
    have h2 : q.struck[n]? = some (q.struck[n]'(by rw [ok.k1]; exact h)) := List.getElem?_eq_getElem _
    obtain ⟨p, b⟩ := ok.k2 n _ h2
    have b := b _ h1
    rw [h1, h2]
    simp only [Option.getD_some]
    have : ∀ {l : List Int} {lo hi : Int}, l.Pairwise (· < ·) → (∀ x ∈ l, lo ≤ x ∧ x < hi) → lo ≤ hi → (l.length : Int) ≤ hi - lo := by
      intro l
      induction l with
      | nil => intro lo hi _ _ h; simp; omega
      | cons x l ih =>
        intro lo hi hp hx hlh
        rw [List.pairwise_cons] at hp
        have hx0 := hx x List.mem_cons_self
        have := ih (lo := x + 1) (hi := hi) hp.2 (fun y hy => ⟨by have := hp.1 y hy; omega, (hx y (List.mem_cons_of_mem _ hy)).2⟩) (by omega)
        rw [List.length_cons]
        omega
    have := this p b (by have := (ok.r2 n _ h1).1; omega)
    omega
  · rw [List.getElem?_eq_none (by omega), List.getElem?_eq_none (by rw [ok.k1]; omega)]
    simp
theorem fits_full {q : Q} (ok : Ok q) (t : Nat) : Fits q t (fullM q t) := fun n hn => ⟨full q n, by rw [fullM_get hn]; rfl, full_nn ok n, Int.le_refl _⟩
theorem fits_zero {q : Q} (ok : Ok q) (t : Nat) : Fits q t (zeroM q t) := fun n hn => ⟨0, by rw [zeroM_get hn]; rfl, Int.le_refl _, full_nn ok n⟩
theorem has_best {q : Q} (ok : Ok q) (t : Nat) : leS (has q t) (bestR q t) := has_le (bestJ_mem q t) (fits_full ok t)
/-! ### places -/
/-- how many tables are ahead, by rows of scores -/
def place (n t : Nat) (f : Nat → List Int) (g : List Int) : Nat := ((List.range n).filter fun o => o != t && ah (o : Int) (f o) (t : Int) g).length
def reachQ (q : Q) (t : Nat) : Nat × Nat := (place q.jokers.length t (has q) (bestR q t), place q.jokers.length t (bestR q) (has q t))
theorem filter_len_le {α : Type} {p p' : α → Bool} : ∀ {l : List α}, (∀ x ∈ l, p x = true → p' x = true) → (l.filter p).length ≤ (l.filter p').length
  | [], _ => Nat.le_refl _
  | x :: l, h => by
    have ih := filter_len_le (p := p) (p' := p') (l := l) fun y hy => h y (List.mem_cons_of_mem _ hy)
    rw [List.filter_cons, List.filter_cons]
    cases h1 : p x with
    | true => rw [h x List.mem_cons_self h1]; simp; exact ih
    | false => cases p' x <;> simp <;> omega
theorem place_mono {n t : Nat} {f f' : Nat → List Int} {g g' : List Int} (hf : ∀ o, o < n → o ≠ t → leS (f o) (f' o)) (hg : leS g' g) : place n t f g ≤ place n t f' g' := by
  refine filter_len_le fun o ho h => ?_
  rw [Bool.and_eq_true] at h ⊢
  exact ⟨h.1, ah_mono (hf o (List.mem_range.mp ho) (by simpa using h.1)) hg h.2⟩
/-- the place in a line -/
theorem idx_filter {lt : Nat → Nat → Bool} (o : SO lt) {t : Nat} : ∀ {l : List Nat}, Sorted lt l → t ∈ l → idx? (.int (t : Int)) (l.map fun (t : Nat) => PyData.int (t : Int)) = some (l.filter fun x => lt x t).length
  | x :: l, hs, hm => by
    unfold Sorted at hs
    rw [List.pairwise_cons] at hs
    by_cases e : x = t
    · subst e
      have : (x :: l).filter (fun y => lt y x) = [] := by
        rw [List.filter_eq_nil_iff]
        intro y hy h
        rcases List.mem_cons.mp hy with rfl | hy
        · rw [o.irr] at h; cases h
        · have h1 := hs.1 y hy
          have := o.tr _ _ _ h1 h
          rw [o.irr] at this
          cases this
      rw [this, List.map_cons, idx?, eqv_int]
      simp
    · have hm : t ∈ l := by
        rcases List.mem_cons.mp hm with h | h
        · exact absurd h.symm e
        · exact h
      have ih := idx_filter o hs.2 hm
      have : ((x : Int) == (t : Int)) = false := beq_eq_false_iff_ne.mpr (by omega)
      rw [List.map_cons, idx?, eqv_int, this, ih, List.filter_cons, hs.1 t hm]
      rfl
theorem idx_stand (q : Q) {t : Nat} (ht : t < q.jokers.length) : idx? (.int (t : Int)) ((standQ q).map fun (t : Nat) => PyData.int (t : Int)) = some (place q.jokers.length t (has q) (has q t)) := by
  unfold standQ
  rw [idx_filter (lt_so q) (stand_sorted (lt_so q) _) ((stand_perm _).mem_iff.mpr (List.mem_range.mpr ht))]
  congr 1
  rw [((stand_perm (lt := lt q) q.jokers.length).filter _).length_eq]
  unfold place
  congr 1
  refine List.filter_congr fun o _ => ?_
  by_cases e : o = t
  · subst e
    simp [(lt_so q).irr]
  · simp [e, lt]
theorem place_between {q : Q} (ok : Ok q) (t : Nat) : (reachQ q t).1 ≤ place q.jokers.length t (has q) (has q t) ∧ place q.jokers.length t (has q) (has q t) ≤ (reachQ q t).2 :=
  ⟨place_mono (fun _ _ _ => leS_refl _) (has_best ok t), place_mono (fun o _ _ => has_best ok o) (leS_refl _)⟩
/-! ### all that can come -/
def optM : Option Int → List (Option Int)
  | none => [none]
  | some m => (List.range (m + 1).toNat).map fun (i : Nat) => some (i : Int)
def allM (fm : List (Option Int)) : List (List (Option Int)) := fm.foldl (fun found m => found.flatMap fun r => (optM m).map fun o => r ++ [o]) [[]]
def allR (q : Q) (t : Nat) : List (List Int) := (jks q t).flatMap fun j => (allM (fullM q t)).map fun ms => scM q t j ms
theorem allM_snoc (fm : List (Option Int)) (m : Option Int) : allM (fm ++ [m]) = (allM fm).flatMap fun r => (optM m).map fun o => r ++ [o] := by unfold allM; rw [List.foldl_append]; rfl
theorem rev_ind {α : Type} {P : List α → Prop} (h0 : P []) (hs : ∀ l x, P l → P (l ++ [x])) (l : List α) : P l := by
  rw [← List.reverse_reverse l]
  induction l.reverse with
  | nil => exact h0
  | cons x r ih => rw [List.reverse_cons]; exact hs _ _ ih
theorem allM_mem {fm ms : List (Option Int)} : ms ∈ allM fm ↔ ms.length = fm.length ∧ ∀ (n : Nat) (m : Option Int), fm[n]? = some m → ∃ o, ms[n]? = some o ∧ o ∈ optM m := by
  revert ms
  refine rev_ind (P := fun fm => ∀ {ms : List (Option Int)}, ms ∈ allM fm ↔ ms.length = fm.length ∧ ∀ (n : Nat) (m : Option Int), fm[n]? = some m → ∃ o, ms[n]? = some o ∧ o ∈ optM m) ?_ ?_ fm
  · intro ms
    constructor
    · intro h
      have : ms = [] := by simpa [allM] using h
      subst this
      exact ⟨rfl, fun n m h => by simp at h⟩
    · rintro ⟨h, _⟩
      have : ms = [] := List.length_eq_zero_iff.mp (by simpa using h)
      subst this
      simp [allM]
  · intro fm m ih ms
    rw [allM_snoc, List.mem_flatMap]
    constructor
    · rintro ⟨r, hr, h⟩
      obtain ⟨o, ho, rfl⟩ := List.mem_map.mp h
      obtain ⟨h1, h2⟩ := ih.mp hr
      refine ⟨by simp [h1], fun n m' hn => ?_⟩
      by_cases hl : n < fm.length
      · rw [List.getElem?_append_left hl] at hn
        rw [List.getElem?_append_left (by omega)]
        exact h2 n m' hn
      · have : n = fm.length := by
          have := (List.getElem?_eq_some_iff.mp hn).1
          simp at this
          omega
        subst this
        simp at hn
        subst hn
        refine ⟨o, ?_, ho⟩
        rw [← h1]
        simp
    · rintro ⟨h1, h2⟩
      rcases List.eq_nil_or_concat ms with rfl | ⟨r, o, rfl⟩
      · simp at h1
      · rw [List.concat_eq_append] at h1 h2 ⊢
        have hl : r.length = fm.length := by simpa using h1
        refine ⟨r, ih.mpr ⟨hl, fun n m' hn => ?_⟩, List.mem_map.mpr ⟨o, ?_, rfl⟩⟩
        · have hlt := (List.getElem?_eq_some_iff.mp hn).1
          have := h2 n m' (by rw [List.getElem?_append_left hlt]; exact hn)
          rw [List.getElem?_append_left (by omega)] at this
          exact this
        · obtain ⟨o', e1, e2⟩ := h2 fm.length m (by simp)
          rw [← hl] at e1
          simp at e1
          rw [e1]
          exact e2
theorem optM_mem {m : Int} {o : Option Int} (h : o ∈ optM (some m)) : ∃ i : Int, o = some i ∧ 0 ≤ i ∧ i ≤ m := by
  obtain ⟨i, hi, rfl⟩ := List.mem_map.mp h
  have := List.mem_range.mp hi
  exact ⟨i, rfl, by omega, by omega⟩
theorem optM_of {m i : Int} (h0 : 0 ≤ i) (h1 : i ≤ m) : some i ∈ optM (some m) := List.mem_map.mpr ⟨i.toNat, List.mem_range.mpr (by omega), by rw [Int.toNat_of_nonneg h0]⟩
theorem fullM_len (q : Q) (t : Nat) : (fullM q t).length = (row q t).length := by simp [fullM, en_len]
theorem allM_fits {q : Q} {t : Nat} {ms : List (Option Int)} (h : ms ∈ allM (fullM q t)) : Fits q t ms := fun n hn => by
  obtain ⟨o, h1, h2⟩ := (allM_mem.mp h).2 n _ (fullM_get hn)
  obtain ⟨i, rfl, h3, h4⟩ := optM_mem h2
  exact ⟨i, h1, h3, h4⟩
theorem allM_full {q : Q} (ok : Ok q) (t : Nat) : fullM q t ∈ allM (fullM q t) := allM_mem.mpr ⟨rfl, fun n m hn => ⟨m, hn, by
  have hl := (List.getElem?_eq_some_iff.mp hn).1
  rw [fullM_len] at hl
  have h := List.getElem?_eq_getElem hl
  rw [fullM_get h] at hn
  injection hn with hn
  subst hn
  split
  · exact optM_of (full_nn ok n) (Int.le_refl _)
  · exact List.mem_singleton.mpr rfl⟩⟩
theorem allM_zero {q : Q} (ok : Ok q) (t : Nat) : zeroM q t ∈ allM (fullM q t) := allM_mem.mpr ⟨by simp [fullM_len, zeroM], fun n m hn => by
  have hl := (List.getElem?_eq_some_iff.mp hn).1
  rw [fullM_len] at hl
  have h := List.getElem?_eq_getElem hl
  rw [fullM_get h] at hn
  injection hn with hn
  subst hn
  refine ⟨_, zeroM_get h, ?_⟩
  split
  · exact optM_of (Int.le_refl _) (full_nn ok n)
  · exact List.mem_singleton.mpr rfl⟩
theorem allR_le {q : Q} {t : Nat} {r : List Int} (h : r ∈ allR q t) : leS (has q t) r ∧ leS r (bestR q t) := by
  obtain ⟨j, hj, h⟩ := List.mem_flatMap.mp h
  obtain ⟨ms, hm, rfl⟩ := List.mem_map.mp h
  exact ⟨has_le hj (allM_fits hm), le_best hj (allM_fits hm)⟩
theorem has_all {q : Q} (ok : Ok q) (t : Nat) : has q t ∈ allR q t := List.mem_flatMap.mpr ⟨_, joker_mem q t, List.mem_map.mpr ⟨_, allM_zero ok t, scM_zero q t⟩⟩
theorem best_all {q : Q} (ok : Ok q) (t : Nat) : bestR q t ∈ allR q t := List.mem_flatMap.mpr ⟨_, bestJ_mem q t, List.mem_map.mpr ⟨_, allM_full ok t, rfl⟩⟩
/-! ### all together -/
def allC (q : Q) : Nat → List (List (List Int))
  | 0 => [[]]
  | n + 1 => (allC q n).flatMap fun rs => (allR q n).map fun r => rs ++ [r]
theorem allC_mem {q : Q} : ∀ {n : Nat} {rs : List (List Int)}, rs ∈ allC q n ↔ rs.length = n ∧ ∀ t, t < n → rs.getD t [] ∈ allR q t
  | 0, rs => by
    constructor
    · intro h
      have : rs = [] := by simpa [allC] using h
      subst this
      exact ⟨rfl, fun t h => by omega⟩
    · rintro ⟨h, _⟩
      have : rs = [] := List.length_eq_zero_iff.mp h
      subst this
      simp [allC]
  | n + 1, rs => by
    unfold allC
    rw [List.mem_flatMap]
    constructor
    · rintro ⟨r', hr, h⟩
      obtain ⟨o, ho, rfl⟩ := List.mem_map.mp h
      obtain ⟨h1, h2⟩ := allC_mem.mp hr
      refine ⟨by simp [h1], fun t ht => ?_⟩
      by_cases hl : t < n
      · have := h2 t hl
        simpa [List.getD, List.getElem?_append_left (show t < r'.length by omega)] using this
      · have : t = n := by omega
        subst this
        subst h1
        simpa [List.getD] using ho
    · rintro ⟨h1, h2⟩
      rcases List.eq_nil_or_concat rs with rfl | ⟨r', o, rfl⟩
      · simp at h1
      · rw [List.concat_eq_append] at h1 h2 ⊢
        have hl : r'.length = n := by simpa using h1
        refine ⟨r', allC_mem.mpr ⟨hl, fun t ht => ?_⟩, List.mem_map.mpr ⟨o, ?_, rfl⟩⟩
        · have := h2 t (by omega)
          simpa [List.getD, List.getElem?_append_left (show t < r'.length by omega)] using this
        · have := h2 n (by omega)
          subst hl
          simpa [List.getD] using this
/-- the place by rows -/
def placeR (rs : List (List Int)) (t : Nat) : Nat := place rs.length t (fun o => rs.getD o []) (rs.getD t [])
theorem place_congr {n t : Nat} {f f' : Nat → List Int} {g : List Int} (h : ∀ o, o < n → o ≠ t → f o = f' o) : place n t f g = place n t f' g := by
  unfold place
  congr 1
  refine List.filter_congr fun o ho => ?_
  by_cases e : o = t
  · subst e; simp
  · rw [h o (List.mem_range.mp ho) e]
theorem placeR_le {q : Q} {n t : Nat} (ht : t < n) {rs : List (List Int)} (h : rs ∈ allC q n) : place n t (has q) (bestR q t) ≤ placeR rs t ∧ placeR rs t ≤ place n t (bestR q) (has q t) := by
  obtain ⟨h1, h2⟩ := allC_mem.mp h
  unfold placeR
  rw [h1]
  exact ⟨place_mono (fun o ho _ => (allR_le (h2 o ho)).1) (allR_le (h2 t ht)).2, place_mono (fun o ho _ => (allR_le (h2 o ho)).2) (allR_le (h2 t ht)).1⟩
theorem placeR_at {q : Q} {n t : Nat} (ht : t < n) (f : Nat → List Int) (hf : ∀ o, o < n → f o ∈ allR q o) : ∃ rs ∈ allC q n, placeR rs t = place n t f (f t) := by
  have hg : ∀ o, o < n → ((List.range n).map f).getD o [] = f o := fun o ho => by simp [List.getD, List.getElem?_range ho]
  refine ⟨(List.range n).map f, allC_mem.mpr ⟨by simp, fun o ho => by rw [hg o ho]; exact hf o ho⟩, ?_⟩
  unfold placeR
  rw [hg t ht, List.length_map, List.length_range]
  exact place_congr fun o ho _ => hg o ho
theorem minI_is {l : List Int} {x m : Int} (h1 : ∀ y ∈ x :: l, m ≤ y) (h2 : m ∈ x :: l) : minI x l = m := by
  have h3 := h1 _ (minI_mem x l)
  have h4 : minI x l ≤ m := by
    rcases List.mem_cons.mp h2 with rfl | h
    · exact (minI_le _ _).1
    · exact (minI_le _ _).2 _ h
  omega
theorem maxI_is {l : List Int} {x m : Int} (h1 : ∀ y ∈ x :: l, y ≤ m) (h2 : m ∈ x :: l) : maxI x l = m := by
  have h3 := h1 _ (maxI_mem x l)
  have h4 : m ≤ maxI x l := by
    rcases List.mem_cons.mp h2 with rfl | h
    · exact (maxI_ge _ _).1
    · exact (maxI_ge _ _).2 _ h
  omega
/-- the least and the greatest of all places -/
theorem places_are {q : Q} (ok : Ok q) {t : Nat} (ht : t < q.jokers.length) : ∃ x l, (allC q q.jokers.length).map (fun rs => (placeR rs t : Int)) = x :: l ∧ minI x l = ((reachQ q t).1 : Int) ∧ maxI x l = ((reachQ q t).2 : Int) := by
  obtain ⟨r1, a1, b1⟩ := placeR_at ht (fun o => if o = t then bestR q t else has q o) fun o ho => by
    show (if o = t then bestR q t else has q o) ∈ allR q o
    split
    · rename_i e; subst e; exact best_all ok o
    · exact has_all ok o
  obtain ⟨r2, a2, b2⟩ := placeR_at ht (fun o => if o = t then has q t else bestR q o) fun o ho => by
    show (if o = t then has q t else bestR q o) ∈ allR q o
    split
    · rename_i e; subst e; exact has_all ok o
    · exact best_all ok o
  have e1 : (placeR r1 t : Int) = ((reachQ q t).1 : Int) := by
    rw [b1]
    simp only [if_pos]
    rw [place_congr (f' := has q) fun o _ h => if_neg h]
    rfl
  have e2 : (placeR r2 t : Int) = ((reachQ q t).2 : Int) := by
    rw [b2]
    simp only [if_pos]
    rw [place_congr (f' := bestR q) fun o _ h => if_neg h]
    rfl
  have m1 : ((reachQ q t).1 : Int) ∈ (allC q q.jokers.length).map (fun rs => (placeR rs t : Int)) := List.mem_map.mpr ⟨r1, a1, e1⟩
  have m2 : ((reachQ q t).2 : Int) ∈ (allC q q.jokers.length).map (fun rs => (placeR rs t : Int)) := List.mem_map.mpr ⟨r2, a2, e2⟩
  have bd : ∀ y ∈ (allC q q.jokers.length).map (fun rs => (placeR rs t : Int)), ((reachQ q t).1 : Int) ≤ y ∧ y ≤ ((reachQ q t).2 : Int) := fun y hy => by
    obtain ⟨rs, hr, rfl⟩ := List.mem_map.mp hy
    have := placeR_le ht hr
    unfold reachQ
    constructor <;> simp only <;> omega
  match h : (allC q q.jokers.length).map (fun rs => (placeR rs t : Int)) with
  | [] => rw [h] at m1; simp at m1
  | x :: l =>
    rw [h] at m1 m2 bd
    exact ⟨x, l, rfl, minI_is (fun y hy => (bd y hy).1) m1, maxI_is (fun y hy => (bd y hy).2) m2⟩
end Mz

set_option Elab.async false
set_option linter.all false
set_option maxRecDepth 100000
set_option maxHeartbeats 4000000
/-! What the defs about jokers, marks and bests compute. -/
namespace Mz
open PySem L2 Dz
section
variable {F : Nat → List D → Option D} {ρ : List Sl} {a b : L} {q : Q}
theorem q0 (h : evE F a ρ = some (stD q)) : evE F (a.ix (L.c (.int 0))) ρ = some (intsD q.rounds) := ev_ix h ev_c rfl
theorem q1 (h : evE F a ρ = some (stD q)) : evE F (a.ix (L.c (.int 1))) ρ = some (.list (q.jokers.map jkD)) := ev_ix h ev_c rfl
theorem q2 (h : evE F a ρ = some (stD q)) : evE F (a.ix (L.c (.int 2))) ρ = some (.list (q.sheets.map rowD)) := ev_ix h ev_c rfl
theorem q3 (h : evE F a ρ = some (stD q)) : evE F (a.ix (L.c (.int 3))) ρ = some (.list (q.struck.map intsD)) := ev_ix h ev_c rfl
theorem ixn {α : Type} {l : List α} {f : α → D} {n : Nat} {x : α} (h : evE F a ρ = some (.list (l.map f))) (h' : evE F b ρ = some (.int (n : Int))) (hx : l[n]? = some x) : evE F (a.ix b) ρ = some (f x) := ev_ix h h' (by simp only [ixF, Mz.atI_nat, List.getElem?_map, hx, Option.map_some])
theorem lenm {α : Type} {l : List α} {f : α → D} (h : evE F a ρ = some (.list (l.map f))) : evE F (.bi .len (.acons a .anil)) ρ = some (.int (l.length : Int)) := by rw [len_l h, List.length_map]
theorem un_enum {α : Type} {l : List α} {f : α → D} (h : evE F a ρ = some (.list (l.map f))) : (unT (evE F (.acons a .anil) ρ)).bind (srcF .enum) = some ((en l).map fun p => pairD (.int (p.1 : Int)) (f p.2)) := by rw [ev_1 h]; exact src_enum l f
theorem un_seqm {α : Type} {l : List α} {f : α → D} (h : evE F a ρ = some (.list (l.map f))) : (unT (evE F (.acons a .anil) ρ)).bind (srcF .seq) = some (l.map f) := by rw [ev_1 h]; rfl
theorem un_rng {n : Nat} (h : evE F a ρ = some (.int (n : Int))) (hn : n ≤ 100000) : (unT (evE F (.acons a .anil) ρ)).bind (srcF .range1) = some ((List.range n).map fun (i : Nat) => PyData.int (i : Int)) := by rw [ev_1 h]; exact Mz.un_range hn
theorem isN {s : Option (List Bool × Bool)} (h : evE F a ρ = some (shD s)) : evE F (.cmp .is a (.c .none)) ρ = some (.bool s.isNone) := ev_cmp h ev_c (by cases s <;> rfl)
theorem isNj {s : Option Int} (h : evE F a ρ = some (jkD s)) : evE F (.cmp .is a (.c .none)) ρ = some (.bool s.isNone) := ev_cmp h ev_c (by cases s <;> rfl)
theorem notNj {s : Option Int} (h : evE F a ρ = some (jkD s)) : evE F (.cmp .isnot a (.c .none)) ρ = some (.bool s.isSome) := ev_cmp h ev_c (by cases s <;> rfl)
theorem eqJ {j : Option Int} {n : Int} (h : evE F a ρ = some (jkD j)) (h' : evE F b ρ = some (.int n)) : evE F (.cmp .eq a b) ρ = some (.bool (decide (j = some n))) := ev_cmp h h' (by simp only [opC, sh_jk, sh_int, Bool.and_self, if_true, eqv_jk])
theorem neI {i j : Int} (h : evE F a ρ = some (.int i)) (h' : evE F b ρ = some (.int j)) : evE F (.cmp .ne a b) ρ = some (.bool (decide (i ≠ j))) := ev_cmp h h' (by
  simp only [opC, sh_int, Bool.and_self, if_true, eqv_int]
  by_cases e : i = j <;> simp [e])
theorem ev_itef {t : L} {x : Bool} {d e : D} (h : evE F t ρ = some (.bool x)) (h1 : x = true → evE F a ρ = some d) (h2 : x = false → evE F b ρ = some e) : evE F (.ite t a b) ρ = some (if x then d else e) := by
  rw [evE, h]
  cases x
  · exact h2 rfl
  · exact h1 rfl
theorem int1b {x : Bool} (h : evE F a ρ = some (.bool x)) : evE F (.bi .int1 (.acons a .anil)) ρ = some (.int (if x then 1 else 0)) := by rw [ev_bi (ev_1 h)]; rfl
end
theorem row_get {q : Q} (ok : Ok q) {t : Nat} (ht : t < q.jokers.length) : q.sheets[t]? = some (row q t) := by
  unfold row
  rw [List.getElem?_eq_getElem (by rw [ok.s1]; exact ht)]
  rfl
theorem row_len {q : Q} (ok : Ok q) {t : Nat} (ht : t < q.jokers.length) : (row q t).length = q.rounds.length := ok.s2 t _ (row_get ok ht)
theorem joker_get {q : Q} {t : Nat} (ht : t < q.jokers.length) : q.jokers[t]? = some (joker q t) := by
  unfold joker
  rw [List.getElem?_eq_getElem ht]
  rfl
theorem struck_get {q : Q} (ok : Ok q) {n : Nat} (hn : n < q.rounds.length) : q.struck[n]? = some ((q.struck[n]?).getD []) := by
  rw [List.getElem?_eq_getElem (by rw [ok.k1]; exact hn)]
  rfl
theorem rounds_get {q : Q} {n : Nat} (hn : n < q.rounds.length) : q.rounds[n]? = some ((q.rounds[n]?).getD 0) := by
  rw [List.getElem?_eq_getElem hn]
  rfl
theorem row_lt {q : Q} (ok : Ok q) {t : Nat} (ht : t < q.jokers.length) {n : Nat} {s : Option (List Bool × Bool)} (h : (row q t)[n]? = some s) : n < q.rounds.length := by
  rw [← row_len ok ht]
  exact (List.getElem?_eq_some_iff.mp h).1
theorem row_ev {F : Nat → List D → Option D} {ρ : List Sl} {a b : L} {q : Q} (ok : Ok q) {t : Nat} (ht : t < q.jokers.length) (ha : evE F a ρ = some (stD q)) (hb : evE F b ρ = some (.int (t : Int))) : evE F ((a.ix (L.c (PyData.int 2))).ix b) ρ = some (rowD (row q t)) := ixn (f := rowD) (q2 ha) hb (row_get ok ht)
theorem un_row {F : Nat → List D → Option D} {ρ : List Sl} {a b : L} {q : Q} (ok : Ok q) {t : Nat} (ht : t < q.jokers.length) (ha : evE F a ρ = some (stD q)) (hb : evE F b ρ = some (.int (t : Int))) : (unT (evE F (.acons ((a.ix (L.c (PyData.int 2))).ix b) .anil) ρ)).bind (srcF .enum) = some ((en (row q t)).map fun p => pairD (.int (p.1 : Int)) (shD p.2)) := un_enum (l := row q t) (f := shD) (row_ev ok ht ha hb)
theorem struck_ev {F : Nat → List D → Option D} {ρ : List Sl} {a b : L} {q : Q} (ok : Ok q) {n : Nat} (hn : n < q.rounds.length) (ha : evE F a ρ = some (stD q)) (hb : evE F b ρ = some (.int (n : Int))) : evE F ((a.ix (L.c (PyData.int 3))).ix b) ρ = some (intsD ((q.struck[n]?).getD [])) := ixn (f := intsD) (q3 ha) hb (struck_get ok hn)
theorem joker_ev {F : Nat → List D → Option D} {ρ : List Sl} {a b : L} {q : Q} {t : Nat} (ht : t < q.jokers.length) (ha : evE F a ρ = some (stD q)) (hb : evE F b ρ = some (.int (t : Int))) : evE F ((a.ix (L.c (PyData.int 1))).ix b) ρ = some (jkD (joker q t)) := ixn (f := jkD) (q1 ha) hb (joker_get ht)
/-- how many tables -/
theorem nq_ev {F : Nat → List D → Option D} {ρ : List Sl} {a : L} {q : Q} (ha : evE F a ρ = some (stD q)) : evE F (L.bi Bi.len ((a.ix (L.c (PyData.int (1)))).acons L.anil)) ρ = some (.int (q.jokers.length : Int)) := lenm (q1 ha)
/-! ### full -/
def sFull : S := ((S.ret (L.bin BOp.sub (((L.var 0).ix (L.c (PyData.int (0)))).ix (L.var 1)) (L.bi Bi.len ((((L.var 0).ix (L.c (PyData.int (3)))).ix (L.var 1)).acons L.anil)))).seq S.skip)
def IsFull (f : Dz.Sem) : Prop := ∀ (q : Q) (n : Nat), Ok q → n < q.rounds.length → f [stD q, .int n] = some (.ok (.int (full q n)), .none)
theorem full_ev {F : Nat → List D → Option D} {ρ : List Sl} {q : Q} (ok : Ok q) {n : Nat} (hn : n < q.rounds.length) {a b : L} (ha : evE F a ρ = some (stD q)) (hb : evE F b ρ = some (.int (n : Int))) :
    evE F (L.bin BOp.sub ((a.ix (L.c (PyData.int (0)))).ix b) (L.bi Bi.len (((a.ix (L.c (PyData.int (3)))).ix b).acons L.anil))) ρ = some (.int (full q n)) :=
  ev_bin (ixn (f := PyData.int) (q0 ha) hb (rounds_get hn)) (lenm (l := (q.struck[n]?).getD []) (f := PyData.int) (struck_ev ok hn ha hb)) rfl
theorem full_sem (G : Nat → Dz.Sem) : IsFull (semS G ⟨0, false⟩ 0 2 0 sFull) := fun q n ok hn =>
  sem_rt (q := ⟨0, false⟩) (ρ := [.fz (stD q), .fz (.int n)]) rfl rfl (seq_rt (ret_rt rfl (full_ev ok hn (ev_var rfl) (ev_var rfl))))
/-! ### scores with marks -/
def IsMk (f : Dz.Sem) : Prop := ∀ (q : Q) (t n : Nat) (ts : List Bool) (late : Bool), Ok q → t < q.jokers.length → (row q t)[n]? = some (some (ts, late)) → f [stD q, .int n, shD (some (ts, late))] = some (.ok (.int (mark ((q.struck[n]?).getD []) ts late)), .none)
theorem mk_counted {f : Dz.Sem} (h : IsCounted f) : IsMk f := fun q t n ts late ok ht hn => by
  have hr := ok.s3 t _ n ts late (row_get ok ht) hn
  exact h q n _ _ ts late hr (struck_get ok (row_lt ok ht hn)) rfl (ok.r2 n _ hr).2
theorem mk_mark {f : Dz.Sem} (h : IsMark f) : IsMk f := fun q t n ts late ok ht hn => by
  have hr := ok.s3 t _ n ts late (row_get ok ht) hn
  exact h q n _ ts late (struck_get ok (row_lt ok ht hn)) (by have := (ok.r2 n _ hr).2; omega)
/-- marks for all that is missing -/
def Has (q : Q) (t : Nat) (ms : List (Option Int)) : Prop := ∀ n : Nat, (row q t)[n]? = some none → ∃ m, ms[n]? = some (some m)
theorem Fits.has {q : Q} {t : Nat} {ms : List (Option Int)} (h : Fits q t ms) : Has q t ms := fun n hn => let ⟨m, h1, _⟩ := h n hn; ⟨m, h1⟩
def bScM (c : Nat) (dd : L) : S := ((S.set 7 0 ((L.cmp COp.is (L.var 6) (L.c PyData.none)).ite ((L.var 3).ix (L.var 5)) (L.call false c 0 ((L.var 0).acons ((L.var 5).acons ((L.var 6).acons L.anil)))))).seq ((S.mut Mut.append 4 [] 0 (((L.cmp COp.eq (L.var 2) (L.var 5)).ite dd (L.var 7)).acons L.anil)).seq S.skip))
theorem scM_loop {G : Nat → Dz.Sem} {fs : Fs} {c : Nat} (hc : IsMk (G c)) {dd : L} (hd : ∀ (ρ : List Sl) (m : Int), ρ[7]? = some (.fz (.int m)) → evE (okF G) dd ρ = some (.int (2 * m))) {q : Q} (ok : Ok q) {t : Nat} (ht : t < q.jokers.length) {j : Option Int} {ms : List (Option Int)} (hm : Has q t ms) :
    ∃ x5 x6 x7, evS G fs (S.for_ Src.enum ((((L.var 0).ix (L.c (PyData.int (2)))).ix (L.var 1)).acons L.anil) (Tg.many [5, 6]) (bScM c dd)) [.fz (stD q), .fz (.int t), .fz (jkD j), .fz (optsD ms), .own 1 (.list []), .no, .no, .no] = some (.nx [.fz (stD q), .fz (.int t), .fz (jkD j), .fz (optsD ms), .own 1 (intsD (scM q t j ms)), x5, x6, x7]) := by
  have hr := row_len ok ht
  have hr5 := ok.r1.2
  have loop := for_inv (G := G) (q := fs) (k := .enum) (l := ((((L.var 0).ix (L.c (PyData.int (2)))).ix (L.var 1)).acons L.anil)) (g := Tg.many [5, 6]) (b := bScM c dd) (items := en (row q t)) (ρ := [.fz (stD q), .fz (.int t), .fz (jkD j), .fz (optsD ms), .own 1 (.list []), .no, .no, .no]) (fun (p : Nat × Option (List Bool × Bool)) => pairD (.int (p.1 : Int)) (shD p.2)) (fun pre ρ => ∃ x5 x6 x7, ρ = [.fz (stD q), .fz (.int t), .fz (jkD j), .fz (optsD ms), .own 1 (intsD (pre.map fun p => dbl j p.1 (mkM q ms p.1 p.2))), x5, x6, x7]) ⟨_, _, _, rfl⟩ (un_row ok ht (ev_var rfl) (ev_var rfl)) fun pre p post ρ hall ⟨x5, x6, x7, e⟩ => ?_
  · obtain ⟨ρ', h1, x5, x6, x7, rfl⟩ := loop
    exact ⟨x5, x6, x7, h1⟩
  · subst e
    obtain ⟨n, sh⟩ := p
    have hp : (n, sh) ∈ en (row q t) := by rw [hall]; simp
    have hpl : pre.length ≤ 5 := by
      have h1 := en_len (row q t)
      rw [hall, List.length_append] at h1
      omega
    have hn := en_mem hp
    refine ⟨_, [.fz (stD q), .fz (.int t), .fz (jkD j), .fz (optsD ms), .own 1 (.list ((pre.map fun p => dbl j p.1 (mkM q ms p.1 p.2)).map PyData.int ++ [.int (dbl j n (mkM q ms n sh))])), .fz (.int n), .fz (shD sh), .fz (.int (mkM q ms n sh))], rfl, ?_, _, _, _, by rw [List.map_append, intsD, List.map_append]; rfl⟩
    refine (seq_nx (set_nx (d := .int (mkM q ms n sh)) ?_)).trans ((seq_nx (app_nx (ds := (pre.map fun p => dbl j p.1 (mkM q ms p.1 p.2)).map PyData.int) (d := .int (dbl j n (mkM q ms n sh))) rfl ?_ (by simp; omega))).trans rfl)
    · refine ev_ite (x := sh.isNone) (isN (ev_var rfl)) (fun z => ?_) (fun z => ?_)
      · cases sh with
        | none =>
          obtain ⟨m, e⟩ := hm n hn
          refine (ixn (l := ms) (f := jkD) (ev_var rfl) (ev_var rfl) e).trans ?_
          simp [jkD, mkM, e]
        | some p => cases z
      · cases sh with
        | none => cases z
        | some p =>
          obtain ⟨ts, late⟩ := p
          exact ev_call (ev_3 (ev_var rfl) (ev_var rfl) (ev_var rfl)) (okF_of (hc q t n ts late ok ht hn))
    · refine ev_ite (x := decide (j = some (n : Int))) (eqJ (ev_var rfl) (ev_var rfl)) (fun z => ?_) (fun z => ?_)
      · have z := of_decide_eq_true z
        rw [hd _ (mkM q ms n sh) rfl]
        simp only [dbl, if_pos z]
      · have z := of_decide_eq_false z
        rw [ev_var rfl]
        simp only [dbl, if_neg z]
theorem dd_add {F : Nat → List D → Option D} (ρ : List Sl) (m : Int) (h : ρ[7]? = some (.fz (.int m))) : evE F (L.bin BOp.add (L.var 7) (L.var 7)) ρ = some (.int (2 * m)) := by
  rw [ev_bin (ev_var h) (ev_var h) rfl]
  congr 2
  omega
theorem dd_mul {F : Nat → List D → Option D} (ρ : List Sl) (m : Int) (h : ρ[7]? = some (.fz (.int m))) : evE F (L.bin BOp.mul (L.c (PyData.int (2))) (L.var 7)) ρ = some (.int (2 * m)) := ev_bin ev_c (ev_var h) (mulS (by decide))
def IsScM (f : Dz.Sem) : Prop := ∀ (q : Q) (t : Nat) (j : Option Int) (ms : List (Option Int)), Ok q → t < q.jokers.length → Has q t ms → f [stD q, .int t, jkD j, optsD ms] = some (.ok (intsD (scM q t j ms)), .none)
theorem scM_sem {G : Nat → Dz.Sem} {m : Nat} (hm : IsMk (G m)) : IsScM (semS G ⟨1, false⟩ 0 4 4 (sScores m)) := fun q t j ms ok ht h => by
  obtain ⟨x5, x6, x7, l1⟩ := scM_loop (fs := ⟨1, false⟩) hm dd_add ok ht (j := j) h
  exact sem_rt (q := ⟨1, false⟩) rfl rfl ((seq_nx (set_nx (d := .list []) rfl)).trans ((seq_nx l1).trans (seq_rt rfl)))
def sKeyW (c k : Nat) : S := ((S.set 4 1 L.anil.lst).seq ((S.for_ Src.enum ((((L.var 0).ix (L.c (PyData.int (2)))).ix (L.var 1)).acons L.anil) (Tg.many [5, 6]) (bScM c (L.bin BOp.mul (L.c (PyData.int (2))) (L.var 7)))).seq ((S.ret (L.call true k 2 ((L.own1 4).acons L.anil))).seq S.skip)))
def keyS (a : List Int) : D := keyD a.sum (down a)
def IsKeyW (f : Dz.Sem) : Prop := ∀ (q : Q) (t : Nat) (j : Option Int) (ms : List (Option Int)), Ok q → t < q.jokers.length → Has q t ms → f [stD q, .int t, jkD j, optsD ms] = some (.ok (keyS (scM q t j ms)), .none)
theorem keyW_sem {G : Nat → Dz.Sem} {c k : Nat} (hc : IsMk (G c)) (hk : IsKey (G k)) : IsKeyW (semS G ⟨2, false⟩ 0 4 4 (sKeyW c k)) := fun q t j ms ok ht h => by
  obtain ⟨x5, x6, x7, l1⟩ := scM_loop (fs := ⟨2, false⟩) hc dd_mul ok ht (j := j) h
  exact sem_rt (q := ⟨2, false⟩) rfl rfl ((seq_nx (set_nx (d := .list []) rfl)).trans ((seq_nx l1).trans (seq_rt (ret_rt rfl (ev_callB (xs := [intsD (scM q t j ms)]) (ev_1 rfl) (okF_of (hk _)) (flat_key _ _))))))
theorem scores_of {f : Dz.Sem} (h : IsScM f) : IsScores f := fun q t j bl ok ht hl => by
  have e1 : intsD bl = optsD (bl.map some) := by unfold intsD optsD; rw [List.map_map]; rfl
  have hs : scoresB q t j bl = scM q t j (bl.map some) := by
    unfold scoresB scM
    refine List.map_congr_left fun p hp => ?_
    obtain ⟨n, s⟩ := p
    cases s with
    | none =>
      have hn : n < bl.length := by rw [hl]; exact row_lt ok ht (en_mem hp)
      simp [mkB, mkM, List.getD, List.getElem?_eq_getElem hn]
    | some s => rfl
  rw [e1, hs]
  exact h q t j _ ok ht fun n hn => by
    have hn : n < bl.length := by rw [hl]; exact row_lt ok ht hn
    exact ⟨bl[n], by simp [hn]⟩
/-! ### jokers -/
def sJks : S := ((S.ifs (L.cmp COp.isnot (((L.var 0).ix (L.c (PyData.int (1)))).ix (L.var 1)) (L.c PyData.none)) ((S.ret ((((L.var 0).ix (L.c (PyData.int (1)))).ix (L.var 1)).acons L.anil).lst).seq S.skip) S.skip).seq ((S.ret (L.bin BOp.add ((L.c PyData.none).acons L.anil).lst (L.comp Src.enum ((((L.var 0).ix (L.c (PyData.int (2)))).ix (L.var 1)).acons L.anil) (Tg.many [2, 3]) [2, 3] (L.cmp COp.is (L.var 3) (L.c PyData.none)) (L.var 2)))).seq S.skip))
def IsJks (f : Dz.Sem) : Prop := ∀ (q : Q) (t : Nat), Ok q → t < q.jokers.length → f [stD q, .int t] = some (.ok (optsD (jks q t)), .none)
theorem jks_sem (G : Nat → Dz.Sem) {kf : Nat} : IsJks (semS G ⟨kf, false⟩ 0 2 2 sJks) := fun q t ok ht => by
  have hj : evE (okF G) (((L.var 0).ix (L.c (PyData.int (1)))).ix (L.var 1)) [.fz (stD q), .fz (.int t), .no, .no] = some (jkD (joker q t)) := joker_ev ht (ev_var rfl) (ev_var rfl)
  have hc := notNj hj
  cases e : joker q t with
  | some i =>
    rw [e] at hc hj
    refine sem_rt (q := ⟨kf, false⟩) (ρ := [.fz (stD q), .fz (.int t), .no, .no]) rfl rfl ?_
    refine seq_rt ((ifs_t hc).trans (seq_rt (ret_rt rfl ((ev_lst (ev_1 hj) (by simp)).trans ?_))))
    simp [jks, e, optsD]
  | none =>
    rw [e] at hc
    refine sem_rt (q := ⟨kf, false⟩) (ρ := [.fz (stD q), .fz (.int t), .no, .no]) rfl rfl ?_
    refine (seq_nx ((ifs_f hc).trans skip_nx)).trans (seq_rt (ret_rt rfl (ev_bin (ev_lst (ev_1 ev_c) (by simp)) (evE_comp (items := en (row q t)) (fun p => pairD (.int (p.1 : Int)) (shD p.2)) (fun p => p.2.isNone) (fun p => .int (p.1 : Int)) (un_row ok ht (ev_var rfl) (ev_var rfl)) ?_ fun p hp => ⟨[.fz (stD q), .fz (.int t), .fz (.int (p.1 : Int)), .fz (shD p.2)], rfl, isN (ev_var rfl), fun _ => ev_var rfl⟩) ?_)))
    · have := row_len ok ht
      have := ok.r1
      rw [en_len]
      omega
    · rw [opB, if_pos]
      · simp only [jks, e, optsD, List.map_cons, List.map_map]
        rfl
      · refine lim_le ?_
        rw [List.length_map]
        have := List.length_filter_le (fun (p : Nat × Option (List Bool × Bool)) => p.2.isNone) (en (row q t))
        rw [en_len, row_len ok ht] at this
        have := ok.r1
        simp
        omega
/-! ### all marks -/
theorem fullM_ev {F : Nat → List D → Option D} : True := trivial
def sLFull : S := ((S.set 2 1 L.anil.lst).seq ((S.for_ Src.enum ((((L.var 0).ix (L.c (PyData.int (2)))).ix (L.var 1)).acons L.anil) (Tg.many [3, 4]) ((S.mut Mut.append 2 [] 0 (((L.cmp COp.is (L.var 4) (L.c PyData.none)).ite (L.bin BOp.sub (((L.var 0).ix (L.c (PyData.int (0)))).ix (L.var 3)) (L.bi Bi.len ((((L.var 0).ix (L.c (PyData.int (3)))).ix (L.var 3)).acons L.anil))) (L.c PyData.none)).acons L.anil)).seq S.skip)).seq ((S.retO 2).seq S.skip)))
def IsLFull (f : Dz.Sem) : Prop := ∀ (q : Q) (t : Nat), Ok q → t < q.jokers.length → f [stD q, .int t] = some (.ok (optsD (fullM q t)), .none)
theorem lfull_sem (G : Nat → Dz.Sem) : IsLFull (semS G ⟨1, false⟩ 0 2 3 sLFull) := fun q t ok ht => by
  have hr := row_len ok ht
  have hr5 := ok.r1.2
  have loop := for_inv (G := G) (q := ⟨1, false⟩) (k := .enum) (l := ((((L.var 0).ix (L.c (PyData.int (2)))).ix (L.var 1)).acons L.anil)) (g := Tg.many [3, 4]) (b := ((S.mut Mut.append 2 [] 0 (((L.cmp COp.is (L.var 4) (L.c PyData.none)).ite (L.bin BOp.sub (((L.var 0).ix (L.c (PyData.int (0)))).ix (L.var 3)) (L.bi Bi.len ((((L.var 0).ix (L.c (PyData.int (3)))).ix (L.var 3)).acons L.anil))) (L.c PyData.none)).acons L.anil)).seq S.skip)) (items := en (row q t)) (ρ := [.fz (stD q), .fz (.int t), .own 1 (.list []), .no, .no]) (fun (p : Nat × Option (List Bool × Bool)) => pairD (.int (p.1 : Int)) (shD p.2)) (fun pre ρ => ∃ x3 x4, ρ = [.fz (stD q), .fz (.int t), .own 1 (optsD (pre.map fun p => if p.2.isNone then some (full q p.1) else none)), x3, x4]) ⟨_, _, rfl⟩ (un_row ok ht (ev_var rfl) (ev_var rfl)) fun pre p post ρ hall ⟨x3, x4, e⟩ => ?_
  · obtain ⟨ρ', l1, x3, x4, rfl⟩ := loop
    exact sem_rt (q := ⟨1, false⟩) rfl rfl ((seq_nx (set_nx (d := .list []) rfl)).trans ((seq_nx l1).trans (seq_rt rfl)))
  · subst e
    obtain ⟨n, sh⟩ := p
    have hp : (n, sh) ∈ en (row q t) := by rw [hall]; simp
    have hpl : pre.length ≤ 5 := by
      have h1 := en_len (row q t)
      rw [hall, List.length_append] at h1
      omega
    have hn := en_mem hp
    refine ⟨_, [.fz (stD q), .fz (.int t), .own 1 (.list ((pre.map fun p => if p.2.isNone then some (full q p.1) else none).map jkD ++ [jkD (if sh.isNone then some (full q n) else none)])), .fz (.int n), .fz (shD sh)], rfl, ?_, _, _, by rw [List.map_append, optsD, List.map_append]; rfl⟩
    refine (seq_nx (app_nx (ds := (pre.map fun p => if p.2.isNone then some (full q p.1) else none).map jkD) (d := jkD (if sh.isNone then some (full q n) else none)) rfl ?_ (by simp; omega))).trans rfl
    refine ev_ite (x := sh.isNone) (isN (ev_var rfl)) (fun z => ?_) (fun z => ?_)
    · rw [z]
      exact full_ev ok (row_lt ok ht hn) (ev_var rfl) (ev_var rfl)
    · rw [z]
      exact ev_c
/-! ### greatest -/
def sGreat (fu jo kw : Nat) : S := ((S.set 2 0 (L.comp Src.enum ((((L.var 0).ix (L.c (PyData.int (2)))).ix (L.var 1)).acons L.anil) (Tg.many [3, 4]) [3, 4] (L.c (PyData.bool true)) ((L.cmp COp.is (L.var 4) (L.c PyData.none)).ite (L.call false fu 0 ((L.var 0).acons ((L.var 3).acons L.anil))) (L.c PyData.none)))).seq ((S.set 5 0 (L.c PyData.none)).seq ((S.for_ Src.seq ((L.call false jo 1 ((L.var 0).acons ((L.var 1).acons L.anil))).acons L.anil) (Tg.one 6) ((S.set 7 0 (L.call false kw 2 ((L.var 0).acons ((L.var 1).acons ((L.var 6).acons ((L.var 2).acons L.anil)))))).seq ((S.ifs ((L.cmp COp.is (L.var 5) (L.c PyData.none)).or (L.cmp COp.gt (L.var 7) ((L.var 5).ix (L.c (PyData.int (0)))))) ((S.set 5 0 ((L.var 7).acons ((L.var 6).acons L.anil)).tup).seq S.skip) S.skip).seq S.skip))).seq ((S.ret (((L.var 5).ix (L.c (PyData.int (1)))).acons ((L.var 2).acons (((L.var 5).ix (L.c (PyData.int (0)))).acons L.anil))).tup).seq S.skip))))
def IsGreat (f : Dz.Sem) : Prop := ∀ (q : Q) (t : Nat), Ok q → t < q.jokers.length → f [stD q, .int t] = some (.ok (.tuple [jkD (bestJ q t), optsD (fullM q t), keyS (bestR q t)]), .none)
/-- the best of those that have come -/
def bestD (q : Q) (t : Nat) : List (Option Int) → D
  | [] => .none
  | j :: js => .tuple [keyS (topS q t (js.foldl (fun b j => if ltS (topS q t b) (topS q t j) then j else b) j)), jkD (js.foldl (fun b j => if ltS (topS q t b) (topS q t j) then j else b) j)]
theorem gt_keyS (a b : List Int) : opC .gt (keyS a) (keyS b) = some (ltS b a) := gt_key _ _ _ _
theorem great_sem {G : Nat → Dz.Sem} {fu jo kw : Nat} (hf : IsFull (G fu)) (hj : IsJks (G jo)) (hw : IsKeyW (G kw)) : IsGreat (semS G ⟨0, false⟩ 0 2 6 (sGreat fu jo kw)) := fun q t ok ht => by
  have hr := row_len ok ht
  have hr5 := ok.r1.2
  have hfits := (fits_full ok t).has
  have e1 : evE (okF G) (L.comp Src.enum ((((L.var 0).ix (L.c (PyData.int (2)))).ix (L.var 1)).acons L.anil) (Tg.many [3, 4]) [3, 4] (L.c (PyData.bool true)) ((L.cmp COp.is (L.var 4) (L.c PyData.none)).ite (L.call false fu 0 ((L.var 0).acons ((L.var 3).acons L.anil))) (L.c PyData.none))) [.fz (stD q), .fz (.int t), .no, .no, .no, .no, .no, .no] = some (optsD (fullM q t)) := by
    refine (evE_comp' (items := en (row q t)) (fun p => pairD (.int (p.1 : Int)) (shD p.2)) (fun p => jkD (if p.2.isNone then some (full q p.1) else none)) (un_row ok ht (ev_var rfl) (ev_var rfl)) (by rw [en_len]; omega) fun p hp => ⟨[.fz (stD q), .fz (.int t), .no, .fz (.int (p.1 : Int)), .fz (shD p.2), .no, .no, .no], rfl, ev_ite (x := p.2.isNone) (isN (ev_var rfl)) (fun z => ?_) (fun z => ?_)⟩).trans ?_
    · rw [z]
      exact ev_call (ev_2 (ev_var rfl) (ev_var rfl)) (okF_of (hf q p.1 ok (row_lt ok ht (en_mem (x := p.2) hp))))
    · rw [z]
      exact ev_c
    · unfold optsD fullM
      rw [List.map_map]
      rfl
  have loop := for_inv (G := G) (q := ⟨0, false⟩) (k := .seq) (l := (L.call false jo 1 ((L.var 0).acons ((L.var 1).acons L.anil))).acons L.anil) (g := Tg.one 6) (b := ((S.set 7 0 (L.call false kw 2 ((L.var 0).acons ((L.var 1).acons ((L.var 6).acons ((L.var 2).acons L.anil)))))).seq ((S.ifs ((L.cmp COp.is (L.var 5) (L.c PyData.none)).or (L.cmp COp.gt (L.var 7) ((L.var 5).ix (L.c (PyData.int (0)))))) ((S.set 5 0 ((L.var 7).acons ((L.var 6).acons L.anil)).tup).seq S.skip) S.skip).seq S.skip))) (items := jks q t) (ρ := [.fz (stD q), .fz (.int t), .fz (optsD (fullM q t)), .no, .no, .fz .none, .no, .no]) jkD (fun pre ρ => ∃ x6 x7, ρ = [.fz (stD q), .fz (.int t), .fz (optsD (fullM q t)), .no, .no, .fz (bestD q t pre), x6, x7]) ⟨_, _, rfl⟩ (un_seqm (ev_call (ev_2 (ev_var rfl) (ev_var rfl)) (okF_of (hj q t ok ht)))) fun pre j post ρ hall ⟨x6, x7, e⟩ => ?_
  · obtain ⟨ρ', l1, x6, x7, rfl⟩ := loop
    refine sem_rt (q := ⟨0, false⟩) rfl rfl ((seq_nx (set_nx e1)).trans ((seq_nx (set_nx (d := .none) ev_c)).trans ((seq_nx l1).trans (seq_rt (ret_rt rfl (ev_tup (ev_3 (ev_ix (x := .tuple [keyS (bestR q t), jkD (bestJ q t)]) (ev_var ?_) ev_c rfl) (ev_var rfl) (ev_ix (x := .tuple [keyS (bestR q t), jkD (bestJ q t)]) (ev_var ?_) ev_c rfl)) (by simp)))))))
    all_goals
      rw [jks_ne q t]
      rfl
  · subst e
    have h7 : evE (okF G) (L.call false kw 2 ((L.var 0).acons ((L.var 1).acons ((L.var 6).acons ((L.var 2).acons L.anil))))) [.fz (stD q), .fz (.int t), .fz (optsD (fullM q t)), .no, .no, .fz (bestD q t pre), .fz (jkD j), x7] = some (keyS (topS q t j)) := ev_call (ev_4 (ev_var rfl) (ev_var rfl) (ev_var rfl) (ev_var rfl)) (okF_of (hw q t j _ ok ht hfits))
    cases pre with
    | nil =>
      exact ⟨_, _, rfl, (seq_nx (set_nx h7)).trans ((seq_nx ((ifs_t (or_t (ev_cmp (ev_var rfl) ev_c rfl))).trans (seq_nx (set_nx (ev_tup (ev_2 (ev_var rfl) (ev_var rfl)) (by simp)))))).trans rfl), _, _, rfl⟩
    | cons j0 js =>
      have hg : evE (okF G) (L.cmp COp.gt (L.var 7) ((L.var 5).ix (L.c (PyData.int (0))))) [.fz (stD q), .fz (.int t), .fz (optsD (fullM q t)), .no, .no, .fz (bestD q t (j0 :: js)), .fz (jkD j), .fz (keyS (topS q t j))] = some (.bool (ltS (topS q t (js.foldl (fun b j => if ltS (topS q t b) (topS q t j) then j else b) j0)) (topS q t j))) := ev_cmp (ev_var rfl) (ev_ix (ev_var rfl) ev_c rfl) (gt_keyS _ _)
      have hc : evE (okF G) ((L.cmp COp.is (L.var 5) (L.c PyData.none)).or (L.cmp COp.gt (L.var 7) ((L.var 5).ix (L.c (PyData.int (0)))))) [.fz (stD q), .fz (.int t), .fz (optsD (fullM q t)), .no, .no, .fz (bestD q t (j0 :: js)), .fz (jkD j), .fz (keyS (topS q t j))] = some (.bool (ltS (topS q t (js.foldl (fun b j => if ltS (topS q t b) (topS q t j) then j else b) j0)) (topS q t j))) := ev_or (x := false) (ev_cmp (ev_var rfl) ev_c rfl) fun _ => hg
      have hb : bestD q t (j0 :: js ++ [j]) = if ltS (topS q t (js.foldl (fun b j => if ltS (topS q t b) (topS q t j) then j else b) j0)) (topS q t j) then .tuple [keyS (topS q t j), jkD j] else bestD q t (j0 :: js) := by
        rw [List.cons_append, bestD, bestD, List.foldl_append, List.foldl_cons, List.foldl_nil]
        split <;> rfl
      cases hl : ltS (topS q t (js.foldl (fun b j => if ltS (topS q t b) (topS q t j) then j else b) j0)) (topS q t j) with
      | true =>
        rw [hl] at hc hb
        exact ⟨_, _, rfl, (seq_nx (set_nx h7)).trans ((seq_nx ((ifs_t hc).trans (seq_nx (set_nx (ev_tup (ev_2 (ev_var rfl) (ev_var rfl)) (by simp)))))).trans rfl), _, _, by rw [hb]; rfl⟩
      | false =>
        rw [hl] at hc hb
        exact ⟨_, _, rfl, (seq_nx (set_nx h7)).trans ((seq_nx ((ifs_f hc).trans skip_nx)).trans rfl), _, _, by rw [hb]; rfl⟩
end Mz

set_option Elab.async false
set_option linter.all false
set_option maxRecDepth 100000
set_option maxHeartbeats 4000000
/-! Going through statements backwards: what is to hold behind them. -/
namespace Mz
open PySem L2 Dz
/-- a statement ends, and what then holds: N where it goes on, T where it is left -/
def Ev (G : Nat → Dz.Sem) (q : Fs) (s : S) (ρ : List Sl) (N : List Sl → Prop) (T : Out → Prop) : Prop := ∃ o, evS G q s ρ = some o ∧ match o with
  | .nx ρ' => N ρ'
  | o => T o
def Rt (d : D) : Out → Prop := fun o => ∃ ρ, o = .rt ρ d
def Never (ρ : List Sl) : Prop := False
section
variable {G : Nat → Dz.Sem} {q : Fs} {ρ ρ' : List Sl} {a b s : S} {N : List Sl → Prop} {T : Out → Prop}
theorem w_nx (h : evS G q s ρ = some (.nx ρ')) (k : N ρ') : Ev G q s ρ N T := ⟨_, h, k⟩
theorem w_skip (k : N ρ) : Ev G q .skip ρ N T := w_nx skip_nx k
theorem w_seq (h : Ev G q a ρ (fun ρ1 => Ev G q b ρ1 N T) T) : Ev G q (.seq a b) ρ N T := by
  obtain ⟨o, h1, h2⟩ := h
  cases o with
  | nx ρ1 =>
    obtain ⟨o, h3, h4⟩ := h2
    exact ⟨o, (seq_nx h1).trans h3, h4⟩
  | rt ρ1 d => exact ⟨_, seq_rt h1, h2⟩
  | ex ρ1 c => exact ⟨_, seq_ex h1, h2⟩
theorem w_set {i k : Nat} {e : L} {d : D} (h : evE (okF G) e ρ = some d) (n : N (ρ.set i (if k = 0 then .fz d else .own k d))) : Ev G q (.set i k e) ρ N T := w_nx (set_nx h) n
theorem s_set {i k : Nat} {e : L} {d : D} (h : evE (okF G) e ρ = some d) (n : Ev G q b (ρ.set i (if k = 0 then .fz d else .own k d)) N T) : Ev G q (.seq (.set i k e) b) ρ N T := w_seq (w_set h n)
theorem setT_nx {gs : List (Nat × Nat)} {e : L} {ds : List D} (h : evE (okF G) e ρ = some (.tuple ds)) (h' : setG gs ds ρ = some ρ') : evS G q (.setT gs e) ρ = some (.nx ρ') := by
  rw [evS, h]
  show (setG gs ds ρ).map _ = _
  rw [h']
  rfl
theorem s_setT {gs : List (Nat × Nat)} {e : L} {ds : List D} (h : evE (okF G) e ρ = some (.tuple ds)) (h' : setG gs ds ρ = some ρ') (n : Ev G q b ρ' N T) : Ev G q (.seq (.setT gs e) b) ρ N T := w_seq (w_nx (setT_nx h h') n)
theorem s_app {i : Nat} {e : L} {ds : List D} {d : D} (h : ρ[i]? = some (.own 1 (.list ds))) (he : evE (okF G) e ρ = some d) (hl : ds.length < 100000) (n : Ev G q b (ρ.set i (.own 1 (.list (ds ++ [d])))) N T) : Ev G q (.seq (.mut .append i [] 0 (.acons e .anil)) b) ρ N T := w_seq (w_nx (app_nx h he hl) n)
theorem ext_nx {i : Nat} {e : L} {ds es : List D} (h : ρ[i]? = some (.own 1 (.list ds))) (he : evE (okF G) e ρ = some (.list es)) (hl : ds.length + es.length ≤ 100000) : evS G q (.mut .extend i [] 0 (.acons e .anil)) ρ = some (.nx (ρ.set i (.own 1 (.list (ds ++ es))))) := by
  rw [evS]
  have h1 : slotO ρ i (([] : List Pst).length + 0 + 1) = some (.list ds) := by unfold slotO; rw [h]; rfl
  rw [h1, Option.bind_some, evP, Option.bind_some, ev_1 he]
  have hl' : lim (ds.length + es.length) = true := decide_eq_true hl
  simp only [unT, Option.bind_some, getP, mutF, hl', if_true, setP, Option.map_some, List.length_nil, Nat.zero_add]
theorem s_ext {i : Nat} {e : L} {ds es : List D} (h : ρ[i]? = some (.own 1 (.list ds))) (he : evE (okF G) e ρ = some (.list es)) (hl : ds.length + es.length ≤ 100000) (n : Ev G q b (ρ.set i (.own 1 (.list (ds ++ es)))) N T) : Ev G q (.seq (.mut .extend i [] 0 (.acons e .anil)) b) ρ N T := w_seq (w_nx (ext_nx h he hl) n)
theorem put1_nx {i n : Nat} {e x : L} {ds : List D} {y : D} (h : ρ[i]? = some (.own 1 (.list ds))) (he : evE (okF G) e ρ = some y) (hx : evE (okF G) x ρ = some (.int (n : Int))) (hl : n < ds.length) : evS G q (.put i [] x 0 e) ρ = some (.nx (ρ.set i (.own 1 (.list (ds.set n y))))) := by
  rw [evS]
  have h1 : slotO ρ i (([] : List Pst).length + 0 + 1) = some (.list ds) := by unfold slotO; rw [h]; rfl
  have h2 : setI ds (n : Int) y = some (ds.set n y) := by
    unfold setI ixN
    rw [if_pos (by omega), if_pos (by omega)]
    rfl
  rw [h1, Option.bind_some, he, Option.bind_some, evP, Option.bind_some, hx]
  simp only [getP, h2, Option.bind_some, setP, Option.map_some, List.length_nil, Nat.zero_add]
theorem s_put1 {i n : Nat} {e x : L} {ds : List D} {y : D} (h : ρ[i]? = some (.own 1 (.list ds))) (he : evE (okF G) e ρ = some y) (hx : evE (okF G) x ρ = some (.int (n : Int))) (hl : n < ds.length) (k : Ev G q b (ρ.set i (.own 1 (.list (ds.set n y)))) N T) : Ev G q (.seq (.put i [] x 0 e) b) ρ N T := w_seq (w_nx (put1_nx h he hx hl) k)
theorem w_if {t : L} {c : Bool} (h : evE (okF G) t ρ = some (.bool c)) (h1 : c = true → Ev G q a ρ N T) (h2 : c = false → Ev G q b ρ N T) : Ev G q (.ifs t a b) ρ N T := by
  cases c with
  | true => obtain ⟨o, e, k⟩ := h1 rfl; exact ⟨o, (ifs_t h).trans e, k⟩
  | false => obtain ⟨o, e, k⟩ := h2 rfl; exact ⟨o, (ifs_f h).trans e, k⟩
theorem w_ift {t : L} (h : evE (okF G) t ρ = some (.bool true)) (h1 : Ev G q a ρ N T) : Ev G q (.ifs t a b) ρ N T := w_if h (fun _ => h1) (fun z => by cases z)
theorem w_iff {t : L} (h : evE (okF G) t ρ = some (.bool false)) (h1 : Ev G q b ρ N T) : Ev G q (.ifs t a b) ρ N T := w_if h (fun z => by cases z) (fun _ => h1)
/-- nothing is done -/
theorem s_no {t : L} (h : evE (okF G) t ρ = some (.bool false)) (n : Ev G q b ρ N T) : Ev G q (.seq (.ifs t a .skip) b) ρ N T := w_seq (w_iff h (w_skip n))
theorem w_for {α : Type} {k : Src} {l : L} {g : Tg} {items : List α} (emb : α → D) (I : List α → List Sl → Prop) (h0 : I [] ρ) (hs : (unT (evE (okF G) l ρ)).bind (srcF k) = some (items.map emb))
    (st : ∀ (pre : List α) (x : α) (post : List α) (ρ : List Sl), items = pre ++ x :: post → I pre ρ → ∃ ρ1, bindT g (emb x) ρ = some ρ1 ∧ Ev G q b ρ1 (I (pre ++ [x])) T) (n : ∀ ρ', I items ρ' → N ρ') : Ev G q (.for_ k l g b) ρ N T := by
  have go : ∀ {its pre : List α} {ρ : List Sl}, items = pre ++ its → I pre ρ → ∃ o, forGo (evS G q b) g (its.map emb) ρ = some o ∧ match o with
      | .nx ρ' => N ρ'
      | o => T o := by
    intro its
    induction its with
    | nil => intro pre ρ e h; exact ⟨_, rfl, n _ (by rw [e, List.append_nil]; exact h)⟩
    | cons x its ih =>
      intro pre ρ e h
      obtain ⟨ρ1, h1, o, h2, h3⟩ := st pre x its ρ e h
      rw [List.map_cons, forGo, h1, Option.bind_some, h2, Option.bind_some]
      cases o with
      | nx ρ2 => exact ih (pre := pre ++ [x]) (by rw [e]; simp) h3
      | rt ρ2 d => exact ⟨_, rfl, h3⟩
      | ex ρ2 c => exact ⟨_, rfl, h3⟩
  obtain ⟨o, h1, h2⟩ := go (its := items) (pre := []) rfl h0
  refine ⟨o, ?_, h2⟩
  rw [evS, hs]
  exact h1
theorem w_ret {e : L} {d : D} (hq : q.io = false) (h : evE (okF G) e ρ = some d) (k : T (.rt ρ d)) : Ev G q (.ret e) ρ N T := ⟨_, ret_rt hq h, k⟩
theorem s_ret {e : L} {d : D} (hq : q.io = false) (h : evE (okF G) e ρ = some d) (k : T (.rt ρ d)) : Ev G q (.seq (.ret e) b) ρ N T := w_seq (w_ret hq h k)
theorem s_retO {i k : Nat} {d : D} (hq : q.io = false) (h : ρ[i]? = some (.own k d)) (hk : q.kf ≤ k) (t : T (.rt ρ d)) : Ev G q (.seq (.retO i) b) ρ N T := by
  refine w_seq ⟨.rt ρ d, ?_, t⟩
  rw [evS, h]
  show (if _ then _ else _) = _
  rw [hq, if_pos]
  rw [decide_eq_true hk]
  rfl
theorem s_exprX {b' : Bool} {f k : Nat} {e : L} {xs : List D} {d s : D} (h : evE (okF G) e ρ = some (.tuple xs)) (hf : G f xs = some (.ok d, s)) (n : Ev G q b ρ N T) : Ev G q (.seq (.exprX b' f k e) b) ρ N T := w_seq (w_nx (exprX_nx h hf) n)
theorem w_frz {i k : Nat} {d : D} (h : ρ[i]? = some (.own k d) ∨ ρ[i]? = some (.fz d)) (n : N (ρ.set i (.fz d))) : Ev G q (.frz i) ρ N T := w_nx (frz_nx h) n
theorem sem_ev {kio np nl : Nat} {ds : List D} {d : D} (hq : q.io = false) (hl : ds.length = np) (h : Ev G q s (slots0 nl q kio ds) Never (Rt d)) : semS G q kio np nl s ds = some (.ok d, .none) := by
  obtain ⟨o, h1, h2⟩ := h
  cases o with
  | nx ρ => exact h2.elim
  | rt ρ d' =>
    obtain ⟨ρ2, e⟩ := h2
    cases e
    exact sem_rt hq hl h1
  | ex ρ c =>
    obtain ⟨ρ2, e⟩ := h2
    cases e
theorem rt_ok {d : D} : Rt d (.rt ρ d) := ⟨ρ, rfl⟩
end
end Mz

set_option Elab.async false
set_option linter.all false
set_option maxRecDepth 100000
set_option maxHeartbeats 4000000
/-! What the defs about places compute. -/
namespace Mz
open PySem L2 Dz

/-- how many of some are ahead -/
def cntP (pre : List Nat) (t : Nat) (f : Nat → List Int) (g : List Int) : Nat := (pre.filter fun o => o != t && ah (o : Int) (f o) (t : Int) g).length
theorem cntP_snoc {pre : List Nat} {o t : Nat} {f : Nat → List Int} {g : List Int} (h : o ≠ t) : (cntP (pre ++ [o]) t f g : Int) = cntP pre t f g + (if ah (o : Int) (f o) (t : Int) g then 1 else 0) := by
  unfold cntP
  rw [List.filter_append, List.length_append]
  have : (o != t) = true := by simpa using h
  rw [List.filter_cons, this, Bool.true_and]
  split <;> simp
theorem cntP_same {pre : List Nat} {t : Nat} {f : Nat → List Int} {g : List Int} : cntP (pre ++ [t]) t f g = cntP pre t f g := by
  unfold cntP
  rw [List.filter_append, List.length_append]
  simp
def IsReach (f : Dz.Sem) : Prop := ∀ (q : Q) (t : Nat), Ok q → t < q.jokers.length → f [stD q, .int t] = some (.ok (.tuple [.int ((reachQ q t).1 : Int), .int ((reachQ q t).2 : Int)]), .none)
def sReach (as ta gr lk ah : Nat) : S := ((S.exprX false as 0 ((L.var 0).acons L.anil)).seq ((S.exprX false ta 0 ((L.var 0).acons ((L.var 1).acons L.anil))).seq ((S.setT [(2, 0), (3, 0)] (((L.call false gr 0 ((L.var 0).acons ((L.var 1).acons L.anil))).ix (L.c (PyData.int (2)))).acons ((L.call false lk 2 ((L.var 0).acons ((L.var 1).acons L.anil))).acons L.anil)).tup).seq ((S.setT [(4, 0), (5, 0)] ((L.c (PyData.int (0))).acons ((L.c (PyData.int (0))).acons L.anil)).tup).seq ((S.for_ Src.range1 ((L.bi Bi.len (((L.var 0).ix (L.c (PyData.int (1)))).acons L.anil)).acons L.anil) (Tg.one 6) ((S.ifs (L.cmp COp.ne (L.var 6) (L.var 1)) ((S.set 4 0 (L.bin BOp.add (L.var 4) (L.bi Bi.int1 ((L.call false ah 0 ((L.var 6).acons ((L.call false lk 2 ((L.var 0).acons ((L.var 6).acons L.anil))).acons ((L.var 1).acons ((L.var 2).acons L.anil))))).acons L.anil)))).seq ((S.set 5 0 (L.bin BOp.add (L.var 5) (L.bi Bi.int1 ((L.call false ah 0 ((L.var 6).acons (((L.call false gr 0 ((L.var 0).acons ((L.var 6).acons L.anil))).ix (L.c (PyData.int (2)))).acons ((L.var 1).acons ((L.var 3).acons L.anil))))).acons L.anil)))).seq S.skip)) S.skip).seq S.skip)).seq ((S.ret ((L.var 4).acons ((L.var 5).acons L.anil)).tup).seq S.skip))))))
theorem ah_key {f : Dz.Sem} (h : IsAhead f) (i j : Int) (a b : List Int) : f [.int i, keyS a, .int j, keyS b] = some (.ok (.bool (ah i a j b)), .none) := h _ _ _ _ _ _
theorem reach_sem {G : Nat → Dz.Sem} {as ta gr lk ah : Nat} (has : IsAskS (G as)) (hta : IsAskT (G ta)) (hg : IsGreat (G gr)) (hl : IsLeast (G lk)) (ha : IsAhead (G ah)) {kf : Nat} : IsReach (semS G ⟨kf, false⟩ 0 2 5 (sReach as ta gr lk ah)) := fun q t ok ht => by
  have hj := ok.j1
  refine sem_ev rfl rfl ?_
  refine s_exprX (ev_1 (ev_var rfl)) (has q ok) (s_exprX (ev_2 (ev_var rfl) (ev_var rfl)) (hta q t ht) ?_)
  refine s_setT (ds := [keyS (bestR q t), keyS (Mz.has q t)]) (ev_tup (ev_2 (ev_ix (ev_call (ev_2 (ev_var rfl) (ev_var rfl)) (okF_of (hg q t ok ht))) ev_c rfl) (ev_call (ev_2 (ev_var rfl) (ev_var rfl)) (okF_of (hl q t ok ht)))) (by simp)) rfl ?_
  refine s_setT (ev_tup (ev_2 ev_c ev_c) (by simp)) rfl ?_
  refine w_seq (w_for (items := List.range q.jokers.length) (fun (i : Nat) => PyData.int (i : Int)) (fun pre ρ => ∃ x6, ρ = [.fz (stD q), .fz (.int t), .fz (keyS (bestR q t)), .fz (keyS (Mz.has q t)), .fz (.int (cntP pre t (Mz.has q) (bestR q t) : Int)), .fz (.int (cntP pre t (bestR q) (Mz.has q t) : Int)), x6]) ⟨_, rfl⟩ (un_rng (nq_ev (ev_var rfl)) (by omega)) (fun pre o post ρ hall ⟨x6, e⟩ => ?_) fun ρ' ⟨x6, e⟩ => ?_)
  · subst e
    have ho : o < q.jokers.length := (range_split hall).2
    refine ⟨_, rfl, w_seq (w_if (neI (ev_var rfl) (ev_var rfl)) (fun z => ?_) (fun z => ?_))⟩
    · have z : o ≠ t := by
        have := of_decide_eq_true z
        omega
      refine s_set (ev_bin (ev_var rfl) (int1b (ev_call (ev_4 (ev_var rfl) (ev_call (ev_2 (ev_var rfl) (ev_var rfl)) (okF_of (hl q o ok ho))) (ev_var rfl) (ev_var rfl)) (okF_of (ah_key ha _ _ (Mz.has q o) (bestR q t))))) rfl) ?_
      refine s_set (ev_bin (ev_var rfl) (int1b (ev_call (ev_4 (ev_var rfl) (ev_ix (ev_call (ev_2 (ev_var rfl) (ev_var rfl)) (okF_of (hg q o ok ho))) ev_c rfl) (ev_var rfl) (ev_var rfl)) (okF_of (ah_key ha _ _ (bestR q o) (Mz.has q t))))) rfl) ?_
      refine w_skip (w_skip ⟨.fz (.int (o : Int)), ?_⟩)
      rw [cntP_snoc z, cntP_snoc z]
      rfl
    · have z : o = t := by
        have := of_decide_eq_false z
        omega
      subst z
      refine w_skip (w_skip ⟨.fz (.int (o : Int)), ?_⟩)
      rw [cntP_same, cntP_same]
      rfl
  · subst e
    exact s_ret rfl (ev_tup (ev_2 (ev_var rfl) (ev_var rfl)) (by simp)) rt_ok
/-! ### the law's own -/
theorem scM_len {q : Q} (ok : Ok q) {t : Nat} (ht : t < q.jokers.length) (j : Option Int) (ms : List (Option Int)) : (scM q t j ms).length = q.rounds.length := by
  unfold scM
  rw [List.length_map, en_len, row_len ok ht]
theorem ah_01 (a b : List Int) : ah 0 a 1 b = !ltS a b := by
  have h := ah_iff 0 a 1 b
  unfold leS at h
  cases z : ltS a b with
  | true =>
    rw [z] at h
    cases z2 : ah 0 a 1 b with
    | true => have := (h.mp z2).1; cases this
    | false => rfl
  | false =>
    rw [z] at h
    exact h.mpr ⟨rfl, fun _ => by decide⟩
theorem lt_01 (a b : List Int) : (ah 0 a 1 b && !ah 0 b 1 a) = ltS b a := by
  rw [ah_01, ah_01, Bool.not_not]
  cases z : ltS b a with
  | true => rw [show ltS a b = false from ltK_asym z]; rfl
  | false => simp
def sLBest (jo sc fu ah : Nat) : S := ((S.set 2 0 (L.comp Src.seq ((L.call false jo 1 ((L.var 0).acons ((L.var 1).acons L.anil))).acons L.anil) (Tg.one 3) [3] (L.c (PyData.bool true)) (L.call false sc 1 ((L.var 0).acons ((L.var 1).acons ((L.var 3).acons ((L.call false fu 1 ((L.var 0).acons ((L.var 1).acons L.anil))).acons L.anil))))))).seq ((S.set 4 0 ((L.var 2).ix (L.c (PyData.int (0))))).seq ((S.for_ Src.seq (((L.var 2).slice (L.bin BOp.add (L.c (PyData.int (0))) (L.c (PyData.int (1)))) (L.c PyData.none)).acons L.anil) (Tg.one 5) ((S.ifs ((L.call false ah 0 ((L.c (PyData.int (0))).acons ((L.var 5).acons ((L.c (PyData.int (1))).acons ((L.var 4).acons L.anil))))).and (L.call false ah 0 ((L.c (PyData.int (0))).acons ((L.var 4).acons ((L.c (PyData.int (1))).acons ((L.var 5).acons L.anil))))).not) ((S.set 4 0 (L.var 5)).seq S.skip) S.skip).seq S.skip)).seq ((S.ret (L.var 4)).seq S.skip))))
def IsLBest (f : Dz.Sem) : Prop := ∀ (q : Q) (t : Nat), Ok q → t < q.jokers.length → f [stD q, .int t] = some (.ok (intsD (bestR q t)), .none)
theorem jks_len {q : Q} (ok : Ok q) {t : Nat} (ht : t < q.jokers.length) : (jks q t).length ≤ 1 + q.rounds.length := by
  unfold jks
  split
  · simp
  · rw [List.length_cons, List.length_map]
    have := List.length_filter_le (fun (p : Nat × Option (List Bool × Bool)) => p.2.isNone) (en (row q t))
    rw [en_len, row_len ok ht] at this
    omega
theorem ix_0 (x : D) (xs : List D) : ixF (.list (x :: xs)) (.int 0) = some x := by simp [ixF]
theorem slice1 {F : Nat → List D → Option D} {ρ : List Sl} {a : L} {x : D} {xs : List D} (h : evE F a ρ = some (.list (x :: xs))) : evE F (a.slice (L.bin BOp.add (L.c (PyData.int (0))) (L.c (PyData.int (1)))) (L.c PyData.none)) ρ = some (.list xs) := by
  have e2 : evE F (L.bin BOp.add (L.c (PyData.int (0))) (L.c (PyData.int (1)))) ρ = some (.int ((1 : Nat) : Int)) := rfl
  rw [evE, h, e2]
  simp only [Option.bind_some, ev_c, partO, sliceF, cut_lo]
  rfl
theorem lbest_sem {G : Nat → Dz.Sem} {jo sc fu ah : Nat} (hj : IsJks (G jo)) (hs : IsScM (G sc)) (hf : IsLFull (G fu)) (ha : IsLAhead (G ah)) : IsLBest (semS G ⟨0, false⟩ 0 2 4 (sLBest jo sc fu ah)) := fun q t ok ht => by
  have hr := ok.r1
  have hjl := jks_len ok ht
  refine sem_ev rfl rfl ?_
  refine s_set (d := .list ((jks q t).map fun j => intsD (topS q t j))) (evE_comp' (items := jks q t) jkD (fun j => intsD (topS q t j)) (un_seqm (ev_call (ev_2 (ev_var rfl) (ev_var rfl)) (okF_of (hj q t ok ht)))) (by omega) fun j hj => ⟨_, rfl, ev_call (ev_4 (ev_var rfl) (ev_var rfl) (ev_var rfl) (ev_call (ev_2 (ev_var rfl) (ev_var rfl)) (okF_of (hf q t ok ht)))) (okF_of (hs q t j _ ok ht (fits_full ok t).has))⟩) ?_
  have e0 : (jks q t).map (fun j => intsD (topS q t j)) = intsD (topS q t ((jks q t).headD none)) :: (jks q t).tail.map (fun j => intsD (topS q t j)) := by
    conv => lhs; rw [jks_ne q t]
    rfl
  rw [e0]
  refine s_set (d := intsD (topS q t ((jks q t).headD none))) (ev_ix (ev_var rfl) ev_c (ix_0 _ _)) ?_
  refine w_seq (w_for (items := (jks q t).tail) (fun j => intsD (topS q t j)) (fun pre ρ => ∃ x3 x5, ρ = [.fz (stD q), .fz (.int t), .fz (.list (intsD (topS q t ((jks q t).headD none)) :: (jks q t).tail.map (fun j => intsD (topS q t j)))), x3, .fz (intsD (topS q t (pre.foldl (fun b j => if ltS (topS q t b) (topS q t j) then j else b) ((jks q t).headD none)))), x5]) ⟨_, _, rfl⟩ (by rw [ev_1 (slice1 (ev_var rfl))]; rfl) (fun pre j post ρ hall ⟨x3, x5, e⟩ => ?_) fun ρ' ⟨x3, x5, e⟩ => ?_)
  · subst e
    refine ⟨_, rfl, w_seq (w_if (ev_and (x := Mz.ah 0 (topS q t j) 1 (topS q t (pre.foldl (fun b j => if ltS (topS q t b) (topS q t j) then j else b) ((jks q t).headD none)))) (y := !Mz.ah 0 (topS q t (pre.foldl (fun b j => if ltS (topS q t b) (topS q t j) then j else b) ((jks q t).headD none))) 1 (topS q t j)) (ev_call (ev_4 ev_c (ev_var rfl) ev_c (ev_var rfl)) (okF_of (ha 0 1 _ _ (by rw [topS, topS, scM_len ok ht, scM_len ok ht])))) fun _ => ev_not (ev_call (ev_4 ev_c (ev_var rfl) ev_c (ev_var rfl)) (okF_of (ha 0 1 _ _ (by rw [topS, topS, scM_len ok ht, scM_len ok ht]))))) (fun z => ?_) (fun z => ?_))⟩
    · rw [lt_01] at z
      refine s_set (ev_var rfl) (w_skip (w_skip ⟨x3, .fz (intsD (topS q t j)), ?_⟩))
      rw [List.foldl_append, List.foldl_cons, List.foldl_nil, if_pos z]
      rfl
    · rw [lt_01] at z
      refine w_skip (w_skip ⟨x3, .fz (intsD (topS q t j)), ?_⟩)
      rw [List.foldl_append, List.foldl_cons, List.foldl_nil, if_neg (by rw [z]; decide)]
      rfl
  · subst e
    exact s_ret rfl (ev_var rfl) rt_ok
def sLReach (be ha ah : Nat) : S := ((S.setT [(2, 0), (3, 0), (4, 1)] ((L.call false be 0 ((L.var 0).acons ((L.var 1).acons L.anil))).acons ((L.call false ha 1 ((L.var 0).acons ((L.var 1).acons L.anil))).acons (((L.c (PyData.int (0))).acons ((L.c (PyData.int (0))).acons L.anil)).lst.acons L.anil))).tup).seq ((S.for_ Src.range1 ((L.bi Bi.len (((L.var 0).ix (L.c (PyData.int (1)))).acons L.anil)).acons L.anil) (Tg.one 5) ((S.ifs (L.cmp COp.ne (L.var 5) (L.var 1)) ((S.put 4 [] (L.c (PyData.int (0))) 0 (L.bin BOp.add ((L.own1 4).ix (L.c (PyData.int (0)))) (L.bi Bi.int1 ((L.call false ah 0 ((L.var 5).acons ((L.call false ha 1 ((L.var 0).acons ((L.var 5).acons L.anil))).acons ((L.var 1).acons ((L.var 2).acons L.anil))))).acons L.anil)))).seq ((S.put 4 [] (L.c (PyData.int (1))) 0 (L.bin BOp.add ((L.own1 4).ix (L.c (PyData.int (1)))) (L.bi Bi.int1 ((L.call false ah 0 ((L.var 5).acons ((L.call false be 0 ((L.var 0).acons ((L.var 5).acons L.anil))).acons ((L.var 1).acons ((L.var 3).acons L.anil))))).acons L.anil)))).seq S.skip)) S.skip).seq S.skip)).seq ((S.ret (((L.own1 4).ix (L.c (PyData.int (0)))).acons (((L.own1 4).ix (L.c (PyData.int (1)))).acons L.anil)).tup).seq S.skip)))
theorem lreach_sem {G : Nat → Dz.Sem} {be ha ah : Nat} (hb : IsLBest (G be)) (hh : IsHas (G ha)) (hA : IsLAhead (G ah)) {kf : Nat} : IsReach (semS G ⟨kf, false⟩ 0 2 4 (sLReach be ha ah)) := fun q t ok ht => by
  have hj := ok.j1
  have hbl : ∀ o, o < q.jokers.length → (bestR q o).length = q.rounds.length := fun o ho => scM_len ok ho _ _
  have hhl : ∀ o, o < q.jokers.length → (Mz.has q o).length = q.rounds.length := fun o ho => has_len ok ho
  refine sem_ev rfl rfl ?_
  refine s_setT (ds := [intsD (bestR q t), intsD (Mz.has q t), .list [.int 0, .int 0]]) (ev_tup (ev_3 (ev_call (ev_2 (ev_var rfl) (ev_var rfl)) (okF_of (hb q t ok ht))) (ev_call (ev_2 (ev_var rfl) (ev_var rfl)) (okF_of (hh q t ok ht))) (ev_lst (ev_2 ev_c ev_c) (by simp))) (by simp)) rfl ?_
  refine w_seq (w_for (items := List.range q.jokers.length) (fun (i : Nat) => PyData.int (i : Int)) (fun pre ρ => ∃ x5, ρ = [.fz (stD q), .fz (.int t), .fz (intsD (bestR q t)), .fz (intsD (Mz.has q t)), .own 1 (.list [.int (cntP pre t (Mz.has q) (bestR q t) : Int), .int (cntP pre t (bestR q) (Mz.has q t) : Int)]), x5]) ⟨_, rfl⟩ (un_rng (nq_ev (ev_var rfl)) (by omega)) (fun pre o post ρ hall ⟨x5, e⟩ => ?_) fun ρ' ⟨x5, e⟩ => ?_)
  · subst e
    have ho : o < q.jokers.length := (range_split hall).2
    refine ⟨_, rfl, w_seq (w_if (neI (ev_var rfl) (ev_var rfl)) (fun z => ?_) (fun z => ?_))⟩
    · have z : o ≠ t := by
        have := of_decide_eq_true z
        omega
      refine s_put1 (n := 0) rfl (ev_bin (ev_ix (x := .list [.int (cntP pre t (Mz.has q) (bestR q t) : Int), .int (cntP pre t (bestR q) (Mz.has q t) : Int)]) rfl ev_c rfl) (int1b (ev_call (ev_4 (ev_var rfl) (ev_call (ev_2 (ev_var rfl) (ev_var rfl)) (okF_of (hh q o ok ho))) (ev_var rfl) (ev_var rfl)) (okF_of (hA _ _ (Mz.has q o) (bestR q t) (by rw [hhl o ho, hbl t ht]))))) rfl) ev_c (by simp) ?_
      refine s_put1 (n := 1) rfl (ev_bin (ev_ix (x := .list [.int (cntP pre t (Mz.has q) (bestR q t) + (if Mz.ah (o : Int) (Mz.has q o) (t : Int) (bestR q t) then 1 else 0) : Int), .int (cntP pre t (bestR q) (Mz.has q t) : Int)]) rfl ev_c rfl) (int1b (ev_call (ev_4 (ev_var rfl) (ev_call (ev_2 (ev_var rfl) (ev_var rfl)) (okF_of (hb q o ok ho))) (ev_var rfl) (ev_var rfl)) (okF_of (hA _ _ (bestR q o) (Mz.has q t) (by rw [hhl t ht, hbl o ho]))))) rfl) ev_c (by simp) ?_
      refine w_skip (w_skip ⟨.fz (.int (o : Int)), ?_⟩)
      rw [cntP_snoc z, cntP_snoc z]
      rfl
    · have z : o = t := by
        have := of_decide_eq_false z
        omega
      subst z
      refine w_skip (w_skip ⟨.fz (.int (o : Int)), ?_⟩)
      rw [cntP_same, cntP_same]
      rfl
  · subst e
    exact s_ret rfl (ev_tup (ev_2 (ev_ix (x := .list [.int (cntP (List.range q.jokers.length) t (Mz.has q) (bestR q t) : Int), .int (cntP (List.range q.jokers.length) t (bestR q) (Mz.has q t) : Int)]) rfl ev_c rfl) (ev_ix (x := .list [.int (cntP (List.range q.jokers.length) t (Mz.has q) (bestR q t) : Int), .int (cntP (List.range q.jokers.length) t (bestR q) (Mz.has q t) : Int)]) rfl ev_c rfl)) (by simp)) rt_ok
/-! ### the place by rows -/
def sLPlace (ah : Nat) : S := ((S.set 2 0 (L.comp Src.range1 ((L.bi Bi.len ((L.var 0).acons L.anil)).acons L.anil) (Tg.one 3) [3] (L.cmp COp.ne (L.var 3) (L.var 1)) (L.var 3))).seq ((S.ret (L.bi Bi.len ((L.comp Src.seq ((L.var 2).acons L.anil) (Tg.one 3) [3] (L.call false ah 0 ((L.var 3).acons (((L.var 0).ix (L.var 3)).acons ((L.var 1).acons (((L.var 0).ix (L.var 1)).acons L.anil))))) (L.var 3)).acons L.anil))).seq S.skip))
def rowsD (rs : List (List Int)) : D := .list (rs.map intsD)
def IsPlace (f : Dz.Sem) : Prop := ∀ (rs : List (List Int)) (t k : Nat), t < rs.length → rs.length ≤ 100 → (∀ r ∈ rs, r.length = k) → f [rowsD rs, .int t] = some (.ok (.int (placeR rs t : Int)), .none)
theorem getD_get {rs : List (List Int)} {o : Nat} (h : o < rs.length) : rs[o]? = some (rs.getD o []) := by simp [List.getD, List.getElem?_eq_getElem h]
theorem getD_mem {rs : List (List Int)} {o : Nat} (h : o < rs.length) : rs.getD o [] ∈ rs := List.mem_of_getElem? (getD_get h)
theorem place_sem {G : Nat → Dz.Sem} {ah : Nat} (hA : IsLAhead (G ah)) : IsPlace (semS G ⟨0, false⟩ 0 2 2 (sLPlace ah)) := fun rs t k ht hl hk => by
  refine sem_ev rfl rfl ?_
  refine s_set (d := .list (((List.range rs.length).filter fun (o : Nat) => decide ((o : Int) ≠ (t : Int))).map fun (o : Nat) => .int (o : Int))) (evE_comp (items := List.range rs.length) (fun (o : Nat) => .int (o : Int)) (fun (o : Nat) => decide ((o : Int) ≠ (t : Int))) (fun (o : Nat) => .int (o : Int)) (un_rng (lenm (l := rs) (f := intsD) (ev_var rfl)) (by omega)) (by rw [List.length_range]; omega) fun o ho => ⟨_, rfl, neI (ev_var rfl) (ev_var rfl), fun _ => ev_var rfl⟩) ?_
  refine s_ret rfl ((lenm (l := (((List.range rs.length).filter fun (o : Nat) => decide ((o : Int) ≠ (t : Int))).filter fun (o : Nat) => Mz.ah (o : Int) (rs.getD o []) (t : Int) (rs.getD t []))) (f := fun (o : Nat) => PyData.int (o : Int)) (evE_comp (items := (List.range rs.length).filter fun (o : Nat) => decide ((o : Int) ≠ (t : Int))) (fun (o : Nat) => .int (o : Int)) (fun (o : Nat) => Mz.ah (o : Int) (rs.getD o []) (t : Int) (rs.getD t [])) (fun (o : Nat) => .int (o : Int)) (un_seqm (ev_var rfl)) ?_ fun o ho => ⟨_, rfl, ?_, fun _ => ev_var rfl⟩)).trans ?_) rt_ok
  · have := List.length_filter_le (fun (o : Nat) => decide ((o : Int) ≠ (t : Int))) (List.range rs.length)
    rw [List.length_range] at this
    omega
  · have ho : o < rs.length := List.mem_range.mp (List.mem_filter.mp ho).1
    exact ev_call (ev_4 (ev_var rfl) (ixn (l := rs) (f := intsD) (ev_var rfl) (ev_var rfl) (getD_get ho)) (ev_var rfl) (ixn (l := rs) (f := intsD) (ev_var rfl) (ev_var rfl) (getD_get ht))) (okF_of (hA _ _ _ _ (by rw [hk _ (getD_mem ho), hk _ (getD_mem ht)])))
  · rw [List.filter_filter]
    unfold placeR place
    congr 4
    refine List.filter_congr fun o _ => ?_
    rw [Bool.and_comm]
    congr 1
    by_cases e : o = t
    · simp [e]
    · have : ¬ (o : Int) = (t : Int) := by omega
      simp [e, this]
end Mz

set_option Elab.async false
set_option linter.all false
set_option maxRecDepth 100000
set_option maxHeartbeats 4000000
/-! All that tables can come to have, one by one and together. -/
namespace Mz
open PySem L2 Dz

theorem flatMap_len {α β γ : Type} (l : List α) (X : List β) (g : α → β → γ) : (l.flatMap fun r => X.map (g r)).length = l.length * X.length := by
  induction l with
  | nil => simp
  | cons x l ih => rw [List.flatMap_cons, List.length_append, ih, List.length_map, List.length_cons, Nat.succ_mul, Nat.add_comm]
/-- few questions, few rounds -/
def Few (q : Q) : Prop := q.rounds.length ≤ 3 ∧ ∀ r ∈ q.rounds, r ≤ 3
theorem full_le {q : Q} (hf : Few q) (n : Nat) : full q n ≤ 3 := by
  unfold full
  by_cases h : n < q.rounds.length
  · have := hf.2 _ (List.mem_of_getElem? (rounds_get h))
    omega
  · rw [List.getElem?_eq_none (by omega)]
    simp
theorem optM_len {q : Q} (hf : Few q) {t : Nat} {m : Option Int} (h : m ∈ fullM q t) : (optM m).length ≤ 4 := by
  unfold fullM at h
  obtain ⟨p, _, rfl⟩ := List.mem_map.mp h
  split
  · rw [optM, List.length_map, List.length_range]
    have := full_le hf p.1
    omega
  · simp [optM]
theorem allM_len {fm : List (Option Int)} (h : ∀ m ∈ fm, (optM m).length ≤ 4) : (allM fm).length ≤ 4 ^ fm.length := by
  revert h
  refine rev_ind (P := fun fm => (∀ m ∈ fm, (optM m).length ≤ 4) → (allM fm).length ≤ 4 ^ fm.length) (fun _ => by simp [allM]) (fun l x ih h => ?_) fm
  rw [allM_snoc, flatMap_len, List.length_append, List.length_singleton, Nat.pow_succ]
  exact Nat.mul_le_mul (ih fun m hm => h m (List.mem_append_left _ hm)) (h x (by simp))
theorem optM_ev {F : Nat → List D → Option D} {ρ : List Sl} {a : L} {m : Option Int} (h : evE F a ρ = some (jkD m)) (hm : (optM m).length ≤ 4) (h0 : ∀ i, m = some i → 0 ≤ i) : evE F ((L.cmp COp.is a (L.c PyData.none)).ite ((L.c PyData.none).acons L.anil).lst (L.bi Bi.rng1 ((L.bin BOp.add a (L.c (PyData.int (1)))).acons L.anil))) ρ = some (optsD (optM m)) := by
  refine ev_ite (isNj h) (fun z => ?_) (fun z => ?_)
  · cases m with
    | none => exact ev_lst (ev_1 ev_c) (by simp [optM])
    | some i => cases z
  · cases m with
    | none => cases z
    | some i =>
      rw [ev_bi (ev_1 (ev_bin h ev_c rfl))]
      have hi := h0 i rfl
      rw [optM, List.length_map, List.length_range] at hm
      have e1 : i + 1 = ((i + 1).toNat : Int) := by omega
      show biF .rng1 [.int (i + 1)] = _
      rw [e1, biF, l63 (by omega), Int.toNat_natCast, lim_le (by omega), rangeD_eq]
      simp only [Bool.and_self, if_true, optsD, optM, List.map_map]
      rfl
def sLAll (fu jo sc : Nat) : S := ((S.set 2 0 (L.anil.lst.acons L.anil).lst).seq ((S.for_ Src.seq ((L.call false fu 1 ((L.var 0).acons ((L.var 1).acons L.anil))).acons L.anil) (Tg.one 3) ((S.set 4 1 L.anil.lst).seq ((S.for_ Src.seq ((L.var 2).acons L.anil) (Tg.one 5) ((S.mut Mut.extend 4 [] 0 ((L.comp Src.seq (((L.cmp COp.is (L.var 3) (L.c PyData.none)).ite ((L.c PyData.none).acons L.anil).lst (L.bi Bi.rng1 ((L.bin BOp.add (L.var 3) (L.c (PyData.int (1)))).acons L.anil))).acons L.anil) (Tg.one 6) [6] (L.c (PyData.bool true)) (L.bin BOp.add (L.var 5) ((L.var 6).acons L.anil).lst)).acons L.anil)).seq S.skip)).seq (((S.frz 4).seq (S.set 2 0 (L.var 4))).seq S.skip)))).seq ((S.set 7 1 L.anil.lst).seq ((S.for_ Src.seq ((L.call false jo 1 ((L.var 0).acons ((L.var 1).acons L.anil))).acons L.anil) (Tg.one 8) ((S.mut Mut.extend 7 [] 0 ((L.comp Src.seq ((L.var 2).acons L.anil) (Tg.one 9) [9] (L.c (PyData.bool true)) (L.call false sc 1 ((L.var 0).acons ((L.var 1).acons ((L.var 8).acons ((L.var 9).acons L.anil)))))).acons L.anil)).seq S.skip)).seq ((S.retO 7).seq S.skip)))))
def IsLAll (f : Dz.Sem) : Prop := ∀ (q : Q) (t : Nat), Ok q → Few q → t < q.jokers.length → f [stD q, .int t] = some (.ok (rowsD (allR q t)), .none)
theorem lall_sem {G : Nat → Dz.Sem} {fu jo sc : Nat} (hf : IsLFull (G fu)) (hj : IsJks (G jo)) (hs : IsScM (G sc)) : IsLAll (semS G ⟨0, false⟩ 0 2 8 (sLAll fu jo sc)) := fun q t ok few ht => by
  have hr := row_len ok ht
  have hf3 := few.1
  have hml : (fullM q t).length ≤ 3 := by rw [fullM_len]; omega
  have pow : ∀ n, n ≤ 3 → 4 ^ n ≤ 64 := fun n hn => Nat.le_trans (Nat.pow_le_pow_right (by decide) hn) (by decide)
  have hal : ∀ {pre : List (Option Int)}, (∀ m ∈ pre, m ∈ fullM q t) → pre.length ≤ 3 → (allM pre).length ≤ 64 := fun h hl => Nat.le_trans (allM_len fun m hm => optM_len few (h m hm)) (pow _ hl)
  refine sem_ev rfl rfl ?_
  refine s_set (d := .list [.list []]) (ev_lst (ev_1 rfl) (by simp)) ?_
  refine w_seq (w_for (items := fullM q t) jkD (fun pre ρ => ∃ x3 x4 x5 x6, ρ = [.fz (stD q), .fz (.int t), .fz (.list ((allM pre).map optsD)), x3, x4, x5, x6, .no, .no, .no]) ⟨_, _, _, _, rfl⟩ (un_seqm (ev_call (ev_2 (ev_var rfl) (ev_var rfl)) (okF_of (hf q t ok ht)))) (fun pre m post ρ hall ⟨x3, x4, x5, x6, e⟩ => ?_) fun ρ' ⟨x3, x4, x5, x6, e⟩ => ?_)
  · subst e
    have hm : m ∈ fullM q t := by rw [hall]; simp
    have hpre : ∀ y ∈ pre, y ∈ fullM q t := fun y hy => by rw [hall]; simp [hy]
    have hpl : pre.length ≤ 2 := by
      rw [hall, List.length_append, List.length_cons] at hml
      omega
    have hal' := hal hpre (by omega)
    have ho := optM_len few hm
    have h0 : ∀ i, m = some i → 0 ≤ i := fun i e => by
      subst e
      unfold fullM at hm
      obtain ⟨p, _, e⟩ := List.mem_map.mp hm
      split at e
      · cases e
        exact full_nn ok _
      · cases e
    refine ⟨_, rfl, s_set (d := .list []) rfl ?_⟩
    refine w_seq (w_for (items := allM pre) optsD (fun pr ρ => ∃ x5 x6, ρ = [.fz (stD q), .fz (.int t), .fz (.list ((allM pre).map optsD)), .fz (jkD m), .own 1 (.list ((pr.flatMap fun r => (optM m).map fun o => r ++ [o]).map optsD)), x5, x6, .no, .no, .no]) ⟨_, _, rfl⟩ (un_seqm (ev_var rfl)) (fun pr r po ρ hall2 ⟨x5, x6, e⟩ => ?_) fun ρ' ⟨x5, x6, e⟩ => ?_)
    · subst e
      have hrm : r ∈ allM pre := by rw [hall2]; simp
      have hrl := (allM_mem.mp hrm).1
      have hprl : pr.length ≤ 64 := by
        have : (allM pre).length = pr.length + (po.length + 1) := by rw [hall2]; simp
        omega
      have hprod : pr.length * (optM m).length ≤ 64 * 4 := Nat.mul_le_mul hprl ho
      refine ⟨_, rfl, s_ext (ds := (pr.flatMap fun r => (optM m).map fun o => r ++ [o]).map optsD) (es := (optM m).map fun o => optsD (r ++ [o])) rfl (evE_comp' (items := optM m) jkD (fun o => optsD (r ++ [o])) (un_seqm (optM_ev (ev_var rfl) ho h0)) (by omega) fun o _ => ⟨_, rfl, ev_bin (ev_var rfl) (ev_lst (ev_1 (ev_var rfl)) (by simp)) ?_⟩) ?_ (w_skip ⟨.fz (optsD r), x6, ?_⟩)⟩
      · rw [optsD, opB, if_pos (lim_le (by simp; omega)), optsD, List.map_append]
        rfl
      · rw [List.length_map, flatMap_len, List.length_map]
        omega
      · rw [List.flatMap_append, List.map_append]
        simp [List.flatMap_cons]
    · subst e
      refine w_seq (w_seq (w_frz (k := 1) (.inl rfl) (w_set (ev_var rfl) (w_skip ?_))))
      rw [allM_snoc]
      exact ⟨_, _, _, _, rfl⟩
  · subst e
    have hal' := hal (pre := fullM q t) (fun _ h => h) hml
    have hjl := jks_len ok ht
    refine s_set (d := .list []) rfl ?_
    refine w_seq (w_for (items := jks q t) jkD (fun pr ρ => ∃ x8 x9, ρ = [.fz (stD q), .fz (.int t), .fz (.list ((allM (fullM q t)).map optsD)), x3, x4, x5, x6, .own 1 (.list ((pr.flatMap fun j => (allM (fullM q t)).map fun ms => scM q t j ms).map intsD)), x8, x9]) ⟨_, _, rfl⟩ (un_seqm (ev_call (ev_2 (ev_var rfl) (ev_var rfl)) (okF_of (hj q t ok ht)))) (fun pr j po ρ hall2 ⟨x8, x9, e⟩ => ?_) fun ρ' ⟨x8, x9, e⟩ => ?_)
    · subst e
      have hprl : pr.length ≤ 4 := by
        have : (jks q t).length = pr.length + (po.length + 1) := by rw [hall2]; simp
        omega
      have hprod : pr.length * (allM (fullM q t)).length ≤ 4 * 64 := Nat.mul_le_mul hprl hal'
      refine ⟨_, rfl, s_ext (ds := (pr.flatMap fun j => (allM (fullM q t)).map fun ms => scM q t j ms).map intsD) (es := (allM (fullM q t)).map fun ms => intsD (scM q t j ms)) rfl (evE_comp' (items := allM (fullM q t)) optsD (fun ms => intsD (scM q t j ms)) (un_seqm (ev_var rfl)) (by omega) fun ms hms => ⟨_, rfl, ev_call (ev_4 (ev_var rfl) (ev_var rfl) (ev_var rfl) (ev_var rfl)) (okF_of (hs q t j ms ok ht (allM_fits hms).has))⟩) ?_ (w_skip ⟨.fz (jkD j), x9, ?_⟩)⟩
      · rw [List.length_map, flatMap_len, List.length_map]
        omega
      · rw [List.flatMap_append, List.map_append]
        simp [List.flatMap_cons]
    · subst e
      exact s_retO rfl rfl (by decide) rt_ok
def sLEvery (al : Nat) : S := ((S.set 2 0 (L.anil.lst.acons L.anil).lst).seq ((S.for_ Src.range1 ((L.bi Bi.len (((L.var 0).ix (L.c (PyData.int (1)))).acons L.anil)).acons L.anil) (Tg.one 3) ((S.set 4 0 (L.call false al 0 ((L.var 0).acons ((L.var 3).acons L.anil)))).seq ((S.ifs (L.cmp COp.gt (L.bin BOp.mul (L.bi Bi.len ((L.var 2).acons L.anil)) (L.bi Bi.len ((L.var 4).acons L.anil))) (L.var 1)) ((S.ret (L.c PyData.none)).seq S.skip) S.skip).seq ((S.set 5 1 L.anil.lst).seq ((S.for_ Src.seq ((L.var 2).acons L.anil) (Tg.one 6) ((S.mut Mut.extend 5 [] 0 ((L.comp Src.seq ((L.var 4).acons L.anil) (Tg.one 7) [7] (L.c (PyData.bool true)) (L.bin BOp.add (L.var 6) ((L.var 7).acons L.anil).lst)).acons L.anil)).seq S.skip)).seq (((S.frz 5).seq (S.set 2 0 (L.var 5))).seq S.skip)))))).seq ((S.ret (L.var 2)).seq S.skip)))
def IsEvery (f : Dz.Sem) : Prop := ∀ q : Q, Ok q → Few q → f [stD q, .int 60] = some (.ok .none, .none) ∨ (f [stD q, .int 60] = some (.ok (.list ((allC q q.jokers.length).map rowsD)), .none) ∧ (allC q q.jokers.length).length ≤ 60)
theorem sem_ev2 {G : Nat → Dz.Sem} {q : Fs} {s : S} {kio np nl : Nat} {ds : List D} {d1 d2 : D} {P : Prop} (hq : q.io = false) (hl : ds.length = np) (h : Ev G q s (slots0 nl q kio ds) Never (fun o => Rt d1 o ∨ (Rt d2 o ∧ P))) : semS G q kio np nl s ds = some (.ok d1, .none) ∨ (semS G q kio np nl s ds = some (.ok d2, .none) ∧ P) := by
  obtain ⟨o, h1, h2⟩ := h
  cases o with
  | nx ρ => exact h2.elim
  | rt ρ d' =>
    rcases h2 with ⟨ρ2, e⟩ | ⟨⟨ρ2, e⟩, p⟩
    · cases e; exact .inl (sem_rt hq hl h1)
    · cases e; exact .inr ⟨sem_rt hq hl h1, p⟩
  | ex ρ c => rcases h2 with ⟨ρ2, e⟩ | ⟨⟨ρ2, e⟩, p⟩ <;> cases e
theorem every_sem {G : Nat → Dz.Sem} {al : Nat} (ha : IsLAll (G al)) : IsEvery (semS G ⟨0, false⟩ 0 2 6 (sLEvery al)) := fun q ok few => by
  have hj := ok.j1
  refine sem_ev2 rfl rfl ?_
  refine s_set (d := .list [.list []]) (ev_lst (ev_1 rfl) (by simp)) ?_
  refine w_seq (w_for (items := List.range q.jokers.length) (fun (i : Nat) => PyData.int (i : Int)) (fun pre ρ => (allC q pre.length).length ≤ 60 ∧ ∃ x3 x4 x5 x6 x7, ρ = [.fz (stD q), .fz (.int 60), .fz (.list ((allC q pre.length).map rowsD)), x3, x4, x5, x6, x7]) ⟨by simp [allC], _, _, _, _, _, rfl⟩ (un_rng (nq_ev (ev_var rfl)) (by omega)) (fun pre t post ρ hall ⟨hc, x3, x4, x5, x6, x7, e⟩ => ?_) fun ρ' ⟨hc, x3, x4, x5, x6, x7, e⟩ => ?_)
  · subst e
    obtain ⟨hpe, ht⟩ := range_split hall
    subst hpe
    refine ⟨_, rfl, s_set (ev_call (ev_2 (ev_var rfl) (ev_var rfl)) (okF_of (ha q pre.length ok few ht))) ?_⟩
    refine w_seq (w_if (c := decide ((60 : Int) < ((allC q pre.length).length : Int) * ((allR q pre.length).length : Int))) (ev_cmp (ev_bin (lenm (l := allC q pre.length) (f := rowsD) (ev_var rfl)) (lenm (l := allR q pre.length) (f := intsD) (ev_var rfl)) (mulS (small_of (by omega) (by omega)))) (ev_var rfl) rfl) (fun z => ?_) (fun z => ?_))
    · exact s_ret rfl ev_c (.inl rt_ok)
    · have z := of_decide_eq_false z
      have hp : (allC q pre.length).length * (allR q pre.length).length ≤ 60 := by
        have : (((allC q pre.length).length * (allR q pre.length).length : Nat) : Int) = ((allC q pre.length).length : Int) * ((allR q pre.length).length : Int) := by simp
        omega
      refine w_skip (s_set (d := .list []) rfl ?_)
      refine w_seq (w_for (items := allC q pre.length) rowsD (fun pr ρ => ∃ x6 x7, ρ = [.fz (stD q), .fz (.int 60), .fz (.list ((allC q pre.length).map rowsD)), .fz (.int (pre.length : Int)), .fz (rowsD (allR q pre.length)), .own 1 (.list ((pr.flatMap fun rs => (allR q pre.length).map fun r => rs ++ [r]).map rowsD)), x6, x7]) ⟨_, _, rfl⟩ (un_seqm (ev_var rfl)) (fun pr rs po ρ hall2 ⟨x6, x7, e⟩ => ?_) fun ρ' ⟨x6, x7, e⟩ => ?_)
      · subst e
        have hl : (allC q pre.length).length = pr.length + (po.length + 1) := by rw [hall2]; simp
        have hrm : rs ∈ allC q pre.length := by rw [hall2]; simp
        have hrl := (allC_mem.mp hrm).1
        have h2 : (pr.length + 1) * (allR q pre.length).length ≤ 60 := Nat.le_trans (Nat.mul_le_mul_right _ (by omega)) hp
        rw [Nat.succ_mul] at h2
        refine ⟨_, rfl, s_ext (ds := (pr.flatMap fun rs => (allR q pre.length).map fun r => rs ++ [r]).map rowsD) (es := (allR q pre.length).map fun r => rowsD (rs ++ [r])) rfl (evE_comp' (items := allR q pre.length) intsD (fun r => rowsD (rs ++ [r])) (un_seqm (ev_var rfl)) (by omega) fun r _ => ⟨_, rfl, ev_bin (ev_var rfl) (ev_lst (ev_1 (ev_var rfl)) (by simp)) ?_⟩) ?_ (w_skip ⟨.fz (rowsD rs), x7, ?_⟩)⟩
        · rw [rowsD, opB, if_pos (lim_le (by simp; omega)), rowsD, List.map_append]
          rfl
        · rw [List.length_map, flatMap_len, List.length_map]
          omega
        · rw [List.flatMap_append, List.map_append]
          simp [List.flatMap_cons]
      · subst e
        have e9 : allC q (pre ++ [pre.length]).length = (allC q pre.length).flatMap fun rs => (allR q pre.length).map fun r => rs ++ [r] := by rw [List.length_append]; rfl
        refine w_seq (w_seq (w_frz (k := 1) (.inl rfl) (w_set (ev_var rfl) (w_skip ⟨?_, ?_⟩))))
        · rw [e9, flatMap_len]
          exact hp
        · rw [e9]
          exact ⟨_, _, _, _, _, rfl⟩
  · subst e
    rw [List.length_range] at hc ⊢
    exact s_ret rfl (ev_var rfl) (.inr ⟨rt_ok, hc⟩)
end Mz

set_option Elab.async false
set_option linter.all false
set_option maxRecDepth 100000
set_option maxHeartbeats 4000000
/-! Whether a table can be first: answers, and whether they show what they tell. -/
namespace Mz
open PySem L2 Dz

section
variable {F : Nat → List D → Option D} {ρ : List Sl} {a b e : L}
theorem eqv_bb (x y : Bool) : PyData.eqv (.bool x) (.bool y) = (x == y) := by cases x <;> cases y <;> simp [PyData.eqv]
theorem eqB {x y : Bool} (h : evE F a ρ = some (.bool x)) (h' : evE F b ρ = some (.bool y)) : evE F (.cmp .eq a b) ρ = some (.bool (x == y)) := ev_cmp h h' (by simp only [opC, sh_bool, Bool.and_self, if_true, eqv_bb])
theorem neB {x y : Bool} (h : evE F a ρ = some (.bool x)) (h' : evE F b ρ = some (.bool y)) : evE F (.cmp .ne a b) ρ = some (.bool (x != y)) := ev_cmp h h' (by simp only [opC, sh_bool, Bool.and_self, if_true, eqv_bb]; rfl)
theorem eqI {i j : Int} (h : evE F a ρ = some (.int i)) (h' : evE F b ρ = some (.int j)) : evE F (.cmp .eq a b) ρ = some (.bool (decide (i = j))) := ev_cmp h h' (by
  simp only [opC, sh_int, Bool.and_self, if_true, eqv_int]
  by_cases e : i = j <;> simp [e])
theorem ch_le {i j k : Int} (h1 : evE F a ρ = some (.int i)) (h2 : evE F b ρ = some (.int j)) (h3 : evE F e ρ = some (.int k)) : evE F (.chain .le .le a b e) ρ = some (.bool (decide (i ≤ j) && decide (j ≤ k))) := by
  rw [evE, h1, Option.bind_some, h2, Option.bind_some]
  show (some (decide (i ≤ j))).bind _ = _
  rw [Option.bind_some]
  cases decide (i ≤ j)
  · rfl
  · rw [if_pos rfl, h3, Option.bind_some]; rfl
theorem ch_lt {i j k : Int} (h1 : evE F a ρ = some (.int i)) (h2 : evE F b ρ = some (.int j)) (h3 : evE F e ρ = some (.int k)) : evE F (.chain .le .lt a b e) ρ = some (.bool (decide (i ≤ j) && decide (j < k))) := by
  rw [evE, h1, Option.bind_some, h2, Option.bind_some]
  show (some (decide (i ≤ j))).bind _ = _
  rw [Option.bind_some]
  cases decide (i ≤ j)
  · rfl
  · rw [if_pos rfl, h3, Option.bind_some]; rfl
theorem eqv_jj (x y : Option Int) : PyData.eqv (jkD x) (jkD y) = decide (x = y) := by
  cases y with
  | none => cases x <;> simp [jkD, PyData.eqv]
  | some j => exact eqv_jk x j
theorem inD_opts (j : Option Int) : ∀ js : List (Option Int), inD (jkD j) (js.map jkD) = decide (j ∈ js)
  | [] => by simp [inD]
  | x :: js => by
    have e1 : inD (jkD j) ((x :: js).map jkD) = (PyData.eqv (jkD x) (jkD j) || inD (jkD j) (js.map jkD)) := rfl
    rw [e1, inD_opts j js, eqv_jj]
    by_cases h : j = x
    · simp [h]
    · have h' : ¬ x = j := fun z => h z.symm
      simp [h, h']
theorem lay_opts (ms : List (Option Int)) : lay 1 (optsD ms) = true := lay_list fun d hd => by obtain ⟨j, _, rfl⟩ := List.mem_map.mp hd; cases j <;> simp [jkD]
theorem notinJ {j : Option Int} {js : List (Option Int)} (h : evE F a ρ = some (jkD j)) (h' : evE F b ρ = some (optsD js)) : evE F (.cmp .notin a b) ρ = some (.bool (!decide (j ∈ js))) := ev_cmp h h' (by
  have h2 := lay_shaped (lay_opts js) (by decide)
  unfold optsD at h2 ⊢
  simp only [opC, sh_jk, h2, Bool.and_self, if_true, inD_opts])
theorem ev_allf {α : Type} {k : Src} {ls : L} {g : Tg} {vs : List Nat} {e : L} {items : List α} (emb : α → D) (f : α → Bool) (h1 : (unT (evE F ls ρ)).bind (srcF k) = some (items.map emb)) (hl : items.length ≤ 100000)
    (h : ∀ a ∈ items, ∃ ρ', bindT g (emb a) (wipeD ρ vs) = some ρ' ∧ evE F e ρ' = some (.bool (f a))) : evE F (.bi .all (.acons (.comp k ls g vs (.c (.bool true)) e) .anil)) ρ = some (.bool (items.all f)) := by
  rw [ev_bi (ev_1 (evE_comp' (g := g) (vs := vs) (e := e) emb (fun a => PyData.bool (f a)) h1 hl h)), biF, bools_map items f]
  rw [Option.map_some, List.all_map]
  rfl
theorem ev_fld {f : Str} {d x : D} (h : evE F a ρ = some d) (hf : fldF d f = some x) : evE F (.fld a f) ρ = some x := by rw [evE, h, Option.bind_some, hf]
theorem ev_isC {cs : List Str} {d : D} {c : Str} (h : evE F a ρ = some d) (hc : clsOf d = some c) : evE F (.isC a cs) ρ = some (.bool (cs.contains c)) := by rw [evE, h, Option.bind_some, hc]; rfl
theorem ev_meth {b' : Bool} {m : Str} {tab : List (Str × Nat)} {k : Nat} {s d : D} {c : Str} {f : Nat} {xs : List D} (h : evE F a ρ = some s) (hc : clsOf s = some c) (ht : tab.lookup c = some f) (hn : fldF s m = none) (ha : evE F b ρ = some (.tuple xs)) (hf : F f (s :: xs) = some d) (hk : flatAt d k = true) : evE F (.meth b' m tab k a b) ρ = some d := by
  rw [evE, h, Option.bind_some, hc, Option.bind_some, ht, Option.bind_some, hn]
  simp only [Option.isSome_none, Bool.false_eq_true, if_false, ha, unT, Option.bind_some, hf, hk, Bool.or_true, if_true]
end
/-! ### answers -/
inductive Ans | top (j : Option Int) (ms : List (Option Int)) | beh (o : Int)
def topI (j : Option Int) (ms : List (Option Int)) : D := .dict [(.str "Top", .none), (.str "joker", jkD j), (.str "marks", optsD ms)]
def behI (o : Int) : D := .dict [(.str "Behind", .none), (.str "other", .int o)]
def ansD : Ans → D
  | .top j ms => topI j ms
  | .beh o => behI o
theorem f_joker (j : Option Int) (ms : List (Option Int)) : fldF (topI j ms) "joker" = some (jkD j) := by simp [fldF, topI, fldGet]
theorem f_marks (j : Option Int) (ms : List (Option Int)) : fldF (topI j ms) "marks" = some (optsD ms) := by
  simp only [fldF, topI, fldGet]
  rw [if_neg (by decide), if_pos trivial]
theorem f_other (o : Int) : fldF (behI o) "other" = some (.int o) := by simp [fldF, behI, fldGet]
theorem f_showT (j : Option Int) (ms : List (Option Int)) : fldF (topI j ms) "shows" = none := by
  simp only [fldF, topI, fldGet]
  rw [if_neg (by decide), if_neg (by decide)]
theorem f_showB (o : Int) : fldF (behI o) "shows" = none := by
  simp only [fldF, behI, fldGet]
  rw [if_neg (by decide)]
def sTopI : S := ((S.fput 0 ("joker" : Str) 1 (L.var 1).flat1).seq ((S.fput 0 ("marks" : Str) 1 (L.var 2).list1).seq S.skip))
def sBehI : S := ((S.fput 0 ("other" : Str) 1 (L.var 1).flat1).seq S.skip)
def IsTopI (f : Dz.Sem) : Prop := ∀ (j : Option Int) (ms : List (Option Int)), f [jkD j, optsD ms] = some (.ok (topI j ms), .none)
def IsBehI (f : Dz.Sem) : Prop := ∀ o : Int, f [.int o] = some (.ok (behI o), .none)
theorem fput_nx {G : Nat → Dz.Sem} {q : Fs} {ρ : List Sl} {i k : Nat} {f : Str} {e : L} {h : D × D} {r : List (D × D)} {y : D} (hs : ρ[i]? = some (.own (k + 1) (.dict (h :: r)))) (he : evE (okF G) e ρ = some y) (hl : r.length < 999) : evS G q (.fput i f k e) ρ = some (.nx (ρ.set i (.own (k + 1) (.dict (h :: fldSet r f y))))) := by
  have h1 : slotO ρ i (k + 1) = some (.dict (h :: r)) := by unfold slotO; rw [hs]; simp
  rw [evS, h1, Option.bind_some, he, Option.bind_some]
  simp only [decide_eq_true hl, if_true]
theorem flat_jk (j : Option Int) : flatAt (jkD j) 0 = true := by cases j <;> rfl
theorem topI_sem (G : Nat → Dz.Sem) : IsTopI (Dz.makes "Top" (semS G ⟨0, true⟩ 2 3 0 sTopI)) := fun j ms => by
  have e1 : evE (okF G) (L.var 1).flat1 [.own 2 (inst "Top"), .fz (jkD j), .fz (optsD ms)] = some (jkD j) := by
    rw [evE, ev_var rfl, Option.bind_some]
    exact if_pos (flat_jk j)
  have h1 := fput_nx (G := G) (q := ⟨0, true⟩) (ρ := [.own 2 (inst "Top"), .fz (jkD j), .fz (optsD ms)]) (i := 0) (k := 1) (f := "joker") (h := (.str "Top", .none)) (r := []) rfl e1 (by decide)
  have h2 := fput_nx (G := G) (q := ⟨0, true⟩) (ρ := [.own 2 (.dict [(.str "Top", .none), (.str "joker", jkD j)]), .fz (jkD j), .fz (optsD ms)]) (i := 0) (k := 1) (f := "marks") (e := (L.var 2).list1) (y := optsD ms) (h := (.str "Top", .none)) (r := [(.str "joker", jkD j)]) rfl rfl (by simp)
  have h3 : fldSet [(.str "joker", jkD j)] "marks" (optsD ms) = [(.str "joker", jkD j), (.str "marks", optsD ms)] := by
    show (if ("joker" : Str) = "marks" then _ else _) = _
    rw [if_neg (by decide)]
    rfl
  rw [h3] at h2
  have h4 : semS G ⟨0, true⟩ 2 3 0 sTopI [inst "Top", jkD j, optsD ms] = some (.ok .none, topI j ms) := by
    unfold semS
    rw [if_pos (show ([inst "Top", jkD j, optsD ms] : List D).length = 3 from rfl)]
    have h5 : evS G ⟨0, true⟩ sTopI [.own 2 (inst "Top"), .fz (jkD j), .fz (optsD ms)] = some (.nx [.own 2 (topI j ms), .fz (jkD j), .fz (optsD ms)]) := (seq_nx h1).trans ((seq_nx h2).trans rfl)
    show (evS G ⟨0, true⟩ sTopI [.own 2 (inst "Top"), .fz (jkD j), .fz (optsD ms)]).bind _ = _
    rw [h5]
    rfl
  unfold Dz.makes
  rw [h4]
  rfl
theorem behI_sem (G : Nat → Dz.Sem) : IsBehI (Dz.makes "Behind" (semS G ⟨0, true⟩ 2 2 0 sBehI)) := fun o => rfl
/-! ### whether they show it -/
def okM1 (q : Q) (ms : List (Option Int)) (p : Nat × Option (List Bool × Bool)) : Bool := (((ms[p.1]?).getD none).isNone != p.2.isNone) && match (ms[p.1]?).getD none with
  | some v => decide (0 ≤ v) && decide (v ≤ full q p.1)
  | none => true
def aheadAll (q : Q) (t : Nat) (mine : List Int) : Bool := ((List.range q.jokers.length).filter fun (o : Nat) => decide ((o : Int) ≠ (t : Int))).all fun o => ah (t : Int) mine (o : Int) (has q o)
def showT (q : Q) (t : Nat) (j : Option Int) (ms : List (Option Int)) : Bool := decide (j ∈ jks q t) && decide (ms.length = q.rounds.length) && (en (row q t)).all (okM1 q ms) && aheadAll q t (scM q t j ms)
def showB (q : Q) (t : Nat) (o : Int) : Bool := decide (0 ≤ o) && decide (o < (q.jokers.length : Int)) && decide (o ≠ (t : Int)) && ah o (has q o.toNat) (t : Int) (bestR q t)
def showA (q : Q) (t : Nat) : Ans → Bool
  | .top j ms => showT q t j ms
  | .beh o => showB q t o
def sShowT (jo fu kw ah lk : Nat) : S := ((S.ifs ((L.cmp COp.notin ((L.var 0).fld ("joker" : Str)) (L.call false jo 1 ((L.var 1).acons ((L.var 2).acons L.anil)))).or (L.cmp COp.ne (L.bi Bi.len (((L.var 0).fld ("marks" : Str)).acons L.anil)) (L.bi Bi.len (((L.var 1).ix (L.c (PyData.int (0)))).acons L.anil)))) ((S.ret (L.c (PyData.bool false))).seq S.skip) S.skip).seq ((S.for_ Src.enum ((((L.var 1).ix (L.c (PyData.int (2)))).ix (L.var 2)).acons L.anil) (Tg.many [3, 4]) ((S.set 5 0 (((L.var 0).fld ("marks" : Str)).ix (L.var 3))).seq ((S.ifs ((L.cmp COp.eq (L.cmp COp.is (L.var 5) (L.c PyData.none)) (L.cmp COp.is (L.var 4) (L.c PyData.none))).or ((L.cmp COp.isnot (L.var 5) (L.c PyData.none)).and (L.chain COp.le COp.le (L.c (PyData.int (0))) (L.var 5) (L.call false fu 0 ((L.var 1).acons ((L.var 3).acons L.anil)))).not)) ((S.ret (L.c (PyData.bool false))).seq S.skip) S.skip).seq S.skip))).seq ((S.set 6 0 (L.call false kw 2 ((L.var 1).acons ((L.var 2).acons (((L.var 0).fld ("joker" : Str)).acons (((L.var 0).fld ("marks" : Str)).acons L.anil)))))).seq ((S.set 7 0 (L.comp Src.range1 ((L.bi Bi.len (((L.var 1).ix (L.c (PyData.int (1)))).acons L.anil)).acons L.anil) (Tg.one 8) [8] (L.cmp COp.ne (L.var 8) (L.var 2)) (L.var 8))).seq ((S.ret (L.bi Bi.all ((L.comp Src.seq ((L.var 7).acons L.anil) (Tg.one 8) [8] (L.c (PyData.bool true)) (L.call false ah 0 ((L.var 2).acons ((L.var 6).acons ((L.var 8).acons ((L.call false lk 2 ((L.var 1).acons ((L.var 8).acons L.anil))).acons L.anil)))))).acons L.anil))).seq S.skip)))))
def sShowB (ah lk gr : Nat) : S := ((S.ifs ((L.chain COp.le COp.lt (L.c (PyData.int (0))) ((L.var 0).fld ("other" : Str)) (L.bi Bi.len (((L.var 1).ix (L.c (PyData.int (1)))).acons L.anil))).not.or (L.cmp COp.eq ((L.var 0).fld ("other" : Str)) (L.var 2))) ((S.ret (L.c (PyData.bool false))).seq S.skip) S.skip).seq ((S.ret (L.call false ah 0 (((L.var 0).fld ("other" : Str)).acons ((L.call false lk 2 ((L.var 1).acons (((L.var 0).fld ("other" : Str)).acons L.anil))).acons ((L.var 2).acons (((L.call false gr 0 ((L.var 1).acons ((L.var 2).acons L.anil))).ix (L.c (PyData.int (2)))).acons L.anil)))))).seq S.skip))
def IsShowT (f : Dz.Sem) : Prop := ∀ (q : Q) (t : Nat) (j : Option Int) (ms : List (Option Int)), Ok q → t < q.jokers.length → f [topI j ms, stD q, .int t] = some (.ok (.bool (showT q t j ms)), .none)
def IsShowB (f : Dz.Sem) : Prop := ∀ (q : Q) (t : Nat) (o : Int), Ok q → t < q.jokers.length → f [behI o, stD q, .int t] = some (.ok (.bool (showB q t o)), .none)
theorem others_ev {G : Nat → Dz.Sem} {q : Q} (ok : Ok q) {t : Nat} {ρ : List Sl} {i j k : Nat} (hi : ρ[i]? = some (.fz (stD q))) (hj : ∀ x : Sl, (ρ.set k x)[j]? = some (.fz (.int (t : Int)))) (hk : k < ρ.length) :
    evE (okF G) (L.comp Src.range1 ((L.bi Bi.len (((L.var i).ix (L.c (PyData.int (1)))).acons L.anil)).acons L.anil) (Tg.one k) [k] (L.cmp COp.ne (L.var k) (L.var j)) (L.var k)) ρ = some (.list (((List.range q.jokers.length).filter fun (o : Nat) => decide ((o : Int) ≠ (t : Int))).map fun (o : Nat) => .int (o : Int))) := by
  have := ok.j1
  refine evE_comp (items := List.range q.jokers.length) (fun (o : Nat) => .int (o : Int)) (fun o => decide ((o : Int) ≠ (t : Int))) (fun (o : Nat) => .int (o : Int)) (un_rng (nq_ev (ev_var hi)) (by omega)) (by rw [List.length_range]; omega) fun o ho => ⟨_, rfl, neI (ev_var ?_) (ev_var ?_), fun _ => ev_var ?_⟩
  · simp [wipeD, hk]
  · simp only [wipeD, List.set_set]; exact hj _
  · simp [wipeD, hk]
theorem flt_len {n : Nat} {p : Nat → Bool} : ((List.range n).filter p).length ≤ n := by
  have := List.length_filter_le p (List.range n)
  rwa [List.length_range] at this
theorem showT_sem {G : Nat → Dz.Sem} {jo fu kw ah lk : Nat} (hj : IsJks (G jo)) (hf : IsFull (G fu)) (hw : IsKeyW (G kw)) (ha : IsAhead (G ah)) (hl : IsLeast (G lk)) : IsShowT (semS G ⟨0, false⟩ 0 3 6 (sShowT jo fu kw ah lk)) := fun q t j ms ok ht => by
  have hj1 := ok.j1
  have hr1 := ok.r1
  refine sem_ev rfl rfl ?_
  refine w_seq (w_if (c := (!decide (j ∈ jks q t)) || decide (((ms.length : Nat) : Int) ≠ ((q.rounds.length : Nat) : Int))) (ev_or (notinJ (ev_fld (ev_var rfl) (f_joker j ms)) (ev_call (ev_2 (ev_var rfl) (ev_var rfl)) (okF_of (hj q t ok ht)))) fun _ => neI (lenm (l := ms) (f := jkD) (ev_fld (ev_var rfl) (f_marks j ms))) (lenm (l := q.rounds) (f := PyData.int) (q0 (ev_var rfl)))) (fun z => ?_) (fun z => ?_))
  · have : showT q t j ms = false := by
      rw [Bool.or_eq_true, Bool.not_eq_true', decide_eq_false_iff_not, decide_eq_true_eq] at z
      unfold showT
      rcases z with z | z
      · simp [z]
      · have : ¬ ms.length = q.rounds.length := by omega
        simp [this]
    rw [this]
    exact s_ret rfl ev_c rt_ok
  · rw [Bool.or_eq_false_iff, Bool.not_eq_false', decide_eq_true_eq, decide_eq_false_iff_not] at z
    have z2 : ms.length = q.rounds.length := by omega
    have eS : showT q t j ms = ((en (row q t)).all (okM1 q ms) && aheadAll q t (scM q t j ms)) := by simp [showT, z.1, z2]
    refine w_skip (w_seq (w_for (items := en (row q t)) (fun (p : Nat × Option (List Bool × Bool)) => pairD (.int (p.1 : Int)) (shD p.2)) (fun pre ρ => pre.all (okM1 q ms) = true ∧ ∃ x3 x4 x5, ρ = [.fz (topI j ms), .fz (stD q), .fz (.int t), x3, x4, x5, .no, .no, .no]) ⟨rfl, _, _, _, rfl⟩ (un_row ok ht (ev_var rfl) (ev_var rfl)) (fun pre p post ρ hall ⟨hpre, x3, x4, x5, e⟩ => ?_) fun ρ' ⟨hpre, x3, x4, x5, e⟩ => ?_))
    · subst e
      obtain ⟨n, sh⟩ := p
      have hp : (n, sh) ∈ en (row q t) := by rw [hall]; simp
      have hn := en_mem hp
      have hnr := row_lt ok ht hn
      have hmn : ms[n]? = some ((ms[n]?).getD none) := by rw [List.getElem?_eq_getElem (by omega)]; rfl
      refine ⟨_, rfl, s_set (ixn (l := ms) (f := jkD) (ev_fld (ev_var rfl) (f_marks j ms)) (ev_var rfl) hmn) ?_⟩
      refine w_seq (w_if (c := !okM1 q ms (n, sh)) ?_ (fun z => ?_) (fun z => ?_))
      · have t1 := eqB (isNj (F := okF G) (ρ := [.fz (topI j ms), .fz (stD q), .fz (.int t), .fz (.int n), .fz (shD sh), .fz (jkD ((ms[n]?).getD none)), .no, .no, .no]) (a := L.var 5) (ev_var rfl)) (isN (a := L.var 4) (s := sh) (ev_var rfl))
        cases em : (ms[n]?).getD none with
        | none =>
          have t2 := notNj (F := okF G) (ρ := [.fz (topI j ms), .fz (stD q), .fz (.int t), .fz (.int n), .fz (shD sh), .fz (jkD ((ms[n]?).getD none)), .no, .no, .no]) (a := L.var 5) (ev_var rfl)
          rw [em] at t1 t2
          refine (ev_or t1 fun _ => ev_and (y := false) t2 fun z => by cases z).trans ?_
          simp [okM1, em]
        | some v =>
          have t2 := notNj (F := okF G) (ρ := [.fz (topI j ms), .fz (stD q), .fz (.int t), .fz (.int n), .fz (shD sh), .fz (jkD ((ms[n]?).getD none)), .no, .no, .no]) (a := L.var 5) (ev_var rfl)
          rw [em] at t1 t2
          refine (ev_or t1 fun _ => ev_and t2 fun _ => ev_not (ch_le ev_c (j := v) (ev_var rfl) (ev_call (ev_2 (ev_var rfl) (ev_var rfl)) (okF_of (hf q n ok hnr))))).trans ?_
          simp [okM1, em]
      · have : showT q t j ms = false := by
          rw [eS]
          have h0 : okM1 q ms (n, sh) = false := by simpa using z
          have : (en (row q t)).all (okM1 q ms) = false := by
            rw [List.all_eq_false]
            exact ⟨_, hp, by simp [h0]⟩
          rw [this]
          rfl
        rw [this]
        exact s_ret rfl ev_c rt_ok
      · have h0 : okM1 q ms (n, sh) = true := by simpa using z
        exact w_skip (w_skip ⟨by rw [List.all_append, hpre]; simp [h0], _, _, _, rfl⟩)
    · subst e
      have hhas : Has q t ms := fun n hn => by
        have hp : (n, none) ∈ en (row q t) := by
          rw [List.mem_iff_getElem?]
          refine ⟨n, ?_⟩
          unfold en
          rw [List.getElem?_zip_eq_some]
          exact ⟨List.getElem?_range (List.getElem?_eq_some_iff.mp hn).1, hn⟩
        have := List.all_eq_true.mp hpre _ hp
        unfold okM1 at this
        rw [Bool.and_eq_true] at this
        have hmn : ms[n]? = some ((ms[n]?).getD none) := by rw [List.getElem?_eq_getElem (by have := row_lt ok ht hn; omega)]; rfl
        cases em : (ms[n]?).getD none with
        | none => rw [em] at this; simp at this
        | some v => exact ⟨v, by rw [hmn, em]⟩
      rw [eS, hpre, Bool.true_and]
      refine s_set (ev_call (ev_4 (ev_var rfl) (ev_var rfl) (ev_fld (ev_var rfl) (f_joker j ms)) (ev_fld (ev_var rfl) (f_marks j ms))) (okF_of (hw q t j ms ok ht hhas))) ?_
      refine s_set (others_ev ok (t := t) rfl (fun x => rfl) (by simp)) ?_
      refine s_ret rfl (ev_allf (items := (List.range q.jokers.length).filter fun (o : Nat) => decide ((o : Int) ≠ (t : Int))) (fun (o : Nat) => .int (o : Int)) (fun o => Mz.ah (t : Int) (scM q t j ms) (o : Int) (has q o)) (un_seqm (ev_var rfl)) (by have := flt_len (n := q.jokers.length) (p := fun (o : Nat) => decide ((o : Int) ≠ (t : Int))); omega) fun o ho => ⟨_, rfl, ?_⟩) rt_ok
      exact ev_call (ev_4 (ev_var rfl) (ev_var rfl) (ev_var rfl) (ev_call (ev_2 (ev_var rfl) (ev_var rfl)) (okF_of (hl q o ok (List.mem_range.mp (List.mem_filter.mp ho).1))))) (okF_of (ah_key ha _ _ _ _))
theorem showB_sem {G : Nat → Dz.Sem} {ah lk gr : Nat} (ha : IsAhead (G ah)) (hl : IsLeast (G lk)) (hg : IsGreat (G gr)) : IsShowB (semS G ⟨0, false⟩ 0 3 0 (sShowB ah lk gr)) := fun q t o ok ht => by
  refine sem_ev rfl rfl ?_
  refine w_seq (w_if (ev_or (ev_not (ch_lt ev_c (ev_fld (ev_var rfl) (f_other o)) (nq_ev (ev_var rfl)))) fun _ => eqI (ev_fld (ev_var rfl) (f_other o)) (ev_var rfl)) (fun z => ?_) (fun z => ?_))
  · have : showB q t o = false := by
      unfold showB
      rw [Bool.or_eq_true, Bool.not_eq_true', decide_eq_true_eq] at z
      rcases z with z | z
      · rw [z]; rfl
      · simp [z]
    rw [this]
    exact s_ret rfl ev_c rt_ok
  · rw [Bool.or_eq_false_iff, Bool.not_eq_false', decide_eq_false_iff_not] at z
    have z1 := z.1
    rw [Bool.and_eq_true, decide_eq_true_eq, decide_eq_true_eq] at z1
    have eS : showB q t o = Mz.ah o (has q o.toNat) (t : Int) (bestR q t) := by unfold showB; rw [z.1]; simp [z.2]
    have hot : o.toNat < q.jokers.length := by omega
    have hoi : ((o.toNat : Nat) : Int) = o := by omega
    have hL := hl q o.toNat ok hot
    rw [hoi] at hL
    rw [eS]
    refine w_skip (s_ret rfl (ev_call (ev_4 (ev_fld (ev_var rfl) (f_other o)) (ev_call (ev_2 (ev_var rfl) (ev_fld (ev_var rfl) (f_other o))) (okF_of hL)) (ev_var rfl) (ev_ix (ev_call (ev_2 (ev_var rfl) (ev_var rfl)) (okF_of (hg q t ok ht))) ev_c rfl)) (okF_of (ah_key ha _ _ _ _))) rt_ok)
/-! ### top -/
def sTop (as ta gr ah lk bi ti : Nat) : S := ((S.exprX false as 0 ((L.var 0).acons L.anil)).seq ((S.exprX false ta 0 ((L.var 0).acons ((L.var 1).acons L.anil))).seq ((S.setT [(2, 0), (3, 0), (4, 0)] (L.call false gr 0 ((L.var 0).acons ((L.var 1).acons L.anil)))).seq ((S.for_ Src.range1 ((L.bi Bi.len (((L.var 0).ix (L.c (PyData.int (1)))).acons L.anil)).acons L.anil) (Tg.one 5) ((S.ifs ((L.cmp COp.ne (L.var 5) (L.var 1)).and (L.call false ah 0 ((L.var 5).acons ((L.call false lk 2 ((L.var 0).acons ((L.var 5).acons L.anil))).acons ((L.var 1).acons ((L.var 4).acons L.anil)))))) ((S.ret (L.call false bi 2 ((L.var 5).acons L.anil))).seq S.skip) S.skip).seq S.skip)).seq ((S.ret (L.call false ti 2 ((L.var 2).acons ((L.var 3).acons L.anil)))).seq S.skip)))))
def hit (q : Q) (t : Nat) (o : Nat) : Bool := decide ((o : Int) ≠ (t : Int)) && ah (o : Int) (has q o) (t : Int) (bestR q t)
def topQ (q : Q) (t : Nat) : Ans := match (List.range q.jokers.length).find? (hit q t) with
  | some o => .beh (o : Int)
  | none => .top (bestJ q t) (fullM q t)
def IsTop (f : Dz.Sem) : Prop := ∀ (q : Q) (t : Nat), Ok q → t < q.jokers.length → f [stD q, .int t] = some (.ok (ansD (topQ q t)), .none)
theorem top_sem {G : Nat → Dz.Sem} {as ta gr ah lk bi ti : Nat} (has' : IsAskS (G as)) (hta : IsAskT (G ta)) (hg : IsGreat (G gr)) (ha : IsAhead (G ah)) (hl : IsLeast (G lk)) (hb : IsBehI (G bi)) (ht' : IsTopI (G ti)) {kf : Nat} : IsTop (semS G ⟨kf, false⟩ 0 2 4 (sTop as ta gr ah lk bi ti)) := fun q t ok ht => by
  have hj := ok.j1
  refine sem_ev rfl rfl ?_
  refine s_exprX (ev_1 (ev_var rfl)) (has' q ok) (s_exprX (ev_2 (ev_var rfl) (ev_var rfl)) (hta q t ht) ?_)
  refine s_setT (ds := [jkD (bestJ q t), optsD (fullM q t), keyS (bestR q t)]) (ev_call (ev_2 (ev_var rfl) (ev_var rfl)) (okF_of (hg q t ok ht))) rfl ?_
  refine w_seq (w_for (items := List.range q.jokers.length) (fun (i : Nat) => PyData.int (i : Int)) (fun pre ρ => pre.find? (hit q t) = none ∧ ∃ x5, ρ = [.fz (stD q), .fz (.int t), .fz (jkD (bestJ q t)), .fz (optsD (fullM q t)), .fz (keyS (bestR q t)), x5]) ⟨rfl, _, rfl⟩ (un_rng (nq_ev (ev_var rfl)) (by omega)) (fun pre o post ρ hall ⟨hp, x5, e⟩ => ?_) fun ρ' ⟨hp, x5, e⟩ => ?_)
  · subst e
    have ho : o < q.jokers.length := (range_split hall).2
    refine ⟨_, rfl, w_seq (w_if (c := hit q t o) (ev_and (neI (ev_var rfl) (ev_var rfl)) fun _ => ev_call (ev_4 (ev_var rfl) (ev_call (ev_2 (ev_var rfl) (ev_var rfl)) (okF_of (hl q o ok ho))) (ev_var rfl) (ev_var rfl)) (okF_of (ah_key ha _ _ (has q o) (bestR q t)))) (fun z => ?_) (fun z => ?_))⟩
    · have : topQ q t = .beh (o : Int) := by
        unfold topQ
        rw [hall, List.find?_append, hp, List.find?_cons, z]
        rfl
      rw [this]
      exact s_ret rfl (ev_call (ev_1 (ev_var rfl)) (okF_of (hb (o : Int)))) rt_ok
    · refine w_skip (w_skip ⟨?_, _, rfl⟩)
      rw [List.find?_append, hp, List.find?_cons, z]
      rfl
  · subst e
    have : topQ q t = .top (bestJ q t) (fullM q t) := by
      unfold topQ
      rw [hp]
    rw [this]
    exact s_ret rfl (ev_call (ev_2 (ev_var rfl) (ev_var rfl)) (okF_of (ht' _ _))) rt_ok
/-! ### the law's own -/
def sLTop (fu jo sc ah ha : Nat) : S := ((S.set 4 0 (L.call false fu 1 ((L.var 0).acons ((L.var 1).acons L.anil)))).seq ((S.ifs ((L.cmp COp.notin (L.var 2) (L.call false jo 1 ((L.var 0).acons ((L.var 1).acons L.anil)))).or (L.cmp COp.ne (L.bi Bi.len ((L.var 3).acons L.anil)) (L.bi Bi.len ((L.var 4).acons L.anil)))) ((S.ret (L.c (PyData.bool false))).seq S.skip) S.skip).seq ((S.for_ Src.zip ((L.var 3).acons ((L.var 4).acons L.anil)) (Tg.many [5, 6]) ((S.ifs ((L.cmp COp.ne (L.cmp COp.is (L.var 5) (L.c PyData.none)) (L.cmp COp.is (L.var 6) (L.c PyData.none))).or ((L.cmp COp.isnot (L.var 6) (L.c PyData.none)).and (L.chain COp.le COp.le (L.c (PyData.int (0))) (L.var 5) (L.var 6)).not)) ((S.ret (L.c (PyData.bool false))).seq S.skip) S.skip).seq S.skip)).seq ((S.set 7 0 (L.call false sc 1 ((L.var 0).acons ((L.var 1).acons ((L.var 2).acons ((L.var 3).acons L.anil)))))).seq ((S.set 8 0 (L.comp Src.range1 ((L.bi Bi.len (((L.var 0).ix (L.c (PyData.int (1)))).acons L.anil)).acons L.anil) (Tg.one 9) [9] (L.cmp COp.ne (L.var 9) (L.var 1)) (L.var 9))).seq ((S.ret (L.bi Bi.all ((L.comp Src.seq ((L.var 8).acons L.anil) (Tg.one 9) [9] (L.c (PyData.bool true)) (L.call false ah 0 ((L.var 1).acons ((L.var 7).acons ((L.var 9).acons ((L.call false ha 1 ((L.var 0).acons ((L.var 9).acons L.anil))).acons L.anil)))))).acons L.anil))).seq S.skip))))))
def okZ (p : Option Int × Option Int) : Bool := (p.1.isNone == p.2.isNone) && match p.1, p.2 with
  | some v, some w => decide (0 ≤ v) && decide (v ≤ w)
  | _, _ => true
theorem okZ_all {q : Q} {t : Nat} {ms : List (Option Int)} (h : ms.length = (row q t).length) : (ms.zip (fullM q t)).all okZ = (en (row q t)).all (okM1 q ms) := by
  rw [Bool.eq_iff_iff, List.all_eq_true, List.all_eq_true]
  have key : ∀ (n : Nat) (s : Option (List Bool × Bool)) (m : Option Int), (row q t)[n]? = some s → ms[n]? = some m → (okZ (m, if s.isNone then some (full q n) else none) = okM1 q ms (n, s)) := fun n s m hs hm => by
    unfold okZ okM1
    simp only [hm, Option.getD_some]
    cases m <;> cases s <;> simp
  constructor
  · intro H p hp
    obtain ⟨n, s⟩ := p
    have hs := en_mem hp
    have hl := (List.getElem?_eq_some_iff.mp hs).1
    have hm : ms[n]? = some ms[n] := List.getElem?_eq_getElem (by omega)
    rw [← key n s _ hs hm]
    refine H _ ?_
    rw [List.mem_iff_getElem?]
    exact ⟨n, List.getElem?_zip_eq_some.mpr ⟨hm, fullM_get hs⟩⟩
  · intro H p hp
    obtain ⟨m, f⟩ := p
    obtain ⟨n, hm, hf⟩ := zip_mem hp
    have hl : n < (row q t).length := by
      have := (List.getElem?_eq_some_iff.mp hm).1
      omega
    have hs := List.getElem?_eq_getElem hl
    rw [fullM_get hs] at hf
    injection hf with hf
    subst hf
    rw [key n _ m hs hm]
    refine H _ ?_
    rw [List.mem_iff_getElem?]
    exact ⟨n, List.getElem?_zip_eq_some.mpr ⟨List.getElem?_range hl, hs⟩⟩
def IsLTop (f : Dz.Sem) : Prop := ∀ (q : Q) (t : Nat) (j : Option Int) (ms : List (Option Int)), Ok q → t < q.jokers.length → f [stD q, .int t, jkD j, optsD ms] = some (.ok (.bool (showT q t j ms)), .none)
theorem okM_has {q : Q} (ok : Ok q) {t : Nat} (ht : t < q.jokers.length) {ms : List (Option Int)} (hl : ms.length = q.rounds.length) (h : (en (row q t)).all (okM1 q ms) = true) : Has q t ms := fun n hn => by
  have hp : (n, none) ∈ en (row q t) := by
    rw [List.mem_iff_getElem?]
    refine ⟨n, ?_⟩
    unfold en
    rw [List.getElem?_zip_eq_some]
    exact ⟨List.getElem?_range (List.getElem?_eq_some_iff.mp hn).1, hn⟩
  have := List.all_eq_true.mp h _ hp
  unfold okM1 at this
  rw [Bool.and_eq_true] at this
  have hmn : ms[n]? = some ((ms[n]?).getD none) := by rw [List.getElem?_eq_getElem (by have := row_lt ok ht hn; omega)]; rfl
  cases em : (ms[n]?).getD none with
  | none => rw [em] at this; simp at this
  | some v => exact ⟨v, by rw [hmn, em]⟩
theorem ltop_sem {G : Nat → Dz.Sem} {fu jo sc ah ha : Nat} (hf : IsLFull (G fu)) (hj : IsJks (G jo)) (hs : IsScM (G sc)) (hA : IsLAhead (G ah)) (hh : IsHas (G ha)) : IsLTop (semS G ⟨0, false⟩ 0 4 6 (sLTop fu jo sc ah ha)) := fun q t j ms ok ht => by
  have hj1 := ok.j1
  have hr1 := ok.r1
  have hrl := row_len ok ht
  have hfl := fullM_len q t
  refine sem_ev rfl rfl ?_
  refine s_set (ev_call (ev_2 (ev_var rfl) (ev_var rfl)) (okF_of (hf q t ok ht))) ?_
  refine w_seq (w_if (ev_or (notinJ (ev_var rfl) (ev_call (ev_2 (ev_var rfl) (ev_var rfl)) (okF_of (hj q t ok ht)))) fun _ => neI (lenm (l := ms) (f := jkD) (ev_var rfl)) (lenm (l := fullM q t) (f := jkD) (ev_var rfl))) (fun z => ?_) (fun z => ?_))
  · have : showT q t j ms = false := by
      rw [Bool.or_eq_true, Bool.not_eq_true', decide_eq_false_iff_not, decide_eq_true_eq] at z
      unfold showT
      rcases z with z | z
      · simp [z]
      · have : ¬ ms.length = q.rounds.length := by omega
        simp [this]
    rw [this]
    exact s_ret rfl ev_c rt_ok
  · rw [Bool.or_eq_false_iff, Bool.not_eq_false', decide_eq_true_eq, decide_eq_false_iff_not] at z
    have z2 : ms.length = q.rounds.length := by omega
    have eS : showT q t j ms = ((ms.zip (fullM q t)).all okZ && aheadAll q t (scM q t j ms)) := by rw [okZ_all (by omega)]; simp [showT, z.1, z2]
    refine w_skip (w_seq (w_for (items := ms.zip (fullM q t)) (fun (p : Option Int × Option Int) => pairD (jkD p.1) (jkD p.2)) (fun pre ρ => pre.all okZ = true ∧ ∃ x5 x6, ρ = [.fz (stD q), .fz (.int t), .fz (jkD j), .fz (optsD ms), .fz (optsD (fullM q t)), x5, x6, .no, .no, .no]) ⟨rfl, _, _, rfl⟩ ?_ (fun pre p post ρ hall ⟨hpre, x5, x6, e⟩ => ?_) fun ρ' ⟨hpre, x5, x6, e⟩ => ?_))
    · rw [ev_2 (d := optsD ms) (e := optsD (fullM q t)) (ev_var rfl) (ev_var rfl)]
      show some ((ms.map jkD).zipWith pairD ((fullM q t).map jkD)) = _
      rw [zip_map]
    · subst e
      obtain ⟨m, f⟩ := p
      refine ⟨_, rfl, w_seq (w_if (c := !okZ (m, f)) ?_ (fun z => ?_) (fun z => ?_))⟩
      · have t1 := neB (isNj (F := okF G) (ρ := [.fz (stD q), .fz (.int t), .fz (jkD j), .fz (optsD ms), .fz (optsD (fullM q t)), .fz (jkD m), .fz (jkD f), .no, .no, .no]) (a := L.var 5) (s := m) (ev_var rfl)) (isNj (a := L.var 6) (s := f) (ev_var rfl))
        have t2 := notNj (F := okF G) (ρ := [.fz (stD q), .fz (.int t), .fz (jkD j), .fz (optsD ms), .fz (optsD (fullM q t)), .fz (jkD m), .fz (jkD f), .no, .no, .no]) (a := L.var 6) (s := f) (ev_var rfl)
        cases m with
        | none =>
          cases f with
          | none => exact ev_or t1 fun _ => ev_and (y := false) t2 fun z => by cases z
          | some w => exact ev_or (y := true) t1 fun z => by cases z
        | some v =>
          cases f with
          | none => exact ev_or (y := true) t1 fun z => by cases z
          | some w =>
            refine (ev_or t1 fun _ => ev_and t2 fun _ => ev_not (ch_le ev_c (j := v) (k := w) (ev_var rfl) (ev_var rfl))).trans ?_
            simp [okZ]
      · have : showT q t j ms = false := by
          rw [eS]
          have h0 : okZ (m, f) = false := by simpa using z
          have : (ms.zip (fullM q t)).all okZ = false := by
            rw [List.all_eq_false]
            exact ⟨(m, f), by rw [hall]; simp, by simp [h0]⟩
          rw [this]
          rfl
        rw [this]
        exact s_ret rfl ev_c rt_ok
      · have h0 : okZ (m, f) = true := by simpa using z
        exact w_skip (w_skip ⟨by rw [List.all_append, hpre]; simp [h0], _, _, rfl⟩)
    · subst e
      have hhas : Has q t ms := okM_has ok ht z2 (by rw [← okZ_all (by omega)]; exact hpre)
      rw [eS, hpre, Bool.true_and]
      refine s_set (ev_call (ev_4 (ev_var rfl) (ev_var rfl) (ev_var rfl) (ev_var rfl)) (okF_of (hs q t j ms ok ht hhas))) ?_
      refine s_set (others_ev ok (t := t) rfl (fun x => rfl) (by simp)) ?_
      refine s_ret rfl (ev_allf (items := (List.range q.jokers.length).filter fun (o : Nat) => decide ((o : Int) ≠ (t : Int))) (fun (o : Nat) => .int (o : Int)) (fun o => Mz.ah (t : Int) (scM q t j ms) (o : Int) (has q o)) (un_seqm (ev_var rfl)) (by have := flt_len (n := q.jokers.length) (p := fun (o : Nat) => decide ((o : Int) ≠ (t : Int))); omega) fun o ho => ⟨_, rfl, ?_⟩) rt_ok
      have hol := List.mem_range.mp (List.mem_filter.mp ho).1
      exact ev_call (ev_4 (ev_var rfl) (ev_var rfl) (ev_var rfl) (ev_call (ev_2 (ev_var rfl) (ev_var rfl)) (okF_of (hh q o ok hol)))) (okF_of (hA _ _ _ _ (by rw [scM_len ok ht, has_len ok hol])))
def sLBeh (ah ha be : Nat) : S := ((S.ifs ((L.chain COp.le COp.lt (L.c (PyData.int (0))) (L.var 2) (L.bi Bi.len (((L.var 0).ix (L.c (PyData.int (1)))).acons L.anil))).not.or (L.cmp COp.eq (L.var 2) (L.var 1))) ((S.ret (L.c (PyData.bool false))).seq S.skip) S.skip).seq ((S.ret (L.call false ah 0 ((L.var 2).acons ((L.call false ha 1 ((L.var 0).acons ((L.var 2).acons L.anil))).acons ((L.var 1).acons ((L.call false be 0 ((L.var 0).acons ((L.var 1).acons L.anil))).acons L.anil)))))).seq S.skip))
def IsLBeh (f : Dz.Sem) : Prop := ∀ (q : Q) (t : Nat) (o : Int), Ok q → t < q.jokers.length → f [stD q, .int t, .int o] = some (.ok (.bool (showB q t o)), .none)
theorem lbeh_sem {G : Nat → Dz.Sem} {ah ha be : Nat} (hA : IsLAhead (G ah)) (hh : IsHas (G ha)) (hb : IsLBest (G be)) : IsLBeh (semS G ⟨0, false⟩ 0 3 0 (sLBeh ah ha be)) := fun q t o ok ht => by
  refine sem_ev rfl rfl ?_
  refine w_seq (w_if (ev_or (ev_not (ch_lt ev_c (ev_var rfl) (nq_ev (ev_var rfl)))) fun _ => eqI (ev_var rfl) (ev_var rfl)) (fun z => ?_) (fun z => ?_))
  · have : showB q t o = false := by
      unfold showB
      rw [Bool.or_eq_true, Bool.not_eq_true', decide_eq_true_eq] at z
      rcases z with z | z
      · rw [z]; rfl
      · simp [z]
    rw [this]
    exact s_ret rfl ev_c rt_ok
  · rw [Bool.or_eq_false_iff, Bool.not_eq_false', decide_eq_false_iff_not] at z
    have z1 := z.1
    rw [Bool.and_eq_true, decide_eq_true_eq, decide_eq_true_eq] at z1
    have eS : showB q t o = Mz.ah o (has q o.toNat) (t : Int) (bestR q t) := by unfold showB; rw [z.1]; simp [z.2]
    have hot : o.toNat < q.jokers.length := by omega
    have hoi : ((o.toNat : Nat) : Int) = o := by omega
    have hL := hh q o.toNat ok hot
    rw [hoi] at hL
    rw [eS]
    refine w_skip (s_ret rfl (ev_call (ev_4 (ev_var rfl) (ev_call (ev_2 (ev_var rfl) (ev_var rfl)) (okF_of hL)) (ev_var rfl) (ev_call (ev_2 (ev_var rfl) (ev_var rfl)) (okF_of (hb q t ok ht)))) (okF_of (hA _ _ _ _ ?_))) rt_ok)
    rw [has_len ok hot]
    exact (scM_len ok ht _ _).symm
def sLDue (tp bh : Nat) : S := ((S.ifs ((L.var 2).isC [("Top" : Str)]) ((S.ret (L.call false tp 0 ((L.var 0).acons ((L.var 1).acons (((L.var 2).fld ("joker" : Str)).acons (((L.var 2).fld ("marks" : Str)).acons L.anil)))))).seq S.skip) S.skip).seq ((S.ret (L.call false bh 0 ((L.var 0).acons ((L.var 1).acons (((L.var 2).fld ("other" : Str)).acons L.anil))))).seq S.skip))
def IsLDue (f : Dz.Sem) : Prop := ∀ (q : Q) (t : Nat) (a : Ans), Ok q → t < q.jokers.length → f [stD q, .int t, ansD a] = some (.ok (.bool (showA q t a)), .none)
theorem ldue_sem {G : Nat → Dz.Sem} {tp bh : Nat} (h1 : IsLTop (G tp)) (h2 : IsLBeh (G bh)) : IsLDue (semS G ⟨0, false⟩ 0 3 0 (sLDue tp bh)) := fun q t a ok ht => by
  refine sem_ev rfl rfl ?_
  cases a with
  | top j ms =>
    refine w_seq (w_ift (ev_isC (c := "Top") (ev_var rfl) rfl) ?_)
    exact s_ret rfl (ev_call (ev_4 (ev_var rfl) (ev_var rfl) (ev_fld (ev_var rfl) (f_joker j ms)) (ev_fld (ev_var rfl) (f_marks j ms))) (okF_of (h1 q t j ms ok ht))) rt_ok
  | beh o =>
    refine s_no (ev_isC (c := "Behind") (ev_var rfl) rfl) ?_
    exact s_ret rfl (ev_call (ev_3 (ev_var rfl) (ev_var rfl) (ev_fld (ev_var rfl) (f_other o))) (okF_of (h2 q t o ok ht))) rt_ok
end Mz

set_option Elab.async false
set_option linter.all false
set_option maxRecDepth 100000
set_option maxHeartbeats 4000000
/-! What is told of a table: a Top that shows it, or one that stays ahead. -/
namespace Mz
open PySem L2 Dz

theorem hit_showB {q : Q} {t o : Nat} (ho : o < q.jokers.length) : showB q t (o : Int) = hit q t o := by
  unfold showB hit
  rw [decide_eq_true (show (0 : Int) ≤ (o : Int) by omega), decide_eq_true (show (o : Int) < (q.jokers.length : Int) by omega), Int.toNat_natCast]
  rfl
def staysQ (q : Q) (t : Nat) : List Nat := (List.range q.jokers.length).filter fun (o : Nat) => showB q t (o : Int)
theorem topQ_cases (q : Q) (t : Nat) : (staysQ q t = [] ∧ topQ q t = .top (bestJ q t) (fullM q t)) ∨ ∃ o : Nat, o < q.jokers.length ∧ topQ q t = .beh (o : Int) ∧ showB q t (o : Int) = true ∧ staysQ q t ≠ [] := by
  unfold topQ
  cases e : (List.range q.jokers.length).find? (hit q t) with
  | none =>
    refine .inl ⟨?_, rfl⟩
    unfold staysQ
    rw [List.filter_eq_nil_iff]
    intro o ho
    rw [hit_showB (List.mem_range.mp ho)]
    exact List.find?_eq_none.mp e o ho
  | some o =>
    have h1 := List.find?_some e
    have h2 := List.mem_range.mp (List.mem_of_find?_eq_some e)
    rw [← hit_showB h2] at h1
    refine .inr ⟨o, h2, rfl, h1, fun z => ?_⟩
    have : o ∈ staysQ q t := List.mem_filter.mpr ⟨List.mem_range.mpr h2, h1⟩
    rw [z] at this
    cases this
theorem ah_not {i j : Int} (h : i ≠ j) (a b : List Int) : ah i a j b = !ah j b i a := ahK_tot h
theorem ahead_best {q : Q} {t : Nat} (h : staysQ q t = []) : aheadAll q t (bestR q t) = true := by
  unfold aheadAll
  rw [List.all_eq_true]
  intro o ho
  obtain ⟨h1, h2⟩ := List.mem_filter.mp ho
  have h2 := of_decide_eq_true h2
  have h3 : o ∉ staysQ q t := by rw [h]; simp
  have ho' := List.mem_range.mp h1
  have h4 : hit q t o = false := by
    cases z : hit q t o with
    | false => rfl
    | true => exact absurd (List.mem_filter.mpr ⟨h1, by rw [hit_showB ho']; exact z⟩) h3
  unfold hit at h4
  rw [decide_eq_true h2, Bool.true_and] at h4
  rw [ah_not (fun z => h2 z.symm), h4]
  rfl
theorem okM_full {q : Q} (ok : Ok q) (t : Nat) : (en (row q t)).all (okM1 q (fullM q t)) = true := by
  rw [List.all_eq_true]
  rintro ⟨n, s⟩ hp
  have hn := en_mem hp
  unfold okM1
  simp only [fullM_get hn, Option.getD_some]
  have := full_nn ok n
  cases s <;> simp [this]
theorem topQ_due {q : Q} (ok : Ok q) {t : Nat} (ht : t < q.jokers.length) : showA q t (topQ q t) = true := by
  rcases topQ_cases q t with ⟨h1, h2⟩ | ⟨o, ho, h2, h3, _⟩
  · rw [h2]
    show showT q t (bestJ q t) (fullM q t) = true
    unfold showT
    rw [decide_eq_true (bestJ_mem q t), decide_eq_true (show (fullM q t).length = q.rounds.length by rw [fullM_len, row_len ok ht]), okM_full ok t]
    exact ahead_best h1
  · rw [h2]
    exact h3
theorem can_iff {q : Q} (ok : Ok q) {t : Nat} : (allR q t).any (aheadAll q t) = (staysQ q t).isEmpty := by
  rw [Bool.eq_iff_iff, List.any_eq_true, List.isEmpty_iff]
  constructor
  · rintro ⟨r, hr, h⟩
    unfold staysQ
    rw [List.filter_eq_nil_iff]
    intro o ho hs
    have ho' := List.mem_range.mp ho
    rw [hit_showB ho'] at hs
    unfold hit at hs
    rw [Bool.and_eq_true] at hs
    have hne := of_decide_eq_true hs.1
    have h1 := List.all_eq_true.mp h o (List.mem_filter.mpr ⟨ho, hs.1⟩)
    have h2 := ah_mono (allR_le hr).2 (leS_refl _) h1
    rw [ah_not (fun z => hne z.symm), hs.2] at h2
    cases h2
  · intro h
    exact ⟨_, best_all ok t, ahead_best h⟩
/-! ### all that can come, of few ways -/
theorem allM_pre {l r : List (Option Int)} (h0 : ∀ i, some i ∈ l ++ r → 0 ≤ i) : (allM l).length ≤ (allM (l ++ r)).length := by
  revert h0
  refine rev_ind (P := fun r => (∀ i, some i ∈ l ++ r → 0 ≤ i) → (allM l).length ≤ (allM (l ++ r)).length) (fun _ => by simp) (fun r x ih h => ?_) r
  rw [← List.append_assoc, allM_snoc, flatMap_len]
  refine Nat.le_trans (ih fun i hi => h i (by rw [← List.append_assoc]; exact List.mem_append_left _ hi)) ?_
  refine Nat.le_mul_of_pos_right _ ?_
  cases x with
  | none => simp [optM]
  | some i =>
    have := h i (by simp)
    rw [optM, List.length_map, List.length_range]
    omega
theorem opt_le {fm : List (Option Int)} (h0 : ∀ i, some i ∈ fm → 0 ≤ i) {m : Option Int} (hm : m ∈ fm) : (optM m).length ≤ (allM fm).length := by
  obtain ⟨l, r, rfl⟩ := List.append_of_mem hm
  have h1 := allM_pre (l := l ++ [m]) (r := r) (by simpa using h0)
  rw [List.append_assoc] at h1
  refine Nat.le_trans ?_ h1
  rw [allM_snoc, flatMap_len]
  refine Nat.le_mul_of_pos_left _ ?_
  have h2 := allM_pre (l := []) (r := l) (fun i hi => h0 i (by simp at hi ⊢; exact .inl hi))
  exact h2
theorem full_some {q : Q} (ok : Ok q) {t : Nat} {i : Int} (h : some i ∈ fullM q t) : 0 ≤ i ∧ i ≤ 5 := by
  unfold fullM at h
  obtain ⟨p, hp, e⟩ := List.mem_map.mp h
  split at e
  · cases e
    refine ⟨full_nn ok _, ?_⟩
    unfold full
    cases hr : q.rounds[p.1]? with
    | none => simp only [Option.getD_none]; omega
    | some r =>
      have := (ok.r2 _ _ hr).2
      simp only [Option.getD_some]
      omega
  · cases e
theorem optM_ev6 {F : Nat → List D → Option D} {ρ : List Sl} {a : L} {m : Option Int} (h : evE F a ρ = some (jkD m)) (hm : (optM m).length ≤ 6) (h0 : ∀ i, m = some i → 0 ≤ i) : evE F ((L.cmp COp.is a (L.c PyData.none)).ite ((L.c PyData.none).acons L.anil).lst (L.bi Bi.rng1 ((L.bin BOp.add a (L.c (PyData.int (1)))).acons L.anil))) ρ = some (optsD (optM m)) := by
  refine ev_ite (isNj h) (fun z => ?_) (fun z => ?_)
  · cases m with
    | none => exact ev_lst (ev_1 ev_c) (by simp [optM])
    | some i => cases z
  · cases m with
    | none => cases z
    | some i =>
      rw [ev_bi (ev_1 (ev_bin h ev_c rfl))]
      have hi := h0 i rfl
      rw [optM, List.length_map, List.length_range] at hm
      have e1 : i + 1 = ((i + 1).toNat : Int) := by omega
      show biF .rng1 [.int (i + 1)] = _
      rw [e1, biF, l63 (by omega), Int.toNat_natCast, lim_le (by omega), rangeD_eq]
      simp only [Bool.and_self, if_true, optsD, optM, List.map_map]
      rfl
def IsLAllW (f : Dz.Sem) : Prop := ∀ (q : Q) (t : Nat), Ok q → (allM (fullM q t)).length ≤ 64 → t < q.jokers.length → f [stD q, .int t] = some (.ok (rowsD (allR q t)), .none)
theorem lallW_sem {G : Nat → Dz.Sem} {fu jo sc : Nat} (hf : IsLFull (G fu)) (hj : IsJks (G jo)) (hs : IsScM (G sc)) : IsLAllW (semS G ⟨0, false⟩ 0 2 8 (sLAll fu jo sc)) := fun q t ok few ht => by
  have hr := row_len ok ht
  have hf3 := ok.r1
  have hml : (fullM q t).length ≤ 5 := by rw [fullM_len]; omega
  have h0 : ∀ i, some i ∈ fullM q t → 0 ≤ i := fun i hi => (full_some ok hi).1
  refine sem_ev rfl rfl ?_
  refine s_set (d := .list [.list []]) (ev_lst (ev_1 rfl) (by simp)) ?_
  refine w_seq (w_for (items := fullM q t) jkD (fun pre ρ => ∃ x3 x4 x5 x6, ρ = [.fz (stD q), .fz (.int t), .fz (.list ((allM pre).map optsD)), x3, x4, x5, x6, .no, .no, .no]) ⟨_, _, _, _, rfl⟩ (un_seqm (ev_call (ev_2 (ev_var rfl) (ev_var rfl)) (okF_of (hf q t ok ht)))) (fun pre m post ρ hall ⟨x3, x4, x5, x6, e⟩ => ?_) fun ρ' ⟨x3, x4, x5, x6, e⟩ => ?_)
  · subst e
    have hm : m ∈ fullM q t := by rw [hall]; simp
    have hpl : pre.length ≤ 4 := by
      rw [hall, List.length_append, List.length_cons] at hml
      omega
    have hal' : (allM pre).length ≤ 64 := Nat.le_trans (by rw [hall]; exact allM_pre (by rw [← hall]; exact h0)) few
    have ho6 : (optM m).length ≤ 64 := Nat.le_trans (opt_le h0 hm) few
    have ho : (optM m).length ≤ 6 := by
      cases m with
      | none => simp [optM]
      | some i =>
        have := full_some ok hm
        rw [optM, List.length_map, List.length_range]
        omega
    have h0m : ∀ i, m = some i → 0 ≤ i := fun i e => h0 i (by rw [← e]; exact hm)
    refine ⟨_, rfl, s_set (d := .list []) rfl ?_⟩
    refine w_seq (w_for (items := allM pre) optsD (fun pr ρ => ∃ x5 x6, ρ = [.fz (stD q), .fz (.int t), .fz (.list ((allM pre).map optsD)), .fz (jkD m), .own 1 (.list ((pr.flatMap fun r => (optM m).map fun o => r ++ [o]).map optsD)), x5, x6, .no, .no, .no]) ⟨_, _, rfl⟩ (un_seqm (ev_var rfl)) (fun pr r po ρ hall2 ⟨x5, x6, e⟩ => ?_) fun ρ' ⟨x5, x6, e⟩ => ?_)
    · subst e
      have hrm : r ∈ allM pre := by rw [hall2]; simp
      have hrl := (allM_mem.mp hrm).1
      have hprl : pr.length ≤ 64 := by
        have : (allM pre).length = pr.length + (po.length + 1) := by rw [hall2]; simp
        omega
      have hprod : pr.length * (optM m).length ≤ 64 * 6 := Nat.mul_le_mul hprl ho
      refine ⟨_, rfl, s_ext (ds := (pr.flatMap fun r => (optM m).map fun o => r ++ [o]).map optsD) (es := (optM m).map fun o => optsD (r ++ [o])) rfl (evE_comp' (items := optM m) jkD (fun o => optsD (r ++ [o])) (un_seqm (optM_ev6 (ev_var rfl) ho h0m)) (by omega) fun o _ => ⟨_, rfl, ev_bin (ev_var rfl) (ev_lst (ev_1 (ev_var rfl)) (by simp)) ?_⟩) ?_ (w_skip ⟨.fz (optsD r), x6, ?_⟩)⟩
      · rw [optsD, opB, if_pos (lim_le (by simp; omega)), optsD, List.map_append]
        rfl
      · rw [List.length_map, flatMap_len, List.length_map]
        omega
      · rw [List.flatMap_append, List.map_append]
        simp [List.flatMap_cons]
    · subst e
      refine w_seq (w_seq (w_frz (k := 1) (.inl rfl) (w_set (ev_var rfl) (w_skip ?_))))
      rw [allM_snoc]
      exact ⟨_, _, _, _, rfl⟩
  · subst e
    have hjl := jks_len ok ht
    refine s_set (d := .list []) rfl ?_
    refine w_seq (w_for (items := jks q t) jkD (fun pr ρ => ∃ x8 x9, ρ = [.fz (stD q), .fz (.int t), .fz (.list ((allM (fullM q t)).map optsD)), x3, x4, x5, x6, .own 1 (.list ((pr.flatMap fun j => (allM (fullM q t)).map fun ms => scM q t j ms).map intsD)), x8, x9]) ⟨_, _, rfl⟩ (un_seqm (ev_call (ev_2 (ev_var rfl) (ev_var rfl)) (okF_of (hj q t ok ht)))) (fun pr j po ρ hall2 ⟨x8, x9, e⟩ => ?_) fun ρ' ⟨x8, x9, e⟩ => ?_)
    · subst e
      have hprl : pr.length ≤ 6 := by
        have : (jks q t).length = pr.length + (po.length + 1) := by rw [hall2]; simp
        omega
      have hprod : pr.length * (allM (fullM q t)).length ≤ 6 * 64 := Nat.mul_le_mul hprl few
      refine ⟨_, rfl, s_ext (ds := (pr.flatMap fun j => (allM (fullM q t)).map fun ms => scM q t j ms).map intsD) (es := (allM (fullM q t)).map fun ms => intsD (scM q t j ms)) rfl (evE_comp' (items := allM (fullM q t)) optsD (fun ms => intsD (scM q t j ms)) (un_seqm (ev_var rfl)) (by omega) fun ms hms => ⟨_, rfl, ev_call (ev_4 (ev_var rfl) (ev_var rfl) (ev_var rfl) (ev_var rfl)) (okF_of (hs q t j ms ok ht (allM_fits hms).has))⟩) ?_ (w_skip ⟨.fz (jkD j), x9, ?_⟩)⟩
      · rw [List.length_map, flatMap_len, List.length_map]
        omega
      · rw [List.flatMap_append, List.map_append]
        simp [List.flatMap_cons]
    · subst e
      exact s_retO rfl rfl (by decide) rt_ok
def sLCan (al ah ha : Nat) : S := ((S.set 2 0 (L.comp Src.range1 ((L.bi Bi.len (((L.var 0).ix (L.c (PyData.int (1)))).acons L.anil)).acons L.anil) (Tg.one 3) [3] (L.cmp COp.ne (L.var 3) (L.var 1)) (L.var 3))).seq ((S.for_ Src.seq ((L.call false al 0 ((L.var 0).acons ((L.var 1).acons L.anil))).acons L.anil) (Tg.one 4) ((S.ifs (L.bi Bi.all ((L.comp Src.seq ((L.var 2).acons L.anil) (Tg.one 3) [3] (L.c (PyData.bool true)) (L.call false ah 0 ((L.var 1).acons ((L.var 4).acons ((L.var 3).acons ((L.call false ha 1 ((L.var 0).acons ((L.var 3).acons L.anil))).acons L.anil)))))).acons L.anil)) ((S.ret (L.c (PyData.bool true))).seq S.skip) S.skip).seq S.skip)).seq ((S.ret (L.c (PyData.bool false))).seq S.skip)))
def IsLCan (f : Dz.Sem) : Prop := ∀ (q : Q) (t : Nat), Ok q → (allM (fullM q t)).length ≤ 64 → t < q.jokers.length → f [stD q, .int t] = some (.ok (.bool ((allR q t).any (aheadAll q t))), .none)
theorem lcan_sem {G : Nat → Dz.Sem} {al ah ha : Nat} (hl : IsLAllW (G al)) (hA : IsLAhead (G ah)) (hh : IsHas (G ha)) : IsLCan (semS G ⟨0, false⟩ 0 2 3 (sLCan al ah ha)) := fun q t ok few ht => by
  have hj1 := ok.j1
  refine sem_ev rfl rfl ?_
  refine s_set (others_ev ok (t := t) rfl (fun x => rfl) (by show 3 < 5; decide)) ?_
  refine w_seq (w_for (items := allR q t) intsD (fun pre ρ => pre.any (aheadAll q t) = false ∧ ∃ x3 x4, ρ = [.fz (stD q), .fz (.int t), .fz (.list (((List.range q.jokers.length).filter fun (o : Nat) => decide ((o : Int) ≠ (t : Int))).map fun (o : Nat) => .int (o : Int))), x3, x4]) ⟨rfl, _, _, rfl⟩ (un_seqm (ev_call (ev_2 (ev_var rfl) (ev_var rfl)) (okF_of (hl q t ok few ht)))) (fun pre r post ρ hall ⟨hp, x3, x4, e⟩ => ?_) fun ρ' ⟨hp, x3, x4, e⟩ => ?_)
  · subst e
    have hrm : r ∈ allR q t := by rw [hall]; simp
    have hrl : r.length = q.rounds.length := by
      obtain ⟨j, _, h⟩ := List.mem_flatMap.mp hrm
      obtain ⟨ms, _, rfl⟩ := List.mem_map.mp h
      exact scM_len ok ht _ _
    refine ⟨_, rfl, w_seq (w_if (c := aheadAll q t r) (ev_allf (items := (List.range q.jokers.length).filter fun (o : Nat) => decide ((o : Int) ≠ (t : Int))) (fun (o : Nat) => .int (o : Int)) (fun o => Mz.ah (t : Int) r (o : Int) (has q o)) (un_seqm (ev_var rfl)) (by have := flt_len (n := q.jokers.length) (p := fun (o : Nat) => decide ((o : Int) ≠ (t : Int))); omega) fun o ho => ⟨_, rfl, ?_⟩) (fun z => ?_) (fun z => ?_))⟩
    · have hol := List.mem_range.mp (List.mem_filter.mp ho).1
      exact ev_call (ev_4 (ev_var rfl) (ev_var rfl) (ev_var rfl) (ev_call (ev_2 (ev_var rfl) (ev_var rfl)) (okF_of (hh q o ok hol)))) (okF_of (hA _ _ _ _ (by rw [hrl, has_len ok hol])))
    · have : (allR q t).any (aheadAll q t) = true := List.any_eq_true.mpr ⟨r, hrm, z⟩
      rw [this]
      exact s_ret rfl ev_c rt_ok
    · exact w_skip (w_skip ⟨by rw [List.any_append, hp, List.any_cons, z]; rfl, _, _, rfl⟩)
  · subst e
    rw [hp]
    exact s_ret rfl ev_c rt_ok
end Mz

set_option Elab.async false
set_option linter.all false
set_option maxRecDepth 100000
set_option maxHeartbeats 4000000
namespace Mz
open PySem L2 Dz
theorem flat_opts (ms : List (Option Int)) : flatAt (optsD ms) 1 = true := by
  show flatAll (ms.map jkD) 0 = true
  induction ms with
  | nil => rfl
  | cons m ms ih => rw [List.map_cons, flatAll, flat_jk, ih]; rfl
theorem flat_ans (a : Ans) : flatAt (ansD a) 2 = true := by
  cases a with
  | top j ms =>
    have h1 : flatAt (jkD j) 1 = true := by cases j <;> rfl
    show (flatAt .none 1 && (flatAt (jkD j) 1 && (flatAt (optsD ms) 1 && true))) = true
    rw [h1, flat_opts]
    rfl
  | beh o => rfl
theorem cls_ans (a : Ans) : clsOf (ansD a) = some (match a with | .top _ _ => "Top" | .beh _ => "Behind") := by cases a <;> rfl
theorem eq_nil (l : List Nat) : opC .eq (natsD l) (.list []) = some l.isEmpty := by
  have h : SeqAt.shaped (.list []) = true := sh_ints []
  simp only [opC, sh_nats, h, Bool.and_self, if_true]
  cases l <;> simp [natsD, PyData.eqv, PyData.eqvAll]
def isRtT : Option Out → Bool
  | some (.rt _ (.bool true)) => true
  | _ => false
theorem ev_tail {G : Nat → Dz.Sem} {q : Fs} {s : S} {ρ : List Sl} (h : isRtT (evS G q s ρ) = true) : Ev G q s ρ Never (Rt (.bool true)) := by
  unfold isRtT at h
  split at h
  · rename_i ρ2 e
    exact ⟨_, e, ρ2, rfl⟩
  · cases h
section
variable {F : Nat → List D → Option D} {ρ : List Sl} {a l : L}
theorem own_fz {i : Nat} {d : D} (h : ρ[i]? = some (.fz d)) : evE F (.own i) ρ = some d := by rw [evE, h]
theorem add0 {n : Int} (h : evE F l ρ = some (.int n)) : evE F (L.bin BOp.add (L.c (PyData.int (0))) l) ρ = some (.int n) := by
  rw [ev_bin (d := .int (0 + n)) ev_c h rfl, Int.zero_add]
theorem sl_lo {xs : List D} {n : Nat} (h : evE F a ρ = some (.list xs)) (hl : evE F l ρ = some (.int (n : Int))) : evE F (a.slice (L.bin BOp.add (L.c (PyData.int (0))) l) (L.c PyData.none)) ρ = some (.list (xs.drop n)) := by
  rw [evE, h, add0 hl]
  simp only [Option.bind_some, ev_c, partO, sliceF, cut_lo]
theorem sl_hi {xs : List D} {n : Nat} (h : evE F a ρ = some (.list xs)) (hl : evE F l ρ = some (.int (n : Int))) : evE F (a.slice (L.c PyData.none) (L.bin BOp.add (L.c (PyData.int (0))) l)) ρ = some (.list (xs.take n)) := by
  rw [evE, h, add0 hl]
  simp only [Option.bind_some, ev_c, partO, sliceF, cut_hi]
theorem cut_map {α : Type} (f : α → D) (xs : List α) (lo hi : Option Int) : ∃ ys : List α, cutD (xs.map f) lo hi = ys.map f := ⟨(xs.drop (HT.sIx xs.length 0 lo)).take (HT.sIx xs.length xs.length hi - HT.sIx xs.length 0 lo), by unfold cutD; rw [List.length_map, List.map_take, List.map_drop]⟩
theorem sl_neg {α : Type} {f : α → D} {xs : List α} {i : Int} (h : evE F a ρ = some (.list (xs.map f))) (hl : evE F l ρ = some (.int i)) : ∃ ys : List α, evE F (a.slice (L.bin BOp.add (L.c (PyData.int (0))) l) (L.c PyData.none)) ρ = some (.list (ys.map f)) := by
  obtain ⟨ys, e⟩ := cut_map f xs (some i) none
  refine ⟨ys, ?_⟩
  rw [evE, h, add0 hl]
  simp only [Option.bind_some, ev_c, partO, sliceF, e]
theorem isinJ {b : L} {j : Option Int} {js : List (Option Int)} (h : evE F a ρ = some (jkD j)) (h' : evE F b ρ = some (optsD js)) : evE F (.cmp .isin a b) ρ = some (.bool (decide (j ∈ js))) := ev_cmp h h' (by
  have h2 := lay_shaped (lay_opts js) (by decide)
  unfold optsD at h2 ⊢
  simp only [opC, sh_jk, h2, Bool.and_self, if_true, inD_opts])
theorem flat_repl {α : Type} (n : Nat) (d : α) : (List.replicate n [d]).flatten = List.replicate n d := by
  induction n with
  | zero => rfl
  | succ n ih => rw [List.replicate_succ, List.replicate_succ, List.flatten_cons, ih]; rfl
theorem mulL {d : D} {n : Nat} (hn : n ≤ 100000) : opB .mul (.list [d]) (.int (n : Int)) = some (.list (List.replicate n d)) := by
  rw [opB, l63 hn, Int.toNat_natCast, flat_repl, if_pos]
  rw [Bool.true_and]
  exact lim_le (by simp; omega)
theorem addL {xs ys : List D} (h : xs.length + ys.length ≤ 100000) : opB .add (.list xs) (.list ys) = some (.list (xs ++ ys)) := by rw [opB, if_pos (lim_le h)]
end
end Mz

set_option Elab.async false
set_option linter.all false
set_option maxRecDepth 100000
set_option maxHeartbeats 4000000
namespace K04
open PySem L2 Dz
/-! the defs of the program and of the law, by places -/
def top (i : Nat) : Stmt := PySem.Challenge.pw_dealsheet_k04_top_by_hand.main.body.getD i (.Pass ⟨0, 0, 0, 0⟩)
/-! full -/
def C0 : Dz.Ctx := { N := ["state", "at"], sc := defScope (top 1), fx := fun _ => true, ow := [], ex := [], rx := [], fl := ["joker", "marks", "other"], fn := [], gl := [], mt := [], cl := [("Answer", ["Top", "Behind"])] }
def s0 : S := ((S.ret (L.bin BOp.sub (((L.var 0).ix (L.c (PyData.int (0)))).ix (L.var 1)) (L.bi Bi.len ((((L.var 0).ix (L.c (PyData.int (3)))).ix (L.var 1)).acons L.anil)))).seq S.skip)
theorem c0 : cST 20 ⟨0, false⟩ 9 C0 (defBody (top 1)) = some s0 := by kernel_rfl
/-! counted -/
def C1 : Dz.Ctx := { N := ["state", "at", "sheet", "found", "one"], sc := defScope (top 2), fx := fun _ => true, ow := [], ex := [], rx := [], fl := ["joker", "marks", "other"], fn := [], gl := [], mt := [], cl := [("Answer", ["Top", "Behind"])] }
def s1 : S := ((S.set 3 0 (L.bi Bi.len ((L.comp Src.range1 ((((L.var 0).ix (L.c (PyData.int (0)))).ix (L.var 1)).acons L.anil) (Tg.one 4) [4] ((((L.var 2).ix (L.c (PyData.int (0)))).ix (L.var 4)).and (L.cmp COp.notin (L.var 4) (((L.var 0).ix (L.c (PyData.int (3)))).ix (L.var 1)))) (L.var 4)).acons L.anil))).seq ((S.ret (((L.var 2).ix (L.c (PyData.int (1)))).ite (L.bi Bi.max2 ((L.c (PyData.int (0))).acons ((L.bin BOp.sub (L.var 3) (L.c (PyData.int (1)))).acons L.anil))) (L.var 3))).seq S.skip))
theorem c1 : cST 20 ⟨0, false⟩ 9 C1 (defBody (top 2)) = some s1 := by kernel_rfl
/-! key -/
def C2 : Dz.Ctx := { N := ["scores"], sc := defScope (top 3), fx := fun _ => true, ow := [], ex := [], rx := [], fl := ["joker", "marks", "other"], fn := [], gl := [], mt := [], cl := [("Answer", ["Top", "Behind"])] }
def s2 : S := ((S.retM [Itm.e (L.bi Bi.sum ((L.var 0).acons L.anil)), Itm.e (L.bi Bi.sortedR ((L.var 0).acons L.anil))]).seq S.skip)
theorem c2 : cST 20 ⟨2, false⟩ 9 C2 (defBody (top 3)) = some s2 := by kernel_rfl
/-! least_key -/
def C3 : Dz.Ctx := { N := ["state", "table", "found", "at", "sheet", "mark"], sc := defScope (top 4), fx := fun _ => true, ow := [(2, 1)], ex := [], rx := [], fl := ["joker", "marks", "other"], fn := [("counted", (1, 0)), ("key", (2, 2))], gl := [], mt := [], cl := [("Answer", ["Top", "Behind"])] }
def s3 : S := ((S.set 2 1 L.anil.lst).seq ((S.for_ Src.enum ((((L.var 0).ix (L.c (PyData.int (2)))).ix (L.var 1)).acons L.anil) (Tg.many [3, 4]) ((S.set 5 0 ((L.cmp COp.is (L.var 4) (L.c PyData.none)).ite (L.c (PyData.int (0))) (L.call false 1 0 ((L.var 0).acons ((L.var 3).acons ((L.var 4).acons L.anil)))))).seq ((S.mut Mut.append 2 [] 0 (((L.cmp COp.eq (((L.var 0).ix (L.c (PyData.int (1)))).ix (L.var 1)) (L.var 3)).ite (L.bin BOp.mul (L.c (PyData.int (2))) (L.var 5)) (L.var 5)).acons L.anil)).seq S.skip))).seq ((S.ret (L.call true 2 2 ((L.own1 2).acons L.anil))).seq S.skip)))
theorem c3 : cST 20 ⟨2, false⟩ 9 C3 (defBody (top 4)) = some s3 := by kernel_rfl
/-! key_with -/
def C4 : Dz.Ctx := { N := ["state", "table", "joker", "marks", "found", "at", "sheet", "mark"], sc := defScope (top 5), fx := fun _ => true, ow := [(4, 1)], ex := [], rx := [], fl := ["joker", "marks", "other"], fn := [("counted", (1, 0)), ("key", (2, 2))], gl := [], mt := [], cl := [("Answer", ["Top", "Behind"])] }
def s4 : S := ((S.set 4 1 L.anil.lst).seq ((S.for_ Src.enum ((((L.var 0).ix (L.c (PyData.int (2)))).ix (L.var 1)).acons L.anil) (Tg.many [5, 6]) ((S.set 7 0 ((L.cmp COp.is (L.var 6) (L.c PyData.none)).ite ((L.var 3).ix (L.var 5)) (L.call false 1 0 ((L.var 0).acons ((L.var 5).acons ((L.var 6).acons L.anil)))))).seq ((S.mut Mut.append 4 [] 0 (((L.cmp COp.eq (L.var 2) (L.var 5)).ite (L.bin BOp.mul (L.c (PyData.int (2))) (L.var 7)) (L.var 7)).acons L.anil)).seq S.skip))).seq ((S.ret (L.call true 2 2 ((L.own1 4).acons L.anil))).seq S.skip)))
theorem c4 : cST 20 ⟨2, false⟩ 9 C4 (defBody (top 5)) = some s4 := by kernel_rfl
/-! ahead -/
def C5 : Dz.Ctx := { N := ["one", "mine", "other", "theirs"], sc := defScope (top 6), fx := fun _ => true, ow := [], ex := [], rx := [], fl := ["joker", "marks", "other"], fn := [], gl := [], mt := [], cl := [("Answer", ["Top", "Behind"])] }
def s5 : S := ((S.ret ((L.cmp COp.gt (L.var 1) (L.var 3)).or ((L.cmp COp.eq (L.var 1) (L.var 3)).and (L.cmp COp.lt (L.var 0) (L.var 2))))).seq S.skip)
theorem c5 : cST 20 ⟨0, false⟩ 9 C5 (defBody (top 6)) = some s5 := by kernel_rfl
/-! jokers_of -/
def C6 : Dz.Ctx := { N := ["state", "table", "at", "sheet"], sc := defScope (top 7), fx := fun _ => true, ow := [], ex := [], rx := [], fl := ["joker", "marks", "other"], fn := [], gl := [], mt := [], cl := [("Answer", ["Top", "Behind"])] }
def s6 : S := ((S.ifs (L.cmp COp.isnot (((L.var 0).ix (L.c (PyData.int (1)))).ix (L.var 1)) (L.c PyData.none)) ((S.ret ((((L.var 0).ix (L.c (PyData.int (1)))).ix (L.var 1)).acons L.anil).lst).seq S.skip) S.skip).seq ((S.ret (L.bin BOp.add ((L.c PyData.none).acons L.anil).lst (L.comp Src.enum ((((L.var 0).ix (L.c (PyData.int (2)))).ix (L.var 1)).acons L.anil) (Tg.many [2, 3]) [2, 3] (L.cmp COp.is (L.var 3) (L.c PyData.none)) (L.var 2)))).seq S.skip))
theorem c6 : cST 20 ⟨1, false⟩ 9 C6 (defBody (top 7)) = some s6 := by kernel_rfl
/-! greatest -/
def C7 : Dz.Ctx := { N := ["state", "table", "marks", "at", "sheet", "best", "joker", "found"], sc := defScope (top 8), fx := fun _ => true, ow := [], ex := [], rx := [], fl := ["joker", "marks", "other"], fn := [("full", (0, 0)), ("key_with", (4, 2)), ("jokers_of", (6, 1))], gl := [], mt := [], cl := [("Answer", ["Top", "Behind"])] }
def s7 : S := ((S.set 2 0 (L.comp Src.enum ((((L.var 0).ix (L.c (PyData.int (2)))).ix (L.var 1)).acons L.anil) (Tg.many [3, 4]) [3, 4] (L.c (PyData.bool true)) ((L.cmp COp.is (L.var 4) (L.c PyData.none)).ite (L.call false 0 0 ((L.var 0).acons ((L.var 3).acons L.anil))) (L.c PyData.none)))).seq ((S.set 5 0 (L.c PyData.none)).seq ((S.for_ Src.seq ((L.call false 6 1 ((L.var 0).acons ((L.var 1).acons L.anil))).acons L.anil) (Tg.one 6) ((S.set 7 0 (L.call false 4 2 ((L.var 0).acons ((L.var 1).acons ((L.var 6).acons ((L.var 2).acons L.anil)))))).seq ((S.ifs ((L.cmp COp.is (L.var 5) (L.c PyData.none)).or (L.cmp COp.gt (L.var 7) ((L.var 5).ix (L.c (PyData.int (0)))))) ((S.set 5 0 ((L.var 7).acons ((L.var 6).acons L.anil)).tup).seq S.skip) S.skip).seq S.skip))).seq ((S.ret (((L.var 5).ix (L.c (PyData.int (1)))).acons ((L.var 2).acons (((L.var 5).ix (L.c (PyData.int (0)))).acons L.anil))).tup).seq S.skip))))
theorem c7 : cST 20 ⟨0, false⟩ 9 C7 (defBody (top 8)) = some s7 := by kernel_rfl
/-! Top.__init__ -/
def C8 : Dz.Ctx := { N := ["self", "joker", "marks"], sc := defScope (inClass (top 11) 0), fx := fun _ => true, ow := [(0, 2)], ex := [], rx := [], fl := ["joker", "marks", "other"], fn := [], gl := [], mt := [], cl := [("Answer", ["Top", "Behind"])] }
def s8 : S := ((S.fput 0 ("joker" : Str) 1 (L.var 1).flat1).seq ((S.fput 0 ("marks" : Str) 1 (L.var 2).list1).seq S.skip))
theorem c8 : cST 20 ⟨0, true⟩ 9 C8 (defBody (inClass (top 11) 0)) = some s8 := by kernel_rfl
/-! Top.shows -/
def C10 : Dz.Ctx := { N := ["self", "state", "table", "at", "sheet", "mark", "mine", "others", "other"], sc := defScope (inClass (top 11) 1), fx := fun _ => true, ow := [], ex := [], rx := [], fl := ["joker", "marks", "other"], fn := [("full", (0, 0)), ("least_key", (3, 2)), ("key_with", (4, 2)), ("ahead", (5, 0)), ("jokers_of", (6, 1))], gl := [], mt := [], cl := [("Answer", ["Top", "Behind"])] }
def s10 : S := ((S.ifs ((L.cmp COp.notin ((L.var 0).fld ("joker" : Str)) (L.call false 6 1 ((L.var 1).acons ((L.var 2).acons L.anil)))).or (L.cmp COp.ne (L.bi Bi.len (((L.var 0).fld ("marks" : Str)).acons L.anil)) (L.bi Bi.len (((L.var 1).ix (L.c (PyData.int (0)))).acons L.anil)))) ((S.ret (L.c (PyData.bool false))).seq S.skip) S.skip).seq ((S.for_ Src.enum ((((L.var 1).ix (L.c (PyData.int (2)))).ix (L.var 2)).acons L.anil) (Tg.many [3, 4]) ((S.set 5 0 (((L.var 0).fld ("marks" : Str)).ix (L.var 3))).seq ((S.ifs ((L.cmp COp.eq (L.cmp COp.is (L.var 5) (L.c PyData.none)) (L.cmp COp.is (L.var 4) (L.c PyData.none))).or ((L.cmp COp.isnot (L.var 5) (L.c PyData.none)).and (L.chain COp.le COp.le (L.c (PyData.int (0))) (L.var 5) (L.call false 0 0 ((L.var 1).acons ((L.var 3).acons L.anil)))).not)) ((S.ret (L.c (PyData.bool false))).seq S.skip) S.skip).seq S.skip))).seq ((S.set 6 0 (L.call false 4 2 ((L.var 1).acons ((L.var 2).acons (((L.var 0).fld ("joker" : Str)).acons (((L.var 0).fld ("marks" : Str)).acons L.anil)))))).seq ((S.set 7 0 (L.comp Src.range1 ((L.bi Bi.len (((L.var 1).ix (L.c (PyData.int (1)))).acons L.anil)).acons L.anil) (Tg.one 8) [8] (L.cmp COp.ne (L.var 8) (L.var 2)) (L.var 8))).seq ((S.ret (L.bi Bi.all ((L.comp Src.seq ((L.var 7).acons L.anil) (Tg.one 8) [8] (L.c (PyData.bool true)) (L.call false 5 0 ((L.var 2).acons ((L.var 6).acons ((L.var 8).acons ((L.call false 3 2 ((L.var 1).acons ((L.var 8).acons L.anil))).acons L.anil)))))).acons L.anil))).seq S.skip)))))
theorem c10 : cST 20 ⟨0, false⟩ 9 C10 (defBody (inClass (top 11) 1)) = some s10 := by kernel_rfl
/-! Behind.__init__ -/
def C11 : Dz.Ctx := { N := ["self", "other"], sc := defScope (inClass (top 12) 0), fx := fun _ => true, ow := [(0, 2)], ex := [], rx := [], fl := ["joker", "marks", "other"], fn := [], gl := [], mt := [], cl := [("Answer", ["Top", "Behind"])] }
def s11 : S := ((S.fput 0 ("other" : Str) 1 (L.var 1).flat1).seq S.skip)
theorem c11 : cST 20 ⟨0, true⟩ 9 C11 (defBody (inClass (top 12) 0)) = some s11 := by kernel_rfl
/-! Behind.shows -/
def C13 : Dz.Ctx := { N := ["self", "state", "table"], sc := defScope (inClass (top 12) 1), fx := fun _ => true, ow := [], ex := [], rx := [], fl := ["joker", "marks", "other"], fn := [("least_key", (3, 2)), ("ahead", (5, 0)), ("greatest", (7, 0))], gl := [], mt := [], cl := [("Answer", ["Top", "Behind"])] }
def s13 : S := ((S.ifs ((L.chain COp.le COp.lt (L.c (PyData.int (0))) ((L.var 0).fld ("other" : Str)) (L.bi Bi.len (((L.var 1).ix (L.c (PyData.int (1)))).acons L.anil))).not.or (L.cmp COp.eq ((L.var 0).fld ("other" : Str)) (L.var 2))) ((S.ret (L.c (PyData.bool false))).seq S.skip) S.skip).seq ((S.ret (L.call false 5 0 (((L.var 0).fld ("other" : Str)).acons ((L.call false 3 2 ((L.var 1).acons (((L.var 0).fld ("other" : Str)).acons L.anil))).acons ((L.var 2).acons (((L.call false 7 0 ((L.var 1).acons ((L.var 2).acons L.anil))).ix (L.c (PyData.int (2)))).acons L.anil)))))).seq S.skip))
theorem c13 : cST 20 ⟨0, false⟩ 9 C13 (defBody (inClass (top 12) 1)) = some s13 := by kernel_rfl
/-! _law_number -/
def C14 : Dz.Ctx := { N := ["_law_cell", "_law_at", "_law_whole", "_law_blend", "_law_more"], sc := defScope (top 14), fx := fun _ => true, ow := [], ex := [], rx := [], fl := ["joker", "marks", "other"], fn := [], gl := [], mt := [], cl := [("Answer", ["Top", "Behind"])] }
def s14 : S := ((S.ifs (L.cmp COp.ge (L.bi Bi.abs ((L.var 0).acons L.anil)) (L.bin BOp.pow (L.c (PyData.int (10))) (L.c (PyData.int (60))))) ((S.set 0 0 (L.bin BOp.mod (L.var 0) (L.bin BOp.pow (L.c (PyData.int (10))) (L.c (PyData.int (18)))))).seq S.skip) S.skip).seq ((S.ifs (L.cmp COp.ge (L.var 0) (L.bin BOp.pow (L.c (PyData.int (10))) (L.c (PyData.int (18))))) ((S.ret (L.bin BOp.fdiv (L.var 0) (L.bin BOp.add (L.c (PyData.int (1))) (L.bin BOp.mod (L.var 1) (L.c (PyData.int (7))))))).seq S.skip) S.skip).seq ((S.set 3 0 (L.bin BOp.mod (L.bin BOp.add (L.bin BOp.mul (L.bin BOp.add (L.var 0) (L.bin BOp.mul (L.c (PyData.int (977))) (L.var 1))) (L.c (PyData.int (48271)))) (L.var 2)) (L.c (PyData.int (2147483647))))).seq ((S.set 4 0 (L.bin BOp.mul (L.var 3) (L.bin BOp.add (L.bin BOp.add (L.var 0) (L.bin BOp.mul (L.c (PyData.int (31))) (L.var 1))) (L.c (PyData.int (7)))))).seq ((S.ret (L.bin BOp.fdiv (L.bin BOp.mul (L.bin BOp.mul (L.var 4) (L.bin BOp.add (L.bin BOp.add (L.var 3) (L.var 0)) (L.c (PyData.int (5))))) (L.bin BOp.add (L.bin BOp.mul (L.var 3) (L.var 3)) (L.c (PyData.int (11))))) (L.bin BOp.add (L.c (PyData.int (1009))) (L.var 1)))).seq S.skip)))))
theorem c14 : cST 20 ⟨0, false⟩ 9 C14 (defBody (top 14)) = some s14 := by kernel_rfl
/-! _law_state -/
def C15 : Dz.Ctx := { N := ["_law_script", "_law_by", "_law_cells", "_law_whole", "_law_tables", "_law_kind", "_law_rounds", "_law_sheets", "_law_jokers_here", "_law_struck", "_law_at", "_law_number_here", "_law_gone", "_law_question", "_law_table", "_law_row", "_law_many", "_law_spot", "_law_truths", "_law_there"], sc := defScope (top 15), fx := fun _ => true, ow := [(6, 1), (7, 1), (8, 1), (9, 1), (15, 1)], ex := [], rx := [], fl := ["joker", "marks", "other"], fn := [("_law_number", (14, 0))], gl := [], mt := [], cl := [("Answer", ["Top", "Behind"])] }
def s15 : S := ((S.set 2 0 ((L.cmp COp.ne (L.var 0) L.anil.lst).ite ((L.var 0).slice (L.c PyData.none) (L.bin BOp.add (L.c (PyData.int (0))) (L.c (PyData.int (63))))) ((L.c (PyData.int (5))).acons L.anil).lst)).seq ((S.set 3 0 (L.bin BOp.add (L.bin BOp.mod (L.bi Bi.abs ((L.bi Bi.sum ((L.var 2).acons L.anil)).acons L.anil)) (L.bin BOp.pow (L.c (PyData.int (10))) (L.c (PyData.int (60))))) (L.bin BOp.mul (L.c (PyData.int (7))) (L.var 1)))).seq ((S.setT [(4, 0), (5, 0)] ((L.bin BOp.add (L.c (PyData.int (2))) (L.bin BOp.mod (L.var 3) (L.c (PyData.int (4))))).acons ((L.bin BOp.mod (L.bin BOp.fdiv (L.var 3) (L.c (PyData.int (4)))) (L.c (PyData.int (4)))).acons L.anil)).tup).seq ((S.setT [(6, 1), (7, 1), (8, 1), (9, 1)] (L.anil.lst.acons (L.anil.lst.acons (L.anil.lst.acons (L.anil.lst.acons L.anil)))).tup).seq ((S.for_ Src.range1 ((L.bin BOp.add (L.c (PyData.int (1))) (L.bin BOp.mod (L.bin BOp.fdiv (L.var 3) (L.c (PyData.int (16)))) (L.c (PyData.int (5))))).acons L.anil) (Tg.one 10) ((S.set 11 0 (L.bin BOp.fdiv (L.bi Bi.abs ((L.call false 14 0 (((L.var 2).ix (L.bin BOp.mod (L.bin BOp.add (L.var 10) (L.var 1)) (L.bi Bi.len ((L.var 2).acons L.anil)))).acons ((L.bin BOp.add (L.var 10) (L.var 1)).acons ((L.var 3).acons L.anil)))).acons L.anil)) (L.c (PyData.int (3))))).seq ((S.mut Mut.append 6 [] 0 ((L.bin BOp.add (L.c (PyData.int (1))) (L.bin BOp.mod (L.var 11) (L.c (PyData.int (5))))).acons L.anil)).seq ((S.set 12 0 (L.comp Src.range1 (((L.own1 6).ix (L.c (PyData.int (1))).neg).acons L.anil) (Tg.one 13) [13] (L.cmp COp.eq (L.bin BOp.band (L.bin BOp.shr (L.bin BOp.fdiv (L.var 11) (L.c (PyData.int (5)))) (L.bin BOp.mul (L.c (PyData.int (2))) (L.var 13))) (L.c (PyData.int (3)))) (L.c (PyData.int (3)))) (L.var 13))).seq ((S.mut Mut.append 9 [] 0 (((L.cmp COp.eq (L.bin BOp.mod (L.bin BOp.fdiv (L.var 11) (L.c (PyData.int (5120)))) (L.c (PyData.int (3)))) (L.c (PyData.int (0)))).ite (L.var 12) L.anil.lst).acons L.anil)).seq S.skip))))).seq ((S.for_ Src.range1 ((L.var 4).acons L.anil) (Tg.one 14) ((S.set 15 1 L.anil.lst).seq (((S.frz 6).seq (S.for_ Src.enum ((L.var 6).acons L.anil) (Tg.many [10, 16]) ((S.set 17 0 (L.bin BOp.add (L.bin BOp.add (L.bin BOp.mul (L.c (PyData.int (3))) (L.var 14)) (L.var 10)) (L.var 1))).seq ((S.set 11 0 (L.bin BOp.fdiv (L.bi Bi.abs ((L.call false 14 0 (((L.var 2).ix (L.bin BOp.mod (L.var 17) (L.bi Bi.len ((L.var 2).acons L.anil)))).acons ((L.bin BOp.add (L.bin BOp.add (L.bin BOp.mul (L.c (PyData.int (5))) (L.var 14)) (L.var 10)) (L.c (PyData.int (7)))).acons ((L.var 3).acons L.anil)))).acons L.anil)) (L.c (PyData.int (3))))).seq ((S.set 18 0 (L.comp Src.range1 ((L.var 16).acons L.anil) (Tg.one 13) [13] (L.c (PyData.bool true)) (L.cmp COp.eq (L.bin BOp.band (L.bin BOp.shr (L.var 11) (L.var 13)) (L.c (PyData.int (1)))) (L.c (PyData.int (1)))))).seq ((S.set 19 0 (L.cmp COp.gt (L.bin BOp.mod (L.bin BOp.fdiv (L.var 11) (L.c (PyData.int (32)))) (((L.c (PyData.int (1))).acons ((L.c (PyData.int (2))).acons ((L.c (PyData.int (4))).acons ((L.c (PyData.int (9))).acons L.anil)))).tup.ix (L.var 5))) (L.c (PyData.int (0))))).seq ((S.mut Mut.append 15 [] 0 (((L.var 19).ite ((L.var 18).acons ((L.cmp COp.eq (L.bin BOp.mod (L.bin BOp.fdiv (L.var 11) (L.c (PyData.int (1152)))) (L.c (PyData.int (3)))) (L.c (PyData.int (0)))).acons L.anil)).tup (L.c PyData.none)).acons L.anil)).seq S.skip))))))).seq (((S.frz 15).seq (S.mut Mut.append 7 [] 0 ((L.var 15).acons L.anil))).seq ((S.set 11 0 (L.bin BOp.fdiv (L.bi Bi.abs ((L.call false 14 0 (((L.var 2).ix (L.bin BOp.mod (L.bin BOp.add (L.var 14) (L.var 1)) (L.bi Bi.len ((L.var 2).acons L.anil)))).acons ((L.bin BOp.add (L.var 14) (L.c (PyData.int (31)))).acons ((L.var 3).acons L.anil)))).acons L.anil)) (L.c (PyData.int (3))))).seq ((S.mut Mut.append 8 [] 0 (((L.cmp COp.eq (L.bin BOp.mod (L.var 11) (L.c (PyData.int (2)))) (L.c (PyData.int (0)))).ite (L.bin BOp.mod (L.bin BOp.fdiv (L.var 11) (L.c (PyData.int (2)))) (L.bi Bi.len ((L.own1 6).acons L.anil))) (L.c PyData.none)).acons L.anil)).seq S.skip)))))).seq (((S.frz 6).seq ((S.frz 8).seq ((S.frz 7).seq ((S.frz 9).seq (S.ret ((L.var 6).acons ((L.var 8).acons ((L.var 7).acons ((L.var 9).acons L.anil)))).tup))))).seq S.skip)))))))
theorem c15 : cST 20 ⟨0, false⟩ 9 C15 (defBody (top 15)) = some s15 := by kernel_rfl
/-! _law_mark -/
def C16 : Dz.Ctx := { N := ["_law_state_here", "_law_at", "_law_sheet", "_law_found", "_law_one", "_law_right"], sc := defScope (top 16), fx := fun _ => true, ow := [], ex := [], rx := [], fl := ["joker", "marks", "other"], fn := [], gl := [], mt := [], cl := [("Answer", ["Top", "Behind"])] }
def s16 : S := ((S.set 3 0 (L.bi Bi.sum ((L.comp Src.enum (((L.var 2).ix (L.c (PyData.int (0)))).acons L.anil) (Tg.many [4, 5]) [4, 5] ((L.var 5).and (L.cmp COp.notin (L.var 4) (((L.var 0).ix (L.c (PyData.int (3)))).ix (L.var 1)))) (L.c (PyData.int (1)))).acons L.anil))).seq ((S.ret (L.bi Bi.max2 ((L.c (PyData.int (0))).acons ((L.bin BOp.sub (L.var 3) (L.bi Bi.int1 (((L.var 2).ix (L.c (PyData.int (1)))).acons L.anil))).acons L.anil)))).seq S.skip))
theorem c16 : cST 20 ⟨0, false⟩ 9 C16 (defBody (top 16)) = some s16 := by kernel_rfl
/-! _law_scores -/
def C17 : Dz.Ctx := { N := ["_law_state_here", "_law_table", "_law_joker", "_law_marks", "_law_found", "_law_at", "_law_sheet", "_law_mark_here"], sc := defScope (top 17), fx := fun _ => true, ow := [(4, 1)], ex := [], rx := [], fl := ["joker", "marks", "other"], fn := [("_law_mark", (16, 0))], gl := [], mt := [], cl := [("Answer", ["Top", "Behind"])] }
def s17 : S := ((S.set 4 1 L.anil.lst).seq ((S.for_ Src.enum ((((L.var 0).ix (L.c (PyData.int (2)))).ix (L.var 1)).acons L.anil) (Tg.many [5, 6]) ((S.set 7 0 ((L.cmp COp.is (L.var 6) (L.c PyData.none)).ite ((L.var 3).ix (L.var 5)) (L.call false 16 0 ((L.var 0).acons ((L.var 5).acons ((L.var 6).acons L.anil)))))).seq ((S.mut Mut.append 4 [] 0 (((L.cmp COp.eq (L.var 2) (L.var 5)).ite (L.bin BOp.add (L.var 7) (L.var 7)) (L.var 7)).acons L.anil)).seq S.skip))).seq ((S.retO 4).seq S.skip)))
theorem c17 : cST 20 ⟨1, false⟩ 9 C17 (defBody (top 17)) = some s17 := by kernel_rfl
/-! _law_has -/
def C18 : Dz.Ctx := { N := ["_law_state_here", "_law_table"], sc := defScope (top 18), fx := fun _ => true, ow := [], ex := [], rx := [], fl := ["joker", "marks", "other"], fn := [("_law_scores", (17, 1))], gl := [], mt := [], cl := [("Answer", ["Top", "Behind"])] }
def s18 : S := ((S.ret (L.call false 17 1 ((L.var 0).acons ((L.var 1).acons ((((L.var 0).ix (L.c (PyData.int (1)))).ix (L.var 1)).acons ((L.bin BOp.mul ((L.c (PyData.int (0))).acons L.anil).lst (L.bi Bi.len (((L.var 0).ix (L.c (PyData.int (0)))).acons L.anil))).acons L.anil)))))).seq S.skip)
theorem c18 : cST 20 ⟨1, false⟩ 9 C18 (defBody (top 18)) = some s18 := by kernel_rfl
/-! _law_ahead -/
def C19 : Dz.Ctx := { N := ["_law_one", "_law_mine", "_law_other", "_law_theirs", "_law_first", "_law_second", "_law_here", "_law_there"], sc := defScope (top 19), fx := fun _ => true, ow := [], ex := [], rx := [], fl := ["joker", "marks", "other"], fn := [], gl := [], mt := [], cl := [("Answer", ["Top", "Behind"])] }
def s19 : S := ((S.ifs (L.cmp COp.ne (L.bi Bi.sum ((L.var 1).acons L.anil)) (L.bi Bi.sum ((L.var 3).acons L.anil))) ((S.ret (L.cmp COp.gt (L.bi Bi.sum ((L.var 1).acons L.anil)) (L.bi Bi.sum ((L.var 3).acons L.anil)))).seq S.skip) S.skip).seq ((S.setT [(4, 0), (5, 0)] ((L.bi Bi.sorted ((L.var 1).acons L.anil)).rev.acons ((L.bi Bi.sorted ((L.var 3).acons L.anil)).rev.acons L.anil)).tup).seq ((S.for_ Src.zip ((L.var 4).acons ((L.var 5).acons L.anil)) (Tg.many [6, 7]) ((S.ifs (L.cmp COp.ne (L.var 6) (L.var 7)) ((S.ret (L.cmp COp.gt (L.var 6) (L.var 7))).seq S.skip) S.skip).seq S.skip)).seq ((S.ret (L.cmp COp.lt (L.var 0) (L.var 2))).seq S.skip))))
theorem c19 : cST 20 ⟨0, false⟩ 9 C19 (defBody (top 19)) = some s19 := by kernel_rfl
/-! _law_jokers -/
def C20 : Dz.Ctx := { N := ["_law_state_here", "_law_table", "_law_at", "_law_sheet"], sc := defScope (top 20), fx := fun _ => true, ow := [], ex := [], rx := [], fl := ["joker", "marks", "other"], fn := [], gl := [], mt := [], cl := [("Answer", ["Top", "Behind"])] }
def s20 : S := ((S.ifs (L.cmp COp.isnot (((L.var 0).ix (L.c (PyData.int (1)))).ix (L.var 1)) (L.c PyData.none)) ((S.ret ((((L.var 0).ix (L.c (PyData.int (1)))).ix (L.var 1)).acons L.anil).lst).seq S.skip) S.skip).seq ((S.ret (L.bin BOp.add ((L.c PyData.none).acons L.anil).lst (L.comp Src.enum ((((L.var 0).ix (L.c (PyData.int (2)))).ix (L.var 1)).acons L.anil) (Tg.many [2, 3]) [2, 3] (L.cmp COp.is (L.var 3) (L.c PyData.none)) (L.var 2)))).seq S.skip))
theorem c20 : cST 20 ⟨1, false⟩ 9 C20 (defBody (top 20)) = some s20 := by kernel_rfl
/-! _law_full -/
def C21 : Dz.Ctx := { N := ["_law_state_here", "_law_table", "_law_found", "_law_at", "_law_sheet"], sc := defScope (top 21), fx := fun _ => true, ow := [(2, 1)], ex := [], rx := [], fl := ["joker", "marks", "other"], fn := [], gl := [], mt := [], cl := [("Answer", ["Top", "Behind"])] }
def s21 : S := ((S.set 2 1 L.anil.lst).seq ((S.for_ Src.enum ((((L.var 0).ix (L.c (PyData.int (2)))).ix (L.var 1)).acons L.anil) (Tg.many [3, 4]) ((S.mut Mut.append 2 [] 0 (((L.cmp COp.is (L.var 4) (L.c PyData.none)).ite (L.bin BOp.sub (((L.var 0).ix (L.c (PyData.int (0)))).ix (L.var 3)) (L.bi Bi.len ((((L.var 0).ix (L.c (PyData.int (3)))).ix (L.var 3)).acons L.anil))) (L.c PyData.none)).acons L.anil)).seq S.skip)).seq ((S.retO 2).seq S.skip)))
theorem c21 : cST 20 ⟨1, false⟩ 9 C21 (defBody (top 21)) = some s21 := by kernel_rfl
/-! _law_best -/
def C22 : Dz.Ctx := { N := ["_law_state_here", "_law_table", "_law_rows", "_law_joker", "_law_best_here", "_law_row"], sc := defScope (top 22), fx := fun _ => true, ow := [], ex := [], rx := [], fl := ["joker", "marks", "other"], fn := [("_law_scores", (17, 1)), ("_law_ahead", (19, 0)), ("_law_jokers", (20, 1)), ("_law_full", (21, 1))], gl := [], mt := [], cl := [("Answer", ["Top", "Behind"])] }
def s22 : S := ((S.set 2 0 (L.comp Src.seq ((L.call false 20 1 ((L.var 0).acons ((L.var 1).acons L.anil))).acons L.anil) (Tg.one 3) [3] (L.c (PyData.bool true)) (L.call false 17 1 ((L.var 0).acons ((L.var 1).acons ((L.var 3).acons ((L.call false 21 1 ((L.var 0).acons ((L.var 1).acons L.anil))).acons L.anil))))))).seq ((S.set 4 0 ((L.var 2).ix (L.c (PyData.int (0))))).seq ((S.for_ Src.seq (((L.var 2).slice (L.bin BOp.add (L.c (PyData.int (0))) (L.c (PyData.int (1)))) (L.c PyData.none)).acons L.anil) (Tg.one 5) ((S.ifs ((L.call false 19 0 ((L.c (PyData.int (0))).acons ((L.var 5).acons ((L.c (PyData.int (1))).acons ((L.var 4).acons L.anil))))).and (L.call false 19 0 ((L.c (PyData.int (0))).acons ((L.var 4).acons ((L.c (PyData.int (1))).acons ((L.var 5).acons L.anil))))).not) ((S.set 4 0 (L.var 5)).seq S.skip) S.skip).seq S.skip)).seq ((S.ret (L.var 4)).seq S.skip))))
theorem c22 : cST 20 ⟨0, false⟩ 9 C22 (defBody (top 22)) = some s22 := by kernel_rfl
/-! _law_top -/
def C23 : Dz.Ctx := { N := ["_law_state_here", "_law_table", "_law_joker", "_law_marks", "_law_most", "_law_mark_here", "_law_top_one", "_law_mine", "_law_others", "_law_other"], sc := defScope (top 23), fx := fun _ => true, ow := [], ex := [], rx := [], fl := ["joker", "marks", "other"], fn := [("_law_scores", (17, 1)), ("_law_has", (18, 1)), ("_law_ahead", (19, 0)), ("_law_jokers", (20, 1)), ("_law_full", (21, 1))], gl := [], mt := [], cl := [("Answer", ["Top", "Behind"])] }
def s23 : S := ((S.set 4 0 (L.call false 21 1 ((L.var 0).acons ((L.var 1).acons L.anil)))).seq ((S.ifs ((L.cmp COp.notin (L.var 2) (L.call false 20 1 ((L.var 0).acons ((L.var 1).acons L.anil)))).or (L.cmp COp.ne (L.bi Bi.len ((L.var 3).acons L.anil)) (L.bi Bi.len ((L.var 4).acons L.anil)))) ((S.ret (L.c (PyData.bool false))).seq S.skip) S.skip).seq ((S.for_ Src.zip ((L.var 3).acons ((L.var 4).acons L.anil)) (Tg.many [5, 6]) ((S.ifs ((L.cmp COp.ne (L.cmp COp.is (L.var 5) (L.c PyData.none)) (L.cmp COp.is (L.var 6) (L.c PyData.none))).or ((L.cmp COp.isnot (L.var 6) (L.c PyData.none)).and (L.chain COp.le COp.le (L.c (PyData.int (0))) (L.var 5) (L.var 6)).not)) ((S.ret (L.c (PyData.bool false))).seq S.skip) S.skip).seq S.skip)).seq ((S.set 7 0 (L.call false 17 1 ((L.var 0).acons ((L.var 1).acons ((L.var 2).acons ((L.var 3).acons L.anil)))))).seq ((S.set 8 0 (L.comp Src.range1 ((L.bi Bi.len (((L.var 0).ix (L.c (PyData.int (1)))).acons L.anil)).acons L.anil) (Tg.one 9) [9] (L.cmp COp.ne (L.var 9) (L.var 1)) (L.var 9))).seq ((S.ret (L.bi Bi.all ((L.comp Src.seq ((L.var 8).acons L.anil) (Tg.one 9) [9] (L.c (PyData.bool true)) (L.call false 19 0 ((L.var 1).acons ((L.var 7).acons ((L.var 9).acons ((L.call false 18 1 ((L.var 0).acons ((L.var 9).acons L.anil))).acons L.anil)))))).acons L.anil))).seq S.skip))))))
theorem c23 : cST 20 ⟨0, false⟩ 9 C23 (defBody (top 23)) = some s23 := by kernel_rfl
/-! _law_behind -/
def C24 : Dz.Ctx := { N := ["_law_state_here", "_law_table", "_law_other"], sc := defScope (top 24), fx := fun _ => true, ow := [], ex := [], rx := [], fl := ["joker", "marks", "other"], fn := [("_law_has", (18, 1)), ("_law_ahead", (19, 0)), ("_law_best", (22, 0))], gl := [], mt := [], cl := [("Answer", ["Top", "Behind"])] }
def s24 : S := ((S.ifs ((L.chain COp.le COp.lt (L.c (PyData.int (0))) (L.var 2) (L.bi Bi.len (((L.var 0).ix (L.c (PyData.int (1)))).acons L.anil))).not.or (L.cmp COp.eq (L.var 2) (L.var 1))) ((S.ret (L.c (PyData.bool false))).seq S.skip) S.skip).seq ((S.ret (L.call false 19 0 ((L.var 2).acons ((L.call false 18 1 ((L.var 0).acons ((L.var 2).acons L.anil))).acons ((L.var 1).acons ((L.call false 22 0 ((L.var 0).acons ((L.var 1).acons L.anil))).acons L.anil)))))).seq S.skip))
theorem c24 : cST 20 ⟨0, false⟩ 9 C24 (defBody (top 24)) = some s24 := by kernel_rfl
/-! _law_says -/
def C25 : Dz.Ctx := { N := ["_law_said", "_law_due"], sc := defScope (top 25), fx := fun _ => true, ow := [], ex := [], rx := [], fl := ["joker", "marks", "other"], fn := [], gl := [], mt := [], cl := [("Answer", ["Top", "Behind"])] }
def s25 : S := ((S.ret ((L.bi (Bi.isi Ty.bool) ((L.var 0).acons L.anil)).and (L.cmp COp.eq (L.var 0) (L.var 1)))).seq S.skip)
theorem c25 : cST 20 ⟨0, false⟩ 9 C25 (defBody (top 25)) = some s25 := by kernel_rfl
/-! _law_top_right -/
def C26 : Dz.Ctx := { N := ["_law_state_here", "_law_table", "_law_joker", "_law_marks", "_law_handed", "_law_built"], sc := defScope (top 26), fx := fun _ => true, ow := [(4, 1)], ex := [], rx := [], fl := ["joker", "marks", "other"], fn := [("Top", (9, 2)), ("_law_top", (23, 0)), ("_law_says", (25, 0))], gl := [], mt := [("shows", ([("Top", 10), ("Behind", 13)], 0))], cl := [("Answer", ["Top", "Behind"])] }
def s26 : S := ((S.set 4 1 (L.var 3).list1).seq ((S.set 5 0 (L.call true 9 2 ((L.var 2).acons ((L.own1 4).acons L.anil)))).seq ((S.mut Mut.append 4 [] 0 ((L.c (PyData.int (0))).acons L.anil)).seq ((S.ifs ((L.cmp COp.ne ((L.var 5).fld ("joker" : Str)) (L.var 2)).or ((L.cmp COp.ne ((L.var 5).fld ("marks" : Str)) (L.var 3)).or ((L.var 5).isC [("Top" : Str), ("Behind" : Str)]).not)) ((S.ret (L.c (PyData.bool false))).seq S.skip) S.skip).seq ((S.ret (L.call false 25 0 ((L.meth false ("shows" : Str) [(("Top" : Str), 10), (("Behind" : Str), 13)] 0 (L.var 5) ((L.var 0).acons ((L.var 1).acons L.anil))).acons ((L.call false 23 0 ((L.var 0).acons ((L.var 1).acons ((L.var 2).acons ((L.var 3).acons L.anil))))).acons L.anil)))).seq S.skip)))))
theorem c26 : cST 20 ⟨0, false⟩ 9 C26 (defBody (top 26)) = some s26 := by kernel_rfl
/-! law -/
def C27 : Dz.Ctx := { N := ["_law_script", "_law_by", "_law_state_here", "_law_table", "_law_most", "_law_rows", "_law_at", "_law_one", "_law_joker", "_law_marks", "_law_other", "_law_built"], sc := defScope (top 27), fx := fun _ => true, ow := [(5, 1), (2, 3)], ex := [], rx := [], fl := ["joker", "marks", "other"], fn := [("Top", (9, 2)), ("Behind", (12, 2)), ("_law_state", (15, 0)), ("_law_jokers", (20, 1)), ("_law_full", (21, 1)), ("_law_behind", (24, 0)), ("_law_says", (25, 0)), ("_law_top_right", (26, 0))], gl := [], mt := [("shows", ([("Top", 10), ("Behind", 13)], 0))], cl := [("Answer", ["Top", "Behind"])] }
def s27 : S := ((S.for_ Src.seq (((L.c (PyData.int (0))).acons ((L.c (PyData.int (1))).acons L.anil)).lst.acons L.anil) (Tg.one 1) ((S.set 2 0 (L.call false 15 0 ((L.var 0).acons ((L.var 1).acons L.anil)))).seq ((S.for_ Src.range1 ((L.bi Bi.len (((L.own 2).ix (L.c (PyData.int (1)))).acons L.anil)).acons L.anil) (Tg.one 3) ((S.set 4 0 (L.call true 21 1 ((L.own 2).acons ((L.var 3).acons L.anil)))).seq ((S.set 5 1 ((L.var 4).acons (((L.var 4).slice (L.bin BOp.add (L.c (PyData.int (0))) (L.c (PyData.int (1)))) (L.c PyData.none)).acons ((L.bin BOp.add (L.var 4) ((L.c (PyData.int (0))).acons L.anil).lst).acons ((L.bin BOp.add (L.var 4) ((L.c PyData.none).acons L.anil).lst).acons (L.anil.lst.acons ((L.bin BOp.mul ((L.c (PyData.int (0))).acons L.anil).lst (L.bi Bi.len ((L.var 4).acons L.anil))).acons ((L.bin BOp.mul ((L.c PyData.none).acons L.anil).lst (L.bi Bi.len ((L.var 4).acons L.anil))).acons L.anil))))))).lst).seq ((S.for_ Src.range1 ((L.bi Bi.len ((L.var 4).acons L.anil)).acons L.anil) (Tg.one 6) ((S.for_ Src.seq (((L.c PyData.none).acons ((L.c (PyData.int (1))).neg.acons ((L.c (PyData.int (0))).acons ((L.c (PyData.int (1))).acons ((L.c (PyData.int (2))).acons ((L.c (PyData.int (5))).acons ((L.c (PyData.int (6))).acons ((L.bin BOp.pow (L.c (PyData.int (10))) (L.c (PyData.int (20)))).acons L.anil)))))))).lst.acons L.anil) (Tg.one 7) ((S.mut Mut.append 5 [] 0 ((L.bin BOp.add (L.bin BOp.add ((L.var 4).slice (L.c PyData.none) (L.bin BOp.add (L.c (PyData.int (0))) (L.var 6))) ((L.var 7).acons L.anil).lst) ((L.var 4).slice (L.bin BOp.add (L.c (PyData.int (0))) (L.bin BOp.add (L.var 6) (L.c (PyData.int (1))))) (L.c PyData.none))).acons L.anil)).seq S.skip)).seq S.skip)).seq ((S.for_ Src.seq ((L.bin BOp.add ((L.c PyData.none).acons L.anil).lst (L.bi Bi.rng2 ((L.c (PyData.int (1))).neg.acons ((L.bin BOp.add (L.bi Bi.len ((L.var 4).acons L.anil)) (L.c (PyData.int (1)))).acons L.anil)))).acons L.anil) (Tg.one 8) (((S.frz 5).seq (S.for_ Src.seq (((L.cmp COp.isin (L.var 8) ((L.call true 20 1 ((L.own 2).acons ((L.var 3).acons L.anil))).slice (L.bin BOp.add (L.c (PyData.int (0))) (L.c (PyData.int (1))).neg) (L.c PyData.none))).ite (L.var 5) ((L.var 5).slice (L.c PyData.none) (L.bin BOp.add (L.c (PyData.int (0))) (L.c (PyData.int (3)))))).acons L.anil) (Tg.one 9) ((S.ifs (L.call true 26 0 ((L.own 2).acons ((L.var 3).acons ((L.var 8).acons ((L.var 9).acons L.anil))))).not ((S.ret (L.c (PyData.bool false))).seq S.skip) S.skip).seq S.skip))).seq S.skip)).seq ((S.for_ Src.seq (((L.c (PyData.int (0))).acons ((L.c (PyData.int (1))).acons ((L.c (PyData.int (2))).acons ((L.c (PyData.int (3))).acons ((L.c (PyData.int (4))).acons ((L.c (PyData.int (5))).acons ((L.c (PyData.int (1))).neg.acons ((L.c (PyData.int (2))).neg.acons ((L.bin BOp.pow (L.c (PyData.int (10))) (L.c (PyData.int (20)))).acons L.anil))))))))).lst.acons L.anil) (Tg.one 10) ((S.set 11 0 (L.call false 12 2 ((L.var 10).acons L.anil))).seq ((S.ifs ((L.cmp COp.ne ((L.var 11).fld ("other" : Str)) (L.var 10)).or ((L.var 11).isC [("Top" : Str), ("Behind" : Str)]).not) ((S.ret (L.c (PyData.bool false))).seq S.skip) S.skip).seq ((S.ifs (L.call false 25 0 ((L.meth true ("shows" : Str) [(("Top" : Str), 10), (("Behind" : Str), 13)] 0 (L.var 11) ((L.own 2).acons ((L.var 3).acons L.anil))).acons ((L.call true 24 0 ((L.own 2).acons ((L.var 3).acons ((L.var 10).acons L.anil)))).acons L.anil))).not ((S.ret (L.c (PyData.bool false))).seq S.skip) S.skip).seq S.skip)))).seq S.skip)))))).seq S.skip))).seq ((S.set 2 3 (((L.c (PyData.int (1))).acons ((L.c (PyData.int (5))).acons L.anil)).lst.acons (((L.c (PyData.int (0))).acons ((L.c PyData.none).acons L.anil)).lst.acons ((((((L.c (PyData.bool true)).acons L.anil).lst.acons ((L.c (PyData.bool false)).acons L.anil)).tup.acons (((L.bin BOp.mul ((L.c (PyData.bool true)).acons L.anil).lst (L.c (PyData.int (5)))).acons ((L.c (PyData.bool false)).acons L.anil)).tup.acons L.anil)).lst.acons (((L.c PyData.none).acons ((L.c PyData.none).acons L.anil)).lst.acons L.anil)).lst.acons ((L.anil.lst.acons (L.anil.lst.acons L.anil)).lst.acons L.anil)))).tup).seq ((S.ifs (L.cmp COp.ne (L.comp Src.seq (((L.c PyData.none).acons ((L.c (PyData.int (0))).acons ((L.c (PyData.int (1))).acons L.anil))).tup.acons L.anil) (Tg.one 8) [8] (L.c (PyData.bool true)) (L.meth true ("shows" : Str) [(("Top" : Str), 10), (("Behind" : Str), 13)] 0 (L.call false 9 2 ((L.var 8).acons (((L.c (PyData.int (1))).acons ((L.c (PyData.int (5))).acons L.anil)).lst.acons L.anil))) ((L.own 2).acons ((L.c (PyData.int (1))).acons L.anil)))) ((L.c (PyData.bool false)).acons ((L.c (PyData.bool false)).acons ((L.c (PyData.bool true)).acons L.anil))).lst) ((S.ret (L.c (PyData.bool false))).seq S.skip) S.skip).seq ((S.ifs ((L.meth true ("shows" : Str) [(("Top" : Str), 10), (("Behind" : Str), 13)] 0 (L.call false 9 2 ((L.c (PyData.int (1))).acons (((L.c (PyData.int (0))).acons ((L.c (PyData.int (5))).acons L.anil)).lst.acons L.anil))) ((L.own 2).acons ((L.c (PyData.int (1))).acons L.anil))).not.or (L.meth true ("shows" : Str) [(("Top" : Str), 10), (("Behind" : Str), 13)] 0 (L.call false 9 2 ((L.c (PyData.int (1))).acons (((L.c (PyData.int (0))).acons ((L.c (PyData.int (3))).acons L.anil)).lst.acons L.anil))) ((L.own 2).acons ((L.c (PyData.int (1))).acons L.anil)))) ((S.ret (L.c (PyData.bool false))).seq S.skip) S.skip).seq ((S.put 2 [Pst.ix (L.c (PyData.int (2))), Pst.ix (L.c (PyData.int (0)))] (L.c (PyData.int (1))) 0 ((L.bin BOp.mul ((L.c (PyData.bool true)).acons L.anil).lst (L.c (PyData.int (5)))).acons ((L.c (PyData.bool true)).acons L.anil)).tup).seq (((S.frz 2).seq ((S.frz 2).seq (S.ifs ((L.meth false ("shows" : Str) [(("Top" : Str), 10), (("Behind" : Str), 13)] 0 (L.call false 12 2 ((L.c (PyData.int (0))).acons L.anil)) ((L.var 2).acons ((L.c (PyData.int (1))).acons L.anil))).or (L.meth false ("shows" : Str) [(("Top" : Str), 10), (("Behind" : Str), 13)] 0 (L.call false 12 2 ((L.c (PyData.int (0))).acons L.anil)) ((((L.var 2).ix (L.c (PyData.int (0)))).acons (((L.c (PyData.int (0))).acons ((L.c (PyData.int (1))).acons L.anil)).lst.acons (((L.var 2).ix (L.c (PyData.int (2)))).acons ((L.anil.lst.acons (((L.c (PyData.int (0))).acons ((L.c (PyData.int (1))).acons ((L.c (PyData.int (2))).acons ((L.c (PyData.int (3))).acons ((L.c (PyData.int (4))).acons L.anil))))).lst.acons L.anil)).lst.acons L.anil)))).tup.acons ((L.c (PyData.int (1))).acons L.anil))).not) ((S.ret (L.c (PyData.bool false))).seq S.skip) S.skip))).seq ((S.set 2 3 (((L.c (PyData.int (1))).acons L.anil).lst.acons (((L.c PyData.none).acons ((L.c PyData.none).acons L.anil)).lst.acons ((((L.c PyData.none).acons L.anil).lst.acons (((((L.c (PyData.bool true)).acons L.anil).lst.acons ((L.c (PyData.bool false)).acons L.anil)).tup.acons L.anil).lst.acons L.anil)).lst.acons ((L.anil.lst.acons L.anil).lst.acons L.anil)))).tup).seq ((S.ifs (L.bi Bi.all ((L.comp Src.seq (((L.c (PyData.int (0))).acons ((L.c PyData.none).acons L.anil)).tup.acons L.anil) (Tg.one 8) [8] (L.c (PyData.bool true)) (L.meth true ("shows" : Str) [(("Top" : Str), 10), (("Behind" : Str), 13)] 0 (L.call false 9 2 ((L.var 8).acons (((L.c (PyData.int (1))).acons L.anil).lst.acons L.anil))) ((L.own 2).acons ((L.c (PyData.int (0))).acons L.anil)))).acons L.anil)).not ((S.ret (L.c (PyData.bool false))).seq S.skip) S.skip).seq ((S.ret ((L.cmp COp.is (L.meth true ("shows" : Str) [(("Top" : Str), 10), (("Behind" : Str), 13)] 0 (L.call false 9 2 ((L.c (PyData.int (0))).acons (((L.c (PyData.int (0))).acons L.anil).lst.acons L.anil))) ((L.own 2).acons ((L.c (PyData.int (0))).acons L.anil))) (L.c (PyData.bool false))).and (L.cmp COp.is (L.meth true ("shows" : Str) [(("Top" : Str), 10), (("Behind" : Str), 13)] 0 (L.call false 12 2 ((L.c (PyData.int (1))).acons L.anil)) ((L.own 2).acons ((L.c (PyData.int (0))).acons L.anil))) (L.c (PyData.bool false))))).seq S.skip)))))))))
theorem c27 : cST 20 ⟨0, false⟩ 9 C27 (defBody (top 27)) = some s27 := by kernel_rfl
/-! what they are worth, one behind another -/
def G0 : Nat → Dz.Sem := fun _ _ => none
def f0 : Dz.Sem := semS G0 ⟨0, false⟩ 0 2 0 s0
def G1 : Nat → Dz.Sem := ext G0 0 f0
def f1 : Dz.Sem := semS G1 ⟨0, false⟩ 0 3 2 s1
def G2 : Nat → Dz.Sem := ext G1 1 f1
def f2 : Dz.Sem := semS G2 ⟨2, false⟩ 0 1 0 s2
def G3 : Nat → Dz.Sem := ext G2 2 f2
def f3 : Dz.Sem := semS G3 ⟨2, false⟩ 0 2 4 s3
def G4 : Nat → Dz.Sem := ext G3 3 f3
def f4 : Dz.Sem := semS G4 ⟨2, false⟩ 0 4 4 s4
def G5 : Nat → Dz.Sem := ext G4 4 f4
def f5 : Dz.Sem := semS G5 ⟨0, false⟩ 0 4 0 s5
def G6 : Nat → Dz.Sem := ext G5 5 f5
def f6 : Dz.Sem := semS G6 ⟨1, false⟩ 0 2 2 s6
def G7 : Nat → Dz.Sem := ext G6 6 f6
def f7 : Dz.Sem := semS G7 ⟨0, false⟩ 0 2 6 s7
def G8 : Nat → Dz.Sem := ext G7 7 f7
def f8 : Dz.Sem := semS G8 ⟨0, true⟩ 2 3 0 s8
def G9 : Nat → Dz.Sem := ext G8 8 f8
def f9 : Dz.Sem := makes "Top" f8
def G10 : Nat → Dz.Sem := ext G9 9 f9
def f10 : Dz.Sem := semS G10 ⟨0, false⟩ 0 3 6 s10
def G11 : Nat → Dz.Sem := ext G10 10 f10
def f11 : Dz.Sem := semS G11 ⟨0, true⟩ 2 2 0 s11
def G12 : Nat → Dz.Sem := ext G11 11 f11
def f12 : Dz.Sem := makes "Behind" f11
def G13 : Nat → Dz.Sem := ext G12 12 f12
def f13 : Dz.Sem := semS G13 ⟨0, false⟩ 0 3 0 s13
def G14 : Nat → Dz.Sem := ext G13 13 f13
def f14 : Dz.Sem := semS G14 ⟨0, false⟩ 0 3 2 s14
def G15 : Nat → Dz.Sem := ext G14 14 f14
def f15 : Dz.Sem := semS G15 ⟨0, false⟩ 0 2 18 s15
def G16 : Nat → Dz.Sem := ext G15 15 f15
def f16 : Dz.Sem := semS G16 ⟨0, false⟩ 0 3 3 s16
def G17 : Nat → Dz.Sem := ext G16 16 f16
def f17 : Dz.Sem := semS G17 ⟨1, false⟩ 0 4 4 s17
def G18 : Nat → Dz.Sem := ext G17 17 f17
def f18 : Dz.Sem := semS G18 ⟨1, false⟩ 0 2 0 s18
def G19 : Nat → Dz.Sem := ext G18 18 f18
def f19 : Dz.Sem := semS G19 ⟨0, false⟩ 0 4 4 s19
def G20 : Nat → Dz.Sem := ext G19 19 f19
def f20 : Dz.Sem := semS G20 ⟨1, false⟩ 0 2 2 s20
def G21 : Nat → Dz.Sem := ext G20 20 f20
def f21 : Dz.Sem := semS G21 ⟨1, false⟩ 0 2 3 s21
def G22 : Nat → Dz.Sem := ext G21 21 f21
def f22 : Dz.Sem := semS G22 ⟨0, false⟩ 0 2 4 s22
def G23 : Nat → Dz.Sem := ext G22 22 f22
def f23 : Dz.Sem := semS G23 ⟨0, false⟩ 0 4 6 s23
def G24 : Nat → Dz.Sem := ext G23 23 f23
def f24 : Dz.Sem := semS G24 ⟨0, false⟩ 0 3 0 s24
def G25 : Nat → Dz.Sem := ext G24 24 f24
def f25 : Dz.Sem := semS G25 ⟨0, false⟩ 0 2 0 s25
def G26 : Nat → Dz.Sem := ext G25 25 f25
def f26 : Dz.Sem := semS G26 ⟨0, false⟩ 0 4 2 s26
def G27 : Nat → Dz.Sem := ext G26 26 f26
def f27 : Dz.Sem := semS G27 ⟨0, false⟩ 0 1 11 s27
def G28 : Nat → Dz.Sem := ext G27 27 f27
end K04

set_option Elab.async false
set_option linter.all false
set_option maxRecDepth 100000
set_option maxHeartbeats 4000000
namespace K04
open PySem L2 Dz Mz
theorem i0 : IsFull f0 := full_sem G0
theorem g0 : G27 0 = f0 := by kernel_rfl
theorem i1 : IsCounted f1 := fun q n r sk ts late h1 h2 h3 h4 => counted_sem G1 q n r sk ts late h1 h2 h3 h4
theorem g1 : G27 1 = f1 := by kernel_rfl
theorem i2 : IsKey f2 := keyM_sem G2
theorem g2 : G27 2 = f2 := by kernel_rfl
theorem i3 : IsLeast f3 := fun q t ok ht => least_sem (G := G3) (c := 1) (k := 2) i1 i2 ok ht
theorem g3 : G27 3 = f3 := by kernel_rfl
theorem i4 : IsKeyW f4 := keyW_sem (G := G4) (c := 1) (k := 2) (mk_counted i1) i2
theorem g4 : G27 4 = f4 := by kernel_rfl
theorem i5 : IsAhead f5 := fun i s j t xs ys => ahead_sem G5 i s j t xs ys
theorem g5 : G27 5 = f5 := by kernel_rfl
theorem i6 : IsJks f6 := jks_sem G6
theorem g6 : G27 6 = f6 := by kernel_rfl
theorem i7 : IsGreat f7 := great_sem (G := G7) (fu := 0) (jo := 6) (kw := 4) i0 i6 i4
theorem g7 : G27 7 = f7 := by kernel_rfl
theorem i9 : IsTopI f9 := topI_sem G8
theorem g9 : G27 9 = f9 := by kernel_rfl
theorem i10 : IsShowT f10 := showT_sem (G := G10) (jo := 6) (fu := 0) (kw := 4) (ah := 5) (lk := 3) i6 i0 i4 i5 i3
theorem g10 : G27 10 = f10 := by kernel_rfl
theorem i12 : IsBehI f12 := behI_sem G11
theorem g12 : G27 12 = f12 := by kernel_rfl
theorem i13 : IsShowB f13 := showB_sem (G := G13) (ah := 5) (lk := 3) (gr := 7) i5 i3 i7
theorem g13 : G27 13 = f13 := by kernel_rfl
theorem i14 : IsNum f14 := num_sem G14
theorem g14 : G27 14 = f14 := by kernel_rfl
theorem i15 : IsLState f15 := sSt_sem (G := G15) (f := 14) i14
theorem g15 : G27 15 = f15 := by kernel_rfl
theorem i16 : IsMark f16 := mark_sem G16
theorem g16 : G27 16 = f16 := by kernel_rfl
theorem i17 : IsScM f17 := scM_sem (G := G17) (m := 16) (mk_mark i16)
theorem g17 : G27 17 = f17 := by kernel_rfl
theorem i18 : IsHas f18 := has_sem (G := G18) (c := 17) (scores_of i17)
theorem g18 : G27 18 = f18 := by kernel_rfl
theorem i19 : IsLAhead f19 := fun i j a b h => lahead_sem G19 i j a b h
theorem g19 : G27 19 = f19 := by kernel_rfl
theorem i20 : IsJks f20 := jks_sem G20
theorem g20 : G27 20 = f20 := by kernel_rfl
theorem i21 : IsLFull f21 := lfull_sem G21
theorem g21 : G27 21 = f21 := by kernel_rfl
theorem i22 : IsLBest f22 := lbest_sem (G := G22) (jo := 20) (sc := 17) (fu := 21) (ah := 19) i20 i17 i21 i19
theorem g22 : G27 22 = f22 := by kernel_rfl
theorem i23 : IsLTop f23 := ltop_sem (G := G23) (fu := 21) (jo := 20) (sc := 17) (ah := 19) (ha := 18) i21 i20 i17 i19 i18
theorem g23 : G27 23 = f23 := by kernel_rfl
theorem i24 : IsLBeh f24 := lbeh_sem (G := G24) (ah := 19) (ha := 18) (be := 22) i19 i18 i22
theorem g24 : G27 24 = f24 := by kernel_rfl
end K04

set_option Elab.async false
set_option linter.all false
set_option maxRecDepth 100000
set_option maxHeartbeats 4000000
namespace K04
open PySem L2 Dz Mz
theorem h26_9 : G26 9 = f9 := by kernel_rfl
theorem h26_10 : G26 10 = f10 := by kernel_rfl
theorem h26_23 : G26 23 = f23 := by kernel_rfl
theorem h26_25 : G26 25 = f25 := by kernel_rfl
theorem g25 : G27 25 = f25 := by kernel_rfl
theorem g26 : G27 26 = f26 := by kernel_rfl
def tab : List (Str × Nat) := [("Top", 10), ("Behind", 13)]
theorem says_ok (b : Bool) : f25 [.bool b, .bool b] = some (.ok (.bool true), .none) := by
  refine sem_ev rfl rfl (s_ret rfl ((ev_and (x := true) ?_ fun _ => eqB (ev_var rfl) (ev_var rfl)).trans ?_) rt_ok)
  · rw [ev_bi (ev_1 (ev_var rfl))]; rfl
  · simp
theorem right_ok (q : Q) (t : Nat) (j : Option Int) (ms : List (Option Int)) (ok : Ok q) (ht : t < q.jokers.length) (hl : ms.length ≤ 100) : f26 [stD q, .int t, jkD j, optsD ms] = some (.ok (.bool true), .none) := by
  refine sem_ev rfl rfl ?_
  refine s_set (d := optsD ms) rfl ?_
  refine s_set (d := topI j ms) (ev_callB (xs := [jkD j, optsD ms]) (ev_2 (ev_var rfl) rfl) (okF_of (G := G26) (f := 9) (by rw [h26_9]; exact i9 j ms)) (flat_ans (.top j ms))) ?_
  refine s_app (ds := ms.map jkD) rfl ev_c (by rw [List.length_map]; omega) ?_
  refine s_no (or_ff (ev_cmp (ev_fld (ev_var rfl) (f_joker j ms)) (ev_var rfl) (ne_self (n := 1) (by cases j <;> simp [jkD]) (by decide))) (or_ff (ev_cmp (ev_fld (ev_var rfl) (f_marks j ms)) (ev_var rfl) (ne_self (lay_opts ms) (by decide))) (not_t ((ev_isC (ev_var rfl) (cls_ans (.top j ms))).trans rfl)))) ?_
  exact s_ret rfl (ev_call (ev_2 (ev_meth (c := "Top") (f := 10) (ev_var rfl) rfl rfl (f_showT j ms) (ev_2 (ev_var rfl) (ev_var rfl)) (okF_of (G := G26) (f := 10) (by rw [h26_10]; exact i10 q t j ms ok ht)) rfl) (ev_call (ev_4 (ev_var rfl) (ev_var rfl) (ev_var rfl) (ev_var rfl)) (okF_of (G := G26) (f := 23) (by rw [h26_23]; exact i23 q t j ms ok ht)))) (okF_of (G := G26) (f := 25) (by rw [h26_25]; exact says_ok _))) rt_ok
def tl27 : S := match s27 with
  | .seq _ b => b
  | s => s
theorem tail_ok (x0 x1 x2 x3 x4 x5 x6 x7 x8 x9 x10 x11 : Sl) : isRtT (evS G27 ⟨0, false⟩ tl27 [x0, x1, x2, x3, x4, x5, x6, x7, x8, x9, x10, x11]) = true := by kernel_rfl
def ones : List (Option Int) := [none, some (-1), some 0, some 1, some 2, some 5, some 6, some (10 ^ 20)]
def oths : List Int := [0, 1, 2, 3, 4, 5, -1, -2, 10 ^ 20]
theorem ones_src (F : Nat → List D → Option D) (ρ : List Sl) : (unT (evE F ((((L.c PyData.none).acons ((L.c (PyData.int (1))).neg.acons ((L.c (PyData.int (0))).acons ((L.c (PyData.int (1))).acons ((L.c (PyData.int (2))).acons ((L.c (PyData.int (5))).acons ((L.c (PyData.int (6))).acons ((L.bin BOp.pow (L.c (PyData.int (10))) (L.c (PyData.int (20)))).acons L.anil)))))))).lst).acons L.anil) ρ)).bind (srcF .seq) = some (ones.map jkD) := by kernel_rfl
theorem oths_src (F : Nat → List D → Option D) (ρ : List Sl) : (unT (evE F ((((L.c (PyData.int (0))).acons ((L.c (PyData.int (1))).acons ((L.c (PyData.int (2))).acons ((L.c (PyData.int (3))).acons ((L.c (PyData.int (4))).acons ((L.c (PyData.int (5))).acons ((L.c (PyData.int (1))).neg.acons ((L.c (PyData.int (2))).neg.acons ((L.bin BOp.pow (L.c (PyData.int (10))) (L.c (PyData.int (20)))).acons L.anil))))))))).lst).acons L.anil) ρ)).bind (srcF .seq) = some (oths.map PyData.int) := by kernel_rfl
/-- rows of marks, few and short -/
def Rows (n : Nat) (rs : List (List (Option Int))) : Prop := rs.length ≤ n ∧ ∀ r ∈ rs, r.length ≤ 10
theorem Rows.snoc {n : Nat} {rs : List (List (Option Int))} {r : List (Option Int)} (h : Rows n rs) (hr : r.length ≤ 10) : Rows (n + 1) (rs ++ [r]) := ⟨by rw [List.length_append]; have := h.1; simp; omega, fun x hx => by
  rcases List.mem_append.mp hx with z | z
  · exact h.2 x z
  · rw [List.mem_singleton.mp z]; exact hr⟩
theorem main (ns : List Int) (h : ns.length ≤ 63) : ∃ s, f27 [.list (ns.map PyData.int)] = some (.ok (.bool true), s) := by
  refine ⟨.none, sem_ev rfl rfl ?_⟩
  refine w_seq (w_for (items := ([0, 1] : List Int)) PyData.int (fun pre ρ => ∃ y1 y2 y3 y4 y5 y6 y7 y8 y9 y10 y11, ρ = [.fz (intsD ns), y1, y2, y3, y4, y5, y6, y7, y8, y9, y10, y11]) ⟨_, _, _, _, _, _, _, _, _, _, _, rfl⟩ rfl (fun pre x post ρ hall ⟨y1, y2, y3, y4, y5, y6, y7, y8, y9, y10, y11, e⟩ => ?_) fun ρ' ⟨y1, y2, y3, y4, y5, y6, y7, y8, y9, y10, y11, e⟩ => ?_)
  · subst e
    have hx : x ∈ ([0, 1] : List Int) := by rw [hall]; simp
    have hx2 : 0 ≤ x ∧ x ≤ 10 := by
      simp only [List.mem_cons, List.not_mem_nil, or_false] at hx
      omega
    obtain ⟨q, ok, hq⟩ := i15 ns x hx2.1 hx2.2
    have hr1 := ok.r1
    have hj1 := ok.j1
    refine ⟨_, rfl, s_set (d := stD q) (ev_call (ev_2 (ev_var rfl) (ev_var rfl)) (okF_of (G := G27) (f := 15) (by rw [g15]; exact hq))) ?_⟩
    refine w_seq (w_for (items := List.range q.jokers.length) (fun (i : Nat) => PyData.int (i : Int)) (fun pre ρ => ∃ z3 z4 z5 z6 z7 z8 z9 z10 z11, ρ = [.fz (intsD ns), .fz (.int x), .fz (stD q), z3, z4, z5, z6, z7, z8, z9, z10, z11]) ⟨_, _, _, _, _, _, _, _, _, rfl⟩ (un_rng (nq_ev (own_fz rfl)) (by omega)) (fun pre t post ρ hall ⟨z3, z4, z5, z6, z7, z8, z9, z10, z11, e⟩ => ?_) fun ρ' ⟨z3, z4, z5, z6, z7, z8, z9, z10, z11, e⟩ => ?_)
    · subst e
      have ht : t < q.jokers.length := (range_split hall).2
      have hfl : (fullM q t).length = q.rounds.length := by rw [fullM_len, row_len ok ht]
      refine ⟨_, rfl, s_set (d := optsD (fullM q t)) (ev_callB (ev_2 (own_fz rfl) (ev_var rfl)) (okF_of (G := G27) (f := 21) (by rw [g21]; exact i21 q t ok ht)) (flat_opts _)) ?_⟩
      have e7 : ∀ ρ : List Sl, ρ[4]? = some (.fz (optsD (fullM q t))) → ∃ rs, Rows 7 rs ∧ evE (okF G27) (((L.var 4).acons (((L.var 4).slice (L.bin BOp.add (L.c (PyData.int (0))) (L.c (PyData.int (1)))) (L.c PyData.none)).acons ((L.bin BOp.add (L.var 4) ((L.c (PyData.int (0))).acons L.anil).lst).acons ((L.bin BOp.add (L.var 4) ((L.c PyData.none).acons L.anil).lst).acons (L.anil.lst.acons ((L.bin BOp.mul ((L.c (PyData.int (0))).acons L.anil).lst (L.bi Bi.len ((L.var 4).acons L.anil))).acons ((L.bin BOp.mul ((L.c PyData.none).acons L.anil).lst (L.bi Bi.len ((L.var 4).acons L.anil))).acons L.anil))))))).lst) ρ = some (.list (rs.map optsD)) := fun ρ h4 => by
        have hlen : evE (okF G27) (L.bi Bi.len ((L.var 4).acons L.anil)) ρ = some (.int ((fullM q t).length : Int)) := lenm (l := fullM q t) (f := jkD) (ev_var h4)
        refine ⟨[fullM q t, (fullM q t).drop 1, fullM q t ++ [some 0], fullM q t ++ [none], [], List.replicate (fullM q t).length (some 0), List.replicate (fullM q t).length none], ⟨by simp, fun r hr => ?_⟩, ev_lst (ev_cons (ev_var h4) (ev_cons ((sl_lo (n := 1) (ev_var h4) ev_c).trans ?_) (ev_cons (ev_bin (ev_var h4) (ev_lst (ev_1 ev_c) (by simp)) ((addL ?_).trans ?_)) (ev_cons (ev_bin (ev_var h4) (ev_lst (ev_1 ev_c) (by simp)) ((addL ?_).trans ?_)) (ev_cons rfl (ev_cons (ev_bin (ev_lst (ev_1 ev_c) (by simp)) hlen ((mulL (by omega)).trans ?_)) (ev_cons (ev_bin (ev_lst (ev_1 ev_c) (by simp)) hlen ((mulL (by omega)).trans ?_)) ev_nil))))))) (by simp)⟩
        · simp only [List.mem_cons, List.not_mem_nil, or_false] at hr
          rcases hr with rfl | rfl | rfl | rfl | rfl | rfl | rfl <;> first | omega | (simp; omega) | simp
        · rw [← List.map_drop]; rfl
        · simp; omega
        · rw [optsD, List.map_append]; rfl
        · simp; omega
        · rw [optsD, List.map_append]; rfl
        · simp [optsD, jkD]
        · simp [optsD, jkD]
      obtain ⟨rs7, hR7, e7⟩ := e7 [.fz (intsD ns), .fz (.int x), .fz (stD q), .fz (.int (t : Int)), .fz (optsD (fullM q t)), z5, z6, z7, z8, z9, z10, z11] rfl
      refine s_set e7 ?_
      -- the rows with one changed
      refine w_seq (w_for (items := List.range (fullM q t).length) (fun (i : Nat) => PyData.int (i : Int)) (fun pre ρ => ∃ rs z6 z7, Rows (7 + 8 * pre.length) rs ∧ ρ = [.fz (intsD ns), .fz (.int x), .fz (stD q), .fz (.int (t : Int)), .fz (optsD (fullM q t)), .own 1 (.list (rs.map optsD)), z6, z7, z8, z9, z10, z11]) ⟨rs7, _, _, hR7, rfl⟩ (un_rng (lenm (l := fullM q t) (f := jkD) (ev_var rfl)) (by omega)) (fun pre n post ρ hall ⟨rs, z6, z7, hR, e⟩ => ?_) fun ρ' ⟨rs, z6, z7, hR, e⟩ => ?_)
      · subst e
        obtain ⟨hpe, hn⟩ := range_split hall
        refine ⟨_, rfl, w_seq (w_for (items := ones) jkD (fun pr ρ => ∃ rs z7, Rows (7 + 8 * pre.length + pr.length) rs ∧ ρ = [.fz (intsD ns), .fz (.int x), .fz (stD q), .fz (.int (t : Int)), .fz (optsD (fullM q t)), .own 1 (.list (rs.map optsD)), .fz (.int (n : Int)), z7, z8, z9, z10, z11]) ⟨rs, _, hR, rfl⟩ (ones_src _ _) (fun pr o po ρ hall2 ⟨rs, z7, hR, e⟩ => ?_) fun ρ' ⟨rs, z7, hR, e⟩ => ?_)⟩
        · subst e
          have hpr : pr.length ≤ 8 := by
            have : ones.length = pr.length + (po.length + 1) := by rw [hall2]; simp
            have : ones.length = 8 := rfl
            omega
          have hrl := hR.1
          refine ⟨_, rfl, s_app (ds := rs.map optsD) (d := optsD ((fullM q t).take n ++ [o] ++ (fullM q t).drop (n + 1))) rfl (ev_bin (x := optsD ((fullM q t).take n ++ [o])) (ev_bin (sl_hi (ev_var rfl) (ev_var rfl)) (ev_lst (ev_1 (ev_var rfl)) (by simp)) ((addL ?_).trans ?_)) (sl_lo (n := n + 1) (ev_var rfl) (ev_bin (ev_var rfl) ev_c rfl)) ((addL ?_).trans ?_)) (by rw [List.length_map]; omega) (w_skip ⟨rs ++ [(fullM q t).take n ++ [o] ++ (fullM q t).drop (n + 1)], .fz (jkD o), ?_, ?_⟩)⟩
          · simp; omega
          · rw [optsD, List.map_append, List.map_take]; rfl
          · simp; omega
          · simp [optsD, List.map_append, List.map_take, List.map_drop]
          · rw [List.length_append]
            exact hR.snoc (by simp; omega)
          · rw [List.map_append]
            rfl
        · subst e
          refine w_skip ⟨rs, _, z7, ?_, rfl⟩
          rw [List.length_append]
          have : ones.length = 8 := rfl
          rw [this] at hR
          exact ⟨by have := hR.1; simp; omega, hR.2⟩
      · subst e
        rw [List.length_range] at hR
        have hrl := hR.1
        -- each joker
        have hjs : ∀ ρ : List Sl, ρ[4]? = some (.fz (optsD (fullM q t))) → evE (okF G27) (L.bin BOp.add ((L.c PyData.none).acons L.anil).lst (L.bi Bi.rng2 ((L.c (PyData.int (1))).neg.acons ((L.bin BOp.add (L.bi Bi.len ((L.var 4).acons L.anil)) (L.c (PyData.int (1)))).acons L.anil)))) ρ = some (optsD (none :: (List.range ((fullM q t).length + 2)).map fun (i : Nat) => some (-1 + (i : Int)))) := fun ρ h4 => by
          refine ev_bin (y := .list (rangeD (-1) ((fullM q t).length + 2))) (ev_lst (ev_1 ev_c) (by simp)) ?_ ((addL ?_).trans ?_)
          · refine (ev_bi (ev_2 (d := .int (-1)) (e := .int ((fullM q t).length + 1 : Int)) rfl (ev_bin (lenm (l := fullM q t) (f := jkD) (ev_var h4)) ev_c rfl))).trans ?_
            have e9 : (((fullM q t).length : Int) + 1 - -1).toNat = (fullM q t).length + 2 := by omega
            have a1 : lim63 (-1) = true := by decide
            have a2 : lim63 (((fullM q t).length : Int) + 1) = true := by unfold lim63; simp; omega
            simp only [biF, a1, a2, e9, lim_le (show (fullM q t).length + 2 ≤ 100000 by omega), Bool.and_self, if_true]
          · simp [rangeD]; omega
          · unfold optsD rangeD
            rw [List.map_cons, List.map_map]
            rfl
        refine w_seq (w_for (items := none :: (List.range ((fullM q t).length + 2)).map fun (i : Nat) => some (-1 + (i : Int))) jkD (fun pre ρ => ∃ x5 z8 z9, (x5 = .own 1 (.list (rs.map optsD)) ∨ x5 = .fz (.list (rs.map optsD))) ∧ ρ = [.fz (intsD ns), .fz (.int x), .fz (stD q), .fz (.int (t : Int)), .fz (optsD (fullM q t)), x5, z6, z7, z8, z9, z10, z11]) ⟨_, _, _, .inl rfl, rfl⟩ (un_seqm (hjs _ rfl)) (fun pre j post ρ hall ⟨x5, z8, z9, h5, e⟩ => ?_) fun ρ' ⟨x5, z8, z9, h5, e⟩ => ?_)
        · subst e
          refine ⟨_, rfl, w_seq (w_seq (w_frz (i := 5) (k := 1) (d := .list (rs.map optsD)) (h5.imp (fun e => congrArg some e) (fun e => congrArg some e)) ?_))⟩
          have hsl : ∃ X : List (List (Option Int)), (∀ r ∈ X, r ∈ rs) ∧ evE (okF G27) ((L.cmp COp.isin (L.var 8) ((L.call true 20 1 ((L.own 2).acons ((L.var 3).acons L.anil))).slice (L.bin BOp.add (L.c (PyData.int (0))) (L.c (PyData.int (1))).neg) (L.c PyData.none))).ite (L.var 5) ((L.var 5).slice (L.c PyData.none) (L.bin BOp.add (L.c (PyData.int (0))) (L.c (PyData.int (3)))))) [.fz (intsD ns), .fz (.int x), .fz (stD q), .fz (.int (t : Int)), .fz (optsD (fullM q t)), .fz (.list (rs.map optsD)), z6, z7, .fz (jkD j), z9, z10, z11] = some (.list (X.map optsD)) := by
            obtain ⟨ys, hys⟩ := sl_neg (F := okF G27) (ρ := [.fz (intsD ns), .fz (.int x), .fz (stD q), .fz (.int (t : Int)), .fz (optsD (fullM q t)), .fz (.list (rs.map optsD)), z6, z7, .fz (jkD j), z9, z10, z11]) (a := L.call true 20 1 ((L.own 2).acons ((L.var 3).acons L.anil))) (l := (L.c (PyData.int (1))).neg) (f := jkD) (xs := jks q t) (i := -1) (ev_callB (ev_2 (own_fz rfl) (ev_var rfl)) (okF_of (G := G27) (f := 20) (by rw [g20]; exact i20 q t ok ht)) (flat_opts _)) rfl
            refine ⟨if decide (j ∈ ys) then rs else rs.take 3, fun r hr => ?_, ?_⟩
            · split at hr
              · exact hr
              · exact List.mem_of_mem_take hr
            · have hc := isinJ (F := okF G27) (ρ := [.fz (intsD ns), .fz (.int x), .fz (stD q), .fz (.int (t : Int)), .fz (optsD (fullM q t)), .fz (.list (rs.map optsD)), z6, z7, .fz (jkD j), z9, z10, z11]) (a := L.var 8) (j := j) (js := ys) (ev_var rfl) hys
              refine ev_ite hc (fun z => ?_) (fun z => ?_)
              · rw [if_pos z]
                exact ev_var rfl
              · rw [if_neg (by rw [z]; decide), List.map_take]
                exact sl_hi (n := 3) (ev_var rfl) ev_c
          obtain ⟨X, hX, hXe⟩ := hsl
          refine w_for (items := X) optsD (fun pr ρ => ∃ z9, ρ = [.fz (intsD ns), .fz (.int x), .fz (stD q), .fz (.int (t : Int)), .fz (optsD (fullM q t)), .fz (.list (rs.map optsD)), z6, z7, .fz (jkD j), z9, z10, z11]) ⟨_, rfl⟩ (un_seqm hXe) (fun pr ms po ρ hall2 ⟨z9, e⟩ => ?_) fun ρ' ⟨z9, e⟩ => ?_
          · subst e
            have hms : ms ∈ X := by rw [hall2]; simp
            have hml := hR.2 ms (hX ms hms)
            exact ⟨_, rfl, s_no (not_t (ev_callB (ev_4 (own_fz rfl) (ev_var rfl) (ev_var rfl) (ev_var rfl)) (okF_of (G := G27) (f := 26) (by rw [g26]; exact right_ok q t j ms ok ht (by omega))) rfl)) (w_skip ⟨_, rfl⟩)⟩
          · subst e
            exact w_skip ⟨_, _, _, .inr rfl, rfl⟩
        · subst e
          -- each other table
          refine w_seq (w_for (items := oths) PyData.int (fun pre ρ => ∃ z10 z11, ρ = [.fz (intsD ns), .fz (.int x), .fz (stD q), .fz (.int (t : Int)), .fz (optsD (fullM q t)), x5, z6, z7, z8, z9, z10, z11]) ⟨_, _, rfl⟩ (oths_src _ _) (fun pre o post ρ hall ⟨z10, z11, e⟩ => ?_) fun ρ' ⟨z10, z11, e⟩ => ?_)
          · subst e
            refine ⟨_, rfl, s_set (d := behI o) (ev_call (ev_1 (ev_var rfl)) (okF_of (G := G27) (f := 12) (by rw [g12]; exact i12 o))) ?_⟩
            refine s_no (or_ff ((neI (ev_fld (ev_var rfl) (f_other o)) (ev_var rfl)).trans (by simp)) (not_t ((ev_isC (ev_var rfl) (cls_ans (.beh o))).trans rfl))) ?_
            refine s_no (not_t (ev_call (ev_2 (ev_meth (c := "Behind") (f := 13) (ev_var rfl) rfl rfl (f_showB o) (ev_2 (own_fz rfl) (ev_var rfl)) (okF_of (G := G27) (f := 13) (by rw [g13]; exact i13 q t o ok ht)) rfl) (ev_callB (ev_3 (own_fz rfl) (ev_var rfl) (ev_var rfl)) (okF_of (G := G27) (f := 24) (by rw [g24]; exact i24 q t o ok ht)) rfl)) (okF_of (G := G27) (f := 25) (by rw [g25]; exact says_ok _)))) (w_skip ⟨_, _, rfl⟩)
          · subst e
            exact w_skip ⟨_, _, _, _, _, _, _, _, _, rfl⟩
    · subst e
      exact w_skip ⟨_, _, _, _, _, _, _, _, _, _, _, rfl⟩
  · subst e
    exact ev_tail (tail_ok _ _ _ _ _ _ _ _ _ _ _ _)
end K04

set_option Elab.async false
set_option linter.all false
set_option maxRecDepth 100000
set_option maxHeartbeats 4000000
namespace K04
open PySem PyProof.Rows L2 Dz
theorem sc0 : FnScope C0.N ["state", "at"] (defScope (top 1)) := ⟨rfl, rfl, rfl, by decide +kernel, rfl, by decide +kernel, by decide +kernel⟩
theorem sc1 : FnScope C1.N ["state", "at", "sheet"] (defScope (top 2)) := ⟨rfl, rfl, rfl, by decide +kernel, rfl, by decide +kernel, by decide +kernel⟩
theorem sc2 : FnScope C2.N ["scores"] (defScope (top 3)) := ⟨rfl, rfl, rfl, by decide +kernel, rfl, by decide +kernel, by decide +kernel⟩
theorem sc3 : FnScope C3.N ["state", "table"] (defScope (top 4)) := ⟨rfl, rfl, rfl, by decide +kernel, rfl, by decide +kernel, by decide +kernel⟩
theorem sc4 : FnScope C4.N ["state", "table", "joker", "marks"] (defScope (top 5)) := ⟨rfl, rfl, rfl, by decide +kernel, rfl, by decide +kernel, by decide +kernel⟩
theorem sc5 : FnScope C5.N ["one", "mine", "other", "theirs"] (defScope (top 6)) := ⟨rfl, rfl, rfl, by decide +kernel, rfl, by decide +kernel, by decide +kernel⟩
theorem sc6 : FnScope C6.N ["state", "table"] (defScope (top 7)) := ⟨rfl, rfl, rfl, by decide +kernel, rfl, by decide +kernel, by decide +kernel⟩
theorem sc7 : FnScope C7.N ["state", "table"] (defScope (top 8)) := ⟨rfl, rfl, rfl, by decide +kernel, rfl, by decide +kernel, by decide +kernel⟩
theorem sc8 : FnScope C8.N ["self", "joker", "marks"] (defScope (inClass (top 11) 0)) := ⟨rfl, rfl, rfl, by decide +kernel, rfl, by decide +kernel, by decide +kernel⟩
theorem sc10 : FnScope C10.N ["self", "state", "table"] (defScope (inClass (top 11) 1)) := ⟨rfl, rfl, rfl, by decide +kernel, rfl, by decide +kernel, by decide +kernel⟩
theorem sc11 : FnScope C11.N ["self", "other"] (defScope (inClass (top 12) 0)) := ⟨rfl, rfl, rfl, by decide +kernel, rfl, by decide +kernel, by decide +kernel⟩
theorem sc13 : FnScope C13.N ["self", "state", "table"] (defScope (inClass (top 12) 1)) := ⟨rfl, rfl, rfl, by decide +kernel, rfl, by decide +kernel, by decide +kernel⟩
theorem sc14 : FnScope C14.N ["_law_cell", "_law_at", "_law_whole"] (defScope (top 14)) := ⟨rfl, rfl, rfl, by decide +kernel, rfl, by decide +kernel, by decide +kernel⟩
theorem sc15 : FnScope C15.N ["_law_script", "_law_by"] (defScope (top 15)) := ⟨rfl, rfl, rfl, by decide +kernel, rfl, by decide +kernel, by decide +kernel⟩
theorem sc16 : FnScope C16.N ["_law_state_here", "_law_at", "_law_sheet"] (defScope (top 16)) := ⟨rfl, rfl, rfl, by decide +kernel, rfl, by decide +kernel, by decide +kernel⟩
theorem sc17 : FnScope C17.N ["_law_state_here", "_law_table", "_law_joker", "_law_marks"] (defScope (top 17)) := ⟨rfl, rfl, rfl, by decide +kernel, rfl, by decide +kernel, by decide +kernel⟩
theorem sc18 : FnScope C18.N ["_law_state_here", "_law_table"] (defScope (top 18)) := ⟨rfl, rfl, rfl, by decide +kernel, rfl, by decide +kernel, by decide +kernel⟩
theorem sc19 : FnScope C19.N ["_law_one", "_law_mine", "_law_other", "_law_theirs"] (defScope (top 19)) := ⟨rfl, rfl, rfl, by decide +kernel, rfl, by decide +kernel, by decide +kernel⟩
theorem sc20 : FnScope C20.N ["_law_state_here", "_law_table"] (defScope (top 20)) := ⟨rfl, rfl, rfl, by decide +kernel, rfl, by decide +kernel, by decide +kernel⟩
theorem sc21 : FnScope C21.N ["_law_state_here", "_law_table"] (defScope (top 21)) := ⟨rfl, rfl, rfl, by decide +kernel, rfl, by decide +kernel, by decide +kernel⟩
theorem sc22 : FnScope C22.N ["_law_state_here", "_law_table"] (defScope (top 22)) := ⟨rfl, rfl, rfl, by decide +kernel, rfl, by decide +kernel, by decide +kernel⟩
theorem sc23 : FnScope C23.N ["_law_state_here", "_law_table", "_law_joker", "_law_marks"] (defScope (top 23)) := ⟨rfl, rfl, rfl, by decide +kernel, rfl, by decide +kernel, by decide +kernel⟩
theorem sc24 : FnScope C24.N ["_law_state_here", "_law_table", "_law_other"] (defScope (top 24)) := ⟨rfl, rfl, rfl, by decide +kernel, rfl, by decide +kernel, by decide +kernel⟩
theorem sc25 : FnScope C25.N ["_law_said", "_law_due"] (defScope (top 25)) := ⟨rfl, rfl, rfl, by decide +kernel, rfl, by decide +kernel, by decide +kernel⟩
theorem sc26 : FnScope C26.N ["_law_state_here", "_law_table", "_law_joker", "_law_marks"] (defScope (top 26)) := ⟨rfl, rfl, rfl, by decide +kernel, rfl, by decide +kernel, by decide +kernel⟩
theorem sc27 : FnScope C27.N ["_law_script"] (defScope (top 27)) := ⟨rfl, rfl, rfl, by decide +kernel, rfl, by decide +kernel, by decide +kernel⟩
section
variable {CA : Cmap} {P : Program} {w : World} {K : PySem.W.Frag} {mg : Str → Option Value} {base : Heap}
theorem chain (M : ModF CA C0 K mg) {a0 a1 a2 a3 a4 a5 a6 a7 a8 a10 a11 a13 a14 a15 a16 a17 a18 a19 a20 a21 a22 a23 a24 a25 a26 a27 : Addr} {d0 d1 d2 d3 d4 d5 d6 d7 d8 d10 d11 d13 d14 d15 d16 d17 d18 d19 d20 d21 d22 d23 d24 d25 d26 d27 : FuncData} {u0 u1 : Addr}
    (A0 : At K mg "full" (top 1) ["state", "at"] a0 d0)
    (A1 : At K mg "counted" (top 2) ["state", "at", "sheet"] a1 d1)
    (A2 : At K mg "key" (top 3) ["scores"] a2 d2)
    (A3 : At K mg "least_key" (top 4) ["state", "table"] a3 d3)
    (A4 : At K mg "key_with" (top 5) ["state", "table", "joker", "marks"] a4 d4)
    (A5 : At K mg "ahead" (top 6) ["one", "mine", "other", "theirs"] a5 d5)
    (A6 : At K mg "jokers_of" (top 7) ["state", "table"] a6 d6)
    (A7 : At K mg "greatest" (top 8) ["state", "table"] a7 d7)
    (A8 : Fun K "__init__" "Top.__init__" (inClass (top 11) 0) a8 d8) (B8 : Binds K d8 ["self", "joker", "marks"] []) (V8 : Mk K u0 a8)
    (A10 : Fun K "shows" "Top.shows" (inClass (top 11) 1) a10 d10) (B10 : Binds K d10 ["self", "state", "table"] []) (V10 : Meth K u0 "shows" a10)
    (A11 : Fun K "__init__" "Behind.__init__" (inClass (top 12) 0) a11 d11) (B11 : Binds K d11 ["self", "other"] []) (V11 : Mk K u1 a11)
    (A13 : Fun K "shows" "Behind.shows" (inClass (top 12) 1) a13 d13) (B13 : Binds K d13 ["self", "state", "table"] []) (V13 : Meth K u1 "shows" a13)
    (A14 : At K mg "_law_number" (top 14) ["_law_cell", "_law_at", "_law_whole"] a14 d14)
    (A15 : At K mg "_law_state" (top 15) ["_law_script", "_law_by"] a15 d15)
    (A16 : At K mg "_law_mark" (top 16) ["_law_state_here", "_law_at", "_law_sheet"] a16 d16)
    (A17 : At K mg "_law_scores" (top 17) ["_law_state_here", "_law_table", "_law_joker", "_law_marks"] a17 d17)
    (A18 : At K mg "_law_has" (top 18) ["_law_state_here", "_law_table"] a18 d18)
    (A19 : At K mg "_law_ahead" (top 19) ["_law_one", "_law_mine", "_law_other", "_law_theirs"] a19 d19)
    (A20 : At K mg "_law_jokers" (top 20) ["_law_state_here", "_law_table"] a20 d20)
    (A21 : At K mg "_law_full" (top 21) ["_law_state_here", "_law_table"] a21 d21)
    (A22 : At K mg "_law_best" (top 22) ["_law_state_here", "_law_table"] a22 d22)
    (A23 : At K mg "_law_top" (top 23) ["_law_state_here", "_law_table", "_law_joker", "_law_marks"] a23 d23)
    (A24 : At K mg "_law_behind" (top 24) ["_law_state_here", "_law_table", "_law_other"] a24 d24)
    (A25 : At K mg "_law_says" (top 25) ["_law_said", "_law_due"] a25 d25)
    (A26 : At K mg "_law_top_right" (top 26) ["_law_state_here", "_law_table", "_law_joker", "_law_marks"] a26 d26)
    (A27 : At K mg "law" (top 27) ["_law_script"] a27 d27)
    (U0 : CA.ins "Top" = some u0) (UC0 : Cls K u0) (UM0 : mg "Top" = some (.ref u0))
    (U1 : CA.ins "Behind" = some u1) (UC1 : Cls K u1) (UM1 : mg "Behind" = some (.ref u1)) : FnOk P w K mg base (L2.CX P w) 28 a27 d27 ["_law_script"] (spD CA 1 f27 0) := by
  have o0 : FnOk P w K mg base (L2.CX P w) 1 a0 d0 ["state", "at"] (spD CA 2 f0 0) := fn_pure (G := G0) (s := s0) A0.F sc0 rfl rfl (M.as rfl rfl rfl rfl) (EntAll.get (l := C0.fn) (entNil)) (entMnil) rfl rfl c0
  have e0 : ∀ lv, 1 ≤ lv → ∀ G : Nat → Dz.Sem, G 0 = f0 → Ent CA G P w K mg base lv "full" 0 0 := fun lv h G hG => ent_of A0 o0 h hG fun ds r z => semS_len z
  have o1 : FnOk P w K mg base (L2.CX P w) 2 a1 d1 ["state", "at", "sheet"] (spD CA 3 f1 0) := fn_pure (G := G1) (s := s1) A1.F sc1 rfl rfl (M.as rfl rfl rfl rfl) (EntAll.get (l := C1.fn) (entNil)) (entMnil) rfl rfl c1
  have e1 : ∀ lv, 2 ≤ lv → ∀ G : Nat → Dz.Sem, G 1 = f1 → Ent CA G P w K mg base lv "counted" 1 0 := fun lv h G hG => ent_of A1 o1 h hG fun ds r z => semS_len z
  have o2 : FnOk P w K mg base (L2.CX P w) 3 a2 d2 ["scores"] (spD CA 1 f2 2) := fn_pure (G := G2) (s := s2) A2.F sc2 rfl rfl (M.as rfl rfl rfl rfl) (EntAll.get (l := C2.fn) (entNil)) (entMnil) rfl rfl c2
  have e2 : ∀ lv, 3 ≤ lv → ∀ G : Nat → Dz.Sem, G 2 = f2 → Ent CA G P w K mg base lv "key" 2 2 := fun lv h G hG => ent_of A2 o2 h hG fun ds r z => semS_len z
  have o3 : FnOk P w K mg base (L2.CX P w) 4 a3 d3 ["state", "table"] (spD CA 2 f3 2) := fn_pure (G := G3) (s := s3) A3.F sc3 rfl rfl (M.as rfl rfl rfl rfl) (EntAll.get (l := C3.fn) (entCons (e1 3 (by decide) G3 rfl) (entCons (e2 3 (by decide) G3 rfl) (entNil)))) (entMnil) rfl rfl c3
  have e3 : ∀ lv, 4 ≤ lv → ∀ G : Nat → Dz.Sem, G 3 = f3 → Ent CA G P w K mg base lv "least_key" 3 2 := fun lv h G hG => ent_of A3 o3 h hG fun ds r z => semS_len z
  have o4 : FnOk P w K mg base (L2.CX P w) 5 a4 d4 ["state", "table", "joker", "marks"] (spD CA 4 f4 2) := fn_pure (G := G4) (s := s4) A4.F sc4 rfl rfl (M.as rfl rfl rfl rfl) (EntAll.get (l := C4.fn) (entCons (e1 4 (by decide) G4 rfl) (entCons (e2 4 (by decide) G4 rfl) (entNil)))) (entMnil) rfl rfl c4
  have e4 : ∀ lv, 5 ≤ lv → ∀ G : Nat → Dz.Sem, G 4 = f4 → Ent CA G P w K mg base lv "key_with" 4 2 := fun lv h G hG => ent_of A4 o4 h hG fun ds r z => semS_len z
  have o5 : FnOk P w K mg base (L2.CX P w) 6 a5 d5 ["one", "mine", "other", "theirs"] (spD CA 4 f5 0) := fn_pure (G := G5) (s := s5) A5.F sc5 rfl rfl (M.as rfl rfl rfl rfl) (EntAll.get (l := C5.fn) (entNil)) (entMnil) rfl rfl c5
  have e5 : ∀ lv, 6 ≤ lv → ∀ G : Nat → Dz.Sem, G 5 = f5 → Ent CA G P w K mg base lv "ahead" 5 0 := fun lv h G hG => ent_of A5 o5 h hG fun ds r z => semS_len z
  have o6 : FnOk P w K mg base (L2.CX P w) 7 a6 d6 ["state", "table"] (spD CA 2 f6 1) := fn_pure (G := G6) (s := s6) A6.F sc6 rfl rfl (M.as rfl rfl rfl rfl) (EntAll.get (l := C6.fn) (entNil)) (entMnil) rfl rfl c6
  have e6 : ∀ lv, 7 ≤ lv → ∀ G : Nat → Dz.Sem, G 6 = f6 → Ent CA G P w K mg base lv "jokers_of" 6 1 := fun lv h G hG => ent_of A6 o6 h hG fun ds r z => semS_len z
  have o7 : FnOk P w K mg base (L2.CX P w) 8 a7 d7 ["state", "table"] (spD CA 2 f7 0) := fn_pure (G := G7) (s := s7) A7.F sc7 rfl rfl (M.as rfl rfl rfl rfl) (EntAll.get (l := C7.fn) (entCons (e0 7 (by decide) G7 rfl) (entCons (e4 7 (by decide) G7 rfl) (entCons (e6 7 (by decide) G7 rfl) (entNil))))) (entMnil) rfl rfl c7
  have e7 : ∀ lv, 8 ≤ lv → ∀ G : Nat → Dz.Sem, G 7 = f7 → Ent CA G P w K mg base lv "greatest" 7 0 := fun lv h G hG => ent_of A7 o7 h hG fun ds r z => semS_len z
  have o8 : FnOk P w K mg base (L2.CX P w) 9 a8 d8 ["self", "joker", "marks"] (spM CA 2 f8 2) := fn_io (G := G8) (s := s8) A8 sc8 rfl rfl (M.as rfl rfl rfl rfl) (EntAll.get (l := C8.fn) (entNil)) (entMnil) rfl rfl c8
  have e9 : ∀ lv, 10 ≤ lv → ∀ G : Nat → Dz.Sem, G 9 = f9 → G 8 = f8 → Ent CA G P w K mg base lv "Top" 9 2 := fun lv h G hG hG2 => ent_mk U0 V8 o8 h UM0 B8 hG2 hG (fun ds r z => semS_len z) (noRet_sem rfl)
  have o10 : FnOk P w K mg base (L2.CX P w) 11 a10 d10 ["self", "state", "table"] (spD CA 3 f10 0) := fn_pure (G := G10) (s := s10) A10 sc10 rfl rfl (M.as rfl rfl rfl rfl) (EntAll.get (l := C10.fn) (entCons (e0 10 (by decide) G10 rfl) (entCons (e3 10 (by decide) G10 rfl) (entCons (e4 10 (by decide) G10 rfl) (entCons (e5 10 (by decide) G10 rfl) (entCons (e6 10 (by decide) G10 rfl) (entNil))))))) (entMnil) rfl rfl c10
  have m10 : ∀ lv, 11 ≤ lv → ∀ G : Nat → Dz.Sem, G 10 = f10 → EntM CA G P w K mg base lv "Top" "shows" 10 0 := fun lv h G hG => entm_of U0 UC0 V10 o10 h B10 hG fun ds r z => semS_len z
  have o11 : FnOk P w K mg base (L2.CX P w) 12 a11 d11 ["self", "other"] (spM CA 1 f11 2) := fn_io (G := G11) (s := s11) A11 sc11 rfl rfl (M.as rfl rfl rfl rfl) (EntAll.get (l := C11.fn) (entNil)) (entMnil) rfl rfl c11
  have e12 : ∀ lv, 13 ≤ lv → ∀ G : Nat → Dz.Sem, G 12 = f12 → G 11 = f11 → Ent CA G P w K mg base lv "Behind" 12 2 := fun lv h G hG hG2 => ent_mk U1 V11 o11 h UM1 B11 hG2 hG (fun ds r z => semS_len z) (noRet_sem rfl)
  have o13 : FnOk P w K mg base (L2.CX P w) 14 a13 d13 ["self", "state", "table"] (spD CA 3 f13 0) := fn_pure (G := G13) (s := s13) A13 sc13 rfl rfl (M.as rfl rfl rfl rfl) (EntAll.get (l := C13.fn) (entCons (e3 13 (by decide) G13 rfl) (entCons (e5 13 (by decide) G13 rfl) (entCons (e7 13 (by decide) G13 rfl) (entNil))))) (entMnil) rfl rfl c13
  have m13 : ∀ lv, 14 ≤ lv → ∀ G : Nat → Dz.Sem, G 13 = f13 → EntM CA G P w K mg base lv "Behind" "shows" 13 0 := fun lv h G hG => entm_of U1 UC1 V13 o13 h B13 hG fun ds r z => semS_len z
  have o14 : FnOk P w K mg base (L2.CX P w) 15 a14 d14 ["_law_cell", "_law_at", "_law_whole"] (spD CA 3 f14 0) := fn_pure (G := G14) (s := s14) A14.F sc14 rfl rfl (M.as rfl rfl rfl rfl) (EntAll.get (l := C14.fn) (entNil)) (entMnil) rfl rfl c14
  have e14 : ∀ lv, 15 ≤ lv → ∀ G : Nat → Dz.Sem, G 14 = f14 → Ent CA G P w K mg base lv "_law_number" 14 0 := fun lv h G hG => ent_of A14 o14 h hG fun ds r z => semS_len z
  have o15 : FnOk P w K mg base (L2.CX P w) 16 a15 d15 ["_law_script", "_law_by"] (spD CA 2 f15 0) := fn_pure (G := G15) (s := s15) A15.F sc15 rfl rfl (M.as rfl rfl rfl rfl) (EntAll.get (l := C15.fn) (entCons (e14 15 (by decide) G15 rfl) (entNil))) (entMnil) rfl rfl c15
  have e15 : ∀ lv, 16 ≤ lv → ∀ G : Nat → Dz.Sem, G 15 = f15 → Ent CA G P w K mg base lv "_law_state" 15 0 := fun lv h G hG => ent_of A15 o15 h hG fun ds r z => semS_len z
  have o16 : FnOk P w K mg base (L2.CX P w) 17 a16 d16 ["_law_state_here", "_law_at", "_law_sheet"] (spD CA 3 f16 0) := fn_pure (G := G16) (s := s16) A16.F sc16 rfl rfl (M.as rfl rfl rfl rfl) (EntAll.get (l := C16.fn) (entNil)) (entMnil) rfl rfl c16
  have e16 : ∀ lv, 17 ≤ lv → ∀ G : Nat → Dz.Sem, G 16 = f16 → Ent CA G P w K mg base lv "_law_mark" 16 0 := fun lv h G hG => ent_of A16 o16 h hG fun ds r z => semS_len z
  have o17 : FnOk P w K mg base (L2.CX P w) 18 a17 d17 ["_law_state_here", "_law_table", "_law_joker", "_law_marks"] (spD CA 4 f17 1) := fn_pure (G := G17) (s := s17) A17.F sc17 rfl rfl (M.as rfl rfl rfl rfl) (EntAll.get (l := C17.fn) (entCons (e16 17 (by decide) G17 rfl) (entNil))) (entMnil) rfl rfl c17
  have e17 : ∀ lv, 18 ≤ lv → ∀ G : Nat → Dz.Sem, G 17 = f17 → Ent CA G P w K mg base lv "_law_scores" 17 1 := fun lv h G hG => ent_of A17 o17 h hG fun ds r z => semS_len z
  have o18 : FnOk P w K mg base (L2.CX P w) 19 a18 d18 ["_law_state_here", "_law_table"] (spD CA 2 f18 1) := fn_pure (G := G18) (s := s18) A18.F sc18 rfl rfl (M.as rfl rfl rfl rfl) (EntAll.get (l := C18.fn) (entCons (e17 18 (by decide) G18 rfl) (entNil))) (entMnil) rfl rfl c18
  have e18 : ∀ lv, 19 ≤ lv → ∀ G : Nat → Dz.Sem, G 18 = f18 → Ent CA G P w K mg base lv "_law_has" 18 1 := fun lv h G hG => ent_of A18 o18 h hG fun ds r z => semS_len z
  have o19 : FnOk P w K mg base (L2.CX P w) 20 a19 d19 ["_law_one", "_law_mine", "_law_other", "_law_theirs"] (spD CA 4 f19 0) := fn_pure (G := G19) (s := s19) A19.F sc19 rfl rfl (M.as rfl rfl rfl rfl) (EntAll.get (l := C19.fn) (entNil)) (entMnil) rfl rfl c19
  have e19 : ∀ lv, 20 ≤ lv → ∀ G : Nat → Dz.Sem, G 19 = f19 → Ent CA G P w K mg base lv "_law_ahead" 19 0 := fun lv h G hG => ent_of A19 o19 h hG fun ds r z => semS_len z
  have o20 : FnOk P w K mg base (L2.CX P w) 21 a20 d20 ["_law_state_here", "_law_table"] (spD CA 2 f20 1) := fn_pure (G := G20) (s := s20) A20.F sc20 rfl rfl (M.as rfl rfl rfl rfl) (EntAll.get (l := C20.fn) (entNil)) (entMnil) rfl rfl c20
  have e20 : ∀ lv, 21 ≤ lv → ∀ G : Nat → Dz.Sem, G 20 = f20 → Ent CA G P w K mg base lv "_law_jokers" 20 1 := fun lv h G hG => ent_of A20 o20 h hG fun ds r z => semS_len z
  have o21 : FnOk P w K mg base (L2.CX P w) 22 a21 d21 ["_law_state_here", "_law_table"] (spD CA 2 f21 1) := fn_pure (G := G21) (s := s21) A21.F sc21 rfl rfl (M.as rfl rfl rfl rfl) (EntAll.get (l := C21.fn) (entNil)) (entMnil) rfl rfl c21
  have e21 : ∀ lv, 22 ≤ lv → ∀ G : Nat → Dz.Sem, G 21 = f21 → Ent CA G P w K mg base lv "_law_full" 21 1 := fun lv h G hG => ent_of A21 o21 h hG fun ds r z => semS_len z
  have o22 : FnOk P w K mg base (L2.CX P w) 23 a22 d22 ["_law_state_here", "_law_table"] (spD CA 2 f22 0) := fn_pure (G := G22) (s := s22) A22.F sc22 rfl rfl (M.as rfl rfl rfl rfl) (EntAll.get (l := C22.fn) (entCons (e17 22 (by decide) G22 rfl) (entCons (e19 22 (by decide) G22 rfl) (entCons (e20 22 (by decide) G22 rfl) (entCons (e21 22 (by decide) G22 rfl) (entNil)))))) (entMnil) rfl rfl c22
  have e22 : ∀ lv, 23 ≤ lv → ∀ G : Nat → Dz.Sem, G 22 = f22 → Ent CA G P w K mg base lv "_law_best" 22 0 := fun lv h G hG => ent_of A22 o22 h hG fun ds r z => semS_len z
  have o23 : FnOk P w K mg base (L2.CX P w) 24 a23 d23 ["_law_state_here", "_law_table", "_law_joker", "_law_marks"] (spD CA 4 f23 0) := fn_pure (G := G23) (s := s23) A23.F sc23 rfl rfl (M.as rfl rfl rfl rfl) (EntAll.get (l := C23.fn) (entCons (e17 23 (by decide) G23 rfl) (entCons (e18 23 (by decide) G23 rfl) (entCons (e19 23 (by decide) G23 rfl) (entCons (e20 23 (by decide) G23 rfl) (entCons (e21 23 (by decide) G23 rfl) (entNil))))))) (entMnil) rfl rfl c23
  have e23 : ∀ lv, 24 ≤ lv → ∀ G : Nat → Dz.Sem, G 23 = f23 → Ent CA G P w K mg base lv "_law_top" 23 0 := fun lv h G hG => ent_of A23 o23 h hG fun ds r z => semS_len z
  have o24 : FnOk P w K mg base (L2.CX P w) 25 a24 d24 ["_law_state_here", "_law_table", "_law_other"] (spD CA 3 f24 0) := fn_pure (G := G24) (s := s24) A24.F sc24 rfl rfl (M.as rfl rfl rfl rfl) (EntAll.get (l := C24.fn) (entCons (e18 24 (by decide) G24 rfl) (entCons (e19 24 (by decide) G24 rfl) (entCons (e22 24 (by decide) G24 rfl) (entNil))))) (entMnil) rfl rfl c24
  have e24 : ∀ lv, 25 ≤ lv → ∀ G : Nat → Dz.Sem, G 24 = f24 → Ent CA G P w K mg base lv "_law_behind" 24 0 := fun lv h G hG => ent_of A24 o24 h hG fun ds r z => semS_len z
  have o25 : FnOk P w K mg base (L2.CX P w) 26 a25 d25 ["_law_said", "_law_due"] (spD CA 2 f25 0) := fn_pure (G := G25) (s := s25) A25.F sc25 rfl rfl (M.as rfl rfl rfl rfl) (EntAll.get (l := C25.fn) (entNil)) (entMnil) rfl rfl c25
  have e25 : ∀ lv, 26 ≤ lv → ∀ G : Nat → Dz.Sem, G 25 = f25 → Ent CA G P w K mg base lv "_law_says" 25 0 := fun lv h G hG => ent_of A25 o25 h hG fun ds r z => semS_len z
  have o26 : FnOk P w K mg base (L2.CX P w) 27 a26 d26 ["_law_state_here", "_law_table", "_law_joker", "_law_marks"] (spD CA 4 f26 0) := fn_pure (G := G26) (s := s26) A26.F sc26 rfl rfl (M.as rfl rfl rfl rfl) (EntAll.get (l := C26.fn) (entCons (e9 26 (by decide) G26 rfl rfl) (entCons (e23 26 (by decide) G26 rfl) (entCons (e25 26 (by decide) G26 rfl) (entNil))))) (entMcons (m := "shows") (tab := [("Top", 10), ("Behind", 13)]) (k := 0) (fun p hp => by simp only [List.mem_cons, List.not_mem_nil, or_false] at hp; rcases hp with rfl | rfl; all_goals first | exact m10 26 (by decide) G26 rfl | exact m13 26 (by decide) G26 rfl) (entMnil)) rfl rfl c26
  have e26 : ∀ lv, 27 ≤ lv → ∀ G : Nat → Dz.Sem, G 26 = f26 → Ent CA G P w K mg base lv "_law_top_right" 26 0 := fun lv h G hG => ent_of A26 o26 h hG fun ds r z => semS_len z
  have o27 : FnOk P w K mg base (L2.CX P w) 28 a27 d27 ["_law_script"] (spD CA 1 f27 0) := fn_pure (G := G27) (s := s27) A27.F sc27 rfl rfl (M.as rfl rfl rfl rfl) (EntAll.get (l := C27.fn) (entCons (e9 27 (by decide) G27 rfl rfl) (entCons (e12 27 (by decide) G27 rfl rfl) (entCons (e15 27 (by decide) G27 rfl) (entCons (e20 27 (by decide) G27 rfl) (entCons (e21 27 (by decide) G27 rfl) (entCons (e24 27 (by decide) G27 rfl) (entCons (e25 27 (by decide) G27 rfl) (entCons (e26 27 (by decide) G27 rfl) (entNil)))))))))) (entMcons (m := "shows") (tab := [("Top", 10), ("Behind", 13)]) (k := 0) (fun p hp => by simp only [List.mem_cons, List.not_mem_nil, or_false] at hp; rcases hp with rfl | rfl; all_goals first | exact m10 27 (by decide) G27 rfl | exact m13 27 (by decide) G27 rfl) (entMnil)) rfl rfl c27
  exact o27
end
def cmap (u0 u1 : Addr) : Cmap := ⟨fun c => if c = "Top" then some u0 else if c = "Behind" then some u1 else none, fun c => 0⟩
theorem cmap_ins {u0 u1 : Addr} {c : Str} {B : Addr} (h : (cmap u0 u1).ins c = some B) : (c = "Top" ∧ B = u0) ∨ (c = "Behind" ∧ B = u1) := by
  unfold cmap at h
  simp only at h
  split at h
  · exact .inl ⟨by assumption, by cases h; rfl⟩
  split at h
  · exact .inr (⟨by assumption, by cases h; rfl⟩)
  · cases h
theorem mod_mk {K : PySem.W.Frag} {h : Heap} {mg : Str → Option Value} {u0 u1 : Addr} (X : K.In h) (G : h.Ns mainGlobals mg)
    (b0 : PySem.W.nsIn K mainGlobals "len" = some none)
    (b1 : PySem.W.nsIn K mainGlobals "sum" = some none)
    (b2 : PySem.W.nsIn K mainGlobals "sorted" = some none)
    (b3 : PySem.W.nsIn K mainGlobals "max" = some none)
    (b4 : PySem.W.nsIn K mainGlobals "min" = some none)
    (b5 : PySem.W.nsIn K mainGlobals "abs" = some none)
    (b6 : PySem.W.nsIn K mainGlobals "int" = some none)
    (b7 : PySem.W.nsIn K mainGlobals "list" = some none)
    (b8 : PySem.W.nsIn K mainGlobals "all" = some none)
    (b9 : PySem.W.nsIn K mainGlobals "any" = some none)
    (b10 : PySem.W.nsIn K mainGlobals "isinstance" = some none)
    (b11 : PySem.W.nsIn K mainGlobals "range" = some none)
    (b12 : PySem.W.nsIn K mainGlobals "enumerate" = some none)
    (b13 : PySem.W.nsIn K mainGlobals "zip" = some none)
    (b14 : PySem.W.nsIn K mainGlobals "bool" = some none)
    (b15 : PySem.W.nsIn K mainGlobals "tuple" = some none)
    (b16 : PySem.W.nsIn K mainGlobals "str" = some none)
    (up0 : PySem.W.nsIn K mainGlobals "Top" = some (some (.ref u0))) (upg0 : PySem.W.plainGet K u0 Str.empty = true) (uhd0 : PySem.W.hasDictIn K u0 = true) (upo0 : PySem.W.plainOver K u0 = true) (usa0 : PySem.W.findIn K (.ref u0) "__setattr__" = some (some (.builtin "object.__setattr__")))
    (una0_0 : PySem.W.findIn K (.ref u0) "joker" = some none)
    (una0_1 : PySem.W.findIn K (.ref u0) "marks" = some none)
    (una0_2 : PySem.W.findIn K (.ref u0) "other" = some none)
    (uha0 : PySem.W.findIn K (.ref u0) "__class__" = some (some (.builtin "object.__class__"))) (uhm0 : PySem.W.mroIn K u0 (.type "object") = some true)
    (up1 : PySem.W.nsIn K mainGlobals "Behind" = some (some (.ref u1))) (upg1 : PySem.W.plainGet K u1 Str.empty = true) (uhd1 : PySem.W.hasDictIn K u1 = true) (upo1 : PySem.W.plainOver K u1 = true) (usa1 : PySem.W.findIn K (.ref u1) "__setattr__" = some (some (.builtin "object.__setattr__")))
    (una1_0 : PySem.W.findIn K (.ref u1) "joker" = some none)
    (una1_1 : PySem.W.findIn K (.ref u1) "marks" = some none)
    (una1_2 : PySem.W.findIn K (.ref u1) "other" = some none)
    (uha1 : PySem.W.findIn K (.ref u1) "__class__" = some (some (.builtin "object.__class__"))) (uhm1 : PySem.W.mroIn K u1 (.type "object") = some true)
    (uhn : PySem.W.specialIn K (.builtin "object.__class__") "__get__" = some (some (.builtin "getset_descriptor.__get__"))) (utk : PySem.W.takesIn K (.builtin "object.__class__") = some true)
    {y0 : Addr}
    (yp0 : PySem.W.nsIn K mainGlobals "Answer" = some (some (.ref y0)))
    (yk0_0 : PySem.W.kitOne K (.ref u0) (.ref y0) = some true)
    (yk0_1 : PySem.W.kitOne K (.ref u1) (.ref y0) = some true)
    : ModF (cmap u0 u1) C0 K mg := by
  have hcl : ∀ c B, (cmap u0 u1).ins c = some B → Cls K B := fun c B z => by
    rcases cmap_ins z with ⟨rfl, rfl⟩ | ⟨rfl, rfl⟩
    · exact ⟨upg0, uhd0, upo0, usa0⟩
    · exact ⟨upg1, uhd1, upo1, usa1⟩
  refine ⟨?_, ?_, ?_, ⟨hcl, fun c B f z hf => ?_⟩, ?_⟩
  · intro y hy
    simp only [bnames, List.mem_cons, List.not_mem_nil, or_false] at hy
    rcases hy with rfl | rfl | rfl | rfl | rfl | rfl | rfl | rfl | rfl | rfl | rfl | rfl | rfl | rfl | rfl | rfl | rfl
    · exact PySem.W.mg_none_of X G b0
    · exact PySem.W.mg_none_of X G b1
    · exact PySem.W.mg_none_of X G b2
    · exact PySem.W.mg_none_of X G b3
    · exact PySem.W.mg_none_of X G b4
    · exact PySem.W.mg_none_of X G b5
    · exact PySem.W.mg_none_of X G b6
    · exact PySem.W.mg_none_of X G b7
    · exact PySem.W.mg_none_of X G b8
    · exact PySem.W.mg_none_of X G b9
    · exact PySem.W.mg_none_of X G b10
    · exact PySem.W.mg_none_of X G b11
    · exact PySem.W.mg_none_of X G b12
    · exact PySem.W.mg_none_of X G b13
    · exact PySem.W.mg_none_of X G b14
    · exact PySem.W.mg_none_of X G b15
    · exact PySem.W.mg_none_of X G b16
  · intro y v hv
    have m := lookup_mem hv
    simp only [C0, List.mem_cons, List.not_mem_nil, or_false, Prod.mk.injEq] at m
  · intro c hc
    simp only [C0, List.mem_cons, List.not_mem_nil, or_false] at hc
  · simp only [C0, List.mem_cons, List.not_mem_nil, or_false] at hf
    rcases cmap_ins z with ⟨rfl, rfl⟩ | ⟨rfl, rfl⟩ <;> rcases hf with rfl | rfl | rfl
    · exact una0_0
    · exact una0_1
    · exact una0_2
    · exact una1_0
    · exact una1_1
    · exact una1_2
  · intro y cs hy
    have m := lookup_mem hy
    simp only [C0, List.mem_cons, List.not_mem_nil, or_false, Prod.mk.injEq] at m
    rcases m with ⟨rfl, rfl⟩
    · refine ⟨_, PySem.W.mg_of X G yp0, fun c B z => ⟨⟨hcl c B z, ?_, uhn, utk, ?_⟩, ?_⟩⟩ <;> rcases cmap_ins z with ⟨rfl, rfl⟩ | ⟨rfl, rfl⟩
      · exact uha0
      · exact uha1
      · exact uhm0
      · exact uhm1
      · exact yk0_0
      · exact yk0_1
theorem all_mk {l : PySem.W.OpenLaw} {w : World} {K : PySem.W.Frag} {h : Heap} {mg : Str → Option Value} {fa : Addr} {a0 a1 a2 a3 a4 a5 a6 a7 a8 a10 a11 a13 a14 a15 a16 a17 a18 a19 a20 a21 a22 a23 a24 a25 a26 a27 : Addr} {u0 u1 : Addr}
    (X : K.In h) (G : h.Ns mainGlobals mg) (hfa : mg "law" = some (.ref fa))
    {od0 an0 od1 an1 od2 an2 od3 an3 od4 an4 od5 an5 od6 an6 od7 an7 od8 an8 od10 an10 od11 an11 od13 an13 od14 an14 od15 an15 od16 an16 od17 an17 od18 an18 od19 an19 od20 an20 od21 an21 od22 an22 od23 an23 od24 an24 od25 an25 od26 an26 od27 an27 : Option Addr} {sl0 sl1 sl2 sl3 sl4 sl5 sl6 sl7 sl8 sl10 sl11 sl13 sl14 sl15 sl16 sl17 sl18 sl19 sl20 sl21 sl22 sl23 sl24 sl25 sl26 sl27 : Array (Option Value)} {oc0 kV0 dc0 pm0 cd0 ct0 oc1 kV1 dc1 pm1 cd1 ct1 oc2 kV2 dc2 pm2 cd2 ct2 oc3 kV3 dc3 pm3 cd3 ct3 oc4 kV4 dc4 pm4 cd4 ct4 oc5 kV5 dc5 pm5 cd5 ct5 oc6 kV6 dc6 pm6 cd6 ct6 oc7 kV7 dc7 pm7 cd7 ct7 oc8 kV8 dc8 pm8 cd8 ct8 oc10 kV10 dc10 pm10 cd10 ct10 oc11 kV11 dc11 pm11 cd11 ct11 oc13 kV13 dc13 pm13 cd13 ct13 oc14 kV14 dc14 pm14 cd14 ct14 oc15 kV15 dc15 pm15 cd15 ct15 oc16 kV16 dc16 pm16 cd16 ct16 oc17 kV17 dc17 pm17 cd17 ct17 oc18 kV18 dc18 pm18 cd18 ct18 oc19 kV19 dc19 pm19 cd19 ct19 oc20 kV20 dc20 pm20 cd20 ct20 oc21 kV21 dc21 pm21 cd21 ct21 oc22 kV22 dc22 pm22 cd22 ct22 oc23 kV23 dc23 pm23 cd23 ct23 oc24 kV24 dc24 pm24 cd24 ct24 oc25 kV25 dc25 pm25 cd25 ct25 oc26 kV26 dc26 pm26 cd26 ct26 oc27 kV27 dc27 pm27 cd27 ct27 : Value}
    (p0 : PySem.W.nsIn K mainGlobals "full" = some (some (.ref a0))) (l0 : K.lookup a0 = some ⟨oc0, od0, .func (PySem.W.fnOf "full" "full" (defArgs (top 1)) (defBody (top 1)) (defScope (top 1)) .none kV0 dc0 pm0 an0 cd0 ct0), sl0⟩) (q0 : PySem.W.codeIn K cd0 "full" = true) (k0 : PySem.W.keepIn K (.ref a0) = true)
    (p1 : PySem.W.nsIn K mainGlobals "counted" = some (some (.ref a1))) (l1 : K.lookup a1 = some ⟨oc1, od1, .func (PySem.W.fnOf "counted" "counted" (defArgs (top 2)) (defBody (top 2)) (defScope (top 2)) .none kV1 dc1 pm1 an1 cd1 ct1), sl1⟩) (q1 : PySem.W.codeIn K cd1 "counted" = true) (k1 : PySem.W.keepIn K (.ref a1) = true)
    (p2 : PySem.W.nsIn K mainGlobals "key" = some (some (.ref a2))) (l2 : K.lookup a2 = some ⟨oc2, od2, .func (PySem.W.fnOf "key" "key" (defArgs (top 3)) (defBody (top 3)) (defScope (top 3)) .none kV2 dc2 pm2 an2 cd2 ct2), sl2⟩) (q2 : PySem.W.codeIn K cd2 "key" = true) (k2 : PySem.W.keepIn K (.ref a2) = true)
    (p3 : PySem.W.nsIn K mainGlobals "least_key" = some (some (.ref a3))) (l3 : K.lookup a3 = some ⟨oc3, od3, .func (PySem.W.fnOf "least_key" "least_key" (defArgs (top 4)) (defBody (top 4)) (defScope (top 4)) .none kV3 dc3 pm3 an3 cd3 ct3), sl3⟩) (q3 : PySem.W.codeIn K cd3 "least_key" = true) (k3 : PySem.W.keepIn K (.ref a3) = true)
    (p4 : PySem.W.nsIn K mainGlobals "key_with" = some (some (.ref a4))) (l4 : K.lookup a4 = some ⟨oc4, od4, .func (PySem.W.fnOf "key_with" "key_with" (defArgs (top 5)) (defBody (top 5)) (defScope (top 5)) .none kV4 dc4 pm4 an4 cd4 ct4), sl4⟩) (q4 : PySem.W.codeIn K cd4 "key_with" = true) (k4 : PySem.W.keepIn K (.ref a4) = true)
    (p5 : PySem.W.nsIn K mainGlobals "ahead" = some (some (.ref a5))) (l5 : K.lookup a5 = some ⟨oc5, od5, .func (PySem.W.fnOf "ahead" "ahead" (defArgs (top 6)) (defBody (top 6)) (defScope (top 6)) .none kV5 dc5 pm5 an5 cd5 ct5), sl5⟩) (q5 : PySem.W.codeIn K cd5 "ahead" = true) (k5 : PySem.W.keepIn K (.ref a5) = true)
    (p6 : PySem.W.nsIn K mainGlobals "jokers_of" = some (some (.ref a6))) (l6 : K.lookup a6 = some ⟨oc6, od6, .func (PySem.W.fnOf "jokers_of" "jokers_of" (defArgs (top 7)) (defBody (top 7)) (defScope (top 7)) .none kV6 dc6 pm6 an6 cd6 ct6), sl6⟩) (q6 : PySem.W.codeIn K cd6 "jokers_of" = true) (k6 : PySem.W.keepIn K (.ref a6) = true)
    (p7 : PySem.W.nsIn K mainGlobals "greatest" = some (some (.ref a7))) (l7 : K.lookup a7 = some ⟨oc7, od7, .func (PySem.W.fnOf "greatest" "greatest" (defArgs (top 8)) (defBody (top 8)) (defScope (top 8)) .none kV7 dc7 pm7 an7 cd7 ct7), sl7⟩) (q7 : PySem.W.codeIn K cd7 "greatest" = true) (k7 : PySem.W.keepIn K (.ref a7) = true)
    (p14 : PySem.W.nsIn K mainGlobals "_law_number" = some (some (.ref a14))) (l14 : K.lookup a14 = some ⟨oc14, od14, .func (PySem.W.fnOf "_law_number" "_law_number" (defArgs (top 14)) (defBody (top 14)) (defScope (top 14)) .none kV14 dc14 pm14 an14 cd14 ct14), sl14⟩) (q14 : PySem.W.codeIn K cd14 "_law_number" = true) (k14 : PySem.W.keepIn K (.ref a14) = true)
    (p15 : PySem.W.nsIn K mainGlobals "_law_state" = some (some (.ref a15))) (l15 : K.lookup a15 = some ⟨oc15, od15, .func (PySem.W.fnOf "_law_state" "_law_state" (defArgs (top 15)) (defBody (top 15)) (defScope (top 15)) .none kV15 dc15 pm15 an15 cd15 ct15), sl15⟩) (q15 : PySem.W.codeIn K cd15 "_law_state" = true) (k15 : PySem.W.keepIn K (.ref a15) = true)
    (p16 : PySem.W.nsIn K mainGlobals "_law_mark" = some (some (.ref a16))) (l16 : K.lookup a16 = some ⟨oc16, od16, .func (PySem.W.fnOf "_law_mark" "_law_mark" (defArgs (top 16)) (defBody (top 16)) (defScope (top 16)) .none kV16 dc16 pm16 an16 cd16 ct16), sl16⟩) (q16 : PySem.W.codeIn K cd16 "_law_mark" = true) (k16 : PySem.W.keepIn K (.ref a16) = true)
    (p17 : PySem.W.nsIn K mainGlobals "_law_scores" = some (some (.ref a17))) (l17 : K.lookup a17 = some ⟨oc17, od17, .func (PySem.W.fnOf "_law_scores" "_law_scores" (defArgs (top 17)) (defBody (top 17)) (defScope (top 17)) .none kV17 dc17 pm17 an17 cd17 ct17), sl17⟩) (q17 : PySem.W.codeIn K cd17 "_law_scores" = true) (k17 : PySem.W.keepIn K (.ref a17) = true)
    (p18 : PySem.W.nsIn K mainGlobals "_law_has" = some (some (.ref a18))) (l18 : K.lookup a18 = some ⟨oc18, od18, .func (PySem.W.fnOf "_law_has" "_law_has" (defArgs (top 18)) (defBody (top 18)) (defScope (top 18)) .none kV18 dc18 pm18 an18 cd18 ct18), sl18⟩) (q18 : PySem.W.codeIn K cd18 "_law_has" = true) (k18 : PySem.W.keepIn K (.ref a18) = true)
    (p19 : PySem.W.nsIn K mainGlobals "_law_ahead" = some (some (.ref a19))) (l19 : K.lookup a19 = some ⟨oc19, od19, .func (PySem.W.fnOf "_law_ahead" "_law_ahead" (defArgs (top 19)) (defBody (top 19)) (defScope (top 19)) .none kV19 dc19 pm19 an19 cd19 ct19), sl19⟩) (q19 : PySem.W.codeIn K cd19 "_law_ahead" = true) (k19 : PySem.W.keepIn K (.ref a19) = true)
    (p20 : PySem.W.nsIn K mainGlobals "_law_jokers" = some (some (.ref a20))) (l20 : K.lookup a20 = some ⟨oc20, od20, .func (PySem.W.fnOf "_law_jokers" "_law_jokers" (defArgs (top 20)) (defBody (top 20)) (defScope (top 20)) .none kV20 dc20 pm20 an20 cd20 ct20), sl20⟩) (q20 : PySem.W.codeIn K cd20 "_law_jokers" = true) (k20 : PySem.W.keepIn K (.ref a20) = true)
    (p21 : PySem.W.nsIn K mainGlobals "_law_full" = some (some (.ref a21))) (l21 : K.lookup a21 = some ⟨oc21, od21, .func (PySem.W.fnOf "_law_full" "_law_full" (defArgs (top 21)) (defBody (top 21)) (defScope (top 21)) .none kV21 dc21 pm21 an21 cd21 ct21), sl21⟩) (q21 : PySem.W.codeIn K cd21 "_law_full" = true) (k21 : PySem.W.keepIn K (.ref a21) = true)
    (p22 : PySem.W.nsIn K mainGlobals "_law_best" = some (some (.ref a22))) (l22 : K.lookup a22 = some ⟨oc22, od22, .func (PySem.W.fnOf "_law_best" "_law_best" (defArgs (top 22)) (defBody (top 22)) (defScope (top 22)) .none kV22 dc22 pm22 an22 cd22 ct22), sl22⟩) (q22 : PySem.W.codeIn K cd22 "_law_best" = true) (k22 : PySem.W.keepIn K (.ref a22) = true)
    (p23 : PySem.W.nsIn K mainGlobals "_law_top" = some (some (.ref a23))) (l23 : K.lookup a23 = some ⟨oc23, od23, .func (PySem.W.fnOf "_law_top" "_law_top" (defArgs (top 23)) (defBody (top 23)) (defScope (top 23)) .none kV23 dc23 pm23 an23 cd23 ct23), sl23⟩) (q23 : PySem.W.codeIn K cd23 "_law_top" = true) (k23 : PySem.W.keepIn K (.ref a23) = true)
    (p24 : PySem.W.nsIn K mainGlobals "_law_behind" = some (some (.ref a24))) (l24 : K.lookup a24 = some ⟨oc24, od24, .func (PySem.W.fnOf "_law_behind" "_law_behind" (defArgs (top 24)) (defBody (top 24)) (defScope (top 24)) .none kV24 dc24 pm24 an24 cd24 ct24), sl24⟩) (q24 : PySem.W.codeIn K cd24 "_law_behind" = true) (k24 : PySem.W.keepIn K (.ref a24) = true)
    (p25 : PySem.W.nsIn K mainGlobals "_law_says" = some (some (.ref a25))) (l25 : K.lookup a25 = some ⟨oc25, od25, .func (PySem.W.fnOf "_law_says" "_law_says" (defArgs (top 25)) (defBody (top 25)) (defScope (top 25)) .none kV25 dc25 pm25 an25 cd25 ct25), sl25⟩) (q25 : PySem.W.codeIn K cd25 "_law_says" = true) (k25 : PySem.W.keepIn K (.ref a25) = true)
    (p26 : PySem.W.nsIn K mainGlobals "_law_top_right" = some (some (.ref a26))) (l26 : K.lookup a26 = some ⟨oc26, od26, .func (PySem.W.fnOf "_law_top_right" "_law_top_right" (defArgs (top 26)) (defBody (top 26)) (defScope (top 26)) .none kV26 dc26 pm26 an26 cd26 ct26), sl26⟩) (q26 : PySem.W.codeIn K cd26 "_law_top_right" = true) (k26 : PySem.W.keepIn K (.ref a26) = true)
    (p27 : PySem.W.nsIn K mainGlobals "law" = some (some (.ref a27))) (l27 : K.lookup a27 = some ⟨oc27, od27, .func (PySem.W.fnOf "law" "law" (defArgs (top 27)) (defBody (top 27)) (defScope (top 27)) .none kV27 dc27 pm27 an27 cd27 ct27), sl27⟩) (q27 : PySem.W.codeIn K cd27 "law" = true) (k27 : PySem.W.keepIn K (.ref a27) = true)
    (b0 : PySem.W.nsIn K mainGlobals "len" = some none)
    (b1 : PySem.W.nsIn K mainGlobals "sum" = some none)
    (b2 : PySem.W.nsIn K mainGlobals "sorted" = some none)
    (b3 : PySem.W.nsIn K mainGlobals "max" = some none)
    (b4 : PySem.W.nsIn K mainGlobals "min" = some none)
    (b5 : PySem.W.nsIn K mainGlobals "abs" = some none)
    (b6 : PySem.W.nsIn K mainGlobals "int" = some none)
    (b7 : PySem.W.nsIn K mainGlobals "list" = some none)
    (b8 : PySem.W.nsIn K mainGlobals "all" = some none)
    (b9 : PySem.W.nsIn K mainGlobals "any" = some none)
    (b10 : PySem.W.nsIn K mainGlobals "isinstance" = some none)
    (b11 : PySem.W.nsIn K mainGlobals "range" = some none)
    (b12 : PySem.W.nsIn K mainGlobals "enumerate" = some none)
    (b13 : PySem.W.nsIn K mainGlobals "zip" = some none)
    (b14 : PySem.W.nsIn K mainGlobals "bool" = some none)
    (b15 : PySem.W.nsIn K mainGlobals "tuple" = some none)
    (b16 : PySem.W.nsIn K mainGlobals "str" = some none)
    (up0 : PySem.W.nsIn K mainGlobals "Top" = some (some (.ref u0))) (upg0 : PySem.W.plainGet K u0 Str.empty = true) (uhd0 : PySem.W.hasDictIn K u0 = true) (upo0 : PySem.W.plainOver K u0 = true) (usa0 : PySem.W.findIn K (.ref u0) "__setattr__" = some (some (.builtin "object.__setattr__")))
    (una0_0 : PySem.W.findIn K (.ref u0) "joker" = some none)
    (una0_1 : PySem.W.findIn K (.ref u0) "marks" = some none)
    (una0_2 : PySem.W.findIn K (.ref u0) "other" = some none)
    (uha0 : PySem.W.findIn K (.ref u0) "__class__" = some (some (.builtin "object.__class__"))) (uhm0 : PySem.W.mroIn K u0 (.type "object") = some true)
    (up1 : PySem.W.nsIn K mainGlobals "Behind" = some (some (.ref u1))) (upg1 : PySem.W.plainGet K u1 Str.empty = true) (uhd1 : PySem.W.hasDictIn K u1 = true) (upo1 : PySem.W.plainOver K u1 = true) (usa1 : PySem.W.findIn K (.ref u1) "__setattr__" = some (some (.builtin "object.__setattr__")))
    (una1_0 : PySem.W.findIn K (.ref u1) "joker" = some none)
    (una1_1 : PySem.W.findIn K (.ref u1) "marks" = some none)
    (una1_2 : PySem.W.findIn K (.ref u1) "other" = some none)
    (uha1 : PySem.W.findIn K (.ref u1) "__class__" = some (some (.builtin "object.__class__"))) (uhm1 : PySem.W.mroIn K u1 (.type "object") = some true)
    (uhn : PySem.W.specialIn K (.builtin "object.__class__") "__get__" = some (some (.builtin "getset_descriptor.__get__"))) (utk : PySem.W.takesIn K (.builtin "object.__class__") = some true)
    {y0 : Addr}
    (yp0 : PySem.W.nsIn K mainGlobals "Answer" = some (some (.ref y0)))
    (yk0_0 : PySem.W.kitOne K (.ref u0) (.ref y0) = some true)
    (yk0_1 : PySem.W.kitOne K (.ref u1) (.ref y0) = some true)
    (p8 : PySem.W.findIn K (.ref u0) "__init__" = some (some (.ref a8))) (l8 : K.lookup a8 = some ⟨oc8, od8, .func (PySem.W.fnOf "__init__" "Top.__init__" (defArgs (inClass (top 11) 0)) (defBody (inClass (top 11) 0)) (defScope (inClass (top 11) 0)) .none kV8 dc8 pm8 an8 cd8 ct8), sl8⟩) (q8 : PySem.W.codeIn K cd8 "Top.__init__" = true) (k8 : PySem.W.keepIn K (.ref a8) = true) (fq8 : PySem.W.isFn K (.ref a8) = true) (mm8 : PySem.W.makesIn K u0 = true) (mk8 : PySem.W.keepIn K (.ref u0) = true)
    (p10 : PySem.W.findIn K (.ref u0) "shows" = some (some (.ref a10))) (l10 : K.lookup a10 = some ⟨oc10, od10, .func (PySem.W.fnOf "shows" "Top.shows" (defArgs (inClass (top 11) 1)) (defBody (inClass (top 11) 1)) (defScope (inClass (top 11) 1)) .none kV10 dc10 pm10 an10 cd10 ct10), sl10⟩) (q10 : PySem.W.codeIn K cd10 "Top.shows" = true) (k10 : PySem.W.keepIn K (.ref a10) = true) (fq10 : PySem.W.isFn K (.ref a10) = true)
    (p11 : PySem.W.findIn K (.ref u1) "__init__" = some (some (.ref a11))) (l11 : K.lookup a11 = some ⟨oc11, od11, .func (PySem.W.fnOf "__init__" "Behind.__init__" (defArgs (inClass (top 12) 0)) (defBody (inClass (top 12) 0)) (defScope (inClass (top 12) 0)) .none kV11 dc11 pm11 an11 cd11 ct11), sl11⟩) (q11 : PySem.W.codeIn K cd11 "Behind.__init__" = true) (k11 : PySem.W.keepIn K (.ref a11) = true) (fq11 : PySem.W.isFn K (.ref a11) = true) (mm11 : PySem.W.makesIn K u1 = true) (mk11 : PySem.W.keepIn K (.ref u1) = true)
    (p13 : PySem.W.findIn K (.ref u1) "shows" = some (some (.ref a13))) (l13 : K.lookup a13 = some ⟨oc13, od13, .func (PySem.W.fnOf "shows" "Behind.shows" (defArgs (inClass (top 12) 1)) (defBody (inClass (top 12) 1)) (defScope (inClass (top 12) 1)) .none kV13 dc13 pm13 an13 cd13 ct13), sl13⟩) (q13 : PySem.W.codeIn K cd13 "Behind.shows" = true) (k13 : PySem.W.keepIn K (.ref a13) = true) (fq13 : PySem.W.isFn K (.ref a13) = true)
    : ∃ fd : FuncData, (∀ (s : Shared) (v : Value), BindsTo s fd ⟨[v], []⟩ [("_law_script", v)]) ∧ ∀ base : Heap, K.In base → base.Ns mainGlobals mg → FnOk l.prog w K mg base (L2.CX l.prog w) 28 fa fd ["_law_script"] (spD (cmap u0 u1) 1 f27 0) := by
  obtain rfl : a27 = fa := by
    have e := (PySem.W.mg_of X G p27).symm.trans hfa
    injection e with e
    injection e
  have F0 := fun_mk (st := (top 1)) l0 q0 k0
  have A0 : At K mg "full" (top 1) ["state", "at"] a0 _ := ⟨F0, PySem.W.mg_of X G p0, F0.binds fun _ _ _ _ _ _ us hl => match us, hl with | [_, _], _ => rfl⟩
  have F1 := fun_mk (st := (top 2)) l1 q1 k1
  have A1 : At K mg "counted" (top 2) ["state", "at", "sheet"] a1 _ := ⟨F1, PySem.W.mg_of X G p1, F1.binds fun _ _ _ _ _ _ us hl => match us, hl with | [_, _, _], _ => rfl⟩
  have F2 := fun_mk (st := (top 3)) l2 q2 k2
  have A2 : At K mg "key" (top 3) ["scores"] a2 _ := ⟨F2, PySem.W.mg_of X G p2, F2.binds fun _ _ _ _ _ _ us hl => match us, hl with | [_], _ => rfl⟩
  have F3 := fun_mk (st := (top 4)) l3 q3 k3
  have A3 : At K mg "least_key" (top 4) ["state", "table"] a3 _ := ⟨F3, PySem.W.mg_of X G p3, F3.binds fun _ _ _ _ _ _ us hl => match us, hl with | [_, _], _ => rfl⟩
  have F4 := fun_mk (st := (top 5)) l4 q4 k4
  have A4 : At K mg "key_with" (top 5) ["state", "table", "joker", "marks"] a4 _ := ⟨F4, PySem.W.mg_of X G p4, F4.binds fun _ _ _ _ _ _ us hl => match us, hl with | [_, _, _, _], _ => rfl⟩
  have F5 := fun_mk (st := (top 6)) l5 q5 k5
  have A5 : At K mg "ahead" (top 6) ["one", "mine", "other", "theirs"] a5 _ := ⟨F5, PySem.W.mg_of X G p5, F5.binds fun _ _ _ _ _ _ us hl => match us, hl with | [_, _, _, _], _ => rfl⟩
  have F6 := fun_mk (st := (top 7)) l6 q6 k6
  have A6 : At K mg "jokers_of" (top 7) ["state", "table"] a6 _ := ⟨F6, PySem.W.mg_of X G p6, F6.binds fun _ _ _ _ _ _ us hl => match us, hl with | [_, _], _ => rfl⟩
  have F7 := fun_mk (st := (top 8)) l7 q7 k7
  have A7 : At K mg "greatest" (top 8) ["state", "table"] a7 _ := ⟨F7, PySem.W.mg_of X G p7, F7.binds fun _ _ _ _ _ _ us hl => match us, hl with | [_, _], _ => rfl⟩
  have F8 := fun_mk (st := (inClass (top 11) 0)) l8 q8 k8
  have B8 : Binds K _ ["self", "joker", "marks"] [] := F8.binds fun _ _ _ _ _ _ us hl => match us, hl with | [_, _, _], _ => rfl
  have V8 : Mk K u0 a8 := ⟨mm8, p8, fq8, mk8⟩
  have F10 := fun_mk (st := (inClass (top 11) 1)) l10 q10 k10
  have B10 : Binds K _ ["self", "state", "table"] [] := F10.binds fun _ _ _ _ _ _ us hl => match us, hl with | [_, _, _], _ => rfl
  have V10 : Meth K u0 "shows" a10 := ⟨p10, fq10, k10⟩
  have F11 := fun_mk (st := (inClass (top 12) 0)) l11 q11 k11
  have B11 : Binds K _ ["self", "other"] [] := F11.binds fun _ _ _ _ _ _ us hl => match us, hl with | [_, _], _ => rfl
  have V11 : Mk K u1 a11 := ⟨mm11, p11, fq11, mk11⟩
  have F13 := fun_mk (st := (inClass (top 12) 1)) l13 q13 k13
  have B13 : Binds K _ ["self", "state", "table"] [] := F13.binds fun _ _ _ _ _ _ us hl => match us, hl with | [_, _, _], _ => rfl
  have V13 : Meth K u1 "shows" a13 := ⟨p13, fq13, k13⟩
  have F14 := fun_mk (st := (top 14)) l14 q14 k14
  have A14 : At K mg "_law_number" (top 14) ["_law_cell", "_law_at", "_law_whole"] a14 _ := ⟨F14, PySem.W.mg_of X G p14, F14.binds fun _ _ _ _ _ _ us hl => match us, hl with | [_, _, _], _ => rfl⟩
  have F15 := fun_mk (st := (top 15)) l15 q15 k15
  have A15 : At K mg "_law_state" (top 15) ["_law_script", "_law_by"] a15 _ := ⟨F15, PySem.W.mg_of X G p15, F15.binds fun _ _ _ _ _ _ us hl => match us, hl with | [_, _], _ => rfl⟩
  have F16 := fun_mk (st := (top 16)) l16 q16 k16
  have A16 : At K mg "_law_mark" (top 16) ["_law_state_here", "_law_at", "_law_sheet"] a16 _ := ⟨F16, PySem.W.mg_of X G p16, F16.binds fun _ _ _ _ _ _ us hl => match us, hl with | [_, _, _], _ => rfl⟩
  have F17 := fun_mk (st := (top 17)) l17 q17 k17
  have A17 : At K mg "_law_scores" (top 17) ["_law_state_here", "_law_table", "_law_joker", "_law_marks"] a17 _ := ⟨F17, PySem.W.mg_of X G p17, F17.binds fun _ _ _ _ _ _ us hl => match us, hl with | [_, _, _, _], _ => rfl⟩
  have F18 := fun_mk (st := (top 18)) l18 q18 k18
  have A18 : At K mg "_law_has" (top 18) ["_law_state_here", "_law_table"] a18 _ := ⟨F18, PySem.W.mg_of X G p18, F18.binds fun _ _ _ _ _ _ us hl => match us, hl with | [_, _], _ => rfl⟩
  have F19 := fun_mk (st := (top 19)) l19 q19 k19
  have A19 : At K mg "_law_ahead" (top 19) ["_law_one", "_law_mine", "_law_other", "_law_theirs"] a19 _ := ⟨F19, PySem.W.mg_of X G p19, F19.binds fun _ _ _ _ _ _ us hl => match us, hl with | [_, _, _, _], _ => rfl⟩
  have F20 := fun_mk (st := (top 20)) l20 q20 k20
  have A20 : At K mg "_law_jokers" (top 20) ["_law_state_here", "_law_table"] a20 _ := ⟨F20, PySem.W.mg_of X G p20, F20.binds fun _ _ _ _ _ _ us hl => match us, hl with | [_, _], _ => rfl⟩
  have F21 := fun_mk (st := (top 21)) l21 q21 k21
  have A21 : At K mg "_law_full" (top 21) ["_law_state_here", "_law_table"] a21 _ := ⟨F21, PySem.W.mg_of X G p21, F21.binds fun _ _ _ _ _ _ us hl => match us, hl with | [_, _], _ => rfl⟩
  have F22 := fun_mk (st := (top 22)) l22 q22 k22
  have A22 : At K mg "_law_best" (top 22) ["_law_state_here", "_law_table"] a22 _ := ⟨F22, PySem.W.mg_of X G p22, F22.binds fun _ _ _ _ _ _ us hl => match us, hl with | [_, _], _ => rfl⟩
  have F23 := fun_mk (st := (top 23)) l23 q23 k23
  have A23 : At K mg "_law_top" (top 23) ["_law_state_here", "_law_table", "_law_joker", "_law_marks"] a23 _ := ⟨F23, PySem.W.mg_of X G p23, F23.binds fun _ _ _ _ _ _ us hl => match us, hl with | [_, _, _, _], _ => rfl⟩
  have F24 := fun_mk (st := (top 24)) l24 q24 k24
  have A24 : At K mg "_law_behind" (top 24) ["_law_state_here", "_law_table", "_law_other"] a24 _ := ⟨F24, PySem.W.mg_of X G p24, F24.binds fun _ _ _ _ _ _ us hl => match us, hl with | [_, _, _], _ => rfl⟩
  have F25 := fun_mk (st := (top 25)) l25 q25 k25
  have A25 : At K mg "_law_says" (top 25) ["_law_said", "_law_due"] a25 _ := ⟨F25, PySem.W.mg_of X G p25, F25.binds fun _ _ _ _ _ _ us hl => match us, hl with | [_, _], _ => rfl⟩
  have F26 := fun_mk (st := (top 26)) l26 q26 k26
  have A26 : At K mg "_law_top_right" (top 26) ["_law_state_here", "_law_table", "_law_joker", "_law_marks"] a26 _ := ⟨F26, PySem.W.mg_of X G p26, F26.binds fun _ _ _ _ _ _ us hl => match us, hl with | [_, _, _, _], _ => rfl⟩
  have F27 := fun_mk (st := (top 27)) l27 q27 k27
  have A27 : At K mg "law" (top 27) ["_law_script"] a27 _ := ⟨F27, PySem.W.mg_of X G p27, F27.binds fun _ _ _ _ _ _ us hl => match us, hl with | [_], _ => rfl⟩
  exact ⟨PySem.W.fnOf "law" "law" (defArgs (top 27)) (defBody (top 27)) (defScope (top 27)) .none kV27 dc27 pm27 an27 cd27 ct27, fun s v => .of_eq rfl, fun base _ _ => chain (mod_mk X G b0 b1 b2 b3 b4 b5 b6 b7 b8 b9 b10 b11 b12 b13 b14 b15 b16 up0 upg0 uhd0 upo0 usa0 una0_0 una0_1 una0_2 uha0 uhm0 up1 upg1 uhd1 upo1 usa1 una1_0 una1_1 una1_2 uha1 uhm1 uhn utk yp0 yk0_0 yk0_1) A0 A1 A2 A3 A4 A5 A6 A7 F8 B8 V8 F10 B10 V10 F11 B11 V11 F13 B13 V13 A14 A15 A16 A17 A18 A19 A20 A21 A22 A23 A24 A25 A26 A27 (by rfl) ⟨upg0, uhd0, upo0, usa0⟩ (PySem.W.mg_of X G up0) (by rfl) ⟨upg1, uhd1, upo1, usa1⟩ (PySem.W.mg_of X G up1)⟩
end K04

set_option Elab.async false
set_option linter.all false
set_option maxRecDepth 100000
set_option maxHeartbeats 4000000
namespace K04
open PySem PyProof.Rows L2 Dz
def spLaw (K : PySem.W.Frag) : Sp := fun vs H Q _ => ∃ (a : Addr) (ns : List Int), vs = [.ref a] ∧ SqL K H a (ns.map V.int) ∧ ns.length ≤ 63 ∧ ∀ H', Q (.bl true) H'
theorem law_ok {P : Program} {w : World} {K : PySem.W.Frag} {mg : Str → Option Value} {base : Heap} {CA : Cmap} {fa : Addr} {fd : FuncData} (hK : noLists K = true) (F : FnOk P w K mg base (L2.CX P w) 28 fa fd ["_law_script"] (spD CA 1 f27 0)) : FnOk P w K mg base (L2.CX P w) 28 fa fd ["_law_script"] (spLaw K) := by
  refine F.imp fun vs H Q E ⟨a, ns, e, hS, hl, k⟩ => ?_
  subst e
  obtain ⟨s, hs⟩ := main ns hl
  refine ⟨none0, [.list (ns.map PyData.int)], .ok (.bool true), s, none0_sub H, .cons (rp_list.mpr ⟨a, ns.map V.int, rfl, by rw [off_none]; exact noLists_rd hK hS, RpAll.ints.mpr rfl⟩) .nil, rfl, hs, fun v H' _ q => ?_⟩
  rw [rp_bool.mp (q.rp (none0_sub H))]
  exact k H'
theorem all_ok {l : PySem.W.OpenLaw} {w : World} {K : PySem.W.Frag} {h : Heap} {mg : Str → Option Value} {fa : Addr} {a0 a1 a2 a3 a4 a5 a6 a7 a8 a10 a11 a13 a14 a15 a16 a17 a18 a19 a20 a21 a22 a23 a24 a25 a26 a27 : Addr} {u0 u1 : Addr}
    (X : K.In h) (G : h.Ns mainGlobals mg) (hfa : mg "law" = some (.ref fa)) (hK : noLists K = true)
    {od0 an0 od1 an1 od2 an2 od3 an3 od4 an4 od5 an5 od6 an6 od7 an7 od8 an8 od10 an10 od11 an11 od13 an13 od14 an14 od15 an15 od16 an16 od17 an17 od18 an18 od19 an19 od20 an20 od21 an21 od22 an22 od23 an23 od24 an24 od25 an25 od26 an26 od27 an27 : Option Addr} {sl0 sl1 sl2 sl3 sl4 sl5 sl6 sl7 sl8 sl10 sl11 sl13 sl14 sl15 sl16 sl17 sl18 sl19 sl20 sl21 sl22 sl23 sl24 sl25 sl26 sl27 : Array (Option Value)} {oc0 kV0 dc0 pm0 cd0 ct0 oc1 kV1 dc1 pm1 cd1 ct1 oc2 kV2 dc2 pm2 cd2 ct2 oc3 kV3 dc3 pm3 cd3 ct3 oc4 kV4 dc4 pm4 cd4 ct4 oc5 kV5 dc5 pm5 cd5 ct5 oc6 kV6 dc6 pm6 cd6 ct6 oc7 kV7 dc7 pm7 cd7 ct7 oc8 kV8 dc8 pm8 cd8 ct8 oc10 kV10 dc10 pm10 cd10 ct10 oc11 kV11 dc11 pm11 cd11 ct11 oc13 kV13 dc13 pm13 cd13 ct13 oc14 kV14 dc14 pm14 cd14 ct14 oc15 kV15 dc15 pm15 cd15 ct15 oc16 kV16 dc16 pm16 cd16 ct16 oc17 kV17 dc17 pm17 cd17 ct17 oc18 kV18 dc18 pm18 cd18 ct18 oc19 kV19 dc19 pm19 cd19 ct19 oc20 kV20 dc20 pm20 cd20 ct20 oc21 kV21 dc21 pm21 cd21 ct21 oc22 kV22 dc22 pm22 cd22 ct22 oc23 kV23 dc23 pm23 cd23 ct23 oc24 kV24 dc24 pm24 cd24 ct24 oc25 kV25 dc25 pm25 cd25 ct25 oc26 kV26 dc26 pm26 cd26 ct26 oc27 kV27 dc27 pm27 cd27 ct27 : Value}
    (p0 : PySem.W.nsIn K mainGlobals "full" = some (some (.ref a0))) (l0 : K.lookup a0 = some ⟨oc0, od0, .func (PySem.W.fnOf "full" "full" (defArgs (top 1)) (defBody (top 1)) (defScope (top 1)) .none kV0 dc0 pm0 an0 cd0 ct0), sl0⟩) (q0 : PySem.W.codeIn K cd0 "full" = true) (k0 : PySem.W.keepIn K (.ref a0) = true)
    (p1 : PySem.W.nsIn K mainGlobals "counted" = some (some (.ref a1))) (l1 : K.lookup a1 = some ⟨oc1, od1, .func (PySem.W.fnOf "counted" "counted" (defArgs (top 2)) (defBody (top 2)) (defScope (top 2)) .none kV1 dc1 pm1 an1 cd1 ct1), sl1⟩) (q1 : PySem.W.codeIn K cd1 "counted" = true) (k1 : PySem.W.keepIn K (.ref a1) = true)
    (p2 : PySem.W.nsIn K mainGlobals "key" = some (some (.ref a2))) (l2 : K.lookup a2 = some ⟨oc2, od2, .func (PySem.W.fnOf "key" "key" (defArgs (top 3)) (defBody (top 3)) (defScope (top 3)) .none kV2 dc2 pm2 an2 cd2 ct2), sl2⟩) (q2 : PySem.W.codeIn K cd2 "key" = true) (k2 : PySem.W.keepIn K (.ref a2) = true)
    (p3 : PySem.W.nsIn K mainGlobals "least_key" = some (some (.ref a3))) (l3 : K.lookup a3 = some ⟨oc3, od3, .func (PySem.W.fnOf "least_key" "least_key" (defArgs (top 4)) (defBody (top 4)) (defScope (top 4)) .none kV3 dc3 pm3 an3 cd3 ct3), sl3⟩) (q3 : PySem.W.codeIn K cd3 "least_key" = true) (k3 : PySem.W.keepIn K (.ref a3) = true)
    (p4 : PySem.W.nsIn K mainGlobals "key_with" = some (some (.ref a4))) (l4 : K.lookup a4 = some ⟨oc4, od4, .func (PySem.W.fnOf "key_with" "key_with" (defArgs (top 5)) (defBody (top 5)) (defScope (top 5)) .none kV4 dc4 pm4 an4 cd4 ct4), sl4⟩) (q4 : PySem.W.codeIn K cd4 "key_with" = true) (k4 : PySem.W.keepIn K (.ref a4) = true)
    (p5 : PySem.W.nsIn K mainGlobals "ahead" = some (some (.ref a5))) (l5 : K.lookup a5 = some ⟨oc5, od5, .func (PySem.W.fnOf "ahead" "ahead" (defArgs (top 6)) (defBody (top 6)) (defScope (top 6)) .none kV5 dc5 pm5 an5 cd5 ct5), sl5⟩) (q5 : PySem.W.codeIn K cd5 "ahead" = true) (k5 : PySem.W.keepIn K (.ref a5) = true)
    (p6 : PySem.W.nsIn K mainGlobals "jokers_of" = some (some (.ref a6))) (l6 : K.lookup a6 = some ⟨oc6, od6, .func (PySem.W.fnOf "jokers_of" "jokers_of" (defArgs (top 7)) (defBody (top 7)) (defScope (top 7)) .none kV6 dc6 pm6 an6 cd6 ct6), sl6⟩) (q6 : PySem.W.codeIn K cd6 "jokers_of" = true) (k6 : PySem.W.keepIn K (.ref a6) = true)
    (p7 : PySem.W.nsIn K mainGlobals "greatest" = some (some (.ref a7))) (l7 : K.lookup a7 = some ⟨oc7, od7, .func (PySem.W.fnOf "greatest" "greatest" (defArgs (top 8)) (defBody (top 8)) (defScope (top 8)) .none kV7 dc7 pm7 an7 cd7 ct7), sl7⟩) (q7 : PySem.W.codeIn K cd7 "greatest" = true) (k7 : PySem.W.keepIn K (.ref a7) = true)
    (p14 : PySem.W.nsIn K mainGlobals "_law_number" = some (some (.ref a14))) (l14 : K.lookup a14 = some ⟨oc14, od14, .func (PySem.W.fnOf "_law_number" "_law_number" (defArgs (top 14)) (defBody (top 14)) (defScope (top 14)) .none kV14 dc14 pm14 an14 cd14 ct14), sl14⟩) (q14 : PySem.W.codeIn K cd14 "_law_number" = true) (k14 : PySem.W.keepIn K (.ref a14) = true)
    (p15 : PySem.W.nsIn K mainGlobals "_law_state" = some (some (.ref a15))) (l15 : K.lookup a15 = some ⟨oc15, od15, .func (PySem.W.fnOf "_law_state" "_law_state" (defArgs (top 15)) (defBody (top 15)) (defScope (top 15)) .none kV15 dc15 pm15 an15 cd15 ct15), sl15⟩) (q15 : PySem.W.codeIn K cd15 "_law_state" = true) (k15 : PySem.W.keepIn K (.ref a15) = true)
    (p16 : PySem.W.nsIn K mainGlobals "_law_mark" = some (some (.ref a16))) (l16 : K.lookup a16 = some ⟨oc16, od16, .func (PySem.W.fnOf "_law_mark" "_law_mark" (defArgs (top 16)) (defBody (top 16)) (defScope (top 16)) .none kV16 dc16 pm16 an16 cd16 ct16), sl16⟩) (q16 : PySem.W.codeIn K cd16 "_law_mark" = true) (k16 : PySem.W.keepIn K (.ref a16) = true)
    (p17 : PySem.W.nsIn K mainGlobals "_law_scores" = some (some (.ref a17))) (l17 : K.lookup a17 = some ⟨oc17, od17, .func (PySem.W.fnOf "_law_scores" "_law_scores" (defArgs (top 17)) (defBody (top 17)) (defScope (top 17)) .none kV17 dc17 pm17 an17 cd17 ct17), sl17⟩) (q17 : PySem.W.codeIn K cd17 "_law_scores" = true) (k17 : PySem.W.keepIn K (.ref a17) = true)
    (p18 : PySem.W.nsIn K mainGlobals "_law_has" = some (some (.ref a18))) (l18 : K.lookup a18 = some ⟨oc18, od18, .func (PySem.W.fnOf "_law_has" "_law_has" (defArgs (top 18)) (defBody (top 18)) (defScope (top 18)) .none kV18 dc18 pm18 an18 cd18 ct18), sl18⟩) (q18 : PySem.W.codeIn K cd18 "_law_has" = true) (k18 : PySem.W.keepIn K (.ref a18) = true)
    (p19 : PySem.W.nsIn K mainGlobals "_law_ahead" = some (some (.ref a19))) (l19 : K.lookup a19 = some ⟨oc19, od19, .func (PySem.W.fnOf "_law_ahead" "_law_ahead" (defArgs (top 19)) (defBody (top 19)) (defScope (top 19)) .none kV19 dc19 pm19 an19 cd19 ct19), sl19⟩) (q19 : PySem.W.codeIn K cd19 "_law_ahead" = true) (k19 : PySem.W.keepIn K (.ref a19) = true)
    (p20 : PySem.W.nsIn K mainGlobals "_law_jokers" = some (some (.ref a20))) (l20 : K.lookup a20 = some ⟨oc20, od20, .func (PySem.W.fnOf "_law_jokers" "_law_jokers" (defArgs (top 20)) (defBody (top 20)) (defScope (top 20)) .none kV20 dc20 pm20 an20 cd20 ct20), sl20⟩) (q20 : PySem.W.codeIn K cd20 "_law_jokers" = true) (k20 : PySem.W.keepIn K (.ref a20) = true)
    (p21 : PySem.W.nsIn K mainGlobals "_law_full" = some (some (.ref a21))) (l21 : K.lookup a21 = some ⟨oc21, od21, .func (PySem.W.fnOf "_law_full" "_law_full" (defArgs (top 21)) (defBody (top 21)) (defScope (top 21)) .none kV21 dc21 pm21 an21 cd21 ct21), sl21⟩) (q21 : PySem.W.codeIn K cd21 "_law_full" = true) (k21 : PySem.W.keepIn K (.ref a21) = true)
    (p22 : PySem.W.nsIn K mainGlobals "_law_best" = some (some (.ref a22))) (l22 : K.lookup a22 = some ⟨oc22, od22, .func (PySem.W.fnOf "_law_best" "_law_best" (defArgs (top 22)) (defBody (top 22)) (defScope (top 22)) .none kV22 dc22 pm22 an22 cd22 ct22), sl22⟩) (q22 : PySem.W.codeIn K cd22 "_law_best" = true) (k22 : PySem.W.keepIn K (.ref a22) = true)
    (p23 : PySem.W.nsIn K mainGlobals "_law_top" = some (some (.ref a23))) (l23 : K.lookup a23 = some ⟨oc23, od23, .func (PySem.W.fnOf "_law_top" "_law_top" (defArgs (top 23)) (defBody (top 23)) (defScope (top 23)) .none kV23 dc23 pm23 an23 cd23 ct23), sl23⟩) (q23 : PySem.W.codeIn K cd23 "_law_top" = true) (k23 : PySem.W.keepIn K (.ref a23) = true)
    (p24 : PySem.W.nsIn K mainGlobals "_law_behind" = some (some (.ref a24))) (l24 : K.lookup a24 = some ⟨oc24, od24, .func (PySem.W.fnOf "_law_behind" "_law_behind" (defArgs (top 24)) (defBody (top 24)) (defScope (top 24)) .none kV24 dc24 pm24 an24 cd24 ct24), sl24⟩) (q24 : PySem.W.codeIn K cd24 "_law_behind" = true) (k24 : PySem.W.keepIn K (.ref a24) = true)
    (p25 : PySem.W.nsIn K mainGlobals "_law_says" = some (some (.ref a25))) (l25 : K.lookup a25 = some ⟨oc25, od25, .func (PySem.W.fnOf "_law_says" "_law_says" (defArgs (top 25)) (defBody (top 25)) (defScope (top 25)) .none kV25 dc25 pm25 an25 cd25 ct25), sl25⟩) (q25 : PySem.W.codeIn K cd25 "_law_says" = true) (k25 : PySem.W.keepIn K (.ref a25) = true)
    (p26 : PySem.W.nsIn K mainGlobals "_law_top_right" = some (some (.ref a26))) (l26 : K.lookup a26 = some ⟨oc26, od26, .func (PySem.W.fnOf "_law_top_right" "_law_top_right" (defArgs (top 26)) (defBody (top 26)) (defScope (top 26)) .none kV26 dc26 pm26 an26 cd26 ct26), sl26⟩) (q26 : PySem.W.codeIn K cd26 "_law_top_right" = true) (k26 : PySem.W.keepIn K (.ref a26) = true)
    (p27 : PySem.W.nsIn K mainGlobals "law" = some (some (.ref a27))) (l27 : K.lookup a27 = some ⟨oc27, od27, .func (PySem.W.fnOf "law" "law" (defArgs (top 27)) (defBody (top 27)) (defScope (top 27)) .none kV27 dc27 pm27 an27 cd27 ct27), sl27⟩) (q27 : PySem.W.codeIn K cd27 "law" = true) (k27 : PySem.W.keepIn K (.ref a27) = true)
    (b0 : PySem.W.nsIn K mainGlobals "len" = some none)
    (b1 : PySem.W.nsIn K mainGlobals "sum" = some none)
    (b2 : PySem.W.nsIn K mainGlobals "sorted" = some none)
    (b3 : PySem.W.nsIn K mainGlobals "max" = some none)
    (b4 : PySem.W.nsIn K mainGlobals "min" = some none)
    (b5 : PySem.W.nsIn K mainGlobals "abs" = some none)
    (b6 : PySem.W.nsIn K mainGlobals "int" = some none)
    (b7 : PySem.W.nsIn K mainGlobals "list" = some none)
    (b8 : PySem.W.nsIn K mainGlobals "all" = some none)
    (b9 : PySem.W.nsIn K mainGlobals "any" = some none)
    (b10 : PySem.W.nsIn K mainGlobals "isinstance" = some none)
    (b11 : PySem.W.nsIn K mainGlobals "range" = some none)
    (b12 : PySem.W.nsIn K mainGlobals "enumerate" = some none)
    (b13 : PySem.W.nsIn K mainGlobals "zip" = some none)
    (b14 : PySem.W.nsIn K mainGlobals "bool" = some none)
    (b15 : PySem.W.nsIn K mainGlobals "tuple" = some none)
    (b16 : PySem.W.nsIn K mainGlobals "str" = some none)
    (up0 : PySem.W.nsIn K mainGlobals "Top" = some (some (.ref u0))) (upg0 : PySem.W.plainGet K u0 Str.empty = true) (uhd0 : PySem.W.hasDictIn K u0 = true) (upo0 : PySem.W.plainOver K u0 = true) (usa0 : PySem.W.findIn K (.ref u0) "__setattr__" = some (some (.builtin "object.__setattr__")))
    (una0_0 : PySem.W.findIn K (.ref u0) "joker" = some none)
    (una0_1 : PySem.W.findIn K (.ref u0) "marks" = some none)
    (una0_2 : PySem.W.findIn K (.ref u0) "other" = some none)
    (uha0 : PySem.W.findIn K (.ref u0) "__class__" = some (some (.builtin "object.__class__"))) (uhm0 : PySem.W.mroIn K u0 (.type "object") = some true)
    (up1 : PySem.W.nsIn K mainGlobals "Behind" = some (some (.ref u1))) (upg1 : PySem.W.plainGet K u1 Str.empty = true) (uhd1 : PySem.W.hasDictIn K u1 = true) (upo1 : PySem.W.plainOver K u1 = true) (usa1 : PySem.W.findIn K (.ref u1) "__setattr__" = some (some (.builtin "object.__setattr__")))
    (una1_0 : PySem.W.findIn K (.ref u1) "joker" = some none)
    (una1_1 : PySem.W.findIn K (.ref u1) "marks" = some none)
    (una1_2 : PySem.W.findIn K (.ref u1) "other" = some none)
    (uha1 : PySem.W.findIn K (.ref u1) "__class__" = some (some (.builtin "object.__class__"))) (uhm1 : PySem.W.mroIn K u1 (.type "object") = some true)
    (uhn : PySem.W.specialIn K (.builtin "object.__class__") "__get__" = some (some (.builtin "getset_descriptor.__get__"))) (utk : PySem.W.takesIn K (.builtin "object.__class__") = some true)
    {y0 : Addr}
    (yp0 : PySem.W.nsIn K mainGlobals "Answer" = some (some (.ref y0)))
    (yk0_0 : PySem.W.kitOne K (.ref u0) (.ref y0) = some true)
    (yk0_1 : PySem.W.kitOne K (.ref u1) (.ref y0) = some true)
    (p8 : PySem.W.findIn K (.ref u0) "__init__" = some (some (.ref a8))) (l8 : K.lookup a8 = some ⟨oc8, od8, .func (PySem.W.fnOf "__init__" "Top.__init__" (defArgs (inClass (top 11) 0)) (defBody (inClass (top 11) 0)) (defScope (inClass (top 11) 0)) .none kV8 dc8 pm8 an8 cd8 ct8), sl8⟩) (q8 : PySem.W.codeIn K cd8 "Top.__init__" = true) (k8 : PySem.W.keepIn K (.ref a8) = true) (fq8 : PySem.W.isFn K (.ref a8) = true) (mm8 : PySem.W.makesIn K u0 = true) (mk8 : PySem.W.keepIn K (.ref u0) = true)
    (p10 : PySem.W.findIn K (.ref u0) "shows" = some (some (.ref a10))) (l10 : K.lookup a10 = some ⟨oc10, od10, .func (PySem.W.fnOf "shows" "Top.shows" (defArgs (inClass (top 11) 1)) (defBody (inClass (top 11) 1)) (defScope (inClass (top 11) 1)) .none kV10 dc10 pm10 an10 cd10 ct10), sl10⟩) (q10 : PySem.W.codeIn K cd10 "Top.shows" = true) (k10 : PySem.W.keepIn K (.ref a10) = true) (fq10 : PySem.W.isFn K (.ref a10) = true)
    (p11 : PySem.W.findIn K (.ref u1) "__init__" = some (some (.ref a11))) (l11 : K.lookup a11 = some ⟨oc11, od11, .func (PySem.W.fnOf "__init__" "Behind.__init__" (defArgs (inClass (top 12) 0)) (defBody (inClass (top 12) 0)) (defScope (inClass (top 12) 0)) .none kV11 dc11 pm11 an11 cd11 ct11), sl11⟩) (q11 : PySem.W.codeIn K cd11 "Behind.__init__" = true) (k11 : PySem.W.keepIn K (.ref a11) = true) (fq11 : PySem.W.isFn K (.ref a11) = true) (mm11 : PySem.W.makesIn K u1 = true) (mk11 : PySem.W.keepIn K (.ref u1) = true)
    (p13 : PySem.W.findIn K (.ref u1) "shows" = some (some (.ref a13))) (l13 : K.lookup a13 = some ⟨oc13, od13, .func (PySem.W.fnOf "shows" "Behind.shows" (defArgs (inClass (top 12) 1)) (defBody (inClass (top 12) 1)) (defScope (inClass (top 12) 1)) .none kV13 dc13 pm13 an13 cd13 ct13), sl13⟩) (q13 : PySem.W.codeIn K cd13 "Behind.shows" = true) (k13 : PySem.W.keepIn K (.ref a13) = true) (fq13 : PySem.W.isFn K (.ref a13) = true)
    : ∃ fd : FuncData, (∀ (s : Shared) (v : Value), BindsTo s fd ⟨[v], []⟩ [("_law_script", v)]) ∧ ∀ base : Heap, K.In base → base.Ns mainGlobals mg → FnOk l.prog w K mg base (L2.CX l.prog w) 28 fa fd ["_law_script"] (spLaw K) := by
  obtain ⟨fd, h1, h2⟩ := all_mk (l := l) (w := w) X G hfa p0 l0 q0 k0 p1 l1 q1 k1 p2 l2 q2 k2 p3 l3 q3 k3 p4 l4 q4 k4 p5 l5 q5 k5 p6 l6 q6 k6 p7 l7 q7 k7 p14 l14 q14 k14 p15 l15 q15 k15 p16 l16 q16 k16 p17 l17 q17 k17 p18 l18 q18 k18 p19 l19 q19 k19 p20 l20 q20 k20 p21 l21 q21 k21 p22 l22 q22 k22 p23 l23 q23 k23 p24 l24 q24 k24 p25 l25 q25 k25 p26 l26 q26 k26 p27 l27 q27 k27 b0 b1 b2 b3 b4 b5 b6 b7 b8 b9 b10 b11 b12 b13 b14 b15 b16 up0 upg0 uhd0 upo0 usa0 una0_0 una0_1 una0_2 uha0 uhm0 up1 upg1 uhd1 upo1 usa1 una1_0 una1_1 una1_2 uha1 uhm1 uhn utk yp0 yk0_0 yk0_1 p8 l8 q8 k8 fq8 mm8 mk8 p10 l10 q10 k10 fq10 p11 l11 q11 k11 fq11 mm11 mk11 p13 l13 q13 k13 fq13
  exact ⟨fd, h1, fun base b1 b2 => law_ok hK (h2 base b1 b2)⟩
theorem walk {l : PySem.W.OpenLaw} {q : Program} {loose : List Str} {XP : (Str → Option Value) → Heap → Prop} {YP : World → Heap → Prop} {d : DefRec} {K : Params → PySem.W.Frag} (hn : l.most = some 63) (hdf : d.params.defaults = []) (hY : ∀ (w : World) (h : Heap), YP w h → (K w.params).In h)
    (F : ∀ (w : World) (mg : Str → Option Value) (fa : Addr) (h : Heap), (K w.params).In h → h.Ns mainGlobals mg → mg d.name = some (.ref fa) → ∃ fd : FuncData, (∀ (s : Shared) (u : Value), BindsTo s fd ⟨[u], []⟩ [("_law_script", u)]) ∧ ∀ base : Heap, (K w.params).In base → base.Ns mainGlobals mg → FnOk l.prog w (K w.params) mg base (L2.CX l.prog w) 28 fa fd ["_law_script"] (spLaw (K w.params))) :
    PySem.W.WalkO q loose XP YP l.row.toRowW d [] (fun f vs => PySem.call f vs) :=
  L2.walk_of (n := 63) (k := 28) (x := "_law_script") (CX := fun w => L2.CX l.prog w) (sp := fun w => spLaw (K w.params)) hn (by decide) hdf ⟨rfl, by decide, by decide⟩ hY F (fun _ _ a ns hl _ hS => ⟨a, ns, rfl, hS, hl, fun _ => rfl⟩) fun _ _ _ _ _ z => noCX z
end K04

open PySem PySem.W PyProof.Rows in
set_option maxRecDepth 100000 in
set_option maxHeartbeats 0 in
theorem PySem.Challenge.cw_dealsheet_k04_top_by_hand_holds : PySem.Challenge.rw_dealsheet_k04_top_by_hand.Holds := by
  w_on; o_law; k_head; (case hw => w_witness2)
  k_fill
  refine K04.walk (l := PySem.Challenge.rw_dealsheet_k04_top_by_hand) rfl rfl (fun w h Y => PySem.W.kIn_of Y) ?F
  case F =>
    intro w mg fa h KX G hmg
    refine' K04.all_ok KX G hmg ?hK ?p0 ?l0 ?q0 ?k0 ?p1 ?l1 ?q1 ?k1 ?p2 ?l2 ?q2 ?k2 ?p3 ?l3 ?q3 ?k3 ?p4 ?l4 ?q4 ?k4 ?p5 ?l5 ?q5 ?k5 ?p6 ?l6 ?q6 ?k6 ?p7 ?l7 ?q7 ?k7 ?p14 ?l14 ?q14 ?k14 ?p15 ?l15 ?q15 ?k15 ?p16 ?l16 ?q16 ?k16 ?p17 ?l17 ?q17 ?k17 ?p18 ?l18 ?q18 ?k18 ?p19 ?l19 ?q19 ?k19 ?p20 ?l20 ?q20 ?k20 ?p21 ?l21 ?q21 ?k21 ?p22 ?l22 ?q22 ?k22 ?p23 ?l23 ?q23 ?k23 ?p24 ?l24 ?q24 ?k24 ?p25 ?l25 ?q25 ?k25 ?p26 ?l26 ?q26 ?k26 ?p27 ?l27 ?q27 ?k27 ?b0 ?b1 ?b2 ?b3 ?b4 ?b5 ?b6 ?b7 ?b8 ?b9 ?b10 ?b11 ?b12 ?b13 ?b14 ?b15 ?b16 ?up0 ?upg0 ?uhd0 ?upo0 ?usa0 ?una0_0 ?una0_1 ?una0_2 ?uha0 ?uhm0 ?up1 ?upg1 ?uhd1 ?upo1 ?usa1 ?una1_0 ?una1_1 ?una1_2 ?uha1 ?uhm1 ?uhn ?utk ?yp0 ?yk0_0 ?yk0_1 ?p8 ?l8 ?q8 ?k8 ?fq8 ?mm8 ?mk8 ?p10 ?l10 ?q10 ?k10 ?fq10 ?p11 ?l11 ?q11 ?k11 ?fq11 ?mm11 ?mk11 ?p13 ?l13 ?q13 ?k13 ?fq13
    (case hK => kernel_rfl)
    (case p0 => k_is)
    (case l0 => k_is)
    (case q0 => k_is)
    (case k0 => k_is)
    (case p1 => k_is)
    (case l1 => k_is)
    (case q1 => k_is)
    (case k1 => k_is)
    (case p2 => k_is)
    (case l2 => k_is)
    (case q2 => k_is)
    (case k2 => k_is)
    (case p3 => k_is)
    (case l3 => k_is)
    (case q3 => k_is)
    (case k3 => k_is)
    (case p4 => k_is)
    (case l4 => k_is)
    (case q4 => k_is)
    (case k4 => k_is)
    (case p5 => k_is)
    (case l5 => k_is)
    (case q5 => k_is)
    (case k5 => k_is)
    (case p6 => k_is)
    (case l6 => k_is)
    (case q6 => k_is)
    (case k6 => k_is)
    (case p7 => k_is)
    (case l7 => k_is)
    (case q7 => k_is)
    (case k7 => k_is)
    (case p14 => k_is)
    (case l14 => k_is)
    (case q14 => k_is)
    (case k14 => k_is)
    (case p15 => k_is)
    (case l15 => k_is)
    (case q15 => k_is)
    (case k15 => k_is)
    (case p16 => k_is)
    (case l16 => k_is)
    (case q16 => k_is)
    (case k16 => k_is)
    (case p17 => k_is)
    (case l17 => k_is)
    (case q17 => k_is)
    (case k17 => k_is)
    (case p18 => k_is)
    (case l18 => k_is)
    (case q18 => k_is)
    (case k18 => k_is)
    (case p19 => k_is)
    (case l19 => k_is)
    (case q19 => k_is)
    (case k19 => k_is)
    (case p20 => k_is)
    (case l20 => k_is)
    (case q20 => k_is)
    (case k20 => k_is)
    (case p21 => k_is)
    (case l21 => k_is)
    (case q21 => k_is)
    (case k21 => k_is)
    (case p22 => k_is)
    (case l22 => k_is)
    (case q22 => k_is)
    (case k22 => k_is)
    (case p23 => k_is)
    (case l23 => k_is)
    (case q23 => k_is)
    (case k23 => k_is)
    (case p24 => k_is)
    (case l24 => k_is)
    (case q24 => k_is)
    (case k24 => k_is)
    (case p25 => k_is)
    (case l25 => k_is)
    (case q25 => k_is)
    (case k25 => k_is)
    (case p26 => k_is)
    (case l26 => k_is)
    (case q26 => k_is)
    (case k26 => k_is)
    (case p27 => k_is)
    (case l27 => k_is)
    (case q27 => k_is)
    (case k27 => k_is)
    (case b0 => k_is)
    (case b1 => k_is)
    (case b2 => k_is)
    (case b3 => k_is)
    (case b4 => k_is)
    (case b5 => k_is)
    (case b6 => k_is)
    (case b7 => k_is)
    (case b8 => k_is)
    (case b9 => k_is)
    (case b10 => k_is)
    (case b11 => k_is)
    (case b12 => k_is)
    (case b13 => k_is)
    (case b14 => k_is)
    (case b15 => k_is)
    (case b16 => k_is)
    (case up0 => k_is)
    (case upg0 => k_is)
    (case uhd0 => k_is)
    (case upo0 => k_is)
    (case usa0 => k_is)
    (case una0_0 => k_is)
    (case una0_1 => k_is)
    (case una0_2 => k_is)
    (case uha0 => k_is)
    (case uhm0 => k_is)
    (case up1 => k_is)
    (case upg1 => k_is)
    (case uhd1 => k_is)
    (case upo1 => k_is)
    (case usa1 => k_is)
    (case una1_0 => k_is)
    (case una1_1 => k_is)
    (case una1_2 => k_is)
    (case uha1 => k_is)
    (case uhm1 => k_is)
    (case uhn => k_is)
    (case utk => k_is)
    (case yp0 => k_is)
    (case yk0_0 => kernel_rfl)
    (case yk0_1 => kernel_rfl)
    (case p8 => k_is)
    (case l8 => k_is)
    (case q8 => k_is)
    (case k8 => k_is)
    (case fq8 => k_is)
    (case mm8 => k_is)
    (case mk8 => k_is)
    (case p10 => k_is)
    (case l10 => k_is)
    (case q10 => k_is)
    (case k10 => k_is)
    (case fq10 => k_is)
    (case p11 => k_is)
    (case l11 => k_is)
    (case q11 => k_is)
    (case k11 => k_is)
    (case fq11 => k_is)
    (case mm11 => k_is)
    (case mk11 => k_is)
    (case p13 => k_is)
    (case l13 => k_is)
    (case q13 => k_is)
    (case k13 => k_is)
    (case fq13 => k_is)

