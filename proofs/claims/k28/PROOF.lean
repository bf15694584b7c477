import PyProof.Rows.All
import Wide.All
import OpenK.AllK
import Wide.FinOn
import HandS.ForMost
import HandS.Exc
import HandS.HeadHook1
import HandS.Wide
import HandS.TupAny
import HandS.TupLe
import HandS.IsInst
import HandS.FStr
import HandS.Deep
import HandS.Conv
import PyProof.CollectIter
import HandS.NoneIn
import HandS.Style
import HandS.CallSlots
import HandS.Defaults
import HandS.Head0
import HandS.Head1
import HandS.Head2
import HandS.HeadEnd
import HandS.HeadHook2
import HandS.HeadHook3
import PyProof.ReprRoads
import HandS.Replace
import HandS.Dict
import HandS.Small
import KE.GoesMore
import HandS.More
import PyProof.EqKinds
import PyProof.FactsAll.dict_1
import PyProof.FactsAll.subtypes_3
import PyProof.FactsAll.subtypes_4
import PyProof.ListStr
import HandS.TupMul
import HandS.NamedTupSort
import HandS.SortRule
import PySem.Challenge.RW_doorkinds_k28_sayings_sounded
set_option Elab.async false
set_option linter.all false
set_option maxRecDepth 100000
set_option maxHeartbeats 0
namespace Px
open PySem PySem.Spec PyProof.Rows L2
/-! ## values of the interpreter -/
abbrev Tx := List Char
def cd (s : Tx) : List Nat := s.map Char.toNat
def toS (s : Tx) : Str := ⟨(cd s).toArray⟩
theorem char_inj {a b : Char} (h : a.toNat = b.toNat) : a = b := Char.ext (UInt32.toNat_inj.mp h)
theorem cd_inj : ∀ {a b : Tx}, cd a = cd b → a = b
  | [], [], _ => rfl
  | [], _ :: _, h => by simp [cd] at h
  | _ :: _, [], h => by simp [cd] at h
  | x :: a, y :: b, h => by
    simp only [cd, List.map_cons, List.cons.injEq] at h
    rw [char_inj h.1, cd_inj (a := a) (b := b) h.2]
theorem toS_inj {a b : Tx} (h : toS a = toS b) : a = b := by
  unfold toS at h
  injection h with h
  exact cd_inj (by simpa using congrArg Array.toList h)
theorem toS_list (s : Tx) : (toS s).cps.toList = cd s := rfl
theorem toS_lit (s : String) : toS s.toList = Str.ofString s := (Str.ofString_eq_toList s).symm
theorem cd_length (s : Tx) : (cd s).length = s.length := by simp [cd]
theorem toS_length (s : Tx) : (toS s).length = s.length := by
  show (cd s).toArray.size = s.length
  simp [cd]
theorem cd_append (a b : Tx) : cd (a ++ b) = cd a ++ cd b := by simp [cd]
theorem toS_append (a b : Tx) : toS a ++ toS b = toS (a ++ b) := by
  show (⟨(cd a).toArray ++ (cd b).toArray⟩ : Str) = ⟨(cd (a ++ b)).toArray⟩
  simp [cd]
theorem toS_eq {x : Str} {s : Tx} (h : x.cps.toList = cd s) : x = toS s := by
  obtain ⟨c⟩ := x
  show (⟨c⟩ : Str) = ⟨(cd s).toArray⟩
  have : c.toList = cd s := h
  rw [← this]
theorem strOk_toS (s : Tx) : PyData.strOk (toS s) = true := by
  show (cd s).toArray.all (· < 0x110000) = true
  rw [List.all_toArray, List.all_eq_true]
  intro c hc
  obtain ⟨x, _, rfl⟩ := List.mem_map.mp hc
  have h := x.valid
  have e : x.toNat = x.val.toNat := rfl
  simp only [UInt32.isValidChar, Nat.isValidChar] at h
  rw [e]
  simp only [decide_eq_true_eq]
  omega
inductive D where
  | non | bl (b : Bool) | int (i : Int) | str (s : Tx) | tup (xs : List D) | fl (xs : List D) | ref (n : Nat) | fn (x : String)
inductive Ob where
  | lst (xs : List D) | dic (kvs : List (D × D)) | ins (c : String) (fs : List (String × D))
abbrev Hy := List Ob
abbrev Env := List (Option D)
inductive R (α : Type) where
  | ok (a : α) | exc (c : String) (at_ : Option D) (h : Hy) | stuck
def R.bind {α β : Type} (r : R α) (f : α → R β) : R β := match r with
  | .ok a => f a
  | .exc c d h => .exc c d h
  | .stuck => .stuck
@[simp] theorem R.bind_ok {α β : Type} (a : α) (f : α → R β) : (R.ok a).bind f = f a := rfl
@[simp] theorem R.bind_exc {α β : Type} (c d h) (f : α → R β) : (R.exc c d h).bind f = .exc c d h := rfl
@[simp] theorem R.bind_stuck {α β : Type} (f : α → R β) : (R.stuck : R α).bind f = .stuck := rfl
def Good {α : Type} (r : R α) (ok : α → Prop) (ex : String → Option D → Hy → Prop) : Prop := match r with
  | .ok a => ok a
  | .exc c d h => ex c d h
  | .stuck => False
theorem Good.mono {α : Type} {r : R α} {ok ok' : α → Prop} {ex ex' : String → Option D → Hy → Prop} (g : Good r ok ex) (h : ∀ a, ok a → ok' a) (h' : ∀ c d h, ex c d h → ex' c d h) : Good r ok' ex' := by
  cases r with
  | ok a => exact h a g
  | exc c d h => exact h' c d h g
  | stuck => exact g
theorem Good.bind {α β : Type} {r : R α} {f : α → R β} {ok : β → Prop} {ex : String → Option D → Hy → Prop} (g : Good (r.bind f) ok ex) : Good r (fun a => Good (f a) ok ex) ex := by
  cases r with
  | ok a => exact g
  | exc c d h => exact g
  | stuck => exact g
/-! ## how they lie in the abstract heap -/
/-- a list that never changes -/
def SqF (K : PySem.W.Frag) (H : Hp) (a : Addr) (xs : List V) : Prop :=
  (∃ o, H a = some (.frz o (.lst xs))) ∨
    ∃ (o : Obj) (its : Array Value) (n : Nat), K.lookup a = some o ∧ o.cls = .type "list" ∧ o.dict = none ∧ o.data = .seq its n ∧ its.size ≤ sizeLine ∧ Vals xs its.toList
theorem SqF.seq {K : PySem.W.Frag} {H : Hp} {a : Addr} {xs : List V} (h : SqF K H a xs) : SqL K H a xs := h.elim (fun ⟨o, e⟩ => .inl (.inr ⟨o, e⟩)) .inr
mutual
inductive Rep (K : PySem.W.Frag) (ι : List Addr) (H : Hp) : V → D → Prop
  | non : Rep K ι H .non .non
  | bl (b : Bool) : Rep K ι H (.bl b) (.bl b)
  | int (i : Int) : Rep K ι H (.int i) (.int i)
  | str (s : Tx) : Rep K ι H (.str (toS s)) (.str s)
  | tup {a : Addr} {vs : List V} {ds : List D} : SqT K H a vs → Reps K ι H vs ds → Rep K ι H (.ref a) (.tup ds)
  | fl {a : Addr} {vs : List V} {ds : List D} : SqF K H a vs → Reps K ι H vs ds → Rep K ι H (.ref a) (.fl ds)
  | ref {a : Addr} {n : Nat} : ι[n]? = some a → Rep K ι H (.ref a) (.ref n)
  | fn (x : String) : Rep K ι H (.ref (He.ga K (x : Str))) (.fn x)
inductive Reps (K : PySem.W.Frag) (ι : List Addr) (H : Hp) : List V → List D → Prop
  | nil : Reps K ι H [] []
  | cons {v : V} {vs : List V} {d : D} {ds : List D} : Rep K ι H v d → Reps K ι H vs ds → Reps K ι H (v :: vs) (d :: ds)
end
/-- from one state to a later one -/
structure Ext (ι : List Addr) (H : Hp) (ι' : List Addr) (H' : Hp) : Prop where
  pre : ι <+: ι'
  tups : ∀ a vs, H a = some (.tup vs) → H' a = some (.tup vs)
  frzs : ∀ a o u, H a = some (.frz o u) → H' a = some (.frz o u)
  keep : ∀ a o, H a = some o → a ∉ ι → H' a = some o
  new : ∀ a, a ∈ ι' → a ∉ ι → H a = none
theorem Ext.refl {ι : List Addr} {H : Hp} : Ext ι H ι H := ⟨List.prefix_refl _, fun _ _ h => h, fun _ _ _ h => h, fun _ _ h _ => h, fun a h n => absurd h n⟩
theorem Ext.trans {ι ι1 ι2 : List Addr} {H H1 H2 : Hp} (a : Ext ι H ι1 H1) (b : Ext ι1 H1 ι2 H2) : Ext ι H ι2 H2 :=
  ⟨a.pre.trans b.pre, fun p vs h => b.tups p vs (a.tups p vs h), fun p o u h => b.frzs p o u (a.frzs p o u h),
    fun p o h n => by
      by_cases hp : p ∈ ι1
      · have := a.new p hp n
        rw [h] at this; cases this
      · exact b.keep p o (a.keep p o h n) hp,
    fun p h n => by
      by_cases hp : p ∈ ι1
      · exact a.new p hp n
      · have e := b.new p h hp
        cases q : H p with
        | none => rfl
        | some o =>
          have := a.keep p o q n
          rw [this] at e; cases e⟩
theorem Ext.at {ι ι' : List Addr} {H H' : Hp} (e : Ext ι H ι' H') {n : Nat} {a : Addr} (h : ι[n]? = some a) : ι'[n]? = some a := by
  obtain ⟨r, rfl⟩ := e.pre
  rw [List.getElem?_append_left (by exact (List.getElem?_eq_some_iff.mp h).1)]
  exact h
theorem Ext.sqT {K : PySem.W.Frag} {ι ι' : List Addr} {H H' : Hp} (e : Ext ι H ι' H') {a : Addr} {vs : List V} (h : SqT K H a vs) : SqT K H' a vs := by
  rcases h with (h | ⟨o, h⟩) | h
  · exact .inl (.inl (e.tups _ _ h))
  · exact .inl (.inr ⟨o, e.frzs _ _ _ h⟩)
  · exact .inr h
theorem Ext.sqF {K : PySem.W.Frag} {ι ι' : List Addr} {H H' : Hp} (e : Ext ι H ι' H') {a : Addr} {vs : List V} (h : SqF K H a vs) : SqF K H' a vs := by
  rcases h with ⟨o, h⟩ | h
  · exact .inl ⟨o, e.frzs _ _ _ h⟩
  · exact .inr h
mutual
theorem Rep.ext {K : PySem.W.Frag} {ι ι' : List Addr} {H H' : Hp} (e : Ext ι H ι' H') : ∀ {v : V} {d : D}, Rep K ι H v d → Rep K ι' H' v d
  | _, _, .non => .non
  | _, _, .bl b => .bl b
  | _, _, .int i => .int i
  | _, _, .str s => .str s
  | _, _, .tup h r => .tup (e.sqT h) (Reps.ext e r)
  | _, _, .fl h r => .fl (e.sqF h) (Reps.ext e r)
  | _, _, .ref h => .ref (e.at h)
  | _, _, .fn x => .fn x
theorem Reps.ext {K : PySem.W.Frag} {ι ι' : List Addr} {H H' : Hp} (e : Ext ι H ι' H') : ∀ {vs : List V} {ds : List D}, Reps K ι H vs ds → Reps K ι' H' vs ds
  | _, _, .nil => .nil
  | _, _, .cons h r => .cons (Rep.ext e h) (Reps.ext e r)
end
section
variable {K : PySem.W.Frag} {ι ι' : List Addr} {H H' : Hp}
theorem Reps.length : ∀ {vs : List V} {ds : List D}, Reps K ι H vs ds → vs.length = ds.length
  | _, _, .nil => rfl
  | _, _, .cons _ r => by rw [List.length_cons, List.length_cons, Reps.length r]
theorem Reps.get : ∀ {vs : List V} {ds : List D} {i : Nat} {d : D}, Reps K ι H vs ds → ds[i]? = some d → ∃ v, vs[i]? = some v ∧ Rep K ι H v d
  | _, _, _, _, .nil, e => by simp at e
  | _, _, 0, _, .cons h _, e => by simp at e; subst e; exact ⟨_, rfl, h⟩
  | _, _, i + 1, _, .cons _ r, e => by
    obtain ⟨v, e1, h1⟩ := Reps.get (i := i) r (by simpa using e)
    exact ⟨v, by simpa using e1, h1⟩
theorem Reps.getV : ∀ {vs : List V} {ds : List D} {i : Nat} {v : V}, Reps K ι H vs ds → vs[i]? = some v → ∃ d, ds[i]? = some d ∧ Rep K ι H v d
  | _, _, _, _, .nil, e => by simp at e
  | _, _, 0, _, .cons h _, e => by simp at e; subst e; exact ⟨_, rfl, h⟩
  | _, _, i + 1, _, .cons _ r, e => by
    obtain ⟨v, e1, h1⟩ := Reps.getV (i := i) r (by simpa using e)
    exact ⟨v, by simpa using e1, h1⟩
theorem Reps.append : ∀ {vs vs' : List V} {ds ds' : List D}, Reps K ι H vs ds → Reps K ι H vs' ds' → Reps K ι H (vs ++ vs') (ds ++ ds')
  | _, _, _, _, .nil, s => s
  | _, _, _, _, .cons h r, s => .cons h (Reps.append r s)
theorem Reps.one {v : V} {d : D} (h : Rep K ι H v d) : Reps K ι H [v] [d] := .cons h .nil
theorem Reps.set {v : V} {d : D} (h : Rep K ι H v d) : ∀ {vs : List V} {ds : List D} (i : Nat), Reps K ι H vs ds → Reps K ι H (vs.set i v) (ds.set i d)
  | _, _, _, .nil => .nil
  | _, _, 0, .cons _ r => .cons h r
  | _, _, i + 1, .cons q r => .cons q (Reps.set h i r)
theorem Reps.take : ∀ {vs : List V} {ds : List D} (n : Nat), Reps K ι H vs ds → Reps K ι H (vs.take n) (ds.take n)
  | _, _, 0, _ => .nil
  | _, _, _ + 1, .nil => .nil
  | _, _, n + 1, .cons h r => .cons h (Reps.take n r)
theorem Reps.drop : ∀ {vs : List V} {ds : List D} (n : Nat), Reps K ι H vs ds → Reps K ι H (vs.drop n) (ds.drop n)
  | _, _, 0, r => r
  | _, _, _ + 1, .nil => .nil
  | _, _, n + 1, .cons _ r => Reps.drop n r
end
/-- fields of an instance -/
inductive RepF (K : PySem.W.Frag) (ι : List Addr) (H : Hp) : List (Str × V) → List (String × D) → Prop
  | nil : RepF K ι H [] []
  | cons {x : String} {v : V} {d : D} {fv : List (Str × V)} {fs : List (String × D)} : Rep K ι H v d → RepF K ι H fv fs → RepF K ι H (((x : Str), v) :: fv) ((x, d) :: fs)
/-- a dict's entries: keys ints or texts -/
inductive RepK (K : PySem.W.Frag) (ι : List Addr) (H : Hp) : List (Key × V) → List (D × D) → Prop
  | nil : RepK K ι H [] []
  | int {i : Int} {v : V} {d : D} {kv : List (Key × V)} {ks : List (D × D)} : Rep K ι H v d → RepK K ι H kv ks → RepK K ι H ((.inl i, v) :: kv) ((.int i, d) :: ks)
  | str {s : Tx} {v : V} {d : D} {kv : List (Key × V)} {ks : List (D × D)} : Rep K ι H v d → RepK K ι H kv ks → RepK K ι H ((.inr (toS s), v) :: kv) ((.str s, d) :: ks)
def RepO (K : PySem.W.Frag) (ι : List Addr) (H : Hp) (a : Addr) : Ob → Prop
  | .lst ds => ∃ vs, H a = some (.lst vs) ∧ Reps K ι H vs ds
  | .dic ks => ∃ kv, H a = some (.dK kv) ∧ RepK K ι H kv ks
  | .ins c fs => ∃ dx fv, H a = some (.ins (He.ga K (c : Str)) dx fv) ∧ RepF K ι H fv fs
theorem RepF.ext {K : PySem.W.Frag} {ι ι' : List Addr} {H H' : Hp} (e : Ext ι H ι' H') : ∀ {fv : List (Str × V)} {fs : List (String × D)}, RepF K ι H fv fs → RepF K ι' H' fv fs
  | _, _, .nil => .nil
  | _, _, .cons h r => .cons (h.ext e) (RepF.ext e r)
theorem RepK.ext {K : PySem.W.Frag} {ι ι' : List Addr} {H H' : Hp} (e : Ext ι H ι' H') : ∀ {kv : List (Key × V)} {ks : List (D × D)}, RepK K ι H kv ks → RepK K ι' H' kv ks
  | _, _, .nil => .nil
  | _, _, .int h r => .int (h.ext e) (RepK.ext e r)
  | _, _, .str h r => .str (h.ext e) (RepK.ext e r)
theorem RepO.ext {K : PySem.W.Frag} {ι ι' : List Addr} {H H' : Hp} (e : Ext ι H ι' H') {a : Addr} (ha : ∀ o, H a = some o → H' a = some o) : ∀ {o : Ob}, RepO K ι H a o → RepO K ι' H' a o
  | .lst _, ⟨vs, h, r⟩ => ⟨vs, ha _ h, r.ext e⟩
  | .dic _, ⟨kv, h, r⟩ => ⟨kv, ha _ h, r.ext e⟩
  | .ins _ _, ⟨dx, fv, h, r⟩ => ⟨dx, fv, ha _ h, r.ext e⟩
theorem RepO.mut {K : PySem.W.Frag} {ι : List Addr} {H : Hp} {a : Addr} : ∀ {o : Ob}, RepO K ι H a o → Mut (H a)
  | .lst _, ⟨vs, h, _⟩ => by rw [h]; exact True.intro
  | .dic _, ⟨kv, h, _⟩ => by rw [h]; exact True.intro
  | .ins _ _, ⟨dx, fv, h, _⟩ => by rw [h]; exact True.intro
structure Rh (K : PySem.W.Frag) (ι : List Addr) (H : Hp) (h : Hy) : Prop where
  len : ι.length = h.length
  nd : ι.Nodup
  at_ : ∀ (i : Nat) (a : Addr) (o : Ob), ι[i]? = some a → h[i]? = some o → RepO K ι H a o
section
variable {K : PySem.W.Frag} {ι ι' : List Addr} {H H' : Hp} {h : Hy}
theorem Rh.addr (r : Rh K ι H h) {i : Nat} {o : Ob} (e : h[i]? = some o) : ∃ a, ι[i]? = some a ∧ RepO K ι H a o := by
  have hi : i < ι.length := by rw [r.len]; exact (List.getElem?_eq_some_iff.mp e).1
  exact ⟨ι[i], List.getElem?_eq_getElem hi, r.at_ i _ o (List.getElem?_eq_getElem hi) e⟩
theorem Rh.some_of (r : Rh K ι H h) {a : Addr} (ha : a ∈ ι) : ∃ o, H a = some o ∧ Mut (some o) := by
  obtain ⟨i, hi, rfl⟩ := List.mem_iff_getElem.mp ha
  have hi2 : i < h.length := by rw [← r.len]; exact hi
  have q := (r.at_ i _ _ (List.getElem?_eq_getElem hi) (List.getElem?_eq_getElem hi2)).mut
  cases e : H ι[i] with
  | none => rw [e] at q; exact q.elim
  | some o => rw [e] at q; exact ⟨o, rfl, q⟩
theorem Rh.notin (r : Rh K ι H h) {a : Addr} (ha : H a = none) : a ∉ ι := fun z => by
  obtain ⟨o, e, _⟩ := r.some_of z
  rw [ha] at e; cases e
/-- something untracked is laid -/
theorem Rh.put (r : Rh K ι H h) {a : Addr} {o : HO} (ha : H a = none) : Ext ι H ι (upd H a o) ∧ Rh K ι (upd H a o) h := by
  have ne : ∀ {b u}, H b = some u → b ≠ a := fun {b u} e z => by rw [z, ha] at e; cases e
  have E : Ext ι H ι (upd H a o) := ⟨List.prefix_refl _, fun b vs e => by rw [upd_ne (ne e)]; exact e, fun b u w e => by rw [upd_ne (ne e)]; exact e, fun b u e _ => by rw [upd_ne (ne e)]; exact e, fun b z n => absurd z n⟩
  exact ⟨E, r.len, r.nd, fun i b u e1 e2 => (r.at_ i b u e1 e2).ext E fun w q => by rw [upd_ne (ne q)]; exact q⟩
/-- a new object of ours is laid -/
theorem Rh.push (r : Rh K ι H h) {a : Addr} {o : HO} {u : Ob} (ha : H a = none) (hu : RepO K (ι ++ [a]) (upd H a o) a u) : Ext ι H (ι ++ [a]) (upd H a o) ∧ Rh K (ι ++ [a]) (upd H a o) (h ++ [u]) := by
  have ne : ∀ {b u}, H b = some u → b ≠ a := fun {b u} e z => by rw [z, ha] at e; cases e
  have E : Ext ι H (ι ++ [a]) (upd H a o) := ⟨List.prefix_append _ _, fun b vs e => by rw [upd_ne (ne e)]; exact e, fun b u w e => by rw [upd_ne (ne e)]; exact e, fun b u e _ => by rw [upd_ne (ne e)]; exact e,
    fun b z n => by
      rcases List.mem_append.mp z with z | z
      · exact absurd z n
      · have : b = a := by simpa using z
        rw [this]; exact ha⟩
  refine ⟨E, by simp [r.len], ?_, fun i b w e1 e2 => ?_⟩
  · refine List.nodup_append.mpr ⟨r.nd, by simp, fun x hx y hy => ?_⟩
    have : y = a := by simpa using hy
    rw [this]
    rintro rfl
    exact r.notin ha hx
  · by_cases hi : i < ι.length
    · rw [List.getElem?_append_left hi] at e1
      rw [List.getElem?_append_left (by rw [← r.len]; exact hi)] at e2
      exact (r.at_ i b w e1 e2).ext E fun v q => by rw [upd_ne (ne q)]; exact q
    · have hb := (List.getElem?_eq_some_iff.mp e1).1
      have hi2 : i = ι.length := by simp at hb; omega
      subst hi2
      rw [List.getElem?_append_right (Nat.le_refl _)] at e1
      rw [r.len, List.getElem?_append_right (Nat.le_refl _)] at e2
      simp at e1 e2
      subst e1 e2
      exact hu
theorem getElem?_ne_of_nodup {α : Type} {l : List α} (nd : l.Nodup) {i j : Nat} {a b : α} (h1 : l[i]? = some a) (h2 : l[j]? = some b) (h : i ≠ j) : a ≠ b := by
  rintro rfl
  obtain ⟨p, e⟩ := List.getElem?_eq_some_iff.mp h1
  obtain ⟨q, f⟩ := List.getElem?_eq_some_iff.mp h2
  exact h ((List.getElem_inj nd).mp (e.trans f.symm))
/-- an object of ours is written -/
theorem Rh.write (r : Rh K ι H h) {n : Nat} {a : Addr} {o : HO} {u : Ob} (hn : ι[n]? = some a) (hu : RepO K ι (upd H a o) a u) : Ext ι H ι (upd H a o) ∧ Rh K ι (upd H a o) (h.set n u) := by
  obtain ⟨old, ho, hm⟩ := r.some_of (List.mem_of_getElem? hn)
  have nt : ∀ {b vs}, H b = some (.tup vs) → b ≠ a := fun {b vs} e z => by rw [z, ho] at e; cases e; exact hm
  have nf : ∀ {b p q}, H b = some (.frz p q) → b ≠ a := fun {b p q} e z => by rw [z, ho] at e; cases e; exact hm
  have E : Ext ι H ι (upd H a o) := ⟨List.prefix_refl _, fun b vs e => by rw [upd_ne (nt e)]; exact e, fun b u w e => by rw [upd_ne (nf e)]; exact e,
    fun b u e n => by rw [upd_ne (fun z => n (by rw [z]; exact List.mem_of_getElem? hn))]; exact e, fun b z n => absurd z n⟩
  refine ⟨E, by simp [r.len], r.nd, fun i b w e1 e2 => ?_⟩
  by_cases hi : i = n
  · subst hi
    rw [hn] at e1
    cases e1
    rw [List.getElem?_set_self (by rw [← r.len]; exact (List.getElem?_eq_some_iff.mp hn).1)] at e2
    cases e2
    exact hu
  · rw [List.getElem?_set_ne (Ne.symm hi)] at e2
    exact (r.at_ i b w e1 e2).ext E fun v q => by rw [upd_ne (getElem?_ne_of_nodup r.nd e1 hn hi)]; exact q
end
/-! ## environments -/
def RepX (K : PySem.W.Frag) (ι : List Addr) (H : Hp) (σ : L2.St) (ρ : Env) : Prop := σ.length = ρ.length ∧ ∀ (i : Nat) (d : D), ρ[i]? = some (some d) → ∃ v, σ[i]? = some (some v) ∧ Rep K ι H v d
section
variable {K : PySem.W.Frag} {ι ι' : List Addr} {H H' : Hp} {h : Hy} {σ : L2.St} {ρ : Env}
theorem RepX.ext (r : RepX K ι H σ ρ) (e : Ext ι H ι' H') : RepX K ι' H' σ ρ := ⟨r.1, fun i d q => let ⟨v, a, b⟩ := r.2 i d q; ⟨v, a, b.ext e⟩⟩
theorem RepX.set (r : RepX K ι H σ ρ) {v : V} {d : D} (h : Rep K ι H v d) (i : Nat) : RepX K ι H (σ.set i (some v)) (ρ.set i (some d)) := by
  refine ⟨by simp [r.1], fun j u q => ?_⟩
  by_cases hj : j = i
  · subst hj
    have hl : j < ρ.length := by
      have := (List.getElem?_eq_some_iff.mp q).1
      simpa using this
    rw [List.getElem?_set_self hl] at q
    cases q
    exact ⟨v, by rw [List.getElem?_set_self (by rw [r.1]; exact hl)], h⟩
  · rw [List.getElem?_set_ne (Ne.symm hj)] at q ⊢
    exact r.2 j u q
def wipeE (ρ : Env) : List Nat → Env
  | [] => ρ
  | v :: vs => (wipeE ρ vs).set v none
theorem RepX.wipe (r : RepX K ι H σ ρ) : ∀ vs : List Nat, RepX K ι H (L2.wipe σ vs) (wipeE ρ vs)
  | [] => r
  | v :: vs => by
    have q := RepX.wipe r vs
    refine ⟨by show ((L2.wipe σ vs).set v none).length = ((wipeE ρ vs).set v none).length; simp [q.1], fun j u e => ?_⟩
    have e : ((wipeE ρ vs).set v none)[j]? = some (some u) := e
    show ∃ w, ((L2.wipe σ vs).set v none)[j]? = some (some w) ∧ _
    by_cases hj : v = j
    · subst hj
      by_cases hl : v < (wipeE ρ vs).length
      · rw [List.getElem?_set_self hl] at e; cases e
      · rw [List.getElem?_eq_none (by simpa using hl)] at e; cases e
    · rw [List.getElem?_set_ne hj] at e ⊢
      exact q.2 j u e
theorem RepX.start {N : List Str} {vs : List V} {ds : List D} (r : Reps K ι H vs ds) : RepX K ι H (L2.start N vs) (ds.map some ++ List.replicate (N.length - ds.length) none) := by
  have hl := r.length
  unfold L2.start
  refine ⟨by simp [hl], fun i d e => ?_⟩
  by_cases hi : i < ds.length
  · rw [List.getElem?_append_left (by simpa using hi), List.getElem?_map] at e
    cases q : ds[i]? with
    | none => rw [q] at e; cases e
    | some z =>
      rw [q] at e
      cases e
      obtain ⟨v, e1, h1⟩ := r.get q
      exact ⟨v, by rw [List.getElem?_append_left (by simpa [hl] using hi), List.getElem?_map, e1]; rfl, h1⟩
  · rw [List.getElem?_append_right (by simpa using hi), List.getElem?_replicate] at e
    split at e <;> cases e
end
/-! ## the semantic readings -/
/-- what is wanted behind an exception -/
def xwish (K : PySem.W.Frag) (W : WX) (ι : List Addr) (σ : L2.St) (H : Hp) (c : String) : Option D → Prop
  | none => W (.ref (He.ga K (c : Str))) none σ H
  | some d => ∀ dx v, H dx = some (.xd [(("at" : Str), v)]) → Rep K ι H v d → W (.ref (He.ga K (c : Str))) (some dx) σ H
def XW (K : PySem.W.Frag) (W : WX) (ι : List Addr) (σ : L2.St) (H : Hp) (c : String) (at_ : Option D) (h' : Hy) : Prop :=
  ∀ ι' H', Ext ι H ι' H' → Rh K ι' H' h' → xwish K W ι' σ H' c at_
theorem XW.ext {K : PySem.W.Frag} {W : WX} {ι ι' : List Addr} {σ : L2.St} {H H' : Hp} {c : String} {at_ : Option D} {h' : Hy} (x : XW K W ι σ H c at_ h') (e : Ext ι H ι' H') : XW K W ι' σ H' c at_ h' :=
  fun ι2 H2 e2 r => x ι2 H2 (e.trans e2) r
/-- a value and a heap are wanted -/
def VW (K : PySem.W.Frag) (ι : List Addr) (H : Hp) (Q : VK) (p : D × Hy) : Prop := ∀ ι' H' v, Ext ι H ι' H' → Rh K ι' H' p.2 → Rep K ι' H' v p.1 → Q v H'
theorem VW.ext {K : PySem.W.Frag} {ι ι' : List Addr} {H H' : Hp} {Q : VK} {p : D × Hy} (x : VW K ι H Q p) (e : Ext ι H ι' H') : VW K ι' H' Q p := fun ι2 H2 v e2 r q => x ι2 H2 v (e.trans e2) r q
abbrev FE := Env → Hy → R (D × Hy)
def tE (K : PySem.W.Frag) (W : WX) (f : FE) : TE := fun σ H Q => ∃ ι ρ h, RepX K ι H σ ρ ∧ Rh K ι H h ∧ Good (f ρ h) (VW K ι H Q) (XW K W ι σ H)
abbrev FT := Env → Hy → R (Bool × Hy)
def BW (K : PySem.W.Frag) (ι : List Addr) (H : Hp) (Q : Bool → Hp → Prop) (p : Bool × Hy) : Prop := ∀ ι' H', Ext ι H ι' H' → Rh K ι' H' p.2 → Q p.1 H'
theorem BW.ext {K : PySem.W.Frag} {ι ι' : List Addr} {H H' : Hp} {Q : Bool → Hp → Prop} {p : Bool × Hy} (x : BW K ι H Q p) (e : Ext ι H ι' H') : BW K ι' H' Q p := fun ι2 H2 e2 r => x ι2 H2 (e.trans e2) r
def tT (K : PySem.W.Frag) (W : WX) (f : FT) : TT := fun σ H Q => ∃ ι ρ h, RepX K ι H σ ρ ∧ Rh K ι H h ∧ Good (f ρ h) (BW K ι H Q) (XW K W ι σ H)
abbrev FA := Env → Hy → R (List D × Hy)
def AW (K : PySem.W.Frag) (ι : List Addr) (H : Hp) (Q : List V → Hp → Prop) (p : List D × Hy) : Prop := ∀ ι' H' vs, Ext ι H ι' H' → Rh K ι' H' p.2 → Reps K ι' H' vs p.1 → Q vs H'
theorem AW.ext {K : PySem.W.Frag} {ι ι' : List Addr} {H H' : Hp} {Q : List V → Hp → Prop} {p : List D × Hy} (x : AW K ι H Q p) (e : Ext ι H ι' H') : AW K ι' H' Q p := fun ι2 H2 v e2 r q => x ι2 H2 v (e.trans e2) r q
def tA (K : PySem.W.Frag) (W : WX) (f : FA) : TA := fun σ H Q => ∃ ι ρ h, RepX K ι H σ ρ ∧ Rh K ι H h ∧ Good (f ρ h) (AW K ι H Q) (XW K W ι σ H)
/-- how a statement ends -/
inductive RS where
  | nx (ρ : Env) (h : Hy) | rt (d : D) (h : Hy) | bk (ρ : Env) (h : Hy) | ct (ρ : Env) (h : Hy) | exc (c : String) (at_ : Option D) (ρ : Env) (h : Hy) | stuck
abbrev FS := Env → Hy → RS
def GoodS (K : PySem.W.Frag) (W : WX) (ι : List Addr) (H : Hp) (D : Ends) : RS → Prop
  | .nx ρ h => ∀ ι' H' σ, Ext ι H ι' H' → Rh K ι' H' h → RepX K ι' H' σ ρ → D.nx σ H'
  | .rt d h => ∀ ι' H' v, Ext ι H ι' H' → Rh K ι' H' h → Rep K ι' H' v d → D.rt v H'
  | .bk ρ h => ∀ ι' H' σ, Ext ι H ι' H' → Rh K ι' H' h → RepX K ι' H' σ ρ → D.bk σ H'
  | .ct ρ h => ∀ ι' H' σ, Ext ι H ι' H' → Rh K ι' H' h → RepX K ι' H' σ ρ → D.ct σ H'
  | .exc c d ρ h => ∀ ι' H' σ, Ext ι H ι' H' → Rh K ι' H' h → RepX K ι' H' σ ρ → xwish K W ι' σ H' c d
  | .stuck => False
theorem GoodS.ext {K : PySem.W.Frag} {W : WX} {ι ι' : List Addr} {H H' : Hp} {D : Ends} {r : RS} (x : GoodS K W ι H D r) (e : Ext ι H ι' H') : GoodS K W ι' H' D r := by
  cases r with
  | nx ρ h => exact fun ι2 H2 σ e2 a b => x ι2 H2 σ (e.trans e2) a b
  | rt d h => exact fun ι2 H2 v e2 a b => x ι2 H2 v (e.trans e2) a b
  | bk ρ h => exact fun ι2 H2 σ e2 a b => x ι2 H2 σ (e.trans e2) a b
  | ct ρ h => exact fun ι2 H2 σ e2 a b => x ι2 H2 σ (e.trans e2) a b
  | exc c d ρ h => exact fun ι2 H2 σ e2 a b => x ι2 H2 σ (e.trans e2) a b
  | stuck => exact x
def tS (K : PySem.W.Frag) (W : WX) (f : FS) : TS := fun D σ H => ∃ ι ρ h, RepX K ι H σ ρ ∧ Rh K ι H h ∧ GoodS K W ι H D (f ρ h)
/-- an expression's outcome goes on into a statement's -/
def R.toS {α : Type} (r : R α) (ρ : Env) (f : α → RS) : RS := match r with
  | .ok a => f a
  | .exc c d h => .exc c d ρ h
  | .stuck => .stuck
@[simp] theorem R.toS_ok {α : Type} (a : α) (ρ : Env) (f : α → RS) : (R.ok a).toS ρ f = f a := rfl
@[simp] theorem R.toS_exc {α : Type} (c d h) (ρ : Env) (f : α → RS) : (R.exc c d h : R α).toS ρ f = .exc c d ρ h := rfl
@[simp] theorem R.toS_stuck {α : Type} (ρ : Env) (f : α → RS) : (R.stuck : R α).toS ρ f = .stuck := rfl
theorem GoodS.toS {α : Type} {K : PySem.W.Frag} {W : WX} {ι : List Addr} {H : Hp} {D : Ends} {r : R α} {ρ : Env} {f : α → RS} {σ : L2.St} (hσ : RepX K ι H σ ρ) (g : GoodS K W ι H D (r.toS ρ f)) :
    Good r (fun a => GoodS K W ι H D (f a)) (XW K W ι σ H) := by
  cases r with
  | ok a => exact g
  | exc c d h => exact fun ι' H' e rh => g ι' H' σ e rh (hσ.ext e)
  | stuck => exact g
/-! ## judgements: syntax does as the semantic function says -/
structure PX (X : Cx) (W : WX) (e : Expr) (f : FE) : Prop where
  pe : PE X e (tE X.K W f)
structure PXT (X : Cx) (W : WX) (e : Expr) (f : FT) : Prop where
  pt : PT X e (tT X.K W f)
structure PXA (X : Cx) (W : WX) (es : List Expr) (f : FA) : Prop where
  pa : PA X es (tA X.K W f)
structure PXS (X : Cx) (W : WX) (st : Stmt) (f : FS) : Prop where
  ps : PS X st (tS X.K W f)
structure PXB (X : Cx) (W : WX) (st : List Stmt) (f : FS) : Prop where
  ps : PSs X st (tS X.K W f)
theorem PE.mono {X : Cx} {e : Expr} {t t' : TE} (h : PE X e t) (hi : ∀ σ H Q, t' σ H Q → t σ H Q) : PE X e t' := ⟨fun pins s σ H Q I q => h.run pins s σ H Q I (hi _ _ _ q)⟩
theorem PT.mono {X : Cx} {e : Expr} {t t' : TT} (h : PT X e t) (hi : ∀ σ H Q, t' σ H Q → t σ H Q) : PT X e t' := ⟨fun pins s σ H Q I q => h.run pins s σ H Q I (hi _ _ _ q)⟩
theorem PA.mono {X : Cx} {e : List Expr} {t t' : TA} (h : PA X e t) (hi : ∀ σ H Q, t' σ H Q → t σ H Q) : PA X e t' := ⟨fun pos pins s σ H Q I q => h.run pos pins s σ H Q I (hi _ _ _ q)⟩
theorem PS.mono {X : Cx} {e : Stmt} {t t' : TS} (h : PS X e t) (hi : ∀ D σ H, t' D σ H → t D σ H) : PS X e t' := ⟨fun pins s σ H D I q => h.run pins s σ H D I (hi _ _ _ q)⟩
theorem PSs.mono {X : Cx} {e : List Stmt} {t t' : TS} (h : PSs X e t) (hi : ∀ D σ H, t' D σ H → t D σ H) : PSs X e t' := ⟨fun pins s σ H D I q => h.run pins s σ H D I (hi _ _ _ q)⟩
end Px
namespace Px
open PySem PySem.Spec PyProof.Rows L2
/-! ## names, constants -/
def eVar (i : Nat) : FE := fun ρ h => match ρ[i]? with
  | some (some d) => .ok (d, h)
  | _ => .stuck
def eC (d : D) : FE := fun _ h => .ok (d, h)
section
variable {X : Cx} {W : WX} {pos : Pos}
theorem px_var (i : Nat) {x : Str} (hN : X.N[i]? = some x := by rfl) (hv : Vis X.env.scope x := by first | exact Or.inl rfl | exact Or.inr (Or.inl rfl) | exact Or.inr (Or.inr rfl)) (hd : (x == ("__debug__" : Str)) = false := by decide)
    (hcd : (x == ("__classdict__" : Str)) = false := by decide) : PX X W (.Name x pos) (eVar i) := by
  refine ⟨PE.mono (pe_var hN hv hd hcd) fun σ H Q ⟨ι, ρ, h, hρ, hh, g⟩ => ?_⟩
  unfold eVar at g
  split at g
  · rename_i d e
    obtain ⟨v, hv, r⟩ := hρ.2 _ _ e
    exact ⟨v, hv, g ι H v Ext.refl hh r⟩
  · exact g.elim
theorem px_of {e : Expr} {v : V} {d : D} (he : PE X e (tC v)) (r : ∀ ι H, Rep X.K ι H v d) : PX X W e (eC d) :=
  ⟨PE.mono he fun σ H Q ⟨ι, ρ, h, hρ, hh, g⟩ => g ι H v Ext.refl hh (r ι H)⟩
theorem px_int {i : Int} {j : Nat} : PX X W (.Constant (.int i) j pos) (eC (.int i)) := px_of pe_int fun _ _ => .int i
theorem px_bl {i : Bool} {j : Nat} : PX X W (.Constant (.bool i) j pos) (eC (.bl i)) := px_of pe_bl fun _ _ => .bl i
theorem px_non {j : Nat} : PX X W (.Constant .none j pos) (eC .non) := px_of pe_non fun _ _ => .non
theorem px_str {j : Nat} {s : String} : PX X W (.Constant (.str (Str.ofString s)) j pos) (eC (.str s.toList)) := px_of (v := .str (Str.ofString s)) pe_str fun _ _ => by
  rw [← toS_lit]
  exact .str _
end
/-! ## two expressions and an operation -/
def bin (g : D → D → Hy → R (D × Hy)) (fa fb : FE) : FE := fun ρ h => (fa ρ h).bind fun p => (fb ρ p.2).bind fun q => g p.1 q.1 q.2
def un (g : D → Hy → R (D × Hy)) (fa : FE) : FE := fun ρ h => (fa ρ h).bind fun p => g p.1 p.2
def Imp2 (K : PySem.W.Frag) (W : WX) (g : D → D → Hy → R (D × Hy)) (r : R2) : Prop :=
  ∀ (ι : List Addr) (H : Hp) (h : Hy) (σ : L2.St) (x y : D) (vx vy : V) (Q : VK), Rh K ι H h → Rep K ι H vx x → Rep K ι H vy y → Good (g x y h) (VW K ι H Q) (XW K W ι σ H) → r vx vy H Q
def Imp1 (K : PySem.W.Frag) (W : WX) (g : D → Hy → R (D × Hy)) (r : V → Hp → VK → Prop) : Prop :=
  ∀ (ι : List Addr) (H : Hp) (h : Hy) (σ : L2.St) (x : D) (vx : V) (Q : VK), Rh K ι H h → Rep K ι H vx x → Good (g x h) (VW K ι H Q) (XW K W ι σ H) → r vx H Q
theorem tE_in {K : PySem.W.Frag} {W : WX} {f : FE} {σ : L2.St} {H : Hp} {Q : VK} {ι : List Addr} {ρ : Env} {h : Hy} (hρ : RepX K ι H σ ρ) (hh : Rh K ι H h) {ok : D × Hy → Prop} (g : Good (f ρ h) ok (XW K W ι σ H))
    (k : ∀ p, ok p → VW K ι H Q p) : tE K W f σ H Q := ⟨ι, ρ, h, hρ, hh, g.mono k fun _ _ _ z => z⟩
/-- an expression in front -/
theorem tE_seq {K : PySem.W.Frag} {W : WX} {f : FE} {k : D × Hy → R (D × Hy)} {σ : L2.St} {H : Hp} {Q Q' : VK} {ι : List Addr} {ρ : Env} {h : Hy} (hρ : RepX K ι H σ ρ) (hh : Rh K ι H h)
    (g : Good ((f ρ h).bind k) (VW K ι H Q) (XW K W ι σ H)) (c : ∀ p ι' H' v, Ext ι H ι' H' → Rh K ι' H' p.2 → Rep K ι' H' v p.1 → RepX K ι' H' σ ρ → Good (k p) (VW K ι' H' Q) (XW K W ι' σ H') → Q' v H') : tE K W f σ H Q' :=
  tE_in hρ hh g.bind fun p q ι' H' v e r rv => c p ι' H' v e r rv (hρ.ext e) (q.mono (fun _ z => z.ext e) fun _ _ _ z => z.ext e)
section
variable {X : Cx} {W : WX} {pos : Pos} {a b : Expr} {fa fb fc : FE}
theorem bin_mono {g : D → D → Hy → R (D × Hy)} {r : R2} (hg : Imp2 X.K W g r) {σ : L2.St} {H : Hp} {Q : VK} : tE X.K W (bin g fa fb) σ H Q → tOp r (tE X.K W fa) (tE X.K W fb) σ H Q :=
  fun ⟨ι, ρ, h, hρ, hh, q⟩ => tE_seq hρ hh q fun p ι1 H1 v1 e1 h1 r1 hρ1 q1 => tE_seq hρ1 h1 q1 fun p2 ι2 H2 v2 e2 h2 r2 hρ2 q2 => hg ι2 H2 p2.2 σ p.1 p2.1 v1 v2 Q h2 (r1.ext e2) r2 q2
theorem px_bin {op : Operator} {g : D → D → Hy → R (D × Hy)} {r : R2} (ho : OpR X (binaryOp op) r) (hg : Imp2 X.K W g r) (ha : PX X W a fa) (hb : PX X W b fb) : PX X W (.BinOp a op b pos) (bin g fa fb) :=
  ⟨PE.mono (pe_op ho ha.pe hb.pe) fun _ _ _ => bin_mono hg⟩
theorem px_cmp {op : CmpOp} {g : D → D → Hy → R (D × Hy)} {r : R2} (ho : OpR X (compareOp op) r) (hg : Imp2 X.K W g r) (ha : PX X W a fa) (hb : PX X W b fb) (hm : behindInMarks op b = false) : PX X W (.Compare a [op] [b] pos) (bin g fa fb) :=
  ⟨PE.mono (pe_cmpR ho ha.pe hb.pe hm) fun _ _ _ => bin_mono hg⟩
theorem px_un {op : UnaryOp} {g : D → Hy → R (D × Hy)} {r : V → Hp → VK → Prop} (ho : UnR X (unaryOp op) r) (hg : Imp1 X.K W g r) (ha : PX X W a fa) : PX X W (.UnaryOp op a pos) (un g fa) :=
  ⟨PE.mono (pe_un ho ha.pe) fun σ H Q ⟨ι, ρ, h, hρ, hh, q⟩ => tE_seq hρ hh q fun p ι1 H1 v1 e1 h1 r1 hρ1 q1 => hg ι1 H1 p.2 σ p.1 v1 Q h1 r1 q1⟩
/-- a op b op' c -/
def chain (g g' : D → D → Hy → R (D × Hy)) (fa fb fc : FE) : FE := fun ρ h => (fa ρ h).bind fun p => (fb ρ p.2).bind fun q => (g p.1 q.1 q.2).bind fun r => match r.1 with
  | .bl true => (fc ρ r.2).bind fun s => g' q.1 s.1 s.2
  | .bl false => .ok (.bl false, r.2)
  | _ => .stuck
/-- the result is a truth, in the same heap -/
def Truth2 (g : D → D → Hy → R (D × Hy)) : Prop := ∀ x y h, (∃ b, g x y h = .ok (.bl b, h)) ∨ g x y h = .stuck
theorem px_chain {op op' : CmpOp} {g g' : D → D → Hy → R (D × Hy)} {r r' : R2} {c : Expr} (ho : OpR X (compareOp op) r) (ho' : OpR X (compareOp op') r') (hg : Imp2 X.K W g r) (hg' : Imp2 X.K W g' r') (ht : Truth2 g)
    (ha : PX X W a fa) (hb : PX X W b fb) (hc : PX X W c fc) (hm : lastMarks [op, op'] [b, c] = false := by with_unfolding_all rfl) : PX X W (.Compare a [op, op'] [b, c] pos) (chain g g' fa fb fc) := by
  refine ⟨PE.mono (pe_chain ho ho' ha.pe hb.pe hc.pe hm) fun σ H Q ⟨ι, ρ, h, hρ, hh, q⟩ => ?_⟩
  refine tE_seq hρ hh q fun p ι1 H1 v1 e1 h1 r1 hρ1 q1 => tE_seq hρ1 h1 q1 fun p2 ι2 H2 v2 e2 h2 r2 hρ2 q2 => ?_
  rcases ht p.1 p2.1 p2.2 with ⟨t, et⟩ | et
  · rw [et, R.bind_ok] at q2
    refine hg ι2 H2 p2.2 σ p.1 p2.1 v1 v2 _ h2 (r1.ext e2) r2 ?_
    rw [et]
    intro ι3 H3 v3 e3 h3 r3
    cases r3
    refine ⟨t, rfl, ?_⟩
    have q3 := q2.mono (fun _ z => VW.ext z e3) fun _ _ _ z => XW.ext z e3
    cases t with
    | false =>
      rw [if_neg Bool.false_ne_true]
      exact q3 ι3 H3 (.bl false) Ext.refl h3 (.bl false)
    | true =>
      rw [if_pos rfl]
      exact tE_seq (hρ2.ext e3) h3 q3 fun p4 ι4 H4 v4 e4 h4 r4 hρ4 q4 => hg' ι4 H4 p4.2 σ p2.1 p4.1 v2 v4 Q h4 ((r2.ext e3).ext e4) r4 q4
  · rw [et] at q2
    exact q2.elim
end
/-! ## tests, and, or, not, if else -/
def bOf (f : FE) : FT := fun ρ h => (f ρ h).bind fun p => match p.1 with
  | .bl b => .ok (b, p.2)
  | _ => .stuck
def eB (f : FT) : FE := fun ρ h => (f ρ h).bind fun p => .ok (.bl p.1, p.2)
section
variable {X : Cx} {W : WX} {pos : Pos} {a b : Expr} {fa fb : FE} {ta tb : FT} {rest : List Expr}
theorem tB_of {σ : L2.St} {H : Hp} {Q : Bool → Hp → Prop} : tT X.K W (bOf fa) σ H Q → tB (tE X.K W fa) σ H Q := fun ⟨ι, ρ, h, hρ, hh, g⟩ => by
  refine tE_in (ok := fun p => Good (match p.1 with | .bl b => R.ok (b, p.2) | _ => .stuck) (BW X.K ι H Q) (XW X.K W ι σ H)) hρ hh g.bind fun p q ι1 H1 v1 e1 h1 r1 => ?_
  obtain ⟨d, h'⟩ := p
  cases d with
  | bl c =>
    cases r1
    exact ⟨c, rfl, q ι1 H1 e1 h1⟩
  | _ => exact q.elim
/-- a comparison as a test -/
theorem pxt_cmp {op : CmpOp} {g : D → D → Hy → R (D × Hy)} {r : R2} (ho : OpR X (compareOp op) r) (hg : Imp2 X.K W g r) (ha : PX X W a fa) (hb : PX X W b fb) (hm : behindInMarks op b = false) : PXT X W (.Compare a [op] [b] pos) (bOf (bin g fa fb)) :=
  ⟨PT.mono (pt_cmpR ho ha.pe hb.pe hm) fun σ H Q q => bin_mono (X := X) (W := W) hg (tB_of (X := X) q)⟩
theorem pxt_chain {op op' : CmpOp} {g g' : D → D → Hy → R (D × Hy)} {r r' : R2} {c : Expr} {fc : FE} (ho : OpR X (compareOp op) r) (ho' : OpR X (compareOp op') r') (hg : Imp2 X.K W g r) (hg' : Imp2 X.K W g' r') (ht : Truth2 g)
    (ha : PX X W a fa) (hb : PX X W b fb) (hc : PX X W c fc) (hm : lastMarks [op, op'] [b, c] = false := by with_unfolding_all rfl) : PXT X W (.Compare a [op, op'] [b, c] pos) (bOf (chain g g' fa fb fc)) := by
  refine ⟨PT.mono (pt_chain ho ho' ha.pe hb.pe hc.pe hm) fun σ H Q q => ?_⟩
  have q := tB_of (X := X) q
  obtain ⟨ι, ρ, h, hρ, hh, q⟩ := q
  refine tE_seq hρ hh q fun p ι1 H1 v1 e1 h1 r1 hρ1 q1 => tE_seq hρ1 h1 q1 fun p2 ι2 H2 v2 e2 h2 r2 hρ2 q2 => ?_
  rcases ht p.1 p2.1 p2.2 with ⟨t, et⟩ | et
  · rw [et, R.bind_ok] at q2
    refine hg ι2 H2 p2.2 σ p.1 p2.1 v1 v2 _ h2 (r1.ext e2) r2 ?_
    rw [et]
    intro ι3 H3 v3 e3 h3 r3
    cases r3
    refine ⟨t, rfl, ?_⟩
    have q3 := q2.mono (fun _ z => VW.ext z e3) fun _ _ _ z => XW.ext z e3
    cases t with
    | false =>
      rw [if_neg Bool.false_ne_true]
      exact q3 ι3 H3 (.bl false) Ext.refl h3 (.bl false)
    | true =>
      rw [if_pos rfl]
      exact tE_seq (hρ2.ext e3) h3 q3 fun p4 ι4 H4 v4 e4 h4 r4 hρ4 q4 => hg' ι4 H4 p4.2 σ p2.1 p4.1 v2 v4 _ h4 ((r2.ext e3).ext e4) r4 q4
  · rw [et] at q2
    exact q2.elim
theorem pxt_val {e : Expr} (h : PX X W e fa) (he : ∀ whole, isTrue e X.env whole = (do let v ← whole; standAt e.pos; holding [v] (truthy v)) := by intro _; rfl) : PXT X W e (bOf fa) :=
  ⟨PT.mono (pt_val h.pe he) fun σ H Q q => tB_of (X := X) q⟩
/-- a test in front -/
theorem tT_seq {α : Type} {K : PySem.W.Frag} {f : FT} {k : Bool × Hy → R α} {σ : L2.St} {H : Hp} {Q' : Bool → Hp → Prop} {ι : List Addr} {ρ : Env} {h : Hy} {ok : List Addr → Hp → α → Prop} (hok : ∀ ι' H' p, Ext ι H ι' H' → ok ι H p → ok ι' H' p) (hρ : RepX K ι H σ ρ) (hh : Rh K ι H h)
    (g : Good ((f ρ h).bind k) (ok ι H) (XW K W ι σ H)) (c : ∀ p ι' H', Ext ι H ι' H' → Rh K ι' H' p.2 → RepX K ι' H' σ ρ → Good (k p) (ok ι' H') (XW K W ι' σ H') → Q' p.1 H') : tT K W f σ H Q' :=
  ⟨ι, ρ, h, hρ, hh, g.bind.mono (fun p q ι' H' e r => c p ι' H' e r (hρ.ext e) (q.mono (fun _ z => hok _ _ _ e z) fun _ _ _ z => z.ext e)) fun _ _ _ z => z⟩
theorem tE_seqG {α : Type} {K : PySem.W.Frag} {f : FE} {k : D × Hy → R α} {σ : L2.St} {H : Hp} {Q' : VK} {ι : List Addr} {ρ : Env} {h : Hy} {ok : List Addr → Hp → α → Prop} (hok : ∀ ι' H' p, Ext ι H ι' H' → ok ι H p → ok ι' H' p) (hρ : RepX K ι H σ ρ) (hh : Rh K ι H h)
    (g : Good ((f ρ h).bind k) (ok ι H) (XW K W ι σ H)) (c : ∀ p ι' H' v, Ext ι H ι' H' → Rh K ι' H' p.2 → Rep K ι' H' v p.1 → RepX K ι' H' σ ρ → Good (k p) (ok ι' H') (XW K W ι' σ H') → Q' v H') : tE K W f σ H Q' :=
  ⟨ι, ρ, h, hρ, hh, g.bind.mono (fun p q ι' H' v e r rv => c p ι' H' v e r rv (hρ.ext e) (q.mono (fun _ z => hok _ _ _ e z) fun _ _ _ z => z.ext e)) fun _ _ _ z => z⟩
theorem VW.hok {K : PySem.W.Frag} {ι : List Addr} {H : Hp} {Q : VK} : ∀ ι' H' p, Ext ι H ι' H' → VW K ι H Q p → VW K ι' H' Q p := fun _ _ _ e z => z.ext e
theorem BW.hok {K : PySem.W.Frag} {ι : List Addr} {H : Hp} {Q : Bool → Hp → Prop} : ∀ ι' H' p, Ext ι H ι' H' → BW K ι H Q p → BW K ι' H' Q p := fun _ _ _ e z => z.ext e
theorem AW.hok {K : PySem.W.Frag} {ι : List Addr} {H : Hp} {Q : List V → Hp → Prop} : ∀ ι' H' p, Ext ι H ι' H' → AW K ι H Q p → AW K ι' H' Q p := fun _ _ _ e z => z.ext e
theorem tT_seqB {K : PySem.W.Frag} {f : FT} {k : Bool × Hy → R (Bool × Hy)} {σ : L2.St} {H : Hp} {Q : Bool → Hp → Prop} {Q' : Bool → Hp → Prop} {ι : List Addr} {ρ : Env} {h : Hy} (hρ : RepX K ι H σ ρ) (hh : Rh K ι H h)
    (g : Good ((f ρ h).bind k) (BW K ι H Q) (XW K W ι σ H)) (c : ∀ p ι' H', Ext ι H ι' H' → Rh K ι' H' p.2 → RepX K ι' H' σ ρ → Good (k p) (BW K ι' H' Q) (XW K W ι' σ H') → Q' p.1 H') : tT K W f σ H Q' :=
  tT_seq (ok := fun ι H => BW K ι H Q) BW.hok hρ hh g c
theorem tT_seqV {K : PySem.W.Frag} {f : FT} {k : Bool × Hy → R (D × Hy)} {σ : L2.St} {H : Hp} {Q : VK} {Q' : Bool → Hp → Prop} {ι : List Addr} {ρ : Env} {h : Hy} (hρ : RepX K ι H σ ρ) (hh : Rh K ι H h)
    (g : Good ((f ρ h).bind k) (VW K ι H Q) (XW K W ι σ H)) (c : ∀ p ι' H', Ext ι H ι' H' → Rh K ι' H' p.2 → RepX K ι' H' σ ρ → Good (k p) (VW K ι' H' Q) (XW K W ι' σ H') → Q' p.1 H') : tT K W f σ H Q' :=
  tT_seq (ok := fun ι H => VW K ι H Q) VW.hok hρ hh g c
theorem tE_seqA {K : PySem.W.Frag} {f : FE} {k : D × Hy → R (List D × Hy)} {σ : L2.St} {H : Hp} {Q : List V → Hp → Prop} {Q' : VK} {ι : List Addr} {ρ : Env} {h : Hy} (hρ : RepX K ι H σ ρ) (hh : Rh K ι H h)
    (g : Good ((f ρ h).bind k) (AW K ι H Q) (XW K W ι σ H)) (c : ∀ p ι' H' v, Ext ι H ι' H' → Rh K ι' H' p.2 → Rep K ι' H' v p.1 → RepX K ι' H' σ ρ → Good (k p) (AW K ι' H' Q) (XW K W ι' σ H') → Q' v H') : tE K W f σ H Q' :=
  tE_seqG (ok := fun ι H => AW K ι H Q) AW.hok hρ hh g c
theorem tE_seqB {K : PySem.W.Frag} {f : FE} {k : D × Hy → R (Bool × Hy)} {σ : L2.St} {H : Hp} {Q : Bool → Hp → Prop} {Q' : VK} {ι : List Addr} {ρ : Env} {h : Hy} (hρ : RepX K ι H σ ρ) (hh : Rh K ι H h)
    (g : Good ((f ρ h).bind k) (BW K ι H Q) (XW K W ι σ H)) (c : ∀ p ι' H' v, Ext ι H ι' H' → Rh K ι' H' p.2 → Rep K ι' H' v p.1 → RepX K ι' H' σ ρ → Good (k p) (BW K ι' H' Q) (XW K W ι' σ H') → Q' v H') : tE K W f σ H Q' :=
  tE_seqG (ok := fun ι H => BW K ι H Q) BW.hok hρ hh g c
def tAnd (ta tb : FT) : FT := fun ρ h => (ta ρ h).bind fun p => if p.1 then tb ρ p.2 else .ok (false, p.2)
def tOr (ta tb : FT) : FT := fun ρ h => (ta ρ h).bind fun p => if p.1 then .ok (true, p.2) else tb ρ p.2
def tNot (ta : FT) : FT := fun ρ h => (ta ρ h).bind fun p => .ok (!p.1, p.2)
structure PXW (X : Cx) (W : WX) (e : Expr) (f : FT) : Prop where
  pw : PW X e (tT X.K W f)
theorem PW.mono {X : Cx} {e : Expr} {t t' : TT} (h : PW X e t) (hi : ∀ σ H Q, t' σ H Q → t σ H Q) : PW X e t' := ⟨fun wh pins s σ H Q I q => h.run wh pins s σ H Q I (hi _ _ _ q)⟩
theorem pxw_and1 (ha : PXT X W a ta) : PXW X W (.BoolOp .And [a] pos) ta := ⟨pw_and1 ha.pt⟩
theorem pxw_or1 (ha : PXT X W a ta) : PXW X W (.BoolOp .Or [a] pos) ta := ⟨pw_or1 ha.pt⟩
theorem pxw_and (ha : PXT X W a ta) (hb : PXW X W (.BoolOp .And (b :: rest) pos) tb) : PXW X W (.BoolOp .And (a :: b :: rest) pos) (tAnd ta tb) := by
  refine ⟨PW.mono (pw_and ha.pt hb.pw) fun σ H Q ⟨ι, ρ, h, hρ, hh, q⟩ => tT_seqB hρ hh q fun p ι1 H1 e1 h1 hρ1 q1 => ?_⟩
  cases hp : p.1 with
  | true =>
    rw [hp] at q1
    exact ⟨ι1, ρ, p.2, hρ1, h1, q1⟩
  | false =>
    rw [hp] at q1
    exact q1 ι1 H1 Ext.refl h1
theorem pxw_or (ha : PXT X W a ta) (hb : PXW X W (.BoolOp .Or (b :: rest) pos) tb) : PXW X W (.BoolOp .Or (a :: b :: rest) pos) (tOr ta tb) := by
  refine ⟨PW.mono (pw_or ha.pt hb.pw) fun σ H Q ⟨ι, ρ, h, hρ, hh, q⟩ => tT_seqB hρ hh q fun p ι1 H1 e1 h1 hρ1 q1 => ?_⟩
  cases hp : p.1 with
  | false =>
    rw [hp] at q1
    exact ⟨ι1, ρ, p.2, hρ1, h1, q1⟩
  | true =>
    rw [hp] at q1
    exact q1 ι1 H1 Ext.refl h1
theorem PXW.pxt {e : Expr} (h : PXW X W e ta) : PXT X W e ta := ⟨h.pw.pt⟩
theorem pxt_not (ha : PXT X W a ta) : PXT X W (.UnaryOp .Not a pos) (tNot ta) :=
  ⟨PT.mono (pt_not ha.pt) fun σ H Q ⟨ι, ρ, h, hρ, hh, q⟩ => tT_seqB hρ hh q fun p ι1 H1 e1 h1 hρ1 q1 => q1 ι1 H1 Ext.refl h1⟩
/-- .. as values: what stands ahead is a truth -/
def eAnd (fa fb : FE) : FE := fun ρ h => (fa ρ h).bind fun p => match p.1 with
  | .bl true => fb ρ p.2
  | .bl false => .ok (.bl false, p.2)
  | _ => .stuck
def eOr (fa fb : FE) : FE := fun ρ h => (fa ρ h).bind fun p => match p.1 with
  | .bl true => .ok (.bl true, p.2)
  | .bl false => fb ρ p.2
  | _ => .stuck
def eNot (fa : FE) : FE := fun ρ h => (fa ρ h).bind fun p => match p.1 with
  | .bl b => .ok (.bl (!b), p.2)
  | _ => .stuck
theorem px_one {op : BoolOp} (h : PX X W a fa) : PX X W (.BoolOp op [a] pos) fa := ⟨pe_one h.pe⟩
theorem px_and (ha : PX X W a fa) (hb : PX X W (.BoolOp .And (b :: rest) pos) fb) : PX X W (.BoolOp .And (a :: b :: rest) pos) (eAnd fa fb) := by
  refine ⟨PE.mono (pe_and ha.pe hb.pe) fun σ H Q ⟨ι, ρ, h, hρ, hh, q⟩ => tE_seq hρ hh q fun p ι1 H1 v1 e1 h1 r1 hρ1 q1 => ?_⟩
  obtain ⟨d, h'⟩ := p
  cases d with
  | bl c =>
    cases r1
    refine ⟨c, rfl, ?_⟩
    cases c with
    | true => exact iteT ⟨ι1, ρ, h', hρ1, h1, q1⟩
    | false => exact iteF (q1 ι1 H1 _ Ext.refl h1 (.bl false))
  | _ => exact q1.elim
theorem px_or (ha : PX X W a fa) (hb : PX X W (.BoolOp .Or (b :: rest) pos) fb) : PX X W (.BoolOp .Or (a :: b :: rest) pos) (eOr fa fb) := by
  refine ⟨PE.mono (pe_or ha.pe hb.pe) fun σ H Q ⟨ι, ρ, h, hρ, hh, q⟩ => tE_seq hρ hh q fun p ι1 H1 v1 e1 h1 r1 hρ1 q1 => ?_⟩
  obtain ⟨d, h'⟩ := p
  cases d with
  | bl c =>
    cases r1
    refine ⟨c, rfl, ?_⟩
    cases c with
    | false => exact iteF ⟨ι1, ρ, h', hρ1, h1, q1⟩
    | true => exact iteT (q1 ι1 H1 _ Ext.refl h1 (.bl true))
  | _ => exact q1.elim
theorem px_not (ha : PX X W a fa) : PX X W (.UnaryOp .Not a pos) (eNot fa) := by
  refine ⟨PE.mono (pe_not ha.pe) fun σ H Q ⟨ι, ρ, h, hρ, hh, q⟩ => tE_seq hρ hh q fun p ι1 H1 v1 e1 h1 r1 hρ1 q1 => ?_⟩
  obtain ⟨d, h'⟩ := p
  cases d with
  | bl c =>
    cases r1
    exact ⟨c, rfl, q1 ι1 H1 _ Ext.refl h1 (.bl _)⟩
  | _ => exact q1.elim
def eIf (t : FT) (fa fb : FE) : FE := fun ρ h => (t ρ h).bind fun p => if p.1 then fa ρ p.2 else fb ρ p.2
theorem px_if {c : Expr} (hc : PXT X W c ta) (ha : PX X W a fa) (hb : PX X W b fb) : PX X W (.IfExp c a b pos) (eIf ta fa fb) := by
  refine ⟨PE.mono (pe_ifExp hc.pt ha.pe hb.pe) fun σ H Q ⟨ι, ρ, h, hρ, hh, q⟩ => tT_seqV hρ hh q fun p ι1 H1 e1 h1 hρ1 q1 => ?_⟩
  cases hp : p.1 with
  | true =>
    rw [hp] at q1
    exact iteT ⟨ι1, ρ, p.2, hρ1, h1, q1⟩
  | false =>
    rw [hp] at q1
    exact iteF ⟨ι1, ρ, p.2, hρ1, h1, q1⟩
end
/-! ## rows of expressions, displays -/
def aNil : FA := fun _ h => .ok ([], h)
def aCons (f : FE) (r : FA) : FA := fun ρ h => (f ρ h).bind fun p => (r ρ p.2).bind fun q => .ok (p.1 :: q.1, q.2)
/-- a new object of ours -/
def new (u : Ob) (h : Hy) : R (D × Hy) := .ok (.ref h.length, h ++ [u])
def mkTup (xs : List D) (h : Hy) : R (D × Hy) := if xs.length ≤ 16777216 then .ok (.tup xs, h) else .stuck
def mkLst (xs : List D) (h : Hy) : R (D × Hy) := if xs.length ≤ 16777216 then new (.lst xs) h else .stuck
def eTup (fa : FA) : FE := fun ρ h => (fa ρ h).bind fun p => mkTup p.1 p.2
def eLst (fa : FA) : FE := fun ρ h => (fa ρ h).bind fun p => mkLst p.1 p.2
theorem line_le {n : Nat} (h : n ≤ 16777216) : n ≤ sizeLine := by rw [sizeLine_eq]; exact h
theorem line_ge {n : Nat} (h : n ≤ sizeLine) : n ≤ 16777216 := by rw [sizeLine_eq] at h; exact h
theorem tA_seq {β : Type} {K : PySem.W.Frag} {W : WX} {f : FA} {k : List D × Hy → R β} {σ : L2.St} {H : Hp} {Q' : List V → Hp → Prop} {ι : List Addr} {ρ : Env} {h : Hy} {ok : List Addr → Hp → β → Prop} (hok : ∀ ι' H' p, Ext ι H ι' H' → ok ι H p → ok ι' H' p) (hρ : RepX K ι H σ ρ) (hh : Rh K ι H h)
    (g : Good ((f ρ h).bind k) (ok ι H) (XW K W ι σ H)) (c : ∀ p ι' H' vs, Ext ι H ι' H' → Rh K ι' H' p.2 → Reps K ι' H' vs p.1 → RepX K ι' H' σ ρ → Good (k p) (ok ι' H') (XW K W ι' σ H') → Q' vs H') : tA K W f σ H Q' :=
  ⟨ι, ρ, h, hρ, hh, g.bind.mono (fun p q ι' H' v e r rv => c p ι' H' v e r rv (hρ.ext e) (q.mono (fun _ z => hok _ _ _ e z) fun _ _ _ z => z.ext e)) fun _ _ _ z => z⟩
theorem tA_seqV {K : PySem.W.Frag} {W : WX} {f : FA} {k : List D × Hy → R (D × Hy)} {σ : L2.St} {H : Hp} {Q : VK} {Q' : List V → Hp → Prop} {ι : List Addr} {ρ : Env} {h : Hy} (hρ : RepX K ι H σ ρ) (hh : Rh K ι H h)
    (g : Good ((f ρ h).bind k) (VW K ι H Q) (XW K W ι σ H)) (c : ∀ p ι' H' vs, Ext ι H ι' H' → Rh K ι' H' p.2 → Reps K ι' H' vs p.1 → RepX K ι' H' σ ρ → Good (k p) (VW K ι' H' Q) (XW K W ι' σ H') → Q' vs H') : tA K W f σ H Q' :=
  tA_seq (ok := fun ι H => VW K ι H Q) VW.hok hρ hh g c
theorem tA_seqA {K : PySem.W.Frag} {W : WX} {f : FA} {k : List D × Hy → R (List D × Hy)} {σ : L2.St} {H : Hp} {Q : List V → Hp → Prop} {Q' : List V → Hp → Prop} {ι : List Addr} {ρ : Env} {h : Hy} (hρ : RepX K ι H σ ρ) (hh : Rh K ι H h)
    (g : Good ((f ρ h).bind k) (AW K ι H Q) (XW K W ι σ H)) (c : ∀ p ι' H' vs, Ext ι H ι' H' → Rh K ι' H' p.2 → Reps K ι' H' vs p.1 → RepX K ι' H' σ ρ → Good (k p) (AW K ι' H' Q) (XW K W ι' σ H') → Q' vs H') : tA K W f σ H Q' :=
  tA_seq (ok := fun ι H => AW K ι H Q) AW.hok hρ hh g c
/-- a new tuple, a new list of ours is what is wanted -/
theorem VW.newTup {K : PySem.W.Frag} {ι : List Addr} {H : Hp} {h : Hy} {Q : VK} {vs : List V} {ds : List D} {p : Addr} (q : VW K ι H Q (.tup ds, h)) (hh : Rh K ι H h) (r : Reps K ι H vs ds) (hp : H p = none) : Q (.ref p) (upd H p (.tup vs)) := by
  obtain ⟨e, hh'⟩ := hh.put (o := .tup vs) hp
  exact q ι _ _ e hh' (.tup (SqT.of upd_same) (r.ext e))
theorem VW.newLst {K : PySem.W.Frag} {ι : List Addr} {H : Hp} {h : Hy} {Q : VK} {vs : List V} {ds : List D} {p : Addr} (q : VW K ι H Q (.ref h.length, h ++ [.lst ds])) (hh : Rh K ι H h) (r : Reps K ι H vs ds) (hp : H p = none) : Q (.ref p) (upd H p (.lst vs)) := by
  have e0 := (hh.put (o := .lst vs) hp).1
  have e1 : Ext ι H (ι ++ [p]) (upd H p (.lst vs)) := ⟨List.prefix_append _ _, e0.tups, e0.frzs, e0.keep, fun a z n => by
    rcases List.mem_append.mp z with z | z
    · exact absurd z n
    · have : a = p := by simpa using z
      rw [this]; exact hp⟩
  obtain ⟨e, hh'⟩ := hh.push (o := .lst vs) (u := .lst ds) hp ⟨vs, upd_same, r.ext e1⟩
  exact q _ _ _ e hh' (.ref (by rw [← hh.len, List.getElem?_append_right (Nat.le_refl _)]; simp))
section
variable {X : Cx} {W : WX} {pos : Pos} {e : Expr} {es : List Expr} {f : FE} {fa : FA}
theorem pxa_nil : PXA X W [] aNil := ⟨PA.mono pa_nil fun σ H Q ⟨ι, ρ, h, hρ, hh, g⟩ => g ι H [] Ext.refl hh .nil⟩
theorem pxa_cons (ha : PX X W e f) (hr : PXA X W es fa) (hs : starEach (e :: es) X.env = (false, eval e X.env) :: starEach es X.env := by rfl) : PXA X W (e :: es) (aCons f fa) := by
  refine ⟨PA.mono (pa_cons ha.pe hr.pa hs) fun σ H Q ⟨ι, ρ, h, hρ, hh, g⟩ => ?_⟩
  refine tE_seqA hρ hh g fun p ι1 H1 v1 e1 h1 r1 hρ1 q1 => tA_seqA hρ1 h1 q1 fun p2 ι2 H2 vs e2 h2 r2 hρ2 q2 => ?_
  exact q2 ι2 H2 _ Ext.refl h2 (.cons (r1.ext e2) r2)
theorem px_tup {k : Nat} (ha : PXA X W es fa) : PX X W (.Tuple es k pos) (eTup fa) := by
  refine ⟨PE.mono (pe_tup ha.pa) fun σ H Q ⟨ι, ρ, h, hρ, hh, g⟩ => tA_seqV hρ hh g fun p ι1 H1 vs e1 h1 r1 hρ1 q1 => ?_⟩
  unfold mkTup at q1
  split at q1
  · rename_i hz
    exact ⟨line_le (by rw [r1.length]; exact hz), fun q hq => VW.newTup q1 h1 r1 hq⟩
  · exact q1.elim
theorem px_lst (ha : PXA X W es fa) : PX X W (.List es pos) (eLst fa) := by
  refine ⟨PE.mono (pe_lst ha.pa) fun σ H Q ⟨ι, ρ, h, hρ, hh, g⟩ => tA_seqV hρ hh g fun p ι1 H1 vs e1 h1 r1 hρ1 q1 => ?_⟩
  unfold mkLst at q1
  split at q1
  · rename_i hz
    exact ⟨line_le (by rw [r1.length]; exact hz), fun q hq => VW.newLst q1 h1 r1 hq⟩
  · exact q1.elim
end
end Px
namespace Px
open PySem PySem.Spec PyProof.Rows L2
/-! ## data as a whole -/
def dp (h : Hy) : Nat → D → Option PyData
  | 0, _ => none
  | _ + 1, .non => some .none
  | _ + 1, .bl b => some (.bool b)
  | _ + 1, .int i => some (.int i)
  | _ + 1, .str s => some (.str (toS s))
  | n + 1, .tup xs => (xs.mapM (dp h n)).map .tuple
  | n + 1, .fl xs => (xs.mapM (dp h n)).map .list
  | n + 1, .ref k => match h[k]? with
    | some (.lst xs) => (xs.mapM (dp h n)).map .list
    | _ => none
  | _ + 1, .fn _ => none
theorem dpAll_of {K : PySem.W.Frag} {ι : List Addr} {H : Hp} {h : Hy} {n : Nat} (ih : ∀ v d p, Rep K ι H v d → dp h n d = some p → Dp K H v p) : ∀ {vs : List V} {ds : List D} {ps : List PyData}, Reps K ι H vs ds → ds.mapM (dp h n) = some ps → DpAll K H vs ps
  | _, _, ps, .nil, e => by
    simp at e
    subst e
    exact .nil
  | _, _, ps, .cons (d := d) (ds := ds) r rs, e => by
    simp only [List.mapM_cons] at e
    cases e1 : dp h n d with
    | none => rw [e1] at e; cases e
    | some p =>
      rw [e1] at e
      cases e2 : ds.mapM (dp h n) with
      | none => rw [e2] at e; cases e
      | some qs =>
        rw [e2] at e
        have e3 : p :: qs = ps := Option.some.inj e
        subst e3
        exact .cons (ih _ _ _ r e1) (dpAll_of ih rs e2)
theorem Dp_of {K : PySem.W.Frag} {ι : List Addr} {H : Hp} {h : Hy} (hh : Rh K ι H h) : ∀ (n : Nat) (v : V) (d : D) (p : PyData), Rep K ι H v d → dp h n d = some p → Dp K H v p
  | 0, _, _, _, _, e => by cases e
  | n + 1, _, _, _, .non, e => by cases e; exact .non
  | n + 1, _, _, _, .bl b, e => by cases e; exact .bl b
  | n + 1, _, _, _, .int i, e => by cases e; exact .int i
  | n + 1, _, _, _, .str s, e => by cases e; exact .str _
  | n + 1, _, _, _, .tup (ds := ds) hs r, e => by
    simp only [dp] at e
    cases e2 : ds.mapM (dp h n) with
    | none => rw [e2] at e; cases e
    | some qs =>
      rw [e2] at e
      cases e
      exact .tup hs (dpAll_of (Dp_of hh n) r e2)
  | n + 1, _, _, _, .fl (ds := ds) hs r, e => by
    simp only [dp] at e
    cases e2 : ds.mapM (dp h n) with
    | none => rw [e2] at e; cases e
    | some qs =>
      rw [e2] at e
      cases e
      exact .lst hs.seq (dpAll_of (Dp_of hh n) r e2)
  | n + 1, _, _, _, .ref (n := k) hk, e => by
    simp only [dp] at e
    cases e1 : h[k]? with
    | none => rw [e1] at e; cases e
    | some o =>
      rw [e1] at e
      cases o with
      | lst ds =>
        obtain ⟨vs, hv, r⟩ := hh.at_ k _ _ hk e1
        simp only at e
        cases e2 : ds.mapM (dp h n) with
        | none => rw [e2] at e; cases e
        | some qs =>
          rw [e2] at e
          cases e
          exact .lst (SqL.of hv) (dpAll_of (Dp_of hh n) r e2)
      | _ => cases e
  | n + 1, _, _, _, .fn x, e => by cases e
theorem dpAll_shape {h : Hy} {n : Nat} (ih : ∀ d p, dp h n d = some p → p.canLay0 = true ∧ p.depth ≤ n) : ∀ {ds : List D} {ps : List PyData}, ds.mapM (dp h n) = some ps → PyData.canLayAll0 ps = true ∧ PyData.depthAll ps ≤ n
  | [], ps, e => by
    simp at e
    subst e
    simp [PyData.canLayAll0, PyData.depthAll]
  | d :: ds, ps, e => by
    simp only [List.mapM_cons] at e
    cases e1 : dp h n d with
    | none => rw [e1] at e; cases e
    | some p =>
      rw [e1] at e
      cases e2 : ds.mapM (dp h n) with
      | none => rw [e2] at e; cases e
      | some qs =>
        rw [e2] at e
        have e3 : p :: qs = ps := Option.some.inj e
        subst e3
        obtain ⟨a, b⟩ := ih _ _ e1
        obtain ⟨c, f⟩ := dpAll_shape ih e2
        simp only [PyData.canLayAll0, PyData.depthAll, a, c, Bool.and_self, true_and]
        omega
theorem dp_shape {h : Hy} : ∀ (n : Nat) (d : D) (p : PyData), dp h n d = some p → p.canLay0 = true ∧ p.depth ≤ n
  | 0, _, _, e => by cases e
  | n + 1, .non, _, e => by cases e; simp [PyData.canLay0, PyData.depth]
  | n + 1, .bl b, _, e => by cases e; simp [PyData.canLay0, PyData.depth]
  | n + 1, .int i, _, e => by cases e; simp [PyData.canLay0, PyData.depth]
  | n + 1, .str s, _, e => by cases e; simp [PyData.canLay0, PyData.depth, strOk_toS]
  | n + 1, .tup ds, _, e => by
    simp only [dp] at e
    cases e2 : ds.mapM (dp h n) with
    | none => rw [e2] at e; cases e
    | some qs =>
      rw [e2] at e
      cases e
      obtain ⟨a, b⟩ := dpAll_shape (dp_shape n) e2
      simp only [PyData.canLay0, PyData.depth, a, true_and]
      omega
  | n + 1, .fl ds, _, e => by
    simp only [dp] at e
    cases e2 : ds.mapM (dp h n) with
    | none => rw [e2] at e; cases e
    | some qs =>
      rw [e2] at e
      cases e
      obtain ⟨a, b⟩ := dpAll_shape (dp_shape n) e2
      simp only [PyData.canLay0, PyData.depth, a, true_and]
      omega
  | n + 1, .ref k, _, e => by
    simp only [dp] at e
    cases e1 : h[k]? with
    | none => rw [e1] at e; cases e
    | some o =>
      rw [e1] at e
      cases o with
      | lst ds =>
        simp only at e
        cases e2 : ds.mapM (dp h n) with
        | none => rw [e2] at e; cases e
        | some qs =>
          rw [e2] at e
          cases e
          obtain ⟨a, b⟩ := dpAll_shape (dp_shape n) e2
          simp only [PyData.canLay0, PyData.depth, a, true_and]
          omega
      | _ => cases e
  | n + 1, .fn _, _, e => by cases e
theorem dp_shaped {h : Hy} {n : Nat} {d : D} {p : PyData} (hn : n ≤ 64) (e : dp h n d = some p) : SeqAt.shaped p = true := by
  obtain ⟨a, b⟩ := dp_shape n d p e
  unfold SeqAt.shaped
  rw [a, Bool.true_and, decide_eq_true_eq]
  omega
/-! ## operators -/
def sAdd (x y : D) (h : Hy) : R (D × Hy) := match x, y with
  | .int i, .int j => .ok (.int (i + j), h)
  | .str a, .str b => if a.length + b.length ≤ 16777216 then .ok (.str (a ++ b), h) else .stuck
  | .tup a, .tup b => if a.length + b.length ≤ 16777216 then .ok (.tup (a ++ b), h) else .stuck
  | .ref m, .ref n => match h[m]?, h[n]? with
    | some (.lst a), some (.lst b) => if a.length + b.length ≤ 16777216 then new (.lst (a ++ b)) h else .stuck
    | _, _ => .stuck
  | _, _ => .stuck
def sSub (x y : D) (h : Hy) : R (D × Hy) := match x, y with
  | .int i, .int j => .ok (.int (i - j), h)
  | _, _ => .stuck
/-- 2 ^ 256 -/
abbrev BIG : Int := 115792089237316195423570985008687907853269984665640564039457584007913129639936
def sMul (x y : D) (h : Hy) : R (D × Hy) := match x, y with
  | .int i, .int j => if -115792089237316195423570985008687907853269984665640564039457584007913129639936 < i ∧ i < 115792089237316195423570985008687907853269984665640564039457584007913129639936 ∧
      -115792089237316195423570985008687907853269984665640564039457584007913129639936 < j ∧ j < 115792089237316195423570985008687907853269984665640564039457584007913129639936 then .ok (.int (i * j), h) else .stuck
  | .ref m, .int k => match h[m]? with
    | some (.lst a) => if a.length * k.toNat ≤ 16777216 ∧ -9000000000000000000 < k ∧ k < 9000000000000000000 then new (.lst (List.replicate k.toNat a).flatten) h else .stuck
    | _ => .stuck
  | .str s, .int k => if s.length * k.toNat ≤ 16777216 ∧ -9000000000000000000 < k ∧ k < 9000000000000000000 then .ok (.str (List.replicate k.toNat s).flatten, h) else .stuck
  | _, _ => .stuck
def sFdiv (x y : D) (h : Hy) : R (D × Hy) := match x, y with
  | .int i, .int j => if 0 < j ∧ j < 115792089237316195423570985008687907853269984665640564039457584007913129639936 then .ok (.int (i / j), h) else .stuck
  | _, _ => .stuck
def sMod (x y : D) (h : Hy) : R (D × Hy) := match x, y with
  | .int i, .int j => if 0 < j then .ok (.int (i % j), h) else .stuck
  | _, _ => .stuck
def sPow (x y : D) (h : Hy) : R (D × Hy) := match x, y with
  | .int i, .int j => if 0 ≤ j ∧ j ≤ 1000000 ∧ -18446744073709551616 < i ∧ i < 18446744073709551616 then .ok (.int (i ^ j.toNat), h) else .stuck
  | _, _ => .stuck
theorem Good.same {K : PySem.W.Frag} {W : WX} {ι : List Addr} {σ : L2.St} {H : Hp} {h : Hy} {Q : VK} {d : D} {v : V} (g : Good (.ok (d, h)) (VW K ι H Q) (XW K W ι σ H)) (hh : Rh K ι H h) (r : Rep K ι H v d) : Q v H := g ι H v Ext.refl hh r
theorem VW.same {K : PySem.W.Frag} {ι : List Addr} {H : Hp} {h : Hy} {Q : VK} {d : D} {v : V} (g : VW K ι H Q (d, h)) (hh : Rh K ι H h) (r : Rep K ι H v d) : Q v H := g ι H v Ext.refl hh r
theorem log_big {i : Int} (h1 : -BIG < i) (h2 : i < BIG) : i.natAbs.log2 < 300 := by
  have : i.natAbs < 2 ^ 256 := by
    have e : (2 ^ 256 : Nat) = 115792089237316195423570985008687907853269984665640564039457584007913129639936 := by decide
    rw [e]
    simp only [BIG] at h1 h2
    omega
  exact Nat.lt_trans (PySem.Flt.log2_lt_of (by decide) this) (by decide)
section
variable {X : Cx} {W : WX}
abbrev rAddG (K : PySem.W.Frag) : R2 := fun x y H Q => (rI0 fun i j => .int (i + j)) x y H Q ∨ (fun x y H Q => ∃ i j, x = .str i ∧ y = .str j ∧ i.length + j.length ≤ sizeLine ∧ Q (.str (i ++ j)) H : R2) x y H Q ∨ rCatA K x y H Q ∨ rCat x y H Q
theorem op_addG : OpR X (binaryOp .Add) (rAddG X.K) := op_add.or (op_add_str.or (op_catA.or op_cat))
theorem imp_add : Imp2 X.K W sAdd (rAddG X.K) := by
  intro ι H h σ x y vx vy Q hh rx ry g
  unfold sAdd at g
  split at g
  · cases rx; cases ry
    exact .inl ⟨_, _, rfl, rfl, g.same hh (.int _)⟩
  · split at g
    · cases rx; cases ry
      rename_i a b hz
      refine .inr (.inl ⟨_, _, rfl, rfl, line_le (by rw [toS_length, toS_length]; exact hz), ?_⟩)
      rw [toS_append]
      exact g.same hh (.str _)
    · exact g.elim
  · split at g
    · cases rx with
      | tup ha ra => cases ry with
        | tup hb rb =>
          rename_i a b hz p1 vs1 p2 vs2
          refine .inr (.inr (.inl ⟨_, _, _, _, rfl, rfl, ha, hb, line_le (by rw [ra.length, rb.length]; exact hz), fun e => ?_, fun e1 e => ?_, fun e1 e2 p hp => ?_⟩))
          · subst e
            cases ra
            exact g.same hh (.tup hb rb)
          · subst e
            cases rb
            refine g.same hh (.tup ha ?_)
            rw [List.append_nil]
            exact ra
          · exact VW.newTup g hh (ra.append rb) hp
    · exact g.elim
  · split at g
    · rename_i m n a b ea eb
      split at g
      · cases rx with
        | ref hm => cases ry with
          | ref hn =>
            obtain ⟨vs, e1, r1⟩ := hh.at_ _ _ _ hm ea
            obtain ⟨ws, e2, r2⟩ := hh.at_ _ _ _ hn eb
            rename_i hz _ _
            refine .inr (.inr (.inr ⟨_, _, _, _, rfl, rfl, e1, e2, line_le (by rw [r1.length, r2.length]; exact hz), fun p hp => VW.newLst g hh (r1.append r2) hp⟩))
      · exact g.elim
    · exact g.elim
  · exact g.elim
theorem imp_sub : Imp2 X.K W sSub (rI0 fun i j => .int (i - j)) := by
  intro ι H h σ x y vx vy Q hh rx ry g
  unfold sSub at g
  split at g
  · cases rx; cases ry
    exact ⟨_, _, rfl, rfl, g.same hh (.int _)⟩
  · exact g.elim
theorem Reps.rep {K : PySem.W.Frag} {ι : List Addr} {H : Hp} {vs : List V} {ds : List D} (r : Reps K ι H vs ds) : ∀ k : Nat, Reps K ι H (List.replicate k vs).flatten (List.replicate k ds).flatten
  | 0 => .nil
  | k + 1 => by
    rw [List.replicate_succ, List.replicate_succ, List.flatten_cons, List.flatten_cons]
    exact r.append (Reps.rep r k)
theorem foldl_cat : ∀ (k : Nat) (xs acc : List Nat), (List.replicate k xs.toArray).foldl (· ++ ·) acc.toArray = (acc ++ (List.replicate k xs).flatten).toArray
  | 0, xs, acc => by simp
  | k + 1, xs, acc => by
    rw [List.replicate_succ, List.foldl_cons]
    have e : acc.toArray ++ xs.toArray = (acc ++ xs).toArray := by simp
    rw [e, foldl_cat k xs (acc ++ xs), List.replicate_succ, List.flatten_cons, List.append_assoc]
theorem cd_rep (s : Tx) : ∀ k : Nat, cd (List.replicate k s).flatten = (List.replicate k (cd s)).flatten
  | 0 => rfl
  | k + 1 => by rw [List.replicate_succ, List.flatten_cons, cd_append, cd_rep s k, List.replicate_succ, List.flatten_cons]
theorem mul_toS (s : Tx) (k : Int) : Txt.mul (toS s) k = toS (List.replicate k.toNat s).flatten := by
  unfold Txt.mul
  by_cases h1 : k < 1
  · rw [if_pos h1]
    have : k.toNat = 0 := by omega
    rw [this]
    rfl
  · rw [if_neg h1]
    by_cases h2 : (k == 1 || (toS s).length == 0) = true
    · rw [if_pos h2]
      rcases Bool.or_eq_true_iff.mp h2 with h2 | h2
      · have : k = 1 := by simpa using h2
        subst this
        simp
      · have : s.length = 0 := by rw [toS_length] at h2; simpa using h2
        have : s = [] := List.length_eq_zero_iff.mp this
        subst this
        have e : ∀ n : Nat, (List.replicate n ([] : Tx)).flatten = [] := fun n => by induction n with
          | zero => rfl
          | succ n ih => rw [List.replicate_succ, List.flatten_cons, ih]; rfl
        rw [e]
    · rw [if_neg h2]
      show (⟨(List.replicate k.toNat (cd s).toArray).foldl (· ++ ·) #[]⟩ : Str) = ⟨(cd _).toArray⟩
      have := foldl_cat k.toNat (cd s) []
      rw [show (#[] : Array Nat) = ([] : List Nat).toArray from rfl, this, cd_rep, List.nil_append]
abbrev rRepS : R2 := fun x y H Q => ∃ (s : Tx) (k : Int), x = .str (toS s) ∧ y = .int k ∧ s.length * k.toNat ≤ 16777216 ∧ -9000000000000000000 < k ∧ k < 9000000000000000000 ∧ Q (.str (toS (List.replicate k.toNat s).flatten)) H
theorem op_repS : OpR X (binaryOp .Mult) rRepS := by
  intro pins s σ H x y v u Q I rx ry h
  obtain ⟨z, k, rfl, rfl, h1, h2, h3, q⟩ := h
  obtain ⟨t, rfl⟩ := rx
  obtain ⟨t', rfl⟩ := ry
  refine SB.mul ⟨by rw [Bool.or_eq_false_iff]; exact ⟨decide_eq_false (by omega), decide_eq_false (by omega)⟩, fun hk _ => ?_, fun hk _ => ?_⟩ fun t' tk => ⟨.str (Txt.mul (toS z) k), H, I.tok _, ⟨_, rfl⟩, by rw [mul_toS]; exact q⟩
  · rw [toS_length]
    have e : (z.length : Int) * k ≤ 16777216 := by
      have : ((z.length * k.toNat : Nat) : Int) ≤ ((16777216 : Nat) : Int) := Int.ofNat_le.mpr h1
      rw [Int.natCast_mul, Int.toNat_of_nonneg (by omega)] at this
      exact this
    have : (z.length : Int) ≤ (2 ^ 63 - 1) / k := (Int.le_ediv_iff_mul_le (by omega)).mpr (by omega)
    omega
  · rw [toS_length]
    have : ¬ sizeLine < z.length * k.toNat := Nat.not_lt.mpr (line_le h1)
    show decide (sizeLine < z.length * k.toNat) = false
    exact decide_eq_false this
abbrev rMulG : R2 := fun x y H Q => (rI CMulW fun i j => .int (i * j)) x y H Q ∨ rRep x y H Q ∨ rRepS x y H Q
theorem op_mulG : OpR X (binaryOp .Mult) rMulG := op_mulW.or (op_rep.or op_repS)
theorem imp_mul : Imp2 X.K W sMul rMulG := by
  intro ι H h σ x y vx vy Q hh rx ry g
  unfold sMul at g
  split at g
  · split at g
    · rename_i hz
      obtain ⟨h1, h2, h3, h4⟩ := hz
      cases rx; cases ry
      refine .inl ⟨_, _, rfl, rfl, ?_, g.same hh (.int _)⟩
      have a := log_big h1 h2
      have b := log_big h3 h4
      unfold CMulW
      omega
    · exact g.elim
  · split at g
    · rename_i m k a ea
      split at g
      · rename_i hz
        obtain ⟨h1, h2, h3⟩ := hz
        cases rx with
        | ref hm =>
          cases ry
          obtain ⟨vs, e1, r1⟩ := hh.at_ _ _ _ hm ea
          refine .inr (.inl ⟨_, _, _, rfl, rfl, e1, by omega, by omega, line_le (by rw [r1.length]; exact h1), fun p hp => VW.newLst g hh (r1.rep _) hp⟩)
      · exact g.elim
    · exact g.elim
  · split at g
    · rename_i hz
      cases rx; cases ry
      exact .inr (.inr ⟨_, _, rfl, rfl, hz.1, hz.2.1, hz.2.2, g.same hh (.str _)⟩)
    · exact g.elim
  · exact g.elim
theorem imp_fdiv : Imp2 X.K W sFdiv (rI CDivW fun i j => .int (i / j)) := by
  intro ι H h σ x y vx vy Q hh rx ry g
  unfold sFdiv at g
  split at g
  · split at g
    · rename_i hz
      cases rx; cases ry
      exact ⟨_, _, rfl, rfl, ⟨hz.1, Nat.lt_trans (log_big (by unfold BIG; omega) hz.2) (by decide)⟩, g.same hh (.int _)⟩
    · exact g.elim
  · exact g.elim
theorem imp_mod : Imp2 X.K W sMod (rI (fun _ j => 0 < j) fun i j => .int (i % j)) := by
  intro ι H h σ x y vx vy Q hh rx ry g
  unfold sMod at g
  split at g
  · split at g
    · rename_i hz
      cases rx; cases ry
      exact ⟨_, _, rfl, rfl, hz, g.same hh (.int _)⟩
    · exact g.elim
  · exact g.elim
theorem imp_pow : Imp2 X.K W sPow (rI CPow fun i j => .int (i ^ j.toNat)) := by
  intro ι H h σ x y vx vy Q hh rx ry g
  unfold sPow at g
  split at g
  · split at g
    · rename_i hz
      cases rx; cases ry
      exact ⟨_, _, rfl, rfl, ⟨hz.1, hz.2.1, by have := hz.2.2.1; have := hz.2.2.2; omega⟩, g.same hh (.int _)⟩
    · exact g.elim
  · exact g.elim
variable {pos : Pos} {a b : Expr} {fa fb : FE}
theorem px_add (ha : PX X W a fa) (hb : PX X W b fb) : PX X W (.BinOp a .Add b pos) (bin sAdd fa fb) := px_bin op_addG imp_add ha hb
theorem px_sub (ha : PX X W a fa) (hb : PX X W b fb) : PX X W (.BinOp a .Sub b pos) (bin sSub fa fb) := px_bin op_sub imp_sub ha hb
theorem px_mul (ha : PX X W a fa) (hb : PX X W b fb) : PX X W (.BinOp a .Mult b pos) (bin sMul fa fb) := px_bin op_mulG imp_mul ha hb
theorem px_fdiv (ha : PX X W a fa) (hb : PX X W b fb) : PX X W (.BinOp a .FloorDiv b pos) (bin sFdiv fa fb) := px_bin op_fdivW imp_fdiv ha hb
theorem px_mod (ha : PX X W a fa) (hb : PX X W b fb) : PX X W (.BinOp a .Mod b pos) (bin sMod fa fb) := px_bin op_mod imp_mod ha hb
theorem px_pow (ha : PX X W a fa) (hb : PX X W b fb) : PX X W (.BinOp a .Pow b pos) (bin sPow fa fb) := px_bin op_pow imp_pow ha hb
end
/-! ## comparisons -/
/-! ### data as a tree of ours -/
inductive T where
  | non | bl (b : Bool) | int (i : Int) | str (s : Tx) | tup (xs : List T) | lst (xs : List T)
def vw (h : Hy) : Nat → D → Option T
  | 0, _ => none
  | _ + 1, .non => some .non
  | _ + 1, .bl b => some (.bl b)
  | _ + 1, .int i => some (.int i)
  | _ + 1, .str s => some (.str s)
  | n + 1, .tup xs => (xs.mapM (vw h n)).map .tup
  | n + 1, .fl xs => (xs.mapM (vw h n)).map .lst
  | n + 1, .ref k => match h[k]? with
    | some (.lst xs) => (xs.mapM (vw h n)).map .lst
    | _ => none
  | _ + 1, .fn _ => none
mutual
def T.toP : T → PyData
  | .non => .none
  | .bl b => .bool b
  | .int i => .int i
  | .str s => .str (toS s)
  | .tup xs => .tuple (T.toPs xs)
  | .lst xs => .list (T.toPs xs)
def T.toPs : List T → List PyData
  | [] => []
  | x :: xs => x.toP :: T.toPs xs
end
mutual
def T.eqv : T → T → Bool
  | .non, .non => true
  | .bl a, .bl b => a == b
  | .bl a, .int j => (if a then 1 else 0) == j
  | .int i, .bl b => i == (if b then 1 else 0)
  | .int i, .int j => decide (i = j)
  | .str x, .str y => decide (x = y)
  | .tup xs, .tup ys => T.eqvs xs ys
  | .lst xs, .lst ys => T.eqvs xs ys
  | _, _ => false
def T.eqvs : List T → List T → Bool
  | [], [] => true
  | x :: xs, y :: ys => T.eqv x y && T.eqvs xs ys
  | _, _ => false
end
mutual
theorem T.eqv_toP : ∀ a b : T, PyData.eqv a.toP b.toP = T.eqv a b
  | .non, b => by cases b <;> simp [T.toP, PyData.eqv, T.eqv]
  | .bl a, b => by cases b <;> simp [T.toP, PyData.eqv, T.eqv]
  | .int i, b => by cases b <;> simp [T.toP, PyData.eqv, T.eqv] <;> rfl
  | .str x, b => by
    cases b with
    | str y =>
      simp only [T.toP, PyData.eqv, T.eqv]
      by_cases e : x = y
      · subst e
        simp
      · rw [decide_eq_false e]
        cases q : (toS x == toS y) with
        | false => rfl
        | true => exact absurd (toS_inj (beq_iff_eq.mp q)) e
    | _ => simp [T.toP, PyData.eqv, T.eqv]
  | .tup xs, b => by
    cases b with
    | tup ys => simp only [T.toP, PyData.eqv, T.eqv]; exact T.eqvs_toP xs ys
    | _ => simp [T.toP, PyData.eqv, T.eqv]
  | .lst xs, b => by
    cases b with
    | lst ys => simp only [T.toP, PyData.eqv, T.eqv]; exact T.eqvs_toP xs ys
    | _ => simp [T.toP, PyData.eqv, T.eqv]
theorem T.eqvs_toP : ∀ xs ys : List T, PyData.eqvAll (T.toPs xs) (T.toPs ys) = T.eqvs xs ys
  | [], [] => by simp [T.toPs, PyData.eqvAll, T.eqvs]
  | [], _ :: _ => by simp [T.toPs, PyData.eqvAll, T.eqvs]
  | _ :: _, [] => by simp [T.toPs, PyData.eqvAll, T.eqvs]
  | x :: xs, y :: ys => by simp only [T.toPs, PyData.eqvAll, T.eqvs]; rw [T.eqv_toP x y, T.eqvs_toP xs ys]
end
theorem toPs_map : ∀ xs : List T, T.toPs xs = xs.map T.toP
  | [] => by simp [T.toPs]
  | x :: xs => by simp [T.toPs, toPs_map xs]
theorem mapM_some {α β γ : Type} {f : α → Option β} {g : α → Option γ} {k : β → γ} (h : ∀ x b, f x = some b → g x = some (k b)) : ∀ {xs : List α} {bs : List β}, xs.mapM f = some bs → xs.mapM g = some (bs.map k)
  | [], bs, e => by simp at e; subst e; simp
  | x :: xs, bs, e => by
    simp only [List.mapM_cons] at e ⊢
    cases e1 : f x with
    | none => rw [e1] at e; cases e
    | some b =>
      rw [e1] at e
      cases e2 : xs.mapM f with
      | none => rw [e2] at e; cases e
      | some cs =>
        rw [e2] at e
        have e3 : b :: cs = bs := Option.some.inj e
        subst e3
        rw [h x b e1, mapM_some h e2]
        rfl
theorem vw_dp {h : Hy} : ∀ {n : Nat} {d : D} {t : T}, vw h n d = some t → dp h n d = some t.toP
  | 0, _, _, e => by cases e
  | n + 1, .non, _, e => by cases e; simp [dp, T.toP]
  | n + 1, .bl _, _, e => by cases e; simp [dp, T.toP]
  | n + 1, .int _, _, e => by cases e; simp [dp, T.toP]
  | n + 1, .str _, _, e => by cases e; simp [dp, T.toP]
  | n + 1, .tup xs, t, e => by
    simp only [vw] at e
    cases e1 : xs.mapM (vw h n) with
    | none => rw [e1] at e; cases e
    | some ts =>
      rw [e1] at e
      cases e
      simp only [dp, T.toP, toPs_map]
      rw [mapM_some (fun x b => vw_dp) e1]
      rfl
  | n + 1, .fl xs, t, e => by
    simp only [vw] at e
    cases e1 : xs.mapM (vw h n) with
    | none => rw [e1] at e; cases e
    | some ts =>
      rw [e1] at e
      cases e
      simp only [dp, T.toP, toPs_map]
      rw [mapM_some (fun x b => vw_dp) e1]
      rfl
  | n + 1, .ref k, t, e => by
    simp only [vw] at e
    simp only [dp]
    cases q : h[k]? with
    | none => rw [q] at e; cases e
    | some o =>
      rw [q] at e
      cases o with
      | lst xs =>
        simp only at e ⊢
        cases e1 : xs.mapM (vw h n) with
        | none => rw [e1] at e; cases e
        | some ts =>
          rw [e1] at e
          cases e
          simp only [T.toP, toPs_map]
          rw [mapM_some (fun x b => vw_dp) e1]
          rfl
      | _ => cases e
  | n + 1, .fn _, _, e => by cases e
theorem any_toP (a : T) : ∀ bs : List T, ((T.toPs bs).any fun z => PyData.eqv z a.toP) = bs.any fun z => T.eqv z a
  | [] => by simp [T.toPs]
  | b :: bs => by simp only [T.toPs, List.any_cons]; rw [T.eqv_toP, any_toP a bs]
/-- the depth to which data is looked at -/
abbrev DN : Nat := 24
def sEq (x y : D) (h : Hy) : R (D × Hy) := match vw h 24 x, vw h 24 y with
  | some a, some b => .ok (.bl (T.eqv a b), h)
  | _, _ => .stuck
def sNe (x y : D) (h : Hy) : R (D × Hy) := match vw h 24 x, vw h 24 y with
  | some a, some b => .ok (.bl (!T.eqv a b), h)
  | _, _ => .stuck
def sLt (x y : D) (h : Hy) : R (D × Hy) := match x, y with
  | .int i, .int j => .ok (.bl (decide (i < j)), h)
  | .str a, .str b => .ok (.bl (decide (cd a < cd b)), h)
  | _, _ => .stuck
def sLe (x y : D) (h : Hy) : R (D × Hy) := match x, y with
  | .int i, .int j => .ok (.bl (decide (i ≤ j)), h)
  | .str a, .str b => .ok (.bl (!decide (cd b < cd a)), h)
  | _, _ => .stuck
def sGt (x y : D) (h : Hy) : R (D × Hy) := match x, y with
  | .int i, .int j => .ok (.bl (decide (j < i)), h)
  | .str a, .str b => .ok (.bl (decide (cd b < cd a)), h)
  | _, _ => .stuck
def sGe (x y : D) (h : Hy) : R (D × Hy) := match x, y with
  | .int i, .int j => .ok (.bl (decide (j ≤ i)), h)
  | .str a, .str b => .ok (.bl (!decide (cd a < cd b)), h)
  | _, _ => .stuck
def strIn (a b : Tx) : Bool := match a with
  | [c] => decide (c ∈ b)
  | _ => !(Builtin.Str.occurrences (toS b) (toS a) 0 (toS b).length 1).isEmpty
def isIn (x y : D) (h : Hy) : Option Bool := match x, y with
  | .str a, .str b => some (strIn a b)
  | x, y => match vw h 24 x, vw h 24 y with
    | some a, some (.lst bs) => some (bs.any fun z => T.eqv z a)
    | some a, some (.tup bs) => some (bs.any fun z => T.eqv z a)
    | _, _ => none
def sIn (x y : D) (h : Hy) : R (D × Hy) := match isIn x y h with
  | some b => .ok (.bl b, h)
  | none => .stuck
def sNotIn (x y : D) (h : Hy) : R (D × Hy) := match isIn x y h with
  | some b => .ok (.bl (!b), h)
  | none => .stuck
def D.isNon : D → Bool
  | .non => true
  | _ => false
def sIs (x y : D) (h : Hy) : R (D × Hy) := match x, y with
  | x, .non => .ok (.bl x.isNon, h)
  | .bl a, .bl b => .ok (.bl (decide (a = b)), h)
  | _, _ => .stuck
def sIsNot (x y : D) (h : Hy) : R (D × Hy) := match x, y with
  | x, .non => .ok (.bl (!x.isNon), h)
  | .bl a, .bl b => .ok (.bl (!decide (a = b)), h)
  | _, _ => .stuck
section
variable {X : Cx} {W : WX}
theorem imp_eq : Imp2 X.K W sEq (rEqD X.K) := by
  intro ι H h σ x y vx vy Q hh rx ry g
  unfold sEq at g
  split at g
  · rename_i a b ea eb
    have ea := vw_dp ea
    have eb := vw_dp eb
    have q := g.same hh (.bl _)
    rw [← T.eqv_toP] at q
    exact ⟨a.toP, b.toP, Dp_of hh _ _ _ _ rx ea, Dp_of hh _ _ _ _ ry eb, dp_shaped (by decide) ea, dp_shaped (by decide) eb, q⟩
  · exact g.elim
theorem imp_ne : Imp2 X.K W sNe (rNeD X.K) := by
  intro ι H h σ x y vx vy Q hh rx ry g
  unfold sNe at g
  split at g
  · rename_i a b ea eb
    have ea := vw_dp ea
    have eb := vw_dp eb
    have q := g.same hh (.bl _)
    rw [← T.eqv_toP] at q
    exact ⟨a.toP, b.toP, Dp_of hh _ _ _ _ rx ea, Dp_of hh _ _ _ _ ry eb, dp_shaped (by decide) ea, dp_shaped (by decide) eb, q⟩
  · exact g.elim
abbrev rS (p : Str → Str → Bool) : R2 := fun x y H Q => ∃ i j, x = .str i ∧ y = .str j ∧ Q (.bl (p i j)) H
abbrev rCmpG (p : Int → Int → Bool) (q : Str → Str → Bool) : R2 := fun x y H Q => (rI0 fun i j => .bl (p i j)) x y H Q ∨ rS q x y H Q
theorem imp_lt : Imp2 X.K W sLt (rCmpG (fun i j => decide (i < j)) fun i j => decide (i.cps.toList < j.cps.toList)) := by
  intro ι H h σ x y vx vy Q hh rx ry g
  unfold sLt at g
  split at g
  · cases rx; cases ry
    exact .inl ⟨_, _, rfl, rfl, g.same hh (.bl _)⟩
  · cases rx; cases ry
    exact .inr ⟨_, _, rfl, rfl, g.same hh (.bl _)⟩
  · exact g.elim
theorem imp_le : Imp2 X.K W sLe (rCmpG (fun i j => decide (i ≤ j)) fun i j => !decide (j.cps.toList < i.cps.toList)) := by
  intro ι H h σ x y vx vy Q hh rx ry g
  unfold sLe at g
  split at g
  · cases rx; cases ry
    exact .inl ⟨_, _, rfl, rfl, g.same hh (.bl _)⟩
  · cases rx; cases ry
    exact .inr ⟨_, _, rfl, rfl, g.same hh (.bl _)⟩
  · exact g.elim
theorem imp_gt : Imp2 X.K W sGt (rCmpG (fun i j => decide (j < i)) fun i j => decide (j.cps.toList < i.cps.toList)) := by
  intro ι H h σ x y vx vy Q hh rx ry g
  unfold sGt at g
  split at g
  · cases rx; cases ry
    exact .inl ⟨_, _, rfl, rfl, g.same hh (.bl _)⟩
  · cases rx; cases ry
    exact .inr ⟨_, _, rfl, rfl, g.same hh (.bl _)⟩
  · exact g.elim
theorem imp_ge : Imp2 X.K W sGe (rCmpG (fun i j => decide (j ≤ i)) fun i j => !decide (i.cps.toList < j.cps.toList)) := by
  intro ι H h σ x y vx vy Q hh rx ry g
  unfold sGe at g
  split at g
  · cases rx; cases ry
    exact .inl ⟨_, _, rfl, rfl, g.same hh (.bl _)⟩
  · cases rx; cases ry
    exact .inr ⟨_, _, rfl, rfl, g.same hh (.bl _)⟩
  · exact g.elim
theorem truth_lt : Truth2 sLt := fun x y h => by
  unfold sLt
  split
  · exact .inl ⟨_, rfl⟩
  · exact .inl ⟨_, rfl⟩
  · exact .inr rfl
theorem truth_le : Truth2 sLe := fun x y h => by
  unfold sLe
  split
  · exact .inl ⟨_, rfl⟩
  · exact .inl ⟨_, rfl⟩
  · exact .inr rfl
theorem truth_eq : Truth2 sEq := fun x y h => by
  unfold sEq
  split
  · exact .inl ⟨_, rfl⟩
  · exact .inr rfl
/-- x in t, t a tuple of data -/
def rInT (K : PySem.W.Frag) (neg : Bool) : R2 := fun x y H Q => ∃ d ds, Dp K H x d ∧ Dp K H y (.tuple ds) ∧ SeqAt.shaped d = true ∧ SeqAt.shaped (.tuple ds) = true ∧ Q (.bl (if neg then !ds.any fun z => PyData.eqv z d else ds.any fun z => PyData.eqv z d)) H
theorem canLayT {ds : List PyData} (h : SeqAt.shaped (.tuple ds) = true) : PyData.canLayAll0 ds = true := SeqAt.canLay_of_shaped h
theorem roomT {d : PyData} (h : SeqAt.shaped d = true) {A : Around} (hu : A.units + 65 < cLine) (ds : List PyData) : A.units + 1 + min (PyData.depthAll ds) d.depth < cLine := by
  unfold SeqAt.shaped at h
  simp only [Bool.and_eq_true, decide_eq_true_eq] at h
  omega
theorem op_inT (hu : X.A.units + 65 < cLine) : OpR X (compareOp .In) (rInT X.K false) := by
  intro pins s σ H x y v u Q I rx ry h
  obtain ⟨d, ds, hd, he, sd, se, q⟩ := h
  obtain ⟨as, r1⟩ := Dp.reads I d x v hd rx
  obtain ⟨bs, r2⟩ := Dp.reads I (.tuple ds) y u he ry
  exact SeqAt.in_tuple_reads r2 r1 (canLayT se) (SeqAt.canLay_of_shaped sd) (roomT sd hu ds) ⟨.bl _, H, I, rfl, q⟩
theorem op_notInT (hu : X.A.units + 65 < cLine) : OpR X (compareOp .NotIn) (rInT X.K true) := by
  intro pins s σ H x y v u Q I rx ry h
  obtain ⟨d, ds, hd, he, sd, se, q⟩ := h
  obtain ⟨as, r1⟩ := Dp.reads I d x v hd rx
  obtain ⟨bs, r2⟩ := Dp.reads I (.tuple ds) y u he ry
  exact SeqAt.notIn_tuple_reads r2 r1 (canLayT se) (SeqAt.canLay_of_shaped sd) (roomT sd hu ds) ⟨.bl _, H, I, rfl, q⟩
abbrev rSign (neg : Bool) : R2 := fun x y H Q => ∃ (c : Nat) (z : Str), x = .str ⟨#[c]⟩ ∧ y = .str z ∧ Q (.bl (if neg then !decide (c ∈ z.cps.toList) else decide (c ∈ z.cps.toList))) H
abbrev rInS (neg : Bool) : R2 := fun x y H Q => ∃ i j, x = .str i ∧ y = .str j ∧ Q (.bl (if neg then !(!(Builtin.Str.occurrences j i 0 j.length 1).isEmpty) else !(Builtin.Str.occurrences j i 0 j.length 1).isEmpty)) H
abbrev rInG (K : PySem.W.Frag) : R2 := fun x y H Q => rSign false x y H Q ∨ rInS false x y H Q ∨ rInD K x y H Q ∨ rInT K false x y H Q
abbrev rNotInG (K : PySem.W.Frag) : R2 := fun x y H Q => rSign true x y H Q ∨ rInS true x y H Q ∨ rNotInD K x y H Q ∨ rInT K true x y H Q
theorem op_inG (hu : X.A.units + 65 < cLine) : OpR X (compareOp .In) (rInG X.K) := op_in_sign.or (op_in_str.or ((op_inD hu).or (op_inT hu)))
theorem op_notInG (hu : X.A.units + 65 < cLine) : OpR X (compareOp .NotIn) (rNotInG X.K) := op_notIn_sign.or (op_notIn_str.or ((op_notInD hu).or (op_notInT hu)))
theorem mem_cd {c : Char} {b : Tx} : c.toNat ∈ cd b ↔ c ∈ b := by
  unfold cd
  constructor
  · intro h
    obtain ⟨x, hx, e⟩ := List.mem_map.mp h
    rw [char_inj e] at hx
    exact hx
  · exact fun h => List.mem_map.mpr ⟨c, h, rfl⟩
theorem imp_in : Imp2 X.K W sIn (rInG X.K) := by
  intro ι H h σ x y vx vy Q hh rx ry g
  unfold sIn at g
  cases e : isIn x y h with
  | none => rw [e] at g; exact g.elim
  | some k =>
    rw [e] at g
    unfold isIn at e
    split at e
    · rename_i a b
      cases rx; cases ry
      unfold strIn at e
      split at e
      · rename_i c
        refine .inl ⟨c.toNat, _, rfl, rfl, ?_⟩
        cases e
        have q := g.same hh (.bl _)
        have e2 : decide (c ∈ b) = decide (c.toNat ∈ (toS b).cps.toList) := by
          rw [toS_list]
          exact decide_eq_decide.mpr mem_cd.symm
        rw [← e2]
        exact q
      · cases e
        exact .inr (.inl ⟨_, _, rfl, rfl, g.same hh (.bl _)⟩)
    · split at e
      · rename_i a bs ea eb
        have ea := vw_dp ea
        have eb := vw_dp eb
        cases e
        have q := g.same hh (.bl _)
        rw [← any_toP] at q
        simp only [T.toP] at eb
        exact .inr (.inr (.inl ⟨a.toP, T.toPs bs, Dp_of hh _ _ _ _ rx ea, Dp_of hh _ _ _ _ ry eb, dp_shaped (by decide) ea, dp_shaped (by decide) eb, q⟩))
      · rename_i a bs ea eb
        have ea := vw_dp ea
        have eb := vw_dp eb
        cases e
        have q := g.same hh (.bl _)
        rw [← any_toP] at q
        simp only [T.toP] at eb
        exact .inr (.inr (.inr ⟨a.toP, T.toPs bs, Dp_of hh _ _ _ _ rx ea, Dp_of hh _ _ _ _ ry eb, dp_shaped (by decide) ea, dp_shaped (by decide) eb, q⟩))
      · cases e
theorem imp_notIn : Imp2 X.K W sNotIn (rNotInG X.K) := by
  intro ι H h σ x y vx vy Q hh rx ry g
  unfold sNotIn at g
  cases e : isIn x y h with
  | none => rw [e] at g; exact g.elim
  | some k =>
    rw [e] at g
    unfold isIn at e
    split at e
    · rename_i a b
      cases rx; cases ry
      unfold strIn at e
      split at e
      · rename_i c
        refine .inl ⟨c.toNat, _, rfl, rfl, ?_⟩
        cases e
        have q := g.same hh (.bl _)
        have e2 : decide (c ∈ b) = decide (c.toNat ∈ (toS b).cps.toList) := by
          rw [toS_list]
          exact decide_eq_decide.mpr mem_cd.symm
        rw [if_pos rfl, ← e2]
        exact q
      · cases e
        exact .inr (.inl ⟨_, _, rfl, rfl, g.same hh (.bl _)⟩)
    · split at e
      · rename_i a bs ea eb
        have ea := vw_dp ea
        have eb := vw_dp eb
        cases e
        have q := g.same hh (.bl _)
        rw [← any_toP] at q
        simp only [T.toP] at eb
        exact .inr (.inr (.inl ⟨a.toP, T.toPs bs, Dp_of hh _ _ _ _ rx ea, Dp_of hh _ _ _ _ ry eb, dp_shaped (by decide) ea, dp_shaped (by decide) eb, q⟩))
      · rename_i a bs ea eb
        have ea := vw_dp ea
        have eb := vw_dp eb
        cases e
        have q := g.same hh (.bl _)
        rw [← any_toP] at q
        simp only [T.toP] at eb
        exact .inr (.inr (.inr ⟨a.toP, T.toPs bs, Dp_of hh _ _ _ _ rx ea, Dp_of hh _ _ _ _ ry eb, dp_shaped (by decide) ea, dp_shaped (by decide) eb, q⟩))
      · cases e
theorem Rep.isNon {K : PySem.W.Frag} {ι : List Addr} {H : Hp} {v : V} {d : D} (r : Rep K ι H v d) : decide (v = .non) = d.isNon := by
  cases r <;> simp [D.isNon]
abbrev rIsG : R2 := fun x y H Q => (fun x y H Q => y = V.non ∧ Q (.bl (decide (x = .non))) H : R2) x y H Q ∨ (fun x y H Q => ∃ a b, x = V.bl a ∧ y = .bl b ∧ Q (.bl (decide (a = b))) H : R2) x y H Q
abbrev rIsNotG : R2 := fun x y H Q => (fun x y H Q => y = V.non ∧ Q (.bl (!decide (x = .non))) H : R2) x y H Q ∨ (fun x y H Q => ∃ a b, x = V.bl a ∧ y = .bl b ∧ Q (.bl (!decide (a = b))) H : R2) x y H Q
theorem imp_is : Imp2 X.K W sIs rIsG := by
  intro ι H h σ x y vx vy Q hh rx ry g
  unfold sIs at g
  split at g
  · cases ry
    refine .inl ⟨rfl, ?_⟩
    rw [rx.isNon]
    exact g.same hh (.bl _)
  · cases rx; cases ry
    exact .inr ⟨_, _, rfl, rfl, g.same hh (.bl _)⟩
  · exact g.elim
theorem imp_isNot : Imp2 X.K W sIsNot rIsNotG := by
  intro ι H h σ x y vx vy Q hh rx ry g
  unfold sIsNot at g
  split at g
  · cases ry
    refine .inl ⟨rfl, ?_⟩
    rw [rx.isNon]
    exact g.same hh (.bl _)
  · cases rx; cases ry
    exact .inr ⟨_, _, rfl, rfl, g.same hh (.bl _)⟩
  · exact g.elim
end
end Px
namespace Px
open PySem PySem.Spec PyProof.Rows L2
/-! ## calls of built-ins -/
def ImpL (K : PySem.W.Frag) (W : WX) (g : List D → Hy → R (D × Hy)) (r : List V → Hp → VK → Prop) : Prop :=
  ∀ (ι : List Addr) (H : Hp) (h : Hy) (σ : L2.St) (xs : List D) (vs : List V) (Q : VK), Rh K ι H h → Reps K ι H vs xs → Good (g xs h) (VW K ι H Q) (XW K W ι σ H) → r vs H Q
def eCall (g : List D → Hy → R (D × Hy)) (fa : FA) : FE := fun ρ h => (fa ρ h).bind fun p => g p.1 p.2
section
variable {X : Cx} {W : WX} {pos p : Pos} {e : Expr} {es : List Expr} {fa : FA} {x : Str} {g : List D → Hy → R (D × Hy)} {r : List V → Hp → VK → Prop} {id T : String}
theorem eCall_mono (hi : ImpL X.K W g r) {σ : L2.St} {H : Hp} {Q : VK} : tE X.K W (eCall g fa) σ H Q → tCB r (tA X.K W fa) σ H Q := fun ⟨ι, ρ, h, hρ, hh, q⟩ =>
  tA_seqV hρ hh q fun p ι1 H1 vs e1 h1 r1 hρ1 q1 => hi ι1 H1 p.2 σ p.1 vs Q h1 r1 q1
theorem px_callB (hc : CallR X (.builtin id) r) (hi : ImpL X.K W g r) (hm : X.mg x = none) (ha : PXA X W (e :: es) fa) (hg : Gl X x := by rfl) (hv : bootBuiltins x = some (.builtin id) := by decide +kernel) (hn : x ≠ "__name__" := by decide) (hdb : (x == ("__debug__" : Str)) = false := by decide)
    (he : starEach (e :: es) X.env = (false, eval e X.env) :: starEach es X.env := by rfl) (hpl : (backTo pos (starEach es X.env)).any (·.1) = false := by rfl) : PX X W (.Call (.Name x p) (e :: es) [] pos) (eCall g fa) :=
  ⟨PE.mono (pe_callB hc hg hm hv ha.pa hn hdb he hpl) fun _ _ _ => eCall_mono hi⟩
theorem px_callTy (hc : CallR X (.type T) r) (hi : ImpL X.K W g r) (hm : X.mg x = none) (ha : PXA X W (e :: es) fa) (hg : Gl X x := by rfl) (hv : bootBuiltins x = some (.type T) := by decide +kernel) (hn : x ≠ "__name__" := by decide) (hdb : (x == ("__debug__" : Str)) = false := by decide)
    (he : starEach (e :: es) X.env = (false, eval e X.env) :: starEach es X.env := by rfl) (hpl : (backTo pos (starEach es X.env)).any (·.1) = false := by rfl) : PX X W (.Call (.Name x p) (e :: es) [] pos) (eCall g fa) :=
  ⟨PE.mono (pe_callTy hc hg hm hv ha.pa hn hdb he hpl) fun _ _ _ => eCall_mono hi⟩
end
/-- the items of a list or a tuple -/
def items (h : Hy) : D → Option (List D)
  | .tup xs => some xs
  | .fl xs => some xs
  | .ref n => match h[n]? with
    | some (.lst xs) => some xs
    | _ => none
  | _ => none
theorem items_of {K : PySem.W.Frag} {ι : List Addr} {H : Hp} {h : Hy} (hh : Rh K ι H h) {v : V} {d : D} {xs : List D} (r : Rep K ι H v d) (e : items h d = some xs) : ∃ a vs, v = .ref a ∧ (SqL K H a vs ∨ SqT K H a vs) ∧ Reps K ι H vs xs := by
  cases r with
  | tup hs rs => cases e; exact ⟨_, _, rfl, .inr hs, rs⟩
  | fl hs rs => cases e; exact ⟨_, _, rfl, .inl hs.seq, rs⟩
  | ref hn =>
    rename_i a n
    unfold items at e
    simp only at e
    cases q : h[n]? with
    | none => rw [q] at e; cases e
    | some o =>
      rw [q] at e
      cases o with
      | lst ds =>
        cases e
        obtain ⟨vs, hv, rs⟩ := hh.at_ n _ _ hn q
        exact ⟨_, _, rfl, .inl (SqL.of hv), rs⟩
      | _ => cases e
  | _ => cases e
/-- of a list alone -/
def itemsL (h : Hy) : D → Option (List D)
  | .fl xs => some xs
  | .ref n => match h[n]? with
    | some (.lst xs) => some xs
    | _ => none
  | _ => none
theorem itemsL_of {K : PySem.W.Frag} {ι : List Addr} {H : Hp} {h : Hy} (hh : Rh K ι H h) {v : V} {d : D} {xs : List D} (r : Rep K ι H v d) (e : itemsL h d = some xs) : ∃ a vs, v = .ref a ∧ SqL K H a vs ∧ Reps K ι H vs xs := by
  cases r with
  | fl hs rs => cases e; exact ⟨_, _, rfl, hs.seq, rs⟩
  | ref hn =>
    rename_i a n
    unfold itemsL at e
    simp only at e
    cases q : h[n]? with
    | none => rw [q] at e; cases e
    | some o =>
      rw [q] at e
      cases o with
      | lst ds =>
        cases e
        obtain ⟨vs, hv, rs⟩ := hh.at_ n _ _ hn q
        exact ⟨_, _, rfl, SqL.of hv, rs⟩
      | _ => cases e
  | _ => cases e
def asBl : D → Option Bool
  | .bl b => some b
  | _ => none
def asInt : D → Option Int
  | .int i => some i
  | _ => none
def asStr : D → Option Tx
  | .str s => some s
  | _ => none
theorem allBl {K : PySem.W.Frag} {ι : List Addr} {H : Hp} : ∀ {vs : List V} {ds : List D} {bs : List Bool}, Reps K ι H vs ds → ds.mapM asBl = some bs → vs = bs.map V.bl
  | _, _, bs, .nil, e => by
    simp at e
    subst e
    rfl
  | _, _, bs, .cons (d := d) (ds := ds) r rs, e => by
    simp only [List.mapM_cons] at e
    cases r <;> try (cases e; done)
    rename_i b
    cases e2 : ds.mapM asBl with
    | none => simp [asBl, e2] at e
    | some q =>
      simp [asBl, e2] at e
      subst e
      rw [allBl rs e2, List.map_cons]
theorem allInt {K : PySem.W.Frag} {ι : List Addr} {H : Hp} : ∀ {vs : List V} {ds : List D} {bs : List Int}, Reps K ι H vs ds → ds.mapM asInt = some bs → vs = bs.map V.int
  | _, _, bs, .nil, e => by
    simp at e
    subst e
    rfl
  | _, _, bs, .cons (d := d) (ds := ds) r rs, e => by
    simp only [List.mapM_cons] at e
    cases r <;> try (cases e; done)
    rename_i b
    cases e2 : ds.mapM asInt with
    | none => simp [asInt, e2] at e
    | some q =>
      simp [asInt, e2] at e
      subst e
      rw [allInt rs e2, List.map_cons]
theorem allStr {K : PySem.W.Frag} {ι : List Addr} {H : Hp} : ∀ {vs : List V} {ds : List D} {bs : List Tx}, Reps K ι H vs ds → ds.mapM asStr = some bs → vs = (bs.map toS).map V.str
  | _, _, bs, .nil, e => by
    simp at e
    subst e
    rfl
  | _, _, bs, .cons (d := d) (ds := ds) r rs, e => by
    simp only [List.mapM_cons] at e
    cases r <;> try (cases e; done)
    rename_i b
    cases e2 : ds.mapM asStr with
    | none => simp [asStr, e2] at e
    | some q =>
      simp [asStr, e2] at e
      subst e
      rw [allStr rs e2, List.map_cons, List.map_cons]
/-! ### len -/
def gLen (xs : List D) (h : Hy) : R (D × Hy) := match xs with
  | [.str s] => if s.length ≤ 16777216 then .ok (.int s.length, h) else .stuck
  | [x] => match items h x with
    | some ys => .ok (.int ys.length, h)
    | none => .stuck
  | _ => .stuck
section
variable {X : Cx} {W : WX}
theorem imp_len : ImpL X.K W gLen (fun xs H Q => ∃ x n, xs = [x] ∧ LenV X.K x H n ∧ Q (.int n) H) := by
  intro ι H h σ xs vs Q hh rs g
  unfold gLen at g
  split at g
  · split at g
    · rename_i s hz
      cases rs with
      | cons r rs =>
        cases rs
        cases r
        refine ⟨_, _, rfl, ⟨line_le (by rw [toS_length]; exact hz), rfl⟩, ?_⟩
        rw [toS_length]
        exact g.same hh (.int _)
    · exact g.elim
  · split at g
    · rename_i x _ ys e
      cases rs with
      | cons r rs =>
        cases rs
        obtain ⟨a, ws, rfl, hs, rw'⟩ := items_of hh r e
        refine ⟨_, ws.length, rfl, ?_, ?_⟩
        · rcases hs with hs | hs
          · exact .inl ⟨_, hs, rfl⟩
          · exact .inr ⟨_, hs, rfl⟩
        · rw [rw'.length]
          exact g.same hh (.int _)
    · exact g.elim
  · exact g.elim
end
/-! ### all, any, sum -/
def gAll (xs : List D) (h : Hy) : R (D × Hy) := match xs with
  | [x] => match (itemsL h x).bind (·.mapM asBl) with
    | some bs => .ok (.bl (bs.all id), h)
    | none => .stuck
  | _ => .stuck
def gAny (xs : List D) (h : Hy) : R (D × Hy) := match xs with
  | [x] => match (itemsL h x).bind (·.mapM asBl) with
    | some bs => .ok (.bl (bs.any id), h)
    | none => .stuck
  | _ => .stuck
def gSum (xs : List D) (h : Hy) : R (D × Hy) := match xs with
  | [x] => match (itemsL h x).bind (·.mapM asInt) with
    | some bs => .ok (.int bs.sum, h)
    | none => .stuck
  | _ => .stuck
theorem itemsL_bl {K : PySem.W.Frag} {ι : List Addr} {H : Hp} {h : Hy} (hh : Rh K ι H h) {v : V} {d : D} {bs : List Bool} (r : Rep K ι H v d) (e : (itemsL h d).bind (·.mapM asBl) = some bs) : ∃ a, v = .ref a ∧ SqL K H a (bs.map V.bl) := by
  obtain ⟨xs, e1, e2⟩ := Option.bind_eq_some_iff.mp e
  obtain ⟨a, vs, rfl, hs, rs⟩ := itemsL_of hh r e1
  rw [allBl rs e2] at hs
  exact ⟨a, rfl, hs⟩
theorem itemsL_int {K : PySem.W.Frag} {ι : List Addr} {H : Hp} {h : Hy} (hh : Rh K ι H h) {v : V} {d : D} {bs : List Int} (r : Rep K ι H v d) (e : (itemsL h d).bind (·.mapM asInt) = some bs) : ∃ a, v = .ref a ∧ SqL K H a (bs.map V.int) := by
  obtain ⟨xs, e1, e2⟩ := Option.bind_eq_some_iff.mp e
  obtain ⟨a, vs, rfl, hs, rs⟩ := itemsL_of hh r e1
  rw [allInt rs e2] at hs
  exact ⟨a, rfl, hs⟩
section
variable {X : Cx} {W : WX}
theorem imp_all : ImpL X.K W gAll (rAll X.K) := by
  intro ι H h σ xs vs Q hh rs g
  unfold gAll at g
  split at g
  · split at g
    · rename_i x bs e
      cases rs with
      | cons r rs =>
        cases rs
        obtain ⟨a, rfl, hs⟩ := itemsL_bl hh r e
        exact ⟨a, bs, rfl, hs, g.same hh (.bl _)⟩
    · exact g.elim
  · exact g.elim
theorem imp_any : ImpL X.K W gAny (rAny X.K) := by
  intro ι H h σ xs vs Q hh rs g
  unfold gAny at g
  split at g
  · split at g
    · rename_i x bs e
      cases rs with
      | cons r rs =>
        cases rs
        obtain ⟨a, rfl, hs⟩ := itemsL_bl hh r e
        exact ⟨a, bs, rfl, hs, g.same hh (.bl _)⟩
    · exact g.elim
  · exact g.elim
theorem imp_sum : ImpL X.K W gSum (rSum X.K) := by
  intro ι H h σ xs vs Q hh rs g
  unfold gSum at g
  split at g
  · split at g
    · rename_i x bs e
      cases rs with
      | cons r rs =>
        cases rs
        obtain ⟨a, rfl, hs⟩ := itemsL_int hh r e
        exact ⟨a, bs, rfl, hs, g.same hh (.int _)⟩
    · exact g.elim
  · exact g.elim
end
/-! ### numbers: abs, max, min, int, divmod, ord, str -/
def gAbs (xs : List D) (h : Hy) : R (D × Hy) := match xs with
  | [.int i] => .ok (.int (if i < 0 then -i else i), h)
  | _ => .stuck
def gMax (xs : List D) (h : Hy) : R (D × Hy) := match xs with
  | [.int i, .int j] => .ok (.int (if j > i then j else i), h)
  | _ => .stuck
def gMin (xs : List D) (h : Hy) : R (D × Hy) := match xs with
  | [.int i, .int j] => .ok (.int (if j < i then j else i), h)
  | _ => .stuck
def gDivmod (xs : List D) (h : Hy) : R (D × Hy) := match xs with
  | [.int i, .int j] => if 0 < j ∧ j < 1073741824 then .ok (.tup [.int (i / j), .int (i % j)], h) else .stuck
  | _ => .stuck
def gOrd (xs : List D) (h : Hy) : R (D × Hy) := match xs with
  | [.str [c]] => .ok (.int c.toNat, h)
  | _ => .stuck
/-- the figures of a number -/
def num (i : Int) : Tx := (toString i).toList
theorem toS_num (i : Int) : toS (num i) = (toString i : Str) := toS_lit (toString i)
def gStr (xs : List D) (h : Hy) : R (D × Hy) := match xs with
  | [.int i] => if -115792089237316195423570985008687907853269984665640564039457584007913129639936 < i ∧ i < 115792089237316195423570985008687907853269984665640564039457584007913129639936 then .ok (.str (num i), h) else .stuck
  | _ => .stuck
/-- the number that a text writes -/
def rdInt (s : Tx) : Option Int := PySem.intText? (toS s)
def gInt (xs : List D) (h : Hy) : R (D × Hy) := match xs with
  | [.int i] => .ok (.int i, h)
  | [.bl b] => .ok (.int (if b then 1 else 0), h)
  | [.str s] => if s.length ≤ 640 then match rdInt s with
    | some n => .ok (.int n, h)
    | none => .stuck
    else .stuck
  | _ => .stuck
section
variable {X : Cx} {W : WX}
theorem imp_abs : ImpL X.K W gAbs (fun xs H Q => ∃ i, xs = [.int i] ∧ Q (.int (if i < 0 then -i else i)) H) := by
  intro ι H h σ xs vs Q hh rs g
  unfold gAbs at g
  split at g
  · cases rs with
    | cons r rs => cases rs; cases r; exact ⟨_, rfl, g.same hh (.int _)⟩
  · exact g.elim
theorem imp_max : ImpL X.K W gMax (fun xs H Q => ∃ i j, xs = [.int i, .int j] ∧ Q (.int (if j > i then j else i)) H) := by
  intro ι H h σ xs vs Q hh rs g
  unfold gMax at g
  split at g
  · cases rs with
    | cons r rs => cases rs with
      | cons r2 rs => cases rs; cases r; cases r2; exact ⟨_, _, rfl, g.same hh (.int _)⟩
  · exact g.elim
theorem imp_min : ImpL X.K W gMin (fun xs H Q => ∃ i j, xs = [.int i, .int j] ∧ Q (.int (if j < i then j else i)) H) := by
  intro ι H h σ xs vs Q hh rs g
  unfold gMin at g
  split at g
  · cases rs with
    | cons r rs => cases rs with
      | cons r2 rs => cases rs; cases r; cases r2; exact ⟨_, _, rfl, g.same hh (.int _)⟩
  · exact g.elim
theorem imp_divmod : ImpL X.K W gDivmod (fun xs H Q => ∃ i j, xs = [.int i, .int j] ∧ CDiv i j ∧ ∀ p, H p = none → Q (.ref p) (upd H p (.tup [.int (i / j), .int (i % j)]))) := by
  intro ι H h σ xs vs Q hh rs g
  unfold gDivmod at g
  split at g
  · split at g
    · rename_i hz
      cases rs with
      | cons r rs => cases rs with
        | cons r2 rs => cases rs; cases r; cases r2; exact ⟨_, _, rfl, hz, fun p hp => VW.newTup g hh (.cons (.int _) (.cons (.int _) .nil)) hp⟩
    · exact g.elim
  · exact g.elim
theorem imp_ord : ImpL X.K W gOrd (fun xs H Q => ∃ x, xs = [.str x] ∧ x.length = 1 ∧ Q (.int (x.cps.getD 0 0 : Nat)) H) := by
  intro ι H h σ xs vs Q hh rs g
  unfold gOrd at g
  split at g
  · cases rs with
    | cons r rs => cases rs; cases r; exact ⟨_, rfl, rfl, g.same hh (.int _)⟩
  · exact g.elim
theorem imp_str : ImpL X.K W gStr (fun xs H Q => ∃ i, xs = [.int i] ∧ i.natAbs.log2 < 1920 ∧ Q (.str (toString i)) H) := by
  intro ι H h σ xs vs Q hh rs g
  unfold gStr at g
  split at g
  · split at g
    · rename_i hz
      cases rs with
      | cons r rs =>
        cases rs
        cases r
        refine ⟨_, rfl, Nat.lt_trans (log_big hz.1 hz.2) (by decide), ?_⟩
        have q := g.same hh (.str (num _))
        rw [toS_num] at q
        exact q
    · exact g.elim
  · exact g.elim
abbrev rIntG : List V → Hp → VK → Prop := fun xs H Q => ((∃ i, xs = [.int i] ∧ Q (.int i) H) ∨ ∃ k, xs = [.bl k] ∧ Q (.int (if k then 1 else 0)) H) ∨ (∃ a n, xs = [.str a] ∧ PySem.intText? a = some n ∧ a.length ≤ 640 ∧ Q (.int n) H)
theorem op_intG : CallR X (.type "int") rIntG := call_int1.or call_int_str
theorem imp_int : ImpL X.K W gInt rIntG := by
  intro ι H h σ xs vs Q hh rs g
  unfold gInt at g
  split at g
  · cases rs with
    | cons r rs => cases rs; cases r; exact .inl (.inl ⟨_, rfl, g.same hh (.int _)⟩)
  · cases rs with
    | cons r rs => cases rs; cases r; exact .inl (.inr ⟨_, rfl, g.same hh (.int _)⟩)
  · split at g
    · split at g
      · rename_i hz _ n e
        cases rs with
        | cons r rs => cases rs; cases r; exact .inr ⟨_, _, rfl, e, by rw [toS_length]; exact hz, g.same hh (.int _)⟩
      · exact g.elim
    · exact g.elim
  · exact g.elim
end
/-! ### tuple(..), list(..) -/
def gTuple (xs : List D) (h : Hy) : R (D × Hy) := match xs with
  | [x] => match items h x with
    | some ys => .ok (.tup ys, h)
    | none => .stuck
  | _ => .stuck
def gList (xs : List D) (h : Hy) : R (D × Hy) := match xs with
  | [x] => match items h x with
    | some ys => new (.lst ys) h
    | none => .stuck
  | _ => .stuck
section
variable {X : Cx} {W : WX}
theorem imp_tuple : ImpL X.K W gTuple (fun xs H Q => ∃ p ys, xs = [.ref p] ∧ ((SqL X.K H p ys ∧ ∀ l, H l = none → Q (.ref l) (upd H l (.tup ys))) ∨ (SqT X.K H p ys ∧ Q (.ref p) H))) := by
  intro ι H h σ xs vs Q hh rs g
  unfold gTuple at g
  split at g
  · split at g
    · rename_i x ys e
      cases rs with
      | cons r rs =>
        cases rs
        obtain ⟨a, ws, rfl, hs, rw'⟩ := items_of hh r e
        refine ⟨a, ws, rfl, ?_⟩
        rcases hs with hs | hs
        · exact .inl ⟨hs, fun l hl => VW.newTup g hh rw' hl⟩
        · exact .inr ⟨hs, g.same hh (.tup hs rw')⟩
    · exact g.elim
  · exact g.elim
theorem imp_list : ImpL X.K W gList (fun xs H Q => ∃ p ys, xs = [.ref p] ∧ (SqL X.K H p ys ∨ SqT X.K H p ys) ∧ ∀ l, H l = none → Q (.ref l) (upd H l (.lst ys))) := by
  intro ι H h σ xs vs Q hh rs g
  unfold gList at g
  split at g
  · split at g
    · rename_i x ys e
      cases rs with
      | cons r rs =>
        cases rs
        obtain ⟨a, ws, rfl, hs, rw'⟩ := items_of hh r e
        exact ⟨a, ws, rfl, hs, fun l hl => VW.newLst g hh rw' hl⟩
    · exact g.elim
  · exact g.elim
end
/-! ### isinstance -/
/-- a value's type by name -/
def tyOf (h : Hy) : D → Option String
  | .non => some "NoneType"
  | .bl _ => some "bool"
  | .int _ => some "int"
  | .str _ => some "str"
  | .tup _ => some "tuple"
  | .fl _ => some "list"
  | .ref n => match h[n]? with
    | some (.lst _) => some "list"
    | some (.dic _) => some "dict"
    | _ => none
  | .fn _ => none
def gIsi (T : String) (xs : List D) (h : Hy) : R (D × Hy) := match xs with
  | [x] => match tyOf h x with
    | some t => .ok (.bl (t == T || (t == "bool" && T == "int")), h)
    | none => .stuck
  | _ => .stuck
/-- a value of a written type's kind -/
def isiOk (T : String) : Bool := ["NoneType", "bool", "int", "str", "tuple", "list", "dict"].all fun t => decide (kitB t T = some (t == T || (t == "bool" && T == "int")))
theorem tyOf_X {K : PySem.W.Frag} {ι : List Addr} {H : Hp} {h : Hy} (hh : Rh K ι H h) {v : V} {d : D} {t : String} (r : Rep K ι H v d) (e : tyOf h d = some t) : TyX K H v (.type t) ∧ t ∈ ["NoneType", "bool", "int", "str", "tuple", "list", "dict"] := by
  cases r with
  | non => cases e; exact ⟨.base .non, by simp⟩
  | bl b => cases e; exact ⟨.base (.bl _), by simp⟩
  | int b => cases e; exact ⟨.base (.int _), by simp⟩
  | str b => cases e; exact ⟨.base (.str _), by simp⟩
  | tup hs rs =>
    cases e
    refine ⟨?_, by simp⟩
    rcases hs with (hs | ⟨o, hs⟩) | ⟨o, its, n, hk, hc, _⟩
    · exact .base (.tup hs)
    · exact .fTuple hs
    · exact .kTuple hk hc
  | fl hs rs =>
    cases e
    refine ⟨?_, by simp⟩
    rcases hs with ⟨o, hs⟩ | ⟨o, its, n, hk, hc, _⟩
    · exact .base (.frz hs)
    · exact .kList hk hc
  | ref hn =>
    rename_i a n
    unfold tyOf at e
    simp only at e
    cases q : h[n]? with
    | none => rw [q] at e; cases e
    | some o =>
      rw [q] at e
      cases o with
      | lst ds =>
        cases e
        obtain ⟨vs, hv, rs⟩ := hh.at_ n _ _ hn q
        exact ⟨.base (.lst hv), by simp⟩
      | dic ds =>
        cases e
        obtain ⟨vs, hv, rs⟩ := hh.at_ n _ _ hn q
        exact ⟨.base (.dK hv), by simp⟩
      | ins _ _ => cases e
  | fn x => cases e
section
variable {X : Cx} {W : WX} {pos p p2 : Pos} {e : Expr} {f : FE}
theorem px_isi {T : String} {Ts : Str} (hT : Ts = Str.ofString T) (hm : X.mg "isinstance" = none) (hm2 : X.mg Ts = none) (hv2 : bootBuiltins Ts = some (.type T)) (hk : isiOk T = true) (ha : PX X W e f)
    (hg : Gl X "isinstance" := by rfl) (hg2 : Gl X Ts := by rfl) (hn2 : Ts ≠ "__name__" := by decide) (hd2 : (Ts == ("__debug__" : Str)) = false := by decide)
    (he : starEach [e, .Name Ts p2] X.env = (false, eval e X.env) :: starEach [.Name Ts p2] X.env := by rfl) (he2 : starEach [.Name Ts p2] X.env = (false, eval (.Name Ts p2) X.env) :: starEach [] X.env := by rfl) :
    PX X W (.Call (.Name "isinstance" p) [e, .Name Ts p2] [] pos) (un (fun x h => gIsi T [x] h) f) := by
  have h2 : PE X (.Name Ts p2) (tC (.ty T)) := pe_bltn hg2 hm2 hv2 rfl hn2 hd2
  refine ⟨PE.mono (pe_callB call_isi hg hm (by decide +kernel) (pa_cons ha.pe (pa_cons h2 pa_nil he2) he) (by decide) (by decide) he (by rw [he2]; rfl)) fun σ H Q ⟨ι, ρ, h, hρ, hh, q⟩ => ?_⟩
  refine tE_seq hρ hh q fun p ι1 H1 v1 e1 h1 r1 hρ1 q1 => ?_
  unfold gIsi at q1
  simp only at q1
  cases et : tyOf p.2 p.1 with
  | none => rw [et] at q1; exact q1.elim
  | some t =>
    rw [et] at q1
    obtain ⟨ty, hm⟩ := tyOf_X h1 r1 et
    refine ⟨_, _, _, _, _, rfl, .ty T, ty, kit_ty (of_decide_eq_true (List.all_eq_true.mp hk t hm)), q1.same h1 (.bl _)⟩
end
end Px
namespace Px
open PySem PySem.Spec PyProof.Rows L2
/-! ## subscripts -/
def sIx (x y : D) (h : Hy) : R (D × Hy) := match x, y with
  | .str s, .int i => if s.length ≤ 16777216 then match L2.atI s i with
    | some c => .ok (.str [c], h)
    | none => .stuck
    else .stuck
  | x, .int i => match items h x with
    | some xs => match L2.atI xs i with
      | some d => .ok (d, h)
      | none => .stuck
    | none => .stuck
  | _, _ => .stuck
theorem Reps.atI {K : PySem.W.Frag} {ι : List Addr} {H : Hp} {vs : List V} {ds : List D} {i : Int} {d : D} (r : Reps K ι H vs ds) (e : L2.atI ds i = some d) : ∃ v, L2.atI vs i = some v ∧ Rep K ι H v d := by
  unfold L2.atI at e ⊢
  rw [r.length]
  cases q : ixN ds.length i with
  | none => rw [q] at e; cases e
  | some j =>
    rw [q] at e
    exact r.get (i := j) e
theorem atI_cd {s : Tx} {i : Int} {c : Char} (e : L2.atI s i = some c) : L2.atI (cd s) i = some c.toNat := by
  unfold L2.atI at e ⊢
  rw [cd_length]
  cases q : ixN s.length i with
  | none => rw [q] at e; cases e
  | some j =>
    rw [q] at e
    have e : s[j]? = some c := e
    show (cd s)[j]? = some c.toNat
    unfold cd
    rw [List.getElem?_map, e]
    rfl
/-- xs[lo:hi] -/
def cut {α : Type} (xs : List α) (lo hi : Option Int) : List α := (xs.drop (HT.sIx xs.length 0 lo)).take (HT.sIx xs.length xs.length hi - HT.sIx xs.length 0 lo)
def sCut (x : D) (lo hi : Option Int) (h : Hy) : R (D × Hy) := match x with
  | .str s => if s.length ≤ 16777216 then .ok (.str (cut s lo hi), h) else .stuck
  | .tup xs => .ok (.tup (cut xs lo hi), h)
  | x => match itemsL h x with
    | some xs => new (.lst (cut xs lo hi)) h
    | none => .stuck
theorem Reps.cut {K : PySem.W.Frag} {ι : List Addr} {H : Hp} {vs : List V} {ds : List D} (r : Reps K ι H vs ds) (lo hi : Option Int) : Reps K ι H (cutV vs lo hi) (cut ds lo hi) := by
  unfold cutV Px.cut
  rw [r.length]
  exact (r.drop _).take _
theorem cut_all {α : Type} {xs : List α} {lo hi : Option Int} (h1 : HT.sIx xs.length 0 lo = 0) (h2 : HT.sIx xs.length xs.length hi = xs.length) : cut xs lo hi = xs := by
  unfold cut
  rw [h1, h2]
  simp
theorem cutS_toS (s : Tx) (lo hi : Option Int) : cutS (toS s) lo hi = toS (cut s lo hi) := by
  unfold cutS cut
  rw [toS_length, toS_list]
  show (⟨_⟩ : Str) = ⟨(cd _).toArray⟩
  unfold cd
  rw [List.map_take, List.map_drop]
abbrev FO := Env → Hy → R (Option Int × Hy)
def oNone : FO := fun _ h => .ok (none, h)
def oSome (f : FE) : FO := fun ρ h => (f ρ h).bind fun p => match p.1 with
  | .int i => .ok (some i, p.2)
  | _ => .stuck
def eCut (f : FE) (lo hi : FO) : FE := fun ρ h => (f ρ h).bind fun p => (lo ρ p.2).bind fun q => (hi ρ q.2).bind fun r => sCut p.1 q.1 r.1 r.2
def OW (K : PySem.W.Frag) (ι : List Addr) (H : Hp) (Q : Option Int → Hp → Prop) (p : Option Int × Hy) : Prop := ∀ ι' H', Ext ι H ι' H' → Rh K ι' H' p.2 → Q p.1 H'
def tO (K : PySem.W.Frag) (W : WX) (f : FO) : TO := fun σ H Q => ∃ ι ρ h, RepX K ι H σ ρ ∧ Rh K ι H h ∧ Good (f ρ h) (OW K ι H Q) (XW K W ι σ H)
structure PXO (X : Cx) (W : WX) (e : Option Expr) (f : FO) : Prop where
  po : PO X e (tO X.K W f)
theorem PO.mono {X : Cx} {e : Option Expr} {t t' : TO} (h : PO X e t) (hi : ∀ σ H Q, t' σ H Q → t σ H Q) : PO X e t' := ⟨fun pins s σ H Q I q => h.run pins s σ H Q I (hi _ _ _ q)⟩
theorem tO_seqV {K : PySem.W.Frag} {W : WX} {f : FO} {k : Option Int × Hy → R (D × Hy)} {σ : L2.St} {H : Hp} {Q : VK} {Q' : Option Int → Hp → Prop} {ι : List Addr} {ρ : Env} {h : Hy} (hρ : RepX K ι H σ ρ) (hh : Rh K ι H h)
    (g : Good ((f ρ h).bind k) (VW K ι H Q) (XW K W ι σ H)) (c : ∀ p ι' H', Ext ι H ι' H' → Rh K ι' H' p.2 → RepX K ι' H' σ ρ → Good (k p) (VW K ι' H' Q) (XW K W ι' σ H') → Q' p.1 H') : tO K W f σ H Q' :=
  ⟨ι, ρ, h, hρ, hh, g.bind.mono (fun p q ι' H' e r => c p ι' H' e r (hρ.ext e) (q.mono (fun _ z => z.ext e) fun _ _ _ z => z.ext e)) fun _ _ _ z => z⟩
section
variable {X : Cx} {W : WX} {pos p2 : Pos} {a b e : Expr} {fa fb f : FE} {lo hi : Option Expr} {fl fh : FO}
theorem imp_ix : Imp2 X.K W sIx (rIx X.K) := by
  intro ι H h σ x y vx vy Q hh rx ry g
  unfold sIx at g
  split at g
  · split at g
    · split at g
      · rename_i hz _ c e
        cases rx; cases ry
        refine .inr (.inr ⟨_, _, c.toNat, rfl, rfl, line_le (by rw [toS_length]; exact hz), atI_cd e, ?_⟩)
        exact g.same hh (.str [c])
      · exact g.elim
    · exact g.elim
  · split at g
    · split at g
      · rename_i xs e1 _ d e2
        cases ry
        obtain ⟨a, ws, rfl, hs, rw'⟩ := items_of hh rx e1
        obtain ⟨v, e3, rv⟩ := rw'.atI e2
        rcases hs with hs | hs
        · exact .inl ⟨_, _, _, _, rfl, rfl, hs, e3, g.same hh rv⟩
        · exact .inr (.inl ⟨_, _, _, _, rfl, rfl, hs, e3, g.same hh rv⟩)
      · exact g.elim
    · exact g.elim
  · exact g.elim
theorem px_ix (ha : PX X W a fa) (hb : PX X W b fb) (hs : PlainIx b := by exact fun _ _ => rfl) : PX X W (.Subscript a b pos) (bin sIx fa fb) :=
  ⟨PE.mono (pe_ix ix_seq ha.pe hb.pe hs) fun _ _ _ => bin_mono imp_ix⟩
theorem pxo_none : PXO X W none oNone := ⟨PO.mono po_none fun σ H Q ⟨ι, ρ, h, hρ, hh, g⟩ => g ι H Ext.refl hh⟩
theorem pxo_some (ha : PX X W e f) : PXO X W (some e) (oSome f) := by
  refine ⟨PO.mono (po_some ha.pe) fun σ H Q ⟨ι, ρ, h, hρ, hh, g⟩ => ?_⟩
  refine tE_in (ok := fun p => Good (match p.1 with | .int i => R.ok (some i, p.2) | _ => .stuck) (OW X.K ι H Q) (XW X.K W ι σ H)) hρ hh g.bind fun p q ι1 H1 v1 e1 h1 r1 => ?_
  obtain ⟨d, h'⟩ := p
  cases d with
  | int c =>
    cases r1
    exact ⟨c, rfl, q ι1 H1 e1 h1⟩
  | _ => exact q.elim
abbrev rSlG (K : PySem.W.Frag) : V → Option Int → Option Int → Hp → VK → Prop := fun x lo hi H Q => rSlS x lo hi H Q ∨ rSlA K x lo hi H Q ∨ rSlL K x lo hi H Q
theorem sl_G : SlR X (rSlG X.K) := sl_str.or (sl_tupA.or sl_list)
theorem px_cut (ha : PX X W e f) (hl : PXO X W lo fl) (hu : PXO X W hi fh) : PX X W (.Subscript e (.Slice lo hi none p2) pos) (eCut f fl fh) := by
  refine ⟨PE.mono (pe_slice sl_G ha.pe hl.po hu.po) fun σ H Q ⟨ι, ρ, h, hρ, hh, g⟩ => ?_⟩
  refine tE_seq hρ hh g fun p ι1 H1 v1 e1 h1 r1 hρ1 q1 => tO_seqV hρ1 h1 q1 fun p2 ι2 H2 e2 h2 hρ2 q2 => tO_seqV hρ2 h2 q2 fun p3 ι3 H3 e3 h3 hρ3 q3 => ?_
  have r3 := (r1.ext e2).ext e3
  unfold sCut at q3
  split at q3
  · split at q3
    · rename_i s hp hz
      rw [hp] at r3
      cases r3
      refine .inl ⟨_, rfl, line_le (by rw [toS_length]; exact hz), ?_⟩
      rw [cutS_toS]
      exact q3.same h3 (.str _)
    · exact q3.elim
  · rename_i xs hp
    rw [hp] at r3
    cases r3 with
    | tup hs rs =>
      refine .inr (.inl ⟨_, _, rfl, hs, fun hw => ?_, fun hw p hp => VW.newTup q3 h3 (rs.cut _ _) hp⟩)
      rw [rs.length] at hw
      have e := cut_all hw.1 hw.2
      rw [e] at q3
      exact q3.same h3 (.tup hs rs)
  · split at q3
    · rename_i e
      obtain ⟨a, ws, ev, hs, rw'⟩ := itemsL_of h3 r3 e
      rw [ev]
      exact .inr (.inr ⟨_, _, rfl, hs, fun p hp => VW.newLst q3 h3 (rw'.cut _ _) hp⟩)
    · exact q3.elim
end
/-! ## methods of texts -/
def ImpM (K : PySem.W.Frag) (W : WX) (g : D → List D → Hy → R (D × Hy)) (r : V → List V → Hp → VK → Prop) : Prop :=
  ∀ (ι : List Addr) (H : Hp) (h : Hy) (σ : L2.St) (x : D) (v : V) (xs : List D) (vs : List V) (Q : VK), Rh K ι H h → Rep K ι H v x → Reps K ι H vs xs → Good (g x xs h) (VW K ι H Q) (XW K W ι σ H) → r v vs H Q
/-- the receiver is a text -/
def D.isStr : D → Bool
  | .str _ => true
  | _ => false
def eM0 (g : D → List D → Hy → R (D × Hy)) (fo : FE) : FE := fun ρ h => (fo ρ h).bind fun p => if p.1.isStr then g p.1 [] p.2 else .stuck
def eM1 (g : D → List D → Hy → R (D × Hy)) (fo fa : FE) : FE := fun ρ h => (fo ρ h).bind fun p => if p.1.isStr then (fa ρ p.2).bind fun q => g p.1 [q.1] q.2 else .stuck
theorem isStr_rep {K : PySem.W.Frag} {ι : List Addr} {H : Hp} {v : V} {d : D} (r : Rep K ι H v d) (e : d.isStr = true) : ∃ a, v = .str a := by
  cases r <;> first | exact ⟨_, rfl⟩ | cases e
section
variable {X : Cx} {W : WX} {pos apos : Pos} {o e : Expr} {fo fe : FE} {id : String} {name : Str} {r : V → List V → Hp → VK → Prop} {g : D → List D → Hy → R (D × Hy)}
theorem px_m1 (slot : Slot "str" name id) (ty : typeOf (.builtin id) = pure (.type "method_descriptor")) (rule : MtR X id r) (hi : ImpM X.K W g r) (ho : PX X W o fo) (he : PX X W e fe)
    (hs : starEach [e] X.env = [(false, eval e X.env)] := by rfl) (hbase : attributeBase o name X.env (eval o X.env) = eval o X.env := by rfl) (hline : (apos.endLine == pos.line) = true := by rfl) :
    PX X W (.Call (.Attribute o name apos) [e] [] pos) (eM1 g fo fe) := by
  refine ⟨PE.mono (pe_m1 slot ty rule ho.pe he.pe hs hbase hline) fun σ H Q ⟨ι, ρ, h, hρ, hh, q⟩ => ?_⟩
  refine tE_seq hρ hh q fun p ι1 H1 v1 e1 h1 r1 hρ1 q1 => ?_
  split at q1
  · rename_i hp
    exact ⟨isStr_rep r1 hp, tE_seq hρ1 h1 q1 fun p2 ι2 H2 v2 e2 h2 r2 hρ2 q2 => hi ι2 H2 p2.2 σ p.1 v1 [p2.1] [v2] Q h2 (r1.ext e2) (.one r2) q2⟩
  · exact q1.elim
theorem px_m0 (slot : Slot "str" name id) (ty : typeOf (.builtin id) = pure (.type "method_descriptor")) (rule : MtR X id r) (hi : ImpM X.K W g r) (ho : PX X W o fo)
    (hbase : attributeBase o name X.env (eval o X.env) = eval o X.env := by rfl) (hline : (apos.endLine == pos.line) = true := by rfl) :
    PX X W (.Call (.Attribute o name apos) [] [] pos) (eM0 g fo) := by
  refine ⟨PE.mono (pe_m0 slot ty rule ho.pe hbase hline) fun σ H Q ⟨ι, ρ, h, hρ, hh, q⟩ => ?_⟩
  refine tE_seq hρ hh q fun p ι1 H1 v1 e1 h1 r1 hρ1 q1 => ?_
  split at q1
  · rename_i hp
    exact ⟨isStr_rep r1 hp, hi ι1 H1 p.2 σ p.1 v1 [] [] Q h1 r1 .nil q1⟩
  · exact q1.elim
end
/-- cut at each c -/
def splitC (c : Char) : Tx → List Tx
  | [] => [[]]
  | x :: xs => if x = c then [] :: splitC c xs else match splitC c xs with
    | [] => [[x]]
    | y :: ys => (x :: y) :: ys
theorem splitC_ne (c : Char) (s : Tx) : splitC c s ≠ [] := by
  cases s with
  | nil => simp [splitC]
  | cons x xs =>
    unfold splitC
    split
    · simp
    · split <;> simp
def onHd (acc : List Nat) : List (List Nat) → List (List Nat)
  | [] => []
  | y :: ys => (acc ++ y) :: ys
theorem spl_splitC (c : Char) : ∀ (s : Tx) (acc : List Nat), TL.spl [c.toNat] 0 acc (cd s) = onHd acc ((splitC c s).map cd)
  | [], acc => by simp [splitC, cd, TL.spl_nil, onHd]
  | x :: xs, acc => by
    have hcd : cd (x :: xs) = x.toNat :: cd xs := rfl
    rw [hcd]
    unfold splitC
    by_cases h : x = c
    · subst h
      rw [if_pos rfl, TL.spl_hit (by simp [TL.pre])]
      have ih := spl_splitC x xs []
      simp only [List.length_singleton, Nat.sub_self, List.map_cons] at ih ⊢
      rw [ih]
      have hc : cd [] = [] := rfl
      rw [hc]
      cases e : splitC x xs with
      | nil => exact absurd e (splitC_ne _ _)
      | cons y ys => simp [onHd]
    · rw [if_neg h, TL.spl_miss (by
        simp only [TL.pre, List.length_singleton, List.take_succ_cons, List.take_zero]
        have : x.toNat ≠ c.toNat := fun z => h (char_inj z)
        simpa using this)]
      rw [spl_splitC c xs (acc ++ [x.toNat])]
      cases e : splitC c xs with
      | nil => exact absurd e (splitC_ne _ _)
      | cons y ys => simp [cd, onHd]
theorem split_toS {c : Char} (hc : c.toNat < 256) (s : Tx) : Txt.split (toS s) (toS [c]) = (splitC c s).map toS := by
  refine TL.map_tl_inj ?_
  rw [TL.split_spl _ _ (by show cd [c] ≠ []; simp [cd]) ?_]
  · show TL.spl [c.toNat] 0 [] (cd s) = _
    rw [spl_splitC, List.map_map]
    have : (TL.tl ∘ toS) = cd := by
      funext y
      rfl
    rw [this]
    cases e : splitC c s with
    | nil => exact absurd e (splitC_ne _ _)
    | cons y ys => simp [onHd]
  · have e : Builtin.Str.strKind (toS [c]) = 1 := by
      unfold Builtin.Str.strKind
      rw [if_pos]
      show (cd [c]).toArray.all (· < 256) = true
      simp [cd, hc]
    rw [e]
    unfold Builtin.Str.strKind
    split
    · omega
    · split <;> omega
def mSplit (x : D) (xs : List D) (h : Hy) : R (D × Hy) := match x, xs with
  | .str s, [.str [c]] => if c.toNat < 256 ∧ s.length + 2 ≤ 16777216 then new (.lst ((splitC c s).map D.str)) h else .stuck
  | _, _ => .stuck
/-- texts with one between -/
def joinT (sep : Tx) : List Tx → Tx
  | [] => []
  | [x] => x
  | x :: y :: r => x ++ sep ++ joinT sep (y :: r)
theorem join_toS (sep : Tx) : ∀ ts : List Tx, Str.join (toS sep) (ts.map toS) = toS (joinT sep ts)
  | [] => rfl
  | [x] => rfl
  | x :: y :: r => by
    show toS x ++ toS sep ++ Str.join (toS sep) ((y :: r).map toS) = _
    rw [join_toS sep (y :: r), toS_append, toS_append]
    rfl
def mJoin (x : D) (xs : List D) (h : Hy) : R (D × Hy) := match x, xs with
  | .str s, [y] => match (items h y).bind (·.mapM asStr) with
    | some ts => if (ts.map List.length).sum + ts.length * s.length ≤ 16777216 then .ok (.str (joinT s ts), h) else .stuck
    | none => .stuck
  | _, _ => .stuck
theorem Reps.strs {K : PySem.W.Frag} {ι : List Addr} {H : Hp} : ∀ ts : List Tx, Reps K ι H ((ts.map toS).map V.str) (ts.map D.str)
  | [] => .nil
  | t :: ts => .cons (.str t) (Reps.strs ts)
section
variable {X : Cx} {W : WX}
theorem imp_split : ImpM X.K W mSplit (fun x xs H Q => ∃ a b, x = .str a ∧ xs = [.str b] ∧ (b.length == 0) = false ∧ a.length + 2 ≤ sizeLine ∧ rNewStrs (Txt.split a b) H Q) := by
  intro ι H h σ x v xs vs Q hh rx rs g
  unfold mSplit at g
  split at g
  · split at g
    · rename_i s c hz
      cases rx
      cases rs with
      | cons r rs =>
        cases rs
        cases r
        refine ⟨_, _, rfl, rfl, rfl, line_le (by rw [toS_length]; exact hz.2), ?_⟩
        rw [split_toS hz.1]
        exact fun p hp => VW.newLst g hh (Reps.strs _) hp
    · exact g.elim
  · exact g.elim
theorem imp_join : ImpM X.K W mJoin (fun x xs H Q => ∃ a p, ∃ ys : List Str, x = .str a ∧ xs = [.ref p] ∧ (SqL X.K H p (ys.map V.str) ∨ SqT X.K H p (ys.map V.str)) ∧
      (ys.map (·.length)).sum + ys.length * a.length ≤ 16777216 ∧ Q (.str (Txt.join a ys)) H) := by
  intro ι H h σ x v xs vs Q hh rx rs g
  unfold mJoin at g
  split at g
  · split at g
    · rename_i s y ts e
      split at g
      · rename_i hz
        cases rx
        cases rs with
        | cons r rs =>
          cases rs
          obtain ⟨ds, e1, e2⟩ := Option.bind_eq_some_iff.mp e
          obtain ⟨a, ws, rfl, hs, rw'⟩ := items_of hh r e1
          rw [allStr rw' e2] at hs
          refine ⟨_, a, ts.map toS, rfl, rfl, hs, ?_, ?_⟩
          · rw [List.map_map, List.length_map, toS_length]
            have : ((fun y : Str => y.length) ∘ toS) = (List.length : Tx → Nat) := by
              funext y
              exact toS_length y
            rw [this]
            exact hz
          · rw [TL.join_eq, join_toS]
            exact g.same hh (.str _)
      · exact g.elim
    · exact g.elim
  · exact g.elim
variable {pos apos : Pos} {o e : Expr} {fo fe : FE}
theorem px_split (ho : PX X W o fo) (he : PX X W e fe) (hs : starEach [e] X.env = [(false, eval e X.env)] := by rfl) (hbase : attributeBase o "split" X.env (eval o X.env) = eval o X.env := by rfl) (hline : (apos.endLine == pos.line) = true := by rfl) :
    PX X W (.Call (.Attribute o "split" apos) [e] [] pos) (eM1 mSplit fo fe) := px_m1 F.slot_str_split F.type_str_split mt_split imp_split ho he hs hbase hline
theorem px_join (ho : PX X W o fo) (he : PX X W e fe) (hs : starEach [e] X.env = [(false, eval e X.env)] := by rfl) (hbase : attributeBase o "join" X.env (eval o X.env) = eval o X.env := by rfl) (hline : (apos.endLine == pos.line) = true := by rfl) :
    PX X W (.Call (.Attribute o "join" apos) [e] [] pos) (eM1 mJoin fo fe) := px_m1 F.slot_str_join F.type_str_join mt_join imp_join ho he hs hbase hline
end
/-! ## methods of lists -/
/-- a list of ours -/
def isLst (h : Hy) : D → Bool
  | .ref n => match h[n]? with
    | some (.lst _) => true
    | _ => false
  | _ => false
def eL0 (g : D → List D → Hy → R (D × Hy)) (fo : FE) : FE := fun ρ h => (fo ρ h).bind fun p => if isLst p.2 p.1 then g p.1 [] p.2 else .stuck
def eL1 (g : D → List D → Hy → R (D × Hy)) (fo : FE) (fa : FA) : FE := fun ρ h => (fo ρ h).bind fun p => if isLst p.2 p.1 then (fa ρ p.2).bind fun q => g p.1 q.1 q.2 else .stuck
theorem isLst_ty {K : PySem.W.Frag} {ι : List Addr} {H : Hp} {h : Hy} (hh : Rh K ι H h) {v : V} {d : D} (r : Rep K ι H v d) (e : isLst h d = true) : tyV K "list" v H := by
  cases r with
  | ref hn =>
    rename_i a n
    unfold isLst at e
    simp only at e
    split at e
    · rename_i ds q
      obtain ⟨vs, hv, rs⟩ := hh.at_ n _ _ hn q
      exact .inl ⟨rfl, vs, SqL.of hv⟩
    · cases e
  | _ => cases e
/-- a list of ours is written -/
theorem VW.set {K : PySem.W.Frag} {ι : List Addr} {H : Hp} {h : Hy} {Q : VK} {vs : List V} {ds : List D} {n : Nat} {a : Addr} {v : V} {d : D} (q : VW K ι H Q (d, h.set n (.lst ds))) (hh : Rh K ι H h) (hn : ι[n]? = some a) (r : Reps K ι H vs ds) (rv : Rep K ι H v d) : Q v (upd H a (.lst vs)) := by
  have e0 := (hh.write (o := .lst vs) (u := .lst ds) hn)
  have nt : Ext ι H ι (upd H a (.lst vs)) := by
    obtain ⟨old, ho, hm⟩ := hh.some_of (List.mem_of_getElem? hn)
    have nt : ∀ {b vs}, H b = some (.tup vs) → b ≠ a := fun {b vs} e z => by rw [z, ho] at e; cases e; exact hm
    have nf : ∀ {b p q}, H b = some (.frz p q) → b ≠ a := fun {b p q} e z => by rw [z, ho] at e; cases e; exact hm
    exact ⟨List.prefix_refl _, fun b vs e => by rw [upd_ne (nt e)]; exact e, fun b u w e => by rw [upd_ne (nf e)]; exact e,
      fun b u e n => by rw [upd_ne (fun z => n (by rw [z]; exact List.mem_of_getElem? hn))]; exact e, fun b z n => absurd z n⟩
  obtain ⟨e, hh'⟩ := e0 ⟨vs, upd_same, r.ext nt⟩
  exact q ι _ v e hh' (rv.ext e)
def mAppend (x : D) (xs : List D) (h : Hy) : R (D × Hy) := match x, xs with
  | .ref n, [y] => match h[n]? with
    | some (.lst ds) => if ds.length < 16777216 then .ok (.non, h.set n (.lst (ds ++ [y]))) else .stuck
    | _ => .stuck
  | _, _ => .stuck
def mExtend (x : D) (xs : List D) (h : Hy) : R (D × Hy) := match x, xs with
  | .ref n, [.ref m] => match h[n]?, h[m]? with
    | some (.lst ds), some (.lst es) => if ds.length + es.length ≤ 16777216 then .ok (.non, h.set n (.lst (ds ++ es))) else .stuck
    | _, _ => .stuck
  | _, _ => .stuck
def mPop (x : D) (xs : List D) (h : Hy) : R (D × Hy) := match x, xs with
  | .ref n, [] => match h[n]? with
    | some (.lst ds) => match ds[ds.length - 1]? with
      | some y => .ok (y, h.set n (.lst ds.dropLast))
      | none => .stuck
    | _ => .stuck
  | _, _ => .stuck
theorem Reps.dropLast {K : PySem.W.Frag} {ι : List Addr} {H : Hp} {vs : List V} {ds : List D} (r : Reps K ι H vs ds) : Reps K ι H vs.dropLast ds.dropLast := by
  rw [List.dropLast_eq_take, List.dropLast_eq_take, r.length]
  exact r.take _
section
variable {X : Cx} {W : WX}
theorem imp_append : ImpM X.K W mAppend rAppend := by
  intro ι H h σ x v xs vs Q hh rx rs g
  unfold mAppend at g
  split at g
  · split at g
    · rename_i n y _ ds e
      split at g
      · rename_i hz
        cases rx with
        | ref hn =>
          cases rs with
          | cons r rs =>
            cases rs
            obtain ⟨ws, hv, rw'⟩ := hh.at_ _ _ _ hn e
            exact ⟨_, _, _, rfl, rfl, hv, by rw [rw'.length, sizeLine_eq]; exact hz, VW.set g hh hn (rw'.append (.one r)) .non⟩
      · exact g.elim
    · exact g.elim
  · exact g.elim
theorem imp_extend : ImpM X.K W mExtend rExtend := by
  intro ι H h σ x v xs vs Q hh rx rs g
  unfold mExtend at g
  split at g
  · split at g
    · rename_i n m _ _ ds es e1 e2
      split at g
      · rename_i hz
        cases rx with
        | ref hn =>
          cases rs with
          | cons r rs =>
            cases rs
            cases r with
            | ref hm =>
              obtain ⟨ws, hv, rw'⟩ := hh.at_ _ _ _ hn e1
              obtain ⟨ws2, hv2, rw2⟩ := hh.at_ _ _ _ hm e2
              exact ⟨_, _, _, _, rfl, rfl, hv, hv2, line_le (by rw [rw'.length, rw2.length]; exact hz), VW.set g hh hn (rw'.append rw2) .non⟩
      · exact g.elim
    · exact g.elim
  · exact g.elim
theorem imp_pop : ImpM X.K W mPop rPop := by
  intro ι H h σ x v xs vs Q hh rx rs g
  unfold mPop at g
  split at g
  · split at g
    · rename_i n _ ds e
      split at g
      · rename_i y ey
        cases rx with
        | ref hn =>
          cases rs
          obtain ⟨ws, hv, rw'⟩ := hh.at_ _ _ _ hn e
          obtain ⟨w, ew, rv⟩ := rw'.get ey
          exact ⟨_, _, w, rfl, rfl, hv, by rw [rw'.length]; exact ew, VW.set g hh hn rw'.dropLast rv⟩
      · exact g.elim
    · exact g.elim
  · exact g.elim
variable {cpos apos : Pos} {o e : Expr} {es : List Expr} {fo : FE} {fa : FA} {id : String} {name : Str} {r : V → List V → Hp → VK → Prop} {g : D → List D → Hy → R (D × Hy)}
theorem px_l1 (slot : Slot "list" name id) (hty : typeOf (.builtin id) = pure (.type "method_descriptor")) (hm : MtR X id r) (hi : ImpM X.K W g r) (ho : PX X W o fo) (ha : PXA X W (e :: es) fa)
    (hbase : attributeBase o name X.env (eval o X.env) = eval o X.env := by rfl)
    (hfew : ((backTo cpos (starEach (e :: es) X.env)).all (fun x => !x.1) && (backToKw cpos (keywordEach [] X.env)).all (fun x => x.1.isSome)
      && decide ((e :: es).length + ([] : List Keyword).length + (if ([] : List Keyword).isEmpty then 0 else 1) < 30)) = true := by rfl)
    (hline : (apos.endLine == cpos.line) = true := by rfl) (hs : starEach (e :: es) X.env = (false, eval e X.env) :: starEach es X.env := by rfl) (hplain : (backTo cpos (starEach es X.env)).any (·.1) = false := by rfl) :
    PX X W (.Call (.Attribute o name apos) (e :: es) [] cpos) (eL1 g fo fa) := by
  refine ⟨PE.mono (pe_bm PySem.F.plainAttrs_list slot hty hm ho.pe ha.pa hbase hfew hline hs hplain) fun σ H Q ⟨ι, ρ, h, hρ, hh, q⟩ => ?_⟩
  refine tE_seq hρ hh q fun p ι1 H1 v1 e1 h1 r1 hρ1 q1 => ?_
  split at q1
  · rename_i hp
    exact ⟨isLst_ty h1 r1 hp, tA_seqV hρ1 h1 q1 fun p2 ι2 H2 vs e2 h2 r2 hρ2 q2 => hi ι2 H2 p2.2 σ p.1 v1 p2.1 vs Q h2 (r1.ext e2) r2 q2⟩
  · exact q1.elim
theorem px_l0 (slot : Slot "list" name id) (hty : typeOf (.builtin id) = pure (.type "method_descriptor")) (hm : MtR X id r) (hi : ImpM X.K W g r) (ho : PX X W o fo)
    (hbase : attributeBase o name X.env (eval o X.env) = eval o X.env := by rfl) (hline : (apos.endLine == cpos.line) = true := by rfl) : PX X W (.Call (.Attribute o name apos) [] [] cpos) (eL0 g fo) := by
  refine ⟨PE.mono (pe_bm0 PySem.F.plainAttrs_list slot hty hm ho.pe hbase hline) fun σ H Q ⟨ι, ρ, h, hρ, hh, q⟩ => ?_⟩
  refine tE_seq hρ hh q fun p ι1 H1 v1 e1 h1 r1 hρ1 q1 => ?_
  split at q1
  · rename_i hp
    exact ⟨isLst_ty h1 r1 hp, hi ι1 H1 p.2 σ p.1 v1 [] [] Q h1 r1 .nil q1⟩
  · exact q1.elim
end
/-! ## f-strings -/
def eFmt (f : FE) : FE := fun ρ h => (f ρ h).bind fun p => match p.1 with
  | .str s => if s.length ≤ 16777216 then .ok (.str s, p.2) else .stuck
  | .int i => if -115792089237316195423570985008687907853269984665640564039457584007913129639936 < i ∧ i < 115792089237316195423570985008687907853269984665640564039457584007913129639936 then .ok (.str (num i), p.2) else .stuck
  | _ => .stuck
def jNil : Tx → FE := fun acc _ h => .ok (.str acc, h)
def jCons (f : FE) (k : Tx → FE) : Tx → FE := fun acc ρ h => (f ρ h).bind fun p => match p.1 with
  | .str s => if acc.length + s.length ≤ 16777216 then k (acc ++ s) ρ p.2 else .stuck
  | _ => .stuck
def eJoined (k : Tx → FE) : FE := k []
/-- an f-string's parts -/
structure PXJ (X : Cx) (W : WX) (es : List Expr) (k : Tx → FE) : Prop where
  pj : ∃ ts, PJ X es ts ∧ ∀ (acc : Tx) (σ : L2.St) (H : Hp) (Q : Str → Hp → Prop), tE X.K W (k acc) σ H (fun v H' => ∃ s, v = .str s ∧ Q s H') → tJs ts (toS acc) σ H Q
  str : ∀ acc ρ h p, k acc ρ h = .ok p → p.1.isStr = true
section
variable {X : Cx} {W : WX} {pos : Pos} {e e1 e2 : Expr} {es : List Expr} {f : FE} {k : Tx → FE}
theorem px_fmt (ha : PX X W e f) : PX X W (.FormattedValue e (-1) none pos) (eFmt f) := by
  refine ⟨PE.mono (pe_fmt ha.pe) fun σ H Q ⟨ι, ρ, h, hρ, hh, q⟩ => ?_⟩
  refine tE_seq hρ hh q fun p ι1 H1 v1 e1 h1 r1 hρ1 q1 => ?_
  obtain ⟨d, h'⟩ := p
  cases d with
  | str s =>
    simp only at q1
    split at q1
    · rename_i hz
      cases r1
      exact .inl ⟨_, rfl, line_le (by rw [toS_length]; exact hz), q1.same h1 (.str _)⟩
    · exact q1.elim
  | int i =>
    simp only at q1
    split at q1
    · rename_i hz
      cases r1
      refine .inr ⟨_, rfl, Nat.lt_trans (log_big hz.1 hz.2) (by decide), ?_⟩
      have q := q1.same h1 (.str (num i))
      rw [toS_num] at q
      exact q
    · exact q1.elim
  | _ => exact q1.elim
theorem pxj_nil : PXJ X W [] jNil := ⟨⟨[], .nil, fun acc σ H Q ⟨ι, ρ, h, hρ, hh, q⟩ => by
  obtain ⟨s, e, q⟩ := Good.same q hh (.str acc)
  cases e
  exact q⟩, fun acc ρ h p e => by cases e; rfl⟩
theorem pxj_cons (ha : PX X W e f) (hk : PXJ X W es k) : PXJ X W (e :: es) (jCons f k) := by
  obtain ⟨ts, h1, h2⟩ := hk.pj
  refine ⟨⟨_, .cons ha.pe h1, fun acc σ H Q ⟨ι, ρ, h, hρ, hh, q⟩ => ?_⟩, fun acc ρ h p e => ?_⟩
  rotate_left
  · unfold jCons at e
    cases e1 : f ρ h with
    | ok p1 =>
      rw [e1, R.bind_ok] at e
      split at e
      · split at e
        · exact hk.str _ _ _ _ e
        · cases e
      · cases e
    | exc c d h => rw [e1] at e; cases e
    | stuck => rw [e1] at e; cases e
  refine tE_seq hρ hh q fun p ι1 H1 v1 e1 h1 r1 hρ1 q1 => ?_
  obtain ⟨d, h'⟩ := p
  cases d with
  | str s =>
    simp only at q1
    split at q1
    · rename_i hz
      cases r1
      refine ⟨_, rfl, ?_, ?_⟩
      · rw [toS_append, toS_length, List.length_append]
        exact line_le hz
      · rw [toS_append]
        exact h2 (acc ++ s) σ H1 Q ⟨ι1, ρ, h', hρ1, h1, q1⟩
    · exact q1.elim
  | _ => exact q1.elim
theorem px_joined (hk : PXJ X W (e1 :: e2 :: es) k) : PX X W (.JoinedStr (e1 :: e2 :: es) pos) (eJoined k) := by
  obtain ⟨ts, h1, h2⟩ := hk.pj
  refine ⟨PE.mono (pe_joined h1) fun σ H Q ⟨ι, ρ, h, hρ, hh, q⟩ => ?_⟩
  refine h2 [] σ H (fun out H1 => Q (.str out) H1) ⟨ι, ρ, h, hρ, hh, ?_⟩
  have q : Good (k [] ρ h) (VW X.K ι H Q) (XW X.K W ι σ H) := q
  cases e : k [] ρ h with
  | ok p =>
    rw [e] at q
    intro ι1 H1 v e1 h1 r1
    obtain ⟨s, rfl⟩ := isStr_rep r1 (hk.str _ _ _ _ e)
    exact ⟨s, rfl, q ι1 H1 _ e1 h1 r1⟩
  | exc c d h' =>
    rw [e] at q
    exact q
  | stuck =>
    rw [e] at q
    exact q
end
end Px
namespace Px
open PySem PySem.Spec PyProof.Rows L2
/-! ## unpacking with a star behind -/
theorem walks_shift {prog : Program} {w : World} {A : Around} {I : Addr} {fp wr : List Addr} {n : Nat} {P : Nat → Value → Prop} {St : Nat → Heap → Prop} (W : Walks prog w A I fp wr n P St) {k : Nat} (hk : k ≤ n) :
    Walks prog w A I fp wr (n - k) (fun i v => P (k + i) v) (fun i h => St (k + i) h) where
  sub := W.sub
  frame := fun i h h' st q => W.frame (k + i) h h' st q
  item := fun i s Q E hi st hQ => W.item (k + i) s Q E (by omega) st hQ
  done := fun s Q E st hQ => W.done s Q E (by rw [show n = k + (n - k) by omega]; exact st) hQ
  self := fun i s Q E st q => W.self (k + i) s Q E st q
section
variable {prog : Program} {w : World} {A : Around} {E : Value → Shared → Prop} {s : Shared}
/-- draw the first ones of a walk -/
theorem draw_walk {I : Addr} {fp wr : List Addr} {n : Nat} {items : List Value} {St : Nat → Heap → Prop} (W : Walks prog w A I fp wr n (fun i v => items[i]? = some v) St) : ∀ (k i : Nat) (s : Shared) (Q : List Value → Shared → Prop), St i s.heap → i + k ≤ n →
    (∀ h' tk, St (i + k) h' → (∀ b o, b ∉ wr → s.heap.get? b = some o → h'.get? b = some o) → Q ((items.drop i).take k) { s with heap := h', toks := tk }) → wpAny (model prog w) A (draw (.ref I) k) Q E s
  | 0, i, s, Q, st, _, hQ => by
    show wpAny _ _ (pure []) Q E s
    exact wpAny_pure (by simpa using hQ s.heap s.toks st fun _ _ _ e => e)
  | k + 1, i, s, Q, st, hle, hQ => by
    show wpAny _ _ (pyNext (.ref I) >>= _) Q E s
    refine wpAny_bind (W.item i s _ _ (by omega) st fun v h₁ tk₁ hv st₁ hk₁ => ?_)
    refine wpAny_bind (wpAny_holding (draw_walk W k (i + 1) _ _ st₁ (by omega) fun h₂ tk₂ st₂ hk₂ => wpAny_pure ?_))
    have hd : items.drop i = v :: items.drop (i + 1) := by
      obtain ⟨h, e⟩ := List.getElem?_eq_some_iff.mp hv
      rw [List.drop_eq_getElem_cons h, e]
    have q := hQ h₂ tk₂ (by rw [show i + (k + 1) = i + 1 + k by omega]; exact st₂) fun b o hb e => hk₂ b o hb (hk₁ b o hb e)
    rw [hd, List.take_succ_cons] at q
    exact q
theorem items_list {items : List Value} {k n : Nat} {acc : Array Value} (hn : items.length = n) (hk : k ≤ n) (h : ItemsOf (fun i v => items[k + i]? = some v) acc (n - k)) : acc.toList = items.drop k := by
  obtain ⟨h1, h2⟩ := h
  refine List.ext_getElem? fun j => ?_
  rw [List.getElem?_drop, Array.getElem?_toList]
  by_cases hj : j < acc.size
  · have e := h2 j acc[j] (Array.getElem?_eq_getElem hj)
    rw [Array.getElem?_eq_getElem hj, e]
  · rw [Array.getElem?_eq_none (by omega), List.getElem?_eq_none (by omega)]
/-- an iterator that has come: k items, then the rest as a new list -/
theorem unpack_rest {I ax : Addr} {T : String} {items : List Value} {St : Nat → Heap → Prop} {k : Nat} {Q : List Value → Shared → Prop} (hTm : T = "list_iterator" ∨ T = "tuple_iterator")
    (W : Walks prog w A I [I, ax] [I] items.length (fun i v => items[i]? = some v) St) (W1 : Walks prog w A.in1 I [I, ax] [I] items.length (fun i v => items[i]? = some v) St) (hT : ∀ i (s : Shared), St i s.heap → s.TypeIs (.ref I) T) (st : St 0 s.heap) (hI : ∀ i h, St i h → I < h.objs.size ∧ ax < h.objs.size)
    (hk : k ≤ items.length) (hz : items.length ≤ sizeLine)
    (hQ : ∀ (h' : Heap) tk, (∀ b o, b ≠ I → s.heap.get? b = some o → h'.get? b = some o) → Q (items.take k ++ [.ref h'.objs.size]) { s with heap := h'.push { cls := .type "list", data := .seq (items.drop k).toArray }, toks := tk }) :
    wpAny (model prog w) A (do
      let first ← holding [.ref I] (draw (.ref I) k)
      if first.length < k then
        rule "unpack.star.too-few-before"
        raiseError "ValueError" s!"not enough values to unpack (expected at least {k + 1 - 1}, got {first.length})"
      let rest ← holding first (collect (.ref I))
      let after := k + 1 - 1 - k
      if rest.length < after then
        rule "unpack.star.too-few"
        raiseError "ValueError" s!"not enough values to unpack (expected at least {k + 1 - 1}, got {k + rest.length})"
      let mid := rest.length - after
      return first ++ [← newList (rest.take mid)] ++ rest.drop mid) Q E s := by
  refine wpAny_bind (wpAny_holding (draw_walk W k 0 s _ st (by omega) fun h₁ tk₁ st₁ hk₁ => ?_))
  rw [Nat.zero_add] at st₁
  have hl : ¬ ((items.drop 0).take k).length < k := by
    rw [List.drop_zero, List.length_take]
    omega
  rw [if_neg hl]
  have W2 := (walks_shift W1 hk).toS
  refine wpAny_bind (wpAny_holding (wpAny_collect_iter (T := T) (by rcases hTm with h | h <;> simp [h]) W2 (fun i s st => hT _ s st) (by simpa using st₁) ?_ (by simp) ?_ (by omega)))
  · intro b hb
    have := hI _ _ st₁
    simp at hb
    rcases hb with rfl | rfl
    · exact this.1
    · exact this.2
  · intro s' acc hm ha
    rw [items_list rfl hk ha]
    have e0 : k + 1 - 1 - k = 0 := by omega
    rw [e0]
    have hn : ¬ (items.drop k).length < 0 := by omega
    rw [if_neg hn]
    simp only [Nat.sub_zero, List.take_length, List.drop_length, List.append_nil, List.drop_zero]
    refine wpAny_bind (wpAny_newList ?_ (by rw [List.length_drop]; omega))
    refine wpAny_pure ?_
    have q := hQ s'.heap s'.toks fun b o hb e => hm.heap b o (by simpa using hb) (hk₁ b o (by simpa using hb) e)
    rw [Moved.eq_with hm]
    exact q
theorem unpackItems_star_tuple {t : Addr} {items : List Value} {k : Nat} {Q : List Value → Shared → Prop} (hh : A.handled = none) (ht : s.heap.IsTuple t items.toArray) (hk : k ≤ items.length) (hz : items.length ≤ sizeLine)
    (hQ : ∀ (h' : Heap) tk, (∀ b o, s.heap.get? b = some o → h'.get? b = some o) → Q (items.take k ++ [.ref h'.objs.size]) { s with heap := h'.push { cls := .type "list", data := .seq (items.drop k).toArray }, toks := tk }) :
    wpAny (model prog w) A (unpackItems (.ref t) (k + 1) (some k)) Q E s := by
  have hlt : t ≠ s.heap.objs.size := by obtain ⟨o, ho, _⟩ := ht; exact Nat.ne_of_lt (Heap.lt_size ho)
  unfold unpackItems
  refine wpAny_bind ?_
  unfold notIterableAtAll
  refine wpAny_bind (wpAny_specialOf ht.typeIs F.slot_tuple_iter.lookup ?_)
  refine wpAny_pure ?_
  simp only [Bool.false_eq_true, if_false]
  refine wpAny_bind (wpAny_holding (wpAny_pyIter_tuple ht ?_))
  have W := Walks.tuple (prog := prog) (w := w) (A := A) hh s.heap.objs.size t hlt items.toArray
  have W1 := Walks.tuple (prog := prog) (w := w) (A := A.in1) hh s.heap.objs.size t hlt items.toArray
  have e0 : items.toArray.size = items.length := by simp
  rw [e0] at W W1
  simp only [List.getElem?_toArray] at W W1
  refine unpack_rest (ax := t) (T := "tuple_iterator") (St := fun i h => h.IsTupleIter s.heap.objs.size t i ∧ h.IsTuple t items.toArray) (.inr rfl) W W1 (fun i s st => st.1.typeIs) ⟨⟨_, Heap.get?_push_size _ rfl, rfl, rfl⟩, ht.push _⟩
    (fun i h st => ?_) hk hz fun h' tk hk' => hQ h' tk fun b o e => hk' b o (Nat.ne_of_lt (Heap.lt_size e)) (Heap.get?_push_of_some _ e)
  · obtain ⟨⟨o, ho, _⟩, o2, ho2, _⟩ := st
    exact ⟨Heap.lt_size ho, Heap.lt_size ho2⟩
theorem unpackItems_star_list {t : Addr} {items : List Value} {k : Nat} {Q : List Value → Shared → Prop} (hh : A.handled = none) (ht : s.heap.IsList t items.toArray) (hk : k ≤ items.length) (hz : items.length ≤ sizeLine)
    (hQ : ∀ (h' : Heap) tk, (∀ b o, s.heap.get? b = some o → h'.get? b = some o) → Q (items.take k ++ [.ref h'.objs.size]) { s with heap := h'.push { cls := .type "list", data := .seq (items.drop k).toArray }, toks := tk }) :
    wpAny (model prog w) A (unpackItems (.ref t) (k + 1) (some k)) Q E s := by
  have hlt : t ≠ s.heap.objs.size := by obtain ⟨o, ho, _⟩ := ht; exact Nat.ne_of_lt (Heap.lt_size ho)
  unfold unpackItems
  refine wpAny_bind ?_
  unfold notIterableAtAll
  refine wpAny_bind (wpAny_specialOf ht.typeIs F.slot_list_iter.lookup ?_)
  refine wpAny_pure ?_
  simp only [Bool.false_eq_true, if_false]
  refine wpAny_bind (wpAny_holding (wpAny_pyIter_list ht ?_))
  have W := Walks.list (prog := prog) (w := w) (A := A) hh s.heap.objs.size t hlt items.toArray
  have W1 := Walks.list (prog := prog) (w := w) (A := A.in1) hh s.heap.objs.size t hlt items.toArray
  have e0 : items.toArray.size = items.length := by simp
  rw [e0] at W W1
  simp only [List.getElem?_toArray] at W W1
  refine unpack_rest (ax := t) (T := "list_iterator") (St := fun i h => h.IsListIter s.heap.objs.size t i ∧ h.IsList t items.toArray) (.inl rfl) W W1 (fun i s st => st.1.typeIs) ⟨⟨_, Heap.get?_push_size _ rfl, rfl, rfl⟩, ht.push _⟩
    (fun i h st => ?_) hk hz fun h' tk hk' => hQ h' tk fun b o e => hk' b o (Nat.ne_of_lt (Heap.lt_size e)) (Heap.get?_push_of_some _ e)
  · obtain ⟨⟨o, ho, _⟩, o2, ho2, _⟩ := st
    exact ⟨Heap.lt_size ho, Heap.lt_size ho2⟩
end
/-- a, b, *c = a tuple or a list of enough items -/
def gStar (K : PySem.W.Frag) (n : Nat) (t : TGs) : TG := fun v σ H Q => ∃ a xs, v = .ref a ∧ (SqL K H a xs ∨ SqT K H a xs) ∧ n ≤ xs.length ∧ ∀ p, H p = none → t (xs.take n ++ [.ref p]) σ (upd H p (.lst (xs.drop n))) Q
section
variable {X : Cx} {pos p : Pos}
theorem pgs_star {e : Expr} {es : List Expr} {t : TG} {u : TGs} (h1 : PG X e t) (h2 : PGs X es u)
    (hs : (assignEach (.Starred e p :: es) X.env).map (·.2) = assign e X.env :: (assignEach es X.env).map (·.2) := by rfl) : PGs X (.Starred e p :: es) (gCons t u) := by
  refine ⟨fun pins s σ H vs us Q I r h => ?_⟩
  obtain ⟨v, vr, e1, h⟩ := h
  subst e1
  cases r with
  | cons r rr =>
    rw [hs]
    refine assignInOrder_cons (thn (h1.run pins s σ H _ _ _ I r h) fun _ s1 ⟨σ1, H1, I1, q1⟩ => ?_)
    exact h2.run pins s1 σ1 H1 _ _ Q I1 rr q1
theorem pg_star {es : List Expr} {k : Nat} {t : TGs} {n : Nat} (hc : X.calm = true) (h : PGs X es t)
    (hn : (assignEach es X.env).length = n + 1 := by rfl) (hst : (assignEach es X.env).findIdx? (·.1) = some n := by rfl) : PG X (.Tuple es k pos) (gStar X.K n t) := by
  refine ⟨fun pins s σ H v u Q I r hw => ?_⟩
  obtain ⟨a, xs, e1, hq, hl, hw⟩ := hw
  subst e1
  cases r
  rw [PyProof.Rows.assign_Tuple]
  refine wpAny_bind (wpAny_standAt ?_)
  unfold unpack
  rw [hn, hst]
  refine wpAny_bind (wpAny_holding ?_)
  have fin : ∀ {its : List Value}, Vals xs its → xs.length ≤ sizeLine → ∀ (h' : Heap) (tk : Nat), (∀ b o, s.heap.get? b = some o → h'.get? b = some o) →
      wpAny (model X.prog X.w) X.A (assignInOrder ((assignEach es X.env).map (·.2)) (its.take n ++ [.ref h'.objs.size])) (fun _ s' => ∃ σ' H', Inv X pins σ' H' s' ∧ Q σ' H') X.xe { s with heap := h'.push { cls := .type "list", data := .seq (its.drop n).toArray }, toks := tk } := by
    intro its rv hz h' tk hk
    have I1 : Inv X pins σ H { s with heap := h', toks := tk } := I.kept hk
    have hf : H h'.objs.size = none := I1.hok.fresh (Nat.le_refl _)
    have I2 : Inv X pins σ (upd H h'.objs.size (.lst (xs.drop n))) { s with heap := h'.push { cls := .type "list", data := .seq (its.drop n).toArray }, toks := tk } :=
      I1.laid (t' := tk) (fun b ob q => Heap.get?_push_of_some _ q) (Nat.le_refl _) ⟨by rw [List.length_drop]; omega, _, 0, rv.drop n, Heap.get?_push_size _ rfl⟩
    exact h.run pins _ σ _ (xs.take n ++ [V.ref h'.objs.size]) _ Q I2 (Vals.append (rv.take n) (.cons (show RelV (V.ref h'.objs.size) (Value.ref h'.objs.size) from rfl) .nil)) (hw _ hf)
  rcases hq with hq | hq
  · obtain ⟨its, rv, ht, hz⟩ := I.list hq
    exact unpackItems_star_list (I.ok.hd hc) ht.isList (by rw [← rv.length]; exact hl) (by rw [← rv.length]; exact hz) fun h' tk hk => fin rv hz h' tk hk
  · obtain ⟨its, rv, ht, hz⟩ := I.tuple hq
    exact unpackItems_star_tuple (I.ok.hd hc) ht (by rw [← rv.length]; exact hl) (by rw [← rv.length]; exact hz) fun h' tk hk => fin rv hz h' tk hk
end
end Px
namespace Px
open PySem PySem.Spec PyProof.Rows L2
/-! ## equal or not -/
mutual
def D.beq : D → D → Bool
  | .non, .non => true
  | .bl a, .bl b => a == b
  | .int i, .int j => decide (i = j)
  | .str s, .str t => decide (s = t)
  | .tup xs, .tup ys => D.beqs xs ys
  | .fl xs, .fl ys => D.beqs xs ys
  | .ref m, .ref n => decide (m = n)
  | .fn x, .fn y => decide (x = y)
  | _, _ => false
def D.beqs : List D → List D → Bool
  | [], [] => true
  | x :: xs, y :: ys => D.beq x y && D.beqs xs ys
  | _, _ => false
end
mutual
theorem D.beq_iff : ∀ a b : D, D.beq a b = true ↔ a = b
  | .non, b => by cases b <;> simp [D.beq]
  | .bl x, b => by cases b <;> simp [D.beq]
  | .int x, b => by cases b <;> simp [D.beq]
  | .str x, b => by cases b <;> simp [D.beq]
  | .ref x, b => by cases b <;> simp [D.beq]
  | .fn x, b => by cases b <;> simp [D.beq]
  | .tup xs, b => by
    cases b with
    | tup ys => simp only [D.beq, D.tup.injEq]; exact D.beqs_iff xs ys
    | _ => simp [D.beq]
  | .fl xs, b => by
    cases b with
    | fl ys => simp only [D.beq, D.fl.injEq]; exact D.beqs_iff xs ys
    | _ => simp [D.beq]
theorem D.beqs_iff : ∀ a b : List D, D.beqs a b = true ↔ a = b
  | [], [] => by simp [D.beqs]
  | [], _ :: _ => by simp [D.beqs]
  | _ :: _, [] => by simp [D.beqs]
  | x :: xs, y :: ys => by simp only [D.beqs, Bool.and_eq_true, List.cons.injEq]; rw [D.beq_iff x y, D.beqs_iff xs ys]
end
instance : DecidableEq D := fun a b => decidable_of_iff _ (D.beq_iff a b)
instance : DecidableEq Ob := fun a b => match a, b with
  | .lst xs, .lst ys => decidable_of_iff (xs = ys) (by simp)
  | .dic xs, .dic ys => decidable_of_iff (xs = ys) (by simp)
  | .ins c xs, .ins d ys => decidable_of_iff (c = d ∧ xs = ys) (by simp)
  | .lst _, .dic _ => isFalse (by simp)
  | .lst _, .ins _ _ => isFalse (by simp)
  | .dic _, .lst _ => isFalse (by simp)
  | .dic _, .ins _ _ => isFalse (by simp)
  | .ins _ _, .lst _ => isFalse (by simp)
  | .ins _ _, .dic _ => isFalse (by simp)
/-! ## what points only below k -/
mutual
def D.lt (k : Nat) : D → Bool
  | .tup xs => D.ltAll k xs
  | .fl xs => D.ltAll k xs
  | .ref n => decide (n < k)
  | .non => true
  | .bl _ => true
  | .int _ => true
  | .str _ => true
  | .fn _ => true
def D.ltAll (k : Nat) : List D → Bool
  | [] => true
  | x :: xs => D.lt k x && D.ltAll k xs
end
def ltF (k : Nat) : List (String × D) → Bool
  | [] => true
  | p :: r => p.2.lt k && ltF k r
def ltK (k : Nat) : List (D × D) → Bool
  | [] => true
  | p :: r => p.2.lt k && ltK k r
def Ob.lt (k : Nat) : Ob → Bool
  | .lst xs => D.ltAll k xs
  | .dic ks => ltK k ks
  | .ins _ fs => ltF k fs
section
variable {K : PySem.W.Frag} {ι ι' : List Addr} {H H' : Hp} {k : Nat}
mutual
theorem Rep.low (hi : ∀ n, n < k → ι'[n]? = ι[n]?) : ∀ {v : V} {d : D}, Rep K ι' H v d → d.lt k = true → Rep K ι H v d
  | _, _, .non, _ => .non
  | _, _, .bl b, _ => .bl b
  | _, _, .int i, _ => .int i
  | _, _, .str s, _ => .str s
  | _, _, .tup h r, e => .tup h (Reps.low hi r (by simpa [D.lt] using e))
  | _, _, .fl h r, e => .fl h (Reps.low hi r (by simpa [D.lt] using e))
  | _, _, .ref (n := n) h, e => .ref (by rw [← hi n (by simpa [D.lt] using e)]; exact h)
  | _, _, .fn x, _ => .fn x
theorem Reps.low (hi : ∀ n, n < k → ι'[n]? = ι[n]?) : ∀ {vs : List V} {ds : List D}, Reps K ι' H vs ds → D.ltAll k ds = true → Reps K ι H vs ds
  | _, _, .nil, _ => .nil
  | _, _, .cons h r, e => by
    simp only [D.ltAll, Bool.and_eq_true] at e
    exact .cons (Rep.low hi h e.1) (Reps.low hi r e.2)
end
mutual
theorem Rep.lt : ∀ {v : V} {d : D}, Rep K ι H v d → d.lt ι.length = true
  | _, _, .non => by simp [D.lt]
  | _, _, .bl b => by simp [D.lt]
  | _, _, .int i => by simp [D.lt]
  | _, _, .str s => by simp [D.lt]
  | _, _, .tup h r => by simp only [D.lt]; exact Reps.lt r
  | _, _, .fl h r => by simp only [D.lt]; exact Reps.lt r
  | _, _, .ref h => by simp only [D.lt, decide_eq_true_eq]; exact (List.getElem?_eq_some_iff.mp h).1
  | _, _, .fn x => by simp [D.lt]
theorem Reps.lt : ∀ {vs : List V} {ds : List D}, Reps K ι H vs ds → D.ltAll ι.length ds = true
  | _, _, .nil => by simp [D.ltAll]
  | _, _, .cons h r => by simp only [D.ltAll, Bool.and_eq_true]; exact ⟨Rep.lt h, Reps.lt r⟩
end
theorem RepF.low (hi : ∀ n, n < k → ι'[n]? = ι[n]?) : ∀ {fv : List (Str × V)} {fs : List (String × D)}, RepF K ι' H fv fs → ltF k fs = true → RepF K ι H fv fs
  | _, _, .nil, _ => .nil
  | _, _, .cons h r, e => by
    simp only [ltF, Bool.and_eq_true] at e
    exact .cons (h.low hi e.1) (RepF.low hi r e.2)
theorem RepK.low (hi : ∀ n, n < k → ι'[n]? = ι[n]?) : ∀ {kv : List (Key × V)} {ks : List (D × D)}, RepK K ι' H kv ks → ltK k ks = true → RepK K ι H kv ks
  | _, _, .nil, _ => .nil
  | _, _, .int h r, e => by
    simp only [ltK, Bool.and_eq_true] at e
    exact .int (h.low hi e.1) (RepK.low hi r e.2)
  | _, _, .str h r, e => by
    simp only [ltK, Bool.and_eq_true] at e
    exact .str (h.low hi e.1) (RepK.low hi r e.2)
theorem RepF.lt : ∀ {fv : List (Str × V)} {fs : List (String × D)}, RepF K ι H fv fs → ltF ι.length fs = true
  | _, _, .nil => rfl
  | _, _, .cons h r => by simp only [ltF, Bool.and_eq_true]; exact ⟨h.lt, RepF.lt r⟩
theorem RepK.lt : ∀ {kv : List (Key × V)} {ks : List (D × D)}, RepK K ι H kv ks → ltK ι.length ks = true
  | _, _, .nil => rfl
  | _, _, .int h r => by simp only [ltK, Bool.and_eq_true]; exact ⟨h.lt, RepK.lt r⟩
  | _, _, .str h r => by simp only [ltK, Bool.and_eq_true]; exact ⟨h.lt, RepK.lt r⟩
theorem RepO.low (hi : ∀ n, n < k → ι'[n]? = ι[n]?) {a : Addr} : ∀ {o : Ob}, RepO K ι' H a o → o.lt k = true → RepO K ι H a o
  | .lst _, ⟨vs, h, r⟩, e => ⟨vs, h, r.low hi e⟩
  | .dic _, ⟨kv, h, r⟩, e => ⟨kv, h, r.low hi e⟩
  | .ins _ _, ⟨dx, fv, h, r⟩, e => ⟨dx, fv, h, r.low hi e⟩
theorem RepO.lt {a : Addr} : ∀ {o : Ob}, RepO K ι H a o → o.lt ι.length = true
  | .lst _, ⟨vs, h, r⟩ => r.lt
  | .dic _, ⟨kv, h, r⟩ => r.lt
  | .ins _ _, ⟨dx, fv, h, r⟩ => r.lt
end
/-- what stood ahead points to nothing new -/
def Clean (h h1 : Hy) : Prop := ∀ i, i < h.length → ∃ o, h1[i]? = some o ∧ (h[i]? = some o ∨ o.lt h.length = true)
def cleanB (h h1 : Hy) : Bool := (List.range h.length).all fun i => match h1[i]? with
  | some o => decide (h[i]? = some o) || o.lt h.length
  | none => false
theorem cleanB_iff (h h1 : Hy) : cleanB h h1 = true ↔ Clean h h1 := by
  unfold cleanB Clean
  rw [List.all_eq_true]
  constructor
  · intro z i hi
    have q := z i (List.mem_range.mpr hi)
    cases e : h1[i]? with
    | none => rw [e] at q; cases q
    | some o =>
      rw [e] at q
      simp only [Bool.or_eq_true, decide_eq_true_eq] at q
      exact ⟨o, rfl, q⟩
  · intro z i hi
    obtain ⟨o, e, q⟩ := z i (List.mem_range.mp hi)
    rw [e]
    simp only [Bool.or_eq_true, decide_eq_true_eq]
    exact q
instance (h h1 : Hy) : Decidable (Clean h h1) := decidable_of_iff _ (cleanB_iff h h1)
theorem Clean.refl (h : Hy) : Clean h h := fun i hi => ⟨h[i], List.getElem?_eq_getElem hi, .inl (List.getElem?_eq_getElem hi)⟩
theorem Clean.app {h h1 : Hy} (c : Clean h h1) (g : Hy) : Clean h (h1 ++ g) := fun i hi => by
  obtain ⟨o, e, q⟩ := c i hi
  exact ⟨o, by rw [List.getElem?_append_left (List.getElem?_eq_some_iff.mp e).1]; exact e, q⟩
theorem Clean.set {h h1 : Hy} (c : Clean h h1) {o : Ob} (ho : o.lt h.length = true) (n : Nat) : Clean h (h1.set n o) := fun i hi => by
  obtain ⟨u, e, q⟩ := c i hi
  by_cases hn : n = i
  · subst hn
    exact ⟨o, by rw [List.getElem?_set_self (List.getElem?_eq_some_iff.mp e).1], .inr ho⟩
  · exact ⟨u, by rw [List.getElem?_set_ne hn]; exact e, q⟩
theorem Rh.low {K : PySem.W.Frag} {ι ι' : List Addr} {H H' : Hp} {h h1 : Hy} (r : Rh K ι H h) (e : Ext ι H ι' H') (r1 : Rh K ι' H' h1) (c : Clean h h1) : Rh K ι H' (h1.take h.length) ∧ Ext ι H ι H' := by
  obtain ⟨rest, rfl⟩ := e.pre
  have hi : ∀ n, n < h.length → (ι ++ rest)[n]? = ι[n]? := fun n hn => List.getElem?_append_left (by rw [r.len]; exact hn)
  refine ⟨⟨?_, r.nd, fun i a o e1 e2 => ?_⟩, ⟨List.prefix_refl _, e.tups, e.frzs, e.keep, fun a z n => absurd z n⟩⟩
  · rw [List.length_take]
    have := r1.len
    rw [List.length_append] at this
    have := r.len
    omega
  · have hil : i < h.length := by rw [← r.len]; exact (List.getElem?_eq_some_iff.mp e1).1
    rw [List.getElem?_take_of_lt hil] at e2
    have q := r1.at_ i a o (by rw [hi i hil]; exact e1) e2
    obtain ⟨u, e3, z⟩ := c i hil
    rw [e2] at e3
    cases e3
    refine q.low hi ?_
    rcases z with z | z
    · have := (r.at_ i a o e1 z).lt
      rw [r.len] at this
      exact this
    · exact z
theorem Ext.same {ι ι' : List Addr} {H H' : Hp} (e : Ext ι H ι' H') : Ext ι H ι H' := ⟨List.prefix_refl _, e.tups, e.frzs, e.keep, fun a z n => absurd z n⟩
/-! ## what is walked -/
structure JW (K : PySem.W.Frag) (ι0 : List Addr) (H0 : Hp) (J : It) (xs : List D) (src : Option Nat) : Prop where
  go : ∀ i x ι H h, xs[i]? = some x → Ext ι0 H0 ι H → Rh K ι H h → (∀ n, src = some n → h[n]? = some (.lst xs)) → J.go i H
  yld : ∀ i x ι H h v H', xs[i]? = some x → Ext ι0 H0 ι H → Rh K ι H h → (∀ n, src = some n → h[n]? = some (.lst xs)) → J.yld i H v H' → Ext ι H ι H' ∧ Rh K ι H' h ∧ Rep K ι H' v x
  stop : ∀ ι H h, Ext ι0 H0 ι H → Rh K ι H h → (∀ n, src = some n → h[n]? = some (.lst xs)) → J.stop xs.length H
theorem SqL.inj {K : PySem.W.Frag} {H : Hp} {a : Addr} {xs ys : List V} (h : H a = some (.lst xs)) (q : SqL K H a ys) (n : K.lookup a = none) : ys = xs := by
  rcases q with (q | ⟨o, q⟩) | ⟨o, _, _, q, _⟩
  · rw [h] at q; cases q; rfl
  · rw [h] at q; cases q
  · rw [n] at q; cases q
abbrev FI := Env → Hy → R ((List D × Option Nat) × Hy)
def IW (K : PySem.W.Frag) (ι : List Addr) (H : Hp) (R : It → Hp → Prop) (p : (List D × Option Nat) × Hy) : Prop := ∀ ι' H' J, Ext ι H ι' H' → Rh K ι' H' p.2 → JW K ι' H' J p.1.1 p.1.2 → R J H'
theorem IW.ext {K : PySem.W.Frag} {ι ι' : List Addr} {H H' : Hp} {R : It → Hp → Prop} {p : (List D × Option Nat) × Hy} (x : IW K ι H R p) (e : Ext ι H ι' H') : IW K ι' H' R p := fun ι2 H2 J e2 r q => x ι2 H2 J (e.trans e2) r q
def tI (K : PySem.W.Frag) (W : WX) (f : FI) : TI := fun σ H R => ∃ ι ρ h, RepX K ι H σ ρ ∧ Rh K ι H h ∧ Good (f ρ h) (IW K ι H R) (XW K W ι σ H)
structure PXI (X : Cx) (W : WX) (tg e : Expr) (f : FI) : Prop where
  pi : PI X tg e (tI X.K W f)
theorem PI.mono {X : Cx} {tg e : Expr} {t t' : TI} (h : PI X tg e t) (hi : ∀ σ H R, t' σ H R → t σ H R) : PI X tg e t' := ⟨fun pins s σ H R I q => h.run pins s σ H R I (hi _ _ _ q)⟩
/-- a list, a tuple, a text -/
def iAny (K : PySem.W.Frag) (te : TE) : TI := fun σ H R => te σ H fun x H1 => (∃ a, x = .ref a ∧ (∃ xs, SqL K H1 a xs) ∧ R (Itl K a) H1) ∨ (∃ a, x = .ref a ∧ (∃ xs, SqT K H1 a xs) ∧ R (Itt K a) H1) ∨ ∃ z, x = .str z ∧ R (Its z) H1
theorem pi_any {X : Cx} {tg e : Expr} {te : TE} (he : PE X e te) : PI X tg e (iAny X.K te) := by
  refine ⟨fun pins s σ H R I h => ?_⟩
  refine thn (he.run pins s σ H _ I h) fun v s1 ⟨x, H1, I1, r1, q1⟩ => ?_
  rcases q1 with ⟨a, e, ⟨xs, hq⟩, q⟩ | ⟨a, e, ⟨xs, hq⟩, q⟩ | ⟨z, e, q⟩
  · subst e
    cases r1
    obtain ⟨its, rv, p, hz⟩ := I1.list hq
    refine wpAny_pyIter_list p.isList ?_
    refine ⟨s1.heap.objs.size, [s1.heap.objs.size], _, _, H1, rfl, I1.kept (t' := s1.toks) fun b o e => Heap.get?_push_of_some _ e, turn_list a _, ⟨_, Heap.get?_push_size _ rfl, rfl, rfl⟩, fun b hb => ?_, q⟩
    have e : b = s1.heap.objs.size := by simpa using hb
    subst e
    exact I1.fpOk (Nat.le_refl _) (I1.hok.fresh (Nat.le_refl _))
  · subst e
    cases r1
    obtain ⟨its, rv, p, hz⟩ := I1.tuple hq
    refine wpAny_pyIter_tuple (show s1.heap.IsTuple a its.toArray from p) ?_
    refine ⟨s1.heap.objs.size, [s1.heap.objs.size], _, _, H1, rfl, I1.kept (t' := s1.toks) fun b o e => Heap.get?_push_of_some _ e, turn_tuple a _, ⟨_, Heap.get?_push_size _ rfl, rfl, rfl⟩, fun b hb => ?_, q⟩
    have e : b = s1.heap.objs.size := by simpa using hb
    subst e
    exact I1.fpOk (Nat.le_refl _) (I1.hok.fresh (Nat.le_refl _))
  · subst e
    obtain ⟨t, rfl⟩ := r1
    cases ha : z.cps.all (· < 128)
    · exact wpAny_pyIter_wide ha (pi_one (tk := s1.toks) I1 _ (turn_str _ z t "str_iterator" (.inr rfl)) ⟨_, Heap.get?_push_size _ rfl, rfl, rfl⟩ q)
    · exact wpAny_pyIter_ascii ha (pi_one (tk := s1.toks) I1 _ (turn_str _ z t "str_ascii_iterator" (.inl rfl)) ⟨_, Heap.get?_push_size _ rfl, rfl, rfl⟩ q)
theorem JW.str {K : PySem.W.Frag} {ι0 : List Addr} {H0 : Hp} (s : Tx) : JW K ι0 H0 (Its (toS s)) (s.map fun c => D.str [c]) none where
  go := fun i x ι H h hx _ _ _ => by
    have := (List.getElem?_eq_some_iff.mp hx).1
    show i < (toS s).cps.size
    have e : (toS s).cps.size = s.length := toS_length s
    rw [e]
    simpa using this
  yld := fun i x ι H h v H' hx _ r _ y => by
    obtain ⟨rfl, c, hc, rfl⟩ := y
    rw [List.getElem?_map] at hx
    cases q : s[i]? with
    | none => rw [q] at hx; cases hx
    | some d =>
      rw [q] at hx
      cases hx
      have e2 : (toS s).cps[i]? = some d.toNat := by
        show (cd s).toArray[i]? = some d.toNat
        rw [List.getElem?_toArray]
        unfold cd
        rw [List.getElem?_map, q]
        rfl
      rw [e2] at hc
      cases hc
      exact ⟨Ext.refl, r, .str [d]⟩
  stop := fun ι H h _ _ _ => by
    show (toS s).cps.size ≤ (s.map fun c => D.str [c]).length
    have e : (toS s).cps.size = s.length := toS_length s
    rw [e, List.length_map]
    exact Nat.le_refl _
theorem JW.tup {K : PySem.W.Frag} {ι0 : List Addr} {H0 : Hp} {a : Addr} {vs : List V} {xs : List D} (hs : SqT K H0 a vs) (r : Reps K ι0 H0 vs xs) (inj : ∀ H ws, SqT K H a vs → SqT K H a ws → ws.length = vs.length ∧ ∀ i : Nat, ws[i]? = vs[i]?) : JW K ι0 H0 (Itt K a) xs none where
  go := fun i x ι H h hx e _ _ => by
    obtain ⟨v, hv, rv⟩ := r.get hx
    exact ⟨vs, v, e.sqT hs, hv⟩
  yld := fun i x ι H h v H' hx e rh _ y => by
    obtain ⟨rfl, y⟩ := y
    obtain ⟨w, hw, rw'⟩ := r.get hx
    have := y vs (e.sqT hs)
    rw [hw] at this
    cases this
    exact ⟨Ext.refl, rh, rw'.ext e⟩
  stop := fun ι H h e _ _ => ⟨vs, e.sqT hs, by rw [r.length]; exact Nat.le_refl _⟩
theorem JW.fl {K : PySem.W.Frag} {ι0 : List Addr} {H0 : Hp} {a : Addr} {vs : List V} {xs : List D} (hs : SqF K H0 a vs) (r : Reps K ι0 H0 vs xs) : JW K ι0 H0 (Itl K a) xs none where
  go := fun i x ι H h hx e _ _ => by
    obtain ⟨v, hv, rv⟩ := r.get hx
    exact ⟨vs, v, (e.sqF hs).seq, hv⟩
  yld := fun i x ι H h v H' hx e rh _ y => by
    obtain ⟨rfl, y⟩ := y
    obtain ⟨w, hw, rw'⟩ := r.get hx
    have := y vs (e.sqF hs).seq
    rw [hw] at this
    cases this
    exact ⟨Ext.refl, rh, rw'.ext e⟩
  stop := fun ι H h e _ _ => ⟨vs, (e.sqF hs).seq, by rw [r.length]; exact Nat.le_refl _⟩
/-- a list that nobody else knows -/
theorem JW.lone {K : PySem.W.Frag} {ι0 : List Addr} {H0 : Hp} {a : Addr} {vs : List V} {xs : List D} (hs : H0 a = some (.lst vs)) (ha : a ∉ ι0) (r : Reps K ι0 H0 vs xs) : JW K ι0 H0 (Itl K a) xs none where
  go := fun i x ι H h hx e _ _ => by
    obtain ⟨v, hv, rv⟩ := r.get hx
    exact ⟨vs, v, SqL.of (e.keep _ _ hs ha), hv⟩
  yld := fun i x ι H h v H' hx e rh _ y => by
    obtain ⟨rfl, y⟩ := y
    obtain ⟨w, hw, rw'⟩ := r.get hx
    have := y vs (SqL.of (e.keep _ _ hs ha))
    rw [hw] at this
    cases this
    exact ⟨Ext.refl, rh, rw'.ext e⟩
  stop := fun ι H h e _ _ => ⟨vs, SqL.of (e.keep _ _ hs ha), by rw [r.length]; exact Nat.le_refl _⟩
/-- a list of ours -/
theorem JW.own {K : PySem.W.Frag} {ι0 : List Addr} {H0 : Hp} {a : Addr} {n : Nat} {xs : List D} (hn : ι0[n]? = some a) : JW K ι0 H0 (Itl K a) xs (some n) where
  go := fun i x ι H h hx e rh s => by
    obtain ⟨vs, hv, r⟩ := rh.at_ n a _ (e.at hn) (s n rfl)
    obtain ⟨v, hv2, rv⟩ := r.get hx
    exact ⟨vs, v, SqL.of hv, hv2⟩
  yld := fun i x ι H h v H' hx e rh s y => by
    obtain ⟨rfl, y⟩ := y
    obtain ⟨vs, hv, r⟩ := rh.at_ n a _ (e.at hn) (s n rfl)
    obtain ⟨w, hw, rw'⟩ := r.get hx
    have := y vs (SqL.of hv)
    rw [hw] at this
    cases this
    exact ⟨Ext.refl, rh, rw'⟩
  stop := fun ι H h e rh s => by
    obtain ⟨vs, hv, r⟩ := rh.at_ n a _ (e.at hn) (s n rfl)
    exact ⟨vs, SqL.of hv, by rw [r.length]; exact Nat.le_refl _⟩
/-- what an expression's value yields; a new list that nobody else knows is thrown away -/
def iVal (f : FE) : FI := fun ρ h => (f ρ h).bind fun p => match p.1 with
  | .str s => .ok ((s.map fun c => D.str [c], none), p.2)
  | .tup xs => .ok ((xs, none), p.2)
  | .fl xs => .ok ((xs, none), p.2)
  | .ref n => match p.2[n]? with
    | some (.lst xs) => if Clean h p.2 ∧ h.length ≤ n ∧ D.ltAll h.length xs = true then .ok ((xs, none), p.2.take h.length) else .ok ((xs, some n), p.2)
    | _ => .stuck
  | _ => .stuck
theorem pxi_val {X : Cx} {W : WX} {tg e : Expr} {f : FE} (he : PX X W e f) : PXI X W tg e (iVal f) := by
  refine ⟨PI.mono (pi_any he.pe) fun σ H R ⟨ι, ρ, h, hρ, hh, g⟩ => ?_⟩
  refine ⟨ι, ρ, h, hρ, hh, Good.mono (Good.bind g) (fun p q ι1 H1 v e1 h1 r1 => ?_) fun _ _ _ z => z⟩
  split at q
  · rename_i s hp
    rw [hp] at r1
    cases r1
    exact .inr (.inr ⟨_, rfl, q ι1 H1 _ e1 h1 (JW.str s)⟩)
  · rename_i xs hp
    rw [hp] at r1
    cases r1 with
    | tup hs rs => exact .inr (.inl ⟨_, rfl, ⟨_, hs⟩, q ι1 H1 _ e1 h1 ⟨fun i x ι H h hx e _ _ => by
        obtain ⟨v, hv, rv⟩ := rs.get hx
        exact ⟨_, v, e.sqT hs, hv⟩, fun i x ι H h v H' hx e rh _ y => by
        obtain ⟨rfl, y⟩ := y
        obtain ⟨w, hw, rw'⟩ := rs.get hx
        have := y _ (e.sqT hs)
        rw [hw] at this
        cases this
        exact ⟨Ext.refl, rh, rw'.ext e⟩, fun ι H h e _ _ => ⟨_, e.sqT hs, by rw [rs.length]; exact Nat.le_refl _⟩⟩⟩)
  · rename_i xs hp
    rw [hp] at r1
    cases r1 with
    | fl hs rs => exact .inl ⟨_, rfl, ⟨_, hs.seq⟩, q ι1 H1 _ e1 h1 (JW.fl hs rs)⟩
  · rename_i n hp
    rw [hp] at r1
    cases r1 with
    | ref hn =>
      split at q
      · rename_i a xs hx
        obtain ⟨vs, hv, rs⟩ := h1.at_ n _ _ hn hx
        split at q
        · rename_i hc
          obtain ⟨hl, el⟩ := hh.low e1 h1 hc.1
          have ha : _ ∉ ι := fun z => by
            obtain ⟨i, hi, e⟩ := List.mem_iff_getElem.mp z
            have e2 : _ = _ := e1.at (List.getElem?_eq_getElem hi)
            rw [e] at e2
            have : i ≠ n := by have := hc.2.1; have := hh.len; omega
            exact getElem?_ne_of_nodup h1.nd e2 hn this rfl
          obtain ⟨rest, er⟩ := e1.pre
          refine .inl ⟨_, rfl, ⟨_, SqL.of hv⟩, q ι H1 _ el hl (JW.lone hv ha (rs.low (k := h.length) (fun j hj => ?_) hc.2.2))⟩
          rw [← er, List.getElem?_append_left (by rw [hh.len]; exact hj)]
        · exact .inl ⟨_, rfl, ⟨_, SqL.of hv⟩, q ι1 H1 _ e1 h1 (JW.own hn)⟩
      · exact q.elim
  · exact q.elim
/-- range(n), range(a, b) -/
def rangeD (lo : Int) : Nat → List D
  | 0 => []
  | n + 1 => .int lo :: rangeD (lo + 1) n
theorem rangeD_length (n : Nat) : ∀ lo, (rangeD lo n).length = n := by
  induction n with
  | zero => intro lo; rfl
  | succ n ih => intro lo; simp [rangeD, ih]
theorem rangeD_get (n : Nat) : ∀ (lo : Int) (i : Nat), i < n → (rangeD lo n)[i]? = some (.int (lo + i)) := by
  induction n with
  | zero => intro lo i h; omega
  | succ n ih =>
    intro lo i h
    cases i with
    | zero => simp [rangeD]
    | succ i =>
      simp only [rangeD, List.getElem?_cons_succ]
      rw [ih (lo + 1) i (by omega)]
      congr 2
      omega
theorem JW.range {K : PySem.W.Frag} {ι0 : List Addr} {H0 : Hp} (lo : Int) (n : Nat) : JW K ι0 H0 (Itr lo n) (rangeD lo n) none where
  go := fun i x ι H h hx _ _ _ => by
    have := (List.getElem?_eq_some_iff.mp hx).1
    rw [rangeD_length] at this
    exact this
  yld := fun i x ι H h v H' hx _ r _ y => by
    obtain ⟨rfl, rfl⟩ := y
    have hi := (List.getElem?_eq_some_iff.mp hx).1
    rw [rangeD_length] at hi
    rw [rangeD_get n lo i hi] at hx
    cases hx
    exact ⟨Ext.refl, r, .int _⟩
  stop := fun ι H h _ _ _ => by rw [rangeD_length]; exact Nat.le_refl n
def iRange1 (fa : FA) : FI := fun ρ h => (fa ρ h).bind fun p => match p.1 with
  | [.int j] => if -4000000000000000000 ≤ j ∧ j < 4000000000000000000 then .ok ((rangeD 0 j.toNat, none), p.2) else .stuck
  | _ => .stuck
def iRange2 (fa : FA) : FI := fun ρ h => (fa ρ h).bind fun p => match p.1 with
  | [.int i, .int j] => if (-4000000000000000000 ≤ i ∧ i < 4000000000000000000) ∧ -4000000000000000000 ≤ j ∧ j < 4000000000000000000 then .ok ((rangeD i (j - i).toNat, none), p.2) else .stuck
  | _ => .stuck
section
variable {X : Cx} {W : WX} {tg a b : Expr} {fa : FA} {p pos : Pos}
theorem tA_seqI {K : PySem.W.Frag} {W : WX} {f : FA} {k : List D × Hy → R ((List D × Option Nat) × Hy)} {σ : L2.St} {H : Hp} {Q : It → Hp → Prop} {Q' : List V → Hp → Prop} {ι : List Addr} {ρ : Env} {h : Hy} (hρ : RepX K ι H σ ρ) (hh : Rh K ι H h)
    (g : Good ((f ρ h).bind k) (IW K ι H Q) (XW K W ι σ H)) (c : ∀ p ι' H' vs, Ext ι H ι' H' → Rh K ι' H' p.2 → Reps K ι' H' vs p.1 → Good (k p) (IW K ι' H' Q) (XW K W ι' σ H') → Q' vs H') : tA K W f σ H Q' :=
  ⟨ι, ρ, h, hρ, hh, g.bind.mono (fun p q ι' H' v e r rv => c p ι' H' v e r rv (q.mono (fun _ z => z.ext e) fun _ _ _ z => z.ext e)) fun _ _ _ z => z⟩
theorem pxi_range1 (hm : X.mg "range" = none) (ha : PXA X W [a] fa) (hg : Gl X "range" := by rfl) (hs : starEach [a] X.env = [(false, eval a X.env)] := by rfl) : PXI X W tg (.Call (.Name "range" p) [a] [] pos) (iRange1 fa) := by
  refine ⟨PI.mono (pi_range1 hg hm ha.pa hs) fun σ H R ⟨ι, ρ, h, hρ, hh, g⟩ => ?_⟩
  refine tA_seqI hρ hh g fun p ι1 H1 vs e1 h1 r1 q => ?_
  split at q
  · split at q
    · rename_i j hp hz
      rw [hp] at r1
      cases r1 with
      | cons r rr =>
        cases rr
        cases r
        exact ⟨_, rfl, by omega, by omega, q ι1 H1 _ Ext.refl h1 (JW.range 0 _)⟩
    · exact q.elim
  · exact q.elim
theorem pxi_range2 (hm : X.mg "range" = none) (ha : PXA X W [a, b] fa) (hg : Gl X "range" := by rfl) (hs : starEach [a, b] X.env = [(false, eval a X.env), (false, eval b X.env)] := by rfl) (hs2 : starEach [b] X.env = [(false, eval b X.env)] := by rfl) :
    PXI X W tg (.Call (.Name "range" p) [a, b] [] pos) (iRange2 fa) := by
  refine ⟨PI.mono (pi_range2 hg hm ha.pa hs hs2) fun σ H R ⟨ι, ρ, h, hρ, hh, g⟩ => ?_⟩
  refine tA_seqI hρ hh g fun p ι1 H1 vs e1 h1 r1 q => ?_
  split at q
  · split at q
    · rename_i i j hp hz
      rw [hp] at r1
      cases r1 with
      | cons r rr =>
        cases rr with
        | cons r' rr =>
          cases rr
          cases r
          cases r'
          exact ⟨_, _, rfl, by omega, q ι1 H1 _ Ext.refl h1 (JW.range _ _)⟩
    · exact q.elim
  · exact q.elim
end
/-! ## targets of loops -/
inductive CT where
  | one (i : Nat) | many (is : List Nat)
def setAll : List Nat → List D → Env → Env
  | i :: is, d :: ds, ρ => setAll is ds (ρ.set i (some d))
  | _, _, ρ => ρ
def CT.store : CT → D → Env → Option Env
  | .one i, d, ρ => some (ρ.set i (some d))
  | .many is, .tup ds, ρ => if ds.length = is.length then some (setAll is ds ρ) else none
  | .many _, _, _ => none
def CT.slots : CT → List Nat
  | .one i => [i]
  | .many is => is
def gNames : List Nat → TGs
  | [] => gNil
  | i :: is => gCons (gName i) (gNames is)
def gOf (K : PySem.W.Frag) : CT → TG
  | .one i => gName i
  | .many is => gTup K is.length (gNames is)
def setV : List Nat → List V → L2.St → L2.St
  | i :: is, v :: vs, σ => setV is vs (σ.set i (some v))
  | _, _, σ => σ
theorem gNames_ok {H : Hp} {Q : L2.St → Hp → Prop} : ∀ {is : List Nat} {vs : List V} {σ : L2.St}, vs.length = is.length → Q (setV is vs σ) H → gNames is vs σ H Q
  | [], [], σ, _, q => ⟨rfl, q⟩
  | i :: is, v :: vs, σ, h, q => ⟨v, vs, rfl, gNames_ok (is := is) (vs := vs) (by simpa using h) q⟩
theorem repX_setV {K : PySem.W.Frag} {ι : List Addr} {H : Hp} : ∀ {is : List Nat} {vs : List V} {ds : List D} {σ : L2.St} {ρ : Env}, Reps K ι H vs ds → RepX K ι H σ ρ → RepX K ι H (setV is vs σ) (setAll is ds ρ)
  | [], _, _, _, _, _, x => x
  | i :: is, _, _, _, _, .nil, x => x
  | i :: is, _, _, _, _, .cons r rs, x => repX_setV (is := is) rs (x.set r i)
theorem wipe_set {i : Nat} {x : Option V} : ∀ {vs : List Nat} {σ : L2.St}, i ∈ vs → L2.wipe (σ.set i x) vs = L2.wipe σ vs
  | [], _, h => by cases h
  | v :: vs, σ, h => by
    show (L2.wipe (σ.set i x) vs).set v none = (L2.wipe σ vs).set v none
    by_cases hi : i ∈ vs
    · rw [wipe_set hi]
    · have hv : i = v := by
        rcases List.mem_cons.mp h with h | h
        · exact h
        · exact absurd h hi
      subst hv
      have key : ∀ {vs : List Nat} {σ : L2.St}, i ∉ vs → L2.wipe (σ.set i x) vs = (L2.wipe σ vs).set i x := by
        intro vs
        induction vs with
        | nil => intro σ _; rfl
        | cons w ws ih =>
          intro σ hn
          show (L2.wipe (σ.set i x) ws).set w none = ((L2.wipe σ ws).set w none).set i x
          have hw : i ≠ w := fun e => hn (by rw [e]; exact List.mem_cons_self)
          rw [ih fun z => hn (List.mem_cons_of_mem _ z), List.set_comm _ _ hw]
      rw [key hi, List.set_set]
theorem wipe_setV : ∀ {is : List Nat} {ws : List V} {vs : List Nat} {σ : L2.St}, (∀ i ∈ is, i ∈ vs) → L2.wipe (setV is ws σ) vs = L2.wipe σ vs
  | [], _, _, _, _ => rfl
  | i :: is, [], _, _, _ => rfl
  | i :: is, w :: ws, vs, σ, h => by
    show L2.wipe (setV is ws (σ.set i (some w))) vs = _
    rw [wipe_setV fun j hj => h j (List.mem_cons_of_mem _ hj), wipe_set (h i List.mem_cons_self)]
theorem CT.run {K : PySem.W.Frag} {ι : List Addr} {H : Hp} {ct : CT} {x : V} {d : D} {σ : L2.St} {ρ ρ' : Env} {Q : L2.St → Hp → Prop} (hs : ct.store d ρ = some ρ') (r : Rep K ι H x d) (hρ : RepX K ι H σ ρ)
    (q : ∀ σ', RepX K ι H σ' ρ' → (∀ vs : List Nat, (∀ i ∈ ct.slots, i ∈ vs) → L2.wipe σ' vs = L2.wipe σ vs) → Q σ' H) : gOf K ct x σ H Q := by
  cases ct with
  | one i =>
    cases hs
    exact q _ (hρ.set r i) fun vs h => wipe_set (h i (by simp [CT.slots]))
  | many is =>
    cases r with
    | tup hs' rs =>
      unfold CT.store at hs
      simp only at hs
      split at hs
      · rename_i hl
        cases hs
        refine ⟨_, _, rfl, hs', by rw [rs.length]; exact hl, gNames_ok (by rw [rs.length]; exact hl) ?_⟩
        exact q _ (repX_setV rs hρ) fun vs h => wipe_setV h
      · cases hs
    | _ => cases hs
theorem wipe_at {v : Nat} : ∀ {ws : List Nat} {σ : L2.St}, v ∈ ws → v < σ.length → (L2.wipe σ ws)[v]? = some none
  | w :: ws, σ, h, hl => by
    show ((L2.wipe σ ws).set w none)[v]? = some none
    by_cases hw : w = v
    · subst hw
      rw [List.getElem?_set_self (by rw [L2.wipe_length]; exact hl)]
    · rw [List.getElem?_set_ne hw]
      refine wipe_at ?_ hl
      rcases List.mem_cons.mp h with h | h
      · exact absurd h.symm hw
      · exact h
theorem wipe_again {ws : List Nat} {σ : L2.St} : ∀ {vs : List Nat}, (∀ v ∈ vs, v ∈ ws) → L2.wipe (L2.wipe σ ws) vs = L2.wipe σ ws
  | [], _ => rfl
  | v :: vs, h => by
    show (L2.wipe (L2.wipe σ ws) vs).set v none = L2.wipe σ ws
    rw [wipe_again fun w hw => h w (List.mem_cons_of_mem _ hw)]
    refine List.ext_getElem? fun j => ?_
    by_cases hj : v = j
    · subst hj
      by_cases hl : v < σ.length
      · rw [List.getElem?_set_self (by rw [L2.wipe_length]; exact hl), wipe_at (h v List.mem_cons_self) hl]
      · rw [List.getElem?_eq_none (by rw [List.length_set, L2.wipe_length]; omega), List.getElem?_eq_none (by rw [L2.wipe_length]; omega)]
    · rw [List.getElem?_set_ne hj]
theorem wipe_wipe (σ : L2.St) (vs : List Nat) : L2.wipe (L2.wipe σ vs) vs = L2.wipe σ vs := wipe_again fun _ h => h
/-! ## list comprehensions -/
def R.calm {α : Type} : R α → R α
  | .ok a => .ok a
  | _ => .stuck
abbrev WN : WX := fun _ _ _ _ => False
def srcOk (all : List D) (src : Option Nat) (h : Hy) : Prop := ∀ n, src = some n → h[n]? = some (.lst all)
instance (all : List D) (src : Option Nat) (h : Hy) : Decidable (srcOk all src h) := match src with
  | none => isTrue fun n e => by cases e
  | some m => decidable_of_iff (h[m]? = some (.lst all)) ⟨fun e n q => by cases q; exact e, fun z => z m rfl⟩
def cLoop (ct : CT) (tt : FT) (te : FE) (ρ : Env) (all : List D) (src : Option Nat) : List D → Hy → R (List D × Hy)
  | [], h => if srcOk all src h then .ok ([], h) else .stuck
  | x :: xs, h => if srcOk all src h then match ct.store x ρ with
      | some ρ' => (tt ρ' h).calm.bind fun b => if b.1 then (te ρ' b.2).calm.bind fun y => (cLoop ct tt te ρ all src xs y.2).bind fun r => .ok (y.1 :: r.1, r.2)
        else cLoop ct tt te ρ all src xs b.2
      | none => .stuck
    else .stuck
def eComp (vs : List Nat) (fi : FI) (ct : CT) (tt : FT) (te : FE) : FE := fun ρ h => (fi ρ h).bind fun p => if p.1.1.length ≤ 16777216 then (cLoop ct tt te (wipeE ρ vs) p.1.1 p.1.2 p.1.1 p.2).bind fun r => new (.lst r.1) r.2 else .stuck
def tTrue : FT := fun _ h => .ok (true, h)
structure PXTs (X : Cx) (W : WX) (ifs : List Expr) (f : FT) : Prop where
  pt : PTs X ifs (tT X.K W f)
theorem PTs.mono {X : Cx} {e : List Expr} {t t' : TT} (h : PTs X e t) (hi : ∀ σ H Q, t' σ H Q → t σ H Q) : PTs X e t' := ⟨fun pins s σ H Q I q => h.run pins s σ H Q I (hi _ _ _ q)⟩
theorem pxts_nil {X : Cx} {W : WX} : PXTs X W [] tTrue := ⟨PTs.mono pts_nil fun σ H Q ⟨ι, ρ, h, hρ, hh, g⟩ => g ι H Ext.refl hh⟩
theorem pxts_one {X : Cx} {W : WX} {c : Expr} {f : FT} (h : PXT X W c f) : PXTs X W [c] f := ⟨pts_one h.pt⟩
theorem calm_good {α : Type} {r : R α} {ok : α → Prop} {ex ex' : String → Option D → Hy → Prop} (g : Good r.calm ok ex) : Good r ok ex' := by
  cases r with
  | ok a => exact g
  | exc c d h => exact g.elim
  | stuck => exact g.elim
/-- a list apart is written -/
theorem Ext.apart {ι ι' : List Addr} {H H' : Hp} {D : Addr} {xs : List V} {o : HO} (e : Ext ι H ι' H') (hD : H D = none) (hL : H' D = some (.lst xs)) : Ext ι H ι' (upd H' D o) := by
  have ne : ∀ {a o}, H a = some o → a ≠ D := fun {a o} q z => by rw [z, hD] at q; cases q
  exact ⟨e.pre, fun a vs q => by rw [upd_ne (ne q)]; exact e.tups a vs q, fun a o u q => by rw [upd_ne (ne q)]; exact e.frzs a o u q, fun a o q n => by rw [upd_ne (ne q)]; exact e.keep a o q n, e.new⟩
structure Wk (ι : List Addr) (H H' : Hp) : Prop where
  tups : ∀ a vs, H a = some (.tup vs) → H' a = some (.tup vs)
  frzs : ∀ a o u, H a = some (.frz o u) → H' a = some (.frz o u)
mutual
theorem Rep.wk {K : PySem.W.Frag} {ι : List Addr} {H H' : Hp} (e : Wk ι H H') : ∀ {v : V} {d : D}, Rep K ι H v d → Rep K ι H' v d
  | _, _, .non => .non
  | _, _, .bl b => .bl b
  | _, _, .int i => .int i
  | _, _, .str s => .str s
  | _, _, .tup h r => .tup (by
      rcases h with (h | ⟨o, h⟩) | h
      · exact .inl (.inl (e.tups _ _ h))
      · exact .inl (.inr ⟨o, e.frzs _ _ _ h⟩)
      · exact .inr h) (Reps.wk e r)
  | _, _, .fl h r => .fl (by
      rcases h with ⟨o, h⟩ | h
      · exact .inl ⟨o, e.frzs _ _ _ h⟩
      · exact .inr h) (Reps.wk e r)
  | _, _, .ref h => .ref h
  | _, _, .fn x => .fn x
theorem Reps.wk {K : PySem.W.Frag} {ι : List Addr} {H H' : Hp} (e : Wk ι H H') : ∀ {vs : List V} {ds : List D}, Reps K ι H vs ds → Reps K ι H' vs ds
  | _, _, .nil => .nil
  | _, _, .cons h r => .cons (Rep.wk e h) (Reps.wk e r)
end
theorem RepF.wk {K : PySem.W.Frag} {ι : List Addr} {H H' : Hp} (e : Wk ι H H') : ∀ {fv : List (Str × V)} {fs : List (String × D)}, RepF K ι H fv fs → RepF K ι H' fv fs
  | _, _, .nil => .nil
  | _, _, .cons h r => .cons (h.wk e) (RepF.wk e r)
theorem RepK.wk {K : PySem.W.Frag} {ι : List Addr} {H H' : Hp} (e : Wk ι H H') : ∀ {kv : List (Key × V)} {ks : List (D × D)}, RepK K ι H kv ks → RepK K ι H' kv ks
  | _, _, .nil => .nil
  | _, _, .int h r => .int (h.wk e) (RepK.wk e r)
  | _, _, .str h r => .str (h.wk e) (RepK.wk e r)
theorem wk_apart {ι : List Addr} {H : Hp} {D : Addr} {xs : List V} {o : HO} (hL : H D = some (.lst xs)) : Wk ι H (upd H D o) :=
  ⟨fun a vs q => by rw [upd_ne (fun z => by rw [z, hL] at q; cases q)]; exact q, fun a o u q => by rw [upd_ne (fun z => by rw [z, hL] at q; cases q)]; exact q⟩
theorem Rh.apart {K : PySem.W.Frag} {ι : List Addr} {H : Hp} {h : Hy} {D : Addr} {xs : List V} {o : HO} (r : Rh K ι H h) (hD : D ∉ ι) (hL : H D = some (.lst xs)) : Rh K ι (upd H D o) h := by
  refine ⟨r.len, r.nd, fun i a u e1 e2 => ?_⟩
  have ha : a ≠ D := fun z => hD (by rw [← z]; exact List.mem_of_getElem? e1)
  have w := wk_apart (ι := ι) (o := o) hL
  have q := r.at_ i a u e1 e2
  cases u with
  | lst ds => obtain ⟨vs, h, r⟩ := q; exact ⟨vs, by rw [upd_ne ha]; exact h, r.wk w⟩
  | dic ds => obtain ⟨vs, h, r⟩ := q; exact ⟨vs, by rw [upd_ne ha]; exact h, r.wk w⟩
  | ins c fs => obtain ⟨dx, fv, h, r⟩ := q; exact ⟨dx, fv, by rw [upd_ne ha]; exact h, r.wk w⟩
theorem VW.lone {K : PySem.W.Frag} {ι0 ι : List Addr} {H0 H : Hp} {h : Hy} {Q : VK} {D : Addr} {vs : List V} {ds : List Px.D} (q : VW K ι0 H0 Q (.ref h.length, h ++ [.lst ds])) (e : Ext ι0 H0 ι H) (r : Rh K ι H h) (hD0 : H0 D = none) (hD : D ∉ ι) (hL : H D = some (.lst vs)) (rs : Reps K ι H vs ds) : Q (.ref D) H := by
  have E : Ext ι0 H0 (ι ++ [D]) H := ⟨e.pre.trans (List.prefix_append _ _), e.tups, e.frzs, e.keep, fun a z n => by
    rcases List.mem_append.mp z with z | z
    · exact e.new a z n
    · have : a = D := by simpa using z
      rw [this]; exact hD0⟩
  have up : Ext ι H (ι ++ [D]) (upd H D (.lst vs)) ∨ True := .inr trivial
  have lift : ∀ {v d}, Rep K ι H v d → Rep K (ι ++ [D]) H v d := fun {v d} x => Rep.low (k := ι.length) (ι := ι ++ [D]) (ι' := ι) (fun n hn => (List.getElem?_append_left hn).symm) x x.lt
  have lifts : ∀ {v d}, Reps K ι H v d → Reps K (ι ++ [D]) H v d := fun {v d} x => Reps.low (k := ι.length) (ι := ι ++ [D]) (ι' := ι) (fun n hn => (List.getElem?_append_left hn).symm) x x.lt
  refine q (ι ++ [D]) H _ E ⟨by simp [r.len], ?_, fun i a o e1 e2 => ?_⟩ (.ref (by rw [← r.len, List.getElem?_append_right (Nat.le_refl _)]; simp))
  · refine List.nodup_append.mpr ⟨r.nd, by simp, fun x hx y hy => ?_⟩
    have : y = D := by simpa using hy
    rw [this]
    rintro rfl
    exact hD hx
  · by_cases hi : i < ι.length
    · rw [List.getElem?_append_left hi] at e1
      rw [List.getElem?_append_left (by rw [← r.len]; exact hi)] at e2
      exact (r.at_ i a o e1 e2).low (k := ι.length) (fun n hn => (List.getElem?_append_left hn).symm) (r.at_ i a o e1 e2).lt
    · have hb := (List.getElem?_eq_some_iff.mp e1).1
      have hi2 : i = ι.length := by simp at hb; omega
      subst hi2
      rw [List.getElem?_append_right (Nat.le_refl _)] at e1
      rw [r.len, List.getElem?_append_right (Nat.le_refl _)] at e2
      simp at e1 e2
      subst e1 e2
      exact ⟨vs, hL, lifts rs⟩
theorem comp_mono {K : PySem.W.Frag} {W : WX} {vs : List Nat} {fi : FI} {ct : CT} {tt : FT} {te : FE} (hct : ∀ i ∈ ct.slots, i ∈ vs) {σ : L2.St} {H : Hp} {Q : VK} :
    tE K W (eComp vs fi ct tt te) σ H Q → tLc (tI K W fi) (gOf K ct) (tT K WN tt) (tE K WN te) vs σ H Q := by
  rintro ⟨ι, ρ, h, hρ, hh, g⟩
  refine ⟨ι, ρ, h, hρ, hh, g.bind.mono (fun p q ι1 H1 J e1 h1 jw => ?_) fun _ _ _ z => z⟩
  obtain ⟨⟨all, src⟩, h'⟩ := p
  simp only at q jw h1
  split at q
  · rename_i hz
    intro D hD
    have hDi : D ∉ ι1 := h1.notin hD
    have q1 : Good ((cLoop ct tt te (wipeE ρ vs) all src all h').bind fun r => new (.lst r.1) r.2) (VW K ι1 H1 Q) (XW K W ι1 σ H1) := q.mono (fun _ z => z.ext e1) fun _ _ _ z => z.ext e1
    have hρ1 := (hρ.ext e1).wipe vs
    refine ⟨fun i m H => m = all.length - i ∧ i ≤ all.length ∧ ∃ ι h ws ys, Ext ι1 H1 ι H ∧ Rh K ι H h ∧ D ∉ ι ∧ H D = some (.lst ws) ∧ Reps K ι H ws ys ∧ ys.length ≤ i ∧
      Good ((cLoop ct tt te (wipeE ρ vs) all src (all.drop i) h).bind fun r => new (.lst (ys ++ r.1)) r.2) (VW K ι1 H1 Q) (XW K W ι1 σ H1), ⟨all.length, by simp, Nat.zero_le _, ι1, h', [], [], ?_⟩, ?_⟩
    · obtain ⟨e2, h2⟩ := h1.put (o := .lst []) hD
      exact ⟨e2, h2, hDi, upd_same, .nil, Nat.zero_le _, by simpa using q1⟩
    · rintro i m H ⟨rfl, hi, ι2, h2, ws, ys, e2, r2, hD2, hL, rs, hys, g2⟩
      by_cases hlt : i < all.length
      · refine .inr ?_
        have hx : all[i]? = some all[i] := List.getElem?_eq_getElem hlt
        rw [List.drop_eq_getElem_cons hlt] at g2
        unfold cLoop at g2
        split at g2
        · rename_i hs
          refine ⟨jw.go i _ ι2 H h2 hx e2 r2 hs, fun H' => ∃ ι h ws ys, Ext ι1 H1 ι H' ∧ Rh K ι H' h ∧ D ∉ ι ∧ H' D = some (.lst ws) ∧ Reps K ι H' ws ys ∧ ys.length ≤ i + 1 ∧
            Good ((cLoop ct tt te (wipeE ρ vs) all src (all.drop (i + 1)) h).bind fun r => new (.lst (ys ++ r.1)) r.2) (VW K ι1 H1 Q) (XW K W ι1 σ H1), fun H' n => ⟨all.length - (i + 1), by omega, rfl, hlt, n⟩, fun x H' y => ?_⟩
          obtain ⟨e3, r3, rx⟩ := jw.yld i _ ι2 H h2 x H' hx e2 r2 hs y
          cases hst : ct.store all[i] (wipeE ρ vs) with
          | none => rw [hst] at g2; exact g2.elim
          | some ρ' =>
            rw [hst] at g2
            simp only at g2
            refine CT.run hst rx (hρ1.ext (e2.trans e3)) fun σ' hσ' hw => ⟨by rw [hw vs hct]; exact wipe_wipe σ vs, ?_⟩
            have hL3 : H' D = some (.lst ws) := e3.keep _ _ hL hD2
            have g3 : Good ((tt ρ' h2).calm.bind fun b => (if b.1 then (te ρ' b.2).calm.bind fun y => (cLoop ct tt te (wipeE ρ vs) all src (all.drop (i + 1)) y.2).bind fun r => .ok (y.1 :: r.1, r.2)
                else cLoop ct tt te (wipeE ρ vs) all src (all.drop (i + 1)) b.2).bind fun r => new (.lst (ys ++ r.1)) r.2) (VW K ι1 H1 Q) (XW K W ι1 σ H1) := by
              cases et : (tt ρ' h2).calm with
              | ok b => rw [et] at g2; exact g2
              | exc c d h => rw [et] at g2; exact g2
              | stuck => rw [et] at g2; exact g2
            refine ⟨ι2, ρ', h2, hσ', r3, calm_good (ex := XW K W ι1 σ H1) (g3.bind.mono (fun b gb ι4 H4 e4 r4 => ?_) fun _ _ _ z => z)⟩
            have hD4 : D ∉ ι4 := fun z => by
              have := e4.new D z hD2
              rw [hL3] at this; cases this
            have hL4 : H4 D = some (.lst ws) := e4.keep _ _ hL3 hD2
            obtain ⟨b, hb⟩ := b
            cases b with
            | false =>
              dsimp only
              rw [if_neg Bool.false_ne_true]
              exact ⟨ι4, hb, ws, ys, (e2.trans e3).trans e4, r4, hD4, hL4, (rs.ext e3).ext e4, by omega, gb⟩
            | true =>
              dsimp only
              rw [if_pos rfl]
              simp only [if_true] at gb
              have g5 : Good ((te ρ' hb).calm.bind fun y => ((cLoop ct tt te (wipeE ρ vs) all src (all.drop (i + 1)) y.2).bind fun r => new (.lst (ys ++ y.1 :: r.1)) r.2)) (VW K ι1 H1 Q) (XW K W ι1 σ H1) := by
                cases et : (te ρ' hb).calm with
                | ok b =>
                  rw [et, R.bind_ok] at gb
                  rw [R.bind_ok]
                  cases ec : cLoop ct tt te (wipeE ρ vs) all src (all.drop (i + 1)) b.2 with
                  | ok z => rw [ec] at gb; exact gb
                  | exc c d h => rw [ec] at gb; exact gb
                  | stuck => rw [ec] at gb; exact gb
                | exc c d h => rw [et] at gb; exact gb
                | stuck => rw [et] at gb; exact gb
              refine ⟨ι4, ρ', hb, hσ'.ext e4, r4, calm_good (ex := XW K W ι1 σ H1) (g5.bind.mono (fun y gy ι5 H5 v e5 r5 rv => ?_) fun _ _ _ z => z)⟩
              have hD5 : D ∉ ι5 := fun z => by
                have := e5.new D z hD4
                rw [hL4] at this; cases this
              have hL5 : H5 D = some (.lst ws) := e5.keep _ _ hL4 hD4
              have rs5 := ((rs.ext e3).ext e4).ext e5
              have w5 := wk_apart (ι := ι5) (o := .lst (ws ++ [v])) hL5
              refine ⟨ws, hL5, by rw [rs5.length, sizeLine_eq]; omega, ι5, y.2, ws ++ [v], ys ++ [y.1], ((((e2.trans e3).trans e4).trans e5).apart hD hL5), r5.apart hD5 hL5, hD5, upd_same, (rs5.append (.one rv)).wk w5, by simp; omega, ?_⟩
              simpa using gy
        · exact g2.elim
      · have hi2 : i = all.length := by omega
        subst hi2
        rw [List.drop_length] at g2
        unfold cLoop at g2
        split at g2
        · rename_i hs
          refine .inl ⟨jw.stop ι2 H h2 e2 r2 hs, ?_⟩
          have g3 : VW K ι1 H1 Q (.ref h2.length, h2 ++ [.lst (ys ++ [])]) := g2
          rw [List.append_nil] at g3
          exact g3.lone e2 r2 hD hD2 hL rs
        · exact g2.elim
  · exact q.elim
end Px
namespace Px
open PySem PySem.Spec PyProof.Rows L2
section
variable {X : Cx} {W : WX} {pos : Pos} {elt tg iter : Expr} {ifs : List Expr} {scope : Scope} {own : List (Str × Nat)} {fi : FI} {ct : CT} {tt : FT} {te : FE}
theorem px_comp (hc : X.calm = true) (hN : X.N.Nodup) (hi : PXI X W tg iter fi) (ok : BlkOk X.N X.env.scope scope own)
    (hg : ∀ (s : Shared) (H : Hp) (C : Addr) (cl : List (Str × Addr)) (fp : List Addr), PG (X.blk s H scope (compEnvC scope cl C X.env) fp) tg (gOf X.K ct))
    (ht : ∀ (s : Shared) (H : Hp) (C : Addr) (cl : List (Str × Addr)) (fp : List Addr), PXTs (X.blk s H scope (compEnvC scope cl C X.env) fp) WN ifs tt)
    (he : ∀ (s : Shared) (H : Hp) (C : Addr) (cl : List (Str × Addr)) (fp : List Addr), PX (X.blk s H scope (compEnvC scope cl C X.env) fp) WN elt te)
    (hct : ∀ i ∈ ct.slots, i ∈ own.map (·.2) := by decide) (hs : ∀ x, foldedSetIterable iter X.env x = pure x := by intro _; rfl) :
    PX X W (.ListComp elt [⟨tg, iter, ifs, 0⟩] scope pos) (eComp (own.map (·.2)) fi ct tt te) :=
  ⟨PE.mono (pe_lc hc hN hi.pi ok hg (fun s H C cl fp => (ht s H C cl fp).pt) (fun s H C cl fp => (he s H C cl fp).pe) hs) fun _ _ _ => comp_mono hct⟩
end
end Px
namespace Px
open PySem PySem.Spec PyProof.Rows L2
/-! ## statements -/
def RS.seq (r : RS) (k : Env → Hy → RS) : RS := match r with
  | .nx ρ h => k ρ h
  | .rt d h => .rt d h
  | .bk ρ h => .bk ρ h
  | .ct ρ h => .ct ρ h
  | .exc c d ρ h => .exc c d ρ h
  | .stuck => .stuck
@[simp] theorem RS.seq_nx (ρ h k) : (RS.nx ρ h).seq k = k ρ h := rfl
@[simp] theorem RS.seq_rt (d h k) : (RS.rt d h).seq k = .rt d h := rfl
@[simp] theorem RS.seq_bk (ρ h k) : (RS.bk ρ h).seq k = .bk ρ h := rfl
@[simp] theorem RS.seq_ct (ρ h k) : (RS.ct ρ h).seq k = .ct ρ h := rfl
@[simp] theorem RS.seq_exc (c d ρ h k) : (RS.exc c d ρ h).seq k = .exc c d ρ h := rfl
@[simp] theorem RS.seq_stuck (k) : (RS.stuck).seq k = .stuck := rfl
theorem tE_seqS {K : PySem.W.Frag} {W : WX} {D : Ends} {f : FE} {k : Px.D × Hy → RS} {σ : L2.St} {H : Hp} {Q' : VK} {ι : List Addr} {ρ : Env} {h : Hy} (hρ : RepX K ι H σ ρ) (hh : Rh K ι H h)
    (g : GoodS K W ι H D ((f ρ h).toS ρ k)) (c : ∀ p ι' H' v, Ext ι H ι' H' → Rh K ι' H' p.2 → Rep K ι' H' v p.1 → RepX K ι' H' σ ρ → GoodS K W ι' H' D (k p) → Q' v H') : tE K W f σ H Q' :=
  ⟨ι, ρ, h, hρ, hh, (GoodS.toS hρ g).mono (fun p q ι' H' v e r rv => c p ι' H' v e r rv (hρ.ext e) (q.ext e)) fun _ _ _ z => z⟩
theorem tT_seqS {K : PySem.W.Frag} {W : WX} {D : Ends} {f : FT} {k : Bool × Hy → RS} {σ : L2.St} {H : Hp} {Q' : Bool → Hp → Prop} {ι : List Addr} {ρ : Env} {h : Hy} (hρ : RepX K ι H σ ρ) (hh : Rh K ι H h)
    (g : GoodS K W ι H D ((f ρ h).toS ρ k)) (c : ∀ p ι' H', Ext ι H ι' H' → Rh K ι' H' p.2 → RepX K ι' H' σ ρ → GoodS K W ι' H' D (k p) → Q' p.1 H') : tT K W f σ H Q' :=
  ⟨ι, ρ, h, hρ, hh, (GoodS.toS hρ g).mono (fun p q ι' H' e r => c p ι' H' e r (hρ.ext e) (q.ext e)) fun _ _ _ z => z⟩
/-! ### targets -/
abbrev FG := D → Env → Hy → RS
abbrev FGs := List D → Env → Hy → RS
def endsOf (Q : L2.St → Hp → Prop) : Ends := { nx := Q, rt := fun _ _ => False }
def tG (K : PySem.W.Frag) (W : WX) (f : FG) : TG := fun v σ H Q => ∃ ι ρ h d, RepX K ι H σ ρ ∧ Rh K ι H h ∧ Rep K ι H v d ∧ GoodS K W ι H (endsOf Q) (f d ρ h)
def tGs (K : PySem.W.Frag) (W : WX) (f : FGs) : TGs := fun vs σ H Q => ∃ ι ρ h ds, RepX K ι H σ ρ ∧ Rh K ι H h ∧ Reps K ι H vs ds ∧ GoodS K W ι H (endsOf Q) (f ds ρ h)
structure PXG (X : Cx) (W : WX) (tg : Expr) (f : FG) : Prop where
  pg : PG X tg (tG X.K W f)
structure PXGs (X : Cx) (W : WX) (ts : List Expr) (f : FGs) : Prop where
  pg : PGs X ts (tGs X.K W f)
theorem PG.mono {X : Cx} {tg : Expr} {t t' : TG} (h : PG X tg t) (hi : ∀ v σ H Q, t' v σ H Q → t v σ H Q) : PG X tg t' := ⟨fun pins s σ H v u Q I r q => h.run pins s σ H v u Q I r (hi _ _ _ _ q)⟩
theorem PGs.mono {X : Cx} {tg : List Expr} {t t' : TGs} (h : PGs X tg t) (hi : ∀ v σ H Q, t' v σ H Q → t v σ H Q) : PGs X tg t' := ⟨fun pins s σ H v u Q I r q => h.run pins s σ H v u Q I r (hi _ _ _ _ q)⟩
def fgName (i : Nat) : FG := fun d ρ h => .nx (ρ.set i (some d)) h
def fgsNil : FGs := fun ds ρ h => match ds with
  | [] => .nx ρ h
  | _ => .stuck
def fgsCons (f : FG) (fs : FGs) : FGs := fun ds ρ h => match ds with
  | d :: ds => (f d ρ h).seq fun ρ' h' => fs ds ρ' h'
  | [] => .stuck
/-- only stores: nothing but its end -/
def RS.plain : RS → RS
  | .nx ρ h => .nx ρ h
  | .exc c d ρ h => .exc c d ρ h
  | _ => .stuck
def fgTup (n : Nat) (fs : FGs) : FG := fun d ρ h => match items h d with
  | some xs => if xs.length = n then fs xs ρ h else .stuck
  | none => .stuck
def fgStar (n : Nat) (fs : FGs) : FG := fun d ρ h => match items h d with
  | some xs => if n ≤ xs.length then fs (xs.take n ++ [.ref h.length]) ρ (h ++ [.lst (xs.drop n)]) else .stuck
  | none => .stuck
/-- xs[i] = v, xs a list of ours -/
def setIt (o i d : D) (h : Hy) : Option Hy := match o, i with
  | .ref n, .int k => match h[n]? with
    | some (.lst ds) => match ixN ds.length k with
      | some j => some (h.set n (.lst (ds.set j d)))
      | none => none
    | _ => none
  | _, _ => none
def fgSub (fo fi : FE) : FG := fun d ρ h => (fo ρ h).toS ρ fun p => (fi ρ p.2).toS ρ fun q => match setIt p.1 q.1 d q.2 with
  | some h' => .nx ρ h'
  | none => .stuck
/-- a new list of ours at p -/
theorem push_lst {K : PySem.W.Frag} {ι : List Addr} {H : Hp} {h : Hy} {vs : List V} {ds : List D} {p : Addr} (hh : Rh K ι H h) (r : Reps K ι H vs ds) (hp : H p = none) :
    Ext ι H (ι ++ [p]) (upd H p (.lst vs)) ∧ Rh K (ι ++ [p]) (upd H p (.lst vs)) (h ++ [.lst ds]) ∧ (ι ++ [p])[h.length]? = some p := by
  have e0 := (hh.put (o := .lst vs) hp).1
  have e1 : Ext ι H (ι ++ [p]) (upd H p (.lst vs)) := ⟨List.prefix_append _ _, e0.tups, e0.frzs, e0.keep, fun a z n => by
    rcases List.mem_append.mp z with z | z
    · exact absurd z n
    · have : a = p := by simpa using z
      rw [this]; exact hp⟩
  obtain ⟨e, hh'⟩ := hh.push (o := .lst vs) (u := .lst ds) hp ⟨vs, upd_same, r.ext e1⟩
  exact ⟨e, hh', by rw [← hh.len, List.getElem?_append_right (Nat.le_refl _)]; simp⟩
theorem set_lst {K : PySem.W.Frag} {ι : List Addr} {H : Hp} {h : Hy} {vs : List V} {ds : List D} {n : Nat} {a : Addr} (hh : Rh K ι H h) (hn : ι[n]? = some a) (r : Reps K ι H vs ds) :
    Ext ι H ι (upd H a (.lst vs)) ∧ Rh K ι (upd H a (.lst vs)) (h.set n (.lst ds)) := by
  have nt : Ext ι H ι (upd H a (.lst vs)) := by
    obtain ⟨old, ho, hm⟩ := hh.some_of (List.mem_of_getElem? hn)
    have nt : ∀ {b vs}, H b = some (.tup vs) → b ≠ a := fun {b vs} e z => by rw [z, ho] at e; cases e; exact hm
    have nf : ∀ {b p q}, H b = some (.frz p q) → b ≠ a := fun {b p q} e z => by rw [z, ho] at e; cases e; exact hm
    exact ⟨List.prefix_refl _, fun b vs e => by rw [upd_ne (nt e)]; exact e, fun b u w e => by rw [upd_ne (nf e)]; exact e,
      fun b u e n => by rw [upd_ne (fun z => n (by rw [z]; exact List.mem_of_getElem? hn))]; exact e, fun b z n => absurd z n⟩
  exact hh.write (o := .lst vs) (u := .lst ds) hn ⟨vs, upd_same, r.ext nt⟩
theorem GoodS.seqG {K : PySem.W.Frag} {W : WX} {ι : List Addr} {H : Hp} {Q : L2.St → Hp → Prop} {r : RS} {k : Env → Hy → RS} (g : GoodS K W ι H (endsOf Q) (r.seq k)) :
    GoodS K W ι H (endsOf fun σ' H' => ∃ ι' ρ' h', RepX K ι' H' σ' ρ' ∧ Rh K ι' H' h' ∧ GoodS K W ι' H' (endsOf Q) (k ρ' h') ∧ Ext ι H ι' H') r := by
  cases r with
  | nx ρ h => exact fun ι' H' σ e rh rx => ⟨ι', ρ, h, rx, rh, g.ext e, e⟩
  | rt d h => exact g
  | bk ρ h => exact g
  | ct ρ h => exact g
  | exc c d ρ h => exact g
  | stuck => exact g
section
variable {X : Cx} {W : WX} {pos : Pos}
theorem pxg_name {x : Str} (i : Nat) (hN : X.N.Nodup) (hi : X.N[i]? = some x := by rfl) (hx : Loc X.env.scope x := by first | exact .inl rfl | exact .inr rfl) (hf : X.fn x = true ∨ X.env.scope.names.lookup x = some .local := by first | exact .inl rfl | exact .inr rfl | assumption) :
    PXG X W (.Name x pos) (fgName i) := by
  refine ⟨PG.mono (pg_name hN hi hx hf) fun v σ H Q ⟨ι, ρ, h, d, hρ, hh, r, g⟩ => ?_⟩
  exact g ι H _ Ext.refl hh (hρ.set r i)
theorem pxgs_nil : PXGs X W [] fgsNil := ⟨PGs.mono pgs_nil fun vs σ H Q ⟨ι, ρ, h, ds, hρ, hh, r, g⟩ => by
  cases r with
  | nil => exact ⟨rfl, g ι H _ Ext.refl hh hρ⟩
  | cons _ _ => exact g.elim⟩
theorem gs_cons_mono {f : FG} {fs : FGs} (vs : List V) (σ : L2.St) (H : Hp) (Q : L2.St → Hp → Prop) : tGs X.K W (fgsCons f fs) vs σ H Q → gCons (tG X.K W f) (tGs X.K W fs) vs σ H Q := by
  rintro ⟨ι, ρ, h, ds, hρ, hh, r, g⟩
  cases r with
  | nil => exact g.elim
  | @cons v vs d ds r rs =>
    refine ⟨v, vs, rfl, ι, ρ, h, d, hρ, hh, r, ?_⟩
    have g2 := GoodS.seqG g
    have conv : ∀ {r : RS}, GoodS X.K W ι H (endsOf fun σ' H' => ∃ ι' ρ' h', RepX X.K ι' H' σ' ρ' ∧ Rh X.K ι' H' h' ∧ GoodS X.K W ι' H' (endsOf Q) (fs ds ρ' h') ∧ Ext ι H ι' H') r → GoodS X.K W ι H (endsOf fun σ' H' => tGs X.K W fs vs σ' H' Q) r := by
      intro r q
      cases r with
      | nx ρ h => exact fun ι' H' σ' e rh rx => let ⟨ι2, ρ2, h2, a, b, c, d⟩ := q ι' H' σ' e rh rx; ⟨ι2, ρ2, h2, ds, a, b, rs.ext d, c⟩
      | rt d h => exact q
      | bk ρ h => exact q
      | ct ρ h => exact q
      | exc c d ρ h => exact q
      | stuck => exact q
    exact conv g2
theorem pxgs_cons {e : Expr} {es : List Expr} {f : FG} {fs : FGs} (h1 : PXG X W e f) (h2 : PXGs X W es fs) (hs : (assignEach (e :: es) X.env).map (·.2) = assign e X.env :: (assignEach es X.env).map (·.2) := by rfl) : PXGs X W (e :: es) (fgsCons f fs) :=
  ⟨PGs.mono (pgs_cons h1.pg h2.pg hs) gs_cons_mono⟩
theorem pxgs_star {e : Expr} {es : List Expr} {f : FG} {fs : FGs} {p : Pos} (h1 : PXG X W e f) (h2 : PXGs X W es fs) (hs : (assignEach (.Starred e p :: es) X.env).map (·.2) = assign e X.env :: (assignEach es X.env).map (·.2) := by rfl) : PXGs X W (.Starred e p :: es) (fgsCons f fs) :=
  ⟨PGs.mono (pgs_star h1.pg h2.pg hs) gs_cons_mono⟩
/-- (a, b, ..) = a tuple or a list of that length -/
def gSeq (K : PySem.W.Frag) (n : Nat) (t : TGs) : TG := fun v σ H Q => ∃ a xs, v = .ref a ∧ (SqL K H a xs ∨ SqT K H a xs) ∧ xs.length = n ∧ t xs σ H Q
theorem pg_seq {es : List Expr} {k : Nat} {t : TGs} {n : Nat} (hc : X.calm = true) (h : PGs X es t) (hn : (assignEach es X.env).length = n) (hst : (assignEach es X.env).findIdx? (·.1) = none) : PG X (.Tuple es k pos) (gSeq X.K n t) := by
  refine ⟨fun pins s σ H v u Q I r hw => ?_⟩
  obtain ⟨a, xs, e1, hq, hl, hw⟩ := hw
  rcases hq with hq | hq
  · exact (pg_unl hc h hn hst).run pins s σ H v u Q I r ⟨a, xs, e1, hq, hl, hw⟩
  · exact (pg_tup hc h hn hst).run pins s σ H v u Q I r ⟨a, xs, e1, hq, hl, hw⟩
theorem pxg_tup {es : List Expr} {k n : Nat} {fs : FGs} (hc : X.calm = true) (h : PXGs X W es fs) (hn : (assignEach es X.env).length = n := by rfl) (hst : (assignEach es X.env).findIdx? (·.1) = none := by rfl) : PXG X W (.Tuple es k pos) (fgTup n fs) := by
  refine ⟨PG.mono (pg_seq hc h.pg hn hst) fun v σ H Q ⟨ι, ρ, h, d, hρ, hh, r, g⟩ => ?_⟩
  unfold fgTup at g
  split at g
  · rename_i xs e
    split at g
    · rename_i hl
      obtain ⟨a, vs, rfl, hs, rs⟩ := items_of hh r e
      exact ⟨a, vs, rfl, hs, by rw [rs.length]; exact hl, ι, ρ, h, xs, hρ, hh, rs, g⟩
    · exact g.elim
  · exact g.elim
theorem pxg_star {es : List Expr} {k n : Nat} {fs : FGs} (hc : X.calm = true) (h : PXGs X W es fs) (hn : (assignEach es X.env).length = n + 1 := by rfl) (hst : (assignEach es X.env).findIdx? (·.1) = some n := by rfl) : PXG X W (.Tuple es k pos) (fgStar n fs) := by
  refine ⟨PG.mono (pg_star hc h.pg hn hst) fun v σ H Q ⟨ι, ρ, h, d, hρ, hh, r, g⟩ => ?_⟩
  unfold fgStar at g
  split at g
  · rename_i xs e
    split at g
    · rename_i hl
      obtain ⟨a, vs, rfl, hs, rs⟩ := items_of hh r e
      refine ⟨a, vs, rfl, hs, by rw [rs.length]; exact hl, fun p hp => ?_⟩
      obtain ⟨e1, h1, hn⟩ := push_lst hh (rs.drop n) hp
      exact ⟨_, ρ, _, _, hρ.ext e1, h1, ((rs.take n).ext e1).append (.one (.ref hn)), g.ext e1⟩
    · exact g.elim
  · exact g.elim
theorem pxg_sub {o i : Expr} {fo fi : FE} (ho : PX X W o fo) (hi : PX X W i fi)
    (ha : ∀ v, assign (.Subscript o i pos) X.env v = (do
      let ov ← holding [v] (eval o X.env)
      let iv ← holding [v, ov] (eval i X.env)
      standAt pos
      holding [v, ov, iv] (setItem ov iv v)
      release [v, ov, iv] []) := by intro _; rfl) : PXG X W (.Subscript o i pos) (fgSub fo fi) := by
  refine ⟨PG.mono (pg_sub ho.pe hi.pe set_list ha) fun v σ H Q ⟨ι, ρ, h, d, hρ, hh, r, g⟩ => ?_⟩
  refine tE_seqS hρ hh g fun p ι1 H1 v1 e1 h1 r1 hρ1 q1 => tE_seqS hρ1 h1 q1 fun p2 ι2 H2 v2 e2 h2 r2 hρ2 q2 => ?_
  split at q2
  · rename_i h' es
    unfold setIt at es
    split at es
    · rename_i n k hp1 hp2
      split at es
      · rename_i ds hd
        split at es
        · rename_i j hj
          cases es
          have r1' := r1.ext e2
          rw [hp1] at r1'
          rw [hp2] at r2
          cases r1' with
          | ref hn =>
            cases r2
            obtain ⟨vs, hv, rs⟩ := h2.at_ _ _ _ hn hd
            obtain ⟨e3, h3⟩ := set_lst (vs := vs.set j v) (ds := ds.set j d) h2 hn (rs.set ((r.ext e1).ext e2) j)
            exact ⟨_, _, _, j, rfl, rfl, hv, by rw [rs.length]; exact hj, q2 ι2 _ _ e3 h3 (hρ2.ext e3)⟩
        · cases es
      · cases es
    · cases es
  · exact q2.elim
end
/-! ### small statements -/
def sAsg (f : FE) (g : FG) : FS := fun ρ h => (f ρ h).toS ρ fun p => (g p.1 ρ p.2).plain
def sSet (i : Nat) (f : FE) : FS := fun ρ h => (f ρ h).toS ρ fun p => .nx (ρ.set i (some p.1)) p.2
def sExpr (f : FE) : FS := fun ρ h => (f ρ h).toS ρ fun p => .nx ρ p.2
def sRet (f : FE) : FS := fun ρ h => (f ρ h).toS ρ fun p => .rt p.1 p.2
def sRetN : FS := fun _ h => .rt .non h
def sIf (t : FT) (a b : FS) : FS := fun ρ h => (t ρ h).toS ρ fun p => if p.1 then a ρ p.2 else b ρ p.2
def bNil : FS := fun ρ h => .nx ρ h
def bCons (a b : FS) : FS := fun ρ h => (a ρ h).seq b
theorem GoodS.plain {K : PySem.W.Frag} {W : WX} {ι : List Addr} {H : Hp} {D : Ends} {r : RS} (g : GoodS K W ι H D r.plain) : GoodS K W ι H (endsOf D.nx) r := by
  cases r with
  | nx ρ h => exact g
  | exc c d ρ h => exact g
  | _ => exact g.elim
theorem GoodS.seqS {K : PySem.W.Frag} {W : WX} {ι : List Addr} {H : Hp} {D : Ends} {r : RS} {k : FS} (g : GoodS K W ι H D (r.seq k)) : GoodS K W ι H { D with nx := tS K W k D } r := by
  cases r with
  | nx ρ h => exact fun ι' H' σ e rh rx => ⟨ι', ρ, h, rx, rh, g.ext e⟩
  | rt d h => exact g
  | bk ρ h => exact g
  | ct ρ h => exact g
  | exc c d ρ h => exact g
  | stuck => exact g
section
variable {X : Cx} {W : WX} {pos : Pos} {st : Stmt} {rest a b : List Stmt} {s s2 fa fb : FS} {e : Expr} {f : FE} {t : FT}
theorem pxb_nil : PXB X W [] bNil := ⟨PSs.mono pss_nil fun D σ H ⟨ι, ρ, h, hρ, hh, g⟩ => g ι H σ Ext.refl hh hρ⟩
theorem pxb_cons (h1 : PXS X W st s) (h2 : PXB X W rest s2) : PXB X W (st :: rest) (bCons s s2) :=
  ⟨PSs.mono (pss_cons h1.ps h2.ps) fun D σ H ⟨ι, ρ, h, hρ, hh, g⟩ => ⟨ι, ρ, h, hρ, hh, GoodS.seqS g⟩⟩
theorem pxb_one (h1 : PXS X W st s) : PXB X W [st] s := ⟨pss_one h1.ps⟩
theorem pxs_asg {tg : Expr} {g : FG} (he : PX X W e f) (hg : PXG X W tg g) (hs : swapsWithSole [tg] e pos.line X.env = pure false := by rfl) (hw : swappedStores [tg] e X.env = pure none := by rfl)
    (h1 : (assignEach [tg] X.env).map (·.2) = [assign tg X.env] := by rfl) : PXS X W (.Assign [tg] e pos) (sAsg f g) := by
  refine ⟨PS.mono (ps_asg he.pe hg.pg hs hw h1) fun D σ H ⟨ι, ρ, h, hρ, hh, g⟩ => tE_seqS hρ hh g fun p ι1 H1 v1 e1 h1 r1 hρ1 q1 => ?_⟩
  exact ⟨ι1, ρ, p.2, p.1, hρ1, h1, r1, q1.plain⟩
theorem pxs_set {x : Str} {pos' : Pos} (i : Nat) (hN : X.N.Nodup) (he : PX X W e f) (hi : X.N[i]? = some x := by rfl) (hx : Loc X.env.scope x := by first | exact .inl rfl | exact .inr rfl) (hs : swapsWith e (some (.Name x pos')) pos.line X.env = pure false := by rfl) (hf : X.fn x = true ∨ X.env.scope.names.lookup x = some .local := by first | exact .inl rfl | exact .inr rfl | assumption) :
    PXS X W (.Assign [.Name x pos'] e pos) (sSet i f) :=
  ⟨PS.mono (ps_set hN hi hx he.pe hs hf) fun D σ H ⟨ι, ρ, h, hρ, hh, g⟩ => tE_seqS hρ hh g fun p ι1 H1 v1 e1 h1 r1 hρ1 q1 => q1 ι1 H1 _ Ext.refl h1 (hρ1.set r1 i)⟩
theorem pxs_expr (he : PX X W e f) (hs : swapsWith e none pos.line X.env = pure false := by rfl) : PXS X W (.Expr e pos) (sExpr f) :=
  ⟨PS.mono (ps_expr he.pe hs) fun D σ H ⟨ι, ρ, h, hρ, hh, g⟩ => tE_seqS hρ hh g fun p ι1 H1 v1 e1 h1 r1 hρ1 q1 => q1 ι1 H1 σ Ext.refl h1 hρ1⟩
theorem pxs_ret (he : PX X W e f) : PXS X W (.Return (some e) pos) (sRet f) :=
  ⟨PS.mono (ps_ret he.pe) fun D σ H ⟨ι, ρ, h, hρ, hh, g⟩ => tE_seqS hρ hh g fun p ι1 H1 v1 e1 h1 r1 hρ1 q1 => q1 ι1 H1 v1 Ext.refl h1 r1⟩
theorem pxs_retN : PXS X W (.Return none pos) sRetN := ⟨PS.mono ps_retN fun D σ H ⟨ι, ρ, h, hρ, hh, g⟩ => g ι H _ Ext.refl hh .non⟩
theorem pxs_if {c : Expr} (hc : PXT X W c t) (ha : PXB X W a fa) (hb : PXB X W b fb) : PXS X W (.If c a b pos) (sIf t fa fb) := by
  refine ⟨PS.mono (ps_if hc.pt ha.ps hb.ps) fun D σ H ⟨ι, ρ, h, hρ, hh, g⟩ => tT_seqS hρ hh g fun p ι1 H1 e1 h1 hρ1 q1 => ?_⟩
  cases hp : p.1 with
  | true =>
    rw [hp] at q1
    exact iteT ⟨ι1, ρ, p.2, hρ1, h1, q1⟩
  | false =>
    rw [hp] at q1
    exact iteF ⟨ι1, ρ, p.2, hρ1, h1, q1⟩
/-- y = [..], one line, y a local -/
theorem pxs_setComp {y : Str} {py spos : Pos} {elt tg iter : Expr} {ifs : List Expr} {scope : Scope} {own : List (Str × Nat)} {fi : FI} {ct : CT} {tt : FT} {te : FE} (i : Nat) (hc : X.calm = true) (hN : X.N.Nodup) (hi : PXI X W tg iter fi) (ok : BlkOk X.N X.env.scope scope own)
    (hg : ∀ (s : Shared) (H : Hp) (C : Addr) (cl : List (Str × Addr)) (fp : List Addr), PG (X.blk s H scope (compEnvC scope cl C X.env) fp) tg (gOf X.K ct))
    (ht : ∀ (s : Shared) (H : Hp) (C : Addr) (cl : List (Str × Addr)) (fp : List Addr), PXTs (X.blk s H scope (compEnvC scope cl C X.env) fp) WN ifs tt)
    (he : ∀ (s : Shared) (H : Hp) (C : Addr) (cl : List (Str × Addr)) (fp : List Addr), PX (X.blk s H scope (compEnvC scope cl C X.env) fp) WN elt te)
    (hsw : swapsWith (.ListComp elt [⟨tg, iter, ifs, 0⟩] scope pos) (some (.Name y py)) spos.line X.env = pure true := by exact sw_true rfl rfl rfl (by decide +kernel))
    (hy : X.N[i]? = some y := by rfl) (hyl : X.env.scope.names.lookup y = some .local := by rfl) (hct : ∀ i ∈ ct.slots, i ∈ own.map (·.2) := by decide) (hs : ∀ x, foldedSetIterable iter X.env x = pure x := by intro _; rfl) :
    PXS X W (.Assign [.Name y py] (.ListComp elt [⟨tg, iter, ifs, 0⟩] scope pos) spos) (sSet i (eComp (own.map (·.2)) fi ct tt te)) :=
  ⟨PS.mono (ps_setLc hc hN hy hyl hsw hi.pi ok hg (fun s H C cl fp => (ht s H C cl fp).pt) (fun s H C cl fp => (he s H C cl fp).pe) hs) fun D σ H ⟨ι, ρ, h, hρ, hh, g⟩ =>
    comp_mono hct (tE_seqS hρ hh g fun p ι1 H1 v1 e1 h1 r1 hρ1 q1 => q1 ι1 H1 _ Ext.refl h1 (hρ1.set r1 i))⟩
end
/-! ### loops -/
def RS.loop (k : Env → Hy → RS) : RS → RS
  | .nx ρ h => k ρ h
  | .ct ρ h => k ρ h
  | .bk ρ h => .nx ρ h
  | .rt d h => .rt d h
  | .exc c d ρ h => .exc c d ρ h
  | .stuck => .stuck
def fLoop (ct : CT) (body : FS) (all : List D) (src : Option Nat) : List D → FS
  | [], ρ, h => if srcOk all src h then .nx ρ h else .stuck
  | x :: xs, ρ, h => if srcOk all src h then match ct.store x ρ with
      | some ρ' => (body ρ' h).loop (fLoop ct body all src xs)
      | none => .stuck
    else .stuck
def sFor (fi : FI) (ct : CT) (body : FS) : FS := fun ρ h => (fi ρ h).toS ρ fun p => fLoop ct body p.1.1 p.1.2 p.1.1 ρ p.2
def wLoop (t : FT) (body : FS) : Nat → FS
  | 0, _, _ => .stuck
  | n + 1, ρ, h => (t ρ h).toS ρ fun p => if p.1 then (body ρ p.2).loop (wLoop t body n) else .nx ρ p.2
def sWhile (n : Nat) (t : FT) (body : FS) : FS := wLoop t body n
theorem GoodS.loop {K : PySem.W.Frag} {W : WX} {ι : List Addr} {H : Hp} {D : Ends} {r : RS} {k : FS} (g : GoodS K W ι H D (r.loop k)) : GoodS K W ι H { D with nx := tS K W k D, ct := tS K W k D, bk := D.nx } r := by
  cases r with
  | nx ρ h => exact fun ι' H' σ e rh rx => ⟨ι', ρ, h, rx, rh, g.ext e⟩
  | ct ρ h => exact fun ι' H' σ e rh rx => ⟨ι', ρ, h, rx, rh, g.ext e⟩
  | rt d h => exact g
  | bk ρ h => exact g
  | exc c d ρ h => exact g
  | stuck => exact g
section
variable {X : Cx} {W : WX} {pos : Pos} {tg iter c : Expr} {body : List Stmt} {fi : FI} {ct : CT} {fb : FS} {t : FT}
theorem for_mono {K : PySem.W.Frag} {D : Ends} {σ : L2.St} {H : Hp} : tS K W (sFor fi ct fb) D σ H → tFor (tI K W fi) (gOf K ct) (tS K W fb) D σ H := by
  rintro ⟨ι, ρ, h, hρ, hh, g⟩
  refine ⟨ι, ρ, h, hρ, hh, (GoodS.toS hρ g).mono (fun p q ι1 H1 J e1 h1 jw => ?_) fun _ _ _ z => z⟩
  obtain ⟨⟨all, src⟩, h'⟩ := p
  simp only at q jw h1
  refine ⟨fun i m σ H => m = all.length - i ∧ i ≤ all.length ∧ ∃ ι ρ h, RepX K ι H σ ρ ∧ Rh K ι H h ∧ Ext ι1 H1 ι H ∧ GoodS K W ι H D (fLoop ct fb all src (all.drop i) ρ h), ⟨all.length, by simp, Nat.zero_le _, ι1, ρ, h', hρ.ext e1, h1, Ext.refl, q.ext e1⟩, ?_⟩
  rintro i m σ H ⟨rfl, hi, ι2, ρ2, h2, hρ2, r2, e2, g2⟩
  by_cases hlt : i < all.length
  · refine .inr ?_
    have hx : all[i]? = some all[i] := List.getElem?_eq_getElem hlt
    rw [List.drop_eq_getElem_cons hlt] at g2
    unfold fLoop at g2
    split at g2
    · rename_i hs
      refine ⟨jw.go i _ ι2 H h2 hx e2 r2 hs, fun σ' H' => ∃ ι ρ h, RepX K ι H' σ' ρ ∧ Rh K ι H' h ∧ Ext ι1 H1 ι H' ∧ GoodS K W ι H' D (fLoop ct fb all src (all.drop (i + 1)) ρ h), fun σ' H' n => ⟨all.length - (i + 1), by omega, rfl, hlt, n⟩, fun x H' y => ?_⟩
      obtain ⟨e3, r3, rx⟩ := jw.yld i _ ι2 H h2 x H' hx e2 r2 hs y
      cases hst : ct.store all[i] ρ2 with
      | none => rw [hst] at g2; exact g2.elim
      | some ρ' =>
        rw [hst] at g2
        simp only at g2
        refine CT.run hst rx (hρ2.ext e3) fun σ' hσ' hw => ⟨ι2, ρ', h2, hσ', r3, ?_⟩
        have g3 := g2.ext e3
        have conv : ∀ {r : RS}, GoodS K W ι2 H' D (r.loop (fLoop ct fb all src (all.drop (i + 1)))) → GoodS K W ι2 H' { D with nx := (fun σ' H' => ∃ ι ρ h, RepX K ι H' σ' ρ ∧ Rh K ι H' h ∧ Ext ι1 H1 ι H' ∧ GoodS K W ι H' D (fLoop ct fb all src (all.drop (i + 1)) ρ h)), ct := (fun σ' H' => ∃ ι ρ h, RepX K ι H' σ' ρ ∧ Rh K ι H' h ∧ Ext ι1 H1 ι H' ∧ GoodS K W ι H' D (fLoop ct fb all src (all.drop (i + 1)) ρ h)), bk := D.nx } r := by
          intro r g
          cases r with
          | nx ρ h => exact fun ι' H2 σ e rh rx => ⟨ι', ρ, h, rx, rh, (e2.trans e3).trans e, g.ext e⟩
          | ct ρ h => exact fun ι' H2 σ e rh rx => ⟨ι', ρ, h, rx, rh, (e2.trans e3).trans e, g.ext e⟩
          | rt d h => exact g
          | bk ρ h => exact g
          | exc c d ρ h => exact g
          | stuck => exact g
        exact conv g3
    · exact g2.elim
  · have hi2 : i = all.length := by omega
    subst hi2
    rw [List.drop_length] at g2
    unfold fLoop at g2
    split at g2
    · rename_i hs
      exact .inl ⟨jw.stop ι2 H h2 e2 r2 hs, g2 ι2 H σ Ext.refl r2 hρ2⟩
    · exact g2.elim
theorem pxs_for (hp : PassesOwn (model X.prog X.w) X.A X.env X.xe) (hc : X.calm = true) (hi : PXI X W tg iter fi) (hg : PG X tg (gOf X.K ct)) (hb : PXB X W body fb)
    (hs : ∀ x, foldedSetIterable iter X.env x = pure x := by intro _; rfl) : PXS X W (.For tg iter body [] pos) (sFor fi ct fb) :=
  ⟨PS.mono (ps_for hp hc hi.pi hg hb.ps hs) fun _ _ _ => for_mono⟩
theorem pxs_while (n : Nat) (hp : PassesOwn (model X.prog X.w) X.A X.env X.xe) (hc : PXT X W c t) (hb : PXB X W body fb) : PXS X W (.While c body [] pos) (sWhile n t fb) := by
  refine ⟨PS.mono (ps_while hp hc.pt hb.ps) fun D σ H ⟨ι, ρ, h, hρ, hh, g⟩ => ?_⟩
  refine ⟨fun m σ H => ∃ ι ρ h, RepX X.K ι H σ ρ ∧ Rh X.K ι H h ∧ GoodS X.K W ι H D (wLoop t fb m ρ h), ⟨n, ι, ρ, h, hρ, hh, g⟩, ?_⟩
  rintro m σ H ⟨ι, ρ, h, hρ, hh, g⟩
  cases m with
  | zero => exact g.elim
  | succ m =>
    refine tT_seqS hρ hh g fun p ι1 H1 e1 h1 hρ1 q1 => ?_
    cases hp : p.1 with
    | true =>
      rw [hp] at q1
      rw [if_pos rfl]
      exact ⟨tS X.K W (wLoop t fb m) D, fun σ' H' n => ⟨m, Nat.lt_succ_self _, n⟩, ι1, ρ, p.2, hρ1, h1, GoodS.loop q1⟩
    | false =>
      rw [hp] at q1
      rw [if_neg Bool.false_ne_true]
      exact q1 ι1 H1 σ Ext.refl h1 hρ1
end
end Px
namespace Px
open PySem PySem.Spec PyProof.Rows L2
/-! ## what a call leaves behind is swept -/
abbrev FD := List D → Hy → R (D × Hy)
theorem Clean.lt {K : PySem.W.Frag} {ι : List Addr} {H : Hp} {h h1 : Hy} (r : Rh K ι H h) (c : Clean h h1) {i : Nat} {o : Ob} (hi : i < h.length) (e : h1[i]? = some o) : o.lt h.length = true := by
  obtain ⟨u, e3, z⟩ := c i hi
  rw [e] at e3
  cases e3
  rcases z with z | z
  · have hl : i < ι.length := by rw [r.len]; exact hi
    have := (r.at_ i ι[i] o (List.getElem?_eq_getElem hl) z).lt
    rw [r.len] at this
    exact this
  · exact z
def gc (h : Hy) (p : D × Hy) : D × Hy :=
  if Clean h p.2 then
    if p.1.lt h.length = true then (p.1, p.2.take h.length)
    else match p.1 with
      | .ref m => match p.2[m]? with
        | some o => if o.lt h.length = true then (.ref h.length, p.2.take h.length ++ [o]) else p
        | none => p
      | _ => p
  else p
theorem VW.gc {K : PySem.W.Frag} {ι : List Addr} {H : Hp} {Q : VK} {h : Hy} {p : D × Hy} (r : Rh K ι H h) (q : VW K ι H Q (Px.gc h p)) : VW K ι H Q p := by
  intro ι' H' v e r1 rd
  unfold Px.gc at q
  split at q
  · rename_i c
    split at q
    · rename_i hl
      have lw := Rh.low r e r1 c
      obtain ⟨rest, rfl⟩ := id e.pre
      exact q ι H' v e.same lw.1 (rd.low (fun n hn => List.getElem?_append_left (by rw [r.len]; exact hn)) hl)
    · rename_i hl
      split at q
      · rename_i m hm
        split at q
        · rename_i o ho
          split at q
          · rename_i hol
            rw [hm] at rd hl
            cases rd with
            | @ref a _ ha =>
              have hm2 : h.length ≤ m := by
                have : ¬ m < h.length := by simpa [D.lt] using hl
                omega
              obtain ⟨rest, rfl⟩ := id e.pre
              have hlow : ∀ n, n < h.length → (ι ++ [a])[n]? = (ι ++ rest)[n]? := fun n hn => by
                rw [List.getElem?_append_left (by rw [r.len]; exact hn), List.getElem?_append_left (by rw [r.len]; exact hn)]
              have hlow' : ∀ n, n < h.length → (ι ++ rest)[n]? = (ι ++ [a])[n]? := fun n hn => (hlow n hn).symm
              have ham : a ∈ rest := by
                rw [List.getElem?_append_right (by rw [r.len]; exact hm2)] at ha
                exact List.mem_of_getElem? ha
              have nd := List.nodup_append.mp r1.nd
              have han : a ∉ ι := fun z => nd.2.2 a z a ham rfl
              have hlen : h.length ≤ p.2.length := by
                have := (List.getElem?_eq_some_iff.mp ho).1
                omega
              have E2 : Ext ι H (ι ++ [a]) H' := ⟨List.prefix_append _ _, e.tups, e.frzs, e.keep, fun b z n => by
                rcases List.mem_append.mp z with z | z
                · exact absurd z n
                · have : b = a := by simpa using z
                  subst this
                  exact e.new b (List.mem_append_right _ ham) n⟩
              refine q (ι ++ [a]) H' (.ref a) E2 ⟨by simp [r.len, Nat.min_eq_left hlen], ?_, fun i b u e1 e2 => ?_⟩ (.ref (by rw [← r.len]; simp))
              · refine List.nodup_append.mpr ⟨r.nd, by simp, fun x hx y hy => ?_⟩
                have : y = a := by simpa using hy
                rw [this]
                rintro rfl
                exact han hx
              · by_cases hi : i < h.length
                · rw [List.getElem?_append_left (by rw [List.length_take]; omega), List.getElem?_take_of_lt hi] at e2
                  have hu := Clean.lt r c hi e2
                  rw [hlow i hi] at e1
                  exact (r1.at_ i b u e1 e2).low (k := h.length) hlow' hu
                · have hb := (List.getElem?_eq_some_iff.mp e1).1
                  have hi2 : i = h.length := by simp [r.len] at hb; omega
                  subst hi2
                  rw [List.getElem?_append_right (by rw [List.length_take]; omega)] at e2
                  have : (p.2.take h.length).length = h.length := by rw [List.length_take]; omega
                  rw [this, Nat.sub_self] at e2
                  simp at e2
                  subst e2
                  rw [← r.len, List.getElem?_append_right (Nat.le_refl _)] at e1
                  simp at e1
                  subst e1
                  exact (r1.at_ m a o ha ho).low (k := h.length) hlow' hol
          · exact q ι' H' v e r1 rd
        · exact q ι' H' v e r1 rd
      · exact q ι' H' v e r1 rd
  · exact q ι' H' v e r1 rd
def oLt (k : Nat) : Option D → Bool
  | some x => x.lt k
  | none => true
def gcX (h : Hy) (d : Option D) (h1 : Hy) : Hy :=
  if Clean h h1 ∧ oLt h.length d = true then h1.take h.length else h1
theorem XW.gc {K : PySem.W.Frag} {W : XK} {ι : List Addr} {σ : L2.St} {H : Hp} {h h1 : Hy} {c : String} {d : Option D} (r : Rh K ι H h) (q : XW K (fun c d _ H => W c d H) ι σ H c d (gcX h d h1)) :
    ∀ ι' H' σ', Ext ι H ι' H' → Rh K ι' H' h1 → xwish K (fun c d _ H => W c d H) ι' σ' H' c d := by
  intro ι' H' σ' e r1
  unfold gcX at q
  split at q
  · rename_i c
    have lw := Rh.low r e r1 c.1
    have q := q ι H' e.same lw.1
    cases d with
    | none => exact q
    | some x =>
      intro dx v hv rd
      obtain ⟨rest, rfl⟩ := id e.pre
      exact q dx v hv (rd.low (fun n hn => List.getElem?_append_left (by rw [r.len]; exact hn)) c.2)
  · have q := q ι' H' e r1
    cases d with
    | none => exact q
    | some x => exact q
/-! ## what a def promises -/
abbrev WK (E : XK) : WX := fun c d _ H => E c d H
def spF (K : PySem.W.Frag) (n : Nat) (f : FD) : Sp := fun vs H Q E => vs.length = n ∧ ∃ ι ds h, Reps K ι H vs ds ∧ Rh K ι H h ∧ Good (f ds h) (VW K ι H Q) (XW K (WK E) ι [] H)
def startE (N : Nat) (ds : List D) : Env := ds.map some ++ List.replicate (N - ds.length) none
def RS.out (h0 : Hy) : RS → R (D × Hy)
  | .nx _ h => .ok (gc h0 (.non, h))
  | .rt d h => .ok (gc h0 (d, h))
  | .exc c d _ h => .exc c d (gcX h0 d h)
  | _ => .stuck
mutual
/-- renumbered behind k objects -/
def D.sh (k : Nat) : D → D
  | .tup xs => .tup (D.shs k xs)
  | .fl xs => .fl (D.shs k xs)
  | .ref n => .ref (k + n)
  | .non => .non
  | .bl b => .bl b
  | .int i => .int i
  | .str s => .str s
  | .fn x => .fn x
def D.shs (k : Nat) : List D → List D
  | [] => []
  | x :: xs => D.sh k x :: D.shs k xs
end
def Ob.sh (k : Nat) : Ob → Ob
  | .lst xs => .lst (D.shs k xs)
  | .dic ks => .dic (ks.map fun q => (q.1, q.2.sh k))
  | .ins c fs => .ins c (fs.map fun q => (q.1, q.2.sh k))
def lift (h : Hy) : R (D × Hy) → R (D × Hy)
  | .ok p => .ok (p.1.sh h.length, h ++ p.2.map (Ob.sh h.length))
  | .exc c d h1 => .exc c (d.map (D.sh h.length)) (h ++ h1.map (Ob.sh h.length))
  | .stuck => .stuck
section
variable {K : PySem.W.Frag} {ι ι' : List Addr} {H : Hp} {k : Nat}
mutual
theorem Rep.sh (hk : ι.length = k) : ∀ {v : V} {d : D}, Rep K ι' H v d → Rep K (ι ++ ι') H v (d.sh k)
  | _, _, .non => .non
  | _, _, .bl b => .bl b
  | _, _, .int i => .int i
  | _, _, .str s => .str s
  | _, _, .tup h r => .tup h (Reps.sh hk r)
  | _, _, .fl h r => .fl h (Reps.sh hk r)
  | _, _, .ref (n := n) h => .ref (by rw [List.getElem?_append_right (by omega), hk, Nat.add_sub_cancel_left]; exact h)
  | _, _, .fn x => .fn x
theorem Reps.sh (hk : ι.length = k) : ∀ {vs : List V} {ds : List D}, Reps K ι' H vs ds → Reps K (ι ++ ι') H vs (D.shs k ds)
  | _, _, .nil => .nil
  | _, _, .cons h r => .cons (Rep.sh hk h) (Reps.sh hk r)
end
theorem RepF.sh (hk : ι.length = k) : ∀ {fv : List (Str × V)} {fs : List (String × D)}, RepF K ι' H fv fs → RepF K (ι ++ ι') H fv (fs.map fun q => (q.1, q.2.sh k))
  | _, _, .nil => .nil
  | _, _, .cons h r => .cons (h.sh hk) (RepF.sh hk r)
theorem RepK.sh (hk : ι.length = k) : ∀ {kv : List (Key × V)} {ks : List (D × D)}, RepK K ι' H kv ks → RepK K (ι ++ ι') H kv (ks.map fun q => (q.1, q.2.sh k))
  | _, _, .nil => .nil
  | _, _, .int h r => .int (h.sh hk) (RepK.sh hk r)
  | _, _, .str h r => .str (h.sh hk) (RepK.sh hk r)
theorem RepO.sh (hk : ι.length = k) {a : Addr} : ∀ {o : Ob}, RepO K ι' H a o → RepO K (ι ++ ι') H a (o.sh k)
  | .lst _, ⟨vs, h, r⟩ => ⟨vs, h, r.sh hk⟩
  | .dic _, ⟨kv, h, r⟩ => ⟨kv, h, r.sh hk⟩
  | .ins _ _, ⟨dx, fv, h, r⟩ => ⟨dx, fv, h, r.sh hk⟩
end
/-- what was done beside a heap may be done behind it -/
theorem Rh.beside {K : PySem.W.Frag} {ι ι' : List Addr} {H H' : Hp} {h h1 : Hy} (r : Rh K ι H h) (e : Ext [] H ι' H') (r1 : Rh K ι' H' h1) : Ext ι H (ι ++ ι') H' ∧ Rh K (ι ++ ι') H' (h ++ h1.map (Ob.sh h.length)) := by
  have E : Ext ι H (ι ++ ι') H' := ⟨List.prefix_append _ _, e.tups, e.frzs, fun a o ha _ => e.keep a o ha (by simp), fun a ha n => by
    rcases List.mem_append.mp ha with z | z
    · exact absurd z n
    · exact e.new a z (by simp)⟩
  refine ⟨E, by simp [r.len, r1.len], List.nodup_append.mpr ⟨r.nd, r1.nd, fun a ha b hb => ?_⟩, fun i a o e1 e2 => ?_⟩
  · rintro rfl
    obtain ⟨o, q, _⟩ := r.some_of ha
    have := e.new a hb (by simp)
    rw [q] at this
    cases this
  · by_cases hi : i < h.length
    · rw [List.getElem?_append_left (by rw [r.len]; exact hi)] at e1
      rw [List.getElem?_append_left hi] at e2
      exact (r.at_ i a o e1 e2).ext E fun w q => e.keep a w q (by simp)
    · rw [List.getElem?_append_right (by rw [r.len]; omega)] at e1
      rw [List.getElem?_append_right (by omega), List.getElem?_map] at e2
      cases q : h1[i - h.length]? with
      | none => rw [q] at e2; cases e2
      | some u =>
        rw [q] at e2
        cases e2
        rw [r.len] at e1
        exact (r1.at_ _ a u e1 q).sh r.len
theorem VW.lift {K : PySem.W.Frag} {ι : List Addr} {H : Hp} {Q : VK} {h : Hy} {p : D × Hy} (r : Rh K ι H h) (q : VW K ι H Q (p.1.sh h.length, h ++ p.2.map (Ob.sh h.length))) : VW K [] H Q p := by
  intro ι' H' v e r1 rd
  obtain ⟨E, R⟩ := r.beside e r1
  exact q (ι ++ ι') H' v E R (rd.sh r.len)
theorem XW.lift {K : PySem.W.Frag} {E : XK} {ι : List Addr} {H : Hp} {h h1 : Hy} {c : String} {d : Option D} (r : Rh K ι H h) (q : XW K (fun c d _ H => E c d H) ι [] H c (d.map (D.sh h.length)) (h ++ h1.map (Ob.sh h.length))) : XW K (fun c d _ H => E c d H) [] [] H c d h1 := by
  intro ι' H' e r1
  obtain ⟨E, R⟩ := r.beside e r1
  have q := q (ι ++ ι') H' E R
  cases d with
  | none => exact q
  | some x => exact fun dx v hv rd => q dx v hv (rd.sh r.len)
theorem Good.lift {K : PySem.W.Frag} {E : XK} {ι : List Addr} {H : Hp} {Q : VK} {h : Hy} {r : R (D × Hy)} (hh : Rh K ι H h) (g : Good (Px.lift h r) (VW K ι H Q) (XW K (fun c d _ H => E c d H) ι [] H)) : Good r (VW K [] H Q) (XW K (fun c d _ H => E c d H) [] [] H) := by
  cases r with
  | ok p => exact VW.lift hh g
  | exc c d h1 => exact XW.lift hh g
  | stuck => exact g.elim
/-- a def's body on an empty heap -/
def bodyD (N : Nat) (b : FS) (ds : List D) : R (D × Hy) := (b (startE N ds) []).out []
/-- a def of n parameters and N names: what points to no object is looked at by itself -/
def defD (n N : Nat) (b : FS) : FD := fun ds h => if ds.length = n then (if D.ltAll 0 ds = true then lift h (bodyD N b ds) else (b (startE N ds) h).out h) else .stuck
theorem defD_len {n N : Nat} {b : FS} : ∀ ds h, ds.length ≠ n → defD n N b ds h = .stuck := fun ds h e => if_neg e
theorem GoodS.out {K : PySem.W.Frag} {E : XK} {Q : VK} {ι : List Addr} {H : Hp} {h : Hy} {r : RS} (hh : Rh K ι H h) (g : Good (r.out h) (VW K ι H Q) (XW K (WK E) ι [] H)) :
    GoodS K (WK E) ι H { nx := fun _ H' => Q .non H', rt := Q } r := by
  cases r with
  | nx ρ h1 => exact fun ι' H' σ e r1 _ => VW.gc hh g ι' H' .non e r1 .non
  | rt d h1 => exact VW.gc hh g
  | bk ρ h1 => exact g.elim
  | ct ρ h1 => exact g.elim
  | exc c d ρ h1 => exact fun ι' H' σ e r1 _ => XW.gc hh g ι' H' σ e r1
  | stuck => exact g.elim
section
variable {P : Program} {w : World} {K : PySem.W.Frag} {mg : Str → Option Value} {base : Heap} {x qual : Str} {params : Arguments} {body : List Stmt} {scope : Scope} {dvs : List V} {kws : List (Str × V)} {f : Addr} {fd : FuncData}
/-- a def's body is walked in a context of its own -/
abbrev bodyX (P : Program) (w : World) (K : PySem.W.Frag) (mg : Str → Option Value) (base : Heap) (N : List Str) (qual : Str) (scope : Scope) (f : Addr) (cdv : Value) (A : Around) (outer : List PySem.Env) (s : Shared) (H : Hp) (E : XK) : Cx :=
  cxOf (L2.CX P w) P w K mg base N qual scope f cdv A outer s H E
theorem takesX {N : List Str} {cdv : Value} {A : Around} {outer : List PySem.Env} {s : Shared} {H : Hp} {E : XK} : Takes (bodyX P w K mg base N qual scope f cdv A outer s H E) (WK E) :=
  takes_of (X := bodyX P w K mg base N qual scope f cdv A outer s H E) rfl rfl rfl rfl
theorem passesX {N : List Str} {cdv : Value} {A : Around} {outer : List PySem.Env} {s : Shared} {H : Hp} {E : XK} : PassesOwn (model P w) (bodyX P w K mg base N qual scope f cdv A outer s H E).A (bodyX P w K mg base N qual scope f cdv A outer s H E).env (bodyX P w K mg base N qual scope f cdv A outer s H E).xe :=
  passes_of (X := bodyX P w K mg base N qual scope f cdv A outer s H E) (K := fun e s'' => L2.CX P w outer H s E e s'') rfl
/-- what a body's proof may lean on -/
structure Up (k : Nat) (X : Cx) (W : WX) : Prop where
  gd : X.A.guards = some []
  tk : Takes X W
  po : PassesOwn (model X.prog X.w) X.A X.env X.xe
  rm : Room k X.A
  calm : X.calm = true
/-- a def's promise where nothing is being displayed -/
structure FnG (P : Program) (w : World) (K : PySem.W.Frag) (mg : Str → Option Value) (base : Heap) (k : Nat) (f : Addr) (fd : FuncData) (ps : List Str) (sp : Sp) : Prop where
  args : ∀ vs H Q E, sp vs H Q E → vs.length = ps.length
  go : ∀ (A : Around) (outer : List PySem.Env) (s : Shared) (H : Hp) (gs : Args) (us : List Value) (vs : List V) (Q : VK) (E : XK), Room k A → A.guards = some [] → Env0 P w K mg base A outer s H →
    BindsTo s fd gs (ps.zip us) → Vals vs us → sp vs H Q E → codeAny (model P w) A (.call (.ref f) gs) (CR (L2.CX P w) outer P w H s Q E) s
theorem FnG.up {P : Program} {w : World} {K : PySem.W.Frag} {mg : Str → Option Value} {base : Heap} {j k : Nat} {f : Addr} {fd : FuncData} {ps : List Str} {sp : Sp} (F : FnG P w K mg base j f fd ps sp) (h : j ≤ k) : FnG P w K mg base k f fd ps sp :=
  ⟨F.args, fun A outer s H gs us vs Q E hr => F.go A outer s H gs us vs Q E (hr.mono h)⟩
theorem fnD_ok {N ps : List Str} {k : Nat} {b : FS} (F : FunD K x qual params body scope dvs kws f fd) (S : FnScope N ps scope)
    (hb : ∀ (cdv : Value) (A : Around) (outer : List PySem.Env) (s : Shared) (H : Hp) (E : XK), Up k (bodyX P w K mg base N qual scope f cdv A outer s H E) (WK E) → PXB (bodyX P w K mg base N qual scope f cdv A outer s H E) (WK E) body b) :
    FnG P w K mg base (k + 1) f fd ps (spF K ps.length (defD ps.length N.length b)) := by
  obtain ⟨oc, od, dV, kV, doc, pm, an, cdv, ct, osl, rfl, look, code, _, _⟩ := F.ex
  refine ⟨fun vs H Q E h => h.1, fun A outer s H gs us vs Q E room gd env bind rel prom => ?_⟩
  have hlen : vs.length = ps.length := prom.1
  have inK : K.In s.heap := env.mod.kin.keeps fun c u z => (env.bs c u z).1
  have free : s.heap.NoLimit := env.mod.nolimit.keeps fun c u z => (env.bs c u z).1
  refine codeAny_call_function room.depth (inK _ _ look) rfl S.co S.gen rfl (PySem.W.codeRec_of inK code) (bind _ _ _ _ ?_)
  refine wpAny_newFunctionEnv_cells S.kind ?_ fun en hen s1 hx => ?_
  · rintro ⟨n, v⟩ hy
    rcases S.par n (List.of_mem_zip hy).1 with z | z
    · exact Or.inl z
    · exact Or.inr ⟨z, PySem.W.cellsFrom_some _ _ _ (Or.inl z)⟩
  · subst hen
    refine ⟨free.keeps hx.toInCall.keep, codeAny_func ?_⟩
    have inv : Inv (bodyX P w K mg base N qual scope f cdv A outer s H E) [] (L2.start N vs) H s1 := inv_start S room.hd env hlen rel hx
    have walk := (hb cdv A outer s H E ⟨gd, takesX, passesX, room.deeper _, rfl⟩).ps
    obtain ⟨_, ι, ds, h, rs, hh, good⟩ := prom
    have len2 : ds.length = ps.length := rs.length.symm.trans hlen
    unfold defD at good
    rw [if_pos len2] at good
    have want : tS K (WK E) b { nx := fun _ H' => Q .non H', rt := Q } (L2.start N vs) H := by
      split at good
      · rename_i pure
        have rs0 : Reps K [] H vs ds := rs.low (k := 0) (fun n hn => absurd hn (Nat.not_lt_zero _)) pure
        have h0 : Rh K [] H [] := ⟨rfl, List.nodup_nil, fun i a o e => by simp at e⟩
        exact ⟨[], startE N.length ds, [], RepX.start rs0, h0, GoodS.out h0 (Good.lift hh good)⟩
      · exact ⟨ι, startE N.length ds, h, RepX.start rs, hh, GoodS.out hh good⟩
    refine wpAny_mono (walk.run [] s1 (L2.start N vs) H _ inv want) (fun fl s2 z => ?_) fun _ _ z => z
    cases fl with
    | ret u =>
      obtain ⟨v, σ2, H2, I2, rv, q⟩ := z
      exact ⟨v, H2, I2.os, I2.bare, I2.base, I2.hok, rv, q⟩
    | next =>
      obtain ⟨σ2, H2, I2, q⟩ := z
      exact ⟨V.non, H2, I2.os, I2.bare, I2.base, I2.hok, rfl, q⟩
    | brk => exact z.choose_spec.choose_spec.2.elim
    | cont => exact z.choose_spec.choose_spec.2.elim
end
section
variable {X : Cx} {W : WX} {k n : Nat} {fa : Addr} {fd : FuncData} {ps : List Str} {f : FD} {x : Str} {p pos : Pos} {e : Expr} {es : List Expr} {ta : FA}
/-- the callee runs -/
theorem run_g {us : List Value} {vs : List V} {σ : L2.St} {H : Hp} {Q : VK} {s : Shared} {pins : List (Addr × Obj)} {sp : Sp} (F : FnG X.prog X.w X.K X.mg X.base k fa fd ps sp) (tk : Takes X W) (hr : Room k X.A) (gd : X.A.guards = some []) (hb : Binds X.K fd ps [])
    (I : Inv X pins σ H s) (r : Vals vs us) (h : sp vs H Q fun c d H => W c d σ H) : wpAny (model X.prog X.w) X.A (PySem.call (.ref fa) us) (EP X pins σ Q) X.xe s := by
  have many : us.length = ps.length := r.length.symm.trans (F.args _ _ _ _ h)
  have bd := hb s us I.kIn (by simpa using many)
  simp only [List.append_nil] at bd
  refine wpAny_call (codeAny_mono (F.go X.A X.stack s H ⟨us, []⟩ us vs Q _ hr gd I.env0 bd r h) fun out s2 z => ?_)
  match out, z with
  | .error e, z => exact passAt tk σ pins H s e s2 I z
  | .ok (.ret u), z => exact I.after z
  | .ok .next, z => exact z.elim
  | .ok .brk, z => exact z.elim
  | .ok .cont, z => exact z.elim
theorem px_call (F : FnG X.prog X.w X.K X.mg X.base k fa fd ps (spF X.K n f)) (tk : Takes X W) (hr : Room k X.A) (gd : X.A.guards = some []) (hm : X.mg x = some (.ref fa)) (hk : PySem.W.keepIn X.K (.ref fa) = true) (hb : Binds X.K fd ps []) (hl : ∀ ds h, ds.length ≠ n → f ds h = .stuck) (ha : PXA X W (e :: es) ta)
    (hg : Gl X x := by rfl) (hdb : (x == ("__debug__" : Str)) = false := by decide) (he : starEach (e :: es) X.env = (false, eval e X.env) :: starEach es X.env := by rfl) (hpl : (backTo pos (starEach es X.env)).any (·.1) = false := by rfl) :
    PX X W (.Call (.Name x p) (e :: es) [] pos) (eCall f ta) := by
  refine ⟨⟨fun pins s σ H Q I hq => ?_⟩⟩
  have hq : tE X.K W (eCall f ta) σ H Q := hq
  refine wpAny_Call_Name_kw (ld_glob I hg hm ?_ hdb)
  have args : tA X.K W ta σ H fun vs H1 => spF X.K n f vs H1 Q fun c d H => W c d σ H := by
    obtain ⟨ι, ρ, h, hρ, hh, q⟩ := hq
    refine tA_seqV hρ hh q fun p ι1 H1 vs e1 h1 r1 hρ1 q1 => ⟨?_, ι1, p.1, p.2, r1, h1, q1.mono (fun _ z => z) fun c d h z => ?_⟩
    · rw [r1.length]
      by_cases hn : p.1.length = n
      · exact hn
      · rw [hl _ _ hn] at q1
        exact q1.elim
    · intro ι2 H2 e2 r2
      have z := z ι2 H2 e2 r2
      cases d with
      | none => exact z
      | some u => exact z
  exact PySem.W.callWith_K (h₀ := X.base) I.ok.mod.kin hk (thn (ha.pa.run pos pins s σ H _ I args) fun us s1 ⟨vs, H1, I1, r, q⟩ => ⟨I1.kIn, run_g F tk hr gd hb I1 r q⟩) he hpl
end
end Px
namespace Px
open PySem PySem.Spec PyProof.Rows L2
/-! ## the module's names -/
mutual
def repB (K : PySem.W.Frag) : Value → D → Bool
  | .none, .non => true
  | .bool b, .bl c => b == c
  | .int i _, .int j => decide (i = j)
  | .str x _, .str s => decide (x = toS s)
  | .ref a, .tup ds => (match K.lookup a with
    | some ⟨.type c, _, .seq its _, _⟩ => decide (c = "tuple") && (decide (its.size ≤ sizeLine) && repAll K its.toList ds)
    | _ => false)
  | .ref a, .fn x => decide (a = He.ga K (x : Str))
  | _, _ => false
def repAll (K : PySem.W.Frag) : List Value → List D → Bool
  | [], [] => true
  | v :: vs, d :: ds => repB K v d && repAll K vs ds
  | _, _ => false
end
mutual
theorem repB_ok {K : PySem.W.Frag} : ∀ {u : Value} {d : D}, repB K u d = true → ∃ v, RelV v u ∧ ∀ ι H, Rep K ι H v d
  | u, .non, h => by
    unfold repB at h
    split at h <;> first | exact ⟨.non, rfl, fun _ _ => .non⟩ | (rename_i e; cases e) | cases h
  | u, .bl c, h => by
    unfold repB at h
    split at h <;> first | (rename_i e; cases e; cases beq_iff_eq.mp h; exact ⟨.bl _, rfl, fun _ _ => .bl _⟩) | (rename_i e; cases e) | cases h
  | u, .int j, h => by
    unfold repB at h
    split at h <;> first | (rename_i e; cases e; cases of_decide_eq_true h; exact ⟨.int _, ⟨_, rfl⟩, fun _ _ => .int _⟩) | (rename_i e; cases e) | cases h
  | u, .str s, h => by
    unfold repB at h
    split at h <;> first | (rename_i e; cases e; have e := of_decide_eq_true h; subst e; exact ⟨.str _, ⟨_, rfl⟩, fun _ _ => .str _⟩) | (rename_i e; cases e) | cases h
  | u, .tup ds, h => by
    unfold repB at h
    split at h <;> first | (rename_i e; cases e; done) | skip
    · rename_i a ds' e
      cases e
      split at h
      · rename_i c od its n osl q
        simp only [Bool.and_eq_true, decide_eq_true_eq] at h
        obtain ⟨h1, h2, h3⟩ := h
        subst h1
        obtain ⟨vs, r1, r2⟩ := repAll_ok h3
        exact ⟨.ref a, rfl, fun ι H => .tup (.inr ⟨_, its, n, q, rfl, rfl, h2, r1⟩) (r2 ι H)⟩
      · cases h
    all_goals cases h
  | u, .fl ds, h => by
    unfold repB at h
    split at h <;> first | (rename_i e; cases e; done) | cases h
  | u, .ref n, h => by
    unfold repB at h
    split at h <;> first | (rename_i e; cases e; done) | cases h
  | u, .fn x, h => by
    unfold repB at h
    split at h <;> first | (rename_i e; cases e; cases of_decide_eq_true h; exact ⟨.ref _, rfl, fun _ _ => .fn _⟩) | (rename_i e; cases e) | cases h
theorem repAll_ok {K : PySem.W.Frag} : ∀ {us : List Value} {ds : List D}, repAll K us ds = true → ∃ vs, Vals vs us ∧ ∀ ι H, Reps K ι H vs ds
  | [], [], _ => ⟨[], .nil, fun _ _ => .nil⟩
  | u :: us, d :: ds, h => by
    unfold repAll at h
    simp only [Bool.and_eq_true] at h
    obtain ⟨v, r1, r2⟩ := repB_ok h.1
    obtain ⟨vs, q1, q2⟩ := repAll_ok h.2
    exact ⟨v :: vs, .cons r1 q1, fun ι H => .cons (r2 ι H) (q2 ι H)⟩
  | [], _ :: _, h => by unfold repAll at h; cases h
  | _ :: _, [], h => by unfold repAll at h; cases h
end
/-- the module's name x stands for d -/
def glB (K : PySem.W.Frag) (q : Str × D) : Bool := match PySem.W.nsIn K mainGlobals q.1 with
  | some (some u) => repB K u q.2
  | _ => false
def Con (K : PySem.W.Frag) (mg : Str → Option Value) (x : Str) (d : D) : Prop := ∃ v u, mg x = some u ∧ RelV v u ∧ ∀ ι H, Rep K ι H v d
theorem glB_ok {K : PySem.W.Frag} {h : Heap} {mg : Str → Option Value} (X : K.In h) (G : h.Ns mainGlobals mg) {x : Str} {d : D} (c : glB K (x, d) = true) : Con K mg x d := by
  unfold glB at c
  split at c
  · rename_i u q
    obtain ⟨v, r1, r2⟩ := repB_ok c
    exact ⟨v, u, PySem.W.mg_of X G q, r1, r2⟩
  · cases c
theorem px_gl {X : Cx} {W : WX} {x : Str} {d : D} {pos : Pos} (c : Con X.K X.mg x d) (hg : Gl X x := by rfl) (hd : (x == ("__debug__" : Str)) = false := by decide) : PX X W (.Name x pos) (eC d) := by
  obtain ⟨v, u, hm, r, h⟩ := c
  exact px_of (pe_glob hg hm r hd) h
/-! ### tables with text keys -/
abbrev Tb : Type := String × List (Tx × D)
def tabB (K : PySem.W.Frag) (t : Tb) : Bool := t.2.all fun q => match PySem.W.nsIn K (He.ga K (t.1 : Str)) (toS q.1) with
  | some (some u) => repB K u q.2
  | _ => false
/-- a module's dict with text keys -/
def KdC (K : PySem.W.Frag) (w : World) (mg : Str → Option Value) (x : Str) (tbl : List (Tx × D)) : Prop :=
  mg x = some (.ref (He.ga K x)) ∧ (∃ es n, KDict K w (He.ga K x) es n) ∧ ∀ s : Tx, match tbl.lookup s with
    | some d => ∃ u v, PySem.W.nsIn K (He.ga K x) (toS s) = some (some u) ∧ RelV v u ∧ ∀ ι H, Rep K ι H v d
    | none => PySem.W.nsIn K (He.ga K x) (toS s) = some none
theorem keys_miss {P : Params} {z : Str} : ∀ {l : List DictEntry} {ks : List Str}, l.map He.keyOf = He.keysIn P ks → z ∉ ks → l.find? (·.key.isStr z) = none ∧ l.any (·.refKey) = false
  | [], _, _, _ => ⟨rfl, rfl⟩
  | e :: r, [], h, _ => by cases h
  | e :: r, k :: ks, h, hz => by
    have h1 : He.keyOf e :: r.map He.keyOf = some (k, PyData.keyHash P k) :: He.keysIn P ks := h
    injection h1 with h2 h3
    obtain ⟨i1, i2⟩ := keys_miss h3 fun q => hz (List.mem_cons_of_mem _ q)
    unfold He.keyOf at h2
    split at h2
    · rename_i x t q
      have h4 := Option.some.inj h2
      obtain ⟨h5, h6⟩ := Prod.mk.inj h4
      subst h5
      have hne : x ≠ z := fun q => hz (by rw [q]; exact List.mem_cons_self)
      refine ⟨?_, ?_⟩
      · rw [List.find?_cons_of_neg, i1]
        rw [q]
        show ¬ (x == z) = true
        simpa using hne
      · rw [List.any_cons, i2]
        have : e.refKey = false := by unfold DictEntry.refKey; rw [q]
        rw [this]; rfl
    · cases h2
theorem dicW_es {K : PySem.W.Frag} {P : Params} {a : Addr} {ks : List Str} (h : He.dicW K a = some (He.keysIn P ks)) {z : Str} (hz : z ∉ ks) : PySem.W.nsIn K a z = some none := by
  unfold He.dicW at h
  cases q : K.lookup a with
  | none => rw [q] at h; cases h
  | some o =>
    obtain ⟨oc, od, dt, osl⟩ := o
    rw [q] at h
    unfold PySem.W.nsIn
    rw [q]
    split at h
    · rename_i c es _ _ e
      cases e
      split at h
      · obtain ⟨h1, h2⟩ := keys_miss (Option.some.inj h) hz
        show (match es.toList.find? (·.key.isStr z) with
          | some e => some (some e.val)
          | none => if es.toList.any (·.refKey) then none else some none) = _
        rw [h1, h2]
        rfl
      · cases h
    · cases h
/-! ### the Hook -/
abbrev AlP : Type := He.AlD × Bool × List (Option (List (Option (Str × Int))))
def obsP (fa : List He.Fa) (fn : List He.DefD) (cs : List (Str × D)) (ts : List Tb) (K : PySem.W.Frag) : AlP := (He.obsD fa fn K, (cs.all (fun q => glB K q) && ts.all (fun t => tabB K t)), ts.map fun t => He.dicW K (He.ga K (t.1 : Str)))
def valP (fn : List He.DefD) (ts : List Tb) (w : World) : AlP := (He.valD fn, true, ts.map fun t => some (He.keysIn w.params (t.2.map fun q => toS q.1)))
def obsPG (n : Nat) (fa : List He.Fa) (fn : List He.DefD) (cs : List (Str × D)) (ts : List Tb) (g : Addr → Option Obj) : AlP := obsP fa fn cs ts (He.frG g (He.asD g n))
def SaysP (fa : List He.Fa) (fn : List He.DefD) (cs : List (Str × D)) (ts : List Tb) (w : World) (K : PySem.W.Frag) : Prop := obsP fa fn cs ts K = valP fn ts w
def hookP (n : Nat) (fa : List He.Fa) (fn : List He.DefD) (cs : List (Str × D)) (ts : List Tb) : PySem.W.Hook where
  α := AlP
  obs := fun s => obsPG n fa fn cs ts s.heap.get?
  val := fun w => valP fn ts w
  says := fun w h => ∃ K : PySem.W.Frag, K.In h ∧ SaysP fa fn cs ts w K
  of := fun _ _ e => ⟨_, He.frG_in, e⟩
  keeps := fun _ _ _ ⟨K, hK, c⟩ k => ⟨K, PySem.W.Frag.In.keeps hK k, c⟩
theorem obsPG_eq {n : Nat} {fa : List He.Fa} {fn : List He.DefD} {cs : List (Str × D)} {ts : List Tb} {g : Addr → Option Obj} {s : Shared} (h : ∀ a, g a = s.heap.get? a) : obsPG n fa fn cs ts g = (hookP n fa fn cs ts).obs s := by
  have e : g = s.heap.get? := funext h
  rw [e] <;> rfl
/-- all that the head tells -/
structure Says (fa : List He.Fa) (fn : List He.DefD) (cs : List (Str × D)) (ts : List Tb) (w : World) (K : PySem.W.Frag) (mg : Str → Option Value) : Prop where
  c : SaysP fa fn cs ts w K
  h : ∃ h : Heap, K.In h ∧ h.Ns mainGlobals mg
theorem lookup_mem {α β : Type} [BEq α] [LawfulBEq α] {a : α} {b : β} : ∀ {l : List (α × β)}, l.lookup a = some b → (a, b) ∈ l
  | (k, v) :: r, h => by
    rw [List.lookup_cons] at h
    split at h
    · rename_i e
      cases h
      rw [beq_iff_eq.mp e]
      exact List.mem_cons_self
    · exact List.mem_cons_of_mem _ (lookup_mem h)
theorem lookup_none {α β : Type} [BEq α] [LawfulBEq α] {a : α} : ∀ {l : List (α × β)}, l.lookup a = none → a ∉ l.map (·.1)
  | [], _ => by simp
  | (k, v) :: r, h => by
    rw [List.lookup_cons] at h
    split at h
    · cases h
    · rename_i e
      rw [List.map_cons, List.mem_cons]
      rintro (z | z)
      · rw [z] at e; simp at e
      · exact lookup_none h z
section
variable {fa : List He.Fa} {fn : List He.DefD} {cs : List (Str × D)} {ts : List Tb} {w : World} {K : PySem.W.Frag} {mg : Str → Option Value}
theorem Says.d (S : Says fa fn cs ts w K mg) : He.SaysD fa fn K := congrArg (fun z : AlP => z.1) S.c
theorem Says.con (S : Says fa fn cs ts w K mg) (i : Nat) {x : Str} {d : D} (h : cs[i]? = some (x, d) := by rfl) : Con K mg x d := by
  have e : (cs.all (fun q => glB K q) && ts.all (fun t => tabB K t)) = true := congrArg (fun z : AlP => z.2.1) S.c
  obtain ⟨h0, X, G⟩ := S.h
  exact glB_ok X G (List.all_eq_true.mp (Bool.and_eq_true_iff.mp e).1 _ (List.mem_of_getElem? h))
theorem Says.free (S : Says fa fn cs ts w K mg) (i : Nat) {x : Str} (h : fa[i]? = some (.free x) := by rfl) : mg x = none := by
  obtain ⟨h0, X, G⟩ := S.h
  exact He.free_ok X G (S.d.fact i h)
theorem Says.glo (S : Says fa fn cs ts w K mg) (i : Nat) {x : Str} (h : fa[i]? = some (.glo x) := by rfl) : mg x = some (.ref (He.ga K x)) := by
  obtain ⟨h0, X, G⟩ := S.h
  exact He.glo_ok X G (S.d.fact i h)
theorem Says.tab (S : Says fa fn cs ts w K mg) (i j : Nat) {x : String} {tbl : List (Tx × D)} (h : ts[i]? = some (x, tbl) := by rfl) (hg : fa[j]? = some (.glo (x : Str)) := by rfl) : KdC K w mg (x : Str) tbl := by
  have e : (cs.all (fun q => glB K q) && ts.all (fun t => tabB K t)) = true := congrArg (fun z : AlP => z.2.1) S.c
  have e1 := List.all_eq_true.mp (Bool.and_eq_true_iff.mp e).2 _ (List.mem_of_getElem? h)
  have e2 : ts.map (fun t => He.dicW K (He.ga K (t.1 : Str))) = ts.map fun t => some (He.keysIn w.params (t.2.map fun q => toS q.1)) := congrArg (fun z : AlP => z.2.2) S.c
  have e3 : (ts.map fun t => He.dicW K (He.ga K (t.1 : Str)))[i]? = (ts.map fun t => some (He.keysIn w.params (t.2.map fun q => toS q.1)))[i]? := by rw [e2]
  rw [List.getElem?_map, List.getElem?_map, h] at e3
  have e4 : He.dicW K (He.ga K (x : Str)) = some (He.keysIn w.params (tbl.map fun q => toS q.1)) := Option.some.inj e3
  refine ⟨S.glo j hg, He.dicW_ok e4, fun s => ?_⟩
  split
  · rename_i d hd
    have q := List.all_eq_true.mp e1 _ (lookup_mem hd)
    have q : (match PySem.W.nsIn K (He.ga K (x : Str)) (toS s) with
      | some (some u) => repB K u d
      | _ => false) = true := q
    split at q
    · rename_i u hu
      obtain ⟨v, r1, r2⟩ := repB_ok q
      exact ⟨u, v, hu, r1, r2⟩
    · cases q
  · rename_i hd
    refine dicW_es e4 fun z => lookup_none hd ?_
    obtain ⟨q, hq, e⟩ := List.mem_map.mp z
    rw [← toS_inj e]
    exact List.mem_map.mpr ⟨q, hq, rfl⟩
end
/-- x[i], x in y, y a table -/
def eKdIx (tbl : List (Tx × D)) (f : FE) : FE := fun ρ h => (f ρ h).bind fun p => match p.1 with
  | .str s => (match tbl.lookup s with
    | some d => .ok (d, p.2)
    | none => .stuck)
  | _ => .stuck
def eKdIn (tbl : List (Tx × D)) (f : FE) : FE := fun ρ h => (f ρ h).bind fun p => match p.1 with
  | .str s => .ok (.bl (tbl.lookup s).isSome, p.2)
  | _ => .stuck
def eKdNotIn (tbl : List (Tx × D)) (f : FE) : FE := fun ρ h => (f ρ h).bind fun p => match p.1 with
  | .str s => .ok (.bl (!(tbl.lookup s).isSome), p.2)
  | _ => .stuck
section
variable {X : Cx} {W : WX} {x : Str} {tbl : List (Tx × D)} {p pos : Pos} {i : Expr} {f : FE}
theorem px_kdIx (c : KdC X.K X.w X.mg x tbl) (hi : PX X W i f) (hs : PlainIx i := by exact fun _ _ => rfl) (hg : Gl X x := by rfl) (hd : (x == ("__debug__" : Str)) = false := by decide) : PX X W (.Subscript (.Name x p) i pos) (eKdIx tbl f) := by
  obtain ⟨hm, ⟨es, n, D⟩, c⟩ := c
  refine ⟨PE.mono (pe_ix ix_kdict (pe_glob (v := .ref (He.ga X.K x)) hg hm rfl hd) hi.pe hs) fun σ H Q ⟨ι, ρ, h, hρ, hh, q⟩ => ?_⟩
  show tE X.K W f σ H _
  refine tE_seq hρ hh q fun p1 ι1 H1 v1 e1 h1 r1 hρ1 q1 => ?_
  obtain ⟨d, h'⟩ := p1
  cases d with
  | str s =>
    cases r1
    have c := c s
    simp only at q1
    split at q1
    · rename_i d e
      rw [e] at c
      obtain ⟨u, v, e2, r, rp⟩ := c
      exact ⟨_, _, v, rfl, rfl, ⟨es, n, u, D.at_, D.lit, e2, r⟩, q1 ι1 H1 v Ext.refl h1 (rp _ _)⟩
    · exact q1.elim
  | _ => exact q1.elim
theorem kd_in_mono (c : ∀ s : Tx, match tbl.lookup s with
    | some d => ∃ u v, PySem.W.nsIn X.K (He.ga X.K x) (toS s) = some (some u) ∧ RelV v u ∧ ∀ ι H, Rep X.K ι H v d
    | none => PySem.W.nsIn X.K (He.ga X.K x) (toS s) = some none) (s : Tx) : ∃ r, PySem.W.nsIn X.K (He.ga X.K x) (toS s) = some r ∧ r.isSome = (tbl.lookup s).isSome := by
  have c := c s
  split at c
  · rename_i d e
    obtain ⟨u, v, e2, _⟩ := c
    exact ⟨_, e2, by rw [e]; rfl⟩
  · rename_i e
    exact ⟨_, c, by rw [e]; rfl⟩
theorem px_kdIn (c : KdC X.K X.w X.mg x tbl) (hi : PX X W i f) (hm2 : behindInMarks .In (.Name x p) = false := by rfl) (hg : Gl X x := by rfl) (hd : (x == ("__debug__" : Str)) = false := by decide) : PX X W (.Compare i [.In] [.Name x p] pos) (eKdIn tbl f) := by
  obtain ⟨hm, ⟨es, n, D⟩, c⟩ := c
  refine ⟨PE.mono (pe_cmpR (op_in_kd D) hi.pe (pe_glob (v := .ref (He.ga X.K x)) hg hm rfl hd) hm2) fun σ H Q ⟨ι, ρ, h, hρ, hh, q⟩ => ?_⟩
  refine tE_seq hρ hh q fun p1 ι1 H1 v1 e1 h1 r1 hρ1 q1 => ?_
  obtain ⟨d, h'⟩ := p1
  cases d with
  | str s =>
    cases r1
    obtain ⟨r, e2, e3⟩ := kd_in_mono (X := X) c s
    exact ⟨_, r, rfl, rfl, e2, by rw [e3]; exact q1 ι1 H1 _ Ext.refl h1 (.bl _)⟩
  | _ => exact q1.elim
theorem px_kdNotIn (c : KdC X.K X.w X.mg x tbl) (hi : PX X W i f) (hm2 : behindInMarks .NotIn (.Name x p) = false := by rfl) (hg : Gl X x := by rfl) (hd : (x == ("__debug__" : Str)) = false := by decide) : PX X W (.Compare i [.NotIn] [.Name x p] pos) (eKdNotIn tbl f) := by
  obtain ⟨hm, ⟨es, n, D⟩, c⟩ := c
  refine ⟨PE.mono (pe_cmpR (op_notIn_kd D) hi.pe (pe_glob (v := .ref (He.ga X.K x)) hg hm rfl hd) hm2) fun σ H Q ⟨ι, ρ, h, hρ, hh, q⟩ => ?_⟩
  refine tE_seq hρ hh q fun p1 ι1 H1 v1 e1 h1 r1 hρ1 q1 => ?_
  obtain ⟨d, h'⟩ := p1
  cases d with
  | str s =>
    cases r1
    obtain ⟨r, e2, e3⟩ := kd_in_mono (X := X) c s
    exact ⟨_, r, rfl, rfl, e2, by rw [e3]; exact q1 ι1 H1 _ Ext.refl h1 (.bl _)⟩
  | _ => exact q1.elim
end
/-! ### a def that can be called -/
def Cal (P : Program) (w : World) (K : PySem.W.Frag) (mg : Str → Option Value) (base : Heap) (k : Nat) (x : Str) (n : Nat) (f : FD) : Prop :=
  ∃ fa fd ps, FnG P w K mg base k fa fd ps (spF K n f) ∧ mg x = some (.ref fa) ∧ PySem.W.keepIn K (.ref fa) = true ∧ Binds K fd ps [] ∧ ∀ ds h, ds.length ≠ n → f ds h = .stuck
theorem Cal.mono {P : Program} {w : World} {K : PySem.W.Frag} {mg : Str → Option Value} {base : Heap} {j k : Nat} {x : Str} {n : Nat} {f : FD} (C : Cal P w K mg base j x n f) (h : j ≤ k) : Cal P w K mg base k x n f :=
  let ⟨fa, fd, ps, F, r⟩ := C
  ⟨fa, fd, ps, F.up h, r⟩
theorem Room.le {j k : Nat} {A : Around} (r : Room k A) (h : j ≤ k) : Room j A := r.mono h
theorem px_callC {X : Cx} {W : WX} {j k n : Nat} {f : FD} {x : Str} {p pos : Pos} {e : Expr} {es : List Expr} {ta : FA} (C : Cal X.prog X.w X.K X.mg X.base j x n f) (tk : Takes X W) (hr : Room k X.A) (gd : X.A.guards = some []) (ha : PXA X W (e :: es) ta) (hjk : j ≤ k := by decide)
    (hg : Gl X x := by rfl) (hdb : (x == ("__debug__" : Str)) = false := by decide) (he : starEach (e :: es) X.env = (false, eval e X.env) :: starEach es X.env := by rfl) (hpl : (backTo pos (starEach es X.env)).any (·.1) = false := by rfl) :
    PX X W (.Call (.Name x p) (e :: es) [] pos) (eCall f ta) := by
  obtain ⟨fa, fd, ps, F, hm, hk, hb, hl⟩ := C
  exact px_call F tk (hr.mono hjk) gd hm hk hb hl ha hg hdb he hpl
/-- d: the def at the name x, its body as a term b of rules -/
theorem cal_of {P : Program} {w : World} {K : PySem.W.Frag} {mg : Str → Option Value} {base : Heap} {x name qual : Str} {params : Arguments} {body : List Stmt} {scope : Scope} {f : Addr} {N ps : List Str} {k : Nat} {b : FS}
    (F : ∃ fd, FunD K name qual params body scope [] [] f fd) (hm : mg x = some (.ref f)) (S : FnScope N ps scope)
    (hbd : ∀ (kV doc pm : Value) (an : Option Addr) (cdv ct : Value) (us : List Value), us.length = ps.length → bindArgs (PySem.W.fnOf name qual params body scope .none kV doc pm an cdv ct) ⟨us, []⟩ = pure (ps.zip us))
    (hb : ∀ (cdv : Value) (A : Around) (outer : List PySem.Env) (s : Shared) (H : Hp) (E : XK), Up k (bodyX P w K mg base N qual scope f cdv A outer s H E) (WK E) → PXB (bodyX P w K mg base N qual scope f cdv A outer s H E) (WK E) body b) :
    Cal P w K mg base (k + 1) x ps.length (defD ps.length N.length b) := by
  obtain ⟨fd, F⟩ := F
  exact ⟨f, fd, ps, fnD_ok F S hb, hm, F.kp, F.bindsN hbd, defD_len⟩
theorem takesN {X : Cx} : Takes X WN := fun u s' ⟨_, _, _, _, _, _, _, _, _, _, _, _, _, _, _, _, z⟩ => z.elim
/-! ### the law's end -/
/-- a def that raises nothing -/
def spL (K : PySem.W.Frag) (n : Nat) (f : FD) : Sp := fun vs H Q _ => spF K n f vs H Q fun _ _ _ => False
/-- what is tracked when the law begins: its script, if it is none of the module's own objects -/
theorem script_heap {P : Program} {w : World} {K : PySem.W.Frag} {h : Heap} {a : Addr} {vs : List Value} {ns : List Int} (inK : K.In h) (at_ : h.get? a = some { cls := .type "list", data := .seq vs.toArray }) (nums : IntsAre vs ns) (few : ns.length ≤ sizeLine) :
    ∃ H : Hp, Only H ∧ SqL K H a (ns.map V.int) ∧ HOk P w H h ∧ (∀ b u, H b = some u → b = a ∧ K.lookup a = none) := by
  have rel := vals_ints nums
  by_cases q : (K.lookup a).isSome
  · obtain ⟨o, ho⟩ := Option.isSome_iff_exists.mp q
    have same : o = { cls := .type "list", data := .seq vs.toArray } := Option.some.inj ((inK a o ho).symm.trans at_)
    subst same
    exact ⟨fun _ => none, fun _ => Or.inl rfl, Or.inr ⟨_, vs.toArray, _, ho, rfl, rfl, rfl, by rw [List.size_toArray, nums.length]; exact few, by simpa using rel⟩, fun b u z => (by cases (show none = some u from z)), fun b u z => (by cases (show none = some u from z))⟩
  · have gone : K.lookup a = none := by
      cases e : K.lookup a with
      | none => rfl
      | some o => exact absurd (by rw [e]; rfl) q
    refine ⟨fun b => if b = a then some (.frz { cls := .type "list", data := .seq vs.toArray } (.lst (ns.map V.int))) else none, fun b => ?_, Or.inl (Or.inr ⟨_, if_pos rfl⟩), fun b u z => ?_, fun b u z => ?_⟩
    · by_cases e : b = a
      · exact Or.inr ⟨_, _, if_pos e⟩
      · exact Or.inl (if_neg e)
    · have e : b = a := Decidable.byContradiction fun e => by cases (show none = some u from (if_neg e).symm.trans z)
      subst e
      obtain rfl := Option.some.inj ((if_pos rfl).symm.trans z)
      exact ⟨at_, by simpa using few, vs, _, rel, at_⟩
    · exact ⟨Decidable.byContradiction fun e => (by cases (show none = some u from (if_neg e).symm.trans z)), gone⟩
theorem law_callG {P : Program} {w : World} {K : PySem.W.Frag} {mg mb : Str → Option Value} {k : Nat} {fa a : Addr} {fd : FuncData} {x : Str} {sp : Sp} {s₁ : Shared} {vs : List Value} {ns : List Int}
    (inK : K.In s₁.heap) (glob : s₁.heap.Ns mainGlobals mg) (blt : s₁.heap.Ns builtinsNs mb) (boot : ∀ x : Str, x ≠ "__name__" → mb x = bootBuiltins x) (free : s₁.heap.NoLimit) (bare : s₁.gens = #[])
    (at_ : s₁.heap.get? a = some { cls := .type "list", data := .seq vs.toArray }) (nums : IntsAre vs ns) (few : ns.length ≤ sizeLine) (room : Room k callerA)
    (F : ∀ base : Heap, K.In base → base.Ns mainGlobals mg → FnG P w K mg base k fa fd [x] sp) (bind : ∀ (s : Shared) (u : Value), BindsTo s fd ⟨[u], []⟩ [(x, u)])
    (prom : ∀ H : Hp, Only H → SqL K H a (ns.map V.int) → sp [.ref a] H (fun v _ => v = .bl true) fun _ _ _ => False) :
    codeAny (model P w) callerA (.call (.ref fa) ⟨[.ref a], []⟩) (fun r s' => r = .ok (.ret (.bool true)) ∧ OldK s₁.heap s'.heap ∧ s'.os = s₁.os ∧ AllBare s'.gens) s₁ := by
  obtain ⟨H, only, seq, hok, mine⟩ := script_heap (P := P) (w := w) inK at_ nums few
  have stays : ∀ {b : Addr} {o : Obj}, s₁.heap.get? b = some o → (b = a → K.lookup a = none → False) → (hidT s₁.heap H).get? b = some o := fun {b o} z no => hidT_get z (by
    cases q : H b with
    | none => rfl
    | some u => exact (no (mine b u q).1 (mine b u q).2).elim)
  have nss : ∀ {b : Addr} {m : Str → Option Value}, s₁.heap.Ns b m → (hidT s₁.heap H).Ns b m := fun {b m} ⟨o, es, ep, z, d, r⟩ => ⟨o, es, ep, stays z (fun e _ => by
    subst e
    rw [at_] at z
    cases z
    exact Data.noConfusion (show Data.seq vs.toArray _ = Data.dict es ep from d)), d, r⟩
  have kin : K.In (hidT s₁.heap H) := fun b o z => stays (inK b o z) fun e n => by
    subst e
    rw [z] at n
    cases n
  obtain ⟨mc, l1, l2⟩ := free
  have env : Env0 P w K mg (hidT s₁.heap H) callerA [] s₁ H := ⟨rfl, ⟨kin, nss glob, ⟨mb, nss blt, boot⟩, ⟨mc, nss l1, l2⟩⟩, fun b o z => of_hidT z, Nat.le_of_eq (hidT_size _ _), trivial, fun b z => absurd z (List.not_mem_nil), hok, .of_eq bare⟩
  refine codeAny_mono ((F _ kin (nss glob)).go callerA [] s₁ H ⟨[.ref a], []⟩ [.ref a] [.ref a] _ _ room rfl env (bind s₁ (.ref a)) (.cons rfl .nil) (prom H only seq)) fun out s2 z => ?_
  match out, z with
  | .error e, z => exact z.choose_spec.choose_spec.choose_spec.choose_spec.choose_spec.2.2.2.2.2.2.2.elim
  | .ok .next, z => exact z.elim
  | .ok .brk, z => exact z.elim
  | .ok .cont, z => exact z.elim
  | .ok (.ret u), z =>
    obtain ⟨v, H2, same, bare2, un, hok2, rv, q⟩ := z
    have q : v = .bl true := q
    subst q
    have rv : u = Value.bool true := rv
    subst rv
    refine ⟨rfl, OldK.of_keep fun b o z => ?_, same, bare2⟩
    cases q : H b with
    | none => exact un.keep b o z q (List.not_mem_nil) (by simp)
    | some u =>
      obtain ⟨ob, xs, z2⟩ := (only b).resolve_left (by rw [q]; exact nofun)
      have e1 := (hok b _ z2).1
      have e2 := (hok2 b _ (un.frzs b ob _ z2)).1
      exact e2.trans (e1.symm.trans z)
/-- a law, from the promise of its def -/
theorem law_walk {l : PySem.W.OpenLaw} {n k : Nat} {q : Program} {loose : List Str} {XP : (Str → Option Value) → Heap → Prop} {YP : World → Heap → Prop} {d : DefRec} {x : Str} (hn : l.most = some n) (few : n ≤ sizeLine) (plain : d.params.defaults = []) (room : Room k callerA)
    (F : ∀ (w : World) (mg : Str → Option Value) (fa : Addr) (h : Heap), YP w h → h.Ns mainGlobals mg → mg d.name = some (.ref fa) → ∃ (K : PySem.W.Frag) (fd : FuncData) (sp : Sp), K.In h ∧ (∀ (s : Shared) (u : Value), BindsTo s fd ⟨[u], []⟩ [(x, u)]) ∧
      (∀ (H : Hp) (a : Addr) (ns : List Int), ns.length ≤ n → Only H → SqL K H a (ns.map V.int) → sp [.ref a] H (fun v _ => v = .bl true) fun _ _ _ => False) ∧ ∀ base : Heap, K.In base → base.Ns mainGlobals mg → FnG l.prog w K mg base k fa fd [x] sp) :
    PySem.W.WalkO q loose XP YP l.row.toRowW d [] (fun f vs => PySem.call f vs) :=
  Att.attach_call hn plain fun w s₀ s₁ mg mb fa o pm cd doc a vs ns G Y ho hd hcd hmg hobj hints hlen hg =>
    let ⟨_, _, _, inK, bind, prom, go⟩ := F w mg fa _ Y G.T.g hmg
    law_callG inK G.T.g G.T.b G.T.builtins G.T.nolimit hg hobj hints (Nat.le_trans hlen few) room go bind fun H only seq => prom H a ns hlen only seq
theorem sqF_of {K : PySem.W.Frag} {H : Hp} {a : Addr} {xs : List V} (hO : Only H) (h : SqL K H a xs) : SqF K H a xs := by
  rcases h with (h | h) | h
  · rcases hO a with z | ⟨o, ys, z⟩
    · rw [z] at h; cases h
    · rw [z] at h; cases h
  · exact .inl h
  · exact .inr h
theorem reps_ints {K : PySem.W.Frag} {ι : List Addr} {H : Hp} : ∀ ns : List Int, Reps K ι H (ns.map V.int) (ns.map D.int)
  | [] => .nil
  | n :: ns => .cons (.int n) (reps_ints ns)
theorem law_end {K : PySem.W.Frag} {f : FD} {n : Nat} (hlaw : ∀ ns : List Int, ns.length ≤ n → ∃ h, f [.fl (ns.map D.int)] [] = .ok (.bl true, h)) (H : Hp) (a : Addr) (ns : List Int) (hl : ns.length ≤ n) (hO : Only H) (hS : SqL K H a (ns.map V.int)) :
    spF K 1 f [.ref a] H (fun v _ => v = .bl true) fun _ _ _ => False := by
  obtain ⟨h, e⟩ := hlaw ns hl
  refine ⟨rfl, [], [.fl (ns.map D.int)], [], .one (.fl (sqF_of hO hS) (reps_ints ns)), ⟨rfl, List.nodup_nil, fun i a o e => by simp at e⟩, ?_⟩
  rw [e]
  intro ι' H' v _ _ r
  cases r
  rfl
end Px
namespace Px
open PySem PySem.Spec PyProof.Rows L2
theorem hu65 {A : Around} {k : Nat} (hr : Room k A) : A.units + 65 < cLine := by have := hr.un; omega
section
variable {X : Cx} {W : WX} {pos p apos : Pos} {k : Nat} {a b c : Expr} {fa fb fc : FE}
theorem px_eq (hr : Room k X.A) (ha : PX X W a fa) (hb : PX X W b fb) (hm : behindInMarks .Eq b = false := by first | rfl | with_unfolding_all rfl) : PX X W (.Compare a [.Eq] [b] pos) (bin sEq fa fb) := px_cmp (op_eqD hr.units) imp_eq ha hb hm
theorem pxt_eq (hr : Room k X.A) (ha : PX X W a fa) (hb : PX X W b fb) (hm : behindInMarks .Eq b = false := by first | rfl | with_unfolding_all rfl) : PXT X W (.Compare a [.Eq] [b] pos) (bOf (bin sEq fa fb)) := pxt_cmp (op_eqD hr.units) imp_eq ha hb hm
theorem px_ne (hr : Room k X.A) (ha : PX X W a fa) (hb : PX X W b fb) (hm : behindInMarks .NotEq b = false := by first | rfl | with_unfolding_all rfl) : PX X W (.Compare a [.NotEq] [b] pos) (bin sNe fa fb) := px_cmp (op_neD hr.units) imp_ne ha hb hm
theorem pxt_ne (hr : Room k X.A) (ha : PX X W a fa) (hb : PX X W b fb) (hm : behindInMarks .NotEq b = false := by first | rfl | with_unfolding_all rfl) : PXT X W (.Compare a [.NotEq] [b] pos) (bOf (bin sNe fa fb)) := pxt_cmp (op_neD hr.units) imp_ne ha hb hm
theorem px_lt (hr : Room k X.A) (ha : PX X W a fa) (hb : PX X W b fb) (hm : behindInMarks .Lt b = false := by first | rfl | with_unfolding_all rfl) : PX X W (.Compare a [.Lt] [b] pos) (bin sLt fa fb) := px_cmp (op_lt.or op_lt_str) imp_lt ha hb hm
theorem pxt_lt (hr : Room k X.A) (ha : PX X W a fa) (hb : PX X W b fb) (hm : behindInMarks .Lt b = false := by first | rfl | with_unfolding_all rfl) : PXT X W (.Compare a [.Lt] [b] pos) (bOf (bin sLt fa fb)) := pxt_cmp (op_lt.or op_lt_str) imp_lt ha hb hm
theorem px_le (hr : Room k X.A) (ha : PX X W a fa) (hb : PX X W b fb) (hm : behindInMarks .LtE b = false := by first | rfl | with_unfolding_all rfl) : PX X W (.Compare a [.LtE] [b] pos) (bin sLe fa fb) := px_cmp (op_le.or op_le_str) imp_le ha hb hm
theorem pxt_le (hr : Room k X.A) (ha : PX X W a fa) (hb : PX X W b fb) (hm : behindInMarks .LtE b = false := by first | rfl | with_unfolding_all rfl) : PXT X W (.Compare a [.LtE] [b] pos) (bOf (bin sLe fa fb)) := pxt_cmp (op_le.or op_le_str) imp_le ha hb hm
theorem px_gt (hr : Room k X.A) (ha : PX X W a fa) (hb : PX X W b fb) (hm : behindInMarks .Gt b = false := by first | rfl | with_unfolding_all rfl) : PX X W (.Compare a [.Gt] [b] pos) (bin sGt fa fb) := px_cmp (op_gt.or op_gt_str) imp_gt ha hb hm
theorem pxt_gt (hr : Room k X.A) (ha : PX X W a fa) (hb : PX X W b fb) (hm : behindInMarks .Gt b = false := by first | rfl | with_unfolding_all rfl) : PXT X W (.Compare a [.Gt] [b] pos) (bOf (bin sGt fa fb)) := pxt_cmp (op_gt.or op_gt_str) imp_gt ha hb hm
theorem px_ge (hr : Room k X.A) (ha : PX X W a fa) (hb : PX X W b fb) (hm : behindInMarks .GtE b = false := by first | rfl | with_unfolding_all rfl) : PX X W (.Compare a [.GtE] [b] pos) (bin sGe fa fb) := px_cmp (op_ge.or op_ge_str) imp_ge ha hb hm
theorem pxt_ge (hr : Room k X.A) (ha : PX X W a fa) (hb : PX X W b fb) (hm : behindInMarks .GtE b = false := by first | rfl | with_unfolding_all rfl) : PXT X W (.Compare a [.GtE] [b] pos) (bOf (bin sGe fa fb)) := pxt_cmp (op_ge.or op_ge_str) imp_ge ha hb hm
theorem px_in (hr : Room k X.A) (ha : PX X W a fa) (hb : PX X W b fb) (hm : behindInMarks .In b = false := by first | rfl | with_unfolding_all rfl) : PX X W (.Compare a [.In] [b] pos) (bin sIn fa fb) := px_cmp (op_inG (hu65 hr)) imp_in ha hb hm
theorem pxt_in (hr : Room k X.A) (ha : PX X W a fa) (hb : PX X W b fb) (hm : behindInMarks .In b = false := by first | rfl | with_unfolding_all rfl) : PXT X W (.Compare a [.In] [b] pos) (bOf (bin sIn fa fb)) := pxt_cmp (op_inG (hu65 hr)) imp_in ha hb hm
theorem px_notIn (hr : Room k X.A) (ha : PX X W a fa) (hb : PX X W b fb) (hm : behindInMarks .NotIn b = false := by first | rfl | with_unfolding_all rfl) : PX X W (.Compare a [.NotIn] [b] pos) (bin sNotIn fa fb) := px_cmp (op_notInG (hu65 hr)) imp_notIn ha hb hm
theorem pxt_notIn (hr : Room k X.A) (ha : PX X W a fa) (hb : PX X W b fb) (hm : behindInMarks .NotIn b = false := by first | rfl | with_unfolding_all rfl) : PXT X W (.Compare a [.NotIn] [b] pos) (bOf (bin sNotIn fa fb)) := pxt_cmp (op_notInG (hu65 hr)) imp_notIn ha hb hm
theorem px_is (hr : Room k X.A) (ha : PX X W a fa) (hb : PX X W b fb) (hm : behindInMarks .Is b = false := by first | rfl | with_unfolding_all rfl) : PX X W (.Compare a [.Is] [b] pos) (bin sIs fa fb) := px_cmp (op_isN.or op_is_bl) imp_is ha hb hm
theorem pxt_is (hr : Room k X.A) (ha : PX X W a fa) (hb : PX X W b fb) (hm : behindInMarks .Is b = false := by first | rfl | with_unfolding_all rfl) : PXT X W (.Compare a [.Is] [b] pos) (bOf (bin sIs fa fb)) := pxt_cmp (op_isN.or op_is_bl) imp_is ha hb hm
theorem px_isNot (hr : Room k X.A) (ha : PX X W a fa) (hb : PX X W b fb) (hm : behindInMarks .IsNot b = false := by first | rfl | with_unfolding_all rfl) : PX X W (.Compare a [.IsNot] [b] pos) (bin sIsNot fa fb) := px_cmp (op_notN.or op_isnot_bl) imp_isNot ha hb hm
theorem pxt_isNot (hr : Room k X.A) (ha : PX X W a fa) (hb : PX X W b fb) (hm : behindInMarks .IsNot b = false := by first | rfl | with_unfolding_all rfl) : PXT X W (.Compare a [.IsNot] [b] pos) (bOf (bin sIsNot fa fb)) := pxt_cmp (op_notN.or op_isnot_bl) imp_isNot ha hb hm
theorem px_lt_lt (hr : Room k X.A) (ha : PX X W a fa) (hb : PX X W b fb) (hc : PX X W c fc) (hm : lastMarks [.Lt, .Lt] [b, c] = false := by with_unfolding_all rfl) : PX X W (.Compare a [.Lt, .Lt] [b, c] pos) (chain sLt sLt fa fb fc) := px_chain (op_lt.or op_lt_str) (op_lt.or op_lt_str) imp_lt imp_lt truth_lt ha hb hc hm
theorem pxt_lt_lt (hr : Room k X.A) (ha : PX X W a fa) (hb : PX X W b fb) (hc : PX X W c fc) (hm : lastMarks [.Lt, .Lt] [b, c] = false := by with_unfolding_all rfl) : PXT X W (.Compare a [.Lt, .Lt] [b, c] pos) (bOf (chain sLt sLt fa fb fc)) := pxt_chain (op_lt.or op_lt_str) (op_lt.or op_lt_str) imp_lt imp_lt truth_lt ha hb hc hm
theorem px_lt_le (hr : Room k X.A) (ha : PX X W a fa) (hb : PX X W b fb) (hc : PX X W c fc) (hm : lastMarks [.Lt, .LtE] [b, c] = false := by with_unfolding_all rfl) : PX X W (.Compare a [.Lt, .LtE] [b, c] pos) (chain sLt sLe fa fb fc) := px_chain (op_lt.or op_lt_str) (op_le.or op_le_str) imp_lt imp_le truth_lt ha hb hc hm
theorem pxt_lt_le (hr : Room k X.A) (ha : PX X W a fa) (hb : PX X W b fb) (hc : PX X W c fc) (hm : lastMarks [.Lt, .LtE] [b, c] = false := by with_unfolding_all rfl) : PXT X W (.Compare a [.Lt, .LtE] [b, c] pos) (bOf (chain sLt sLe fa fb fc)) := pxt_chain (op_lt.or op_lt_str) (op_le.or op_le_str) imp_lt imp_le truth_lt ha hb hc hm
theorem px_lt_eq (hr : Room k X.A) (ha : PX X W a fa) (hb : PX X W b fb) (hc : PX X W c fc) (hm : lastMarks [.Lt, .Eq] [b, c] = false := by with_unfolding_all rfl) : PX X W (.Compare a [.Lt, .Eq] [b, c] pos) (chain sLt sEq fa fb fc) := px_chain (op_lt.or op_lt_str) (op_eqD hr.units) imp_lt imp_eq truth_lt ha hb hc hm
theorem pxt_lt_eq (hr : Room k X.A) (ha : PX X W a fa) (hb : PX X W b fb) (hc : PX X W c fc) (hm : lastMarks [.Lt, .Eq] [b, c] = false := by with_unfolding_all rfl) : PXT X W (.Compare a [.Lt, .Eq] [b, c] pos) (bOf (chain sLt sEq fa fb fc)) := pxt_chain (op_lt.or op_lt_str) (op_eqD hr.units) imp_lt imp_eq truth_lt ha hb hc hm
theorem px_le_lt (hr : Room k X.A) (ha : PX X W a fa) (hb : PX X W b fb) (hc : PX X W c fc) (hm : lastMarks [.LtE, .Lt] [b, c] = false := by with_unfolding_all rfl) : PX X W (.Compare a [.LtE, .Lt] [b, c] pos) (chain sLe sLt fa fb fc) := px_chain (op_le.or op_le_str) (op_lt.or op_lt_str) imp_le imp_lt truth_le ha hb hc hm
theorem pxt_le_lt (hr : Room k X.A) (ha : PX X W a fa) (hb : PX X W b fb) (hc : PX X W c fc) (hm : lastMarks [.LtE, .Lt] [b, c] = false := by with_unfolding_all rfl) : PXT X W (.Compare a [.LtE, .Lt] [b, c] pos) (bOf (chain sLe sLt fa fb fc)) := pxt_chain (op_le.or op_le_str) (op_lt.or op_lt_str) imp_le imp_lt truth_le ha hb hc hm
theorem px_le_le (hr : Room k X.A) (ha : PX X W a fa) (hb : PX X W b fb) (hc : PX X W c fc) (hm : lastMarks [.LtE, .LtE] [b, c] = false := by with_unfolding_all rfl) : PX X W (.Compare a [.LtE, .LtE] [b, c] pos) (chain sLe sLe fa fb fc) := px_chain (op_le.or op_le_str) (op_le.or op_le_str) imp_le imp_le truth_le ha hb hc hm
theorem pxt_le_le (hr : Room k X.A) (ha : PX X W a fa) (hb : PX X W b fb) (hc : PX X W c fc) (hm : lastMarks [.LtE, .LtE] [b, c] = false := by with_unfolding_all rfl) : PXT X W (.Compare a [.LtE, .LtE] [b, c] pos) (bOf (chain sLe sLe fa fb fc)) := pxt_chain (op_le.or op_le_str) (op_le.or op_le_str) imp_le imp_le truth_le ha hb hc hm
theorem px_le_eq (hr : Room k X.A) (ha : PX X W a fa) (hb : PX X W b fb) (hc : PX X W c fc) (hm : lastMarks [.LtE, .Eq] [b, c] = false := by with_unfolding_all rfl) : PX X W (.Compare a [.LtE, .Eq] [b, c] pos) (chain sLe sEq fa fb fc) := px_chain (op_le.or op_le_str) (op_eqD hr.units) imp_le imp_eq truth_le ha hb hc hm
theorem pxt_le_eq (hr : Room k X.A) (ha : PX X W a fa) (hb : PX X W b fb) (hc : PX X W c fc) (hm : lastMarks [.LtE, .Eq] [b, c] = false := by with_unfolding_all rfl) : PXT X W (.Compare a [.LtE, .Eq] [b, c] pos) (bOf (chain sLe sEq fa fb fc)) := pxt_chain (op_le.or op_le_str) (op_eqD hr.units) imp_le imp_eq truth_le ha hb hc hm
theorem px_eq_lt (hr : Room k X.A) (ha : PX X W a fa) (hb : PX X W b fb) (hc : PX X W c fc) (hm : lastMarks [.Eq, .Lt] [b, c] = false := by with_unfolding_all rfl) : PX X W (.Compare a [.Eq, .Lt] [b, c] pos) (chain sEq sLt fa fb fc) := px_chain (op_eqD hr.units) (op_lt.or op_lt_str) imp_eq imp_lt truth_eq ha hb hc hm
theorem pxt_eq_lt (hr : Room k X.A) (ha : PX X W a fa) (hb : PX X W b fb) (hc : PX X W c fc) (hm : lastMarks [.Eq, .Lt] [b, c] = false := by with_unfolding_all rfl) : PXT X W (.Compare a [.Eq, .Lt] [b, c] pos) (bOf (chain sEq sLt fa fb fc)) := pxt_chain (op_eqD hr.units) (op_lt.or op_lt_str) imp_eq imp_lt truth_eq ha hb hc hm
theorem px_eq_le (hr : Room k X.A) (ha : PX X W a fa) (hb : PX X W b fb) (hc : PX X W c fc) (hm : lastMarks [.Eq, .LtE] [b, c] = false := by with_unfolding_all rfl) : PX X W (.Compare a [.Eq, .LtE] [b, c] pos) (chain sEq sLe fa fb fc) := px_chain (op_eqD hr.units) (op_le.or op_le_str) imp_eq imp_le truth_eq ha hb hc hm
theorem pxt_eq_le (hr : Room k X.A) (ha : PX X W a fa) (hb : PX X W b fb) (hc : PX X W c fc) (hm : lastMarks [.Eq, .LtE] [b, c] = false := by with_unfolding_all rfl) : PXT X W (.Compare a [.Eq, .LtE] [b, c] pos) (bOf (chain sEq sLe fa fb fc)) := pxt_chain (op_eqD hr.units) (op_le.or op_le_str) imp_eq imp_le truth_eq ha hb hc hm
theorem px_eq_eq (hr : Room k X.A) (ha : PX X W a fa) (hb : PX X W b fb) (hc : PX X W c fc) (hm : lastMarks [.Eq, .Eq] [b, c] = false := by with_unfolding_all rfl) : PX X W (.Compare a [.Eq, .Eq] [b, c] pos) (chain sEq sEq fa fb fc) := px_chain (op_eqD hr.units) (op_eqD hr.units) imp_eq imp_eq truth_eq ha hb hc hm
theorem pxt_eq_eq (hr : Room k X.A) (ha : PX X W a fa) (hb : PX X W b fb) (hc : PX X W c fc) (hm : lastMarks [.Eq, .Eq] [b, c] = false := by with_unfolding_all rfl) : PXT X W (.Compare a [.Eq, .Eq] [b, c] pos) (bOf (chain sEq sEq fa fb fc)) := pxt_chain (op_eqD hr.units) (op_eqD hr.units) imp_eq imp_eq truth_eq ha hb hc hm
variable {e : Expr} {es : List Expr} {t : FA}
theorem pxc_len (hc : X.calm = true) (hm : X.mg "len" = none) (ha : PXA X W (e :: es) t) (hg : Gl X "len" := by rfl) (he : starEach (e :: es) X.env = (false, eval e X.env) :: starEach es X.env := by rfl) (hpl : (backTo pos (starEach es X.env)).any (·.1) = false := by rfl) : PX X W (.Call (.Name "len" p) (e :: es) [] pos) (eCall gLen t) := px_callB call_len imp_len hm ha hg (by decide +kernel) (by decide) (by decide) he hpl
theorem pxc_abs (hc : X.calm = true) (hm : X.mg "abs" = none) (ha : PXA X W (e :: es) t) (hg : Gl X "abs" := by rfl) (he : starEach (e :: es) X.env = (false, eval e X.env) :: starEach es X.env := by rfl) (hpl : (backTo pos (starEach es X.env)).any (·.1) = false := by rfl) : PX X W (.Call (.Name "abs" p) (e :: es) [] pos) (eCall gAbs t) := px_callB call_abs imp_abs hm ha hg (by decide +kernel) (by decide) (by decide) he hpl
theorem pxc_divmod (hc : X.calm = true) (hm : X.mg "divmod" = none) (ha : PXA X W (e :: es) t) (hg : Gl X "divmod" := by rfl) (he : starEach (e :: es) X.env = (false, eval e X.env) :: starEach es X.env := by rfl) (hpl : (backTo pos (starEach es X.env)).any (·.1) = false := by rfl) : PX X W (.Call (.Name "divmod" p) (e :: es) [] pos) (eCall gDivmod t) := px_callB call_divmod imp_divmod hm ha hg (by decide +kernel) (by decide) (by decide) he hpl
theorem pxc_ord (hc : X.calm = true) (hm : X.mg "ord" = none) (ha : PXA X W (e :: es) t) (hg : Gl X "ord" := by rfl) (he : starEach (e :: es) X.env = (false, eval e X.env) :: starEach es X.env := by rfl) (hpl : (backTo pos (starEach es X.env)).any (·.1) = false := by rfl) : PX X W (.Call (.Name "ord" p) (e :: es) [] pos) (eCall gOrd t) := px_callB call_ord imp_ord hm ha hg (by decide +kernel) (by decide) (by decide) he hpl
theorem pxc_all (hc : X.calm = true) (hm : X.mg "all" = none) (ha : PXA X W (e :: es) t) (hg : Gl X "all" := by rfl) (he : starEach (e :: es) X.env = (false, eval e X.env) :: starEach es X.env := by rfl) (hpl : (backTo pos (starEach es X.env)).any (·.1) = false := by rfl) : PX X W (.Call (.Name "all" p) (e :: es) [] pos) (eCall gAll t) := px_callB (cr_all hc) imp_all hm ha hg (by decide +kernel) (by decide) (by decide) he hpl
theorem pxc_any (hc : X.calm = true) (hm : X.mg "any" = none) (ha : PXA X W (e :: es) t) (hg : Gl X "any" := by rfl) (he : starEach (e :: es) X.env = (false, eval e X.env) :: starEach es X.env := by rfl) (hpl : (backTo pos (starEach es X.env)).any (·.1) = false := by rfl) : PX X W (.Call (.Name "any" p) (e :: es) [] pos) (eCall gAny t) := px_callB (cr_any hc) imp_any hm ha hg (by decide +kernel) (by decide) (by decide) he hpl
theorem pxc_sum (hc : X.calm = true) (hm : X.mg "sum" = none) (ha : PXA X W (e :: es) t) (hg : Gl X "sum" := by rfl) (he : starEach (e :: es) X.env = (false, eval e X.env) :: starEach es X.env := by rfl) (hpl : (backTo pos (starEach es X.env)).any (·.1) = false := by rfl) : PX X W (.Call (.Name "sum" p) (e :: es) [] pos) (eCall gSum t) := px_callB (cr_sum hc) imp_sum hm ha hg (by decide +kernel) (by decide) (by decide) he hpl
theorem pxc_max (hc : X.calm = true) (hm : X.mg "max" = none) (ha : PXA X W (e :: es) t) (hg : Gl X "max" := by rfl) (he : starEach (e :: es) X.env = (false, eval e X.env) :: starEach es X.env := by rfl) (hpl : (backTo pos (starEach es X.env)).any (·.1) = false := by rfl) : PX X W (.Call (.Name "max" p) (e :: es) [] pos) (eCall gMax t) := px_callB (call_max2 hc) imp_max hm ha hg (by decide +kernel) (by decide) (by decide) he hpl
theorem pxc_min (hc : X.calm = true) (hm : X.mg "min" = none) (ha : PXA X W (e :: es) t) (hg : Gl X "min" := by rfl) (he : starEach (e :: es) X.env = (false, eval e X.env) :: starEach es X.env := by rfl) (hpl : (backTo pos (starEach es X.env)).any (·.1) = false := by rfl) : PX X W (.Call (.Name "min" p) (e :: es) [] pos) (eCall gMin t) := px_callB (call_min2 hc) imp_min hm ha hg (by decide +kernel) (by decide) (by decide) he hpl
theorem pxc_str (hc : X.calm = true) (hm : X.mg "str" = none) (ha : PXA X W (e :: es) t) (hg : Gl X "str" := by rfl) (he : starEach (e :: es) X.env = (false, eval e X.env) :: starEach es X.env := by rfl) (hpl : (backTo pos (starEach es X.env)).any (·.1) = false := by rfl) : PX X W (.Call (.Name "str" p) (e :: es) [] pos) (eCall gStr t) := px_callTy call_str_int imp_str hm ha hg (by decide +kernel) (by decide) (by decide) he hpl
theorem pxc_int (hc : X.calm = true) (hm : X.mg "int" = none) (ha : PXA X W (e :: es) t) (hg : Gl X "int" := by rfl) (he : starEach (e :: es) X.env = (false, eval e X.env) :: starEach es X.env := by rfl) (hpl : (backTo pos (starEach es X.env)).any (·.1) = false := by rfl) : PX X W (.Call (.Name "int" p) (e :: es) [] pos) (eCall gInt t) := px_callTy op_intG imp_int hm ha hg (by decide +kernel) (by decide) (by decide) he hpl
theorem pxc_tuple (hc : X.calm = true) (hm : X.mg "tuple" = none) (ha : PXA X W (e :: es) t) (hg : Gl X "tuple" := by rfl) (he : starEach (e :: es) X.env = (false, eval e X.env) :: starEach es X.env := by rfl) (hpl : (backTo pos (starEach es X.env)).any (·.1) = false := by rfl) : PX X W (.Call (.Name "tuple" p) (e :: es) [] pos) (eCall gTuple t) := px_callTy call_tuple_of imp_tuple hm ha hg (by decide +kernel) (by decide) (by decide) he hpl
theorem pxc_list (hc : X.calm = true) (hm : X.mg "list" = none) (ha : PXA X W (e :: es) t) (hg : Gl X "list" := by rfl) (he : starEach (e :: es) X.env = (false, eval e X.env) :: starEach es X.env := by rfl) (hpl : (backTo pos (starEach es X.env)).any (·.1) = false := by rfl) : PX X W (.Call (.Name "list" p) (e :: es) [] pos) (eCall gList t) := px_callTy call_list_of imp_list hm ha hg (by decide +kernel) (by decide) (by decide) he hpl
end
def sNeg (x : D) (h : Hy) : R (D × Hy) := match x with
  | .int i => .ok (.int (-i), h)
  | _ => .stuck
theorem px_strL {X : Cx} {W : WX} {pos : Pos} {j : Nat} {s : String} {cs : Tx} (e : s.toList = cs) : PX X W (.Constant (.str (Str.ofString s)) j pos) (eC (.str cs)) := by
  subst e
  exact px_str
def sBrk : FS := fun ρ h => .bk ρ h
def sCnt : FS := fun ρ h => .ct ρ h
section
variable {X : Cx} {W : WX} {pos p apos : Pos} {k : Nat} {a b c : Expr} {fa fb fc : FE} {x y z t : Str} {kt : Nat}
theorem imp_neg : Imp1 X.K W sNeg (rU fun i => .int (-i)) := by
  intro ι H h σ x vx Q hh rx g
  unfold sNeg at g
  split at g
  · cases rx
    exact ⟨_, rfl, g.same hh (.int _)⟩
  · exact g.elim
theorem px_neg (ha : PX X W a fa) : PX X W (.UnaryOp .USub a pos) (un sNeg fa) := px_un un_neg imp_neg ha
theorem pxs_pass : PXS X W (.Pass pos) bNil := ⟨PS.mono ps_pass fun D σ H ⟨ι, ρ, h, hρ, hh, g⟩ => g ι H σ Ext.refl hh hρ⟩
theorem pxs_brk : PXS X W (.Break pos) sBrk := ⟨PS.mono ps_break fun D σ H ⟨ι, ρ, h, hρ, hh, g⟩ => g ι H σ Ext.refl hh hρ⟩
theorem pxs_cnt : PXS X W (.Continue pos) sCnt := ⟨PS.mono ps_continue fun D σ H ⟨ι, ρ, h, hρ, hh, g⟩ => g ι H σ Ext.refl hh hρ⟩
theorem pg_one (i : Nat) (hN : X.N.Nodup) (hi : X.N[i]? = some x := by rfl) (hx : Loc X.env.scope x := by first | exact .inl rfl | exact .inr rfl) (hf : X.fn x = true ∨ X.env.scope.names.lookup x = some .local := by first | exact .inl rfl | exact .inr rfl) : PG X (.Name x pos) (gOf X.K (.one i)) := pg_name hN hi hx hf
theorem pg_many2 {p1 p2 : Pos} (i j : Nat) (hN : X.N.Nodup) (hc : X.calm = true) (hi : X.N[i]? = some x := by rfl) (hj : X.N[j]? = some y := by rfl) (hx : Loc X.env.scope x := by first | exact .inl rfl | exact .inr rfl) (hy : Loc X.env.scope y := by first | exact .inl rfl | exact .inr rfl)
    (hf : X.fn x = true ∨ X.env.scope.names.lookup x = some .local := by first | exact .inl rfl | exact .inr rfl) (hf2 : X.fn y = true ∨ X.env.scope.names.lookup y = some .local := by first | exact .inl rfl | exact .inr rfl) : PG X (.Tuple [.Name x p1, .Name y p2] kt pos) (gOf X.K (.many [i, j])) :=
  pg_tup hc (pgs_cons (pg_name hN hi hx hf) (pgs_cons (pg_name hN hj hy hf2) pgs_nil))
theorem pg_many3 {p1 p2 p3 : Pos} (i j l : Nat) (hN : X.N.Nodup) (hc : X.calm = true) (hi : X.N[i]? = some x := by rfl) (hj : X.N[j]? = some y := by rfl) (hl : X.N[l]? = some z := by rfl) (hx : Loc X.env.scope x := by first | exact .inl rfl | exact .inr rfl) (hy : Loc X.env.scope y := by first | exact .inl rfl | exact .inr rfl) (hz : Loc X.env.scope z := by first | exact .inl rfl | exact .inr rfl)
    (hf : X.fn x = true ∨ X.env.scope.names.lookup x = some .local := by first | exact .inl rfl | exact .inr rfl) (hf2 : X.fn y = true ∨ X.env.scope.names.lookup y = some .local := by first | exact .inl rfl | exact .inr rfl) (hf3 : X.fn z = true ∨ X.env.scope.names.lookup z = some .local := by first | exact .inl rfl | exact .inr rfl) :
    PG X (.Tuple [.Name x p1, .Name y p2, .Name z p3] kt pos) (gOf X.K (.many [i, j, l])) :=
  pg_tup hc (pgs_cons (pg_name hN hi hx hf) (pgs_cons (pg_name hN hj hy hf2) (pgs_cons (pg_name hN hl hz hf3) pgs_nil)))
end
/-- BlkOk, computed -/
def blkB (N : List Str) (sc scope : Scope) (own : List (Str × Nat)) : Bool :=
  decide (scope.kind = .function) && (scope.names.all (fun y => decide (scope.names.lookup y.1 = some y.2)) && (own.all (fun p => decide (N[p.2]? = some p.1)) &&
    (scope.names.all (fun y => !decide (y.2 = .free) || (decide (sc.names.lookup y.1 = some .cell) || decide (sc.names.lookup y.1 = some .free))) &&
      scope.names.all (fun y => !(decide (y.2 = .local) || decide (y.2 = .cell)) || (decide (y.1 ∈ own.map (·.1)) || !decide (y.1 ∈ N))))))
theorem blk_ok {N : List Str} {sc scope : Scope} {own : List (Str × Nat)} (h : blkB N sc scope own = true) : BlkOk N sc scope own := by
  unfold blkB at h
  simp only [Bool.and_eq_true, List.all_eq_true, decide_eq_true_eq, Bool.or_eq_true, Bool.not_eq_true', decide_eq_false_iff_not] at h
  obtain ⟨h1, h2, h3, h4, h5⟩ := h
  refine ⟨h1, h2, h3, fun y hy e => ?_, fun y hy e => ?_⟩
  · rcases h4 y hy with z | z
    · exact absurd e z
    · exact z
  · rcases h5 y hy with z | z
    · rcases e with e | e <;> simp [e] at z
    · exact z
end Px
namespace Px
open PySem PySem.Spec PyProof.Rows L2
/-! ## repr -/
def escC (q c : Char) : Tx := (Builtin.Str.reprChar q.toNat c.toNat).map Char.ofNat
def quoteOf (s : Tx) : Char := if decide ('\'' ∈ s) && !decide ('"' ∈ s) then '"' else '\''
def rtxS (s : Tx) : Tx := quoteOf s :: (s.flatMap (escC (quoteOf s)) ++ [quoteOf s])
mutual
/-- what repr shows -/
def T.rtx : T → Tx
  | .non => ['N', 'o', 'n', 'e']
  | .bl b => if b then ['T', 'r', 'u', 'e'] else ['F', 'a', 'l', 's', 'e']
  | .int i => num i
  | .str s => rtxS s
  | .lst xs => '[' :: (joinT [',', ' '] (T.rtxs xs) ++ [']'])
  | .tup xs => '(' :: (joinT [',', ' '] (T.rtxs xs) ++ if xs.length == 1 then [',', ')'] else [')'])
def T.rtxs : List T → List Tx
  | [] => []
  | x :: xs => x.rtx :: T.rtxs xs
end
mutual
/-- small ints, texts of ASCII -/
def T.shw : T → Bool
  | .non => true
  | .bl _ => true
  | .int i => decide (-115792089237316195423570985008687907853269984665640564039457584007913129639936 < i) && decide (i < 115792089237316195423570985008687907853269984665640564039457584007913129639936)
  | .str s => s.all fun c => decide (c.toNat < 128)
  | .lst xs => T.shws xs
  | .tup xs => T.shws xs
def T.shws : List T → Bool
  | [] => true
  | x :: xs => x.shw && T.shws xs
end
theorem rtxs_map : ∀ xs : List T, T.rtxs xs = xs.map T.rtx
  | [] => by simp [T.rtxs]
  | x :: xs => by simp [T.rtxs, rtxs_map xs]
def escOk (q n : Nat) : Bool := (Builtin.Str.reprChar q n).all fun k => decide ((Char.ofNat k).toNat = k)
theorem escOk_all : ((List.range 128).all fun n => escOk 34 n && escOk 39 n) = true := by decide +kernel
theorem cd_escC {q c : Char} (hq : q = '"' ∨ q = '\'') (hc : c.toNat < 128) : cd (escC q c) = Builtin.Str.reprChar q.toNat c.toNat := by
  have h := List.all_eq_true.mp escOk_all c.toNat (List.mem_range.mpr hc)
  simp only [Bool.and_eq_true] at h
  have h2 : escOk q.toNat c.toNat = true := by
    rcases hq with rfl | rfl
    · exact h.1
    · exact h.2
  unfold escOk at h2
  rw [List.all_eq_true] at h2
  unfold cd escC
  rw [List.map_map]
  refine (List.map_congr_left fun k hk => ?_).trans (List.map_id _)
  exact of_decide_eq_true (h2 k hk)
theorem fold_esc (q : Char) (hq : q = '"' ∨ q = '\'') : ∀ (s : Tx) (acc : Array Nat), (s.all fun c => decide (c.toNat < 128)) = true →
    ((cd s).foldl (fun out c => out ++ (Builtin.Str.reprChar q.toNat c).toArray) acc).toList = acc.toList ++ cd (s.flatMap (escC q))
  | [], acc, _ => by simp [cd]
  | c :: s, acc, h => by
    simp only [List.all_cons, Bool.and_eq_true, decide_eq_true_eq] at h
    have ih := fold_esc q hq s (acc ++ (Builtin.Str.reprChar q.toNat c.toNat).toArray) h.2
    have e : cd (c :: s) = c.toNat :: cd s := rfl
    rw [e, List.foldl_cons, ih, List.flatMap_cons, cd_append, cd_escC hq h.1]
    simp
theorem contains_cd (s : Tx) (c : Char) : (toS s).cps.contains c.toNat = decide (c ∈ s) := by
  have e : (toS s).cps.contains c.toNat = decide (c.toNat ∈ cd s) := by
    show (cd s).toArray.contains c.toNat = _
    rw [List.contains_toArray, List.contains_eq_mem]
  rw [e]
  exact decide_eq_decide.mpr mem_cd
theorem quote_cd (s : Tx) : reprQuote (toS s) = (quoteOf s).toNat := by
  unfold reprQuote quoteOf
  have e1 := contains_cd s '\''
  have e2 := contains_cd s '"'
  have n1 : ('\'' : Char).toNat = 39 := rfl
  have n2 : ('"' : Char).toNat = 34 := rfl
  rw [n1] at e1
  rw [n2] at e2
  rw [e1, e2]
  split <;> rfl
theorem rtxS_ok (s : Tx) (h : (s.all fun c => decide (c.toNat < 128)) = true) : toS (rtxS s) = reprText (toS s) := by
  refine (toS_eq ?_).symm
  unfold reprText
  rw [quote_cd]
  have hq : quoteOf s = '"' ∨ quoteOf s = '\'' := by unfold quoteOf; split <;> simp
  have hf := fold_esc (quoteOf s) hq s #[(quoteOf s).toNat] h
  show (Array.push (Array.foldl _ _ (cd s).toArray) _).toList = _
  rw [Array.toList_push, List.foldl_toArray' _ _ _ (by simp)] <;> try rfl
  rw [hf]
  simp [rtxS, cd]
theorem textFrom_toS : ∀ (ts : List Tx) (k : Nat) (acc : Tx), 0 < k → textFrom k (toS acc) (ts.map toS) = toS (acc ++ ts.flatMap fun t => [',', ' '] ++ t)
  | [], k, acc, _ => by
    show toS acc = _
    simp
  | t :: ts, k, acc, hk => by
    show textFrom (k + 1) (toS acc ++ ((if k > 0 then ", " else "" : String) : Str) ++ toS t) (ts.map toS) = _
    rw [if_pos hk]
    have e : ((", " : String) : Str) = toS [',', ' '] := by rw [← toS_lit]; simp
    rw [e, toS_append, toS_append, textFrom_toS ts (k + 1) _ (Nat.succ_pos k)]
    simp
theorem joinT_flat (sep : Tx) : ∀ (t : Tx) (ts : List Tx), joinT sep (t :: ts) = t ++ ts.flatMap fun u => sep ++ u
  | t, [] => by simp [joinT]
  | t, u :: ts => by
    show t ++ sep ++ joinT sep (u :: ts) = _
    rw [joinT_flat sep u ts]
    simp
theorem listText_toS : ∀ ts : List Tx, listText (ts.map toS) = toS ('[' :: (joinT [',', ' '] ts ++ [']']))
  | [] => by
    show (("[" : String) : Str) ++ (("]" : String) : Str) = _
    rw [← toS_lit, ← toS_lit, toS_append]
    simp [joinT]
  | t :: ts => by
    unfold listText
    show textFrom (0 + 1) ((("[" : String) : Str) ++ ((if 0 > 0 then ", " else "" : String) : Str) ++ toS t) (ts.map toS) ++ _ = _
    rw [if_neg (Nat.lt_irrefl 0), ← toS_lit, ← toS_lit, ← toS_lit, toS_append, toS_append, textFrom_toS ts _ _ (Nat.succ_pos 0), toS_append, joinT_flat]
    simp
theorem tupleText_toS (ts : List Tx) : tupleText (ts.map toS) = toS ('(' :: (joinT [',', ' '] ts ++ if ts.length == 1 then [',', ')'] else [')'])) := by
  unfold tupleText
  have e : ((", " : String) : Str) = toS [',', ' '] := by rw [← toS_lit]; simp
  have e2 : (("(" : String) : Str) = toS ['('] := by rw [← toS_lit]; simp
  rw [List.length_map, e, e2, join_toS, toS_append]
  cases (ts.length == 1) with
  | true =>
    have e3 : ((",)" : String) : Str) = toS [',', ')'] := by rw [← toS_lit]; simp
    rw [if_pos rfl, if_pos rfl, e3, toS_append]
    simp
  | false =>
    have e3 : ((")" : String) : Str) = toS [')'] := by rw [← toS_lit]; simp
    rw [if_neg Bool.false_ne_true, if_neg Bool.false_ne_true, e3, toS_append]
    simp
mutual
theorem T.rtx_ok : ∀ t : T, t.shw = true → toS t.rtx = t.toP.shown
  | .non, _ => by
    simp only [T.rtx, T.toP, PyData.shown]
    rw [← toS_lit]
    simp
  | .bl b, _ => by
    simp only [T.rtx, T.toP, PyData.shown]
    cases b with
    | true => rw [if_pos rfl, if_pos rfl, ← toS_lit]; simp
    | false => rw [if_neg Bool.false_ne_true, if_neg Bool.false_ne_true, ← toS_lit]; simp
  | .int i, _ => by
    simp only [T.rtx, T.toP, PyData.shown]
    exact toS_num i
  | .str s, h => by
    simp only [T.rtx, T.toP, PyData.shown]
    exact rtxS_ok s (by simpa [T.shw] using h)
  | .lst xs, h => by
    simp only [T.rtx, T.toP, PyData.shown]
    rw [T.rtxs_ok xs (by simpa [T.shw] using h), listText_toS]
  | .tup xs, h => by
    simp only [T.rtx, T.toP, PyData.shown]
    rw [T.rtxs_ok xs (by simpa [T.shw] using h), tupleText_toS, rtxs_map, List.length_map]
theorem T.rtxs_ok : ∀ ts : List T, T.shws ts = true → PyData.shownAll (T.toPs ts) = (T.rtxs ts).map toS
  | [], _ => by simp [T.toPs, PyData.shownAll, T.rtxs]
  | t :: ts, h => by
    simp only [T.shws, Bool.and_eq_true] at h
    simp only [T.toPs, PyData.shownAll, T.rtxs, List.map_cons]
    rw [T.rtx_ok t h.1, T.rtxs_ok ts h.2]
end
mutual
theorem T.shw_show : ∀ t : T, t.shw = true → t.toP.showable = true
  | .non, _ => by simp [T.toP, PyData.showable]
  | .bl _, _ => by simp [T.toP, PyData.showable]
  | .int i, h => by
    simp only [T.shw, Bool.and_eq_true, decide_eq_true_eq] at h
    simp only [T.toP, PyData.showable, decide_eq_true_eq]
    exact Nat.lt_trans (log_big h.1 h.2) (by decide)
  | .str _, _ => by simp [T.toP, PyData.showable]
  | .lst xs, h => by
    simp only [T.toP, PyData.showable]
    exact T.shws_show xs (by simpa [T.shw] using h)
  | .tup xs, h => by
    simp only [T.toP, PyData.showable]
    exact T.shws_show xs (by simpa [T.shw] using h)
theorem T.shws_show : ∀ ts : List T, T.shws ts = true → PyData.showableAll (T.toPs ts) = true
  | [], _ => by simp [T.toPs, PyData.showableAll]
  | t :: ts, h => by
    simp only [T.shws, Bool.and_eq_true] at h
    simp only [T.toPs, PyData.showableAll, Bool.and_eq_true]
    exact ⟨T.shw_show t h.1, T.shws_show ts h.2⟩
end
def gRepr (xs : List D) (h : Hy) : R (D × Hy) := match xs with
  | [x] => match vw h 24 x with
    | some t => if t.shw = true ∧ t.rtx.length ≤ 16777216 then .ok (.str t.rtx, h) else .stuck
    | none => .stuck
  | _ => .stuck
def rRepr (K : PySem.W.Frag) : List V → Hp → VK → Prop := fun xs H Q => ∃ v d, xs = [v] ∧ Dp K H v d ∧ d.showable = true ∧ d.canLay0 = true ∧ d.depth ≤ 24 ∧ d.shown.length ≤ sizeLine ∧ Q (.str d.shown) H
theorem call_repr {X : Cx} (hu : X.A.units + 65 < cLine) (hg : X.A.guards = some []) : CallR X (.builtin "repr") (rRepr X.K) := by
  intro pins s σ H xs us Q I r hq
  obtain ⟨v, d, rfl, hd, hs, hc, hdep, hz, q⟩ := hq
  cases r with
  | cons r1 r2 =>
    cases r2
    rename_i u
    obtain ⟨as, rd⟩ := Dp.reads I d v u hd r1
    have nd : d.hasDict = true → sysModules ∉ as := PyData.noDict_hsm (PyData.hasDict_of_canLay d hc)
    have done : ∀ (h' : Heap) (t : Tok) (tk : Nat), (∀ b o, s.heap.get? b = some o → h'.get? b = some o) → EP X pins σ Q (.str d.shown t) { s with heap := h', toks := tk } := fun h' t tk k =>
      ⟨.str d.shown, H, I.kept k, ⟨_, rfl⟩, q⟩
    cases v with
    | ref a =>
      cases r1
      exact repr_of_reads' rd hs nd hg (by omega) (fun _ _ e => e) (fun h' t tk k => done h' t tk k) hz
    | non =>
      cases hd
      cases r1
      exact P.repr_of_none (done s.heap _ _ fun _ _ e => e)
    | bl b =>
      cases hd
      cases r1
      refine P.repr_of_bool ?_
      have z := done s.heap s.toks (s.toks + 1) fun _ _ e => e
      simp only [PyData.shown] at z
      exact z
    | int i =>
      cases hd
      obtain ⟨t, rfl⟩ := r1
      simp only [PyData.showable, decide_eq_true_eq] at hs
      refine P.repr_of_int hs ?_
      have z := done s.heap s.toks (s.toks + 1) fun _ _ e => e
      simp only [PyData.shown] at z
      exact z
    | str x =>
      cases hd
      obtain ⟨t, rfl⟩ := r1
      simp only [PyData.shown] at hz
      refine P.repr_of_str ?_ hz
      have z := done s.heap s.toks (s.toks + 1) fun _ _ e => e
      simp only [PyData.shown] at z
      exact z
    | _ => cases hd
theorem imp_repr {X : Cx} {W : WX} : ImpL X.K W gRepr (rRepr X.K) := by
  intro ι H h σ xs vs Q hh rs g
  unfold gRepr at g
  split at g
  · split at g
    · rename_i t ht
      split at g
      · rename_i hz
        cases rs with
        | cons r rs =>
          cases rs
          have e := vw_dp ht
          obtain ⟨c, d⟩ := dp_shape _ _ _ e
          refine ⟨_, t.toP, rfl, Dp_of hh _ _ _ _ r e, T.shw_show t hz.1, c, d, ?_, ?_⟩
          · rw [← T.rtx_ok t hz.1, toS_length]
            exact hz.2
          · rw [← T.rtx_ok t hz.1]
            exact g.same hh (.str _)
      · exact g.elim
    · exact g.elim
  · exact g.elim
section
variable {X : Cx} {W : WX} {pos p apos : Pos} {k : Nat} {e : Expr} {es : List Expr} {t : FA}
theorem pxc_repr (hr : Room k X.A) (gd : X.A.guards = some []) (hm : X.mg "repr" = none) (ha : PXA X W (e :: es) t) (hg : Gl X "repr" := by rfl) (he : starEach (e :: es) X.env = (false, eval e X.env) :: starEach es X.env := by rfl) (hpl : (backTo pos (starEach es X.env)).any (·.1) = false := by rfl) :
    PX X W (.Call (.Name "repr" p) (e :: es) [] pos) (eCall gRepr t) := px_callB (call_repr (hu65 hr) gd) imp_repr hm ha hg (by decide +kernel) (by decide) (by decide) he hpl
end
/-! ## tuple(text) -/
theorem sign_vals {z : Str} : ∀ (l : List Nat) (k : Nat) (us : List Value), us.length = l.length → (∀ (j : Nat) (v : Value), us[j]? = some v → ∃ (c : Nat) (t : Tok), l[j]? = some c ∧ v = Value.str ⟨#[c]⟩ t) → Vals (l.map fun c => V.str ⟨#[c]⟩) us
  | [], _, [], _, _ => .nil
  | [], _, _ :: _, h, _ => by simp at h
  | _ :: _, _, [], h, _ => by simp at h
  | c :: l, k, u :: us, h, hv => by
    obtain ⟨c', t, e1, e2⟩ := hv 0 u rfl
    have e1 : c = c' := by simpa using e1
    subst e1 e2
    exact .cons ⟨t, rfl⟩ (sign_vals (z := z) l k us (by simpa using h) fun j v e => by simpa using hv (j + 1) v (by simpa using e))
def rTupStr : List V → Hp → VK → Prop := fun xs H Q => ∃ z : Str, xs = [.str z] ∧ z.length ≤ sizeLine ∧ ∀ l, H l = none → Q (.ref l) (upd H l (.tup (z.cps.toList.map fun c => V.str ⟨#[c]⟩)))
theorem call_tuple_txt {X : Cx} (hc : X.calm = true) : CallR X (.type "tuple") rTupStr := by
  intro pins s σ H xs us Q I r hq
  obtain ⟨z, rfl, hz, q⟩ := hq
  cases r with
  | cons r1 r2 =>
    cases r2
    obtain ⟨t, rfl⟩ := r1
    refine call_tuple_str (I.ok.hd hc) z t (fun h' tk acc kp it => ?_) hz
    have I1 : Inv X pins σ H { s with heap := h', toks := tk } := I.kept (t' := tk) kp
    have len : acc.toList.length = z.cps.toList.length := by simpa using it.1
    have vals : Vals (z.cps.toList.map fun c => V.str ⟨#[c]⟩) acc.toList := sign_vals (z := z) z.cps.toList 0 acc.toList len fun j v e => by
      obtain ⟨c, u, e1, e2⟩ := it.2 j v (by simpa using e)
      exact ⟨c, u, by simpa using e1, e2⟩
    have I2 : Inv X pins σ (upd H h'.objs.size (.tup (z.cps.toList.map fun c => V.str ⟨#[c]⟩))) { s with heap := h'.push { cls := .type "tuple", data := .seq acc }, toks := tk } :=
      I1.laid (t' := tk) (fun b o e => Heap.get?_push_of_some _ e) (Nat.le_refl _) (show ObjOk X.prog X.w _ _ _ (.tup _) from ⟨by rw [List.length_map, Array.length_toList]; exact hz, acc.toList, vals, by
        have := IsTup.new h' acc
        simpa using this⟩)
    exact ⟨.ref h'.objs.size, _, I2, rfl, q _ (I1.hok.fresh (Nat.le_refl _))⟩
def gTupleG (xs : List D) (h : Hy) : R (D × Hy) := match xs with
  | [.str s] => if s.length ≤ 16777216 then .ok (.tup (s.map fun c => D.str [c]), h) else .stuck
  | _ => gTuple xs h
theorem reps_signs {K : PySem.W.Frag} {ι : List Addr} {H : Hp} : ∀ s : Tx, Reps K ι H ((cd s).map fun c => V.str ⟨#[c]⟩) (s.map fun c => D.str [c])
  | [] => .nil
  | c :: s => .cons (.str [c]) (reps_signs s)
theorem imp_tupleG {X : Cx} {W : WX} : ImpL X.K W gTupleG (fun xs H Q => rTupStr xs H Q ∨ ∃ p ys, xs = [.ref p] ∧ ((SqL X.K H p ys ∧ ∀ l, H l = none → Q (.ref l) (upd H l (.tup ys))) ∨ (SqT X.K H p ys ∧ Q (.ref p) H))) := by
  intro ι H h σ xs vs Q hh rs g
  unfold gTupleG at g
  split at g
  · rename_i s
    split at g
    · rename_i hz
      cases rs with
      | cons r rs =>
        cases rs
        cases r
        refine .inl ⟨_, rfl, by rw [toS_length]; exact hz, fun l hl => ?_⟩
        obtain ⟨e1, h1⟩ := hh.put (o := .tup ((cd s).map fun c => V.str ⟨#[c]⟩)) hl
        exact g ι _ _ e1 h1 (.tup (.inl (.inl upd_same)) (reps_signs s))
    · exact g.elim
  · exact .inr (imp_tuple (X := X) (W := W) ι H h σ xs vs Q hh rs g)
/-! ## sep.join(text) -/
def mJoinG (x : D) (xs : List D) (h : Hy) : R (D × Hy) := match x, xs with
  | .str s, [.str t] => if t.length + t.length * s.length ≤ 16777216 then .ok (.str (joinT s (t.map fun c => [c])), h) else .stuck
  | _, _ => mJoin x xs h
def rJoinStr : V → List V → Hp → VK → Prop := fun x xs H Q => ∃ a b : Str, x = .str a ∧ xs = [.str b] ∧ b.length + b.length * a.length ≤ 16777216 ∧ Q (.str (Txt.join a (PyProof.Rows.signs b))) H
theorem signs_toS (t : Tx) : PyProof.Rows.signs (toS t) = (t.map fun c => [c]).map toS := by
  unfold PyProof.Rows.signs
  show ((cd t).toArray.toList.map _) = _
  simp [cd, toS]
theorem mt_joinStr {X : Cx} (hc : X.calm = true) : MtR X "str.join" rJoinStr := by
  intro pins s σ H x xs v us Q I rx rs hq
  obtain ⟨a, b, rfl, rfl, hz, q⟩ := hq
  obtain ⟨t, rfl⟩ := rx
  cases rs with
  | cons r1 rs =>
    cases rs
    obtain ⟨u, rfl⟩ := r1
    refine SC.joinStr (I.ok.hd hc) (joinOk_of ?_) fun h' k t' kp => ⟨.str _, H, I.kept (t' := k) kp, ⟨t', rfl⟩, q⟩
    have e : ((PyProof.Rows.signs b).map (·.length)).sum = b.cps.toList.length := signLens_sum b.cps.toList
    have e2 : (PyProof.Rows.signs b).length = b.cps.toList.length := by simp [PyProof.Rows.signs]
    have e3 : b.length = b.cps.toList.length := by rw [Array.length_toList]; rfl
    rw [e, e2, ← e3]
    exact hz
theorem imp_joinG {X : Cx} {W : WX} : ImpM X.K W mJoinG (fun x xs H Q => rJoinStr x xs H Q ∨ ∃ a p, ∃ ys : List Str, x = .str a ∧ xs = [.ref p] ∧ (SqL X.K H p (ys.map V.str) ∨ SqT X.K H p (ys.map V.str)) ∧
      (ys.map (·.length)).sum + ys.length * a.length ≤ 16777216 ∧ Q (.str (Txt.join a ys)) H) := by
  intro ι H h σ x v xs vs Q hh rx rs g
  unfold mJoinG at g
  split at g
  · rename_i s t
    split at g
    · rename_i hz
      cases rx
      cases rs with
      | cons r rs =>
        cases rs
        cases r
        refine .inl ⟨_, _, rfl, rfl, by rw [toS_length, toS_length]; exact hz, ?_⟩
        have e : Txt.join (toS s) (PyProof.Rows.signs (toS t)) = toS (joinT s (t.map fun c => [c])) := by
          rw [signs_toS]
          rw [TL.join_eq, join_toS]
        rw [e]
        exact g.same hh (.str _)
    · exact g.elim
  · exact .inr (imp_join (X := X) (W := W) ι H h σ x v xs vs Q hh rx rs g)
section
variable {X : Cx} {W : WX} {pos apos : Pos} {o e : Expr} {fo fe : FE}
theorem px_joinG (hc : X.calm = true) (ho : PX X W o fo) (he : PX X W e fe) (hs : starEach [e] X.env = [(false, eval e X.env)] := by rfl) (hbase : attributeBase o "join" X.env (eval o X.env) = eval o X.env := by rfl) (hline : (apos.endLine == pos.line) = true := by rfl) :
    PX X W (.Call (.Attribute o "join" apos) [e] [] pos) (eM1 mJoinG fo fe) := px_m1 F.slot_str_join F.type_str_join ((mt_joinStr hc).or mt_join) imp_joinG ho he hs hbase hline
end
/-! ## more methods of texts -/
section
variable {X : Cx} {W : WX} {pos p apos : Pos} {k : Nat} {o e : Expr} {es : List Expr} {t : FA} {fo fe : FE}
theorem pxc_tupleG (hc : X.calm = true) (hm : X.mg "tuple" = none) (ha : PXA X W (e :: es) t) (hg : Gl X "tuple" := by rfl) (he : starEach (e :: es) X.env = (false, eval e X.env) :: starEach es X.env := by rfl) (hpl : (backTo pos (starEach es X.env)).any (·.1) = false := by rfl) :
    PX X W (.Call (.Name "tuple" p) (e :: es) [] pos) (eCall gTupleG t) := px_callTy ((call_tuple_txt hc).or call_tuple_of) imp_tupleG hm ha hg (by decide +kernel) (by decide) (by decide) he hpl
end
end Px
namespace Px
open PySem PySem.Spec PyProof.Rows L2
/-! ## defs with keyword-only parameters -/
structure PXK (X : Cx) (W : WX) (kws : List Keyword) (f : FA) : Prop where
  pk : PK X kws (tA X.K W f)
theorem PK.mono {X : Cx} {kws : List Keyword} {t t' : TA} (h : PK X kws t) (hi : ∀ σ H Q, t' σ H Q → t σ H Q) : PK X kws t' := ⟨fun pos pins s σ H Q I q => h.run pos pins s σ H Q I (hi _ _ _ q)⟩
def eCallK (f : FD) (ta tk : FA) : FE := fun ρ h => (ta ρ h).bind fun p => (tk ρ p.2).bind fun q => f (p.1 ++ q.1) q.2
def eCallD (f : FD) (dd : List D) (ta : FA) : FE := fun ρ h => (ta ρ h).bind fun p => f (p.1 ++ dd) p.2
/-- n positional parameters, then those of the keywords ks, with the defaults dd -/
def CalK (P : Program) (w : World) (K : PySem.W.Frag) (mg : Str → Option Value) (base : Heap) (k : Nat) (x : Str) (n : Nat) (ks : List Str) (dd : List D) (f : FD) : Prop :=
  ∃ fa fd ps, FnG P w K mg base k fa fd ps (spF K (n + ks.length) f) ∧ mg x = some (.ref fa) ∧ PySem.W.keepIn K (.ref fa) = true ∧ (∃ dvs ds, Vals dvs ds ∧ (∀ ι H, Reps K ι H dvs dd) ∧ Binds K fd ps ds) ∧
    (∀ (s : Shared) (us ws : List Value), us.length = n → ws.length = ks.length → BindsTo s fd ⟨us, ks.zip ws⟩ (ps.zip (us ++ ws))) ∧ ∀ ds h, ds.length ≠ n + ks.length → f ds h = .stuck
section
variable {X : Cx} {W : WX} {j k n : Nat} {fa : Addr} {fd : FuncData} {ps ks : List Str} {f : FD} {dd : List D} {x : Str} {p pos kpos : Pos} {e : Expr} {es : List Expr} {kws : List Keyword} {ta tk : FA} {nm : Str} {fe : FE}
theorem pxk_nil : PXK X W [] aNil := ⟨PK.mono pk_nil fun σ H Q ⟨ι, ρ, h, hρ, hh, g⟩ => g ι H [] Ext.refl hh .nil⟩
theorem pxk_cons (ha : PX X W e fe) (hr : PXK X W kws tk) : PXK X W (⟨some nm, e, kpos⟩ :: kws) (aCons fe tk) := by
  refine ⟨PK.mono (pk_cons ha.pe hr.pk) fun σ H Q ⟨ι, ρ, h, hρ, hh, g⟩ => ?_⟩
  refine tE_seqA hρ hh g fun p ι1 H1 v1 e1 h1 r1 hρ1 q1 => tA_seqA hρ1 h1 q1 fun p2 ι2 H2 vs e2 h2 r2 hρ2 q2 => ?_
  exact q2 ι2 H2 (v1 :: vs) Ext.refl h2 (.cons (r1.ext e2) r2)
theorem run_gk {us ws : List Value} {vs zs : List V} {σ : L2.St} {H : Hp} {Q : VK} {s : Shared} {pins : List (Addr × Obj)} {sp : Sp} (F : FnG X.prog X.w X.K X.mg X.base k fa fd ps sp) (tk : Takes X W) (hr : Room k X.A) (gd : X.A.guards = some [])
    (hb : ∀ (s : Shared) (us ws : List Value), us.length = n → ws.length = ks.length → BindsTo s fd ⟨us, ks.zip ws⟩ (ps.zip (us ++ ws)))
    (I : Inv X pins σ H s) (r : Vals vs us) (rz : Vals zs ws) (l1 : vs.length = n) (l2 : zs.length = ks.length) (h : sp (vs ++ zs) H Q fun c d H => W c d σ H) : wpAny (model X.prog X.w) X.A (PySem.call (.ref fa) us (ks.zip ws)) (EP X pins σ Q) X.xe s := by
  refine wpAny_call (codeAny_mono (F.go X.A X.stack s H ⟨us, ks.zip ws⟩ (us ++ ws) (vs ++ zs) Q _ hr gd I.env0 (hb s us ws (r.length.symm.trans l1) (rz.length.symm.trans l2)) (r.append rz) h) fun out s2 z => ?_)
  match out, z with
  | .error e, z => exact passAt tk σ pins H s e s2 I z
  | .ok (.ret u), z => exact I.after z
  | .ok .next, z => exact z.elim
  | .ok .brk, z => exact z.elim
  | .ok .cont, z => exact z.elim
/-- f(e, .., k = v, ..) -/
theorem px_callK (C : CalK X.prog X.w X.K X.mg X.base j x n ks dd f) (tk' : Takes X W) (hr : Room k X.A) (gd : X.A.guards = some []) (ha : PXA X W (e :: es) ta) (hkw : PXK X W kws tk) (hn : (e :: es).length = n) (hjk : j ≤ k := by decide)
    (la : ∀ ρ h p, ta ρ h = .ok p → p.1.length = n) (lk : ∀ ρ h p, tk ρ h = .ok p → p.1.length = ks.length)
    (hg : Gl X x := by rfl) (hall : (backToKw pos (keywordEach kws X.env)).all (·.1.isSome) = true := by rfl) (hks : (backToKw pos (keywordEach kws X.env)).filterMap (·.1) = ks := by rfl)
    (hdb : (x == ("__debug__" : Str)) = false := by decide) (he : starEach (e :: es) X.env = (false, eval e X.env) :: starEach es X.env := by rfl)
    (hpl : ((backTo pos (starEach (e :: es) X.env)).any (·.1) || (backToKw pos (keywordEach kws X.env)).any (·.1.isNone)) = false := by rfl) :
    PX X W (.Call (.Name x p) (e :: es) kws pos) (eCallK f ta tk) := by
  obtain ⟨fa, fd, ps, F, hm, hk, _, hb, hl⟩ := C
  refine ⟨⟨fun pins s σ H Q I hq => ?_⟩⟩
  have hq : tE X.K W (eCallK f ta tk) σ H Q := hq
  refine wpAny_Call_Name_kw (ld_glob I hg hm ?_ hdb)
  have args : tA X.K W ta σ H fun vs H1 => vs.length = n ∧ tA X.K W tk σ H1 fun zs H2 => zs.length = ks.length ∧ spF X.K (n + ks.length) f (vs ++ zs) H2 Q fun c d H => W c d σ H := by
    obtain ⟨ι, ρ, h, hρ, hh, q⟩ := hq
    have q : Good ((ta ρ h).bind fun p => (tk ρ p.2).bind fun q => f (p.1 ++ q.1) q.2) (VW X.K ι H Q) (XW X.K W ι σ H) := q
    cases e1 : ta ρ h with
    | stuck => rw [e1] at q; exact q.elim
    | exc c d h1 => rw [e1] at q; exact ⟨ι, ρ, h, hρ, hh, by rw [e1]; exact q⟩
    | ok p1 =>
      rw [e1] at q
      refine ⟨ι, ρ, h, hρ, hh, ?_⟩
      rw [e1]
      intro ι1 H1 vs x1 h1 r1
      refine ⟨by rw [r1.length]; exact la _ _ _ e1, ι1, ρ, p1.2, hρ.ext x1, h1, ?_⟩
      have q : Good ((tk ρ p1.2).bind fun q => f (p1.1 ++ q.1) q.2) (VW X.K ι H Q) (XW X.K W ι σ H) := q
      cases e2 : tk ρ p1.2 with
      | stuck => rw [e2] at q; exact q.elim
      | exc c d h2 => rw [e2] at q; exact (XW.ext (x := q) x1)
      | ok p2 =>
        rw [e2] at q
        intro ι2 H2 zs x2 h2 r2
        refine ⟨by rw [r2.length]; exact lk _ _ _ e2, ?_, ι2, p1.1 ++ p2.1, p2.2, (r1.ext x2).append r2, h2, ?_⟩
        · rw [List.length_append, r1.length, r2.length, la _ _ _ e1, lk _ _ _ e2]
        · have q : Good (f (p1.1 ++ p2.1) p2.2) (VW X.K ι H Q) (XW X.K W ι σ H) := q
          refine q.mono (fun a z => (z.ext x1).ext x2) fun c d h' z => ?_
          have z := (z.ext x1).ext x2
          intro ι3 H3 x3 r3
          have z := z ι3 H3 x3 r3
          cases d with
          | none => exact z
          | some u => exact z
  refine PySem.W.callWith_KW (h₀ := X.base) I.ok.mod.kin hk hall (thn (ha.pa.run pos pins s σ H _ I args) fun us s1 ⟨vs, H1, I1, r, l1, q⟩ => ?_) hpl he
  refine thn (hkw.pk.run pos pins s1 σ H1 _ I1 q) fun ws s2 ⟨zs, H2, I2, rz, l2, q2⟩ => ⟨I2.kIn, ?_⟩
  rw [hks]
  exact run_gk F tk' (hr.mono hjk) gd hb I2 r rz l1 l2 q2
/-- f(e, ..), the keyword-only ones by their defaults -/
theorem px_callD (C : CalK X.prog X.w X.K X.mg X.base j x n ks dd f) (tk : Takes X W) (hr : Room k X.A) (gd : X.A.guards = some []) (ha : PXA X W (e :: es) ta) (hjk : j ≤ k := by decide)
    (hg : Gl X x := by rfl) (hdb : (x == ("__debug__" : Str)) = false := by decide) (he : starEach (e :: es) X.env = (false, eval e X.env) :: starEach es X.env := by rfl) (hpl : (backTo pos (starEach es X.env)).any (·.1) = false := by rfl) :
    PX X W (.Call (.Name x p) (e :: es) [] pos) (eCallD f dd ta) := by
  obtain ⟨fa, fd, ps, F, hm, hk, ⟨dvs, ds, rd, rp, hb⟩, _, hl⟩ := C
  refine ⟨⟨fun pins s σ H Q I hq => ?_⟩⟩
  have hq : tE X.K W (eCallD f dd ta) σ H Q := hq
  refine wpAny_Call_Name_kw (ld_glob I hg hm ?_ hdb)
  have args : tA X.K W ta σ H fun vs H1 => spF X.K (n + ks.length) f (vs ++ dvs) H1 Q fun c d H => W c d σ H := by
    obtain ⟨ι, ρ, h, hρ, hh, q⟩ := hq
    refine tA_seqV hρ hh q fun p ι1 H1 vs e1 h1 r1 hρ1 q1 => ⟨?_, ι1, p.1 ++ dd, p.2, r1.append (rp _ _), h1, q1.mono (fun _ z => z) fun c d h z => ?_⟩
    · rw [List.length_append, r1.length, (rp ι1 H1).length, ← List.length_append]
      by_cases hn : (p.1 ++ dd).length = n + ks.length
      · exact hn
      · rw [hl _ _ hn] at q1
        exact q1.elim
    · intro ι2 H2 e2 r2
      have z := z ι2 H2 e2 r2
      cases d with
      | none => exact z
      | some u => exact z
  refine PySem.W.callWith_K (h₀ := X.base) I.ok.mod.kin hk (thn (ha.pa.run pos pins s σ H _ I args) fun us s1 ⟨vs, H1, I1, r, q⟩ => ⟨I1.kIn, ?_⟩) he hpl
  have many : (us ++ ds).length = ps.length := (r.append rd).length.symm.trans (F.args _ _ _ _ q)
  refine wpAny_call (codeAny_mono (F.go X.A X.stack s1 H1 ⟨us, []⟩ (us ++ ds) (vs ++ dvs) Q _ (hr.mono hjk) gd I1.env0 (hb s1 us I1.kIn many) (r.append rd) q) fun out s2 z => ?_)
  match out, z with
  | .error e, z => exact passAt tk σ pins H1 s1 e s2 I1 z
  | .ok (.ret u), z => exact I1.after z
  | .ok .next, z => exact z.elim
  | .ok .brk, z => exact z.elim
  | .ok .cont, z => exact z.elim
end
theorem alen_nil : ∀ (ρ : Env) (h : Hy) p, aNil ρ h = .ok p → p.1.length = 0 := fun ρ h p e => by cases e; rfl
theorem alen_cons {f : FE} {t : FA} {n : Nat} (ht : ∀ ρ h p, t ρ h = .ok p → p.1.length = n) : ∀ (ρ : Env) (h : Hy) p, aCons f t ρ h = .ok p → p.1.length = n + 1 := fun ρ h p e => by
  have e : ((f ρ h).bind fun p => (t ρ p.2).bind fun q => .ok (p.1 :: q.1, q.2)) = .ok p := e
  cases e1 : f ρ h with
  | stuck => rw [e1] at e; cases e
  | exc => rw [e1] at e; cases e
  | ok a =>
    rw [e1] at e
    have e : ((t ρ a.2).bind fun q => .ok (a.1 :: q.1, q.2)) = .ok p := e
    cases e2 : t ρ a.2 with
    | stuck => rw [e2] at e; cases e
    | exc => rw [e2] at e; cases e
    | ok b =>
      rw [e2] at e
      cases e
      show (a.1 :: b.1).length = _
      rw [List.length_cons, ht _ _ _ e2]
/-- a def with keyword-only parameters -/
theorem calK_of {P : Program} {w : World} {K : PySem.W.Frag} {mg : Str → Option Value} {base : Heap} {x name qual : Str} {params : Arguments} {body : List Stmt} {scope : Scope} {kws : List (Str × V)} {f : Addr} {N ps : List Str} {k : Nat} {b : FS} {dd : List D}
    (F : ∃ fd, FunD K name qual params body scope [] kws f fd) (hm : mg x = some (.ref f)) (S : FnScope N ps scope) (n : Nat) (ks : List Str) (hn : ps.length = n + ks.length) (hk : kws ≠ []) (hn2 : n + kws.length = ps.length) (hd : ∀ ι H, Reps K ι H (kws.map (·.2)) dd)
    (hdef : ∀ (D : Addr) (doc pm : Value) (an : Option Addr) (cdv ct : Value) (us vs : List Value), us.length = n → vs.length = kws.length → KwChain D ((kws.map (·.1)).zip vs) (bindArgs (PySem.W.fnOf name qual params body scope .none (.ref D) doc pm an cdv ct) ⟨us, []⟩) (ps.zip (us ++ vs)))
    (hkw : ∀ (kV doc pm : Value) (an : Option Addr) (cdv ct : Value) (us ws : List Value), us.length = n → ws.length = ks.length → bindArgs (PySem.W.fnOf name qual params body scope .none kV doc pm an cdv ct) ⟨us, ks.zip ws⟩ = pure (ps.zip (us ++ ws)))
    (hb : ∀ (cdv : Value) (A : Around) (outer : List PySem.Env) (s : Shared) (H : Hp) (E : XK), Up k (bodyX P w K mg base N qual scope f cdv A outer s H E) (WK E) → PXB (bodyX P w K mg base N qual scope f cdv A outer s H E) (WK E) body b) :
    CalK P w K mg base (k + 1) x n ks dd (defD (n + ks.length) N.length b) := by
  obtain ⟨fd, F⟩ := F
  obtain ⟨ds, rd, bd⟩ := F.binds0 n hk hn2 hdef
  rw [← hn]
  refine ⟨f, fd, ps, ?_, hm, F.kp, ⟨_, ds, rd, hd, bd⟩, fun s us ws l1 l2 => ?_, fun ds h z => defD_len ds h (by rw [hn]; exact z)⟩
  · rw [← hn]
    exact fnD_ok F S hb
  · obtain ⟨oc, od, dV, kV, doc, pm, an, cdv, ct, osl, rfl, _, _, hD, _⟩ := F.ex
    rcases hD with ⟨_, rfl⟩ | ⟨z, _⟩
    · exact .of_eq (hkw kV doc pm an cdv ct us ws l1 l2)
    · exact absurd rfl z
/-! ## reverse -/
def mReverse (x : D) (xs : List D) (h : Hy) : R (D × Hy) := match x, xs with
  | .ref n, [] => match h[n]? with
    | some (.lst ds) => .ok (.non, h.set n (.lst ds.reverse))
    | _ => .stuck
  | _, _ => .stuck
theorem Reps.reverse {K : PySem.W.Frag} {ι : List Addr} {H : Hp} : ∀ {vs : List V} {ds : List D}, Reps K ι H vs ds → Reps K ι H vs.reverse ds.reverse
  | _, _, .nil => .nil
  | _, _, .cons h r => by rw [List.reverse_cons, List.reverse_cons]; exact (Reps.reverse r).append (.one h)
theorem imp_reverse {X : Cx} {W : WX} : ImpM X.K W mReverse rReverse := by
  intro ι H h σ x v xs vs Q hh rx rs g
  unfold mReverse at g
  split at g
  · split at g
    · rename_i n _ ds e
      cases rx with
      | ref hn =>
        cases rs
        obtain ⟨ws, hv, rw'⟩ := hh.at_ _ _ _ hn e
        exact ⟨_, _, rfl, rfl, hv, VW.set g hh hn rw'.reverse .non⟩
    · exact g.elim
  · exact g.elim
theorem mt_rev {X : Cx} : MtR X "list.reverse" rReverse := mt_reverse
end Px
namespace Px
open PySem PySem.Spec PyProof.Rows L2
/-! ## sorted, of texts -/
def leT (a b : Tx) : Bool := !ltCps (cd b) (cd a)
theorem leT_iff {a b : Tx} : leT a b = true ↔ cd a ≤ cd b := by
  unfold leT
  rw [ltCps_eq, Bool.not_eq_true', decide_eq_false_iff_not, List.not_lt]
theorem leT_total (a b : Tx) : leT a b = true ∨ leT b a = true := by
  rw [leT_iff, leT_iff]; exact List.le_total _ _
theorem leT_trans {a b c : Tx} (h : leT a b = true) (h' : leT b c = true) : leT a c = true := by
  rw [leT_iff] at *; exact List.le_trans h h'
theorem leT_antisymm {a b : Tx} (h : leT a b = true) (h' : leT b a = true) : a = b := by
  rw [leT_iff] at *; exact cd_inj (List.le_antisymm h h')
def insT (x : Tx) : List Tx → List Tx
  | [] => [x]
  | y :: r => if leT x y then x :: y :: r else y :: insT x r
def sortT : List Tx → List Tx
  | [] => []
  | x :: r => insT x (sortT r)
theorem insT_perm (x : Tx) : ∀ l : List Tx, (insT x l).Perm (x :: l)
  | [] => List.Perm.refl _
  | y :: r => by
    unfold insT
    split
    · exact List.Perm.refl _
    · exact ((insT_perm x r).cons y).trans (List.Perm.swap x y r)
theorem sortT_perm : ∀ l : List Tx, (sortT l).Perm l
  | [] => List.Perm.refl _
  | x :: r => (insT_perm x _).trans ((sortT_perm r).cons x)
theorem insT_sorted (x : Tx) : ∀ l : List Tx, l.Pairwise (fun a b => leT a b = true) → (insT x l).Pairwise (fun a b => leT a b = true)
  | [], _ => by unfold insT; simp
  | y :: r, h => by
    obtain ⟨h1, h2⟩ := List.pairwise_cons.mp h
    unfold insT
    split
    · rename_i e
      refine List.pairwise_cons.mpr ⟨fun z hz => ?_, h⟩
      rcases List.mem_cons.mp hz with rfl | hz
      · exact e
      · exact leT_trans e (h1 z hz)
    · rename_i e
      refine List.pairwise_cons.mpr ⟨fun z hz => ?_, insT_sorted x r h2⟩
      rcases List.mem_cons.mp ((insT_perm x r).mem_iff.mp hz) with rfl | hz
      · exact (leT_total z y).resolve_left e
      · exact h1 z hz
theorem sortT_sorted : ∀ l : List Tx, (sortT l).Pairwise (fun a b => leT a b = true)
  | [] => List.Pairwise.nil
  | x :: r => insT_sorted x _ (sortT_sorted r)
theorem rising_pw : ∀ (l : List Tx) (p : Tx), risingS (toS p) (l.map toS) = true → (p :: l).Pairwise (fun a b => leT a b = true)
  | [], p, _ => by simp
  | x :: r, p, h => by
    have h : (!ltCps (cd x) (cd p) && risingS (toS x) (r.map toS)) = true := h
    obtain ⟨h1, h2⟩ := Bool.and_eq_true_iff.mp h
    have ih := rising_pw r x h2
    refine List.pairwise_cons.mpr ⟨fun z hz => ?_, ih⟩
    rcases List.mem_cons.mp hz with rfl | hz
    · exact h1
    · exact leT_trans (b := x) h1 ((List.pairwise_cons.mp ih).1 z hz)
theorem sortedS_pw (l : List Tx) (h : sortedS (l.map toS) = true) : l.Pairwise (fun a b => leT a b = true) := by
  cases l with
  | nil => exact List.Pairwise.nil
  | cons x r => exact rising_pw r x h
theorem sortT_unique {l l' : List Tx} (h : l'.Perm l) (s : l'.Pairwise (fun a b => leT a b = true)) : l' = sortT l :=
  (h.trans (sortT_perm l).symm).eq_of_pairwise (fun a b _ _ h1 h2 => leT_antisymm h1 h2) s (sortT_sorted l)
def backT (s : Str) : Tx := s.cps.toList.map Char.ofNat
theorem backT_toS (x : Tx) : backT (toS x) = x := by
  unfold backT
  rw [toS_list]
  unfold cd
  rw [List.map_map]
  have : (Char.ofNat ∘ Char.toNat) = id := funext fun c => Char.ofNat_toNat c
  rw [this, List.map_id]
theorem perm_map_inv {l : List Tx} : ∀ {ys : List Str}, ys.Perm (l.map toS) → ∃ l' : List Tx, ys = l'.map toS ∧ l'.Perm l := by
  intro ys h
  have e : ∀ zs : List Str, (∀ z ∈ zs, ∃ x, z = toS x) → ∃ l' : List Tx, zs = l'.map toS := by
    intro zs
    induction zs with
    | nil => exact fun _ => ⟨[], rfl⟩
    | cons z zs ih =>
      intro hz
      obtain ⟨x, rfl⟩ := hz z List.mem_cons_self
      obtain ⟨l', rfl⟩ := ih fun y hy => hz y (List.mem_cons_of_mem _ hy)
      exact ⟨x :: l', rfl⟩
  obtain ⟨l', rfl⟩ := e ys fun z hz => by
    obtain ⟨x, _, rfl⟩ := List.mem_map.mp (h.mem_iff.mp hz)
    exact ⟨x, rfl⟩
  refine ⟨l', rfl, ?_⟩
  have q := h.map backT
  rw [List.map_map, List.map_map] at q
  have e2 : (backT ∘ toS) = id := funext backT_toS
  rwa [e2, List.map_id, List.map_id] at q
def gSorted (xs : List D) (h : Hy) : R (D × Hy) := match xs with
  | [x] => match (items h x).bind (·.mapM asStr) with
    | some ss => if ss.length < 64 then new (.lst ((sortT ss).map D.str)) h else .stuck
    | none => .stuck
  | _ => .stuck
section
variable {prog : Program} {w : World} {A : Around} {E : Value → Shared → Prop} {s : Shared}
theorem collect_tuple {l : Addr} {vs : List Value} {Q : List Value → Shared → Prop} (hl : IsTup s.heap l vs.toArray)
    (h : Q vs { s with heap := (s.heap.push (seqObj "list" #[] 0)).update s.heap.objs.size (Obj.mapSeq (· ++ vs.toArray)) }) (hsz : vs.length ≤ sizeLine) :
    wpAny (model prog w) A (collect (.ref l)) Q E s := by
  obtain ⟨o, ho, hc, n, hd⟩ := id hl
  unfold collect
  refine wpAny_bind (wpAny_runValue (codeAny_builtin entry_proto_collect' ?_))
  show wpAny _ _ (do again (.builtin "list.__iadd__" ⟨[← newList [], .ref l], []⟩)) _ _ s
  refine wpAny_bind (wpAny_newList (wpAny_pure ⟨Code.quiet_builtin _ (by decide +kernel), codeAny_builtin entry_list_iadd' ?_⟩))
  show wpAny _ _ (Builtin.List.listExtendWith (.ref s.heap.objs.size) (.ref l) (.ref s.heap.objs.size)) _ _ { s with heap := s.heap.push (seqObj "list" #[] 0) }
  unfold Builtin.List.listExtendWith
  have ho' : (s.heap.push (seqObj "list" #[] 0)).get? l = some o := Heap.get?_push_of_some _ ho
  refine wpAny_bind (wpAny_typeOf (T := "tuple") ⟨o, ho', hc⟩ ?_)
  have ht : (Value.type "tuple" == Value.type "tuple") = true := by rfl
  rw [if_pos (by rw [ht]; simp)]
  refine wpAny_bind (listItems_at ho' hd ?_)
  refine wpAny_bind (listItems_at (xs := #[]) (n := 0) (Heap.get?_push_size _ rfl) rfl ?_)
  rw [if_neg (by simp)]
  refine wpAny_bind (listUpdate_at (xs := #[]) (n := 0) (Heap.get?_push_size _ rfl) rfl ?_ (Nat.zero_le _) (by show (#[] ++ vs.toArray).size ≤ sizeLine + 1; simp only [Array.size_append, List.size_toArray, List.length_nil]; omega))
  refine wpAny_pure ?_
  show wpAny (model prog w) A (do
      let o ← load s.heap.objs.size
      match o.data with
      | .seq xs _ => pure xs.toList
      | _ => unsupported "internal:collect") Q E { s with heap := (s.heap.push (seqObj "list" #[] 0)).update s.heap.objs.size (Obj.mapSeq (· ++ vs.toArray)) }
  refine wpAny_bind (wpAny_load (get?_update_seq (Heap.get?_push_size _ rfl) _) ?_)
  show wpAny _ _ (pure ((#[] : Array Value) ++ vs.toArray).toList) Q E _
  rw [show ((#[] : Array Value) ++ vs.toArray).toList = vs by simp]
  exact wpAny_pure h
theorem sorted_strs_tup {l : Addr} {vs : List Value} {ss : List Str} {Q : Value → Shared → Prop} (hl : IsTup s.heap l vs.toArray) (hS : StrsAre vs ss) (h64 : vs.length < 64)
    (h : ∀ (out : Array Value) (ss' : List Str), StrsAre out.toList ss' → ss'.Perm ss → sortedS ss' = true → Q (.ref (s.heap.objs.size + 1)) { s with heap := sortedAll s.heap vs out }) :
    wpAny (model prog w) A (call (.builtin "sorted") [.ref l]) Q E s := by
  refine Calls.call_function_entry kind_sorted plain_sorted entry_sorted (args_sorted1 _) ?_
  unfold Builtin.«sorted»
  refine wpAny_bind (m := checkCount "sorted" 1 1 _) (wpAny_pure ?_)
  refine wpAny_bind (collect_tuple hl ?_ (by rw [sizeLine_eq]; omega))
  refine wpAny_bind (wpAny_newList ?_)
  have hsz : ((s.heap.push (seqObj "list" #[] 0)).update s.heap.objs.size (Obj.mapSeq (· ++ vs.toArray))).objs.size = s.heap.objs.size + 1 := by
    rw [Heap.size_update, size_push']
  have hoL : (((s.heap.push (seqObj "list" #[] 0)).update s.heap.objs.size (Obj.mapSeq (· ++ vs.toArray))).push (seqObj "list" vs.toArray 0)).get? (s.heap.objs.size + 1) = some (seqObj "list" vs.toArray 0) := by
    rw [← hsz]; exact Heap.get?_push_size _ rfl
  show wpAny _ _ _ _ _ { s with heap := ((s.heap.push (seqObj "list" #[] 0)).update s.heap.objs.size (Obj.mapSeq (· ++ vs.toArray))).push (seqObj "list" vs.toArray 0) }
  rw [hsz]
  refine wpAny_bind (wpAny_holding (wpAny_call_entry slot_list_sort ⟨_, hoL, rfl⟩ entry_list_sort (list_sort_treeK strKind_oneLt hoL hS.keysOf (fun v₁ v₂ rest e => keyKind_strs (by rw [← e]; exact hS)) h64 fun st' hp hs => ⟨_, rfl, ?_⟩) (args_list_sort _)))
  refine wpAny_pure ⟨_, rfl, ?_⟩
  obtain ⟨ss', h1, h2, h3⟩ := sorted_out_str hS hp hs
  exact h _ ss' h1 h2 h3
end
section
variable {X : Cx} {W : WX}
def rSortedG (K : PySem.W.Frag) : List V → Hp → VK → Prop := fun vs H Q => ∃ (a : Addr) (xs : List Str), vs = [V.ref a] ∧ (SqL K H a (xs.map V.str) ∨ SqT K H a (xs.map V.str)) ∧ xs.length < 64 ∧
  ∀ (ys : List Str) (p : Addr), ys.Perm xs → sortedS ys = true → H p = none → Q (.ref p) (upd H p (.lst (ys.map V.str)))
theorem cr_sortedG : CallR X (.builtin "sorted") (rSortedG X.K) := by
  intro pins s σ H vs us Q I r h
  obtain ⟨a, xs, rfl, hs, h64, q⟩ := h
  rcases hs with hs | hs
  · exact cr_sortedS pins s σ H _ us Q I r ⟨a, xs, rfl, hs, h64, q⟩
  · obtain ⟨its, rv, hl, _⟩ := I.tuple hs
    rw [Vals.ref1 r]
    have hlen0 := rv.length
    rw [List.length_map] at hlen0
    refine sorted_strs_tup hl rv.strs (by rw [← hlen0]; exact h64) fun out ys h1 h2 h3 => ?_
    obtain ⟨ep, he'⟩ := PyProof.Rows.sortedAll_at s.heap its out
    have hlen : (ys.map V.str).length ≤ sizeLine := by rw [List.length_map, h2.length_eq, sizeLine_eq]; omega
    exact ⟨.ref _, upd H (s.heap.objs.size + 1) (.lst (ys.map V.str)), I.laid (t' := s.toks) (fun _ _ => PyProof.Rows.sortedAll_old) (Nat.le_succ _) ⟨hlen, out.toList, ep, vals_of_strs h1, he'⟩, rfl, q ys _ h2 h3 (I.hok.fresh (Nat.le_succ _))⟩
theorem reps_strs {K : PySem.W.Frag} {ι : List Addr} {H : Hp} : ∀ ss : List Tx, Reps K ι H ((ss.map toS).map V.str) (ss.map D.str)
  | [] => .nil
  | s :: ss => .cons (.str s) (reps_strs ss)
theorem imp_sorted : ImpL X.K W gSorted (rSortedG X.K) := by
  intro ι H h σ xs vs Q hh rs g
  unfold gSorted at g
  split at g
  · split at g
    · rename_i x ss e
      split at g
      · rename_i hz
        cases rs with
        | cons r rs =>
          cases rs
          obtain ⟨ys, e1, e2⟩ := Option.bind_eq_some_iff.mp e
          obtain ⟨a, ws, rfl, hs, rw'⟩ := items_of hh r e1
          rw [allStr rw' e2] at hs
          refine ⟨a, ss.map toS, rfl, hs, by rw [List.length_map]; exact hz, fun zs p hp hsd hn => ?_⟩
          obtain ⟨l', rfl, hp'⟩ := perm_map_inv hp
          rw [sortT_unique hp' (sortedS_pw _ hsd)]
          exact VW.newLst g hh (reps_strs _) hn
      · exact g.elim
    · exact g.elim
  · exact g.elim
theorem pxc_sorted {pos p : Pos} {e : Expr} {es : List Expr} {t : FA} (hc : X.calm = true) (hm : X.mg "sorted" = none) (ha : PXA X W (e :: es) t) (hg : Gl X "sorted" := by rfl) (he : starEach (e :: es) X.env = (false, eval e X.env) :: starEach es X.env := by rfl) (hpl : (backTo pos (starEach es X.env)).any (·.1) = false := by rfl) : PX X W (.Call (.Name "sorted" p) (e :: es) [] pos) (eCall gSorted t) := px_callB cr_sortedG imp_sorted hm ha hg (by decide +kernel) (by decide) (by decide) he hpl
end
end Px
namespace Px
open PySem PySem.Spec PyProof.Rows L2
/-! ## xs[a:] = ys -/
section
variable {prog : Program} {w : World} {A : Around} {E : Value → Shared → Prop} {s : Shared}
theorem bounds_from {a n : Nat} (ha : a ≤ n) : sliceBounds (some (a : Int)) none none n = ((a : Int), (n : Int), 1) := by
  simp only [sliceBounds, Option.getD_none]
  have h1 : ¬ ((a : Int) < 0) := by omega
  simp only [h1, if_false, show (1 : Int) > 0 by decide, if_true]
  congr 1
  omega
theorem setItem_from {l b sl : Addr} {items new : Array Value} {n n2 : Nat} {vl : Value} {a : Nat} {Q : Unit → Shared → Prop}
    (e : s.heap.get? l = some { cls := .type "list", data := .seq items n }) (e2 : s.heap.get? b = some { cls := .type "list", data := .seq new n2 }) (hne : l ≠ b)
    (hs : s.heap.IsSliceOf sl vl .none .none) (pl : IsPart vl (some (a : Int))) (ha : a ≤ items.size)
    (hsz : items.size + new.size ≤ sizeLine) (h : Q () { s with heap := s.heap.update l (Obj.mapSeq fun xs => xs.extract 0 a ++ new ++ xs.extract items.size xs.size) }) :
    wpAny (model prog w) A (setItem (.ref l) (.ref sl) (.ref b)) Q E s := by
  have hl : s.heap.IsList l items := PySem.IsL.isList e
  have hb : s.heap.IsList b new := PySem.IsL.isList e2
  obtain ⟨os, hos, hcs, hds⟩ := id hs
  have hTs : s.TypeIs (.ref sl) "slice" := ⟨os, hos, hcs⟩
  have hstep : ¬ ((rawPart none == rawInt 0) = true) := Bool.false_ne_true
  have hsame : Builtin.List.listSameRef (.ref l) (.ref b) = false := by
    unfold Builtin.List.listSameRef
    exact beq_eq_false_iff_ne.mpr hne
  have hmax : (max (a : Int) (items.size : Int)).toNat = items.size := by omega
  have hz' : ((fun xs : Array Value => xs.extract 0 a ++ new ++ xs.extract items.size xs.size) items).size ≤ sizeLine + 1 := by
    simp only [Array.size_append, Array.size_extract]
    omega
  unfold setItem
  try with_reducible refine wpAny_holding ?_
  first | refine wpAny_bind (wpAny_pure ?_) | skip
  refine wpAny_bind (wpAny_sequenceKey hl.typeIs (by decide) ?_)
  refine wpAny_bind (wpAny_callSpecial?_slot (name := Str.ofString "__setitem__") hl.typeIs slot_list_setitem
    (wpAny_call_entry slot_list_setitem hl.typeIs entry_list_setitem ?_ (args_list_setitem _ _ _)))
  show wpAny _ _ (Builtin.List.listSubscript? (.ref sl) >>= _) _ _ s
  refine wpAny_bind ?_
  unfold Builtin.List.listSubscript?
  refine wpAny_bind (wpAny_specialOf hTs slice_no_index ?_)
  simp only [Option.isNone_none, if_true]
  refine wpAny_pure ?_
  show wpAny _ _ (typeOf (.ref sl) >>= _) _ _ s
  refine wpAny_bind (wpAny_typeOf hTs ?_)
  first
    | rw [if_neg (by decide)]
    | refine PySem.W.KFB.if_not (by decide) ?_
  rw [listSliceParts_eq]
  refine wpAny_bind (wpAny_bind (wpAny_field hos hds (x := .none) rfl (wpAny_bind (wpAny_listPart .none ?_))))
  rw [if_neg hstep]
  refine wpAny_bind (wpAny_field hos hds (x := vl) rfl (wpAny_bind (wpAny_listPart pl ?_)))
  refine wpAny_bind (wpAny_field hos hds (x := .none) rfl (wpAny_bind (wpAny_listPart .none (wpAny_pure ?_))))
  first
    | simp only [hsame, Bool.false_eq_true, if_false]
    | refine PySem.W.KFB.if_not hsame ?_
    | (dsimp only
       rw [if_neg (by rw [hsame]; exact Bool.false_ne_true)])
  refine wpAny_bind (m := Builtin.List.listAllItems (.ref b) "must assign iterable to extended slice") ?_
  unfold Builtin.List.listAllItems
  refine wpAny_bind (wpAny_typeOf hb.typeIs ?_)
  first
    | refine PySem.W.KFB.if_so (by decide) ?_
    | rw [if_pos (by decide)]
    | simp only [beq_self_eq_true, Bool.true_or, if_true]
  unfold Builtin.List.listItems
  refine wpAny_bind (wpAny_seqItems e2 rfl (wpAny_pure ?_))
  refine wpAny_bind (wpAny_bind (wpAny_seqItems e rfl (wpAny_pure ?_)))
  refine wpAny_bind (wpAny_of_eq ((sliceIndices_raw (some (a : Int)) none none items.size (by simp)).trans (congrArg (pure : Int × Int × Int → Sem (Int × Int × Int)) (bounds_from ha))) ?_)
  show wpAny _ _ (if ((1 : Int) == 1) = true then _ else _) _ _ s
  rw [if_pos (by decide)]
  refine wpAny_bind (wpAny_rule ?_)
  first
    | simp only [notLongL hsz, Bool.false_eq_true, if_false]
    | refine PySem.W.KFB.if_not (notLongL hsz) ?_
  first | refine wpAny_bind (wpAny_pure ?_) | skip
  show wpAny _ _ (updateSeq l (fun xs => xs.extract 0 ((a : Int)).toNat ++ new ++ xs.extract (max (a : Int) (items.size : Int)).toNat xs.size) >>= _) _ _ s
  rw [hmax, Int.toNat_natCast]
  refine wpAny_bind (wpAny_updateSeq (hz := Nat.le_trans (Nat.le_add_right _ _) hsz) (_hz' := hz') e rfl ?_)
  refine wpAny_bind (wpAny_letGo ?_)
  first
    | exact wpAny_bind (wpAny_pure (wpAny_pure ⟨.none, rfl, wpAny_pure h⟩))
    | exact wpAny_pure ⟨.none, rfl, wpAny_pure h⟩
end
/-- o[e:] = .. -/
def gCutSet (to : TE) (tl : TO) : TG := fun v σ H Q => to σ H fun o H1 => tl σ H1 fun lo H2 => ∃ (l b : Addr) (xs ys : List V) (k : Nat), o = .ref l ∧ v = .ref b ∧ lo = some (k : Int) ∧ l ≠ b ∧ H2 l = some (.lst xs) ∧ H2 b = some (.lst ys) ∧ k ≤ xs.length ∧ xs.length + ys.length ≤ sizeLine ∧ Q σ (upd H2 l (.lst (xs.take k ++ ys)))
def fgCut (fo fi : FE) : FG := fun d ρ h => (fo ρ h).toS ρ fun p => (fi ρ p.2).toS ρ fun q => match p.1, d, q.1 with
  | .ref n, .ref m, .int k => (match q.2[n]?, q.2[m]? with
    | some (.lst xs), some (.lst ys) => if n ≠ m ∧ 0 ≤ k ∧ k.toNat ≤ xs.length ∧ xs.length + ys.length ≤ 16777216 then .nx ρ (q.2.set n (.lst (xs.take k.toNat ++ ys))) else .stuck
    | _, _ => .stuck)
  | _, _, _ => .stuck
section
variable {X : Cx} {W : WX} {pos p2 : Pos} {o i : Expr}
theorem pg_cut {to : TE} {tl : TO} {lo : Option Expr} (ho : PE X o to) (hi : PO X lo tl)
    (ha : ∀ v, assign (.Subscript o (.Slice lo none none p2) pos) X.env v = (do
      let ov ← holding [v] (eval o X.env)
      let iv ← holding [v, ov] (eval (.Slice lo none none p2) X.env)
      standAt pos
      holding [v, ov, iv] (setItem ov iv v)
      release [iv, v, ov] [])) : PG X (.Subscript o (.Slice lo none none p2) pos) (gCutSet to tl) := by
  refine ⟨fun pins s σ H v u Q I r h => ?_⟩
  rw [ha]
  refine wpAny_bind (wpAny_holding (thn (ho.run pins s σ H _ I h) fun ov s1 ⟨x, H1, I1, r1, q1⟩ => ?_))
  refine wpAny_bind (wpAny_holding (wpAny_Slice (thn (hi.run pins s1 σ H1 _ I1 q1) fun vl s2 ⟨l, H2, I2, pl, q2⟩ => ?_)))
  rw [evalPart_none]
  refine wpAny_pure ?_
  refine wpAny_pure ?_
  have I3 : Inv X pins σ H2 { s2 with heap := s2.heap.push { cls := .type "slice", data := .fields #[vl, .none, .none] } } := I2.kept (t' := s2.toks) fun b ob q => Heap.get?_push_of_some _ q
  obtain ⟨a, b, xs, ys, k, rfl, rfl, rfl, hne, ha2, hb2, hk, hz, q⟩ := q2
  cases r
  cases r1
  obtain ⟨z, its, n, rv, hl, e⟩ := I3.lstM ha2
  obtain ⟨z2, its2, n2, rv2, hl2, e2⟩ := I3.lstM hb2
  refine wpAny_bind (wpAny_standAt (wpAny_bind (wpAny_holding ?_)))
  refine setItem_from (a := k) e e2 hne (Heap.IsSliceOf.new ..) pl (by rw [List.size_toArray]; omega) (by rw [List.size_toArray, List.size_toArray]; omega) ?_
  refine wpAny_release ⟨σ, _, I3.lset (its' := its.take k ++ its2) (t' := s2.toks) (f := fun xs => xs.extract 0 k ++ its2.toArray ++ xs.extract its.toArray.size xs.size) ha2 e ?_ (Vals.append (rv.take _) rv2) ?_, q⟩
  · show its.toArray.extract 0 k ++ its2.toArray ++ its.toArray.extract its.toArray.size its.toArray.size = _
    rw [splice_eq]
    simp
  · rw [List.length_append, List.length_take]
    omega
theorem pxg_cut {fo fi : FE} (ho : PX X W o fo) (hi : PX X W i fi)
    (ha : ∀ v, assign (.Subscript o (.Slice (some i) none none p2) pos) X.env v = (do
      let ov ← holding [v] (eval o X.env)
      let iv ← holding [v, ov] (eval (.Slice (some i) none none p2) X.env)
      standAt pos
      holding [v, ov, iv] (setItem ov iv v)
      release [iv, v, ov] []) := by intro _; rfl) : PXG X W (.Subscript o (.Slice (some i) none none p2) pos) (fgCut fo fi) := by
  refine ⟨PG.mono (pg_cut ho.pe (po_some hi.pe) ha) fun v σ H Q ⟨ι, ρ, h, d, hρ, hh, r, g⟩ => ?_⟩
  refine tE_seqS hρ hh g fun p ι1 H1 v1 e1 h1 r1 hρ1 q1 => tE_seqS hρ1 h1 q1 fun p2 ι2 H2 v2 e2 h2 r2 hρ2 q2 => ?_
  obtain ⟨d1, hy1⟩ := p
  obtain ⟨d2, hy2⟩ := p2
  simp only at q2
  split at q2
  · rename_i n m k
    split at q2
    · rename_i xs ys hx hy
      split at q2
      · rename_i hz
        obtain ⟨hne, h0, hk, hsz⟩ := hz
        cases (r1.ext e2) with
        | ref hn =>
          cases ((r.ext e1).ext e2) with
          | ref hm =>
            cases r2
            obtain ⟨vs, hv, rs⟩ := h2.at_ _ _ _ hn hx
            obtain ⟨ws, hw, rw'⟩ := h2.at_ _ _ _ hm hy
            obtain ⟨e3, h3⟩ := set_lst (vs := vs.take k.toNat ++ ws) (ds := xs.take k.toNat ++ ys) h2 hn ((rs.take _).append rw')
            exact ⟨k, rfl, _, _, vs, ws, k.toNat, rfl, rfl, by rw [Int.toNat_of_nonneg h0], getElem?_ne_of_nodup h2.nd hn hm hne, hv, hw, by rw [rs.length]; exact hk, by rw [rs.length, rw'.length]; exact line_le hsz, q2 ι2 _ _ e3 h3 (hρ2.ext e3)⟩
      · exact q2.elim
    · exact q2.elim
  · exact q2.elim
end
end Px
namespace Px
open PySem PySem.Spec PyProof.Rows L2
/-! ## more methods of texts -/
def findT (s y : Tx) : Int := Txt.find (toS s) (toS y)
theorem at_one (s : Tx) (c : Char) (i : Nat) : StrLaws.At (toS s) (toS [c]) (toS s).length i ↔ s[i]? = some c := by
  have e : (toS [c]) = ⟨#[c.toNat]⟩ := rfl
  rw [e]
  refine Iff.trans (StrLaws.subAt_one (toS s) c.toNat i) ?_
  rw [toS_list]
  unfold cd
  rw [List.getElem?_map]
  cases s[i]? with
  | none => simp
  | some x =>
    simp only [Option.map_some, Option.some.injEq]
    exact ⟨fun z => char_inj z, fun z => by rw [z]⟩
theorem findT_not {s : Tx} {c : Char} (h : c ∉ s) : findT s [c] = -1 := by
  unfold findT Txt.find
  rcases StrLaws.occ_head (toS s) (toS [c]) 1 (Nat.le_refl _) with ⟨e, _⟩ | ⟨i, r, e, ha, _⟩
  · rw [e]
  · exact absurd (List.mem_of_getElem? ((at_one s c i).mp ha)) h
theorem findT_at {a b : Tx} {c : Char} (h : c ∉ a) : findT (a ++ c :: b) [c] = a.length := by
  unfold findT Txt.find
  rcases StrLaws.occ_head (toS (a ++ c :: b)) (toS [c]) 1 (Nat.le_refl _) with ⟨e, hn⟩ | ⟨i, r, e, ha, hn⟩
  · exact absurd ((at_one _ c a.length).mpr (by rw [List.getElem?_append_right (Nat.le_refl _), Nat.sub_self]; rfl)) (hn a.length)
  · rw [e]
    have h1 := (at_one _ c i).mp ha
    have h2 : ¬ i < a.length := fun z => by
      rw [List.getElem?_append_left z] at h1
      exact h (List.mem_of_getElem? h1)
    have h3 : ¬ a.length < i := fun z => hn a.length z ((at_one _ c a.length).mpr (by rw [List.getElem?_append_right (Nat.le_refl _), Nat.sub_self]; rfl))
    have : i = a.length := by omega
    rw [this]
def mFind (x : D) (xs : List D) (h : Hy) : R (D × Hy) := match x, xs with
  | .str s, [.str y] => .ok (.int (findT s y), h)
  | _, _ => .stuck
def mIndexS (x : D) (xs : List D) (h : Hy) : R (D × Hy) := match x, xs with
  | .str s, [.str y] => if 0 ≤ findT s y then .ok (.int (findT s y), h) else .stuck
  | _, _ => .stuck
def countT (s y : Tx) : Int := Txt.count (toS s) (toS y)
def mCount (x : D) (xs : List D) (h : Hy) : R (D × Hy) := match x, xs with
  | .str s, [.str y] => .ok (.int (countT s y), h)
  | _, _ => .stuck
def beginsT (s y : Tx) : Bool := decide (s.take y.length = y)
def endsT (s y : Tx) : Bool := decide (y.length ≤ s.length ∧ s.drop (s.length - y.length) = y)
def mStarts (x : D) (xs : List D) (h : Hy) : R (D × Hy) := match x, xs with
  | .str s, [.str y] => .ok (.bl (beginsT s y), h)
  | _, _ => .stuck
def mEnds (x : D) (xs : List D) (h : Hy) : R (D × Hy) := match x, xs with
  | .str s, [.str y] => .ok (.bl (endsT s y), h)
  | _, _ => .stuck
theorem subAt_toS (s y : Tx) (i : Nat) : Builtin.Str.subAt (toS s) (toS y) i = decide ((s.drop i).take y.length = y) := by
  rw [StrLaws.subAt_eq, toS_list, toS_list, toS_length]
  have e : (cd s).drop i = cd (s.drop i) := by unfold cd; rw [List.map_drop]
  have e2 : (cd (s.drop i)).take y.length = cd ((s.drop i).take y.length) := by unfold cd; rw [List.map_take]
  rw [e, e2]
  by_cases h : (s.drop i).take y.length = y
  · rw [h]; simp
  · rw [decide_eq_false h]
    cases q : (cd ((s.drop i).take y.length) == cd y) with
    | false => rfl
    | true => exact absurd (cd_inj (beq_iff_eq.mp q)) h
theorem starts_toS (s y : Tx) : Txt.startswith (toS s) (toS y) = beginsT s y := by
  unfold Txt.startswith beginsT
  rw [subAt_toS, toS_length, toS_length, List.drop_zero]
  by_cases h : s.take y.length = y
  · have : y.length ≤ s.length := by
      have := congrArg List.length h
      rw [List.length_take] at this
      omega
    simp [h, this]
  · simp [h]
theorem ends_toS (s y : Tx) : Txt.endswith (toS s) (toS y) = endsT s y := by
  unfold Txt.endswith endsT
  rw [subAt_toS, toS_length, toS_length]
  by_cases h : y.length ≤ s.length
  · have e : (s.drop (s.length - y.length)).take y.length = s.drop (s.length - y.length) := List.take_of_length_le (by rw [List.length_drop]; omega)
    rw [e]
    by_cases q : s.drop (s.length - y.length) = y <;> simp [h, q]
  · simp [h]
section
variable {X : Cx} {W : WX}
theorem imp_find : ImpM X.K W mFind (fun x xs H Q => ∃ a b, x = .str a ∧ xs = [.str b] ∧ Q (.int (Txt.find a b)) H) := by
  intro ι H h σ x v xs vs Q hh rx rs g
  unfold mFind at g
  split at g
  · cases rx
    cases rs with
    | cons r rs => cases rs; cases r; exact ⟨_, _, rfl, rfl, g.same hh (.int _)⟩
  · exact g.elim
theorem imp_count : ImpM X.K W mCount (fun x xs H Q => ∃ a b, x = .str a ∧ xs = [.str b] ∧ Q (.int (Txt.count a b)) H) := by
  intro ι H h σ x v xs vs Q hh rx rs g
  unfold mCount at g
  split at g
  · cases rx
    cases rs with
    | cons r rs => cases rs; cases r; exact ⟨_, _, rfl, rfl, g.same hh (.int _)⟩
  · exact g.elim
theorem imp_starts : ImpM X.K W mStarts (fun x xs H Q => ∃ a b, x = .str a ∧ xs = [.str b] ∧ Q (.bl (Txt.startswith a b)) H) := by
  intro ι H h σ x v xs vs Q hh rx rs g
  unfold mStarts at g
  split at g
  · cases rx
    cases rs with
    | cons r rs => cases rs; cases r; exact ⟨_, _, rfl, rfl, by rw [starts_toS]; exact g.same hh (.bl _)⟩
  · exact g.elim
theorem imp_ends : ImpM X.K W mEnds (fun x xs H Q => ∃ a b, x = .str a ∧ xs = [.str b] ∧ Q (.bl (Txt.endswith a b)) H) := by
  intro ι H h σ x v xs vs Q hh rx rs g
  unfold mEnds at g
  split at g
  · cases rx
    cases rs with
    | cons r rs => cases rs; cases r; exact ⟨_, _, rfl, rfl, by rw [ends_toS]; exact g.same hh (.bl _)⟩
  · exact g.elim
theorem imp_indexS : ImpM X.K W mIndexS (fun x xs H Q => ∃ a b i rest, x = .str a ∧ xs = [.str b] ∧ Builtin.Str.occurrences a b 0 a.length 1 = i :: rest ∧ Q (.int (i : Nat)) H) := by
  intro ι H h σ x v xs vs Q hh rx rs g
  unfold mIndexS at g
  split at g
  · rename_i s y
    split at g
    · rename_i h0
      cases rx
      cases rs with
      | cons r rs =>
        cases rs; cases r
        unfold findT Txt.find at h0 g
        cases q : Builtin.Str.occurrences (toS s) (toS y) 0 (toS s).length 1 with
        | nil => rw [q] at h0; exact absurd h0 (by decide)
        | cons i rest =>
          rw [q] at g
          exact ⟨_, _, i, rest, rfl, rfl, q, g.same hh (.int _)⟩
    · exact g.elim
  · exact g.elim
variable {pos apos : Pos} {o e : Expr} {fo fe : FE}
theorem px_find (ho : PX X W o fo) (he : PX X W e fe) (hs : starEach [e] X.env = [(false, eval e X.env)] := by rfl) (hbase : attributeBase o "find" X.env (eval o X.env) = eval o X.env := by rfl) (hline : (apos.endLine == pos.line) = true := by rfl) :
    PX X W (.Call (.Attribute o "find" apos) [e] [] pos) (eM1 mFind fo fe) := px_m1 F.slot_str_find F.type_str_find mt_find imp_find ho he hs hbase hline
theorem px_count (ho : PX X W o fo) (he : PX X W e fe) (hs : starEach [e] X.env = [(false, eval e X.env)] := by rfl) (hbase : attributeBase o "count" X.env (eval o X.env) = eval o X.env := by rfl) (hline : (apos.endLine == pos.line) = true := by rfl) :
    PX X W (.Call (.Attribute o "count" apos) [e] [] pos) (eM1 mCount fo fe) := px_m1 F.slot_str_count F.type_str_count mt_count imp_count ho he hs hbase hline
theorem px_starts (ho : PX X W o fo) (he : PX X W e fe) (hs : starEach [e] X.env = [(false, eval e X.env)] := by rfl) (hbase : attributeBase o "startswith" X.env (eval o X.env) = eval o X.env := by rfl) (hline : (apos.endLine == pos.line) = true := by rfl) :
    PX X W (.Call (.Attribute o "startswith" apos) [e] [] pos) (eM1 mStarts fo fe) := px_m1 F.slot_str_startswith F.type_str_startswith mt_startswith imp_starts ho he hs hbase hline
theorem px_ends (ho : PX X W o fo) (he : PX X W e fe) (hs : starEach [e] X.env = [(false, eval e X.env)] := by rfl) (hbase : attributeBase o "endswith" X.env (eval o X.env) = eval o X.env := by rfl) (hline : (apos.endLine == pos.line) = true := by rfl) :
    PX X W (.Call (.Attribute o "endswith" apos) [e] [] pos) (eM1 mEnds fo fe) := px_m1 F.slot_str_endswith F.type_str_endswith mt_endswith imp_ends ho he hs hbase hline
theorem px_indexS (ho : PX X W o fo) (he : PX X W e fe) (hs : starEach [e] X.env = [(false, eval e X.env)] := by rfl) (hbase : attributeBase o "index" X.env (eval o X.env) = eval o X.env := by rfl) (hline : (apos.endLine == pos.line) = true := by rfl) :
    PX X W (.Call (.Attribute o "index" apos) [e] [] pos) (eM1 mIndexS fo fe) := px_m1 F.slot_str_index F.type_str_index mt_sindex imp_indexS ho he hs hbase hline
end
end Px
namespace Px
open PySem PySem.Spec PyProof.Rows L2
/-! ## slices with a step -/
def pickK {α : Type} (xs : List α) (lo hi : Option Int) (k : Int) : List α := (Builtin.Str.strSliceIndices lo hi k xs.length).filterMap (xs[·]?)
def sCutK (x : D) (lo hi : Option Int) (k : Int) (h : Hy) : R (D × Hy) := match x with
  | .str s => if s.length ≤ 16777216 ∧ k ≠ 0 ∧ k ≠ 1 then .ok (.str (pickK s lo hi k), h) else .stuck
  | x => if k ≠ 0 ∧ k ≠ 1 then match itemsL h x with
    | some xs => new (.lst (pickK xs lo hi k)) h
    | none => .stuck
    else .stuck
def eCutK (f : FE) (lo hi : FO) (k : FE) : FE := fun ρ h => (f ρ h).bind fun p => (lo ρ p.2).bind fun q => (hi ρ q.2).bind fun r => (k ρ r.2).bind fun z => match z.1 with
  | .int i => sCutK p.1 q.1 r.1 i z.2
  | _ => .stuck
def SlK (X : Cx) (r : V → Option Int → Option Int → Int → Hp → VK → Prop) : Prop :=
  ∀ (pins : List (Addr × Obj)) (s : Shared) (σ : L2.St) (H : Hp) (x : V) (v vl vu : Value) (lo hi : Option Int) (k : Int) (tk : Tok) (sl : Addr) (Q : VK), Inv X pins σ H s → RelV x v → s.heap.IsSliceOf sl vl vu (.int k tk) → IsPart vl lo → IsPart vu hi → r x lo hi k H Q →
    ∃ T id, typeLookup (.type T) "__getitem__" = pure (some (.builtin id)) ∧ s.TypeIs v T ∧ wpAny (model X.prog X.w) X.A (getItem v (.ref sl)) (EP X pins σ Q) X.xe s
section
variable {X : Cx} {e ke : Expr} {te tk : TE} {lo hi : Option Expr} {tl th : TO} {pos p2 : Pos}
def tSlK (r : V → Option Int → Option Int → Int → Hp → VK → Prop) (te : TE) (tl th : TO) (tk : TE) : TE := fun σ H Q => te σ H fun x H1 => tl σ H1 fun l H2 => th σ H2 fun u H3 => tk σ H3 fun z H4 => ∃ k, z = .int k ∧ r x l u k H4 Q
theorem pe_sliceK {r : V → Option Int → Option Int → Int → Hp → VK → Prop} (hr : SlK X r) (he : PE X e te) (hl : PO X lo tl) (hu : PO X hi th) (hk : PE X ke tk) : PE X (.Subscript e (.Slice lo hi (some ke) p2) pos) (tSlK r te tl th tk) := by
  refine ⟨fun pins s σ H Q I h => ?_⟩
  refine Subscript_ (thn (he.run pins s σ H _ I h) fun v s1 ⟨x, H1, I1, r1, q1⟩ => ?_)
  refine wpAny_Slice (thn (hl.run pins s1 σ H1 _ I1 q1) fun vl s2 ⟨l, H2, I2, pl, q2⟩ => thn (hu.run pins s2 σ H2 _ I2 q2) fun vu s3 ⟨u, H3, I3, pu, q3⟩ => ?_)
  rw [evalPart_some]
  refine thn (hk.run pins s3 σ H3 _ I3 q3) fun vk s4 ⟨z, H4, I4, rk, q4⟩ => ?_
  obtain ⟨k, rfl, q⟩ := q4
  obtain ⟨t, rfl⟩ := rk
  have I5 : Inv X pins σ H4 { s4 with heap := s4.heap.push { cls := .type "slice", data := .fields #[vl, vu, .int k t] } } := I4.kept (t' := s4.toks) fun b ob q => Heap.get?_push_of_some _ q
  obtain ⟨T, id, hT, ht, hg⟩ := hr pins { s4 with heap := s4.heap.push { cls := .type "slice", data := .fields #[vl, vu, .int k t] } } σ H4 x v vl vu l u k t s4.heap.objs.size Q I5 r1 (Heap.IsSliceOf.new ..) pl pu q
  show wpAny (model X.prog X.w) X.A (subscriptTail e (.Slice lo hi (some ke) p2) v (.ref s4.heap.objs.size)) (EP X pins σ Q) X.xe { s4 with heap := s4.heap.push { cls := .type "slice", data := .fields #[vl, vu, .int k t] } }
  exact tail_any (ops := [v, .ref s4.heap.objs.size]) ht hT hg (by with_unfolding_all rfl)
theorem SlK.or {r r' : V → Option Int → Option Int → Int → Hp → VK → Prop} (h : SlK X r) (h' : SlK X r') : SlK X (fun x lo hi k H Q => r x lo hi k H Q ∨ r' x lo hi k H Q) := by
  intro pins s σ H x v vl vu lo hi k tk sl Q I rx hs pl pu q
  rcases q with q | q
  · exact h pins s σ H x v vl vu lo hi k tk sl Q I rx hs pl pu q
  · exact h' pins s σ H x v vl vu lo hi k tk sl Q I rx hs pl pu q
def rKS : V → Option Int → Option Int → Int → Hp → VK → Prop := fun x lo hi k H Q => ∃ z : Tx, x = .str (toS z) ∧ z.length ≤ sizeLine ∧ k ≠ 0 ∧ k ≠ 1 ∧ Q (.str (toS (pickK z lo hi k))) H
theorem pickK_le {α : Type} (xs : List α) (lo hi : Option Int) (k : Int) (h0 : k ≠ 0) : (pickK xs lo hi k).length ≤ xs.length := by
  unfold pickK
  exact Nat.le_trans (List.length_filterMap_le _ _) (sliceIndicesBy_le lo hi k h0 _)
theorem pickK_cd (z : Tx) (lo hi : Option Int) (k : Int) : ((Builtin.Str.strSliceIndices lo hi k (toS z).length).filterMap ((toS z).cps[·]?)) = cd (pickK z lo hi k) := by
  unfold pickK
  rw [toS_length]
  unfold cd
  rw [List.map_filterMap]
  congr 1
  funext i
  show (List.toArray (List.map Char.toNat z))[i]? = _
  simp
theorem sk_str : SlK X rKS := by
  intro pins s σ H x v vl vu lo hi k tk sl Q I rx hs pl pu h
  obtain ⟨z, rfl, hz, h0, h1, q⟩ := h
  obtain ⟨t, rfl⟩ := rx
  obtain ⟨os, hos, hcs, hds⟩ := hs
  obtain ⟨l, rfl, rfl⟩ := IsPart.raw pl
  obtain ⟨u, rfl, rfl⟩ := IsPart.raw pu
  refine ⟨"str", _, F.slot_str_getitem.lookup, typeIs_str _ _ _, ?_⟩
  refine wpAny_getItem_str_slice (l := l) (u := u) (st := some (k, tk)) ⟨os, hos, hcs, hds⟩ (by show (k == 0) = false; simpa using h0) ?_
  show Made.post (if (k == 1 && (Builtin.Str.strSliceIndices (l.map (·.1)) (u.map (·.1)) k (toS z).length).length == (toS z).length) = true then Made.val (.str (toS z) t)
    else Made.str ⟨((Builtin.Str.strSliceIndices (l.map (·.1)) (u.map (·.1)) k (toS z).length).filterMap ((toS z).cps[·]?)).toArray⟩) (EP X pins σ Q) s
  have c : ¬ (k == 1 && (Builtin.Str.strSliceIndices (l.map (·.1)) (u.map (·.1)) k (toS z).length).length == (toS z).length) = true := by
    intro w
    rw [Bool.and_eq_true] at w
    exact h1 (beq_iff_eq.mp w.1)
  rw [if_neg c, pickK_cd]
  refine ⟨?_, .str _, H, I.tok _, ⟨_, rfl⟩, q⟩
  show (toS (pickK z _ _ k)).length ≤ sizeLine
  rw [toS_length]
  exact Nat.le_trans (pickK_le _ _ _ _ h0) hz
theorem sliceRange_same (n : Nat) (lo hi : Option Int) (k : Int) (h0 : k ≠ 0) : sliceRange (sliceBounds lo hi (some k) n).1 (sliceBounds lo hi (some k) n).2.1 (sliceBounds lo hi (some k) n).2.2 = Builtin.Str.strSliceIndices lo hi k n := by
  unfold sliceBounds Builtin.Str.strSliceIndices
  cases lo <;> cases hi <;> rfl
theorem slicePick_K {items : List Value} (lo hi : Option Int) (k : Int) (h0 : k ≠ 0) : (slicePick items.toArray lo hi (some k)).toList = pickK items lo hi k := by
  unfold slicePick pickK
  simp only [List.size_toArray, sliceRange_same _ _ _ _ h0]
  simp
theorem pickK_vals {vs : List V} {us : List Value} (r : Vals vs us) (lo hi : Option Int) (k : Int) : Vals (pickK vs lo hi k) (pickK us lo hi k) := by
  unfold pickK
  rw [r.length]
  generalize Builtin.Str.strSliceIndices lo hi k us.length = is
  induction is with
  | nil => exact .nil
  | cons i is ih =>
    rw [List.filterMap_cons, List.filterMap_cons]
    cases e : vs[i]? with
    | none =>
      have : us[i]? = none := by rw [List.getElem?_eq_none_iff] at e ⊢; rw [← r.length]; exact e
      rw [this]
      exact ih
    | some v =>
      obtain ⟨u, e2, rv⟩ := Vals.get r e
      rw [e2]
      exact .cons rv ih
def rKL (K : PySem.W.Frag) : V → Option Int → Option Int → Int → Hp → VK → Prop := fun x lo hi k H Q => ∃ a xs, x = .ref a ∧ SqL K H a xs ∧ k ≠ 0 ∧ ∀ p, H p = none → Q (.ref p) (upd H p (.lst (pickK xs lo hi k)))
theorem sk_list : SlK X (rKL X.K) := by
  intro pins s σ H x v vl vu lo hi k tk sl Q I rx hs pl pu h
  obtain ⟨a, xs, rfl, hx, h0, q⟩ := h
  cases rx
  obtain ⟨its, r, ht, hz⟩ := I.list hx
  have hlen := r.length
  refine ⟨"list", _, slot_list_getitem.lookup, ht.isList.typeIs, ?_⟩
  refine wpAny_getItem_list_slice ht.isList hs pl pu (.int k tk) (by simpa using h0) ?_ (by rw [List.size_toArray] <;> omega)
  refine ⟨.ref s.heap.objs.size, _, I.laid (t' := s.toks) (o := .lst (pickK xs lo hi k)) (fun b ob q => Heap.get?_push_of_some _ q) (Nat.le_refl _) ?_, rfl, q _ (I.hok.fresh (Nat.le_refl _))⟩
  refine ⟨Nat.le_trans (pickK_le _ _ _ _ h0) hz, pickK its lo hi k, 0, pickK_vals r lo hi k, ?_⟩
  have e : slicePick its.toArray lo hi (some k) = (pickK its lo hi k).toArray := by rw [← slicePick_K lo hi k h0]
  rw [e]
  exact Heap.get?_push_size _ rfl
end
end Px
namespace Px
open PySem PySem.Spec PyProof.Rows L2
abbrev rKG (K : PySem.W.Frag) : V → Option Int → Option Int → Int → Hp → VK → Prop := fun x lo hi k H Q => rKS x lo hi k H Q ∨ rKL K x lo hi k H Q
theorem Reps.pickK {K : PySem.W.Frag} {ι : List Addr} {H : Hp} {vs : List V} {ds : List D} (r : Reps K ι H vs ds) (lo hi : Option Int) (k : Int) : Reps K ι H (Px.pickK vs lo hi k) (Px.pickK ds lo hi k) := by
  unfold Px.pickK
  rw [r.length]
  generalize Builtin.Str.strSliceIndices lo hi k ds.length = is
  induction is with
  | nil => exact .nil
  | cons i is ih =>
    rw [List.filterMap_cons, List.filterMap_cons]
    cases e : ds[i]? with
    | none =>
      have : vs[i]? = none := by rw [List.getElem?_eq_none_iff] at e ⊢; rw [r.length]; exact e
      rw [this]
      exact ih
    | some d =>
      obtain ⟨v, e2, rv⟩ := r.get e
      rw [e2]
      exact .cons rv ih
section
variable {X : Cx} {W : WX} {pos p2 : Pos} {e ke : Expr} {f fk : FE} {lo hi : Option Expr} {fl fh : FO}
theorem px_cutK (ha : PX X W e f) (hl : PXO X W lo fl) (hu : PXO X W hi fh) (hk : PX X W ke fk) : PX X W (.Subscript e (.Slice lo hi (some ke) p2) pos) (eCutK f fl fh fk) := by
  refine ⟨PE.mono (pe_sliceK (sk_str.or sk_list) ha.pe hl.po hu.po hk.pe) fun σ H Q ⟨ι, ρ, h, hρ, hh, g⟩ => ?_⟩
  refine tE_seq hρ hh g fun p ι1 H1 v1 e1 h1 r1 hρ1 q1 => tO_seqV hρ1 h1 q1 fun p2 ι2 H2 e2 h2 hρ2 q2 => tO_seqV hρ2 h2 q2 fun p3 ι3 H3 e3 h3 hρ3 q3 => tE_seq hρ3 h3 q3 fun p4 ι4 H4 v4 e4 h4 r4 hρ4 q4 => ?_
  have r3 := ((r1.ext e2).ext e3).ext e4
  split at q4
  · rename_i i hi
    rw [hi] at r4
    cases r4
    refine ⟨i, rfl, ?_⟩
    unfold sCutK at q4
    split at q4
    · split at q4
      · rename_i s hp hz
        rw [hp] at r3
        cases r3
        exact .inl ⟨_, rfl, line_le hz.1, hz.2.1, hz.2.2, q4.same h4 (.str _)⟩
      · exact q4.elim
    · split at q4
      · rename_i hz
        split at q4
        · rename_i e
          obtain ⟨a, ws, ev, hs, rw'⟩ := itemsL_of h4 r3 e
          rw [ev]
          exact .inr ⟨_, _, rfl, hs, hz.1, fun p hp => VW.newLst q4 h4 (rw'.pickK _ _ _) hp⟩
        · exact q4.elim
      · exact q4.elim
  · exact q4.elim
end
end Px
namespace Px
open PySem PySem.Spec PyProof.Rows L2
/-! ## comprehensions with two fors: the list being built may change under the inner walk -/
structure ExtB (B : Addr) (ι : List Addr) (H : Hp) (ι' : List Addr) (H' : Hp) : Prop where
  pre : ι <+: ι'
  tups : ∀ a vs, H a = some (.tup vs) → H' a = some (.tup vs)
  frzs : ∀ a o u, H a = some (.frz o u) → H' a = some (.frz o u)
  keep : ∀ a o, a ≠ B → H a = some o → a ∉ ι → H' a = some o
section
variable {K : PySem.W.Frag} {B : Addr} {ι ι' ι1 ι2 : List Addr} {H H' H1 H2 : Hp}
theorem Ext.b (e : Ext ι H ι' H') : ExtB B ι H ι' H' := ⟨e.pre, e.tups, e.frzs, fun a o _ h n => e.keep a o h n⟩
theorem ExtB.trans (a : ExtB B ι H ι1 H1) (b : Ext ι1 H1 ι2 H2) (hn : ∀ p, p ∈ ι1 → p ∉ ι → H p = none) : ExtB B ι H ι2 H2 :=
  ⟨a.pre.trans b.pre, fun p vs h => b.tups p vs (a.tups p vs h), fun p o u h => b.frzs p o u (a.frzs p o u h), fun p o hB h n => by
    by_cases hp : p ∈ ι1
    · have := hn p hp n
      rw [h] at this; cases this
    · exact b.keep p o (a.keep p o hB h n) hp⟩
theorem ExtB.write {ws : List V} {o : HO} (a : ExtB B ι H ι1 H1) (h : H1 B = some (.lst ws)) : ExtB B ι H ι1 (upd H1 B o) :=
  ⟨a.pre, fun p vs q => by rw [upd_ne (fun z => by have := a.tups p vs q; rw [z, h] at this; cases this)]; exact a.tups p vs q,
    fun p x u q => by rw [upd_ne (fun z => by have := a.frzs p x u q; rw [z, h] at this; cases this)]; exact a.frzs p x u q,
    fun p x hB q n => by rw [upd_ne hB]; exact a.keep p x hB q n⟩
theorem ExtB.at (e : ExtB B ι H ι' H') {n : Nat} {a : Addr} (h : ι[n]? = some a) : ι'[n]? = some a := by
  obtain ⟨r, rfl⟩ := e.pre
  rw [List.getElem?_append_left (by exact (List.getElem?_eq_some_iff.mp h).1)]
  exact h
theorem ExtB.sqT (e : ExtB B ι H ι' H') {a : Addr} {vs : List V} (h : SqT K H a vs) : SqT K H' a vs := by
  rcases h with (h | ⟨o, h⟩) | h
  · exact .inl (.inl (e.tups _ _ h))
  · exact .inl (.inr ⟨o, e.frzs _ _ _ h⟩)
  · exact .inr h
theorem ExtB.sqF (e : ExtB B ι H ι' H') {a : Addr} {vs : List V} (h : SqF K H a vs) : SqF K H' a vs := by
  rcases h with ⟨o, h⟩ | h
  · exact .inl ⟨o, e.frzs _ _ _ h⟩
  · exact .inr h
mutual
theorem Rep.extB (e : ExtB B ι H ι' H') : ∀ {v : V} {d : D}, Rep K ι H v d → Rep K ι' H' v d
  | _, _, .non => .non
  | _, _, .bl b => .bl b
  | _, _, .int i => .int i
  | _, _, .str s => .str s
  | _, _, .tup h r => .tup (e.sqT h) (Reps.extB e r)
  | _, _, .fl h r => .fl (e.sqF h) (Reps.extB e r)
  | _, _, .ref h => .ref (e.at h)
  | _, _, .fn x => .fn x
theorem Reps.extB (e : ExtB B ι H ι' H') : ∀ {vs : List V} {ds : List D}, Reps K ι H vs ds → Reps K ι' H' vs ds
  | _, _, .nil => .nil
  | _, _, .cons h r => .cons (Rep.extB e h) (Reps.extB e r)
end
end
structure JWB (B : Addr) (K : PySem.W.Frag) (ι0 : List Addr) (H0 : Hp) (J : It) (xs : List D) (src : Option Nat) : Prop where
  go : ∀ i x ι H h, xs[i]? = some x → ExtB B ι0 H0 ι H → Rh K ι H h → (∀ n, src = some n → h[n]? = some (.lst xs)) → J.go i H
  yld : ∀ i x ι H h v H', xs[i]? = some x → ExtB B ι0 H0 ι H → Rh K ι H h → (∀ n, src = some n → h[n]? = some (.lst xs)) → J.yld i H v H' → Ext ι H ι H' ∧ Rh K ι H' h ∧ Rep K ι H' v x
  stop : ∀ ι H h, ExtB B ι0 H0 ι H → Rh K ι H h → (∀ n, src = some n → h[n]? = some (.lst xs)) → J.stop xs.length H
def IWB (K : PySem.W.Frag) (ι : List Addr) (H : Hp) (R : It → Hp → Prop) (p : (List D × Option Nat) × Hy) : Prop :=
  ∀ ι' H' J, Ext ι H ι' H' → Rh K ι' H' p.2 → (∀ B ws, H B = some (.lst ws) → B ∉ ι → JWB B K ι' H' J p.1.1 p.1.2) → R J H'
theorem IWB.ext {K : PySem.W.Frag} {ι ι' : List Addr} {H H' : Hp} {R : It → Hp → Prop} {p : (List D × Option Nat) × Hy} (x : IWB K ι H R p) (e : Ext ι H ι' H') : IWB K ι' H' R p :=
  fun ι2 H2 J e2 r q => x ι2 H2 J (e.trans e2) r fun B ws hB hn => q B ws (e.keep _ _ hB hn) fun z => by
    have := e.new B z hn
    rw [hB] at this; cases this
def tIB (K : PySem.W.Frag) (W : WX) (f : FI) : TI := fun σ H R => ∃ ι ρ h, RepX K ι H σ ρ ∧ Rh K ι H h ∧ Good (f ρ h) (IWB K ι H R) (XW K W ι σ H)
structure PXIB (X : Cx) (W : WX) (tg e : Expr) (f : FI) : Prop where
  pi : PI X tg e (tIB X.K W f)
section
variable {K : PySem.W.Frag} {B : Addr} {ι0 : List Addr} {H0 : Hp}
theorem JWB.str (s : Tx) : JWB B K ι0 H0 (Its (toS s)) (s.map fun c => D.str [c]) none where
  go := fun i x ι H h hx _ r _ => (JW.str (K := K) (ι0 := ι) (H0 := H) s).go i x ι H h hx Ext.refl r fun n e => by cases e
  yld := fun i x ι H h v H' hx _ r _ y => (JW.str (K := K) (ι0 := ι) (H0 := H) s).yld i x ι H h v H' hx Ext.refl r (fun n e => by cases e) y
  stop := fun ι H h _ r _ => (JW.str (K := K) (ι0 := ι) (H0 := H) s).stop ι H h Ext.refl r fun n e => by cases e
theorem JWB.fl {a : Addr} {vs : List V} {xs : List D} (hs : SqF K H0 a vs) (r : Reps K ι0 H0 vs xs) : JWB B K ι0 H0 (Itl K a) xs none where
  go := fun i x ι H h hx e rh _ => (JW.fl (e.sqF hs) (r.extB e)).go i x ι H h hx Ext.refl rh fun n e => by cases e
  yld := fun i x ι H h v H' hx e rh _ y => (JW.fl (e.sqF hs) (r.extB e)).yld i x ι H h v H' hx Ext.refl rh (fun n e => by cases e) y
  stop := fun ι H h e rh _ => (JW.fl (e.sqF hs) (r.extB e)).stop ι H h Ext.refl rh fun n e => by cases e
theorem JW.tupO {K : PySem.W.Frag} {ι0 : List Addr} {H0 : Hp} {a : Addr} {vs : List V} {xs : List D} (hs : SqT K H0 a vs) (rs : Reps K ι0 H0 vs xs) : JW K ι0 H0 (Itt K a) xs none :=
  ⟨fun i x ι H h hx e _ _ => by
    obtain ⟨v, hv, rv⟩ := rs.get hx
    exact ⟨_, v, e.sqT hs, hv⟩, fun i x ι H h v H' hx e rh _ y => by
    obtain ⟨rfl, y⟩ := y
    obtain ⟨w, hw, rw'⟩ := rs.get hx
    have := y _ (e.sqT hs)
    rw [hw] at this
    cases this
    exact ⟨Ext.refl, rh, rw'.ext e⟩, fun ι H h e _ _ => ⟨_, e.sqT hs, by rw [rs.length]; exact Nat.le_refl _⟩⟩
theorem JWB.tup {a : Addr} {vs : List V} {xs : List D} (hs : SqT K H0 a vs) (r : Reps K ι0 H0 vs xs) : JWB B K ι0 H0 (Itt K a) xs none where
  go := fun i x ι H h hx e rh _ => (JW.tupO (e.sqT hs) (r.extB e)).go i x ι H h hx Ext.refl rh fun n e => by cases e
  yld := fun i x ι H h v H' hx e rh _ y => (JW.tupO (e.sqT hs) (r.extB e)).yld i x ι H h v H' hx Ext.refl rh (fun n e => by cases e) y
  stop := fun ι H h e rh _ => (JW.tupO (e.sqT hs) (r.extB e)).stop ι H h Ext.refl rh fun n e => by cases e
theorem JWB.own {a : Addr} {n : Nat} {xs : List D} (hn : ι0[n]? = some a) : JWB B K ι0 H0 (Itl K a) xs (some n) where
  go := fun i x ι H h hx e rh s => (JW.own (K := K) (H0 := H) (e.at hn)).go i x ι H h hx Ext.refl rh s
  yld := fun i x ι H h v H' hx e rh s y => (JW.own (K := K) (H0 := H) (e.at hn)).yld i x ι H h v H' hx Ext.refl rh s y
  stop := fun ι H h e rh s => (JW.own (K := K) (H0 := H) (e.at hn)).stop ι H h Ext.refl rh s
theorem JWB.lone {a : Addr} {vs : List V} {xs : List D} (hs : H0 a = some (.lst vs)) (ha : a ∉ ι0) (hB : a ≠ B) (r : Reps K ι0 H0 vs xs) : JWB B K ι0 H0 (Itl K a) xs none where
  go := fun i x ι H h hx e _ _ => by
    obtain ⟨v, hv, rv⟩ := r.get hx
    exact ⟨vs, v, SqL.of (e.keep _ _ hB hs ha), hv⟩
  yld := fun i x ι H h v H' hx e rh _ y => by
    obtain ⟨rfl, y⟩ := y
    obtain ⟨w, hw, rw'⟩ := r.get hx
    have := y vs (SqL.of (e.keep _ _ hB hs ha))
    rw [hw] at this
    cases this
    exact ⟨Ext.refl, rh, rw'.extB e⟩
  stop := fun ι H h e _ _ => ⟨vs, SqL.of (e.keep _ _ hB hs ha), by rw [r.length]; exact Nat.le_refl _⟩
theorem JWB.range (lo : Int) (n : Nat) : JWB B K ι0 H0 (Itr lo n) (rangeD lo n) none where
  go := fun i x ι H h hx _ r _ => (JW.range (K := K) (ι0 := ι) (H0 := H) lo n).go i x ι H h hx Ext.refl r fun n e => by cases e
  yld := fun i x ι H h v H' hx _ r _ y => (JW.range (K := K) (ι0 := ι) (H0 := H) lo n).yld i x ι H h v H' hx Ext.refl r (fun n e => by cases e) y
  stop := fun ι H h _ r _ => (JW.range (K := K) (ι0 := ι) (H0 := H) lo n).stop ι H h Ext.refl r fun n e => by cases e
end
theorem pxib_val {X : Cx} {W : WX} {tg e : Expr} {f : FE} (he : PX X W e f) : PXIB X W tg e (iVal f) := by
  refine ⟨PI.mono (pi_any he.pe) fun σ H R ⟨ι, ρ, h, hρ, hh, g⟩ => ?_⟩
  refine ⟨ι, ρ, h, hρ, hh, Good.mono (Good.bind g) (fun p q ι1 H1 v e1 h1 r1 => ?_) fun _ _ _ z => z⟩
  split at q
  · rename_i s hp
    rw [hp] at r1
    cases r1
    exact .inr (.inr ⟨_, rfl, q ι1 H1 _ e1 h1 fun _ _ _ _ => JWB.str s⟩)
  · rename_i xs hp
    rw [hp] at r1
    cases r1 with
    | tup hs rs => exact .inr (.inl ⟨_, rfl, ⟨_, hs⟩, q ι1 H1 _ e1 h1 fun _ _ _ _ => JWB.tup hs rs⟩)
  · rename_i xs hp
    rw [hp] at r1
    cases r1 with
    | fl hs rs => exact .inl ⟨_, rfl, ⟨_, hs.seq⟩, q ι1 H1 _ e1 h1 fun _ _ _ _ => JWB.fl hs rs⟩
  · rename_i n hp
    rw [hp] at r1
    cases r1 with
    | ref hn =>
      split at q
      · rename_i a xs hx
        obtain ⟨vs, hv, rs⟩ := h1.at_ n _ _ hn hx
        split at q
        · rename_i hc
          obtain ⟨hl, el⟩ := hh.low e1 h1 hc.1
          have ha : _ ∉ ι := fun z => by
            obtain ⟨i, hi, e⟩ := List.mem_iff_getElem.mp z
            have e2 : _ = _ := e1.at (List.getElem?_eq_getElem hi)
            rw [e] at e2
            have : i ≠ n := by have := hc.2.1; have := hh.len; omega
            exact getElem?_ne_of_nodup h1.nd e2 hn this rfl
          obtain ⟨rest, er⟩ := e1.pre
          refine .inl ⟨_, rfl, ⟨_, SqL.of hv⟩, q ι H1 _ el hl fun B ws hB hBn => JWB.lone hv ha (fun z => ?_) (rs.low (k := h.length) (fun j hj => ?_) hc.2.2)⟩
          · have := e1.new _ (List.mem_of_getElem? hn) ha
            rw [z, hB] at this; cases this
          · rw [← er, List.getElem?_append_left (by rw [hh.len]; exact hj)]
        · exact .inl ⟨_, rfl, ⟨_, SqL.of hv⟩, q ι1 H1 _ e1 h1 fun _ _ _ _ => JWB.own hn⟩
      · exact q.elim
  · exact q.elim
theorem tA_seqIB {K : PySem.W.Frag} {W : WX} {f : FA} {k : List D × Hy → R ((List D × Option Nat) × Hy)} {σ : L2.St} {H : Hp} {Q : It → Hp → Prop} {Q' : List V → Hp → Prop} {ι : List Addr} {ρ : Env} {h : Hy} (hρ : RepX K ι H σ ρ) (hh : Rh K ι H h)
    (g : Good ((f ρ h).bind k) (IWB K ι H Q) (XW K W ι σ H)) (c : ∀ p ι' H' vs, Ext ι H ι' H' → Rh K ι' H' p.2 → Reps K ι' H' vs p.1 → Good (k p) (IWB K ι' H' Q) (XW K W ι' σ H') → Q' vs H') : tA K W f σ H Q' :=
  ⟨ι, ρ, h, hρ, hh, g.bind.mono (fun p q ι' H' v e r rv => c p ι' H' v e r rv (q.mono (fun _ z => z.ext e) fun _ _ _ z => z.ext e)) fun _ _ _ z => z⟩
theorem pxib_range1 {X : Cx} {W : WX} {tg a : Expr} {fa : FA} {p pos : Pos} (hm : X.mg "range" = none) (ha : PXA X W [a] fa) (hg : Gl X "range" := by rfl) (hs : starEach [a] X.env = [(false, eval a X.env)] := by rfl) : PXIB X W tg (.Call (.Name "range" p) [a] [] pos) (iRange1 fa) := by
  refine ⟨PI.mono (pi_range1 hg hm ha.pa hs) fun σ H R ⟨ι, ρ, h, hρ, hh, g⟩ => ?_⟩
  refine tA_seqIB hρ hh g fun p ι1 H1 vs e1 h1 r1 q => ?_
  split at q
  · split at q
    · rename_i j hp hz
      rw [hp] at r1
      cases r1 with
      | cons r rr =>
        cases rr
        cases r
        exact ⟨_, rfl, by omega, by omega, q ι1 H1 _ Ext.refl h1 fun _ _ _ _ => JWB.range 0 _⟩
    · exact q.elim
  · exact q.elim
/-- the outer loop of two; n items are made so far -/
def c2Loop (ct : CT) (tt : FT) (fi1 : FI) (ct1 : CT) (tt1 : FT) (te : FE) (vs1 : List Nat) (ρ : Env) (all : List D) (src : Option Nat) : List D → Nat → Hy → R (List D × Hy)
  | [], _, h => if srcOk all src h then .ok ([], h) else .stuck
  | x :: xs, n, h => if srcOk all src h then match ct.store x ρ with
      | some ρ' => (tt ρ' h).calm.bind fun b => if b.1 then (fi1 ρ' b.2).calm.bind fun p => if n + p.1.1.length ≤ 16777216 then
            (cLoop ct1 tt1 te (wipeE ρ' vs1) p.1.1 p.1.2 p.1.1 p.2).bind fun y => (c2Loop ct tt fi1 ct1 tt1 te vs1 ρ all src xs (n + y.1.length) y.2).bind fun r => .ok (y.1 ++ r.1, r.2)
          else .stuck
        else c2Loop ct tt fi1 ct1 tt1 te vs1 ρ all src xs n b.2
      | none => .stuck
    else .stuck
def eComp2 (vs : List Nat) (fi : FI) (ct : CT) (tt : FT) (vs1 : List Nat) (fi1 : FI) (ct1 : CT) (tt1 : FT) (te : FE) : FE := fun ρ h => (fi ρ h).bind fun p =>
  (c2Loop ct tt fi1 ct1 tt1 te vs1 (wipeE ρ vs) p.1.1 p.1.2 p.1.1 0 p.2).bind fun r => new (.lst r.1) r.2
theorem bind_assoc' {α β γ : Type} (r : R α) (f : α → R β) (g : β → R γ) : (r.bind f).bind g = r.bind fun a => (f a).bind g := by cases r <;> rfl
theorem comp2_mono {K : PySem.W.Frag} {W : WX} {vs : List Nat} {fi : FI} {ct : CT} {tt : FT} {vs1 : List Nat} {fi1 : FI} {ct1 : CT} {tt1 : FT} {te : FE} (hct : ∀ i ∈ ct.slots, i ∈ vs) (hct1 : ∀ i ∈ ct1.slots, i ∈ vs1) {σ : L2.St} {H : Hp} {Q : VK} :
    tE K W (eComp2 vs fi ct tt vs1 fi1 ct1 tt1 te) σ H Q → tLc2 (tI K W fi) (gOf K ct) (tT K WN tt) (tIB K WN fi1) (gOf K ct1) (tT K WN tt1) (tE K WN te) vs vs1 σ H Q := by
  rintro ⟨ι, ρ, h, hρ, hh, g⟩
  refine ⟨ι, ρ, h, hρ, hh, g.bind.mono (fun p q ι1 H1 J e1 h1 jw => ?_) fun _ _ _ z => z⟩
  obtain ⟨⟨all, src⟩, h'⟩ := p
  simp only at q jw h1
  intro B hB
  have hBi : B ∉ ι1 := h1.notin hB
  generalize hL : c2Loop ct tt fi1 ct1 tt1 te vs1 (wipeE ρ vs) all src = L at q
  have q1 : Good ((L all 0 h').bind fun r => new (.lst r.1) r.2) (VW K ι1 H1 Q) (XW K W ι1 σ H1) := q.mono (fun _ z => z.ext e1) fun _ _ _ z => z.ext e1
  have hρ1 := (hρ.ext e1).wipe vs
  refine ⟨fun i m H => m = all.length - i ∧ i ≤ all.length ∧ ∃ ι h ws ys, Ext ι1 H1 ι H ∧ Rh K ι H h ∧ B ∉ ι ∧ H B = some (.lst ws) ∧ Reps K ι H ws ys ∧
    Good ((L (all.drop i) ys.length h).bind fun r => new (.lst (ys ++ r.1)) r.2) (VW K ι1 H1 Q) (XW K W ι1 σ H1), ⟨all.length, by simp, Nat.zero_le _, ι1, h', [], [], ?_⟩, ?_⟩
  · obtain ⟨e2, h2⟩ := h1.put (o := .lst []) hB
    exact ⟨e2, h2, hBi, upd_same, .nil, by simpa using q1⟩
  · rintro i m H ⟨rfl, hi, ι2, h2, ws, ys, e2, r2, hD2, hLw, rs, g2⟩
    by_cases hlt : i < all.length
    · refine .inr ?_
      have hx : all[i]? = some all[i] := List.getElem?_eq_getElem hlt
      rw [List.drop_eq_getElem_cons hlt] at g2
      rw [← hL] at g2
      unfold c2Loop at g2
      rw [hL] at g2
      split at g2
      · rename_i hs
        refine ⟨jw.go i _ ι2 H h2 hx e2 r2 hs, fun H' => ∃ ι h ws ys, Ext ι1 H1 ι H' ∧ Rh K ι H' h ∧ B ∉ ι ∧ H' B = some (.lst ws) ∧ Reps K ι H' ws ys ∧
          Good ((L (all.drop (i + 1)) ys.length h).bind fun r => new (.lst (ys ++ r.1)) r.2) (VW K ι1 H1 Q) (XW K W ι1 σ H1), fun H' n => ⟨all.length - (i + 1), by omega, rfl, hlt, n⟩, fun x H' y => ?_⟩
        obtain ⟨e3, r3, rx⟩ := jw.yld i _ ι2 H h2 x H' hx e2 r2 hs y
        cases hst : ct.store all[i] (wipeE ρ vs) with
        | none => rw [hst] at g2; exact g2.elim
        | some ρ' =>
          rw [hst] at g2
          simp only at g2
          refine CT.run hst rx (hρ1.ext (e2.trans e3)) fun σ' hσ' hw => ⟨by rw [hw vs hct]; exact wipe_wipe σ vs, ?_⟩
          have hL3 : H' B = some (.lst ws) := e3.keep _ _ hLw hD2
          rw [bind_assoc'] at g2
          refine ⟨ι2, ρ', h2, hσ', r3, calm_good (ex := XW K W ι1 σ H1) (g2.bind.mono (fun b gb ι4 H4 e4 r4 => ?_) fun _ _ _ z => z)⟩
          have hD4 : B ∉ ι4 := fun z => by
            have := e4.new B z hD2
            rw [hL3] at this; cases this
          have hL4 : H4 B = some (.lst ws) := e4.keep _ _ hL3 hD2
          have rs4 := (rs.ext e3).ext e4
          have e14 := (e2.trans e3).trans e4
          obtain ⟨b, hb⟩ := b
          cases b with
          | false =>
            dsimp only
            rw [if_neg Bool.false_ne_true]
            exact ⟨ι4, hb, ws, ys, e14, r4, hD4, hL4, rs4, gb⟩
          | true =>
            dsimp only
            rw [if_pos rfl]
            simp only [if_true] at gb
            rw [bind_assoc'] at gb
            refine ⟨ι4, ρ', hb, hσ'.ext e4, r4, calm_good (ex := XW K W ι1 σ H1) (gb.bind.mono (fun p gp ι5 H5 J1 e5 r5 jw1 => ?_) fun _ _ _ z => z)⟩
            have hD5 : B ∉ ι5 := fun z => by
              have := e5.new B z hD4
              rw [hL4] at this; cases this
            have hL5 : H5 B = some (.lst ws) := e5.keep _ _ hL4 hD4
            have rs5 := rs4.ext e5
            have e15 := e14.trans e5
            have hσ5 := (hσ'.ext e4).ext e5
            have jw1 := jw1 B ws hL4 hD4
            obtain ⟨⟨all1, src1⟩, h5⟩ := p
            simp only at gp jw1 r5
            split at gp
            · rename_i hz
              rw [bind_assoc'] at gp
              have hρ5 := hσ5.wipe vs1
              refine ⟨fun j k H => k = all1.length - j ∧ j ≤ all1.length ∧ ∃ ι h ws zs, Ext ι1 H1 ι H ∧ ExtB B ι5 H5 ι H ∧ (∀ p, p ∈ ι → p ∉ ι5 → H5 p = none) ∧ Rh K ι H h ∧ B ∉ ι ∧ H B = some (.lst ws) ∧ Reps K ι H ws (ys ++ zs) ∧ zs.length ≤ j ∧
                Good ((cLoop ct1 tt1 te (wipeE ρ' vs1) all1 src1 (all1.drop j) h).bind fun y => (L (all.drop (i + 1)) (ys.length + (zs ++ y.1).length) y.2).bind fun r => new (.lst (ys ++ ((zs ++ y.1) ++ r.1))) r.2) (VW K ι1 H1 Q) (XW K W ι1 σ H1), ⟨all1.length, by simp, Nat.zero_le _, ι5, h5, ws, [], e15, Ext.refl.b, (fun p a b => absurd a b), r5, hD5, hL5, by simpa using rs5, Nat.zero_le _, ?_⟩, ?_⟩
              · rw [List.drop_zero]
                simp only [List.nil_append]
                have : (fun y : List D × Hy => ((L (all.drop (i + 1)) (ys.length + y.1.length) y.2).bind fun r => R.ok (y.1 ++ r.1, r.2)).bind fun r => new (.lst (ys ++ r.1)) r.2) = fun y => (L (all.drop (i + 1)) (ys.length + y.1.length) y.2).bind fun r => new (.lst (ys ++ (y.1 ++ r.1))) r.2 := by
                  funext y
                  rw [bind_assoc']
                  rfl
                rw [← this]
                exact gp
              · rintro j k H ⟨rfl, hj, ι6, h6, ws6, zs, e16, eB, nB, r6, hD6, hL6, rs6, hzs, g6⟩
                by_cases hlt1 : j < all1.length
                · refine .inr ?_
                  have hx1 : all1[j]? = some all1[j] := List.getElem?_eq_getElem hlt1
                  rw [List.drop_eq_getElem_cons hlt1] at g6
                  unfold cLoop at g6
                  split at g6
                  · rename_i hs1
                    refine ⟨jw1.go j _ ι6 H h6 hx1 eB r6 hs1, fun H' => ∃ ι h ws zs, Ext ι1 H1 ι H' ∧ ExtB B ι5 H5 ι H' ∧ (∀ p, p ∈ ι → p ∉ ι5 → H5 p = none) ∧ Rh K ι H' h ∧ B ∉ ι ∧ H' B = some (.lst ws) ∧ Reps K ι H' ws (ys ++ zs) ∧ zs.length ≤ j + 1 ∧
                      Good ((cLoop ct1 tt1 te (wipeE ρ' vs1) all1 src1 (all1.drop (j + 1)) h).bind fun y => (L (all.drop (i + 1)) (ys.length + (zs ++ y.1).length) y.2).bind fun r => new (.lst (ys ++ ((zs ++ y.1) ++ r.1))) r.2) (VW K ι1 H1 Q) (XW K W ι1 σ H1), fun H' n => ⟨all1.length - (j + 1), by omega, rfl, hlt1, n⟩, fun x1 H7 y1 => ?_⟩
                    obtain ⟨e7, r7, rx1⟩ := jw1.yld j _ ι6 H h6 x1 H7 hx1 eB r6 hs1 y1
                    cases hst1 : ct1.store all1[j] (wipeE ρ' vs1) with
                    | none => rw [hst1] at g6; exact g6.elim
                    | some ρ1 =>
                      rw [hst1] at g6
                      simp only at g6
                      have hσ7 : RepX K ι6 H7 (L2.wipe σ' vs1) (wipeE ρ' vs1) := by
                        refine RepX.ext (ι := ι6) (H := H) ?_ e7
                        refine ⟨hρ5.1, fun i d q => ?_⟩
                        obtain ⟨v, a, b⟩ := hρ5.2 i d q
                        exact ⟨v, a, b.extB eB⟩
                      refine CT.run hst1 rx1 hσ7 fun σ3 hσ3 hw1 => ⟨by rw [hw1 vs1 hct1]; exact wipe_wipe σ' vs1, ?_⟩
                      have hL7 : H7 B = some (.lst ws6) := e7.keep _ _ hL6 hD6
                      have eB7 : ExtB B ι5 H5 ι6 H7 := eB.trans e7 nB
                      rw [bind_assoc'] at g6
                      refine ⟨ι6, ρ1, h6, hσ3, r7, calm_good (ex := XW K W ι1 σ H1) (g6.bind.mono (fun b gb ι8 H8 e8 r8 => ?_) fun _ _ _ z => z)⟩
                      have hD8 : B ∉ ι8 := fun z => by
                        have := e8.new B z hD6
                        rw [hL7] at this; cases this
                      have hL8 : H8 B = some (.lst ws6) := e8.keep _ _ hL7 hD6
                      have eB8 : ExtB B ι5 H5 ι8 H8 := eB7.trans e8 nB
                      have nB8 : ∀ p, p ∈ ι8 → p ∉ ι5 → H5 p = none := fun p a b => by
                        by_cases hp : p ∈ ι6
                        · exact nB p hp b
                        · have z := e8.new p a hp
                          cases w : H5 p with
                          | none => rfl
                          | some o =>
                            have hpB : p ≠ B := fun z2 => by rw [z2] at a; exact hD8 a
                            have := eB7.keep p o hpB w b
                            rw [z] at this; cases this
                      have e18 := (e16.trans e7).trans e8
                      have rs8 := (rs6.ext e7).ext e8
                      obtain ⟨b, hb2⟩ := b
                      cases b with
                      | false =>
                        dsimp only
                        rw [if_neg Bool.false_ne_true]
                        exact ⟨ι8, hb2, ws6, zs, e18, eB8, nB8, r8, hD8, hL8, rs8, by omega, gb⟩
                      | true =>
                        dsimp only
                        rw [if_pos rfl]
                        simp only [if_true] at gb
                        rw [bind_assoc'] at gb
                        refine ⟨ι8, ρ1, hb2, hσ3.ext e8, r8, calm_good (ex := XW K W ι1 σ H1) (gb.bind.mono (fun y gy ι9 H9 v e9 r9 rv => ?_) fun _ _ _ z => z)⟩
                        have hD9 : B ∉ ι9 := fun z => by
                          have := e9.new B z hD8
                          rw [hL8] at this; cases this
                        have hL9 : H9 B = some (.lst ws6) := e9.keep _ _ hL8 hD8
                        have rs9 := rs8.ext e9
                        have eB9 : ExtB B ι5 H5 ι9 H9 := eB8.trans e9 nB8
                        have nB9 : ∀ p, p ∈ ι9 → p ∉ ι5 → H5 p = none := fun p a b => by
                          by_cases hp : p ∈ ι8
                          · exact nB8 p hp b
                          · have z := e9.new p a hp
                            cases w : H5 p with
                            | none => rfl
                            | some o =>
                              have hpB : p ≠ B := fun z2 => by rw [z2] at a; exact hD9 a
                              have := eB8.keep p o hpB w b
                              rw [z] at this; cases this
                        have w9 := wk_apart (ι := ι9) (o := .lst (ws6 ++ [v])) hL9
                        refine ⟨ws6, hL9, ?_, ι9, y.2, ws6 ++ [v], zs ++ [y.1], (e18.trans e9).apart hB hL9, eB9.write hL9, nB9, r9.apart hD9 hL9, hD9, upd_same, ?_, by simp; omega, ?_⟩
                        · rw [rs9.length, List.length_append]
                          rw [sizeLine_eq]
                          omega
                        · rw [← List.append_assoc]
                          exact (rs9.append (.one rv)).wk w9
                        · rw [bind_assoc'] at gy
                          simp only [R.bind_ok] at gy
                          simpa using gy
                  · exact g6.elim
                · have hj2 : j = all1.length := by omega
                  subst hj2
                  rw [List.drop_length] at g6
                  unfold cLoop at g6
                  split at g6
                  · rename_i hs1
                    refine .inl ⟨jw1.stop ι6 H h6 eB r6 hs1, ι6, h6, ws6, ys ++ zs, e16, r6, hD6, hL6, rs6, ?_⟩
                    simp only [R.bind_ok, List.append_nil] at g6
                    rw [List.length_append]
                    simpa only [List.append_assoc] using g6
                  · exact g6.elim
            · exact gp.elim
      · exact g2.elim
    · have hi2 : i = all.length := by omega
      subst hi2
      rw [List.drop_length] at g2
      rw [← hL] at g2
      unfold c2Loop at g2
      split at g2
      · rename_i hs
        refine .inl ⟨jw.stop ι2 H h2 e2 r2 hs, ?_⟩
        have g3 : VW K ι1 H1 Q (.ref h2.length, h2 ++ [.lst (ys ++ [])]) := g2
        rw [List.append_nil] at g3
        exact g3.lone e2 r2 hB hD2 hLw rs
      · exact g2.elim
section
variable {X : Cx} {W : WX} {pos : Pos} {elt tg iter tg1 iter1 : Expr} {ifs ifs1 : List Expr} {scope : Scope} {own : List (Str × Nat)} {vs1 : List Nat} {fi fi1 : FI} {ct ct1 : CT} {tt tt1 : FT} {te : FE}
theorem px_comp2 (hc : X.calm = true) (hN : X.N.Nodup) (hi : PXI X W tg iter fi) (ok : BlkOk X.N X.env.scope scope own)
    (hg : ∀ (s : Shared) (H : Hp) (C : Addr) (cl : List (Str × Addr)) (fp : List Addr), PG (X.blk s H scope (compEnvC scope cl C X.env) fp) tg (gOf X.K ct))
    (ht : ∀ (s : Shared) (H : Hp) (C : Addr) (cl : List (Str × Addr)) (fp : List Addr), PXTs (X.blk s H scope (compEnvC scope cl C X.env) fp) WN ifs tt)
    (hi1 : ∀ (s : Shared) (H : Hp) (C : Addr) (cl : List (Str × Addr)) (fp : List Addr), PXIB (X.blk s H scope (compEnvC scope cl C X.env) fp) WN tg1 iter1 fi1)
    (hg1 : ∀ (s : Shared) (H : Hp) (C : Addr) (cl : List (Str × Addr)) (fp : List Addr), PG (X.blk s H scope (compEnvC scope cl C X.env) fp) tg1 (gOf X.K ct1))
    (ht1 : ∀ (s : Shared) (H : Hp) (C : Addr) (cl : List (Str × Addr)) (fp : List Addr), PXTs (X.blk s H scope (compEnvC scope cl C X.env) fp) WN ifs1 tt1)
    (he : ∀ (s : Shared) (H : Hp) (C : Addr) (cl : List (Str × Addr)) (fp : List Addr), PX (X.blk s H scope (compEnvC scope cl C X.env) fp) WN elt te)
    (hv : ∀ i ∈ vs1, i ∈ own.map (·.2) := by decide) (hct : ∀ i ∈ ct.slots, i ∈ own.map (·.2) := by decide) (hct1 : ∀ i ∈ ct1.slots, i ∈ vs1 := by decide) (hs : ∀ x, foldedSetIterable iter X.env x = pure x := by intro _; rfl) (hs1 : ∀ env x, foldedSetIterable iter1 env x = pure x := by intro _ _; rfl) :
    PX X W (.ListComp elt [⟨tg, iter, ifs, 0⟩, ⟨tg1, iter1, ifs1, 0⟩] scope pos) (eComp2 (own.map (·.2)) fi ct tt vs1 fi1 ct1 tt1 te) :=
  ⟨PE.mono (pe_lc2 hc hN hi.pi ok hv hg (fun s H C cl fp => (ht s H C cl fp).pt) (fun s H C cl fp => (hi1 s H C cl fp).pi) hg1 (fun s H C cl fp => (ht1 s H C cl fp).pt) (fun s H C cl fp => (he s H C cl fp).pe) hs hs1) fun _ _ _ => comp2_mono hct hct1⟩
end
theorem pxs_setComp2 {X : Cx} {W : WX} {pos spos py : Pos} {y : Str} {elt tg iter tg1 iter1 : Expr} {ifs ifs1 : List Expr} {scope : Scope} {own : List (Str × Nat)} {vs1 : List Nat} {fi fi1 : FI} {ct ct1 : CT} {tt tt1 : FT} {te : FE} (i : Nat) (hc : X.calm = true) (hN : X.N.Nodup) (hi : PXI X W tg iter fi) (ok : BlkOk X.N X.env.scope scope own)
    (hg : ∀ (s : Shared) (H : Hp) (C : Addr) (cl : List (Str × Addr)) (fp : List Addr), PG (X.blk s H scope (compEnvC scope cl C X.env) fp) tg (gOf X.K ct))
    (ht : ∀ (s : Shared) (H : Hp) (C : Addr) (cl : List (Str × Addr)) (fp : List Addr), PXTs (X.blk s H scope (compEnvC scope cl C X.env) fp) WN ifs tt)
    (hi1 : ∀ (s : Shared) (H : Hp) (C : Addr) (cl : List (Str × Addr)) (fp : List Addr), PXIB (X.blk s H scope (compEnvC scope cl C X.env) fp) WN tg1 iter1 fi1)
    (hg1 : ∀ (s : Shared) (H : Hp) (C : Addr) (cl : List (Str × Addr)) (fp : List Addr), PG (X.blk s H scope (compEnvC scope cl C X.env) fp) tg1 (gOf X.K ct1))
    (ht1 : ∀ (s : Shared) (H : Hp) (C : Addr) (cl : List (Str × Addr)) (fp : List Addr), PXTs (X.blk s H scope (compEnvC scope cl C X.env) fp) WN ifs1 tt1)
    (he : ∀ (s : Shared) (H : Hp) (C : Addr) (cl : List (Str × Addr)) (fp : List Addr), PX (X.blk s H scope (compEnvC scope cl C X.env) fp) WN elt te)
    (hsw : swapsWith (.ListComp elt [⟨tg, iter, ifs, 0⟩, ⟨tg1, iter1, ifs1, 0⟩] scope pos) (some (.Name y py)) spos.line X.env = pure true := by exact sw_true rfl rfl rfl (by decide +kernel))
    (hy : X.N[i]? = some y := by rfl) (hyl : X.env.scope.names.lookup y = some .local := by rfl) (hv : ∀ i ∈ vs1, i ∈ own.map (·.2) := by decide) (hct : ∀ i ∈ ct.slots, i ∈ own.map (·.2) := by decide) (hct1 : ∀ i ∈ ct1.slots, i ∈ vs1 := by decide) (hs : ∀ x, foldedSetIterable iter X.env x = pure x := by intro _; rfl) (hs1 : ∀ env x, foldedSetIterable iter1 env x = pure x := by intro _ _; rfl) :
    PXS X W (.Assign [.Name y py] (.ListComp elt [⟨tg, iter, ifs, 0⟩, ⟨tg1, iter1, ifs1, 0⟩] scope pos) spos) (sSet i (eComp2 (own.map (·.2)) fi ct tt vs1 fi1 ct1 tt1 te)) :=
  ⟨PS.mono (ps_setLc2 hc hN hy hyl hsw hi.pi ok hv hg (fun s H C cl fp => (ht s H C cl fp).pt) (fun s H C cl fp => (hi1 s H C cl fp).pi) hg1 (fun s H C cl fp => (ht1 s H C cl fp).pt) (fun s H C cl fp => (he s H C cl fp).pe) hs hs1) fun D σ H ⟨ι, ρ, h, hρ, hh, g⟩ =>
    comp2_mono hct hct1 (tE_seqS hρ hh g fun p ι1 H1 v1 e1 h1 r1 hρ1 q1 => q1 ι1 H1 _ Ext.refl h1 (hρ1.set r1 i))⟩
end Px
namespace Px
open PySem PySem.Spec PyProof.Rows L2
/-! ## own dicts, keys ints or texts -/
def keyEq : D → D → Bool
  | .int i, .int j => decide (i = j)
  | .str a, .str b => decide (a = b)
  | _, _ => false
def isKey : D → Bool
  | .int _ => true
  | .str _ => true
  | _ => false
def lookD (ks : List (D × D)) (k : D) : Option D := (ks.find? fun q => keyEq q.1 k).map (·.2)
def putD (ks : List (D × D)) (k v : D) : List (D × D) := if (ks.any fun q => keyEq q.1 k) = true then ks.map (fun q => if keyEq q.1 k = true then (q.1, v) else q) else ks ++ [(k, v)]
def dropD (ks : List (D × D)) (k : D) : List (D × D) := ks.filter fun q => !keyEq q.1 k
inductive KeyR : Key → D → Prop
  | int (i : Int) : KeyR (.inl i) (.int i)
  | str (s : Tx) : KeyR (.inr (toS s)) (.str s)
theorem KeyR.eq {k k' : Key} {d d' : D} (a : KeyR k d) (b : KeyR k' d') : decide (k = k') = keyEq d d' := by
  cases a with
  | int i =>
    cases b with
    | int j =>
      show decide ((Sum.inl i : Key) = Sum.inl j) = decide (i = j)
      by_cases e : i = j
      · subst e; simp
      · rw [decide_eq_false e, decide_eq_false fun z => e (Sum.inl.inj z)]
    | str s => exact decide_eq_false fun z => nomatch z
  | str s =>
    cases b with
    | int j => exact decide_eq_false fun z => nomatch z
    | str t =>
      show decide ((Sum.inr (toS s) : Key) = Sum.inr (toS t)) = decide (s = t)
      by_cases e : s = t
      · subst e; simp
      · rw [decide_eq_false e, decide_eq_false fun z => e (toS_inj (Sum.inr.inj z))]
section
variable {K : PySem.W.Frag} {ι : List Addr} {H : Hp}
theorem RepK.look {k : Key} {d : D} (q : KeyR k d) : ∀ {kv : List (Key × V)} {ks : List (D × D)}, RepK K ι H kv ks → (lookD ks d = none ∧ valV kv k = none) ∨ ∃ v x, lookD ks d = some x ∧ valV kv k = some v ∧ Rep K ι H v x
  | _, _, .nil => .inl ⟨rfl, rfl⟩
  | _, _, .int (i := i) (d := x) (ks := ks) r rs => by
    have e := (KeyR.int i).eq q
    by_cases z : (Sum.inl i : Key) = k
    · rw [decide_eq_true z] at e
      exact .inr ⟨_, _, by unfold lookD; rw [List.find?_cons_of_pos (by exact e.symm)]; rfl, valV_pos z, r⟩
    · rw [decide_eq_false z] at e
      have n1 : lookD ((.int i, x) :: ks) d = lookD ks d := by unfold lookD; rw [List.find?_cons_of_neg (by show ¬ keyEq (.int i) d = true; rw [← e]; exact Bool.false_ne_true)]
      rw [n1, valV_neg z]
      exact RepK.look q rs
  | _, _, .str (s := s) (d := x) (ks := ks) r rs => by
    have e := (KeyR.str s).eq q
    by_cases z : (Sum.inr (toS s) : Key) = k
    · rw [decide_eq_true z] at e
      exact .inr ⟨_, _, by unfold lookD; rw [List.find?_cons_of_pos (by exact e.symm)]; rfl, valV_pos z, r⟩
    · rw [decide_eq_false z] at e
      have n1 : lookD ((.str s, x) :: ks) d = lookD ks d := by unfold lookD; rw [List.find?_cons_of_neg (by show ¬ keyEq (.str s) d = true; rw [← e]; exact Bool.false_ne_true)]
      rw [n1, valV_neg z]
      exact RepK.look q rs
theorem RepK.one {k : Key} {d x : D} {v : V} (q : KeyR k d) (r : Rep K ι H v x) {kv : List (Key × V)} {ks : List (D × D)} (rs : RepK K ι H kv ks) : RepK K ι H ((k, v) :: kv) ((d, x) :: ks) := by
  cases q with
  | int i => exact .int r rs
  | str s => exact .str r rs
theorem RepK.append : ∀ {kv kv' : List (Key × V)} {ks ks' : List (D × D)}, RepK K ι H kv ks → RepK K ι H kv' ks' → RepK K ι H (kv ++ kv') (ks ++ ks')
  | _, _, _, _, .nil, r => r
  | _, _, _, _, .int r rs, t => .int r (RepK.append rs t)
  | _, _, _, _, .str r rs, t => .str r (RepK.append rs t)
theorem RepK.any {k : Key} {d : D} (q : KeyR k d) : ∀ {kv : List (Key × V)} {ks : List (D × D)}, RepK K ι H kv ks → (kv.any fun p => decide (p.1 = k)) = ks.any fun p => keyEq p.1 d
  | _, _, .nil => rfl
  | _, _, .int (i := i) r rs => by
    rw [List.any_cons, List.any_cons, RepK.any q rs, (KeyR.int i).eq q]
  | _, _, .str (s := s) r rs => by
    rw [List.any_cons, List.any_cons, RepK.any q rs, (KeyR.str s).eq q]
theorem RepK.over {k : Key} {d x : D} {v : V} (q : KeyR k d) (r : Rep K ι H v x) : ∀ {kv : List (Key × V)} {ks : List (D × D)}, RepK K ι H kv ks → RepK K ι H (kv.map fun p => if p.1 = k then (p.1, v) else p) (ks.map fun p => if keyEq p.1 d = true then (p.1, x) else p)
  | _, _, .nil => .nil
  | _, _, .int (i := i) r' rs => by
    have e := (KeyR.int i).eq q
    rw [List.map_cons, List.map_cons]
    by_cases z : (Sum.inl i : Key) = k
    · rw [decide_eq_true z] at e
      rw [if_pos z, if_pos e.symm]
      exact .int r (RepK.over q r rs)
    · rw [decide_eq_false z] at e
      rw [if_neg z, if_neg (by rw [← e]; exact Bool.false_ne_true)]
      exact .int r' (RepK.over q r rs)
  | _, _, .str (s := s) r' rs => by
    have e := (KeyR.str s).eq q
    rw [List.map_cons, List.map_cons]
    by_cases z : (Sum.inr (toS s) : Key) = k
    · rw [decide_eq_true z] at e
      rw [if_pos z, if_pos e.symm]
      exact .str r (RepK.over q r rs)
    · rw [decide_eq_false z] at e
      rw [if_neg z, if_neg (by rw [← e]; exact Bool.false_ne_true)]
      exact .str r' (RepK.over q r rs)
theorem RepK.put {k : Key} {d x : D} {v : V} (q : KeyR k d) (r : Rep K ι H v x) {kv : List (Key × V)} {ks : List (D × D)} (rs : RepK K ι H kv ks) : RepK K ι H (putK kv k v) (putD ks d x) := by
  unfold putK putD
  rw [RepK.any q rs]
  by_cases c : (ks.any fun p => keyEq p.1 d) = true
  · rw [if_pos c, if_pos c]
    exact RepK.over q r rs
  · rw [if_neg c, if_neg c]
    exact rs.append (RepK.one q r .nil)
theorem RepK.drop {k : Key} {d : D} (q : KeyR k d) : ∀ {kv : List (Key × V)} {ks : List (D × D)}, RepK K ι H kv ks → RepK K ι H (dropK kv k) (dropD ks d)
  | _, _, .nil => .nil
  | _, _, .int (i := i) r rs => by
    have e := (KeyR.int i).eq q
    have ih := RepK.drop q rs
    unfold dropK dropD at ih ⊢
    rw [List.filter_cons, List.filter_cons]
    by_cases z : (Sum.inl i : Key) = k
    · rw [decide_eq_true z] at e
      rw [if_neg (by simpa using z), if_neg (by rw [← e]; simp)]
      exact ih
    · rw [decide_eq_false z] at e
      rw [if_pos (by simpa using z), if_pos (by rw [← e]; rfl)]
      exact .int r ih
  | _, _, .str (s := s) r rs => by
    have e := (KeyR.str s).eq q
    have ih := RepK.drop q rs
    unfold dropK dropD at ih ⊢
    rw [List.filter_cons, List.filter_cons]
    by_cases z : (Sum.inr (toS s) : Key) = k
    · rw [decide_eq_true z] at e
      rw [if_neg (by simpa using z), if_neg (by rw [← e]; simp)]
      exact ih
    · rw [decide_eq_false z] at e
      rw [if_pos (by simpa using z), if_pos (by rw [← e]; rfl)]
      exact .str r ih
theorem RepK.len : ∀ {kv : List (Key × V)} {ks : List (D × D)}, RepK K ι H kv ks → kv.length = ks.length
  | _, _, .nil => rfl
  | _, _, .int _ rs => by rw [List.length_cons, List.length_cons, RepK.len rs]
  | _, _, .str _ rs => by rw [List.length_cons, List.length_cons, RepK.len rs]
/-- a value that may be a key -/
theorem key_of {v : V} {d : D} (r : Rep K ι H v d) (h : isKey d = true) : ∃ k, KeyR k d ∧ v = kV k := by
  cases r <;> first | exact ⟨_, .int _, rfl⟩ | exact ⟨_, .str _, rfl⟩ | cases h
/-- an own dict of ours is written -/
theorem set_dic {h : Hy} {kv : List (Key × V)} {ks : List (D × D)} {n : Nat} {a : Addr} (hh : Rh K ι H h) (hn : ι[n]? = some a) (r : RepK K ι H kv ks) :
    Ext ι H ι (upd H a (.dK kv)) ∧ Rh K ι (upd H a (.dK kv)) (h.set n (.dic ks)) := by
  have nt : Ext ι H ι (upd H a (.dK kv)) := by
    obtain ⟨old, ho, hm⟩ := hh.some_of (List.mem_of_getElem? hn)
    have nt : ∀ {b vs}, H b = some (.tup vs) → b ≠ a := fun {b vs} e z => by rw [z, ho] at e; cases e; exact hm
    have nf : ∀ {b p q}, H b = some (.frz p q) → b ≠ a := fun {b p q} e z => by rw [z, ho] at e; cases e; exact hm
    exact ⟨List.prefix_refl _, fun b vs e => by rw [upd_ne (nt e)]; exact e, fun b u w e => by rw [upd_ne (nf e)]; exact e,
      fun b u e n => by rw [upd_ne (fun z => n (by rw [z]; exact List.mem_of_getElem? hn))]; exact e, fun b z n => absurd z n⟩
  exact hh.write (o := .dK kv) (u := .dic ks) hn ⟨kv, upd_same, r.ext nt⟩
/-- a new own dict -/
theorem push_dic {h : Hy} {kv : List (Key × V)} {ks : List (D × D)} {p : Addr} (hh : Rh K ι H h) (r : RepK K ι H kv ks) (hp : H p = none) :
    Ext ι H (ι ++ [p]) (upd H p (.dK kv)) ∧ Rh K (ι ++ [p]) (upd H p (.dK kv)) (h ++ [.dic ks]) ∧ (ι ++ [p])[h.length]? = some p := by
  have e0 := (hh.put (o := .dK kv) hp).1
  have e1 : Ext ι H (ι ++ [p]) (upd H p (.dK kv)) := ⟨List.prefix_append _ _, e0.tups, e0.frzs, e0.keep, fun a z n => by
    rcases List.mem_append.mp z with z | z
    · exact absurd z n
    · have : a = p := by simpa using z
      rw [this]; exact hp⟩
  obtain ⟨e, hh'⟩ := hh.push (o := .dK kv) (u := .dic ks) hp ⟨kv, upd_same, r.ext e1⟩
  exact ⟨e, hh', by rw [← hh.len, List.getElem?_append_right (Nat.le_refl _)]; simp⟩
end
/-! ### displays -/
def mergeD (ks more : List (D × D)) : List (D × D) := more.foldl (fun acc q => putD acc q.1 q.2) ks
theorem RepK.merge {K : PySem.W.Frag} {ι : List Addr} {H : Hp} : ∀ {more : List (Key × V)} {mk : List (D × D)} {kv : List (Key × V)} {ks : List (D × D)}, RepK K ι H more mk → RepK K ι H kv ks → RepK K ι H (mergeK kv more) (mergeD ks mk)
  | _, _, _, _, .nil, r => r
  | _, _, _, _, .int (i := i) r rs, t => by
    have z := RepK.merge rs (RepK.put (.int i) r t)
    exact z
  | _, _, _, _, .str (s := s) r rs, t => by
    have z := RepK.merge rs (RepK.put (.str s) r t)
    exact z
def eDnew : FE := fun _ h => new (.dic []) h
abbrev FP := Env → Hy → R (List (D × D) × Hy)
def dNil : FP := fun _ h => .ok ([], h)
def dCons (fk fv : FE) (r : FP) : FP := fun ρ h => (fk ρ h).bind fun p => (fv ρ p.2).bind fun q => (r ρ q.2).bind fun s => .ok ((p.1, q.1) :: s.1, s.2)
def eDict (fp : FP) : FE := fun ρ h => (fp ρ (h ++ [.dic []])).bind fun p => match p.2[h.length]? with
  | some (.dic []) => if p.1.all (fun q => isKey q.1) = true ∧ p.1.length ≤ 15 then .ok (.ref h.length, p.2.set h.length (.dic (mergeD [] p.1))) else .stuck
  | _ => .stuck
def PW2 (K : PySem.W.Frag) (ι : List Addr) (H : Hp) (Q : List (V × V) → Hp → Prop) (p : List (D × D) × Hy) : Prop := ∀ ι' H' (ps : List (V × V)), Ext ι H ι' H' → Rh K ι' H' p.2 → Reps K ι' H' (ps.map (·.1)) (p.1.map (·.1)) → Reps K ι' H' (ps.map (·.2)) (p.1.map (·.2)) → Q ps H'
theorem PW2.ext {K : PySem.W.Frag} {ι ι' : List Addr} {H H' : Hp} {Q : List (V × V) → Hp → Prop} {p : List (D × D) × Hy} (x : PW2 K ι H Q p) (e : Ext ι H ι' H') : PW2 K ι' H' Q p := fun ι2 H2 ps e2 r a b => x ι2 H2 ps (e.trans e2) r a b
def tP (K : PySem.W.Frag) (W : WX) (f : FP) : L2.St → Hp → (List (V × V) → Hp → Prop) → Prop := fun σ H Q => ∃ ι ρ h, RepX K ι H σ ρ ∧ Rh K ι H h ∧ Good (f ρ h) (PW2 K ι H Q) (XW K W ι σ H)
structure PXPs (X : Cx) (W : WX) (pos : Pos) (keys : List (Option Expr)) (values : List Expr) (f : FP) : Prop where
  ex : ∃ trs, PPs X pos keys values trs ∧ ∀ σ H Q, tP X.K W f σ H Q → tPairs trs σ H Q
section
variable {X : Cx} {W : WX} {pos : Pos} {k v : Expr} {ks : List (Option Expr)} {vs : List Expr} {fk fv : FE} {fp : FP}
theorem pxp_nil : PXPs X W pos [] [] dNil := ⟨[], pps_nil, fun σ H Q ⟨ι, ρ, h, hρ, hh, g⟩ => g ι H [] Ext.refl hh .nil .nil⟩
theorem pxp_cons (hk : PX X W k fk) (hv : PX X W v fv) (hr : PXPs X W pos ks vs fp) : PXPs X W pos (some k :: ks) (v :: vs) (dCons fk fv fp) := by
  obtain ⟨trs, h1, h2⟩ := hr.ex
  refine ⟨_, pps_cons hk.pe hv.pe h1, fun σ H Q ⟨ι, ρ, h, hρ, hh, g⟩ => ?_⟩
  refine ⟨ι, ρ, h, hρ, hh, g.bind.mono (fun p q ι1 H1 v1 e1 r1 rv1 => ?_) fun _ _ _ z => z⟩
  have q := q.mono (fun _ z => PW2.ext z e1) fun _ _ _ z => XW.ext z e1
  refine ⟨ι1, ρ, p.2, hρ.ext e1, r1, q.bind.mono (fun p2 q2 ι2 H2 v2 e2 r2 rv2 => ?_) fun _ _ _ z => z⟩
  have q2 := q2.mono (fun _ z => PW2.ext z e2) fun _ _ _ z => XW.ext z e2
  refine h2 _ _ _ ⟨ι2, ρ, p2.2, (hρ.ext e1).ext e2, r2, q2.bind.mono (fun p3 q3 ι3 H3 ps e3 r3 a b => ?_) fun _ _ _ z => z⟩
  exact q3 ι3 H3 ((v1, v2) :: ps) e3 r3 (.cons ((rv1.ext e2).ext e3) a) (.cons (rv2.ext e3) b)
theorem px_dnew : PX X W (.Dict [] [] pos) eDnew := ⟨PE.mono pe_dnewK fun σ H Q ⟨ι, ρ, h, hρ, hh, g⟩ p hp => by
  obtain ⟨e, r, hn⟩ := push_dic (ks := []) hh .nil hp
  exact g _ _ _ e r (.ref hn)⟩
theorem kv_of {K : PySem.W.Frag} {ι : List Addr} {H : Hp} : ∀ {ps : List (V × V)} {ds : List (D × D)}, Reps K ι H (ps.map (·.1)) (ds.map (·.1)) → Reps K ι H (ps.map (·.2)) (ds.map (·.2)) → ds.all (fun q => isKey q.1) = true →
    ∃ kv : List (Key × V), ps = kv.map (fun q => (kV q.1, q.2)) ∧ RepK K ι H kv ds
  | [], [], _, _, _ => ⟨[], rfl, .nil⟩
  | [], _ :: _, h, _, _ => by cases h
  | _ :: _, [], h, _, _ => by cases h
  | (x, y) :: ps, (d, z) :: ds, h1, h2, h3 => by
    cases h1 with
    | cons r1 rs1 =>
      cases h2 with
      | cons r2 rs2 =>
        rw [List.all_cons, Bool.and_eq_true] at h3
        obtain ⟨kv, e, r⟩ := kv_of rs1 rs2 h3.2
        obtain ⟨k, kr, ev⟩ := key_of r1 h3.1
        have ev : x = kV k := ev
        subst ev
        exact ⟨(k, y) :: kv, by rw [e]; rfl, RepK.one kr r2 r⟩
theorem px_dict (h : PXPs X W pos (some k :: ks) (v :: vs) fp) (hall : (some k :: ks).all (·.isSome) = true := by rfl) (hl : (some k :: ks).length = (v :: vs).length := by rfl) (h15 : (some k :: ks).length ≤ 15 := by decide) : PX X W (.Dict (some k :: ks) (v :: vs) pos) (eDict fp) := by
  obtain ⟨trs, h1, h2⟩ := h.ex
  refine ⟨PE.mono (pe_disp h1 hall hl (by simp) h15) fun σ H Q ⟨ι, ρ, h, hρ, hh, g⟩ p hp => ?_⟩
  obtain ⟨e, r, hn⟩ := push_dic (ks := []) hh .nil hp
  refine h2 _ _ _ ⟨ι ++ [p], ρ, h ++ [.dic []], hρ.ext e, r, (g.mono (fun _ z => z) fun _ _ _ z => z).bind.mono (fun p1 q ι1 H1 ps e1 r1 a b => ?_) fun _ _ _ z => z.ext e⟩
  have q : Good (match p1.2[h.length]? with
    | some (.dic []) => if p1.1.all (fun q => isKey q.1) = true ∧ p1.1.length ≤ 15 then R.ok (.ref h.length, p1.2.set h.length (.dic (mergeD [] p1.1))) else .stuck
    | _ => .stuck) (VW X.K ι H Q) (XW X.K W ι σ H) := q
  split at q
  · rename_i hd
    split at q
    · rename_i hk
      have hn1 : ι1[h.length]? = some p := e1.at hn
      obtain ⟨kv0, hv0, rk0⟩ := r1.at_ _ _ _ hn1 hd
      cases rk0
      obtain ⟨kv, ek, rk⟩ := kv_of a b hk.1
      refine ⟨hv0, kv, ek, by rw [rk.len]; exact hk.2, ?_⟩
      obtain ⟨e2, r2⟩ := set_dic (kv := mergeK [] kv) (ks := mergeD [] p1.1) r1 hn1 (RepK.merge rk .nil)
      exact q _ _ _ ((e.trans e1).trans e2) r2 (.ref (e2.at hn1))
    · exact q.elim
  · exact q.elim
end
end Px
namespace Px
open PySem PySem.Spec PyProof.Rows L2
/-! ## enumerate of a list or a tuple -/
section
open PySem.AutoSeq1 (wpAny_loadPart')
theorem meets_enumT (l : Addr) (o : Obj) (hc : o.cls = .type "tuple") (items : Array Value) (n : Nat) (hd : o.data = .seq items n) :
    Meets (Builtin.«enumerate.__new__» ⟨[.type "enumerate", .ref l], []⟩) (fun _ R s => s.heap.get? l = some o ∧
      R (.ok (.ret (.ref (s.heap.push { cls := .type "tuple_iterator", data := .fields #[.ref l, .int 0 0] }).objs.size)))
        { s with heap := (s.heap.push { cls := .type "tuple_iterator", data := .fields #[.ref l, .int 0 0] }).push { cls := .type "enumerate", data := .fields #[.none, .bool false, .ref s.heap.objs.size, rawInt 0, .none, .none] } }) :=
  .of_wp fun prog w A R s h => by
    obtain ⟨hp, g, d, tk, os⟩ := s; obtain ⟨hl, h⟩ := h
    have hsub := sub_enumerate
    have hL : Heap.IsTuple (Shared.heap ⟨hp, g, d, tk, os⟩) l items := ⟨o, hl, hc, n, hd⟩
    wp_walk using wpAny_loadPart' hl
    refine wpAny_stack_any fun st => wpAny_pure ?_
    split
    · rename_i c _ _ _ _ _
      cases (c == Value.type "enumerate")
      · wp_walk using wpAny_loadPart' hl, wpAny_pyIter_tuple hL
        exact ⟨_, rfl, h⟩
      · wp_walk using wpAny_loadPart' hl, wpAny_pyIter_tuple hL
        exact ⟨_, rfl, h⟩
    · wp_walk using wpAny_loadPart' hl, wpAny_pyIter_tuple hL
      exact ⟨_, rfl, h⟩
theorem call_enumT {prog : Program} {w : World} {A : Around} {E : Value → Shared → Prop} {s : Shared} {l : Addr} {items : Array Value} {Q : Value → Shared → Prop} (hL : s.heap.IsTuple l items)
    (h : ∀ h', IsEnum h' (s.heap.objs.size + 1) s.heap.objs.size 0 .none → h'.IsTupleIter s.heap.objs.size l 0 → h'.objs.size = s.heap.objs.size + 2 →
      (∀ b o, s.heap.get? b = some o → h'.get? b = some o) → Q (.ref (s.heap.objs.size + 1)) { s with heap := h' }) :
    wpAny (model prog w) A (call (.type "enumerate") [.ref l]) Q E s := by
  obtain ⟨o, hl, hc, n, hd⟩ := hL
  refine callType_new F.called_enumerate (by decide) (F.typeCall_enumerate_1 _) (F.newCall_enumerate_1 _) (fun obj => F.args_object_init_2 obj _) F.entry_enumerate_new
    (meets_enumT l o hc items n hd) ⟨hl, ?_⟩
  have hz : (s.heap.push { cls := .type "tuple_iterator", data := .fields #[.ref l, .int 0 0] }).objs.size = s.heap.objs.size + 1 := Heap.size_push ..
  show _ ∧ _
  rw [hz]
  have he : IsEnum ((s.heap.push { cls := .type "tuple_iterator", data := .fields #[.ref l, .int 0 0] }).push
      { cls := .type "enumerate", data := .fields #[.none, .bool false, .ref s.heap.objs.size, rawInt 0, .none, .none] }) (s.heap.objs.size + 1) s.heap.objs.size 0 .none := by
    have := Heap.get?_push_size (s.heap.push { cls := .type "tuple_iterator", data := .fields #[.ref l, .int 0 0] })
      (o := { cls := .type "enumerate", data := .fields #[.none, .bool false, .ref s.heap.objs.size, rawInt 0, .none, .none] }) rfl
    rw [hz] at this; exact this
  refine ⟨⟨_, he, rfl⟩, h _ he ⟨_, Heap.get?_push_of_some _ (Heap.get?_push_size _ rfl), rfl, rfl⟩ (by rw [Heap.size_push, hz]) fun b o x => Heap.get?_push_of_some _ (Heap.get?_push_of_some _ x)⟩
end
def IteT (K : PySem.W.Frag) (a : Addr) : It :=
  ⟨fun i H => ∃ (xs : List V) (x : V), SqT K H a xs ∧ xs[i]? = some x, fun i H v H' => ∃ T x, v = .ref T ∧ H T = none ∧ H' = upd H T (.tup [.int (i : Nat), x]) ∧ ∀ xs, SqT K H a xs → xs[i]? = some x, fun i H => ∃ xs : List V, SqT K H a xs ∧ xs.length = i⟩
theorem turn_enumT {P : Program} {w : World} {K : PySem.W.Frag} {elts : List Expr} {kk : Nat} {tpos : Pos} (a e it : Addr) :
    Turn P w K (.Tuple elts kk tpos) (IteT K a) [e, it] e (fun i h => (∃ old, IsEnum h e it ((i : Nat) : Int) old) ∧ h.IsTupleIter it a i ∧ e ≠ it) where
  mem := by simp
  obj := fun i h st b hb => by
    obtain ⟨⟨old, he⟩, ⟨o, ho, hc, hd⟩, _⟩ := st
    have e' : b = e ∨ b = it := by simpa using hb
    rcases e' with z | z
    · rw [z]; exact ⟨_, he, fun v q => nomatch q⟩
    · rw [z]; exact ⟨o, ho, fun v q => by rw [hd] at q; cases q⟩
  keep := fun i h h' st k => let ⟨⟨old, he⟩, hi, hne⟩ := st; ⟨⟨old, k e (by simp) _ he⟩, hi.at fun o q => k it (by simp) o q, hne⟩
  item := by
    intro X hP hw hK hc i pins s σ H E I hf st hg
    subst hP hw hK
    obtain ⟨⟨old, he⟩, hit, hne⟩ := st
    obtain ⟨xs, x, hq, hx⟩ := hg
    obtain ⟨its, rv, p, hz⟩ := I.tuple hq
    have hp : s.heap.IsTuple a its.toArray := p
    obtain ⟨u, hu, ru⟩ := rv.get hx
    have hel : e < s.heap.objs.size := Heap.lt_size he
    have hil : it < s.heap.objs.size := by obtain ⟨_, q, _⟩ := hit; exact Heap.lt_size q
    have hai : a ≠ it := fun z => by
      obtain ⟨o1, q1, c1, _⟩ := hit
      obtain ⟨o2, q2, c2, _⟩ := hp
      rw [z, q1] at q2
      cases q2
      rw [c1] at c2
      injection c2 with c2
      exact absurd c2 (by decide)
    have hea : e ≠ a := fun z => by
      obtain ⟨o2, q2, c2, _⟩ := hp
      rw [← z] at q2
      have := he
      unfold IsEnum at this
      rw [this] at q2
      cases q2
      injection c2 with c2
      exact absurd c2 (by decide)
    have D := Draws.tuple (prog := X.prog) (w := X.w) (A := X.A.in1) (show X.A.in1.handled = none from I.ok.hd hc) it a hai its.toArray
    have hlt : i < its.toArray.size := by
      rw [List.size_toArray, ← rv.length]
      exact (List.getElem?_eq_some_iff.mp hx).1
    refine wpAny_pyNext_enum_itemD D he ⟨hit, hp⟩ hlt hne (by simp [hne, hea]) fun x' h' tk hP ho hst hT hsz hk => ?_
    have hxu : x' = u := by
      have h1 : its.toArray[i]? = some x' := hP
      rw [List.getElem?_toArray, hu] at h1
      exact (Option.some.inj h1).symm
    subst hxu
    refine ⟨_, rfl, wpAny_letOwnedTupleGo_enum (s := { s with heap := h', toks := tk + 1 }) ho fun h'' he' sb => ?_⟩
    have hT2 : h''.get? s.heap.objs.size = some { cls := .type "tuple", data := .seq #[.int i tk, x'] } := (sb.2 _ (Nat.ne_of_gt hel)).trans hT
    have new : ObjOk X.prog X.w (upd H s.heap.objs.size (.tup [.int (i : Nat), x])) h'' s.heap.objs.size (.tup [.int (i : Nat), x]) :=
      ⟨by show 2 ≤ sizeLine; decide, [.int i tk, x'], .cons ⟨_, rfl⟩ (.cons ru .nil), ⟨_, hT2, rfl, _, rfl⟩⟩
    have I1 : Inv X pins σ (upd H s.heap.objs.size (.tup [.int (i : Nat), x])) { s with heap := h'', toks := tk + 1 } :=
      I.turnedNew (ch := [e, it]) (fun b ob hb q => (sb.2 b (fun z => hb (by simp [z]))).trans (hk b ob (fun z => hb (by simp [z])) (fun z => hb (by simp [z])) q)) hf (Nat.le_refl _) new
    refine ⟨.ref s.heap.objs.size, _, I1, rfl, ⟨_, x, rfl, I.hok.fresh (Nat.le_refl _), rfl, fun ys hy => by rw [I.tuple_inj hy hq]; exact hx⟩, ⟨⟨x', ?_⟩, hst.1.at fun o q => (sb.2 it (Ne.symm hne)).trans q, hne⟩, fun b hb => ?_⟩
    · have e1 : ((i + 1 : Nat) : Int) = (i : Int) + 1 := by omega
      rw [e1]; exact he'
    · have hb' : b < s.heap.objs.size := by
        have e' : b = e ∨ b = it := by simpa using hb
        rcases e' with z | z
        · rw [z]; exact hel
        · rw [z]; exact hil
      rw [upd_ne (Nat.ne_of_lt hb')]
      exact (hf b hb).1
  done := by
    intro X hP hw hK hc i pins s σ H E I hf st hg
    subst hP hw hK
    obtain ⟨⟨old, he⟩, hit, hne⟩ := st
    obtain ⟨xs, hq, hx⟩ := hg
    obtain ⟨its, rv, p, hz⟩ := I.tuple hq
    have hp : s.heap.IsTuple a its.toArray := p
    obtain ⟨f0, f1, f2, f3, f4, f5⟩ := hf it (by simp)
    have hai : a ≠ it := fun z => by
      obtain ⟨o1, q1, c1, _⟩ := hit
      obtain ⟨o2, q2, c2, _⟩ := hp
      rw [z, q1] at q2
      cases q2
      rw [c1] at c2
      injection c2 with c2
      exact absurd c2 (by decide)
    -- the iterator stands at or behind the end: a walk of that many items
    have hl := rv.length
    have hi : i = its.toArray.size := by rw [List.size_toArray, ← hl, hx]
    have D := Draws.tuple (prog := X.prog) (w := X.w) (A := X.A.in1) (show X.A.in1.handled = none from I.ok.hd hc) it a hai its.toArray
    rw [hi] at hit
    exact wpAny_pyNext_enum_endD D he ⟨hit, hp⟩ fun h' eb => ⟨rfl, I.turned (t' := s.toks) (fun b o hb q => eb b o hb q) f0 f1 f3 f4 f5⟩
  self := fun A i s Q E st h => let ⟨⟨_, he⟩, _⟩ := st; wpAny_pyIter_enum he h
def iEnumT (K : PySem.W.Frag) (ta : TA) : TI := fun σ H R => ta σ H fun vs H1 => ∃ a xs, vs = [.ref a] ∧ ((SqL K H1 a xs ∧ R (Ite K a) H1) ∨ (SqT K H1 a xs ∧ R (IteT K a) H1))
theorem pi_enumT {X : Cx} {e : Expr} {ta : TA} {p pos tpos : Pos} {elts : List Expr} {kk : Nat} (hg : Gl X "enumerate") (hm : X.mg "enumerate" = none) (ha : PA X [e] ta) (hs : starEach [e] X.env = [(false, eval e X.env)] := by rfl) :
    PI X (.Tuple elts kk tpos) (.Call (.Name "enumerate" p) [e] [] pos) (iEnumT X.K ta) := by
  refine ⟨fun pins s σ H R I h => ?_⟩
  refine Call_ (ld_blt I hg hm boot_enumerate (PyProof.Rows.callWith_type1 (thn (ha.run pos pins s σ H _ I h) fun us s1 ⟨vs, H1, I1, r1, q1⟩ => ?_) hs rfl))
  obtain ⟨a, xs, ex, q⟩ := q1
  subst ex
  cases r1 with
  | cons r rr =>
    cases rr
    cases r
    rcases q with ⟨hq, q⟩ | ⟨hq, q⟩
    · obtain ⟨its, rv, p', hz⟩ := I1.list hq
      refine call_enumerate_list p'.isList fun h' he hit hsz hk => wpAny_pyIter_enum he ?_
      have I2 : Inv X pins σ H1 { s1 with heap := h' } := I1.kept (t' := s1.toks) hk
      refine ⟨s1.heap.objs.size + 1, [s1.heap.objs.size + 1, s1.heap.objs.size], _, _, H1, rfl, I2, turn_enum a (s1.heap.objs.size + 1) s1.heap.objs.size, ⟨⟨.none, he⟩, hit, Nat.succ_ne_self _⟩, fun b hb => ?_, q⟩
      have e' : b = s1.heap.objs.size + 1 ∨ b = s1.heap.objs.size := by simpa using hb
      have hle : s1.heap.objs.size ≤ b := by
        rcases e' with z | z
        · rw [z]; exact Nat.le_add_right _ _
        · rw [z]; exact Nat.le_refl _
      exact I1.fpOk hle (I1.hok.fresh hle)
    · obtain ⟨its, rv, p', hz⟩ := I1.tuple hq
      refine call_enumT (show s1.heap.IsTuple a its.toArray from p') fun h' he hit hsz hk => wpAny_pyIter_enum he ?_
      have I2 : Inv X pins σ H1 { s1 with heap := h' } := I1.kept (t' := s1.toks) hk
      refine ⟨s1.heap.objs.size + 1, [s1.heap.objs.size + 1, s1.heap.objs.size], _, _, H1, rfl, I2, turn_enumT a (s1.heap.objs.size + 1) s1.heap.objs.size, ⟨⟨.none, he⟩, hit, Nat.succ_ne_self _⟩, fun b hb => ?_, q⟩
      have e' : b = s1.heap.objs.size + 1 ∨ b = s1.heap.objs.size := by simpa using hb
      have hle : s1.heap.objs.size ≤ b := by
        rcases e' with z | z
        · rw [z]; exact Nat.le_add_right _ _
        · rw [z]; exact Nat.le_refl _
      exact I1.fpOk hle (I1.hok.fresh hle)
/-- numbered items -/
def numbered : Nat → List D → List D
  | _, [] => []
  | k, x :: xs => .tup [.int k, x] :: numbered (k + 1) xs
theorem numbered_length (xs : List D) : ∀ k, (numbered k xs).length = xs.length := by
  induction xs with
  | nil => intro k; rfl
  | cons x xs ih => intro k; simp [numbered, ih]
theorem numbered_get (xs : List D) : ∀ (k i : Nat) (d : D), (numbered k xs)[i]? = some d → ∃ x, xs[i]? = some x ∧ d = .tup [.int ((k + i : Nat) : Int), x] := by
  induction xs with
  | nil => intro k i d h; simp [numbered] at h
  | cons x xs ih =>
    intro k i d h
    cases i with
    | zero => simp [numbered] at h; exact ⟨x, rfl, h.symm⟩
    | succ i =>
      obtain ⟨y, e, z⟩ := ih (k + 1) i d (by simpa [numbered] using h)
      exact ⟨y, by simpa using e, by rw [z]; congr 3; omega⟩
theorem rep_pair {K : PySem.W.Frag} {ι : List Addr} {H : Hp} {h : Hy} {T : Addr} {i : Nat} {x : V} {d : D} (hh : Rh K ι H h) (hT : H T = none) (r : Rep K ι H x d) : Ext ι H ι (upd H T (.tup [.int (i : Nat), x])) ∧ Rh K ι (upd H T (.tup [.int (i : Nat), x])) h := hh.put hT
theorem JW.enumT {K : PySem.W.Frag} {ι0 : List Addr} {H0 : Hp} {a : Addr} {vs : List V} {xs : List D} (hs : SqT K H0 a vs) (r : Reps K ι0 H0 vs xs) : JW K ι0 H0 (IteT K a) (numbered 0 xs) none where
  go := fun i x ι H h hx e _ _ => by
    obtain ⟨y, e1, _⟩ := numbered_get xs 0 i x hx
    obtain ⟨v, hv, rv⟩ := r.get e1
    exact ⟨vs, v, e.sqT hs, hv⟩
  yld := fun i x ι H h v H' hx e rh _ y => by
    obtain ⟨z, e1, rfl⟩ := numbered_get xs 0 i x hx
    obtain ⟨w, hw, rw'⟩ := r.get e1
    obtain ⟨T, u, rfl, hT, rfl, y⟩ := y
    have := y vs (e.sqT hs)
    rw [hw] at this
    cases this
    have rz : Rep K ι H w z := rw'.ext e
    obtain ⟨e2, r2⟩ := rh.put (o := .tup [.int (i : Nat), w]) hT
    refine ⟨e2, r2, .tup (SqT.of upd_same) (.cons ?_ (.one (rz.ext e2)))⟩
    rw [Nat.zero_add]
    exact .int _
  stop := fun ι H h e _ _ => ⟨vs, e.sqT hs, by rw [numbered_length, r.length]⟩
theorem JW.enumL {K : PySem.W.Frag} {ι0 : List Addr} {H0 : Hp} {a : Addr} {xs : List D} {o : Option Nat} (J : JW K ι0 H0 (Itl K a) xs o) (get : ∀ ι H h, Ext ι0 H0 ι H → Rh K ι H h → (∀ n, o = some n → h[n]? = some (.lst xs)) → ∃ vs, SqL K H a vs ∧ Reps K ι H vs xs) (all : List D) (oa : Option Nat) (src : ∀ h : Hy, (∀ n, oa = some n → h[n]? = some (.lst all)) → ∀ n, o = some n → h[n]? = some (.lst xs)) (ea : all = numbered 0 xs) : JW K ι0 H0 (Ite K a) all oa where
  go := fun i x ι H h hx e rh s => by
    rw [ea] at hx
    obtain ⟨y, e1, _⟩ := numbered_get xs 0 i x hx
    obtain ⟨vs, hs, r⟩ := get ι H h e rh (src h s)
    obtain ⟨v, hv, rv⟩ := r.get e1
    exact ⟨vs, v, hs, hv⟩
  yld := fun i x ι H h v H' hx e rh s y => by
    rw [ea] at hx
    obtain ⟨z, e1, rfl⟩ := numbered_get xs 0 i x hx
    obtain ⟨vs, hs, r⟩ := get ι H h e rh (src h s)
    obtain ⟨w, hw, rw'⟩ := r.get e1
    obtain ⟨T, u, rfl, hT, rfl, y⟩ := y
    have := y vs hs
    rw [hw] at this
    cases this
    obtain ⟨e2, r2⟩ := rh.put (o := .tup [.int (i : Nat), w]) hT
    refine ⟨e2, r2, .tup (SqT.of upd_same) (.cons ?_ (.one (rw'.ext e2)))⟩
    rw [Nat.zero_add]
    exact .int _
  stop := fun ι H h e rh s => by
    obtain ⟨vs, hs, r⟩ := get ι H h e rh (src h s)
    exact ⟨vs, hs, by rw [ea, numbered_length, r.length]; exact Nat.le_refl _⟩
/-- a list that never changes, a tuple, or a new list that nobody else knows -/
def iEnum2 (fa : FE) : FI := fun ρ h => (fa ρ h).bind fun p => match p.1 with
  | .tup xs => .ok ((numbered 0 xs, none), p.2)
  | .fl xs => .ok ((numbered 0 xs, none), p.2)
  | .ref n => match p.2[n]? with
    | some (.lst xs) => if Clean h p.2 ∧ h.length ≤ n ∧ D.ltAll h.length xs = true then .ok ((numbered 0 xs, none), p.2.take h.length) else .stuck
    | _ => .stuck
  | _ => .stuck
theorem tA_one {X : Cx} {W : WX} {e : Expr} {f : FE} (he : PX X W e f) (hs : starEach [e] X.env = [(false, eval e X.env)] := by rfl) : PXA X W [e] (aCons f aNil) := pxa_cons he pxa_nil hs
theorem pxi_enum {X : Cx} {W : WX} {e : Expr} {f : FE} {p pos tpos : Pos} {elts : List Expr} {kk : Nat} (hm : X.mg "enumerate" = none) (he : PX X W e f) (hg : Gl X "enumerate" := by rfl) (hs : starEach [e] X.env = [(false, eval e X.env)] := by rfl) :
    PXI X W (.Tuple elts kk tpos) (.Call (.Name "enumerate" p) [e] [] pos) (iEnum2 f) := by
  refine ⟨PI.mono (pi_enumT hg hm (tA_one he hs).pa hs) fun σ H R ⟨ι, ρ, h, hρ, hh, g⟩ => ?_⟩
  have g1 : Good ((aCons f aNil ρ h).bind fun q => match q.1 with
    | [x] => (match x with
      | .tup xs => .ok ((numbered 0 xs, none), q.2)
      | .fl xs => .ok ((numbered 0 xs, none), q.2)
      | .ref n => match q.2[n]? with
        | some (.lst xs) => if Clean h q.2 ∧ h.length ≤ n ∧ D.ltAll h.length xs = true then Px.R.ok ((numbered 0 xs, none), q.2.take h.length) else .stuck
        | _ => .stuck
      | _ => .stuck)
    | _ => .stuck) (IW X.K ι H R) (XW X.K W ι σ H) := by
    unfold aCons aNil
    cases q : f ρ h with
    | ok p => unfold iEnum2 at g; rw [q] at g; exact g
    | exc c d h => unfold iEnum2 at g; rw [q] at g; exact g
    | stuck => unfold iEnum2 at g; rw [q] at g; exact g.elim
  refine ⟨ι, ρ, h, hρ, hh, g1.bind.mono (fun p q ι1 H1 vs e1 h1 r1 => ?_) fun _ _ _ z => z⟩
  split at q
  · rename_i x hp
    rw [hp] at r1
    cases r1 with
    | cons r rr =>
      cases rr
      split at q
      · rename_i xs
        cases r with
        | tup hs rs => exact ⟨_, _, rfl, .inr ⟨hs, q ι1 H1 _ e1 h1 (JW.enumT hs rs)⟩⟩
      · rename_i xs
        cases r with
        | fl hs rs => exact ⟨_, _, rfl, .inl ⟨hs.seq, q ι1 H1 _ e1 h1 (JW.enumL (JW.fl hs rs) (fun ι2 H2 h2 e2 _ _ => ⟨_, (e2.sqF hs).seq, rs.ext e2⟩) _ none (fun _ _ n e => by cases e) rfl)⟩⟩
      · rename_i n
        cases r with
        | ref hn =>
          split at q
          · rename_i a xs hx
            obtain ⟨vs, hv, rs⟩ := h1.at_ n _ _ hn hx
            split at q
            · rename_i hc
              obtain ⟨hl, el⟩ := hh.low e1 h1 hc.1
              have ha : _ ∉ ι := fun z => by
                obtain ⟨i, hi, e⟩ := List.mem_iff_getElem.mp z
                have e2 : _ = _ := e1.at (List.getElem?_eq_getElem hi)
                rw [e] at e2
                have : i ≠ n := by have := hc.2.1; have := hh.len; omega
                exact getElem?_ne_of_nodup h1.nd e2 hn this rfl
              obtain ⟨rest, er⟩ := e1.pre
              have rl : Reps X.K ι H1 vs xs := rs.low (k := h.length) (fun j hj => by rw [← er, List.getElem?_append_left (by rw [hh.len]; exact hj)]) hc.2.2
              exact ⟨_, _, rfl, .inl ⟨SqL.of hv, q ι H1 _ el hl (JW.enumL (JW.lone hv ha rl) (fun ι2 H2 h2 e2 _ _ => ⟨vs, SqL.of (e2.keep _ _ hv ha), rl.ext e2⟩) _ none (fun _ _ n e => by cases e) rfl)⟩⟩
            · exact q.elim
          · exact q.elim
      · exact q.elim
  · exact q.elim
end Px
namespace Px
open PySem PySem.Spec PyProof.Rows L2
/-! ## a def that calls itself: so many times at most -/
def fdStuck : FD := fun _ _ => .stuck
theorem cal_stuck {P : Program} {w : World} {K : PySem.W.Frag} {mg : Str → Option Value} {base : Heap} {x name qual : Str} {params : Arguments} {body : List Stmt} {scope : Scope} {f : Addr} {ps : List Str} {k : Nat}
    (F : ∃ fd, FunD K name qual params body scope [] [] f fd) (hm : mg x = some (.ref f))
    (hbd : ∀ (kV doc pm : Value) (an : Option Addr) (cdv ct : Value) (us : List Value), us.length = ps.length → bindArgs (PySem.W.fnOf name qual params body scope .none kV doc pm an cdv ct) ⟨us, []⟩ = pure (ps.zip us)) :
    Cal P w K mg base k x ps.length fdStuck := by
  obtain ⟨fd, F⟩ := F
  refine ⟨f, fd, ps, ⟨fun vs H Q E h => h.1, fun A outer s H gs us vs Q E room gd env bind rel prom => ?_⟩, hm, F.kp, F.bindsN hbd, fun ds h _ => rfl⟩
  obtain ⟨_, ι, ds, h, rs, hh, good⟩ := prom
  exact good.elim
/-! ## what is not reached -/
def sStuck : FS := fun _ _ => .stuck
theorem pxs_stuck {X : Cx} {W : WX} {st : Stmt} : PXS X W st sStuck := ⟨PS.mono ps_never fun D σ H ⟨ι, ρ, h, hρ, hh, g⟩ => g⟩
end Px
namespace Px
/-! ## equations by which the semantic functions are run: nothing is looked at under a binder -/
section
variable {α β : Type} {ρ : Env} {h : Hy} {a b c d e f fa fb fc fo : FE} {g g' : D → D → Hy → R (D × Hy)} {t t' : FT} {ra : FA} {s s' : FS} {x y z : D}
theorem R.bind_ite {p : Prop} [Decidable p] (r r' : R α) (k : α → R β) : (if p then r else r').bind k = if p then r.bind k else r'.bind k := by split <;> rfl
theorem R.toS_ite {p : Prop} [Decidable p] (r r' : R α) (k : α → RS) : (if p then r else r').toS ρ k = if p then r.toS ρ k else r'.toS ρ k := by split <;> rfl
theorem RS.seq_ite {p : Prop} [Decidable p] (r r' : RS) (k : FS) : (if p then r else r').seq k = if p then r.seq k else r'.seq k := by split <;> rfl
theorem RS.out_ite {p : Prop} [Decidable p] (r r' : RS) : (if p then r else r').out h = if p then r.out h else r'.out h := by split <;> rfl
theorem RS.loop_ite {p : Prop} [Decidable p] (r r' : RS) (k : FS) : (if p then r else r').loop k = if p then r.loop k else r'.loop k := by split <;> rfl
@[simp] theorem eC_ev : eC x ρ h = .ok (x, h) := rfl
theorem eVar_ev {i : Nat} (e : ρ[i]? = some (some x)) : eVar i ρ h = .ok (x, h) := by unfold eVar; rw [e]
@[simp] theorem eVar_0 {o : Env} : eVar 0 (some x :: o) h = .ok (x, h) := rfl
@[simp] theorem eVar_S {i : Nat} {u : Option D} {o : Env} : eVar (i + 1) (u :: o) h = eVar i o h := rfl
@[simp] theorem eVar_1 {u : Option D} {o : Env} : eVar 1 (u :: o) h = eVar 0 o h := rfl
@[simp] theorem eVar_2 {u : Option D} {o : Env} : eVar 2 (u :: o) h = eVar 1 o h := rfl
@[simp] theorem eVar_3 {u : Option D} {o : Env} : eVar 3 (u :: o) h = eVar 2 o h := rfl
@[simp] theorem eVar_4 {u : Option D} {o : Env} : eVar 4 (u :: o) h = eVar 3 o h := rfl
@[simp] theorem eVar_5 {u : Option D} {o : Env} : eVar 5 (u :: o) h = eVar 4 o h := rfl
@[simp] theorem eVar_6 {u : Option D} {o : Env} : eVar 6 (u :: o) h = eVar 5 o h := rfl
@[simp] theorem eVar_7 {u : Option D} {o : Env} : eVar 7 (u :: o) h = eVar 6 o h := rfl
@[simp] theorem eVar_8 {u : Option D} {o : Env} : eVar 8 (u :: o) h = eVar 7 o h := rfl
@[simp] theorem eVar_9 {u : Option D} {o : Env} : eVar 9 (u :: o) h = eVar 8 o h := rfl
@[simp] theorem eVar_10 {u : Option D} {o : Env} : eVar 10 (u :: o) h = eVar 9 o h := rfl
@[simp] theorem eVar_11 {u : Option D} {o : Env} : eVar 11 (u :: o) h = eVar 10 o h := rfl
@[simp] theorem eVar_12 {u : Option D} {o : Env} : eVar 12 (u :: o) h = eVar 11 o h := rfl
@[simp] theorem eVar_13 {u : Option D} {o : Env} : eVar 13 (u :: o) h = eVar 12 o h := rfl
@[simp] theorem eVar_14 {u : Option D} {o : Env} : eVar 14 (u :: o) h = eVar 13 o h := rfl
def binK2 (g : D → D → Hy → R (D × Hy)) (x : D) (q : D × Hy) : R (D × Hy) := g x q.1 q.2
def binK (g : D → D → Hy → R (D × Hy)) (fb : FE) (ρ : Env) (p : D × Hy) : R (D × Hy) := (fb ρ p.2).bind (binK2 g p.1)
@[simp] theorem bin_ev : bin g fa fb ρ h = (fa ρ h).bind (binK g fb ρ) := rfl
@[simp] theorem binK_ev : binK g fb ρ (x, h) = (fb ρ h).bind (binK2 g x) := rfl
@[simp] theorem binK2_ev : binK2 g x (y, h) = g x y h := rfl
def unK (g : D → Hy → R (D × Hy)) (p : D × Hy) : R (D × Hy) := g p.1 p.2
@[simp] theorem un_ev {g : D → Hy → R (D × Hy)} : un g fa ρ h = (fa ρ h).bind (unK g) := rfl
@[simp] theorem unK_ev {g : D → Hy → R (D × Hy)} : unK g (x, h) = g x h := rfl
def chK3 (g' : D → D → Hy → R (D × Hy)) (fc : FE) (ρ : Env) (y : D) (r : D × Hy) : R (D × Hy) := match r.1 with
  | .bl true => (fc ρ r.2).bind (binK2 g' y)
  | .bl false => .ok (.bl false, r.2)
  | _ => .stuck
def chK2 (g g' : D → D → Hy → R (D × Hy)) (fc : FE) (ρ : Env) (x : D) (q : D × Hy) : R (D × Hy) := (g x q.1 q.2).bind (chK3 g' fc ρ q.1)
def chK (g g' : D → D → Hy → R (D × Hy)) (fb fc : FE) (ρ : Env) (p : D × Hy) : R (D × Hy) := (fb ρ p.2).bind (chK2 g g' fc ρ p.1)
@[simp] theorem chain_ev : chain g g' fa fb fc ρ h = (fa ρ h).bind (chK g g' fb fc ρ) := rfl
@[simp] theorem chK_ev : chK g g' fb fc ρ (x, h) = (fb ρ h).bind (chK2 g g' fc ρ x) := rfl
@[simp] theorem chK2_ev : chK2 g g' fc ρ x (y, h) = (g x y h).bind (chK3 g' fc ρ y) := rfl
@[simp] theorem chK3_t : chK3 g' fc ρ y (.bl true, h) = (fc ρ h).bind (binK2 g' y) := rfl
@[simp] theorem chK3_f : chK3 g' fc ρ y (.bl false, h) = .ok (.bl false, h) := rfl
@[simp] theorem chK3_d {p : Prop} [Decidable p] : chK3 g' fc ρ y (.bl (decide p), h) = if p then (fc ρ h).bind (binK2 g' y) else .ok (.bl false, h) := by
  by_cases q : p <;> simp [q, chK3]
def bOfK (p : D × Hy) : R (Bool × Hy) := match p.1 with
  | .bl b => .ok (b, p.2)
  | _ => .stuck
@[simp] theorem bOf_ev : bOf f ρ h = (f ρ h).bind bOfK := rfl
@[simp] theorem bOfK_ev {b : Bool} : bOfK (.bl b, h) = .ok (b, h) := rfl
def tAndK (t : FT) (ρ : Env) (p : Bool × Hy) : R (Bool × Hy) := if p.1 then t ρ p.2 else .ok (false, p.2)
def tOrK (t : FT) (ρ : Env) (p : Bool × Hy) : R (Bool × Hy) := if p.1 then .ok (true, p.2) else t ρ p.2
def tNotK (p : Bool × Hy) : R (Bool × Hy) := .ok (!p.1, p.2)
@[simp] theorem tAnd_ev : tAnd t t' ρ h = (t ρ h).bind (tAndK t' ρ) := rfl
@[simp] theorem tOr_ev : tOr t t' ρ h = (t ρ h).bind (tOrK t' ρ) := rfl
@[simp] theorem tNot_ev : tNot t ρ h = (t ρ h).bind tNotK := rfl
@[simp] theorem tAndK_ev {b : Bool} : tAndK t ρ (b, h) = if b = true then t ρ h else .ok (false, h) := rfl
@[simp] theorem tOrK_ev {b : Bool} : tOrK t ρ (b, h) = if b = true then .ok (true, h) else t ρ h := rfl
@[simp] theorem tNotK_ev {b : Bool} : tNotK (b, h) = .ok (!b, h) := rfl
@[simp] theorem tTrue_ev : tTrue ρ h = .ok (true, h) := rfl
def eAndK (f : FE) (ρ : Env) (p : D × Hy) : R (D × Hy) := match p.1 with
  | .bl true => f ρ p.2
  | .bl false => .ok (.bl false, p.2)
  | _ => .stuck
def eOrK (f : FE) (ρ : Env) (p : D × Hy) : R (D × Hy) := match p.1 with
  | .bl true => .ok (.bl true, p.2)
  | .bl false => f ρ p.2
  | _ => .stuck
def eNotK (p : D × Hy) : R (D × Hy) := match p.1 with
  | .bl b => .ok (.bl (!b), p.2)
  | _ => .stuck
@[simp] theorem eAnd_ev : eAnd fa fb ρ h = (fa ρ h).bind (eAndK fb ρ) := rfl
@[simp] theorem eOr_ev : eOr fa fb ρ h = (fa ρ h).bind (eOrK fb ρ) := rfl
@[simp] theorem eNot_ev : eNot fa ρ h = (fa ρ h).bind eNotK := rfl
@[simp] theorem eAndK_ev {b : Bool} : eAndK f ρ (.bl b, h) = if b = true then f ρ h else .ok (.bl false, h) := by cases b <;> rfl
@[simp] theorem eOrK_ev {b : Bool} : eOrK f ρ (.bl b, h) = if b = true then .ok (.bl true, h) else f ρ h := by cases b <;> rfl
@[simp] theorem eNotK_ev {b : Bool} : eNotK (.bl b, h) = .ok (.bl (!b), h) := rfl
def eIfK (fa fb : FE) (ρ : Env) (p : Bool × Hy) : R (D × Hy) := if p.1 then fa ρ p.2 else fb ρ p.2
@[simp] theorem eIf_ev : eIf t fa fb ρ h = (t ρ h).bind (eIfK fa fb ρ) := rfl
@[simp] theorem eIfK_ev {b : Bool} : eIfK fa fb ρ (b, h) = if b = true then fa ρ h else fb ρ h := rfl
def aConsK2 (x : D) (q : List D × Hy) : R (List D × Hy) := .ok (x :: q.1, q.2)
def aConsK (r : FA) (ρ : Env) (p : D × Hy) : R (List D × Hy) := (r ρ p.2).bind (aConsK2 p.1)
@[simp] theorem aNil_ev : aNil ρ h = .ok ([], h) := rfl
@[simp] theorem aCons_ev : aCons f ra ρ h = (f ρ h).bind (aConsK ra ρ) := rfl
@[simp] theorem aConsK_ev : aConsK ra ρ (x, h) = (ra ρ h).bind (aConsK2 x) := rfl
@[simp] theorem aConsK2_ev {xs : List D} : aConsK2 x (xs, h) = .ok (x :: xs, h) := rfl
def onA (k : List D → Hy → R (D × Hy)) (p : List D × Hy) : R (D × Hy) := k p.1 p.2
@[simp] theorem eTup_ev : eTup ra ρ h = (ra ρ h).bind (onA mkTup) := rfl
@[simp] theorem eLst_ev : eLst ra ρ h = (ra ρ h).bind (onA mkLst) := rfl
@[simp] theorem eCall_ev {k : List D → Hy → R (D × Hy)} : eCall k ra ρ h = (ra ρ h).bind (onA k) := rfl
@[simp] theorem onA_ev {k : List D → Hy → R (D × Hy)} {xs : List D} : onA k (xs, h) = k xs h := rfl
@[simp] theorem new_ev {u : Ob} : new u h = .ok (.ref h.length, h ++ [u]) := rfl
@[simp] theorem mkTup_ev {xs : List D} : mkTup xs h = if xs.length ≤ 16777216 then .ok (.tup xs, h) else .stuck := rfl
@[simp] theorem mkLst_ev {xs : List D} : mkLst xs h = if xs.length ≤ 16777216 then .ok (.ref h.length, h ++ [.lst xs]) else .stuck := rfl
def oSomeK (p : D × Hy) : R (Option Int × Hy) := match p.1 with
  | .int i => .ok (some i, p.2)
  | _ => .stuck
def cutK3 (x : D) (lo : Option Int) (r : Option Int × Hy) : R (D × Hy) := sCut x lo r.1 r.2
def cutK2 (hi : FO) (ρ : Env) (x : D) (q : Option Int × Hy) : R (D × Hy) := (hi ρ q.2).bind (cutK3 x q.1)
def cutK (lo hi : FO) (ρ : Env) (p : D × Hy) : R (D × Hy) := (lo ρ p.2).bind (cutK2 hi ρ p.1)
@[simp] theorem oNone_ev : oNone ρ h = .ok (none, h) := rfl
@[simp] theorem oSome_ev : oSome f ρ h = (f ρ h).bind oSomeK := rfl
@[simp] theorem oSomeK_ev {i : Int} : oSomeK (.int i, h) = .ok (some i, h) := rfl
@[simp] theorem eCut_ev {lo hi : FO} : eCut f lo hi ρ h = (f ρ h).bind (cutK lo hi ρ) := rfl
@[simp] theorem cutK_ev {lo hi : FO} : cutK lo hi ρ (x, h) = (lo ρ h).bind (cutK2 hi ρ x) := rfl
@[simp] theorem cutK2_ev {hi : FO} {o : Option Int} : cutK2 hi ρ x (o, h) = (hi ρ h).bind (cutK3 x o) := rfl
@[simp] theorem cutK3_ev {o p : Option Int} : cutK3 x o (p, h) = sCut x o p h := rfl
def m1K2 (g : D → List D → Hy → R (D × Hy)) (x : D) (q : D × Hy) : R (D × Hy) := g x [q.1] q.2
def m1K (g : D → List D → Hy → R (D × Hy)) (fa : FE) (ρ : Env) (p : D × Hy) : R (D × Hy) := if p.1.isStr then (fa ρ p.2).bind (m1K2 g p.1) else .stuck
@[simp] theorem eM1_ev {g : D → List D → Hy → R (D × Hy)} : eM1 g fo fa ρ h = (fo ρ h).bind (m1K g fa ρ) := rfl
@[simp] theorem m1K_ev {g : D → List D → Hy → R (D × Hy)} {s : Tx} : m1K g fa ρ (.str s, h) = (fa ρ h).bind (m1K2 g (.str s)) := rfl
@[simp] theorem m1K2_ev {g : D → List D → Hy → R (D × Hy)} : m1K2 g x (y, h) = g x [y] h := rfl
def l1K2 (g : D → List D → Hy → R (D × Hy)) (x : D) (q : List D × Hy) : R (D × Hy) := g x q.1 q.2
def l1K (g : D → List D → Hy → R (D × Hy)) (ra : FA) (ρ : Env) (p : D × Hy) : R (D × Hy) := if isLst p.2 p.1 then (ra ρ p.2).bind (l1K2 g p.1) else .stuck
@[simp] theorem eL1_ev {g : D → List D → Hy → R (D × Hy)} : eL1 g fo ra ρ h = (fo ρ h).bind (l1K g ra ρ) := rfl
@[simp] theorem l1K_ev {g : D → List D → Hy → R (D × Hy)} : l1K g ra ρ (x, h) = if isLst h x then (ra ρ h).bind (l1K2 g x) else .stuck := rfl
@[simp] theorem l1K2_ev {g : D → List D → Hy → R (D × Hy)} {xs : List D} : l1K2 g x (xs, h) = g x xs h := rfl
def l0K (g : D → List D → Hy → R (D × Hy)) (p : D × Hy) : R (D × Hy) := if isLst p.2 p.1 then g p.1 [] p.2 else .stuck
@[simp] theorem eL0_ev {g : D → List D → Hy → R (D × Hy)} : eL0 g fo ρ h = (fo ρ h).bind (l0K g) := rfl
@[simp] theorem l0K_ev {g : D → List D → Hy → R (D × Hy)} : l0K g (x, h) = if isLst h x then g x [] h else .stuck := rfl
def fmtK (p : D × Hy) : R (D × Hy) := match p.1 with
  | .str s => if s.length ≤ 16777216 then .ok (.str s, p.2) else .stuck
  | .int i => if -115792089237316195423570985008687907853269984665640564039457584007913129639936 < i ∧ i < 115792089237316195423570985008687907853269984665640564039457584007913129639936 then .ok (.str (num i), p.2) else .stuck
  | _ => .stuck
@[simp] theorem eFmt_ev : eFmt f ρ h = (f ρ h).bind fmtK := rfl
@[simp] theorem fmtK_str {s : Tx} : fmtK (.str s, h) = if s.length ≤ 16777216 then .ok (.str s, h) else .stuck := rfl
@[simp] theorem fmtK_int {i : Int} : fmtK (.int i, h) = if -115792089237316195423570985008687907853269984665640564039457584007913129639936 < i ∧ i < 115792089237316195423570985008687907853269984665640564039457584007913129639936 then .ok (.str (num i), h) else .stuck := rfl
def jK (k : Tx → FE) (acc : Tx) (ρ : Env) (p : D × Hy) : R (D × Hy) := match p.1 with
  | .str s => if acc.length + s.length ≤ 16777216 then k (acc ++ s) ρ p.2 else .stuck
  | _ => .stuck
@[simp] theorem eJoined_ev {k : Tx → FE} : eJoined k ρ h = k [] ρ h := rfl
@[simp] theorem jNil_ev {acc : Tx} : jNil acc ρ h = .ok (.str acc, h) := rfl
@[simp] theorem jCons_ev {k : Tx → FE} {acc : Tx} : jCons f k acc ρ h = (f ρ h).bind (jK k acc ρ) := rfl
@[simp] theorem jK_ev {k : Tx → FE} {acc s : Tx} : jK k acc ρ (.str s, h) = if acc.length + s.length ≤ 16777216 then k (acc ++ s) ρ h else .stuck := rfl
/-! ### statements -/
def rtK (p : D × Hy) : RS := .rt p.1 p.2
@[simp] theorem sRet_ev : sRet f ρ h = (f ρ h).toS ρ rtK := rfl
@[simp] theorem rtK_ev : rtK (x, h) = .rt x h := rfl
@[simp] theorem sRetN_ev : sRetN ρ h = .rt .non h := rfl
def setK (i : Nat) (ρ : Env) (p : D × Hy) : RS := .nx (ρ.set i (some p.1)) p.2
@[simp] theorem sSet_ev {i : Nat} : sSet i f ρ h = (f ρ h).toS ρ (setK i ρ) := rfl
@[simp] theorem setK_ev {i : Nat} : setK i ρ (x, h) = .nx (ρ.set i (some x)) h := rfl
def asgK (g : FG) (ρ : Env) (p : D × Hy) : RS := (g p.1 ρ p.2).plain
@[simp] theorem sAsg_ev {g : FG} : sAsg f g ρ h = (f ρ h).toS ρ (asgK g ρ) := rfl
@[simp] theorem asgK_ev {g : FG} : asgK g ρ (x, h) = (g x ρ h).plain := rfl
@[simp] theorem plain_nx : (RS.nx ρ h).plain = .nx ρ h := rfl
def exK (ρ : Env) (p : D × Hy) : RS := .nx ρ p.2
@[simp] theorem sExpr_ev : sExpr f ρ h = (f ρ h).toS ρ (exK ρ) := rfl
@[simp] theorem exK_ev : exK ρ (x, h) = .nx ρ h := rfl
def ifK (s s' : FS) (ρ : Env) (p : Bool × Hy) : RS := if p.1 then s ρ p.2 else s' ρ p.2
@[simp] theorem sIf_ev : sIf t s s' ρ h = (t ρ h).toS ρ (ifK s s' ρ) := rfl
@[simp] theorem ifK_ev {b : Bool} : ifK s s' ρ (b, h) = if b = true then s ρ h else s' ρ h := rfl
@[simp] theorem bNil_ev : bNil ρ h = .nx ρ h := rfl
@[simp] theorem bCons_ev : bCons s s' ρ h = (s ρ h).seq s' := rfl
@[simp] theorem RS.seq_nx' : (RS.nx ρ h).seq s = s ρ h := rfl
@[simp] theorem RS.loop_nx : (RS.nx ρ h).loop s = s ρ h := rfl
@[simp] theorem RS.loop_ct : (RS.ct ρ h).loop s = s ρ h := rfl
@[simp] theorem RS.loop_bk : (RS.bk ρ h).loop s = .nx ρ h := rfl
@[simp] theorem RS.loop_rt : (RS.rt x h).loop s = .rt x h := rfl
@[simp] theorem RS.loop_exc {k : String} {o : Option D} : (RS.exc k o ρ h).loop s = .exc k o ρ h := rfl
@[simp] theorem RS.loop_stuck : (RS.stuck).loop s = .stuck := rfl
@[simp] theorem sBrk_ev : sBrk ρ h = .bk ρ h := rfl
@[simp] theorem sCnt_ev : sCnt ρ h = .ct ρ h := rfl
@[simp] theorem fgName_ev {i : Nat} : fgName i x ρ h = .nx (ρ.set i (some x)) h := rfl
@[simp] theorem fgsNil_ev : fgsNil [] ρ h = .nx ρ h := rfl
@[simp] theorem fgsCons_ev {g : FG} {gs : FGs} {xs : List D} : fgsCons g gs (x :: xs) ρ h = (g x ρ h).seq (gs xs) := rfl
@[simp] theorem fgTup_tup {n : Nat} {gs : FGs} {xs : List D} : fgTup n gs (.tup xs) ρ h = if xs.length = n then gs xs ρ h else .stuck := rfl
def whK (t : FT) (s : FS) (n : Nat) (ρ : Env) (p : Bool × Hy) : RS := if p.1 then (s ρ p.2).loop (wLoop t s n) else .nx ρ p.2
@[simp] theorem sWhile_ev {n : Nat} : sWhile n t s ρ h = wLoop t s n ρ h := rfl
theorem wLoop_ev {n : Nat} : wLoop t s (n + 1) ρ h = (t ρ h).toS ρ (whK t s n ρ) := rfl
@[simp] theorem whK_ev {n : Nat} {b : Bool} : whK t s n ρ (b, h) = if b = true then (s ρ h).loop (wLoop t s n) else .nx ρ h := rfl
def forK (ct : CT) (s : FS) (ρ : Env) (p : (List D × Option Nat) × Hy) : RS := fLoop ct s p.1.1 p.1.2 p.1.1 ρ p.2
@[simp] theorem sFor_ev {fi : FI} {ct : CT} : sFor fi ct s ρ h = (fi ρ h).toS ρ (forK ct s ρ) := rfl
@[simp] theorem forK_ev {ct : CT} {xs : List D} {o : Option Nat} : forK ct s ρ ((xs, o), h) = fLoop ct s xs o xs ρ h := rfl
@[simp] theorem srcOk_none {all : List D} : srcOk all none h := fun n e => by cases e
@[simp] theorem srcOk_some {all : List D} {n : Nat} : srcOk all (some n) h ↔ h[n]? = some (.lst all) := ⟨fun z => z n rfl, fun e m q => by cases q; exact e⟩
@[simp] theorem store_one {i : Nat} : CT.store (.one i) x ρ = some (ρ.set i (some x)) := rfl
theorem fLoop_nil {ct : CT} {all : List D} {o : Option Nat} (e : srcOk all o h) : fLoop ct s all o [] ρ h = .nx ρ h := by unfold fLoop; rw [if_pos e]
theorem fLoop_cons {i : Nat} {all xs : List D} {o : Option Nat} (e : srcOk all o h) : fLoop (.one i) s all o (x :: xs) ρ h = (s (ρ.set i (some x)) h).loop (fLoop (.one i) s all o xs) := by
  rw [fLoop]
  rw [if_pos e]
  rfl
/-- a loop that goes through: I holds ahead of each turn -/
theorem fLoop_inv {ct : CT} {all : List D} {o : Option Nat} (I : Env → Hy → Prop) (hI : ∀ ρ h, I ρ h → srcOk all o h) : ∀ (xs : List D) (ρ : Env) (h : Hy),
    (∀ x ∈ xs, ∀ ρ h, I ρ h → ∃ ρ1, ct.store x ρ = some ρ1 ∧ ∃ ρ' h', (s ρ1 h = .nx ρ' h' ∨ s ρ1 h = .ct ρ' h') ∧ I ρ' h') → I ρ h → ∃ ρ' h', fLoop ct s all o xs ρ h = .nx ρ' h' ∧ I ρ' h'
  | [], ρ, h, _, i => ⟨ρ, h, fLoop_nil (hI _ _ i), i⟩
  | x :: xs, ρ, h, hs, i => by
    obtain ⟨ρ1, e1, ρ2, h2, e2, i2⟩ := hs x (by simp) ρ h i
    obtain ⟨ρ3, h3, e3, i3⟩ := fLoop_inv I hI xs ρ2 h2 (fun y hy => hs y (List.mem_cons_of_mem _ hy)) i2
    refine ⟨ρ3, h3, ?_, i3⟩
    rw [fLoop]
    rw [if_pos (hI _ _ i), e1]
    rcases e2 with e2 | e2
    · show (s ρ1 h).loop _ = _
      rw [e2]; exact e3
    · show (s ρ1 h).loop _ = _
      rw [e2]; exact e3
/-! ### what is walked -/
def rg1K (p : List D × Hy) : R ((List D × Option Nat) × Hy) := match p.1 with
  | [.int j] => if -4000000000000000000 ≤ j ∧ j < 4000000000000000000 then .ok ((rangeD 0 j.toNat, none), p.2) else .stuck
  | _ => .stuck
@[simp] theorem iRange1_ev : iRange1 ra ρ h = (ra ρ h).bind rg1K := rfl
@[simp] theorem rg1K_ev {j : Int} : rg1K ([.int j], h) = if -4000000000000000000 ≤ j ∧ j < 4000000000000000000 then .ok ((rangeD 0 j.toNat, none), h) else .stuck := rfl
def rg2K (p : List D × Hy) : R ((List D × Option Nat) × Hy) := match p.1 with
  | [.int i, .int j] => if (-4000000000000000000 ≤ i ∧ i < 4000000000000000000) ∧ -4000000000000000000 ≤ j ∧ j < 4000000000000000000 then .ok ((rangeD i (j - i).toNat, none), p.2) else .stuck
  | _ => .stuck
@[simp] theorem iRange2_ev : iRange2 ra ρ h = (ra ρ h).bind rg2K := rfl
@[simp] theorem rg2K_ev {i j : Int} : rg2K ([.int i, .int j], h) = if (-4000000000000000000 ≤ i ∧ i < 4000000000000000000) ∧ -4000000000000000000 ≤ j ∧ j < 4000000000000000000 then .ok ((rangeD i (j - i).toNat, none), h) else .stuck := rfl
def ivK (h : Hy) (p : D × Hy) : R ((List D × Option Nat) × Hy) := match p.1 with
  | .str s => .ok ((s.map fun c => D.str [c], none), p.2)
  | .tup xs => .ok ((xs, none), p.2)
  | .fl xs => .ok ((xs, none), p.2)
  | .ref n => match p.2[n]? with
    | some (.lst xs) => if Clean h p.2 ∧ h.length ≤ n ∧ D.ltAll h.length xs = true then .ok ((xs, none), p.2.take h.length) else .ok ((xs, some n), p.2)
    | _ => .stuck
  | _ => .stuck
@[simp] theorem iVal_ev : iVal f ρ h = (f ρ h).bind (ivK h) := rfl
@[simp] theorem ivK_str {h1 : Hy} {s : Tx} : ivK h (.str s, h1) = .ok ((s.map fun c => D.str [c], none), h1) := rfl
@[simp] theorem ivK_tup {h1 : Hy} {xs : List D} : ivK h (.tup xs, h1) = .ok ((xs, none), h1) := rfl
@[simp] theorem ivK_fl {h1 : Hy} {xs : List D} : ivK h (.fl xs, h1) = .ok ((xs, none), h1) := rfl
theorem ivK_own {n : Nat} {xs : List D} (e : h[n]? = some (.lst xs)) : ivK h (.ref n, h) = .ok ((xs, some n), h) := by
  unfold ivK
  simp only [e]
  rw [if_neg]
  rintro ⟨_, z, _⟩
  have := (List.getElem?_eq_some_iff.mp e).1
  omega
theorem ivK_new {h1 : Hy} {n : Nat} {xs : List D} (e : h1[n]? = some (.lst xs)) (c : Clean h h1) (hn : h.length ≤ n) (hl : D.ltAll h.length xs = true) : ivK h (.ref n, h1) = .ok ((xs, none), h1.take h.length) := by
  unfold ivK
  simp only [e]
  rw [if_pos ⟨c, hn, hl⟩]
/-! ### comprehensions -/
def cmpK2 (p : List D × Hy) : R (D × Hy) := new (.lst p.1) p.2
def cmpK (ct : CT) (t : FT) (f : FE) (ρ : Env) (p : (List D × Option Nat) × Hy) : R (D × Hy) := if p.1.1.length ≤ 16777216 then (cLoop ct t f ρ p.1.1 p.1.2 p.1.1 p.2).bind cmpK2 else .stuck
@[simp] theorem eComp_ev {vs : List Nat} {fi : FI} {ct : CT} : eComp vs fi ct t f ρ h = (fi ρ h).bind (cmpK ct t f (wipeE ρ vs)) := rfl
@[simp] theorem cmpK_ev {ct : CT} {xs : List D} {o : Option Nat} : cmpK ct t f ρ ((xs, o), h) = if xs.length ≤ 16777216 then (cLoop ct t f ρ xs o xs h).bind cmpK2 else .stuck := rfl
@[simp] theorem cmpK2_ev {xs : List D} : cmpK2 (xs, h) = .ok (.ref h.length, h ++ [.lst xs]) := rfl
@[simp] theorem wipeE_nil : wipeE ρ [] = ρ := rfl
@[simp] theorem wipeE_cons {i : Nat} {is : List Nat} : wipeE ρ (i :: is) = (wipeE ρ is).set i none := rfl
/-- elements and tests that leave the heap alone -/
theorem cLoop_map {ct : CT} {all : List D} {o : Option Nat} {g : D → D} {p : D → Bool} (e : srcOk all o h) : ∀ xs : List D,
    (∀ x ∈ xs, ∃ ρ1, ct.store x ρ = some ρ1 ∧ t ρ1 h = .ok (p x, h) ∧ (p x = true → f ρ1 h = .ok (g x, h))) → cLoop ct t f ρ all o xs h = .ok ((xs.filter p).map g, h)
  | [], _ => by unfold cLoop; rw [if_pos e]; rfl
  | x :: xs, hx => by
    obtain ⟨ρ1, e1, e2, e3⟩ := hx x (by simp)
    have ih := cLoop_map e xs fun y hy => hx y (List.mem_cons_of_mem _ hy)
    rw [cLoop]
    rw [if_pos e, e1]
    simp only [e2, R.calm, R.bind_ok]
    cases q : p x with
    | true => simp only [q, List.filter_cons, if_true, e3 q, R.bind_ok, ih, List.map_cons]
    | false => simp only [q, List.filter_cons, Bool.false_eq_true, if_false, ih]
theorem cLoop_mapM {γ : Type} {mk : γ → D} {ct : CT} {all : List D} {o : Option Nat} (g : γ → D) (p : γ → Bool) (e : srcOk all o h) : ∀ us : List γ,
    (∀ u ∈ us, ∃ ρ1, ct.store (mk u) ρ = some ρ1 ∧ t ρ1 h = .ok (p u, h) ∧ (p u = true → f ρ1 h = .ok (g u, h))) → cLoop ct t f ρ all o (us.map mk) h = .ok ((us.filter p).map g, h)
  | [], _ => by
    rw [List.map_nil]
    unfold cLoop
    rw [if_pos e]
    rfl
  | x :: xs, hx => by
    obtain ⟨ρ1, e1, e2, e3⟩ := hx x (by simp)
    have ih := cLoop_mapM g p e xs fun y hy => hx y (List.mem_cons_of_mem _ hy)
    rw [List.map_cons, cLoop]
    rw [if_pos e, e1]
    simp only [e2, R.calm, R.bind_ok]
    cases q : p x with
    | true => simp only [q, List.filter_cons, if_true, e3 q, R.bind_ok, ih, List.map_cons]
    | false => simp only [q, List.filter_cons, Bool.false_eq_true, if_false, ih]
/-- every element is made, none is left out -/
theorem cLoop_all {γ : Type} {mk : γ → D} {i : Nat} {all : List D} {o : Option Nat} (g : γ → D) (e : srcOk all o h) (us : List γ)
    (hx : ∀ u ∈ us, f (ρ.set i (some (mk u))) h = .ok (g u, h)) : cLoop (.one i) tTrue f ρ all o (us.map mk) h = .ok (us.map g, h) := by
  rw [cLoop_mapM g (fun _ => true) e us fun u hu => ⟨_, rfl, rfl, fun _ => hx u hu⟩, List.filter_eq_self.mpr fun _ _ => rfl]
/-! ### operators -/
@[simp] theorem sAdd_int {i j : Int} : sAdd (.int i) (.int j) h = .ok (.int (i + j), h) := rfl
@[simp] theorem sAdd_str {a b : Tx} : sAdd (.str a) (.str b) h = if a.length + b.length ≤ 16777216 then .ok (.str (a ++ b), h) else .stuck := rfl
@[simp] theorem sAdd_tup {a b : List D} : sAdd (.tup a) (.tup b) h = if a.length + b.length ≤ 16777216 then .ok (.tup (a ++ b), h) else .stuck := rfl
theorem sAdd_lst {m n : Nat} {a b : List D} (e1 : h[m]? = some (.lst a)) (e2 : h[n]? = some (.lst b)) (z : a.length + b.length ≤ 16777216) : sAdd (.ref m) (.ref n) h = .ok (.ref h.length, h ++ [.lst (a ++ b)]) := by
  unfold sAdd
  simp only [e1, e2]
  rw [if_pos z]
  rfl
@[simp] theorem sSub_int {i j : Int} : sSub (.int i) (.int j) h = .ok (.int (i - j), h) := rfl
@[simp] theorem sMul_int {i j : Int} : sMul (.int i) (.int j) h = if -115792089237316195423570985008687907853269984665640564039457584007913129639936 < i ∧ i < 115792089237316195423570985008687907853269984665640564039457584007913129639936 ∧
      -115792089237316195423570985008687907853269984665640564039457584007913129639936 < j ∧ j < 115792089237316195423570985008687907853269984665640564039457584007913129639936 then .ok (.int (i * j), h) else .stuck := rfl
@[simp] theorem sFdiv_int {i j : Int} : sFdiv (.int i) (.int j) h = if 0 < j ∧ j < 115792089237316195423570985008687907853269984665640564039457584007913129639936 then .ok (.int (i / j), h) else .stuck := rfl
@[simp] theorem sMod_int {i j : Int} : sMod (.int i) (.int j) h = if 0 < j then .ok (.int (i % j), h) else .stuck := rfl
@[simp] theorem sPow_int {i j : Int} : sPow (.int i) (.int j) h = if 0 ≤ j ∧ j ≤ 1000000 ∧ -18446744073709551616 < i ∧ i < 18446744073709551616 then .ok (.int (i ^ j.toNat), h) else .stuck := rfl
@[simp] theorem sLt_int {i j : Int} : sLt (.int i) (.int j) h = .ok (.bl (decide (i < j)), h) := rfl
@[simp] theorem sLe_int {i j : Int} : sLe (.int i) (.int j) h = .ok (.bl (decide (i ≤ j)), h) := rfl
@[simp] theorem sGt_int {i j : Int} : sGt (.int i) (.int j) h = .ok (.bl (decide (j < i)), h) := rfl
@[simp] theorem sGe_int {i j : Int} : sGe (.int i) (.int j) h = .ok (.bl (decide (j ≤ i)), h) := rfl
@[simp] theorem sNeg_int {i : Int} : sNeg (.int i) h = .ok (.int (-i), h) := rfl
@[simp] theorem sEq_int {i j : Int} : sEq (.int i) (.int j) h = .ok (.bl (decide (i = j)), h) := rfl
@[simp] theorem sNe_int {i j : Int} : sNe (.int i) (.int j) h = .ok (.bl (!decide (i = j)), h) := rfl
@[simp] theorem sEq_str {i j : Tx} : sEq (.str i) (.str j) h = .ok (.bl (decide (i = j)), h) := rfl
@[simp] theorem sNe_str {i j : Tx} : sNe (.str i) (.str j) h = .ok (.bl (!decide (i = j)), h) := rfl
theorem sEq_vw {a b : T} (e1 : vw h 24 x = some a) (e2 : vw h 24 y = some b) : sEq x y h = .ok (.bl (T.eqv a b), h) := by unfold sEq; rw [e1, e2]
theorem sNe_vw {a b : T} (e1 : vw h 24 x = some a) (e2 : vw h 24 y = some b) : sNe x y h = .ok (.bl (!T.eqv a b), h) := by unfold sNe; rw [e1, e2]
theorem sIs_non {b : D} : sIs b .non h = .ok (.bl b.isNon, h) := by cases b <;> rfl
@[simp] theorem sIs_bl {a b : Bool} : sIs (.bl a) (.bl b) h = .ok (.bl (decide (a = b)), h) := rfl
@[simp] theorem sIsNot_bl {a b : Bool} : sIsNot (.bl a) (.bl b) h = .ok (.bl (!decide (a = b)), h) := rfl
@[simp] theorem sIn_ch {c : Char} {s : Tx} : sIn (.str [c]) (.str s) h = .ok (.bl (decide (c ∈ s)), h) := rfl
@[simp] theorem sNotIn_ch {c : Char} {s : Tx} : sNotIn (.str [c]) (.str s) h = .ok (.bl (!decide (c ∈ s)), h) := rfl
theorem sIx_str {s : Tx} {i : Int} {c : Char} (e : L2.atI s i = some c) (z : s.length ≤ 16777216) : sIx (.str s) (.int i) h = .ok (.str [c], h) := by unfold sIx; simp only [if_pos z, e]
theorem sIx_tup {xs : List D} {i : Int} (e : L2.atI xs i = some x) : sIx (.tup xs) (.int i) h = .ok (x, h) := by unfold sIx items; simp only [e]
theorem sIx_fl {xs : List D} {i : Int} (e : L2.atI xs i = some x) : sIx (.fl xs) (.int i) h = .ok (x, h) := by unfold sIx items; simp only [e]
theorem sIx_ref {n : Nat} {xs : List D} {i : Int} (e1 : h[n]? = some (.lst xs)) (e : L2.atI xs i = some x) : sIx (.ref n) (.int i) h = .ok (x, h) := by unfold sIx items; simp only [e1, e]
@[simp] theorem gLen_str {s : Tx} : gLen [.str s] h = if s.length ≤ 16777216 then .ok (.int s.length, h) else .stuck := rfl
@[simp] theorem gLen_tup {xs : List D} : gLen [.tup xs] h = .ok (.int xs.length, h) := rfl
@[simp] theorem gLen_fl {xs : List D} : gLen [.fl xs] h = .ok (.int xs.length, h) := rfl
theorem gLen_ref {n : Nat} {xs : List D} (e1 : h[n]? = some (.lst xs)) : gLen [.ref n] h = .ok (.int xs.length, h) := by unfold gLen items; simp only [e1]
@[simp] theorem gMax_int {i j : Int} : gMax [.int i, .int j] h = .ok (.int (if j > i then j else i), h) := rfl
@[simp] theorem gMin_int {i j : Int} : gMin [.int i, .int j] h = .ok (.int (if j < i then j else i), h) := rfl
@[simp] theorem gAbs_int {i : Int} : gAbs [.int i] h = .ok (.int (if i < 0 then -i else i), h) := rfl
@[simp] theorem gDivmod_int {i j : Int} : gDivmod [.int i, .int j] h = if 0 < j ∧ j < 1073741824 then .ok (.tup [.int (i / j), .int (i % j)], h) else .stuck := rfl
@[simp] theorem gStr_int {i : Int} : gStr [.int i] h = if -115792089237316195423570985008687907853269984665640564039457584007913129639936 < i ∧ i < 115792089237316195423570985008687907853269984665640564039457584007913129639936 then .ok (.str (num i), h) else .stuck := rfl
@[simp] theorem gIsi_str {T : String} {s : Tx} : gIsi T [.str s] h = .ok (.bl ("str" == T || ("str" == "bool" && T == "int")), h) := rfl
@[simp] theorem gIsi_int {T : String} {i : Int} : gIsi T [.int i] h = .ok (.bl ("int" == T || ("int" == "bool" && T == "int")), h) := rfl
theorem mapM_bl : ∀ bs : List Bool, (bs.map D.bl).mapM asBl = some bs
  | [] => rfl
  | b :: bs => by simp only [List.map_cons, List.mapM_cons, mapM_bl bs]; rfl
theorem gAll_ref {n : Nat} {bs : List Bool} (e1 : h[n]? = some (.lst (bs.map D.bl))) : gAll [.ref n] h = .ok (.bl (bs.all id), h) := by
  unfold gAll itemsL
  simp only [e1, Option.bind_some, mapM_bl]
theorem gAny_ref {n : Nat} {bs : List Bool} (e1 : h[n]? = some (.lst (bs.map D.bl))) : gAny [.ref n] h = .ok (.bl (bs.any id), h) := by
  unfold gAny itemsL
  simp only [e1, Option.bind_some, mapM_bl]
theorem Clean.nil (h1 : Hy) : Clean [] h1 := fun i hi => absurd hi (Nat.not_lt_zero _)
/-! ### defs -/
theorem defD_pure {n N : Nat} {ds : List D} (hl : ds.length = n) (hp : D.ltAll 0 ds = true) : defD n N s ds h = lift h (bodyD N s ds) := by unfold defD; rw [if_pos hl, if_pos hp]
theorem defD_own {n N : Nat} {ds : List D} (hl : ds.length = n) (hp : D.ltAll 0 ds = false) : defD n N s ds h = (s (startE N ds) h).out h := by unfold defD; rw [if_pos hl, if_neg (by rw [hp]; exact Bool.false_ne_true)]
@[simp] theorem lift_ok : lift h (.ok (x, [])) = .ok (x.sh h.length, h) := by simp [lift]
@[simp] theorem lift_lst {xs : List D} : lift h (.ok (x, [.lst xs])) = .ok (x.sh h.length, h ++ [.lst (D.shs h.length xs)]) := by simp [lift, Ob.sh]
@[simp] theorem lift_exc {k : String} : lift h (.exc k none []) = .exc k none h := by simp [lift]
@[simp] theorem D.sh_str {k : Nat} {s : Tx} : (D.str s).sh k = .str s := by simp [D.sh]
@[simp] theorem D.sh_int {k : Nat} {i : Int} : (D.int i).sh k = .int i := by simp [D.sh]
@[simp] theorem D.sh_bl {k : Nat} {b : Bool} : (D.bl b).sh k = .bl b := by simp [D.sh]
@[simp] theorem D.sh_non {k : Nat} : D.non.sh k = .non := by simp [D.sh]
@[simp] theorem D.sh_ref {k n : Nat} : (D.ref n).sh k = .ref (k + n) := by simp [D.sh]
@[simp] theorem D.sh_tup {k : Nat} {xs : List D} : (D.tup xs).sh k = .tup (D.shs k xs) := by simp [D.sh]
@[simp] theorem D.shs_nil {k : Nat} : D.shs k [] = [] := by simp [D.shs]
@[simp] theorem D.shs_cons {k : Nat} {xs : List D} : D.shs k (x :: xs) = x.sh k :: D.shs k xs := by simp [D.shs]
@[simp] theorem D.shs_app {k : Nat} {ys : List D} : ∀ {xs : List D}, D.shs k (xs ++ ys) = D.shs k xs ++ D.shs k ys
  | [] => by simp
  | x :: xs => by simp [D.shs_app (xs := xs)]
@[simp] theorem D.shs_strs {k : Nat} : ∀ {ss : List Tx}, D.shs k (ss.map D.str) = ss.map D.str
  | [] => by simp
  | x :: xs => by simp [D.shs_strs (ss := xs)]
@[simp] theorem D.shs_ints {k : Nat} : ∀ {ss : List Int}, D.shs k (ss.map D.int) = ss.map D.int
  | [] => by simp
  | x :: xs => by simp [D.shs_ints (ss := xs)]
@[simp] theorem D.ltAll_nil {k : Nat} : D.ltAll k [] = true := by simp [D.ltAll]
@[simp] theorem D.ltAll_cons {k : Nat} {xs : List D} : D.ltAll k (x :: xs) = (x.lt k && D.ltAll k xs) := by simp [D.ltAll]
@[simp] theorem D.lt_str {k : Nat} {s : Tx} : (D.str s).lt k = true := by simp [D.lt]
@[simp] theorem D.lt_int {k : Nat} {s : Int} : (D.int s).lt k = true := by simp [D.lt]
@[simp] theorem D.lt_bl {k : Nat} {s : Bool} : (D.bl s).lt k = true := by simp [D.lt]
@[simp] theorem D.lt_non {k : Nat} : (D.non).lt k = true := by simp [D.lt]
@[simp] theorem D.lt_fn {k : Nat} {s : String} : (D.fn s).lt k = true := by simp [D.lt]
@[simp] theorem D.lt_ref {k n : Nat} : (D.ref n).lt k = decide (n < k) := by simp [D.lt]
@[simp] theorem D.lt_tup {k : Nat} {xs : List D} : (D.tup xs).lt k = D.ltAll k xs := by simp [D.lt]
@[simp] theorem D.lt_fl {k : Nat} {xs : List D} : (D.fl xs).lt k = D.ltAll k xs := by simp [D.lt]
@[simp] theorem D.ltAll_strs {k : Nat} : ∀ {ss : List Tx}, D.ltAll k (ss.map D.str) = true
  | [] => by simp
  | x :: xs => by simp [D.ltAll_strs (ss := xs)]
@[simp] theorem D.ltAll_ints {k : Nat} : ∀ {ss : List Int}, D.ltAll k (ss.map D.int) = true
  | [] => by simp
  | x :: xs => by simp [D.ltAll_ints (ss := xs)]
@[simp] theorem out_rt_pure {h1 : Hy} (hx : x.lt 0 = true) : (RS.rt x h1).out [] = .ok (x, []) := by
  show R.ok (gc [] (x, h1)) = _
  unfold gc
  rw [if_pos (Clean.nil _), if_pos (show x.lt ([] : Hy).length = true from hx)]
  simp
theorem out_rt_lst {h1 : Hy} {m : Nat} {xs : List D} (e : h1[m]? = some (.lst xs)) (hx : D.ltAll 0 xs = true) : (RS.rt (.ref m) h1).out [] = .ok (.ref 0, [.lst xs]) := by
  show R.ok (gc [] (.ref m, h1)) = _
  unfold gc
  rw [if_pos (Clean.nil _), if_neg (by simp)]
  simp only [e]
  rw [if_pos (show Ob.lt ([] : Hy).length (.lst xs) = true from hx)]
  simp
@[simp] theorem out_exc {k : String} {h1 : Hy} : (RS.exc k none ρ h1).out [] = .exc k none [] := by
  show R.exc k none (gcX [] none h1) = _
  unfold gcX
  rw [if_pos ⟨Clean.nil _, rfl⟩]
  simp
/-- behind a call: the heap is the one ahead, with writes of pure things -/
theorem out_rt_clean {h1 : Hy} (hx : x.lt h.length = true) (c : Clean h h1) : (RS.rt x h1).out h = .ok (x, h1.take h.length) := by
  show R.ok (gc h (x, h1)) = _
  unfold gc
  rw [if_pos c, if_pos hx]
/-! ### heaps -/
theorem hp_last {g : Hy} {i : Nat} : (h ++ g)[h.length + i]? = g[i]? := by rw [List.getElem?_append_right (by omega), Nat.add_sub_cancel_left]
theorem hp_last0 {g : Hy} : (h ++ g)[h.length]? = g[0]? := by rw [List.getElem?_append_right (by omega), Nat.sub_self]
theorem hp_set {g : Hy} {i : Nat} {o : Ob} : (h ++ g).set (h.length + i) o = h ++ g.set i o := by rw [List.set_append_right _ _ (by omega), Nat.add_sub_cancel_left]
theorem hp_set0 {g : Hy} {o : Ob} : (h ++ g).set h.length o = h ++ g.set 0 o := by rw [List.set_append_right _ _ (by omega), Nat.sub_self]
theorem hp_low {g : Hy} {i : Nat} {o : Ob} (e : h[i]? = some o) : (h ++ g)[i]? = some o := by rw [List.getElem?_append_left (List.getElem?_eq_some_iff.mp e).1]; exact e
end
end Px
namespace Px
theorem atI_nat {α : Type} {xs : List α} {i : Int} {d : α} (h0 : 0 ≤ i) (h1 : i < xs.length) : L2.atI xs i = some (xs.getD i.toNat d) := by
  unfold L2.atI L2.ixN
  rw [if_pos h0, if_pos h1]
  show xs[i.toNat]? = _
  have hi : i.toNat < xs.length := by omega
  rw [List.getD_eq_getElem?_getD, List.getElem?_eq_getElem hi]
  rfl
theorem getD_all {α : Type} {p : α → Prop} {xs : List α} {i : Nat} {d : α} (hd : p d) (h : ∀ x ∈ xs, p x) : p (xs.getD i d) := by
  rw [List.getD_eq_getElem?_getD]
  cases e : xs[i]? with
  | none => exact hd
  | some x => exact h x (List.mem_of_getElem? e)
end Px
namespace Px
theorem mapM_str : ∀ ts : List Tx, (ts.map D.str).mapM asStr = some ts
  | [] => rfl
  | b :: bs => by simp only [List.map_cons, List.mapM_cons, mapM_str bs]; rfl
theorem mJoin_ref {h : Hy} {n : Nat} {s : Tx} {ts : List Tx} (e : h[n]? = some (.lst (ts.map D.str))) (z : (ts.map List.length).sum + ts.length * s.length ≤ 16777216) : mJoinG (.str s) [.ref n] h = .ok (.str (joinT s ts), h) := by
  show mJoin (.str s) [.ref n] h = _
  unfold mJoin items
  simp only [e, Option.bind_some, mapM_str]
  rw [if_pos z]
@[simp] theorem mSplit_ev {h : Hy} {s : Tx} {c : Char} : mSplit (.str s) [.str [c]] h = if c.toNat < 256 ∧ s.length + 2 ≤ 16777216 then .ok (.ref h.length, h ++ [.lst ((splitC c s).map D.str)]) else .stuck := rfl
theorem splitC_none {c : Char} : ∀ {s : Tx}, c ∉ s → splitC c s = [s]
  | [], _ => rfl
  | x :: xs, h => by
    have hx : x ≠ c := fun e => h (by simp [e])
    have hs : c ∉ xs := fun e => h (List.mem_cons_of_mem _ e)
    unfold splitC
    rw [if_neg hx, splitC_none hs]
theorem splitC_at {c : Char} {b : Tx} : ∀ {a : Tx}, c ∉ a → splitC c (a ++ c :: b) = a :: splitC c b
  | [], _ => by
    show splitC c (c :: b) = _
    rw [splitC, if_pos rfl]
  | x :: xs, h => by
    have hx : x ≠ c := fun e => h (by simp [e])
    have hs : c ∉ xs := fun e => h (List.mem_cons_of_mem _ e)
    show splitC c (x :: (xs ++ c :: b)) = _
    rw [splitC, if_neg hx, splitC_at hs]
theorem splitC_join {c : Char} : ∀ {ts : List Tx}, ts ≠ [] → (∀ t ∈ ts, c ∉ t) → splitC c (joinT [c] ts) = ts
  | [], h, _ => absurd rfl h
  | [t], _, h => by
    show splitC c t = _
    exact splitC_none (h t (by simp))
  | t :: u :: r, _, h => by
    show splitC c (t ++ [c] ++ joinT [c] (u :: r)) = _
    rw [List.append_assoc, List.singleton_append, splitC_at (h t (by simp)), splitC_join (by simp) fun x hx => h x (List.mem_cons_of_mem _ hx)]
end Px
namespace Px
theorem num_nat (n : Nat) : num (n : Int) = Nat.toDigits 10 n := by
  show (toString (n : Int)).toList = _
  show (Nat.repr n).toList = _
  exact Nat.toList_repr
theorem num_ev {i : Int} (h0 : 0 ≤ i) : num i = Nat.toDigits 10 i.toNat := by
  obtain ⟨n, rfl⟩ := Int.eq_ofNat_of_zero_le h0
  exact num_nat n
theorem num_len {i : Int} {k : Nat} (h0 : 0 ≤ i) (h1 : i < 10 ^ k) (hk : 0 < k) : (num i).length ≤ k := by
  rw [num_ev h0]
  refine (Nat.length_toDigits_le_iff (by decide) hk).mpr ?_
  have : (i.toNat : Int) < ((10 ^ k : Nat) : Int) := by rw [Int.toNat_of_nonneg h0]; simpa using h1
  exact Int.ofNat_lt.mp this
theorem num_pos {i : Int} (h0 : 0 ≤ i) : 1 ≤ (num i).length := by
  rw [num_ev h0]
  exact Nat.length_toDigits_pos
theorem mem_digits {c : Char} (h : c.isDigit = true) : c ∈ ['0', '1', '2', '3', '4', '5', '6', '7', '8', '9'] := by
  unfold Char.isDigit at h
  simp only [Bool.and_eq_true, decide_eq_true_eq] at h
  have h1 : 48 ≤ c.toNat := UInt32.le_iff_toNat_le.mp h.1
  have h2 : c.toNat ≤ 57 := UInt32.le_iff_toNat_le.mp h.2
  have e : c = Char.ofNat c.toNat := (Char.ofNat_toNat c).symm
  rw [e]
  generalize c.toNat = n at h1 h2
  have : n = 48 ∨ n = 49 ∨ n = 50 ∨ n = 51 ∨ n = 52 ∨ n = 53 ∨ n = 54 ∨ n = 55 ∨ n = 56 ∨ n = 57 := by omega
  rcases this with h | h | h | h | h | h | h | h | h | h <;> subst h <;> decide
theorem num_dig {i : Int} (h0 : 0 ≤ i) {c : Char} (h : c ∈ num i) : c ∈ ['0', '1', '2', '3', '4', '5', '6', '7', '8', '9'] := by
  rw [num_ev h0] at h
  exact mem_digits (Nat.isDigit_of_mem_toDigits (by decide) (by decide) h)
end Px
namespace Px
theorem cut_lo {α : Type} {xs : List α} {i : Int} (h0 : 0 ≤ i) : cut xs (some i) none = xs.drop i.toNat := by
  unfold cut HT.sIx
  simp only
  rw [if_neg (by omega), List.take_of_length_le (by rw [List.length_drop]; omega)]
  by_cases h : i.toNat ≤ xs.length
  · rw [Nat.min_eq_left h]
  · rw [Nat.min_eq_right (by omega), List.drop_of_length_le (Nat.le_refl _), List.drop_of_length_le (by omega)]
theorem cut_hi {α : Type} {xs : List α} {i : Int} (h0 : 0 ≤ i) : cut xs none (some i) = xs.take i.toNat := by
  unfold cut HT.sIx
  simp only
  rw [if_neg (by omega), List.drop_zero, Nat.sub_zero]
  by_cases h : i.toNat ≤ xs.length
  · rw [Nat.min_eq_left h]
  · rw [Nat.min_eq_right (by omega), List.take_of_length_le (Nat.le_refl _), List.take_of_length_le (by omega)]
@[simp] theorem sCut_str {h : Hy} {s : Tx} {lo hi : Option Int} : sCut (.str s) lo hi h = if s.length ≤ 16777216 then .ok (.str (cut s lo hi), h) else .stuck := rfl
@[simp] theorem sCut_tup {h : Hy} {s : List D} {lo hi : Option Int} : sCut (.tup s) lo hi h = .ok (.tup (cut s lo hi), h) := rfl
@[simp] theorem sCut_fl {h : Hy} {s : List D} {lo hi : Option Int} : sCut (.fl s) lo hi h = .ok (.ref h.length, h ++ [.lst (cut s lo hi)]) := rfl
theorem sCut_ref {h : Hy} {n : Nat} {s : List D} {lo hi : Option Int} (e : h[n]? = some (.lst s)) : sCut (.ref n) lo hi h = .ok (.ref h.length, h ++ [.lst (cut s lo hi)]) := by
  unfold sCut itemsL
  simp only [e]
  rfl
end Px
namespace Px
section
variable {h : Hy} {ρ : Env} {d : D} {fo fi : FE}
def fsK2 (d x : D) (ρ : Env) (q : D × Hy) : RS := match setIt x q.1 d q.2 with
  | some h' => .nx ρ h'
  | none => .stuck
def fsK (fi : FE) (d : D) (ρ : Env) (p : D × Hy) : RS := (fi ρ p.2).toS ρ (fsK2 d p.1 ρ)
@[simp] theorem fgSub_ev : fgSub fo fi d ρ h = (fo ρ h).toS ρ (fsK fi d ρ) := rfl
@[simp] theorem fsK_ev {x : D} : fsK fi d ρ (x, h) = (fi ρ h).toS ρ (fsK2 d x ρ) := rfl
theorem fsK2_ref {n j : Nat} {i : Int} {xs : List D} (e : h[n]? = some (.lst xs)) (hi : L2.ixN xs.length i = some j) : fsK2 d (.ref n) ρ (.int i, h) = .nx ρ (h.set n (.lst (xs.set j d))) := by
  unfold fsK2 setIt
  simp only [e, hi]
theorem hp_set_self {n : Nat} {o : Ob} {u : Ob} (e : h[n]? = some u) : (h.set n o)[n]? = some o := List.getElem?_set_self (List.getElem?_eq_some_iff.mp e).1
end
theorem joinT_len (sep : Tx) : ∀ ts : List Tx, (joinT sep ts).length ≤ (ts.map List.length).sum + ts.length * sep.length
  | [] => by simp [joinT]
  | [x] => by simp [joinT]
  | x :: y :: r => by
    have ih := joinT_len sep (y :: r)
    show (x ++ sep ++ joinT sep (y :: r)).length ≤ _
    simp only [List.length_append, List.map_cons, List.sum_cons, List.length_cons] at ih ⊢
    rw [Nat.add_mul, Nat.one_mul]
    rw [Nat.add_mul, Nat.one_mul] at ih
    rw [Nat.add_mul, Nat.one_mul]
    omega
end Px
namespace Px
theorem atI_map {α β : Type} {g : α → β} {xs : List α} {i : Int} (h0 : 0 ≤ i) (h1 : i < xs.length) : ∃ x ∈ xs, L2.atI (xs.map g) i = some (g x) := by
  unfold L2.atI L2.ixN
  rw [List.length_map, if_pos h0, if_pos h1]
  have hi : i.toNat < xs.length := by omega
  refine ⟨xs[i.toNat], List.getElem_mem hi, ?_⟩
  show (xs.map g)[i.toNat]? = _
  rw [List.getElem?_map, List.getElem?_eq_getElem hi]
  rfl
/-- a loop, its turns counted -/
theorem fLoop_invN {s : FS} {ct : CT} {all : List D} {o : Option Nat} (I : Nat → Env → Hy → Prop) (hI : ∀ i ρ h, I i ρ h → srcOk all o h) : ∀ (xs : List D) (i : Nat) (ρ : Env) (h : Hy),
    (∀ j x, xs[j]? = some x → ∀ ρ h, I (i + j) ρ h → ∃ ρ1, ct.store x ρ = some ρ1 ∧ ∃ ρ' h', (s ρ1 h = .nx ρ' h' ∨ s ρ1 h = .ct ρ' h') ∧ I (i + j + 1) ρ' h') → I i ρ h → ∃ ρ' h', fLoop ct s all o xs ρ h = .nx ρ' h' ∧ I (i + xs.length) ρ' h'
  | [], i, ρ, h, _, q => ⟨ρ, h, fLoop_nil (hI _ _ _ q), q⟩
  | x :: xs, i, ρ, h, hs, q => by
    obtain ⟨ρ1, e1, ρ2, h2, e2, i2⟩ := hs 0 x rfl ρ h q
    obtain ⟨ρ3, h3, e3, i3⟩ := fLoop_invN I hI xs (i + 1) ρ2 h2 (fun j y hy ρ h z => by
      have := hs (j + 1) y (by simpa using hy) ρ h (by rw [show i + (j + 1) = i + 1 + j from by omega]; exact z)
      rw [show i + (j + 1) + 1 = i + 1 + j + 1 from by omega] at this
      exact this) i2
    refine ⟨ρ3, h3, ?_, by rw [List.length_cons, show i + (xs.length + 1) = i + 1 + xs.length from by omega]; exact i3⟩
    rw [fLoop]
    rw [if_pos (hI _ _ _ q), e1]
    rcases e2 with e2 | e2
    · show (s ρ1 h).loop _ = _
      rw [e2]; exact e3
    · show (s ρ1 h).loop _ = _
      rw [e2]; exact e3
theorem rangeD_at {n : Nat} : ∀ {lo : Int} {i : Nat} {x : D}, (rangeD lo n)[i]? = some x → x = .int (lo + i) ∧ i < n := by
  induction n with
  | zero => intro lo i x e; simp [rangeD] at e
  | succ n ih =>
    intro lo i x e
    cases i with
    | zero => simp [rangeD] at e; exact ⟨by rw [← e]; simp, Nat.succ_pos _⟩
    | succ i =>
      have e : (rangeD (lo + 1) n)[i]? = some x := by simpa [rangeD] using e
      obtain ⟨a, b⟩ := ih e
      exact ⟨by rw [a]; congr 1; omega, Nat.succ_lt_succ b⟩
theorem set_keep {h : Hy} {m n : Nat} {o u : Ob} (e : h[m]? = some u) (hn : m ≠ n) : (h.set n o)[m]? = some u := by rw [List.getElem?_set_ne (Ne.symm hn)]; exact e
end Px
namespace Px
theorem vw_ref {h : Hy} {n k : Nat} {xs : List D} {ts : List T} (e : h[n]? = some (.lst xs)) (q : xs.mapM (vw h k) = some ts) : vw h (k + 1) (.ref n) = some (.lst ts) := by
  simp only [vw, e, q]
  rfl
@[simp] theorem eqvs_nil : T.eqvs [] [] = true := by simp [T.eqvs]
@[simp] theorem eqvs_cons {a b : T} {xs ys : List T} : T.eqvs (a :: xs) (b :: ys) = (T.eqv a b && T.eqvs xs ys) := by simp [T.eqvs]
@[simp] theorem eqvs_nc {b : T} {ys : List T} : T.eqvs [] (b :: ys) = false := by simp [T.eqvs]
@[simp] theorem eqvs_cn {b : T} {ys : List T} : T.eqvs (b :: ys) [] = false := by simp [T.eqvs]
@[simp] theorem eqv_lst {xs ys : List T} : T.eqv (.lst xs) (.lst ys) = T.eqvs xs ys := by simp [T.eqv]
@[simp] theorem eqv_tup {xs ys : List T} : T.eqv (.tup xs) (.tup ys) = T.eqvs xs ys := by simp [T.eqv]
@[simp] theorem eqv_str {x y : Tx} : T.eqv (.str x) (.str y) = decide (x = y) := by simp [T.eqv]
@[simp] theorem eqv_int {x y : Int} : T.eqv (.int x) (.int y) = decide (x = y) := by simp [T.eqv]
end Px
namespace Px
/-- a new list is walked and thrown away -/
theorem ivK_app {h g : Hy} {i : Nat} {xs : List D} (e : g[i]? = some (.lst xs)) (hl : D.ltAll h.length xs = true) : ivK h (.ref (h.length + i), h ++ g) = .ok ((xs, none), h) := by
  rw [ivK_new (xs := xs) (by rw [hp_last]; exact e) ((Clean.refl h).app g) (by omega) hl, List.take_left]
theorem ivK_app0 {h g : Hy} {xs : List D} (e : g[0]? = some (.lst xs)) (hl : D.ltAll h.length xs = true) : ivK h (.ref h.length, h ++ g) = .ok ((xs, none), h) := ivK_app (i := 0) e hl
theorem sAdd_app {h g : Hy} {m n : Nat} {a b : List D} (e1 : g[m]? = some (.lst a)) (e2 : g[n]? = some (.lst b)) (z : a.length + b.length ≤ 16777216) : sAdd (.ref (h.length + m)) (.ref (h.length + n)) (h ++ g) = .ok (.ref (h.length + g.length), h ++ (g ++ [.lst (a ++ b)])) := by
  rw [sAdd_lst (by rw [hp_last]; exact e1) (by rw [hp_last]; exact e2) z, List.length_append, List.append_assoc]
end Px
namespace Px
@[simp] theorem D.ltAll_app {k : Nat} {ys : List D} : ∀ {xs : List D}, D.ltAll k (xs ++ ys) = (D.ltAll k xs && D.ltAll k ys)
  | [] => by simp
  | x :: xs => by simp [D.ltAll_app (xs := xs), Bool.and_assoc]
end Px
namespace Px
/-- a loop that folds: env and heap hang on what is folded -/
theorem fLoop_fold {γ β : Type} {s : FS} {i : Nat} {all : List D} {o : Option Nat} (P : γ → Prop) (mk : β → D) (env : γ → Option D → Env) (hp : γ → Hy) (step : γ → β → γ)
    (src : ∀ a, P a → srcOk all o (hp a)) (hset : ∀ a u v, (env a u).set i v = env a v) : ∀ (xs : List β),
    (∀ a x, P a → x ∈ xs → s (env a (some (mk x))) (hp a) = .nx (env (step a x) (some (mk x))) (hp (step a x)) ∧ P (step a x)) → ∀ a u, P a →
    ∃ v, fLoop (.one i) s all o (xs.map mk) (env a u) (hp a) = .nx (env (xs.foldl step a) v) (hp (xs.foldl step a)) ∧ P (xs.foldl step a)
  | [], _, a, u, p => ⟨u, fLoop_nil (src a p), p⟩
  | x :: xs, hb, a, u, p => by
    obtain ⟨e, p2⟩ := hb a x p (by simp)
    obtain ⟨v, e2, p3⟩ := fLoop_fold P mk env hp step src hset xs (fun a y p hy => hb a y p (List.mem_cons_of_mem _ hy)) (step a x) (some (mk x)) p2
    refine ⟨v, ?_, p3⟩
    rw [List.map_cons, fLoop_cons (src a p), hset, e, RS.loop_nx]
    exact e2
/-- a comprehension whose elements write to the heap -/
theorem cLoop_invN {i : Nat} {f : FE} {ρ : Env} {all : List D} {o : Option Nat} (I : Nat → Hy → Prop) (P : D → Prop) (src : ∀ j h, I j h → srcOk all o h) : ∀ (xs : List D) (j : Nat) (h : Hy),
    (∀ k x, xs[k]? = some x → ∀ h, I (j + k) h → ∃ y h', f (ρ.set i (some x)) h = .ok (y, h') ∧ P y ∧ I (j + k + 1) h') → I j h →
    ∃ ys h', cLoop (.one i) tTrue f ρ all o xs h = .ok (ys, h') ∧ ys.length = xs.length ∧ (∀ y ∈ ys, P y) ∧ I (j + xs.length) h'
  | [], j, h, _, q => by
    refine ⟨[], h, ?_, rfl, by simp, q⟩
    unfold cLoop
    rw [if_pos (src j h q)]
  | x :: xs, j, h, hb, q => by
    obtain ⟨y, h1, e, py, q1⟩ := hb 0 x rfl h q
    obtain ⟨ys, h2, e2, l2, p2, q2⟩ := cLoop_invN I P src xs (j + 1) h1 (fun k z hz h w => by
      have := hb (k + 1) z (by simpa using hz) h (by rw [show j + (k + 1) = j + 1 + k from by omega]; exact w)
      rw [show j + (k + 1) + 1 = j + 1 + k + 1 from by omega] at this
      exact this) q1
    refine ⟨y :: ys, h2, ?_, by simp [l2], by simpa using ⟨py, p2⟩, by rw [List.length_cons, show j + (xs.length + 1) = j + 1 + xs.length from by omega]; exact q2⟩
    rw [cLoop]
    rw [if_pos (src j h q)]
    simp only [store_one, tTrue_ev, R.calm, R.bind_ok, if_true, e, e2]
@[simp] theorem gIsi_tup {T : String} {xs : List D} {h : Hy} : gIsi T [.tup xs] h = .ok (.bl ("tuple" == T || ("tuple" == "bool" && T == "int")), h) := rfl
@[simp] theorem gIsi_bl {T : String} {b : Bool} {h : Hy} : gIsi T [.bl b] h = .ok (.bl ("bool" == T || ("bool" == "bool" && T == "int")), h) := rfl
@[simp] theorem gIsi_non {T : String} {h : Hy} : gIsi T [.non] h = .ok (.bl ("NoneType" == T || ("NoneType" == "bool" && T == "int")), h) := rfl
@[simp] theorem gIsi_fl {T : String} {xs : List D} {h : Hy} : gIsi T [.fl xs] h = .ok (.bl ("list" == T || ("list" == "bool" && T == "int")), h) := rfl
@[simp] theorem gOrd_ch {c : Char} {h : Hy} : gOrd [.str [c]] h = .ok (.int c.toNat, h) := rfl
@[simp] theorem gTupleG_str {s : Tx} {h : Hy} : gTupleG [.str s] h = if s.length ≤ 16777216 then .ok (.tup (s.map fun c => D.str [c]), h) else .stuck := rfl
@[simp] theorem gTupleG_tup {xs : List D} {h : Hy} : gTupleG [.tup xs] h = .ok (.tup xs, h) := rfl
theorem gTupleG_ref {n : Nat} {xs : List D} {h : Hy} (e : h[n]? = some (.lst xs)) : gTupleG [.ref n] h = .ok (.tup xs, h) := by
  show gTuple [.ref n] h = _
  unfold gTuple items
  simp only [e]
@[simp] theorem mJoinG_str {s t : Tx} {h : Hy} : mJoinG (.str s) [.str t] h = if t.length + t.length * s.length ≤ 16777216 then .ok (.str (joinT s (t.map fun c => [c])), h) else .stuck := rfl
theorem mJoinG_tup {h : Hy} {s : Tx} {ts : List Tx} (z : (ts.map List.length).sum + ts.length * s.length ≤ 16777216) : mJoinG (.str s) [.tup (ts.map D.str)] h = .ok (.str (joinT s ts), h) := by
  show mJoin (.str s) [.tup (ts.map D.str)] h = _
  unfold mJoin items
  simp only [Option.bind_some, mapM_str]
  rw [if_pos z]
theorem mAppend_ref {h : Hy} {n : Nat} {xs : List D} {y : D} (e : h[n]? = some (.lst xs)) (z : xs.length < 16777216) : mAppend (.ref n) [y] h = .ok (.non, h.set n (.lst (xs ++ [y]))) := by
  unfold mAppend
  simp only [e]
  rw [if_pos z]
theorem isLst_ref {h : Hy} {n : Nat} {xs : List D} (e : h[n]? = some (.lst xs)) : isLst h (.ref n) = true := by
  unfold isLst
  simp only [e]
end Px
namespace Px
/-- behind a call that wrote to b alone (of what stood ahead) -/
theorem out_part {x : D} {h h1 : Hy} {b : Nat} {o : Ob} (hx : x.lt h.length = true) (hb : b < h.length) (k : ∀ m, m < h.length → m ≠ b → h1[m]? = h[m]?) (e : h1[b]? = some o) (ho : o.lt h.length = true) (hl : h.length ≤ h1.length) :
    (RS.rt x h1).out h = .ok (x, h1.take h.length) ∧ (∀ m, m ≠ b → (h1.take h.length)[m]? = h[m]?) ∧ (h1.take h.length)[b]? = some o ∧ (h1.take h.length).length = h.length := by
  refine ⟨out_rt_clean hx fun i hi => ?_, fun m hm => ?_, ?_, by rw [List.length_take]; omega⟩
  · by_cases q : i = b
    · subst q
      exact ⟨o, e, .inr ho⟩
    · exact ⟨h[i], by rw [k i hi q, List.getElem?_eq_getElem hi], .inl (List.getElem?_eq_getElem hi)⟩
  · by_cases q : m < h.length
    · rw [List.getElem?_take_of_lt q]
      exact k m q hm
    · rw [List.getElem?_eq_none (by rw [List.length_take]; omega), List.getElem?_eq_none (by omega)]
  · rw [List.getElem?_take_of_lt hb]
    exact e
theorem joinT_signs : ∀ cs : Tx, joinT [] (cs.map fun c => [c]) = cs
  | [] => rfl
  | [c] => rfl
  | c :: d :: r => by
    show [c] ++ [] ++ joinT [] ((d :: r).map fun c => [c]) = _
    rw [joinT_signs (d :: r)]
    rfl
theorem all_signs {P : Char → Prop} : ∀ ys : List D, (∀ y ∈ ys, ∃ c, y = .str [c] ∧ P c) → ∃ cs : Tx, ys = cs.map (fun c => D.str [c]) ∧ (∀ c ∈ cs, P c) ∧ cs.length = ys.length
  | [], _ => ⟨[], rfl, by simp, rfl⟩
  | y :: ys, h => by
    obtain ⟨c, rfl, pc⟩ := h y (by simp)
    obtain ⟨cs, rfl, pcs, l⟩ := all_signs ys fun z hz => h z (List.mem_cons_of_mem _ hz)
    refine ⟨c :: cs, rfl, fun z hz => ?_, by rw [List.length_cons, List.length_cons, l]⟩
    rcases List.mem_cons.mp hz with rfl | hz
    · exact pc
    · exact pcs z hz
end Px
namespace Px
theorem sum_signs : ∀ cs : Tx, (List.map List.length (cs.map fun c => [c])).sum = cs.length
  | [] => rfl
  | c :: cs => by
    simp only [List.map_cons, List.sum_cons, List.length_cons, sum_signs cs, List.length_nil]
    omega
end Px
namespace Px
@[simp] theorem D.ltAll_chars {k : Nat} : ∀ {s : Tx}, D.ltAll k (s.map fun c => D.str [c]) = true
  | [] => by simp
  | c :: s => by simp [D.ltAll_chars (s := s)]
end Px
namespace Px
mutual
theorem D.sh_pure {k : Nat} : ∀ {d : D}, d.lt 0 = true → d.sh k = d
  | .non, _ => by simp
  | .bl _, _ => by simp
  | .int _, _ => by simp
  | .str _, _ => by simp
  | .fn _, _ => by simp [D.sh]
  | .ref _, h => by simp at h
  | .tup xs, h => by simp only [D.sh]; rw [D.shs_pure (by simpa using h)]
  | .fl xs, h => by simp only [D.sh]; rw [D.shs_pure (by simpa using h)]
theorem D.shs_pure {k : Nat} : ∀ {xs : List D}, D.ltAll 0 xs = true → D.shs k xs = xs
  | [], _ => by simp
  | x :: xs, h => by
    simp only [D.ltAll_cons, Bool.and_eq_true] at h
    simp only [D.shs_cons]
    rw [D.sh_pure h.1, D.shs_pure h.2]
end
/-- a new list of pure things is given back -/
theorem lift_rt_lst {h h1 : Hy} {m : Nat} {xs : List D} (e : h1[m]? = some (.lst xs)) (hx : D.ltAll 0 xs = true) : lift h ((RS.rt (.ref m) h1).out []) = .ok (.ref h.length, h ++ [.lst xs]) := by
  rw [out_rt_lst e hx, lift_lst, D.shs_pure hx]
  simp
theorem D.lt_mono {d : D} (h : d.lt 0 = true) {k : Nat} : d.lt k = true := by
  have e := D.sh_pure (k := k) h
  exact lt_of_pure h
where
  lt_of_pure {k : Nat} : ∀ {d : D}, d.lt 0 = true → d.lt k = true
  | .non, _ => by simp
  | .bl _, _ => by simp
  | .int _, _ => by simp
  | .str _, _ => by simp
  | .fn _, _ => by simp
  | .ref _, h => by simp at h
  | .tup xs, h => by simp only [D.lt]; exact all_of_pure (by simpa using h)
  | .fl xs, h => by simp only [D.lt]; exact all_of_pure (by simpa using h)
  all_of_pure {k : Nat} : ∀ {xs : List D}, D.ltAll 0 xs = true → D.ltAll k xs = true
  | [], _ => by simp
  | x :: xs, h => by
    simp only [D.ltAll_cons, Bool.and_eq_true] at h ⊢
    exact ⟨lt_of_pure h.1, all_of_pure h.2⟩
end Px
namespace Px
theorem cut_mid {α : Type} {xs : List α} {a m : Int} (a0 : 0 ≤ a) (m0 : 0 ≤ m) : cut xs (some a) (some (a + m)) = (xs.drop a.toNat).take m.toNat := by
  unfold cut HT.sIx
  simp only
  rw [if_neg (by omega), if_neg (by omega)]
  have e : (a + m).toNat = a.toNat + m.toNat := by omega
  rw [e]
  by_cases h : a.toNat ≤ xs.length
  · rw [Nat.min_eq_left h]
    by_cases h2 : a.toNat + m.toNat ≤ xs.length
    · rw [Nat.min_eq_left h2, Nat.add_sub_cancel_left]
    · rw [Nat.min_eq_right (by omega), List.take_of_length_le (by rw [List.length_drop]; omega), List.take_of_length_le (by rw [List.length_drop]; omega)]
  · rw [Nat.min_eq_right (show xs.length ≤ a.toNat by omega), List.drop_of_length_le (Nat.le_refl _), List.drop_of_length_le (show xs.length ≤ a.toNat by omega)]
    simp
end Px
namespace Px
section
variable {f : FD} {ta tk : FA} {ρ : Env} {h : Hy} {xs ys dd : List D}
def ckK2 (f : FD) (xs : List D) (q : List D × Hy) : R (D × Hy) := f (xs ++ q.1) q.2
def ckK (f : FD) (tk : FA) (ρ : Env) (p : List D × Hy) : R (D × Hy) := (tk ρ p.2).bind (ckK2 f p.1)
@[simp] theorem eCallK_ev : eCallK f ta tk ρ h = (ta ρ h).bind (ckK f tk ρ) := rfl
@[simp] theorem ckK_ev : ckK f tk ρ (xs, h) = (tk ρ h).bind (ckK2 f xs) := rfl
@[simp] theorem ckK2_ev : ckK2 f xs (ys, h) = f (xs ++ ys) h := rfl
def cdK (f : FD) (dd : List D) (p : List D × Hy) : R (D × Hy) := f (p.1 ++ dd) p.2
@[simp] theorem eCallD_ev : eCallD f dd ta ρ h = (ta ρ h).bind (cdK f dd) := rfl
@[simp] theorem cdK_ev : cdK f dd (xs, h) = f (xs ++ dd) h := rfl
theorem gIsi_ref {T : String} {n : Nat} (e : h[n]? = some (.lst xs)) : gIsi T [.ref n] h = .ok (.bl ("list" == T || ("list" == "bool" && T == "int")), h) := by
  unfold gIsi tyOf
  simp only [e]
theorem mReverse_ref {n : Nat} (e : h[n]? = some (.lst xs)) : mReverse (.ref n) [] h = .ok (.non, h.set n (.lst xs.reverse)) := by
  unfold mReverse
  simp only [e]
theorem mapM_all {α β γ : Type} {g : α → β} {f : β → Option γ} {k : α → γ} : ∀ l : List α, (∀ x ∈ l, f (g x) = some (k x)) → (l.map g).mapM f = some (l.map k)
  | [], _ => rfl
  | x :: l, h => by
    simp only [List.map_cons, List.mapM_cons]
    rw [h x (by simp), mapM_all l fun y hy => h y (List.mem_cons_of_mem _ hy)]
    rfl
theorem gRepr_of {x : D} {t : T} (e : vw h 24 x = some t) (s : t.shw = true) (l : t.rtx.length ≤ 16777216) : gRepr [x] h = .ok (.str t.rtx, h) := by
  unfold gRepr
  simp only [e]
  rw [if_pos ⟨s, l⟩]
end
end Px
namespace Px
/-! ## what holds behind: rules from the head of the question -/
abbrev NE : String → Option D → Hy → Prop := fun _ _ _ => False
theorem ok_of {α : Type} {r : R α} {a : α} (g : Good r (fun x => x = a) NE) : r = .ok a := by
  cases r with
  | ok b => exact congrArg R.ok g
  | exc c d h => exact g.elim
  | stuck => exact g.elim
theorem ex_of {α : Type} {r : R α} {P : α → Prop} (g : Good r P NE) : ∃ a, r = .ok a ∧ P a := by
  cases r with
  | ok b => exact ⟨b, rfl, g⟩
  | exc c d h => exact g.elim
  | stuck => exact g.elim
section
variable {α β : Type} {E : String → Option D → Hy → Prop} {ρ : Env} {h : Hy} {fa fb fc f fo : FE} {g g' : D → D → Hy → R (D × Hy)} {g1 : D → Hy → R (D × Hy)} {t t' : FT} {ra rk : FA} {Q : D × Hy → Prop} {QB : Bool × Hy → Prop} {QA : List D × Hy → Prop} {QO : Option Int × Hy → Prop} {QI : (List D × Option Nat) × Hy → Prop} {d x y : D}
theorem gd_of {r : R α} {a : α} {Q : α → Prop} (e : r = .ok a) (q : Q a) : Good r Q E := by rw [e]; exact q
theorem gd_ok {a : α} {Q : α → Prop} (q : Q a) : Good (.ok a) Q E := q
theorem gd_bind {r : R α} {f : α → R β} {Q : β → Prop} (q : Good r (fun a => Good (f a) Q E) E) : Good (r.bind f) Q E := by cases r <;> exact q
theorem gd_if {c : Prop} [Decidable c] {r r' : R α} {Q : α → Prop} (hc : c) (q : Good r Q E) : Good (if c then r else r') Q E := by rw [if_pos hc]; exact q
theorem gd_var {i : Nat} (e : ρ[i]? = some (some d)) (q : Q (d, h)) : Good (eVar i ρ h) Q E := by unfold eVar; rw [e]; exact q
theorem gd_c (q : Q (d, h)) : Good (eC d ρ h) Q E := q
theorem gd_bin (q : Good (fa ρ h) (fun p => Good (fb ρ p.2) (fun r => Good (g p.1 r.1 r.2) Q E) E) E) : Good (bin g fa fb ρ h) Q E := gd_bind (q.mono (fun _ z => gd_bind z) fun _ _ _ z => z)
theorem gd_un (q : Good (fa ρ h) (fun p => Good (g1 p.1 p.2) Q E) E) : Good (un g1 fa ρ h) Q E := gd_bind q
def onB (d : D) (A : Bool → Prop) : Prop := match d with
  | .bl b => A b
  | _ => False
theorem ob_bl {b : Bool} {A : Bool → Prop} (a : A b) : onB (.bl b) A := a
theorem ob_use {d : D} {A : Bool → Prop} (h : onB d A) : ∃ b, d = .bl b ∧ A b := by
  cases d <;> first | exact ⟨_, rfl, h⟩ | exact h.elim
theorem gd_chain (q : Good (fa ρ h) (fun p => Good (fb ρ p.2) (fun r => Good (g p.1 r.1 r.2) (fun s => onB s.1 fun b => if b = true then Good (fc ρ s.2) (fun z => Good (g' r.1 z.1 z.2) Q E) E else Q (.bl false, s.2)) E) E) E) : Good (chain g g' fa fb fc ρ h) Q E := by
  refine gd_bind (q.mono (fun p z => gd_bind (z.mono (fun r z => gd_bind (z.mono (fun s z => ?_) fun _ _ _ z => z)) fun _ _ _ z => z)) fun _ _ _ z => z)
  obtain ⟨b, e, z⟩ := ob_use z
  rw [e]
  cases b with
  | true => exact gd_bind (by simpa using z)
  | false => exact gd_ok (by simpa using z)
theorem gd_bOf (q : Good (f ρ h) (fun p => onB p.1 fun b => QB (b, p.2)) E) : Good (bOf f ρ h) QB E := gd_bind (q.mono (fun p z => by obtain ⟨b, e, z⟩ := ob_use z; rw [e]; exact z) fun _ _ _ z => z)
theorem gd_tAnd (q : Good (t ρ h) (fun p => if p.1 = true then Good (t' ρ p.2) QB E else QB (false, p.2)) E) : Good (tAnd t t' ρ h) QB E := gd_bind (q.mono (fun p z => by
  cases e : p.1 with
  | true => rw [e] at z; simpa using z
  | false => rw [e] at z; exact gd_ok (by simpa using z)) fun _ _ _ z => z)
theorem gd_tOr (q : Good (t ρ h) (fun p => if p.1 = true then QB (true, p.2) else Good (t' ρ p.2) QB E) E) : Good (tOr t t' ρ h) QB E := gd_bind (q.mono (fun p z => by
  cases e : p.1 with
  | true => rw [e] at z; exact gd_ok (by simpa using z)
  | false => rw [e] at z; simpa using z) fun _ _ _ z => z)
theorem gd_tNot (q : Good (t ρ h) (fun p => QB (!p.1, p.2)) E) : Good (tNot t ρ h) QB E := gd_bind q
theorem gd_tTrue (q : QB (true, h)) : Good (tTrue ρ h) QB E := q
theorem gd_eAnd (q : Good (fa ρ h) (fun p => onB p.1 fun b => if b = true then Good (fb ρ p.2) Q E else Q (.bl false, p.2)) E) : Good (eAnd fa fb ρ h) Q E := gd_bind (q.mono (fun p z => by
  obtain ⟨b, e, z⟩ := ob_use z
  rw [e]
  cases b with
  | true => simpa using z
  | false => exact gd_ok (by simpa using z)) fun _ _ _ z => z)
theorem gd_eOr (q : Good (fa ρ h) (fun p => onB p.1 fun b => if b = true then Q (.bl true, p.2) else Good (fb ρ p.2) Q E) E) : Good (eOr fa fb ρ h) Q E := gd_bind (q.mono (fun p z => by
  obtain ⟨b, e, z⟩ := ob_use z
  rw [e]
  cases b with
  | true => exact gd_ok (by simpa using z)
  | false => simpa using z) fun _ _ _ z => z)
theorem gd_eNot (q : Good (fa ρ h) (fun p => onB p.1 fun b => Q (.bl (!b), p.2)) E) : Good (eNot fa ρ h) Q E := gd_bind (q.mono (fun p z => by
  obtain ⟨b, e, z⟩ := ob_use z
  rw [e]; exact z) fun _ _ _ z => z)
theorem gd_eIf (q : Good (t ρ h) (fun p => if p.1 = true then Good (fa ρ p.2) Q E else Good (fb ρ p.2) Q E) E) : Good (eIf t fa fb ρ h) Q E := gd_bind (q.mono (fun p z => by
  cases e : p.1 with
  | true => rw [e] at z; simpa using z
  | false => rw [e] at z; simpa using z) fun _ _ _ z => z)
theorem gd_aNil (q : QA ([], h)) : Good (aNil ρ h) QA E := q
theorem gd_aCons (q : Good (f ρ h) (fun p => Good (ra ρ p.2) (fun r => QA (p.1 :: r.1, r.2)) E) E) : Good (aCons f ra ρ h) QA E := gd_bind (q.mono (fun _ z => gd_bind z) fun _ _ _ z => z)
theorem gd_mkTup {xs : List D} (z : xs.length ≤ 16777216) (q : Q (.tup xs, h)) : Good (mkTup xs h) Q E := by unfold mkTup; rw [if_pos z]; exact q
theorem gd_mkLst {xs : List D} (z : xs.length ≤ 16777216) (q : Good (new (.lst xs) h) Q E) : Good (mkLst xs h) Q E := by unfold mkLst; rw [if_pos z]; exact q
theorem gd_eTup (q : Good (ra ρ h) (fun p => Good (mkTup p.1 p.2) Q E) E) : Good (eTup ra ρ h) Q E := gd_bind q
theorem gd_eLst (q : Good (ra ρ h) (fun p => Good (mkLst p.1 p.2) Q E) E) : Good (eLst ra ρ h) Q E := gd_bind q
theorem gd_eCall {k : List D → Hy → R (D × Hy)} (q : Good (ra ρ h) (fun p => Good (k p.1 p.2) Q E) E) : Good (eCall k ra ρ h) Q E := gd_bind q
theorem gd_eCallD {k : FD} {dd : List D} (q : Good (ra ρ h) (fun p => Good (k (p.1 ++ dd) p.2) Q E) E) : Good (eCallD k dd ra ρ h) Q E := gd_bind q
theorem gd_eCallK {k : FD} (q : Good (ra ρ h) (fun p => Good (rk ρ p.2) (fun r => Good (k (p.1 ++ r.1) r.2) Q E) E) E) : Good (eCallK k ra rk ρ h) Q E := gd_bind (q.mono (fun _ z => gd_bind z) fun _ _ _ z => z)
def onI (d : D) (A : Int → Prop) : Prop := match d with
  | .int b => A b
  | _ => False
theorem oi_int {i : Int} {A : Int → Prop} (a : A i) : onI (.int i) A := a
theorem oi_use {d : D} {A : Int → Prop} (h : onI d A) : ∃ b, d = .int b ∧ A b := by
  cases d <;> first | exact ⟨_, rfl, h⟩ | exact h.elim
theorem gd_oNone (q : QO (none, h)) : Good (oNone ρ h) QO E := q
theorem gd_oSome (q : Good (f ρ h) (fun p => onI p.1 fun i => QO (some i, p.2)) E) : Good (oSome f ρ h) QO E := gd_bind (q.mono (fun p z => by obtain ⟨b, e, z⟩ := oi_use z; rw [e]; exact z) fun _ _ _ z => z)
theorem gd_eCut {lo hi : FO} (q : Good (f ρ h) (fun p => Good (lo ρ p.2) (fun r => Good (hi ρ r.2) (fun s => Good (sCut p.1 r.1 s.1 s.2) Q E) E) E) E) : Good (eCut f lo hi ρ h) Q E := gd_bind (q.mono (fun _ z => gd_bind (z.mono (fun _ z => gd_bind z) fun _ _ _ z => z)) fun _ _ _ z => z)
theorem gd_eCutK {lo hi : FO} {k : FE} (q : Good (f ρ h) (fun p => Good (lo ρ p.2) (fun r => Good (hi ρ r.2) (fun s => Good (k ρ s.2) (fun z => onI z.1 fun i => Good (sCutK p.1 r.1 s.1 i z.2) Q E) E) E) E) E) : Good (eCutK f lo hi k ρ h) Q E :=
  gd_bind (q.mono (fun _ z => gd_bind (z.mono (fun _ z => gd_bind (z.mono (fun _ z => gd_bind (z.mono (fun p z => by obtain ⟨b, e, z⟩ := oi_use z; rw [e]; exact z) fun _ _ _ z => z)) fun _ _ _ z => z)) fun _ _ _ z => z)) fun _ _ _ z => z)
def onS (d : D) (A : Tx → Prop) : Prop := match d with
  | .str b => A b
  | _ => False
theorem os_str {s : Tx} {A : Tx → Prop} (a : A s) : onS (.str s) A := a
theorem os_use {d : D} {A : Tx → Prop} (h : onS d A) : ∃ b, d = .str b ∧ A b := by
  cases d <;> first | exact ⟨_, rfl, h⟩ | exact h.elim
theorem gd_eM0 {m : D → List D → Hy → R (D × Hy)} (q : Good (fo ρ h) (fun p => onS p.1 fun s => Good (m (.str s) [] p.2) Q E) E) : Good (eM0 m fo ρ h) Q E := gd_bind (q.mono (fun p z => by obtain ⟨b, e, z⟩ := os_use z; rw [e]; exact z) fun _ _ _ z => z)
theorem gd_eM1 {m : D → List D → Hy → R (D × Hy)} (q : Good (fo ρ h) (fun p => onS p.1 fun s => Good (fa ρ p.2) (fun r => Good (m (.str s) [r.1] r.2) Q E) E) E) : Good (eM1 m fo fa ρ h) Q E := gd_bind (q.mono (fun p z => by obtain ⟨b, e, z⟩ := os_use z; rw [e]; exact gd_bind z) fun _ _ _ z => z)
theorem gd_eL0 {m : D → List D → Hy → R (D × Hy)} (q : Good (fo ρ h) (fun p => isLst p.2 p.1 = true ∧ Good (m p.1 [] p.2) Q E) E) : Good (eL0 m fo ρ h) Q E := gd_bind (q.mono (fun p z => by rw [if_pos z.1]; exact z.2) fun _ _ _ z => z)
theorem gd_eL1 {m : D → List D → Hy → R (D × Hy)} (q : Good (fo ρ h) (fun p => isLst p.2 p.1 = true ∧ Good (ra ρ p.2) (fun r => Good (m p.1 r.1 r.2) Q E) E) E) : Good (eL1 m fo ra ρ h) Q E := gd_bind (q.mono (fun p z => by rw [if_pos z.1]; exact gd_bind z.2) fun _ _ _ z => z)
theorem gd_jNil {acc : Tx} (q : Q (.str acc, h)) : Good (jNil acc ρ h) Q E := q
theorem gd_jCons {k : Tx → FE} {acc : Tx} (q : Good (f ρ h) (fun p => onS p.1 fun s => acc.length + s.length ≤ 16777216 ∧ Good (k (acc ++ s) ρ p.2) Q E) E) : Good (jCons f k acc ρ h) Q E := gd_bind (q.mono (fun p z => by obtain ⟨b, e, z⟩ := os_use z; rw [e]; exact gd_if z.1 z.2) fun _ _ _ z => z)
theorem gd_eJoined {k : Tx → FE} (q : Good (k [] ρ h) Q E) : Good (eJoined k ρ h) Q E := q
theorem gd_fmtS {s : Tx} (q : Good (f ρ h) (fun p => Good (fmtK p) Q E) E) : Good (eFmt f ρ h) Q E := gd_bind q
theorem gd_iVal (q : Good (f ρ h) (fun p => Good (ivK h p) QI E) E) : Good (iVal f ρ h) QI E := gd_bind q
theorem gd_iRange1 (q : Good (ra ρ h) (fun p => Good (rg1K p) QI E) E) : Good (iRange1 ra ρ h) QI E := gd_bind q
theorem gd_iRange2 (q : Good (ra ρ h) (fun p => Good (rg2K p) QI E) E) : Good (iRange2 ra ρ h) QI E := gd_bind q
theorem gd_iEnum (q : Good (f ρ h) (fun p => Good (match p.1 with
  | .tup xs => .ok ((numbered 0 xs, none), p.2)
  | .fl xs => .ok ((numbered 0 xs, none), p.2)
  | .ref n => match p.2[n]? with
    | some (.lst xs) => if Clean h p.2 ∧ h.length ≤ n ∧ D.ltAll h.length xs = true then R.ok ((numbered 0 xs, none), p.2.take h.length) else .stuck
    | _ => .stuck
  | _ => .stuck) QI E) E) : Good (iEnum2 f ρ h) QI E := gd_bind q
theorem gd_eDnew (q : Good (new (.dic []) h) Q E) : Good (eDnew ρ h) Q E := q
theorem gd_eComp {vs : List Nat} {fi : FI} {ct : CT} {tt : FT} {te : FE} (q : Good (fi ρ h) (fun p => p.1.1.length ≤ 16777216 ∧ Good (cLoop ct tt te (wipeE ρ vs) p.1.1 p.1.2 p.1.1 p.2) (fun r => Good (new (.lst r.1) r.2) Q E) E) E) : Good (eComp vs fi ct tt te ρ h) Q E :=
  gd_bind (q.mono (fun p z => by rw [if_pos z.1]; exact gd_bind z.2) fun _ _ _ z => z)
theorem gd_eComp2 {vs vs1 : List Nat} {fi fi1 : FI} {ct ct1 : CT} {tt tt1 : FT} {te : FE} (q : Good (fi ρ h) (fun p => Good (c2Loop ct tt fi1 ct1 tt1 te vs1 (wipeE ρ vs) p.1.1 p.1.2 p.1.1 0 p.2) (fun r => Good (new (.lst r.1) r.2) Q E) E) E) : Good (eComp2 vs fi ct tt vs1 fi1 ct1 tt1 te ρ h) Q E :=
  gd_bind (q.mono (fun p z => gd_bind z) fun _ _ _ z => z)
/-! ### operators -/
theorem gd_addI {i j : Int} (q : Q (.int (i + j), h)) : Good (sAdd (.int i) (.int j) h) Q E := q
theorem gd_addS {a b : Tx} (z : a.length + b.length ≤ 16777216) (q : Q (.str (a ++ b), h)) : Good (sAdd (.str a) (.str b) h) Q E := by rw [sAdd_str]; exact gd_if z q
theorem gd_addT {a b : List D} (z : a.length + b.length ≤ 16777216) (q : Q (.tup (a ++ b), h)) : Good (sAdd (.tup a) (.tup b) h) Q E := by rw [sAdd_tup]; exact gd_if z q
theorem gd_addL {m n : Nat} {a b : List D} (e1 : h[m]? = some (.lst a)) (e2 : h[n]? = some (.lst b)) (z : a.length + b.length ≤ 16777216) (q : Good (new (.lst (a ++ b)) h) Q E) : Good (sAdd (.ref m) (.ref n) h) Q E := by rw [sAdd_lst e1 e2 z]; exact q
theorem gd_subI {i j : Int} (q : Q (.int (i - j), h)) : Good (sSub (.int i) (.int j) h) Q E := q
theorem gd_mulI {i j : Int} (z : (-115792089237316195423570985008687907853269984665640564039457584007913129639936 < i ∧ i < 115792089237316195423570985008687907853269984665640564039457584007913129639936) ∧ -115792089237316195423570985008687907853269984665640564039457584007913129639936 < j ∧ j < 115792089237316195423570985008687907853269984665640564039457584007913129639936) (q : Q (.int (i * j), h)) : Good (sMul (.int i) (.int j) h) Q E := by
  rw [sMul_int, if_pos ⟨z.1.1, z.1.2, z.2.1, z.2.2⟩]; exact q
theorem gd_mulS {s : Tx} {k : Int} (z : s.length * k.toNat ≤ 16777216) (z1 : -9000000000000000000 < k) (z2 : k < 9000000000000000000) (q : Q (.str (List.replicate k.toNat s).flatten, h)) : Good (sMul (.str s) (.int k) h) Q E := by
  unfold sMul; exact gd_if ⟨z, z1, z2⟩ q
theorem gd_mulL {m : Nat} {a : List D} {k : Int} (e : h[m]? = some (.lst a)) (z : a.length * k.toNat ≤ 16777216) (z1 : -9000000000000000000 < k) (z2 : k < 9000000000000000000) (q : Good (new (.lst (List.replicate k.toNat a).flatten) h) Q E) : Good (sMul (.ref m) (.int k) h) Q E := by
  unfold sMul; simp only [e]; exact gd_if ⟨z, z1, z2⟩ q
theorem gd_fdivI {i j : Int} (z : 0 < j ∧ j < 115792089237316195423570985008687907853269984665640564039457584007913129639936) (q : Q (.int (i / j), h)) : Good (sFdiv (.int i) (.int j) h) Q E := by rw [sFdiv_int, if_pos z]; exact q
theorem gd_modI {i j : Int} (z : 0 < j) (q : Q (.int (i % j), h)) : Good (sMod (.int i) (.int j) h) Q E := by rw [sMod_int, if_pos z]; exact q
theorem gd_powI {i j : Int} (z : 0 ≤ j ∧ j ≤ 1000000 ∧ -18446744073709551616 < i ∧ i < 18446744073709551616) (q : Q (.int (i ^ j.toNat), h)) : Good (sPow (.int i) (.int j) h) Q E := by rw [sPow_int, if_pos z]; exact q
theorem gd_negI {i : Int} (q : Q (.int (-i), h)) : Good (sNeg (.int i) h) Q E := q
theorem gd_ltI {i j : Int} (q : Q (.bl (decide (i < j)), h)) : Good (sLt (.int i) (.int j) h) Q E := q
theorem gd_leI {i j : Int} (q : Q (.bl (decide (i ≤ j)), h)) : Good (sLe (.int i) (.int j) h) Q E := q
theorem gd_gtI {i j : Int} (q : Q (.bl (decide (j < i)), h)) : Good (sGt (.int i) (.int j) h) Q E := q
theorem gd_geI {i j : Int} (q : Q (.bl (decide (j ≤ i)), h)) : Good (sGe (.int i) (.int j) h) Q E := q
theorem gd_eqI {i j : Int} (q : Q (.bl (decide (i = j)), h)) : Good (sEq (.int i) (.int j) h) Q E := q
theorem gd_neI {i j : Int} (q : Q (.bl (!decide (i = j)), h)) : Good (sNe (.int i) (.int j) h) Q E := q
theorem gd_eqS {i j : Tx} (q : Q (.bl (decide (i = j)), h)) : Good (sEq (.str i) (.str j) h) Q E := q
theorem gd_neS {i j : Tx} (q : Q (.bl (!decide (i = j)), h)) : Good (sNe (.str i) (.str j) h) Q E := q
theorem gd_eqV {a b : T} (e1 : vw h 24 x = some a) (e2 : vw h 24 y = some b) (q : Q (.bl (T.eqv a b), h)) : Good (sEq x y h) Q E := by rw [sEq_vw e1 e2]; exact q
theorem gd_neV {a b : T} (e1 : vw h 24 x = some a) (e2 : vw h 24 y = some b) (q : Q (.bl (!T.eqv a b), h)) : Good (sNe x y h) Q E := by rw [sNe_vw e1 e2]; exact q
theorem gd_isN (q : Q (.bl x.isNon, h)) : Good (sIs x .non h) Q E := by rw [sIs_non]; exact q
theorem gd_inC {c : Char} {s : Tx} (q : Q (.bl (decide (c ∈ s)), h)) : Good (sIn (.str [c]) (.str s) h) Q E := q
theorem gd_ninC {c : Char} {s : Tx} (q : Q (.bl (!decide (c ∈ s)), h)) : Good (sNotIn (.str [c]) (.str s) h) Q E := q
theorem gd_inT {s : Tx} {xs : List D} {ss : List Tx} (e : xs = ss.map D.str) (q : Q (.bl (decide (s ∈ ss)), h)) : Good (sIn (.str s) (.tup xs) h) Q E := by
  refine gd_of ?_ q
  subst e
  have v : ∀ ss : List Tx, (ss.map D.str).mapM (vw h 23) = some (ss.map T.str) := fun ss => by
    induction ss with
    | nil => rfl
    | cons s ss ih => simp only [List.map_cons, List.mapM_cons, ih]; rfl
  have a : ∀ ss : List Tx, ((ss.map T.str).any fun z => T.eqv z (.str s)) = decide (s ∈ ss) := fun ss => by
    induction ss with
    | nil => rfl
    | cons u ss ih =>
      rw [List.map_cons, List.any_cons, ih]
      simp only [eqv_str, List.mem_cons]
      by_cases e : u = s
      · simp [e]
      · have e2 : ¬ s = u := fun z => e z.symm
        simp [e, e2]
  unfold sIn isIn
  simp only [vw, v, Option.map_some, a]
theorem gd_inTI {s : Int} {xs : List D} {ss : List Int} (e : xs = ss.map D.int) (q : Q (.bl (decide (s ∈ ss)), h)) : Good (sIn (.int s) (.tup xs) h) Q E := by
  refine gd_of ?_ q
  subst e
  have v : ∀ ss : List Int, (ss.map D.int).mapM (vw h 23) = some (ss.map T.int) := fun ss => by
    induction ss with
    | nil => rfl
    | cons s ss ih => simp only [List.map_cons, List.mapM_cons, ih]; rfl
  have a : ∀ ss : List Int, ((ss.map T.int).any fun z => T.eqv z (.int s)) = decide (s ∈ ss) := fun ss => by
    induction ss with
    | nil => rfl
    | cons u ss ih =>
      rw [List.map_cons, List.any_cons, ih]
      simp only [eqv_int, List.mem_cons]
      by_cases e : u = s
      · simp [e]
      · have e2 : ¬ s = u := fun z => e z.symm
        simp [e, e2]
  unfold sIn isIn
  simp only [vw, v, Option.map_some, a]
theorem gd_ninT' {r : R (D × Hy)} {b : Bool} (e : sIn x y h = .ok (.bl b, h)) (q : Q (.bl (!b), h)) : Good (sNotIn x y h) Q E := by
  refine gd_of ?_ q
  unfold sIn at e
  unfold sNotIn
  cases i : isIn x y h with
  | none => rw [i] at e; cases e
  | some c =>
    rw [i] at e
    have : c = b := by
      have e := R.ok.inj e
      exact D.bl.inj (Prod.mk.inj e).1
    rw [this]
theorem gd_ninT {s : Tx} {xs : List D} {ss : List Tx} (e : xs = ss.map D.str) (q : Q (.bl (!decide (s ∈ ss)), h)) : Good (sNotIn (.str s) (.tup xs) h) Q E :=
  gd_ninT' (r := .stuck) (ok_of (gd_inT e rfl)) q
theorem gd_ninTI {s : Int} {xs : List D} {ss : List Int} (e : xs = ss.map D.int) (q : Q (.bl (!decide (s ∈ ss)), h)) : Good (sNotIn (.int s) (.tup xs) h) Q E :=
  gd_ninT' (r := .stuck) (ok_of (gd_inTI e rfl)) q
theorem gd_ixS {s : Tx} {i : Int} {c : Char} (e : L2.atI s i = some c) (z : s.length ≤ 16777216) (q : Q (.str [c], h)) : Good (sIx (.str s) (.int i) h) Q E := gd_of (sIx_str e z) q
theorem gd_ixT {xs : List D} {i : Int} (e : L2.atI xs i = some x) (q : Q (x, h)) : Good (sIx (.tup xs) (.int i) h) Q E := gd_of (sIx_tup e) q
theorem gd_ixF {xs : List D} {i : Int} (e : L2.atI xs i = some x) (q : Q (x, h)) : Good (sIx (.fl xs) (.int i) h) Q E := gd_of (sIx_fl e) q
theorem gd_ixL {n : Nat} {xs : List D} {i : Int} (e1 : h[n]? = some (.lst xs)) (e : L2.atI xs i = some x) (q : Q (x, h)) : Good (sIx (.ref n) (.int i) h) Q E := gd_of (sIx_ref e1 e) q
theorem gd_cutS {s : Tx} {lo hi : Option Int} (z : s.length ≤ 16777216) (q : Q (.str (cut s lo hi), h)) : Good (sCut (.str s) lo hi h) Q E := by rw [sCut_str]; exact gd_if z q
theorem gd_cutT {s : List D} {lo hi : Option Int} (q : Q (.tup (cut s lo hi), h)) : Good (sCut (.tup s) lo hi h) Q E := q
theorem gd_cutF {s : List D} {lo hi : Option Int} (q : Good (new (.lst (cut s lo hi)) h) Q E) : Good (sCut (.fl s) lo hi h) Q E := q
theorem gd_cutL {n : Nat} {s : List D} {lo hi : Option Int} (e : h[n]? = some (.lst s)) (q : Good (new (.lst (cut s lo hi)) h) Q E) : Good (sCut (.ref n) lo hi h) Q E := by rw [sCut_ref e]; exact q
theorem gd_cutKS {s : Tx} {lo hi : Option Int} {k : Int} (z : s.length ≤ 16777216 ∧ k ≠ 0 ∧ k ≠ 1) (q : Q (.str (pickK s lo hi k), h)) : Good (sCutK (.str s) lo hi k h) Q E := by unfold sCutK; exact gd_if z q
/-! ### calls -/
theorem gd_lenS {s : Tx} (z : s.length ≤ 16777216) (q : Q (.int s.length, h)) : Good (gLen [.str s] h) Q E := by rw [gLen_str]; exact gd_if z q
theorem gd_lenT {xs : List D} (q : Q (.int xs.length, h)) : Good (gLen [.tup xs] h) Q E := q
theorem gd_lenF {xs : List D} (q : Q (.int xs.length, h)) : Good (gLen [.fl xs] h) Q E := q
theorem gd_lenL {n : Nat} {xs : List D} (e : h[n]? = some (.lst xs)) (q : Q (.int xs.length, h)) : Good (gLen [.ref n] h) Q E := gd_of (gLen_ref e) q
theorem gd_max {i j : Int} (q : Q (.int (if j > i then j else i), h)) : Good (gMax [.int i, .int j] h) Q E := q
theorem gd_min {i j : Int} (q : Q (.int (if j < i then j else i), h)) : Good (gMin [.int i, .int j] h) Q E := q
theorem gd_abs {i : Int} (q : Q (.int (if i < 0 then -i else i), h)) : Good (gAbs [.int i] h) Q E := q
theorem gd_intI {i : Int} (q : Q (.int i, h)) : Good (gInt [.int i] h) Q E := q
theorem gd_intB {b : Bool} (q : Q (.int (if b then 1 else 0), h)) : Good (gInt [.bl b] h) Q E := q
theorem gd_strI {i : Int} (z : -115792089237316195423570985008687907853269984665640564039457584007913129639936 < i ∧ i < 115792089237316195423570985008687907853269984665640564039457584007913129639936) (q : Q (.str (num i), h)) : Good (gStr [.int i] h) Q E := by rw [gStr_int]; exact gd_if z q
theorem gd_divmod {i j : Int} (z : 0 < j ∧ j < 1073741824) (q : Q (.tup [.int (i / j), .int (i % j)], h)) : Good (gDivmod [.int i, .int j] h) Q E := by rw [gDivmod_int]; exact gd_if z q
theorem gd_isi {T : String} {t : String} (e : tyOf h x = some t) (q : Q (.bl (t == T || (t == "bool" && T == "int")), h)) : Good (gIsi T [x] h) Q E := by unfold gIsi; simp only [e]; exact q
theorem gd_all {n : Nat} {bs : List Bool} {xs : List D} (e : h[n]? = some (.lst xs)) (eb : xs = bs.map D.bl) (q : Q (.bl (bs.all id), h)) : Good (gAll [.ref n] h) Q E := gd_of (gAll_ref (by rw [e, eb])) q
theorem gd_any {n : Nat} {bs : List Bool} {xs : List D} (e : h[n]? = some (.lst xs)) (eb : xs = bs.map D.bl) (q : Q (.bl (bs.any id), h)) : Good (gAny [.ref n] h) Q E := gd_of (gAny_ref (by rw [e, eb])) q
theorem gd_joinL {n : Nat} {s : Tx} {ts : List Tx} {xs : List D} (e : h[n]? = some (.lst xs)) (et : xs = ts.map D.str) (z : (ts.map List.length).sum + ts.length * s.length ≤ 16777216) (q : Q (.str (joinT s ts), h)) : Good (mJoinG (.str s) [.ref n] h) Q E := gd_of (mJoin_ref (by rw [e, et]) z) q
theorem gd_joinT {s : Tx} {ts : List Tx} {xs : List D} (et : xs = ts.map D.str) (z : (ts.map List.length).sum + ts.length * s.length ≤ 16777216) (q : Q (.str (joinT s ts), h)) : Good (mJoinG (.str s) [.tup xs] h) Q E := by subst et; exact gd_of (mJoinG_tup z) q
theorem gd_split {s : Tx} {c : Char} (z : c.toNat < 256 ∧ s.length + 2 ≤ 16777216) (q : Good (new (.lst ((splitC c s).map D.str)) h) Q E) : Good (mSplit (.str s) [.str [c]] h) Q E := by unfold mSplit; exact gd_if z q
theorem gd_find {s y : Tx} (q : Q (.int (findT s y), h)) : Good (mFind (.str s) [.str y] h) Q E := q
theorem gd_indexS {s y : Tx} (z : 0 ≤ findT s y) (q : Q (.int (findT s y), h)) : Good (mIndexS (.str s) [.str y] h) Q E := by unfold mIndexS; exact gd_if z q
theorem gd_tupL {n : Nat} {xs : List D} (e : h[n]? = some (.lst xs)) (q : Q (.tup xs, h)) : Good (gTupleG [.ref n] h) Q E := gd_of (gTupleG_ref e) q
theorem gd_tupT {xs : List D} (q : Q (.tup xs, h)) : Good (gTupleG [.tup xs] h) Q E := q
theorem gd_tupS {s : Tx} (z : s.length ≤ 16777216) (q : Q (.tup (s.map fun c => D.str [c]), h)) : Good (gTupleG [.str s] h) Q E := by rw [gTupleG_str]; exact gd_if z q
theorem gd_append {n : Nat} {xs : List D} (e : h[n]? = some (.lst xs)) (z : xs.length < 16777216) (q : Q (.non, h.set n (.lst (xs ++ [y])))) : Good (mAppend (.ref n) [y] h) Q E := gd_of (mAppend_ref e z) q
theorem gd_repr {t : T} (e : vw h 24 x = some t) (s : t.shw = true) (l : t.rtx.length ≤ 16777216) (q : Q (.str t.rtx, h)) : Good (gRepr [x] h) Q E := gd_of (gRepr_of e s l) q
/-! ### what is walked -/
theorem gd_ivS {h1 : Hy} {s : Tx} (q : QI ((s.map fun c => D.str [c], none), h1)) : Good (ivK h (.str s, h1)) QI E := q
theorem gd_ivT {h1 : Hy} {xs : List D} (q : QI ((xs, none), h1)) : Good (ivK h (.tup xs, h1)) QI E := q
theorem gd_ivF {h1 : Hy} {xs : List D} (q : QI ((xs, none), h1)) : Good (ivK h (.fl xs, h1)) QI E := q
theorem gd_ivO {n : Nat} {xs : List D} (e : h[n]? = some (.lst xs)) (q : QI ((xs, some n), h)) : Good (ivK h (.ref n, h)) QI E := gd_of (ivK_own e) q
theorem gd_ivN {h1 : Hy} {n : Nat} {xs : List D} (e : h1[n]? = some (.lst xs)) (c : Clean h h1) (hn : h.length ≤ n) (hl : D.ltAll h.length xs = true) (q : QI ((xs, none), h1.take h.length)) : Good (ivK h (.ref n, h1)) QI E := gd_of (ivK_new e c hn hl) q
theorem gd_rg1 {j : Int} (z : -4000000000000000000 ≤ j ∧ j < 4000000000000000000) (q : QI ((rangeD 0 j.toNat, none), h)) : Good (rg1K ([.int j], h)) QI E := by rw [rg1K_ev]; exact gd_if z q
theorem gd_rg2 {i j : Int} (z : (-4000000000000000000 ≤ i ∧ i < 4000000000000000000) ∧ -4000000000000000000 ≤ j ∧ j < 4000000000000000000) (q : QI ((rangeD i (j - i).toNat, none), h)) : Good (rg2K ([.int i, .int j], h)) QI E := by rw [rg2K_ev]; exact gd_if z q
end
/-! ### statements -/
structure Kn where
  nx : Env → Hy → Prop
  rt : D → Hy → Prop
  bk : Env → Hy → Prop
  ct : Env → Hy → Prop
  ex : String → Option D → Env → Hy → Prop
def Gs (r : RS) (k : Kn) : Prop := match r with
  | .nx ρ h => k.nx ρ h
  | .rt d h => k.rt d h
  | .bk ρ h => k.bk ρ h
  | .ct ρ h => k.ct ρ h
  | .exc c d ρ h => k.ex c d ρ h
  | .stuck => False
theorem Gs.mono {r : RS} {k k' : Kn} (g : Gs r k) (n : ∀ ρ h, k.nx ρ h → k'.nx ρ h) (r' : ∀ d h, k.rt d h → k'.rt d h) (b : ∀ ρ h, k.bk ρ h → k'.bk ρ h) (c : ∀ ρ h, k.ct ρ h → k'.ct ρ h) (e : ∀ c d ρ h, k.ex c d ρ h → k'.ex c d ρ h) : Gs r k' := by
  cases r with
  | nx ρ h => exact n _ _ g
  | rt d h => exact r' _ _ g
  | bk ρ h => exact b _ _ g
  | ct ρ h => exact c _ _ g
  | exc x d ρ h => exact e _ _ _ _ g
  | stuck => exact g
section
variable {ρ : Env} {h : Hy} {s s' : FS} {f : FE} {t : FT} {k : Kn} {g : FG} {α : Type}
theorem gs_toS {r : R α} {f : α → RS} (q : Good r (fun a => Gs (f a) k) (fun c d h => k.ex c d ρ h)) : Gs (r.toS ρ f) k := by cases r <;> exact q
theorem gs_seq {r : RS} (q : Gs r { k with nx := fun ρ h => Gs (s' ρ h) k }) : Gs (r.seq s') k := by cases r <;> exact q
theorem gs_cons (q : Gs (s ρ h) { nx := fun ρ h => Gs (s' ρ h) k, rt := k.rt, bk := k.bk, ct := k.ct, ex := k.ex }) : Gs (bCons s s' ρ h) k := gs_seq q
theorem gs_nil (q : k.nx ρ h) : Gs (bNil ρ h) k := q
theorem gs_set {i : Nat} (q : Good (f ρ h) (fun p => k.nx (ρ.set i (some p.1)) p.2) (fun c d h => k.ex c d ρ h)) : Gs (sSet i f ρ h) k := gs_toS q
theorem gs_expr (q : Good (f ρ h) (fun p => k.nx ρ p.2) (fun c d h => k.ex c d ρ h)) : Gs (sExpr f ρ h) k := gs_toS q
theorem gs_ret (q : Good (f ρ h) (fun p => k.rt p.1 p.2) (fun c d h => k.ex c d ρ h)) : Gs (sRet f ρ h) k := gs_toS q
theorem gs_retN (q : k.rt .non h) : Gs (sRetN ρ h) k := q
theorem gs_if (q : Good (t ρ h) (fun p => if p.1 = true then Gs (s ρ p.2) k else Gs (s' ρ p.2) k) (fun c d h => k.ex c d ρ h)) : Gs (sIf t s s' ρ h) k := gs_toS (q.mono (fun p z => by
  cases e : p.1 with
  | true => rw [e] at z; simpa using z
  | false => rw [e] at z; simpa using z) fun _ _ _ z => z)
theorem gs_brk (q : k.bk ρ h) : Gs (sBrk ρ h) k := q
theorem gs_cnt (q : k.ct ρ h) : Gs (sCnt ρ h) k := q
/-- a store's end -/
def kG (k : Kn) : Kn := { nx := k.nx, rt := fun _ _ => False, bk := fun _ _ => False, ct := fun _ _ => False, ex := k.ex }
theorem gs_plain {r : RS} (q : Gs r (kG k)) : Gs r.plain k := by cases r <;> first | exact q | exact q.elim
theorem gs_asg (q : Good (f ρ h) (fun p => Gs (g p.1 ρ p.2) (kG k)) (fun c d h => k.ex c d ρ h)) : Gs (sAsg f g ρ h) k := gs_toS (q.mono (fun p z => gs_plain z) fun _ _ _ z => z)
theorem gs_fgName {i : Nat} {d : D} (q : k.nx (ρ.set i (some d)) h) : Gs (fgName i d ρ h) k := q
theorem gs_fgTup {n : Nat} {gs : FGs} {xs : List D} (z : xs.length = n) (q : Gs (gs xs ρ h) k) : Gs (fgTup n gs (.tup xs) ρ h) k := by rw [fgTup_tup, if_pos z]; exact q
theorem gs_fgsNil (q : k.nx ρ h) : Gs (fgsNil [] ρ h) k := q
theorem gs_fgsCons {gs : FGs} {d : D} {ds : List D} (q : Gs (g d ρ h) { nx := fun ρ h => Gs (gs ds ρ h) k, rt := k.rt, bk := k.bk, ct := k.ct, ex := k.ex }) : Gs (fgsCons g gs (d :: ds) ρ h) k := gs_seq q
theorem gs_fgSub {fo fi : FE} {d : D} (q : Good (fo ρ h) (fun p => Good (fi ρ p.2) (fun r => Gs (fsK2 d p.1 ρ r) k) (fun c d h => k.ex c d ρ h)) (fun c d h => k.ex c d ρ h)) : Gs (fgSub fo fi d ρ h) k := gs_toS (q.mono (fun p z => gs_toS z) fun _ _ _ z => z)
theorem gs_fsK2 {n j : Nat} {i : Int} {xs : List D} {d : D} (e : h[n]? = some (.lst xs)) (hi : L2.ixN xs.length i = some j) (q : k.nx ρ (h.set n (.lst (xs.set j d)))) : Gs (fsK2 d (.ref n) ρ (.int i, h)) k := by rw [fsK2_ref e hi]; exact q
theorem gs_for {fi : FI} {ct : CT} (q : Good (fi ρ h) (fun p => Gs (fLoop ct s p.1.1 p.1.2 p.1.1 ρ p.2) k) (fun c d h => k.ex c d ρ h)) : Gs (sFor fi ct s ρ h) k := gs_toS q
/-- a for loop by an invariant over the items gone through -/
theorem gs_fLoop {ct : CT} {all : List D} {o : Option Nat} (I : List D → Env → Hy → Prop) (src : ∀ p ρ h, I p ρ h → srcOk all o h) (xs : List D) (ρ : Env) (h : Hy) (i : I [] ρ h)
    (b : ∀ pre x post ρ h, xs = pre ++ x :: post → I pre ρ h → ∃ ρ1, ct.store x ρ = some ρ1 ∧ Gs (s ρ1 h) { nx := I (pre ++ [x]), rt := k.rt, bk := k.nx, ct := I (pre ++ [x]), ex := k.ex })
    (e : ∀ ρ h, I xs ρ h → k.nx ρ h) : Gs (fLoop ct s all o xs ρ h) k := by
  have gen : ∀ (rest pre : List D) (ρ : Env) (h : Hy), xs = pre ++ rest → I pre ρ h → Gs (fLoop ct s all o rest ρ h) k := by
    intro rest
    induction rest with
    | nil =>
      intro pre ρ h eq i
      unfold fLoop
      rw [if_pos (src _ _ _ i)]
      exact e ρ h (by rw [eq, List.append_nil]; exact i)
    | cons x rest ih =>
      intro pre ρ h eq i
      obtain ⟨ρ1, e1, g⟩ := b pre x rest ρ h eq i
      unfold fLoop
      rw [if_pos (src _ _ _ i), e1]
      have go : ∀ ρ h, I (pre ++ [x]) ρ h → Gs (fLoop ct s all o rest ρ h) k := fun ρ h j => ih (pre ++ [x]) ρ h (by rw [eq, List.append_assoc]; rfl) j
      show Gs ((s ρ1 h).loop _) k
      cases q : s ρ1 h with
      | nx ρ2 h2 => rw [q] at g; exact go _ _ g
      | ct ρ2 h2 => rw [q] at g; exact go _ _ g
      | bk ρ2 h2 => rw [q] at g; exact g
      | rt d h2 => rw [q] at g; exact g
      | exc c d ρ2 h2 => rw [q] at g; exact g
      | stuck => rw [q] at g; exact g.elim
  exact gen xs [] ρ h rfl i
end
/-! ### defs -/
/-- how a def on an empty heap gives back -/
inductive Ret (h : Hy) (Q : D × Hy → Prop) (d : D) (h1 : Hy) : Prop
  | pure (e : d.lt 0 = true) (q : Q (d, h))
  | lst (m : Nat) (xs : List D) (ed : d = .ref m) (e : h1[m]? = some (.lst xs)) (hx : D.ltAll 0 xs = true) (q : Q (.ref h.length, h ++ [.lst xs]))
theorem gd_pure {n N : Nat} {b : FS} {ds : List D} {h : Hy} {Q : D × Hy → Prop} {E : String → Option D → Hy → Prop} (hl : ds.length = n) (hp : D.ltAll 0 ds = true)
    (q : Gs (b (startE N ds) []) { nx := fun _ _ => Q (.non, h), rt := Ret h Q, bk := fun _ _ => False, ct := fun _ _ => False, ex := fun c d _ _ => d = none ∧ E c none h }) : Good (defD n N b ds h) Q E := by
  rw [defD_pure hl hp]
  unfold bodyD
  cases r : b (startE N ds) [] with
  | nx ρ h1 =>
    rw [r] at q
    have e : (RS.nx ρ h1).out [] = (RS.rt .non h1).out [] := rfl
    rw [e, out_rt_pure (by simp [D.lt]), lift_ok]
    exact q
  | rt d h1 =>
    rw [r] at q
    cases q with
    | pure e q =>
      rw [out_rt_pure e, lift_ok, D.sh_pure e]
      exact q
    | lst m xs ed e hx q =>
      subst ed
      rw [lift_rt_lst e hx]
      exact q
  | bk ρ h1 => rw [r] at q; exact q.elim
  | ct ρ h1 => rw [r] at q; exact q.elim
  | exc c d ρ h1 =>
    rw [r] at q
    obtain ⟨rfl, q⟩ := q
    rw [out_exc, lift_exc]
    exact q
  | stuck => rw [r] at q; exact q.elim
end Px
namespace Px
section
variable {E : String → Option D → Hy → Prop} {ρ : Env} {h : Hy} {f : FE} {t : FT} {Q : D × Hy → Prop} {QL : List D × Hy → Prop} {d a0 a1 a2 a3 a4 a5 a6 a7 a8 a9 a10 a11 a12 a13 : Option D}
theorem gd_v0 {d : D} (q : Q (d, h)) : Good (eVar 0 (some d :: ρ) h) Q E := q
theorem gd_v1 {d : D} (q : Q (d, h)) : Good (eVar 1 (a0 :: some d :: ρ) h) Q E := q
theorem gd_v2 {d : D} (q : Q (d, h)) : Good (eVar 2 (a0 :: a1 :: some d :: ρ) h) Q E := q
theorem gd_v3 {d : D} (q : Q (d, h)) : Good (eVar 3 (a0 :: a1 :: a2 :: some d :: ρ) h) Q E := q
theorem gd_v4 {d : D} (q : Q (d, h)) : Good (eVar 4 (a0 :: a1 :: a2 :: a3 :: some d :: ρ) h) Q E := q
theorem gd_v5 {d : D} (q : Q (d, h)) : Good (eVar 5 (a0 :: a1 :: a2 :: a3 :: a4 :: some d :: ρ) h) Q E := q
theorem gd_v6 {d : D} (q : Q (d, h)) : Good (eVar 6 (a0 :: a1 :: a2 :: a3 :: a4 :: a5 :: some d :: ρ) h) Q E := q
theorem gd_v7 {d : D} (q : Q (d, h)) : Good (eVar 7 (a0 :: a1 :: a2 :: a3 :: a4 :: a5 :: a6 :: some d :: ρ) h) Q E := q
theorem gd_v8 {d : D} (q : Q (d, h)) : Good (eVar 8 (a0 :: a1 :: a2 :: a3 :: a4 :: a5 :: a6 :: a7 :: some d :: ρ) h) Q E := q
theorem gd_v9 {d : D} (q : Q (d, h)) : Good (eVar 9 (a0 :: a1 :: a2 :: a3 :: a4 :: a5 :: a6 :: a7 :: a8 :: some d :: ρ) h) Q E := q
theorem gd_v10 {d : D} (q : Q (d, h)) : Good (eVar 10 (a0 :: a1 :: a2 :: a3 :: a4 :: a5 :: a6 :: a7 :: a8 :: a9 :: some d :: ρ) h) Q E := q
theorem gd_v11 {d : D} (q : Q (d, h)) : Good (eVar 11 (a0 :: a1 :: a2 :: a3 :: a4 :: a5 :: a6 :: a7 :: a8 :: a9 :: a10 :: some d :: ρ) h) Q E := q
theorem gd_v12 {d : D} (q : Q (d, h)) : Good (eVar 12 (a0 :: a1 :: a2 :: a3 :: a4 :: a5 :: a6 :: a7 :: a8 :: a9 :: a10 :: a11 :: some d :: ρ) h) Q E := q
theorem gd_v13 {d : D} (q : Q (d, h)) : Good (eVar 13 (a0 :: a1 :: a2 :: a3 :: a4 :: a5 :: a6 :: a7 :: a8 :: a9 :: a10 :: a11 :: a12 :: some d :: ρ) h) Q E := q
theorem gd_new0 {u : Ob} (q : Q (.ref h.length, h ++ [u])) : Good (new u h) Q E := q
/-! ### comprehensions that leave the heap alone -/
theorem gd_cMap {γ : Type} {ct : CT} {all : List D} {o : Option Nat} (mk : γ → D) (us : List γ) (g : γ → D) (p : γ → Bool) (e : srcOk all o h)
    (hx : ∀ u ∈ us, ∃ ρ1, ct.store (mk u) ρ = some ρ1 ∧ Good (t ρ1 h) (fun r => r = (p u, h)) NE ∧ (p u = true → Good (f ρ1 h) (fun s => s = (g u, h)) NE))
    (q : QL ((us.filter p).map g, h)) : Good (cLoop ct t f ρ all o (us.map mk) h) QL E := by
  refine gd_of ?_ q
  clear q
  induction us with
  | nil => unfold cLoop; simp only [List.map_nil, if_pos e]; rfl
  | cons u us ih =>
    obtain ⟨ρ1, e1, e2, e3⟩ := hx u (by simp)
    have ih := ih fun v hv => hx v (List.mem_cons_of_mem _ hv)
    have e2 := ok_of e2
    rw [List.map_cons, cLoop]
    rw [if_pos e, e1]
    simp only [e2, R.calm, R.bind_ok]
    cases w : p u with
    | true =>
      have e3 := ok_of (e3 w)
      simp only [List.filter_cons, w, if_true, e3, R.bind_ok, ih, List.map_cons]
    | false => simp only [List.filter_cons, w, Bool.false_eq_true, if_false, ih]
theorem gd_cAll {γ : Type} {i : Nat} {all : List D} {o : Option Nat} (mk : γ → D) (us : List γ) (g : γ → D) (e : srcOk all o h)
    (hx : ∀ u ∈ us, Good (f (ρ.set i (some (mk u))) h) (fun s => s = (g u, h)) NE)
    (q : QL (us.map g, h)) : Good (cLoop (.one i) tTrue f ρ all o (us.map mk) h) QL E :=
  gd_cMap mk us g (fun _ => true) e (fun u hu => ⟨_, rfl, rfl, fun _ => hx u hu⟩) (by rw [List.filter_eq_self.mpr (fun _ _ => rfl)]; exact q)
theorem gd_cFil {γ : Type} {i : Nat} {all : List D} {o : Option Nat} (mk : γ → D) (us : List γ) (p : γ → Bool) (e : srcOk all o h)
    (hx : ∀ u ∈ us, Good (t (ρ.set i (some (mk u))) h) (fun r => r = (p u, h)) NE)
    (hf : ∀ u ∈ us, Good (f (ρ.set i (some (mk u))) h) (fun s => s = (mk u, h)) NE)
    (q : QL ((us.filter p).map mk, h)) : Good (cLoop (.one i) t f ρ all o (us.map mk) h) QL E :=
  gd_cMap mk us mk p e (fun u hu => ⟨_, rfl, hx u hu, fun _ => hf u hu⟩) q
theorem vw_strs (n : Nat) : ∀ ss : List Tx, (ss.map D.str).mapM (vw h (n + 1)) = some (ss.map T.str)
  | [] => rfl
  | s :: ss => by
    simp only [List.map_cons, List.mapM_cons, vw_strs n ss]
    rfl
theorem vw_ints (n : Nat) : ∀ ss : List Int, (ss.map D.int).mapM (vw h (n + 1)) = some (ss.map T.int)
  | [] => rfl
  | s :: ss => by
    simp only [List.map_cons, List.mapM_cons, vw_ints n ss]
    rfl
theorem vw_map {γ : Type} {mk : γ → D} {tk : γ → T} {n : Nat} : ∀ ss : List γ, (∀ s ∈ ss, vw h n (mk s) = some (tk s)) → (ss.map mk).mapM (vw h n) = some (ss.map tk)
  | [], _ => rfl
  | s :: ss, hs => by
    simp only [List.map_cons, List.mapM_cons, vw_map ss fun u hu => hs u (List.mem_cons_of_mem _ hu), hs s (by simp)]
    rfl
theorem eqv_empty (ts : List T) : T.eqv (.lst ts) (.lst []) = ts.isEmpty := by cases ts <;> simp
/-- xs == [] -/
theorem gd_eqNil {γ : Type} {mk : γ → D} {n m : Nat} {us : List γ} {xs : List D} (e1 : h[n]? = some (.lst xs)) (ex : xs = us.map mk) (e2 : h[m]? = some (.lst [])) (tk : γ → T) (hv : ∀ u ∈ us, vw h 23 (mk u) = some (tk u)) (q : Q (.bl us.isEmpty, h)) : Good (sEq (.ref n) (.ref m) h) Q E := by
  subst ex
  refine gd_eqV (vw_ref e1 (vw_map us hv)) (vw_ref (ts := []) e2 rfl) ?_
  rw [eqv_empty, List.isEmpty_map]
  exact q
theorem gd_neNil {γ : Type} {mk : γ → D} {n m : Nat} {us : List γ} {xs : List D} (e1 : h[n]? = some (.lst xs)) (ex : xs = us.map mk) (e2 : h[m]? = some (.lst [])) (tk : γ → T) (hv : ∀ u ∈ us, vw h 23 (mk u) = some (tk u)) (q : Q (.bl (!us.isEmpty), h)) : Good (sNe (.ref n) (.ref m) h) Q E := by
  subst ex
  refine gd_neV (vw_ref e1 (vw_map us hv)) (vw_ref (ts := []) e2 rfl) ?_
  rw [eqv_empty, List.isEmpty_map]
  exact q
end
end Px
namespace Px
section
variable {E : String → Option D → Hy → Prop} {h h1 g : Hy} {Q : D × Hy → Prop} {QI : (List D × Option Nat) × Hy → Prop} {n m : Nat}
theorem Clean.app2 : Clean h (h ++ g) := fun i hi => ⟨h[i], by rw [List.getElem?_append_left hi]; exact List.getElem?_eq_getElem hi, .inl (List.getElem?_eq_getElem hi)⟩
/-- a new list is walked and thrown away -/
theorem gd_ivA {xs : List D} (eh : h1 = h ++ g) (e : h1[n]? = some (.lst xs)) (hn : h.length ≤ n) (hl : D.ltAll h.length xs = true) (q : QI ((xs, none), h)) : Good (ivK h (.ref n, h1)) QI E := by
  subst eh
  refine gd_ivN e Clean.app2 hn hl ?_
  rw [List.take_left' rfl]
  exact q
theorem gd_eqNilS {us : List Tx} (e1 : h[n]? = some (.lst (us.map D.str))) (e2 : h[m]? = some (.lst [])) (q : Q (.bl us.isEmpty, h)) : Good (sEq (.ref n) (.ref m) h) Q E := gd_eqNil e1 rfl e2 T.str (fun _ _ => rfl) q
theorem gd_eqNilC {us : Tx} (e1 : h[n]? = some (.lst (us.map fun c => D.str [c]))) (e2 : h[m]? = some (.lst [])) (q : Q (.bl us.isEmpty, h)) : Good (sEq (.ref n) (.ref m) h) Q E := gd_eqNil e1 rfl e2 (fun c => T.str [c]) (fun _ _ => rfl) q
theorem gd_fgStar1 {g : FG} {gr : FG} {ρ : Env} {k : Kn} {x : D} {xs : List D} (e : h[n]? = some (.lst (x :: xs))) (q : Gs (fgsCons g (fgsCons gr fgsNil) [x, .ref h.length] ρ (h ++ [.lst xs])) k) : Gs (fgStar 1 (fgsCons g (fgsCons gr fgsNil)) (.ref n) ρ h) k := by
  unfold fgStar items
  simp only [e]
  rw [if_pos (by simp)]
  exact q
theorem gd_fgStarT {g : FG} {gr : FG} {ρ : Env} {k : Kn} {x : D} {xs : List D} (q : Gs (fgsCons g (fgsCons gr fgsNil) [x, .ref h.length] ρ (h ++ [.lst xs])) k) : Gs (fgStar 1 (fgsCons g (fgsCons gr fgsNil)) (.tup (x :: xs)) ρ h) k := by
  unfold fgStar items
  simp only
  rw [if_pos (by simp)]
  exact q
end
end Px
namespace Px
section
variable {E : String → Option D → Hy → Prop} {h : Hy} {Q : D × Hy → Prop}
theorem gd_isNotB {a b : Bool} (q : Q (.bl (!decide (a = b)), h)) : Good (sIsNot (.bl a) (.bl b) h) Q E := q
theorem gd_isB {a b : Bool} (q : Q (.bl (decide (a = b)), h)) : Good (sIs (.bl a) (.bl b) h) Q E := q
theorem gd_neNilE {n m : Nat} (e1 : h[n]? = some (.lst [])) (e2 : h[m]? = some (.lst [])) (q : Q (.bl false, h)) : Good (sNe (.ref n) (.ref m) h) Q E := gd_neNil (γ := D) (mk := fun x => x) (us := []) e1 rfl e2 (fun _ => T.non) (fun _ h => absurd h (by simp)) q
theorem gd_eqNilE {n m : Nat} (e1 : h[n]? = some (.lst [])) (e2 : h[m]? = some (.lst [])) (q : Q (.bl true, h)) : Good (sEq (.ref n) (.ref m) h) Q E := gd_eqNil (γ := D) (mk := fun x => x) (us := []) e1 rfl e2 (fun _ => T.non) (fun _ h => absurd h (by simp)) q
end
end Px
namespace Px
/-! ## a def that writes to one object of its caller's (b): what stands in its heap -/
structure St (h0 : Hy) (b : Nat) (h : Hy) (L : List (Nat × Ob)) : Prop where
  len : h0.length ≤ h.length
  fr : ∀ m, m < h0.length → m ≠ b → h[m]? = h0[m]?
  cells : ∀ q ∈ L, h[q.1]? = some q.2
  nd : (L.map (·.1)).Nodup
  new : ∀ q ∈ L, q.1 = b ∨ h0.length ≤ q.1
theorem St.start {h0 : Hy} {b : Nat} {o : Ob} (e : h0[b]? = some o) : St h0 b h0 [(b, o)] :=
  ⟨Nat.le_refl _, fun _ _ _ => rfl, fun q hq => by
    have : q = (b, o) := by simpa using hq
    rw [this]; exact e, by simp, fun q hq => .inl (by
    have : q = (b, o) := by simpa using hq
    rw [this])⟩
/-- nothing of the caller's is written -/
theorem St.start0 {h0 : Hy} : St h0 h0.length h0 [] := ⟨Nat.le_refl _, fun _ _ _ => rfl, fun q hq => absurd hq (by simp), by simp, fun q hq => absurd hq (by simp)⟩
theorem St.pre {h0 h : Hy} {L : List (Nat × Ob)} (S : St h0 h0.length h L) : ∃ g, h = h0 ++ g := by
  refine ⟨h.drop h0.length, ?_⟩
  refine List.ext_getElem? fun m => ?_
  by_cases hm : m < h0.length
  · rw [List.getElem?_append_left hm, S.fr m hm (by omega)]
  · rw [List.getElem?_append_right (by omega), List.getElem?_drop]
    congr 1
    omega
section
variable {h0 h h' : Hy} {b n : Nat} {o o' : Ob} {c c1 c2 c3 c4 c5 c6 : Nat × Ob} {L M : List (Nat × Ob)}
theorem St.lt (S : St h0 b h L) {q : Nat × Ob} (hq : q ∈ L) : q.1 < h.length := (List.getElem?_eq_some_iff.mp (S.cells q hq)).1
theorem St.alloc (S : St h0 b h L) : St h0 b (h ++ [o]) (L ++ [(h.length, o)]) := by
  refine ⟨by have := S.len; simp; omega, fun m hm hb => ?_, fun q hq => ?_, ?_, fun q hq => ?_⟩
  · rw [List.getElem?_append_left (by have := S.len; omega)]
    exact S.fr m hm hb
  · rcases List.mem_append.mp hq with hq | hq
    · exact hp_low (S.cells _ hq)
    · have : q = (h.length, o) := by simpa using hq
      rw [this]
      simp
  · have nd := S.nd
    rw [List.map_append]
    refine List.nodup_append.mpr ⟨nd, by simp, fun x hx y hy => ?_⟩
    obtain ⟨q, hq, rfl⟩ := List.mem_map.mp hx
    have := S.lt hq
    have hy : y = h.length := by simpa using hy
    omega
  · rcases List.mem_append.mp hq with hq | hq
    · exact S.new q hq
    · have : q = (h.length, o) := by simpa using hq
      rw [this]
      exact .inr S.len
theorem St.bag (S : St h0 b h ((b, o) :: L)) (fr : ∀ m, m ≠ b → h'[m]? = h[m]?) (hl : h'.length = h.length) (e : h'[b]? = some o') : St h0 b h' ((b, o') :: L) := by
  refine ⟨by rw [hl]; exact S.len, fun m hm hb => by rw [fr m hb]; exact S.fr m hm hb, fun q hq => ?_, S.nd, fun q hq => by
    rcases List.mem_cons.mp hq with rfl | hq
    · exact .inl rfl
    · exact S.new q (List.mem_cons_of_mem _ hq)⟩
  rcases List.mem_cons.mp hq with rfl | hq
  · exact e
  · have nd : b ∉ L.map (·.1) := (List.nodup_cons.mp S.nd).1
    rw [fr q.1 fun z => nd (by rw [← z]; exact List.mem_map.mpr ⟨q, hq, rfl⟩)]
    exact S.cells q (List.mem_cons_of_mem _ hq)
/-- .. also where it lays new ones behind -/
theorem St.bagNew (S : St h0 b h ((b, o) :: L)) (fr : ∀ m, m < h.length → m ≠ b → h'[m]? = h[m]?) (hl : h.length ≤ h'.length) (e : h'[b]? = some o') : St h0 b h' ((b, o') :: L) := by
  refine ⟨Nat.le_trans S.len hl, fun m hm hb => by rw [fr m (Nat.lt_of_lt_of_le hm S.len) hb]; exact S.fr m hm hb, fun q hq => ?_, S.nd, fun q hq => by
    rcases List.mem_cons.mp hq with rfl | hq
    · exact .inl rfl
    · exact S.new q (List.mem_cons_of_mem _ hq)⟩
  rcases List.mem_cons.mp hq with rfl | hq
  · exact e
  · have nd : b ∉ L.map (·.1) := (List.nodup_cons.mp S.nd).1
    rw [fr q.1 (S.lt (List.mem_cons_of_mem _ hq)) fun z => nd (by rw [← z]; exact List.mem_map.mpr ⟨q, hq, rfl⟩)]
    exact S.cells q (List.mem_cons_of_mem _ hq)
theorem St.drop (S : St h0 b h (L ++ M)) : St h0 b h L := by
  refine ⟨S.len, S.fr, fun q hq => S.cells q (List.mem_append_left _ hq), ?_, fun q hq => S.new q (List.mem_append_left _ hq)⟩
  have nd := S.nd
  rw [List.map_append] at nd
  exact (List.nodup_append.mp nd).1
theorem St.g0 (S : St h0 b h ((n, o) :: L)) : h[n]? = some o := S.cells (n, o) (by simp)
theorem St.g1 (S : St h0 b h (c :: (n, o) :: L)) : h[n]? = some o := S.cells (n, o) (by simp)
theorem St.g2 (S : St h0 b h (c :: c1 :: (n, o) :: L)) : h[n]? = some o := S.cells (n, o) (by simp)
theorem St.g3 (S : St h0 b h (c :: c1 :: c2 :: (n, o) :: L)) : h[n]? = some o := S.cells (n, o) (by simp)
theorem St.g4 (S : St h0 b h (c :: c1 :: c2 :: c3 :: (n, o) :: L)) : h[n]? = some o := S.cells (n, o) (by simp)
theorem St.g5 (S : St h0 b h (c :: c1 :: c2 :: c3 :: c4 :: (n, o) :: L)) : h[n]? = some o := S.cells (n, o) (by simp)
theorem St.g6 (S : St h0 b h (c :: c1 :: c2 :: c3 :: c4 :: c5 :: (n, o) :: L)) : h[n]? = some o := S.cells (n, o) (by simp)
theorem St.g7 (S : St h0 b h (c :: c1 :: c2 :: c3 :: c4 :: c5 :: c6 :: (n, o) :: L)) : h[n]? = some o := S.cells (n, o) (by simp)
theorem St.g8 {x0 x1 x2 x3 x4 x5 x6 x7 : Nat × Ob} (S : St h0 b h (x0 :: x1 :: x2 :: x3 :: x4 :: x5 :: x6 :: x7 :: (n, o) :: L)) : h[n]? = some o := S.cells (n, o) (by simp)
theorem St.g9 {x0 x1 x2 x3 x4 x5 x6 x7 x8 : Nat × Ob} (S : St h0 b h (x0 :: x1 :: x2 :: x3 :: x4 :: x5 :: x6 :: x7 :: x8 :: (n, o) :: L)) : h[n]? = some o := S.cells (n, o) (by simp)
theorem St.g10 {x0 x1 x2 x3 x4 x5 x6 x7 x8 x9 : Nat × Ob} (S : St h0 b h (x0 :: x1 :: x2 :: x3 :: x4 :: x5 :: x6 :: x7 :: x8 :: x9 :: (n, o) :: L)) : h[n]? = some o := S.cells (n, o) (by simp)
theorem St.g11 {x0 x1 x2 x3 x4 x5 x6 x7 x8 x9 x10 : Nat × Ob} (S : St h0 b h (x0 :: x1 :: x2 :: x3 :: x4 :: x5 :: x6 :: x7 :: x8 :: x9 :: x10 :: (n, o) :: L)) : h[n]? = some o := S.cells (n, o) (by simp)
theorem St.g12 {x0 x1 x2 x3 x4 x5 x6 x7 x8 x9 x10 x11 : Nat × Ob} (S : St h0 b h (x0 :: x1 :: x2 :: x3 :: x4 :: x5 :: x6 :: x7 :: x8 :: x9 :: x10 :: x11 :: (n, o) :: L)) : h[n]? = some o := S.cells (n, o) (by simp)
theorem St.g13 {x0 x1 x2 x3 x4 x5 x6 x7 x8 x9 x10 x11 x12 : Nat × Ob} (S : St h0 b h (x0 :: x1 :: x2 :: x3 :: x4 :: x5 :: x6 :: x7 :: x8 :: x9 :: x10 :: x11 :: x12 :: (n, o) :: L)) : h[n]? = some o := S.cells (n, o) (by simp)
theorem St.g14 {x0 x1 x2 x3 x4 x5 x6 x7 x8 x9 x10 x11 x12 x13 : Nat × Ob} (S : St h0 b h (x0 :: x1 :: x2 :: x3 :: x4 :: x5 :: x6 :: x7 :: x8 :: x9 :: x10 :: x11 :: x12 :: x13 :: (n, o) :: L)) : h[n]? = some o := S.cells (n, o) (by simp)
/-- an object is written -/
theorem St.write (S : St h0 b h (L ++ (n, o) :: M)) : St h0 b (h.set n o') (L ++ (n, o') :: M) := by
  have hn : n = b ∨ h0.length ≤ n := S.new (n, o) (by simp)
  have nd := S.nd
  rw [List.map_append, List.map_cons] at nd
  have nd2 := List.nodup_append.mp nd
  refine ⟨by rw [List.length_set]; exact S.len, fun m hm hb => ?_, fun q hq => ?_, by rw [List.map_append, List.map_cons]; exact nd, fun q hq => ?_⟩
  · rw [List.getElem?_set_ne (by omega)]
    exact S.fr m hm hb
  · rcases List.mem_append.mp hq with hq | hq
    · have : q.1 ≠ n := nd2.2.2 q.1 (List.mem_map.mpr ⟨q, hq, rfl⟩) n (by simp)
      rw [List.getElem?_set_ne (Ne.symm this)]
      exact S.cells q (by simp [hq])
    · rcases List.mem_cons.mp hq with rfl | hq
      · exact List.getElem?_set_self (S.lt (q := (n, o)) (by simp))
      · have : q.1 ≠ n := fun z => (List.nodup_cons.mp nd2.2.1).1 (by rw [← z]; exact List.mem_map.mpr ⟨q, hq, rfl⟩)
        rw [List.getElem?_set_ne (Ne.symm this)]
        exact S.cells q (by simp [hq])
  · rcases List.mem_append.mp hq with hq | hq
    · exact S.new q (by simp [hq])
    · rcases List.mem_cons.mp hq with rfl | hq
      · exact hn
      · exact S.new q (by simp [hq])
end
section
variable {E : String → Option D → Hy → Prop} {ρ : Env} {h h0 : Hy} {f : FE} {t : FT} {Q : D × Hy → Prop} {QL : List D × Hy → Prop} {b n : Nat} {o bg : Ob} {c c1 c2 c3 c4 c5 c6 : Nat × Ob} {L M : List (Nat × Ob)}
theorem gd_newS {u : Ob} (S : St h0 b h L) (q : ∀ n h', n = h.length → St h0 b h' (L ++ [(n, u)]) → Q (.ref n, h')) : Good (new u h) Q E := q _ _ rfl S.alloc
theorem gd_appS0 {xs : List D} {y : D} (S : St h0 b h ((n, .lst xs) :: L)) (z : xs.length < 16777216) (q : ∀ h', St h0 b h' ((n, .lst (xs ++ [y])) :: L) → Q (.non, h')) : Good (mAppend (.ref n) [y] h) Q E := gd_append S.g0 z (q _ (St.write (L := []) S))
theorem gd_appS1 {xs : List D} {y : D} (S : St h0 b h (c :: (n, .lst xs) :: L)) (z : xs.length < 16777216) (q : ∀ h', St h0 b h' (c :: (n, .lst (xs ++ [y])) :: L) → Q (.non, h')) : Good (mAppend (.ref n) [y] h) Q E := gd_append S.g1 z (q _ (St.write (L := [c]) S))
theorem gd_appS2 {xs : List D} {y : D} (S : St h0 b h (c :: c1 :: (n, .lst xs) :: L)) (z : xs.length < 16777216) (q : ∀ h', St h0 b h' (c :: c1 :: (n, .lst (xs ++ [y])) :: L) → Q (.non, h')) : Good (mAppend (.ref n) [y] h) Q E := gd_append S.g2 z (q _ (St.write (L := [c, c1]) S))
theorem gd_appS3 {xs : List D} {y : D} (S : St h0 b h (c :: c1 :: c2 :: (n, .lst xs) :: L)) (z : xs.length < 16777216) (q : ∀ h', St h0 b h' (c :: c1 :: c2 :: (n, .lst (xs ++ [y])) :: L) → Q (.non, h')) : Good (mAppend (.ref n) [y] h) Q E := gd_append S.g3 z (q _ (St.write (L := [c, c1, c2]) S))
/-! ### the law's bag of numbers -/
def Bag (k : Nat) (o : Ob) : Prop := ∃ p q r, o = .lst [.int p, .int q, .int r] ∧ 0 ≤ r ∧ r ≤ (k : Int)
theorem Bag.mono {k l : Nat} (h : Bag k o) (kl : k ≤ l) : Bag l o := let ⟨p, q, r, e, a, b⟩ := h; ⟨p, q, r, e, a, by omega⟩
theorem Bag.lt {k m : Nat} (h : Bag k o) : o.lt m = true := by
  obtain ⟨p, q, r, rfl, _⟩ := h
  simp [Ob.lt]
/-- a def that draws from the bag at most c times and gives back what is no object -/
def Gen (f : FD) (args : List D) (c : Nat) (P : D → Prop) : Prop :=
  ∀ (h : Hy) (b : Nat) (bg : Ob) (k : Nat), h[b]? = some bg → Bag k bg → k + c < 1000000000000000 → ∃ d h' bg', f (.ref b :: args) h = .ok (d, h') ∧ h'.length = h.length ∧ (∀ m, m ≠ b → h'[m]? = h[m]?) ∧ h'[b]? = some bg' ∧ Bag (k + c) bg' ∧ d.lt 0 = true ∧ P d
theorem gd_gen {f : FD} {args : List D} {c k : Nat} {P : D → Prop} (G : Gen f args c P) (S : St h0 b h ((b, bg) :: L)) (hb : Bag k bg) (hk : k + c < 1000000000000000) (q : ∀ d h' bg', P d → d.lt 0 = true → Bag (k + c) bg' → St h0 b h' ((b, bg') :: L) → Q (d, h')) : Good (f (.ref b :: args) h) Q E := by
  obtain ⟨d, h', bg', e, hl, fr, e1, hb', hd, p⟩ := G h b bg k S.g0 hb hk
  exact gd_of e (q d h' bg' p hd hb' (S.bag fr hl e1))
theorem gen_of {n N c : Nat} {body : FS} {args : List D} {P : D → Prop} (hl : args.length + 1 = n)
    (q : ∀ (h : Hy) (b : Nat) (bg : Ob) (k : Nat), St h b h [(b, bg)] → Bag k bg → k + c < 1000000000000000 → Gs (body (startE N (.ref b :: args)) h) { nx := fun _ _ => False, rt := fun d h1 => d.lt 0 = true ∧ P d ∧ ∃ bg' L, St h b h1 ((b, bg') :: L) ∧ Bag (k + c) bg', bk := fun _ _ => False, ct := fun _ _ => False, ex := fun _ _ _ _ => False }) :
    Gen (defD n N body) args c P := by
  intro h b bg k e hb hk
  have g := q h b bg k (St.start e) hb hk
  rw [defD_own (by simp [hl]) (by simp [D.ltAll, D.lt])]
  cases r : body (startE N (.ref b :: args)) h with
  | rt d h1 =>
    rw [r] at g
    obtain ⟨hd, p, bg', L, S, hb'⟩ := g
    have hbl : b < h.length := (List.getElem?_eq_some_iff.mp e).1
    have o := out_part (x := d) (h := h) (h1 := h1) (b := b) (D.lt_mono hd) hbl S.fr S.g0 hb'.lt S.len
    exact ⟨d, _, bg', o.1, o.2.2.2, o.2.1, o.2.2.1, hb', hd, p⟩
  | nx ρ h1 => rw [r] at g; exact g.elim
  | bk ρ h1 => rw [r] at g; exact g.elim
  | ct ρ h1 => rw [r] at g; exact g.elim
  | exc c d ρ h1 => rw [r] at g; exact g.elim
  | stuck => rw [r] at g; exact g.elim
/-- a comprehension whose elements draw -/
theorem gd_cGen {i k cst nl : Nat} {all : List D} (P : D → Prop) (S : St h0 b h ((b, bg) :: L)) (hb : Bag k bg) (xs : List D) (hnl : xs.length = nl)
    (body : ∀ x ∈ xs, ∀ (h : Hy) (bg : Ob) (k1 : Nat), k1 + cst ≤ k + nl * cst → St h0 b h ((b, bg) :: L) → Bag k1 bg → Good (f (ρ.set i (some x)) h) (fun p => P p.1 ∧ ∃ bg' M, St h0 b p.2 ((b, bg') :: (L ++ M)) ∧ Bag (k1 + cst) bg') NE)
    (q : ∀ ys h' bg', ys.length = nl → (∀ y ∈ ys, P y) → St h0 b h' ((b, bg') :: L) → Bag (k + nl * cst) bg' → QL (ys, h')) : Good (cLoop (.one i) tTrue f ρ all none xs h) QL E := by
  induction xs generalizing h bg k QL nl with
  | nil =>
    unfold cLoop
    rw [if_pos srcOk_none]
    subst hnl
    exact q [] h bg rfl (fun y hy => by cases hy) S (by simpa using hb)
  | cons x xs ih =>
    rw [List.length_cons] at hnl
    subst hnl
    obtain ⟨⟨d, h1⟩, e, p, bg1, M, S1, hb1⟩ := ex_of (body x (by simp) h bg k (by rw [Nat.add_mul, Nat.one_mul]; have := Nat.zero_le (xs.length * cst); omega) S hb)
    rw [cLoop, if_pos srcOk_none]
    simp only [store_one, tTrue_ev, R.calm, R.bind_ok, if_true, e]
    refine gd_bind (ih (St.drop (L := (b, bg1) :: L) S1) hb1 rfl (fun y hy h bg k1 hk1 S hb => body y (List.mem_cons_of_mem _ hy) h bg k1 (by rw [Nat.add_mul, Nat.one_mul]; omega) S hb) fun ys h' bg' hl hp S' hb' => ?_)
    refine q (d :: ys) h' bg' (by simp [hl]) (fun y hy => ?_) S' (hb'.mono (by rw [Nat.add_mul, Nat.one_mul]; omega))
    rcases List.mem_cons.mp hy with rfl | hy
    · exact p
    · exact hp y hy
/-! ### a def whose arguments are objects, and that leaves them as they are -/
theorem gd_same {n N : Nat} {body : FS} {ds : List D} (hl : ds.length = n)
    (q : ∀ h1 : Hy, (D.ltAll 0 ds = true ∨ h1 = h) → St h1 h1.length h1 [] → Gs (body (startE N ds) h1) { nx := fun _ h2 => (∃ L, St h1 h1.length h2 L) ∧ Q (.non, h), rt := fun d h2 => (∃ L, St h1 h1.length h2 L) ∧ d.lt 0 = true ∧ Q (d, h), bk := fun _ _ => False, ct := fun _ _ => False, ex := fun _ _ _ _ => False }) : Good (defD n N body ds h) Q E := by
  cases hp : D.ltAll 0 ds with
  | true =>
    refine gd_pure hl hp ((q [] (.inl hp) St.start0).mono (fun _ _ z => z.2) (fun d h1 z => .pure z.2.1 z.2.2) (fun _ _ z => z) (fun _ _ z => z) fun _ _ _ _ z => z.elim)
  | false =>
    rw [defD_own hl hp]
    have g := q h (.inr rfl) St.start0
    cases r : body (startE N ds) h with
    | rt d h1 =>
      rw [r] at g
      obtain ⟨⟨L, S⟩, e, z⟩ := g
      obtain ⟨g, rfl⟩ := S.pre
      rw [out_rt_clean (D.lt_mono e) Clean.app2, List.take_left' rfl]
      exact z
    | nx ρ h1 =>
      rw [r] at g
      obtain ⟨⟨L, S⟩, z⟩ := g
      obtain ⟨g, rfl⟩ := S.pre
      have e : (RS.nx ρ (h ++ g)).out h = (RS.rt .non (h ++ g)).out h := rfl
      rw [e, out_rt_clean (by simp [D.lt]) Clean.app2, List.take_left' rfl]
      exact z
    | bk ρ h1 => rw [r] at g; exact g.elim
    | ct ρ h1 => rw [r] at g; exact g.elim
    | exc c d ρ h1 => rw [r] at g; exact g.elim
    | stuck => rw [r] at g; exact g.elim
end
end Px
namespace Px
section
variable {E : String → Option D → Hy → Prop} {ρ : Env} {h h0 : Hy} {f : FE} {t : FT} {Q : D × Hy → Prop} {QL : List D × Hy → Prop} {b n : Nat} {o bg : Ob} {c c1 c2 c3 c4 c5 c6 : Nat × Ob} {L M : List (Nat × Ob)}
theorem gd_ixSA {s : Tx} {i : Int} (h0 : 0 ≤ i) (h1 : i < s.length) (z : s.length ≤ 16777216) (q : ∀ c ∈ s, Q (.str [c], h)) : Good (sIx (.str s) (.int i) h) Q E :=
  gd_ixS (c := s.getD i.toNat 'a') (atI_nat h0 h1) z (q _ (by
    have hi : i.toNat < s.length := by omega
    rw [List.getD_eq_getElem?_getD, List.getElem?_eq_getElem hi]
    exact List.getElem_mem hi))
theorem atI_mem {α : Type} {xs : List α} {i : Int} (h0 : 0 ≤ i) (h1 : i < xs.length) : ∃ x ∈ xs, L2.atI xs i = some x := by
  have hi : i.toNat < xs.length := by omega
  exact ⟨xs[i.toNat], List.getElem_mem hi, by rw [atI_nat h0 h1 (d := xs[i.toNat]), List.getD_eq_getElem?_getD, List.getElem?_eq_getElem hi]; rfl⟩
theorem gd_ixLA {xs : List D} {i : Int} (e : h[n]? = some (.lst xs)) (h0 : 0 ≤ i) (h1 : i < xs.length) (q : ∀ x ∈ xs, Q (x, h)) : Good (sIx (.ref n) (.int i) h) Q E := by
  obtain ⟨x, hx, a⟩ := atI_mem h0 h1
  exact gd_ixL e a (q x hx)
theorem gd_ixTA {xs : List D} {i : Int} (h0 : 0 ≤ i) (h1 : i < xs.length) (q : ∀ x ∈ xs, Q (x, h)) : Good (sIx (.tup xs) (.int i) h) Q E := by
  obtain ⟨x, hx, a⟩ := atI_mem h0 h1
  exact gd_ixT a (q x hx)
/-- all of the list are ints between -/
theorem gd_ixLI {xs : List D} {i : Int} (lo hi : Int) (e : h[n]? = some (.lst xs)) (h0 : 0 ≤ i) (h1 : i < xs.length) (hx : ∀ x ∈ xs, ∃ j, x = .int j ∧ lo ≤ j ∧ j ≤ hi) (q : ∀ j, lo ≤ j → j ≤ hi → Q (.int j, h)) : Good (sIx (.ref n) (.int i) h) Q E :=
  gd_ixLA e h0 h1 fun x hm => by
    obtain ⟨j, rfl, a, b⟩ := hx x hm
    exact q j a b
/-- all of the list are texts with P -/
theorem gd_ixLS {xs : List D} {i : Int} (P : Tx → Prop) (e : h[n]? = some (.lst xs)) (h0 : 0 ≤ i) (h1 : i < xs.length) (hx : ∀ x ∈ xs, ∃ j, x = .str j ∧ P j) (q : ∀ j, P j → Q (.str j, h)) : Good (sIx (.ref n) (.int i) h) Q E :=
  gd_ixLA e h0 h1 fun x hm => by
    obtain ⟨j, rfl, a⟩ := hx x hm
    exact q j a
end
end Px
namespace Px
theorem atI0 {α : Type} {x : α} {xs : List α} : L2.atI (x :: xs) 0 = some x := by
  rw [atI_nat (d := x) (by omega) (by simp only [List.length_cons]; omega)]
  rfl
end Px
namespace Px
theorem cut_le {α : Type} (xs : List α) (lo hi : Option Int) : (cut xs lo hi).length ≤ xs.length := by
  unfold cut
  rw [List.length_take, List.length_drop]
  omega
theorem gd_cutSG {E : String → Option D → Hy → Prop} {h : Hy} {Q : D × Hy → Prop} {s : Tx} {lo hi : Option Int} (z : s.length ≤ 16777216) (q : ∀ u : Tx, u.length ≤ s.length → Q (.str u, h)) : Good (sCut (.str s) lo hi h) Q E := gd_cutS z (q _ (cut_le _ _ _))
end Px
namespace Px
section
variable {E : String → Option D → Hy → Prop} {ρ : Env} {h h0 : Hy} {f : FE} {ra : FA} {Q : D × Hy → Prop} {QI : (List D × Option Nat) × Hy → Prop} {b b' n : Nat} {o bg : Ob} {c : Nat × Ob} {L M : List (Nat × Ob)}
theorem gd_ivLst (q : Good (ra ρ h) (fun p => p.2 = h ∧ p.1.length ≤ 16777216 ∧ D.ltAll h.length p.1 = true ∧ QI ((p.1, none), h)) E) : Good (iVal (eLst ra) ρ h) QI E := by
  refine gd_iVal (gd_eLst (q.mono (fun p z => ?_) fun _ _ _ z => z))
  obtain ⟨e, hz, hl, z⟩ := z
  refine gd_mkLst hz (gd_new0 ?_)
  rw [e]
  exact gd_ivA rfl (by rw [hp_last0]; rfl) (Nat.le_refl _) hl z
/-- script[:k] + [0] is walked -/
theorem gd_ivScript {ns : List Int} {k : Int} (hk : 0 ≤ k) (hn : ns.length ≤ 63) (q : QI (((ns.take k.toNat ++ [0]).map D.int, none), h)) :
    Good (iVal (bin sAdd (eCut (eVar 0) oNone (oSome (eC (.int k)))) (eLst (aCons (eC (.int 0)) aNil))) (some (.fl (ns.map D.int)) :: ρ) h) QI E := by
  refine gd_iVal (gd_bin (gd_eCut (gd_v0 (gd_oNone (gd_oSome (gd_c (oi_int (gd_cutF (gd_new0 (gd_eLst (gd_aCons (gd_c (gd_aNil (gd_mkLst (by simp) (gd_new0 ?_)))))))))))))))
  refine gd_addL (a := cut (ns.map D.int) none (some k)) (b := [.int 0]) (by simp) (by simp) (by have := cut_le (ns.map D.int) none (some k); rw [List.length_map] at this; simp; omega) (gd_new0 ?_)
  dsimp only
  refine gd_ivA (xs := cut (ns.map D.int) none (some k) ++ [.int 0]) (g := [.lst (cut (ns.map D.int) none (some k)), .lst [.int 0], .lst (cut (ns.map D.int) none (some k) ++ [.int 0])]) (by simp) (by simp) (by simp) ?_ ?_
  · rw [cut_hi hk, ← List.map_take, D.ltAll_app, D.ltAll_ints]
    simp
  · rw [cut_hi hk, ← List.map_take]
    simpa only [List.map_append, List.map_cons, List.map_nil] using q
theorem St.rebase (S : St [] b h L) (hp : L.Perm M) : St [] b' h M :=
  ⟨Nat.zero_le _, fun m hm => absurd hm (Nat.not_lt_zero _), fun q hq => S.cells q (hp.symm.subset hq), (hp.map _).nodup_iff.mp S.nd, fun q _ => .inr (Nat.zero_le _)⟩
theorem St.rot (S : St [] b h (L ++ [c])) : St [] b' h (c :: L) := S.rebase (List.perm_append_comm (l₁ := L) (l₂ := [c]))
theorem St.tail (S : St h0 b h (c :: L)) : St h0 b h L :=
  ⟨S.len, S.fr, fun q hq => S.cells q (List.mem_cons_of_mem _ hq), (List.nodup_cons.mp S.nd).2, fun q hq => S.new q (List.mem_cons_of_mem _ hq)⟩
theorem St.any (S : St [] b h L) : St [] b' h L := S.rebase (List.Perm.refl _)
end
end Px
namespace Px
open PySem PySem.Spec PyProof.Rows L2
/-! ## a, b = x, y -/
def sPar2 (i j : Nat) (f g : FE) : FS := fun ρ h => (f ρ h).toS ρ fun p => (g ρ p.2).toS ρ fun r => .nx ((ρ.set i (some p.1)).set j (some r.1)) r.2
section
variable {X : Cx} {W : WX} {pos : Pos} {a b : Expr} {fa fb : FE}
theorem pxs_par2 {x y : Str} {px py pt : Pos} {kt k2 pt2} (i j : Nat) (hN : X.N.Nodup) (ha : PX X W a fa) (hb : PX X W b fb) (hc : X.calm = true := by first | rfl | assumption) (hi : X.N[i]? = some x := by rfl) (hj : X.N[j]? = some y := by rfl) (hij : i ≠ j := by decide)
    (hx : X.env.scope.names.lookup x = some .local := by rfl) (hy : X.env.scope.names.lookup y = some .local := by rfl)
    (hs1 : starEach [a, b] X.env = (false, eval a X.env) :: starEach [b] X.env := by rfl) (hs2 : starEach [b] X.env = (false, eval b X.env) :: starEach [] X.env := by rfl)
    (hw : swappedStores [.Tuple [.Name x px, .Name y py] kt pt] (.Tuple [a, b] k2 pt2) X.env = pure (some [x, y]) := by rfl)
    (hs : swapsWithSole [.Tuple [.Name x px, .Name y py] kt pt] (.Tuple [a, b] k2 pt2) pos.line X.env = pure false := by rfl) :
    PXS X W (.Assign [.Tuple [.Name x px, .Name y py] kt pt] (.Tuple [a, b] k2 pt2) pos) (sPar2 i j fa fb) := by
  refine ⟨PS.mono (ps_par hc hN hi hj hij hx hy (pa_cons ha.pe (pa_cons hb.pe pa_nil hs2) hs1) hw hs) fun D σ H ⟨ι, ρ, h, hρ, hh, g⟩ => ?_⟩
  refine tE_seqS hρ hh g fun p ι1 H1 v1 e1 h1 r1 hρ1 q1 => tE_seqS hρ1 h1 q1 fun p2 ι2 H2 v2 e2 h2 r2 hρ2 q2 => ?_
  exact ⟨_, _, rfl, q2 ι2 H2 _ Ext.refl h2 ((hρ2.set (r1.ext e2) i).set r2 j)⟩
end
section
variable {ρ : Env} {h : Hy} {f g : FE} {k : Kn}
theorem gs_par2 {i j : Nat} (q : Good (f ρ h) (fun p => Good (g ρ p.2) (fun r => k.nx ((ρ.set i (some p.1)).set j (some r.1)) r.2) (fun c d h => k.ex c d ρ h)) (fun c d h => k.ex c d ρ h)) : Gs (sPar2 i j f g ρ h) k := gs_toS (q.mono (fun p z => gs_toS z) fun _ _ _ z => z)
end
end Px
namespace PySem.SeqAt
open AutoSeq1 (wpAny_loadPart')
open MeetsSeq
theorem dict_eq_declines_strP (l : Addr) (es : Array DictEntry) (ep : Nat) (dd : Option Addr) (sl : Array (Option Value)) (b : Str) (u : Tok) :
    Meets (Builtin.«dict.__eq__» ⟨[.ref l, .str b u], []⟩) (fun _ R s => s.heap.get? l = some { cls := .type "dict", dict := dd, data := .dict es ep, slots := sl } ∧ R (.ok (.ret .notImplemented)) s) :=
  .of_wp fun prog w A R s h => by obtain ⟨hp, g, d, tk, os⟩ := s; obtain ⟨hl, h⟩ := h; have f1 := F.sub_str_dict; wp_walk using wpAny_loadPart' hl; exact ⟨_, rfl, h⟩
theorem str_eq_declines_dictP (b : Str) (u : Tok) (l : Addr) (es : Array DictEntry) (ep : Nat) (dd : Option Addr) (sl : Array (Option Value)) :
    Meets (Builtin.«str.__eq__» ⟨[.str b u, .ref l], []⟩) (fun _ R s => s.heap.get? l = some { cls := .type "dict", dict := dd, data := .dict es ep, slots := sl } ∧ R (.ok (.ret .notImplemented)) s) :=
  .of_wp fun prog w A R s h => by obtain ⟨hp, g, d, tk, os⟩ := s; obtain ⟨hl, h⟩ := h; wp_walk using wpAny_loadPart' hl, wpAny_load hl; exact ⟨_, rfl, h⟩
theorem RcAt.str_dictP {A : Around} {s : Shared} {l : Addr} {o : Obj} (b : Str) (u : Tok) (hl : s.heap.get? l = some o) (hc : o.cls = .type "dict") {es : Array DictEntry} {ep : Nat} (hd : o.data = .dict es ep) (hu : A.units < cLine) : RcAt A s (.str b u) (.ref l) false := fun prog w E Q h => by
  obtain ⟨cls, dd, data, sl⟩ := o
  simp only at hc hd
  subst hc hd
  exact rc_eq_decline_or (k := false) (typeIs_str s b u) ⟨_, hl, rfl⟩ (by decide) F.sub_dict_str F.slot_str_eq F.slot_dict_eq_refl
    (fun _ hq => call_meets F.slot_str_eq (typeIs_str s b u) F.entry_str_eq (F.args_str_eq_2 _ _) (str_eq_declines_dictP b u l es ep dd sl) ⟨hl, hq⟩)
    (fun _ hq => call_meets F.slot_dict_eq_refl ⟨_, hl, rfl⟩ F.entry_dict_eq (F.args_dict_eq_2 _ _) (dict_eq_declines_strP l es ep dd sl b u) ⟨hl, hq⟩)
    (fun _ hq => wpAny_of_eq (rfl : isSame (.str b u) (.ref l) = pure false) hq) (.inr hu) h
theorem EqAt.str_dictP {A : Around} {s : Shared} {l : Addr} {o : Obj} (b : Str) (u : Tok) (hl : s.heap.get? l = some o) (hc : o.cls = .type "dict") {es : Array DictEntry} {ep : Nat} (hd : o.data = .dict es ep) (hu : A.units < cLine) : EqAt A s (.str b u) (.ref l) false := fun prog w E Q h => by
  unfold eqBool
  refine wpAny_holding ?_
  refine wpAny_ite_split (fun hab => absurd (eq_of_beq hab) nofun) (fun _ => ?_)
  exact wpAny_bind (RcAt.str_dictP b u hl hc hd hu prog w E _ (wpAny_truthy_bool h))
end PySem.SeqAt
namespace Px
open PySem PySem.Spec PyProof.Rows L2
def rInDic (K : PySem.W.Frag) : R2 := fun x y H Q => ∃ a kvs p xs, x = .ref a ∧ y = .ref p ∧ H a = some (.dK kvs) ∧ SqT K H p xs ∧ (∀ y ∈ xs, ∃ s : Str, y = V.str s) ∧ Q (.bl false) H
theorem strs_eqAt {A : Around} {s : Shared} {l : Addr} {o : Obj} (hl : s.heap.get? l = some o) (hc : o.cls = .type "dict") {es : Array DictEntry} {ep : Nat} (hd : o.data = .dict es ep) (hu : A.units < cLine) : ∀ {xs : List V} {us : List Value}, Vals xs us → (∀ y ∈ xs, ∃ s : Str, y = V.str s) → ∀ u ∈ us, SeqAt.EqAt A s u (.ref l) false
  | _, _, .nil, _ => fun u hu => by cases hu
  | y :: xs, u :: us, .cons r t, f => fun u' hu' => by
    rcases List.mem_cons.mp hu' with rfl | hu'
    · obtain ⟨z, rfl⟩ := f y (by simp)
      obtain ⟨tk, rfl⟩ := r
      exact SeqAt.EqAt.str_dictP z tk hl hc hd hu
    · exact strs_eqAt hl hc hd hu t (fun y hy => f y (List.mem_cons_of_mem _ hy)) u' hu'
section
variable {X : Cx} {W : WX}
theorem op_inDic (hu : X.A.units + 65 < cLine) : OpR X (compareOp .In) (rInDic X.K) := by
  intro pins s σ H x y v u Q I rx ry h
  obtain ⟨a, kvs, p, xs, rfl, rfl, ea, hq, fs, q⟩ := h
  obtain rfl : v = Value.ref a := rx
  obtain rfl : u = Value.ref p := ry
  obtain ⟨_, ya, va, ra, oa, es, ep, hoa, hx, hda, _⟩ := (show ObjOk X.prog X.w H s.heap a (.dK kvs) from I.hok a _ ea)
  obtain ⟨its, r, pl, hz⟩ := I.tuple hq
  refine SeqAt.in_tupleAt (fun _ => false) pl (fun w hw => strs_eqAt hoa hx.1 hda ?_ r fs w (by simpa using hw)) ⟨.bl _, H, I, rfl, ?_⟩
  · show X.A.in1.units < cLine
    have : X.A.in1.units ≤ X.A.units + 1 := by simp [Around.in1]
    omega
  · rw [show its.toArray.any (fun _ => false) = false by simp]
    exact q
def isTx : D → Bool
  | .str _ => true
  | _ => false
/-- x in a tuple, where x may be a dict of ours and the tuple has texts alone -/
def sInO (x y : D) (h : Hy) : R (D × Hy) := match x, y with
  | .ref n, .tup ds => match h[n]? with
    | some (.dic _) => if ds.all isTx = true then .ok (.bl false, h) else .stuck
    | _ => sIn (.ref n) (.tup ds) h
  | x, y => sIn x y h
theorem reps_tx {K : PySem.W.Frag} {ι : List Addr} {H : Hp} : ∀ {vs : List V} {ds : List D}, Reps K ι H vs ds → ds.all isTx = true → ∀ y ∈ vs, ∃ s : Str, y = V.str s
  | _, _, .nil, _ => fun y hy => by cases hy
  | _, _, .cons r t, e => fun y hy => by
    rw [List.all_cons, Bool.and_eq_true] at e
    rcases List.mem_cons.mp hy with rfl | hy
    · cases r <;> first | exact ⟨_, rfl⟩ | (simp [isTx] at e)
    · exact reps_tx t e.2 y hy
theorem imp_inO : Imp2 X.K W sInO (fun x y H Q => rInDic X.K x y H Q ∨ rInG X.K x y H Q) := by
  intro ι H h σ x y vx vy Q hh rx ry g
  unfold sInO at g
  split at g
  · rename_i n ds
    split at g
    · rename_i kvs e
      split at g
      · rename_i hs
        refine .inl ?_
        cases rx with
        | ref hn =>
          obtain ⟨kv, hkv, _⟩ := hh.at_ _ _ _ hn e
          cases ry with
          | tup hq rs => exact ⟨_, kv, _, _, rfl, rfl, hkv, hq, reps_tx rs hs, g.same hh (.bl _)⟩
      · exact g.elim
    · exact .inr (imp_in ι H h σ _ _ vx vy Q hh rx ry g)
  · exact .inr (imp_in ι H h σ _ _ vx vy Q hh rx ry g)
theorem px_inO {k : Nat} {a b : Expr} {fa fb : FE} {pos : Pos} (hr : Room k X.A) (ha : PX X W a fa) (hb : PX X W b fb) (hm : behindInMarks .In b = false := by first | rfl | with_unfolding_all rfl) : PX X W (.Compare a [.In] [b] pos) (bin sInO fa fb) := px_cmp ((op_inDic (hu65 hr)).or (op_inG (hu65 hr))) imp_inO ha hb hm
end
section
variable {E : String → Option D → Hy → Prop} {h : Hy} {Q : D × Hy → Prop} {x : D}
theorem sInO_in {x y : D} {h : Hy} (hn : ∀ n ds kvs, x = .ref n → y = .tup ds → h[n]? ≠ some (.dic kvs)) : sInO x y h = sIn x y h := by
  unfold sInO
  split
  · rename_i n ds
    split
    · rename_i kvs e
      exact absurd e (hn n ds kvs rfl rfl)
    · rfl
  · rfl
end
end Px
namespace Px
open PySem PySem.Spec PyProof.Rows L2
/-! ## list(text) -/
def rLstStr : List V → Hp → VK → Prop := fun xs H Q => ∃ z : Str, xs = [.str z] ∧ z.length ≤ sizeLine ∧ ∀ l, H l = none → Q (.ref l) (upd H l (.lst (z.cps.toList.map fun c => V.str ⟨#[c]⟩)))
theorem call_list_txt {X : Cx} (hc : X.calm = true) : CallR X (.type "list") rLstStr := by
  intro pins s σ H xs us Q I r hq
  obtain ⟨z, rfl, hz, q⟩ := hq
  cases r with
  | cons r1 r2 =>
    cases r2
    obtain ⟨t, rfl⟩ := r1
    refine call_list_str (I.ok.hd hc) z t (fun h' tk acc c' kp ho it => ?_) hz
    have len : acc.toList.length = z.cps.toList.length := by simpa using it.1
    have vals : Vals (z.cps.toList.map fun c => V.str ⟨#[c]⟩) acc.toList := sign_vals (z := z) z.cps.toList 0 acc.toList len fun j v e => by
      obtain ⟨c, u, e1, e2⟩ := it.2 j v (by simpa using e)
      exact ⟨c, u, by simpa using e1, e2⟩
    exact ⟨.ref s.heap.objs.size, _, I.laid (t' := tk) kp (Nat.le_refl _) (show ObjOk X.prog X.w _ h' _ (.lst _) from ⟨by rw [List.length_map, Array.length_toList]; exact hz, acc.toList, c', vals, by simpa using ho⟩), rfl, q _ (I.hok.fresh (Nat.le_refl _))⟩
def gListG (xs : List D) (h : Hy) : R (D × Hy) := match xs with
  | [.str s] => if s.length ≤ 16777216 then new (.lst (s.map fun c => D.str [c])) h else .stuck
  | _ => gList xs h
theorem imp_listG {X : Cx} {W : WX} : ImpL X.K W gListG (fun xs H Q => rLstStr xs H Q ∨ ∃ p ys, xs = [.ref p] ∧ (SqL X.K H p ys ∨ SqT X.K H p ys) ∧ ∀ l, H l = none → Q (.ref l) (upd H l (.lst ys))) := by
  intro ι H h σ xs vs Q hh rs g
  unfold gListG at g
  split at g
  · rename_i s
    split at g
    · rename_i hz
      cases rs with
      | cons r rs =>
        cases rs
        cases r
        exact .inl ⟨_, rfl, by rw [toS_length]; exact hz, fun l hl => VW.newLst g hh (reps_signs s) hl⟩
    · exact g.elim
  · exact .inr (imp_list (X := X) (W := W) ι H h σ xs vs Q hh rs g)
section
variable {X : Cx} {W : WX} {pos p : Pos} {e : Expr} {es : List Expr} {t : FA}
theorem pxc_listG (hc : X.calm = true) (hm : X.mg "list" = none) (ha : PXA X W (e :: es) t) (hg : Gl X "list" := by rfl) (he : starEach (e :: es) X.env = (false, eval e X.env) :: starEach es X.env := by rfl) (hpl : (backTo pos (starEach es X.env)).any (·.1) = false := by rfl) :
    PX X W (.Call (.Name "list" p) (e :: es) [] pos) (eCall gListG t) := px_callTy ((call_list_txt hc).or call_list_of) imp_listG hm ha hg (by decide +kernel) (by decide) (by decide) he hpl
end
section
variable {E : String → Option D → Hy → Prop} {h : Hy} {Q : D × Hy → Prop}
theorem gd_listS {s : Tx} (z : s.length ≤ 16777216) (q : Good (new (.lst (s.map fun c => D.str [c])) h) Q E) : Good (gListG [.str s] h) Q E := by
  show Good (if s.length ≤ 16777216 then new (.lst (s.map fun c => D.str [c])) h else .stuck) Q E
  exact gd_if z q
end
end Px
namespace L2
open PySem PySem.Spec PyProof.Rows
theorem tuple_mulSame (l : Addr) (items : Array Value) (n : Nat) (dd : Option Addr) (sl : Array (Option Value)) (x : Int) (u : Tok) (c0 : (decide (x < -(2 ^ 63)) || decide (x ≥ 2 ^ 63)) = false) (c1 : (items.isEmpty || x == 1) = true) :
    Meets (Builtin.«tuple.__mul__» ⟨[.ref l, .int x u], []⟩) (fun _ R s => s.heap.get? l = some { cls := .type "tuple", dict := dd, data := .seq items n, slots := sl } ∧ R (.ok (.ret (Value.ref l))) s) :=
  .of_wp fun prog w A R s h => by
    obtain ⟨hp, g, d, tk, os⟩ := s
    obtain ⟨hl, h⟩ := h
    have f1 := AutoSeq1.idx_int
    wp_walk using wpAny_loadPart' hl, wpAny_load hl
    repeat (first
      | (refine wpAny_ite_false (decide_eq_false (by rw [c0]; exact Bool.false_ne_true)) ?_; wp_walk using wpAny_loadPart' hl, wpAny_load hl)
      | (refine wpAny_ite_true (decide_eq_true c1) ?_; wp_walk using wpAny_loadPart' hl, wpAny_load hl))
    exact ⟨_, rfl, h⟩
theorem tuple_mulNone (l : Addr) (items : Array Value) (n : Nat) (dd : Option Addr) (sl : Array (Option Value)) (x : Int) (u : Tok) (c0 : (decide (x < -(2 ^ 63)) || decide (x ≥ 2 ^ 63)) = false) (c1 : (items.isEmpty || x == 1) = false) (c2 : (decide (x ≤ 0) || items.isEmpty) = true) :
    Meets (Builtin.«tuple.__mul__» ⟨[.ref l, .int x u], []⟩) (fun _ R s => s.heap.get? l = some { cls := .type "tuple", dict := dd, data := .seq items n, slots := sl } ∧
      R (.ok (.ret (Value.ref s.heap.objs.size))) { s with heap := s.heap.push { cls := Value.type "tuple", data := Data.seq #[] }, toks := s.toks }) :=
  .of_wp fun prog w A R s h => by
    obtain ⟨hp, g, d, tk, os⟩ := s
    obtain ⟨hl, h⟩ := h
    have f1 := AutoSeq1.idx_int
    wp_walk using wpAny_loadPart' hl
    repeat (first
      | (refine wpAny_ite_false (decide_eq_false (by rw [c0]; exact Bool.false_ne_true)) ?_; wp_walk using wpAny_loadPart' hl)
      | (refine wpAny_ite_false (decide_eq_false (by rw [c1]; exact Bool.false_ne_true)) ?_; wp_walk using wpAny_loadPart' hl)
      | (refine wpAny_ite_true (decide_eq_true c2) ?_; wp_walk using wpAny_loadPart' hl))
    exact ⟨_, rfl, h⟩
def rRepT2 (K : PySem.W.Frag) : R2 := fun x y H Q => ∃ l k xs, x = .ref l ∧ y = .int k ∧ SqT K H l xs ∧ -9000000000000000000 < k ∧ k < 9000000000000000000 ∧ (((xs = [] ∨ k = 1) ∧ Q (.ref l) H) ∨ (xs ≠ [] ∧ k ≤ 0 ∧ ∀ p, H p = none → Q (.ref p) (upd H p (.tup []))))
section
variable {X : Cx}
theorem op_repT2 : OpR X (binaryOp .Mult) (rRepT2 X.K) := by
  intro pins s σ H x y v u Q I rx ry h
  obtain ⟨l, k, xs, rfl, rfl, hT, h1, h2, q⟩ := h
  cases rx
  obtain ⟨t, rfl⟩ := ry
  obtain ⟨its, r, ⟨⟨cls, dd, data, sl⟩, ho, hc, n, hd⟩, hs⟩ := I.tuple hT
  simp only at hc hd
  subst hc hd
  have hle : its.length = xs.length := r.length.symm
  have c0 : (decide (k < -(2 ^ 63)) || decide (k ≥ 2 ^ 63)) = false := by
    rw [decide_eq_false (by omega), decide_eq_false (by omega)] <;> rfl
  rcases q with ⟨hk, q⟩ | ⟨hne, hk, q⟩
  · have c1 : (its.toArray.isEmpty || k == 1) = true := by
      rcases hk with rfl | rfl
      · have : its = [] := List.eq_nil_of_length_eq_zero (by simpa using hle)
        rw [this]; rfl
      · simp
    refine wpAny_binaryOp_repeat_ref (T := "tuple") (U := "int") (by decide) ⟨_, ho, rfl⟩ (fun s' => typeIs_int s' k t) noFill_tuple_mul F.fills_int_mul F.slot_int_rmul repeat_tuple F.slot_int_index.lookup
      (call_meets F.slot_int_rmul (typeIs_int s k t) F.entry_int_rmul (F.args_int_rmul_2 _ _) (int_rmul_tuple k t l its.toArray n dd sl)
        ⟨ho, rfl, ⟨_, ho, rfl⟩, call_meets F.slot_tuple_mul ⟨_, ho, rfl⟩ F.entry_tuple_mul (F.args_tuple_mul_2 _ _) (tuple_mulSame l its.toArray n dd sl k t c0 c1) ⟨ho, ?_⟩⟩)
    exact ⟨.ref l, H, I, rfl, q⟩
  · have hn : its ≠ [] := fun e => hne (by
      rw [e] at hle
      exact List.eq_nil_of_length_eq_zero hle.symm)
    have hi : its.toArray.isEmpty = false := by
      cases its with
      | nil => exact absurd rfl hn
      | cons a b => rfl
    have c1 : (its.toArray.isEmpty || k == 1) = false := by
      rw [hi, Bool.false_or]
      exact beq_eq_false_iff_ne.mpr (by omega)
    have c2 : (decide (k ≤ 0) || its.toArray.isEmpty) = true := by
      rw [hi, Bool.or_false]
      exact decide_eq_true hk
    refine wpAny_binaryOp_repeat_ref (T := "tuple") (U := "int") (by decide) ⟨_, ho, rfl⟩ (fun s' => typeIs_int s' k t) noFill_tuple_mul F.fills_int_mul F.slot_int_rmul repeat_tuple F.slot_int_index.lookup
      (call_meets F.slot_int_rmul (typeIs_int s k t) F.entry_int_rmul (F.args_int_rmul_2 _ _) (int_rmul_tuple k t l its.toArray n dd sl)
        ⟨ho, rfl, ⟨_, ho, rfl⟩, call_meets F.slot_tuple_mul ⟨_, ho, rfl⟩ F.entry_tuple_mul (F.args_tuple_mul_2 _ _) (tuple_mulNone l its.toArray n dd sl k t c0 c1 c2) ⟨ho, ?_⟩⟩)
    refine ⟨.ref s.heap.objs.size, _, I.laid (t' := s.toks) (o := .tup []) (fun b ob q => Heap.get?_push_of_some _ q) (Nat.le_refl _) ?_, rfl, q _ (I.hok.fresh (Nat.le_refl _))⟩
    exact ⟨by simp, [], .nil, IsTup.new _ _⟩
end
end L2
namespace Px
open PySem PySem.Spec PyProof.Rows L2
/-- a tuple times a number -/
def sMulT (x y : D) (h : Hy) : R (D × Hy) := match x, y with
  | .tup xs, .int k => if -9000000000000000000 < k ∧ k < 9000000000000000000 then
      if xs = [] ∨ k = 1 then .ok (.tup xs, h)
      else if k ≤ 0 then .ok (.tup [], h)
      else if k ≤ 1000 ∧ xs.length ≤ 1000 then .ok (.tup (List.replicate k.toNat xs).flatten, h) else .stuck
    else .stuck
  | x, y => sMul x y h
section
variable {X : Cx} {W : WX}
theorem imp_mulT : Imp2 X.K W sMulT (fun x y H Q => (rRepT2 X.K x y H Q ∨ rRepT X.K x y H Q) ∨ rMulG x y H Q) := by
  intro ι H h σ x y vx vy Q hh rx ry g
  unfold sMulT at g
  split at g
  · rename_i xs k
    split at g
    · rename_i hk
      cases rx with
      | tup hq rs =>
        cases ry
        have hl := rs.length
        split at g
        · rename_i h1
          refine .inl (.inl ⟨_, k, _, rfl, rfl, hq, hk.1, hk.2, .inl ⟨?_, g.same hh (.tup hq rs)⟩⟩)
          rcases h1 with rfl | h1
          · exact .inl (List.eq_nil_of_length_eq_zero (by simpa using hl))
          · exact .inr h1
        · rename_i h1
          have hne : xs ≠ [] := fun z => h1 (.inl z)
          have hne2 : ∀ vs : List V, vs.length = xs.length → vs ≠ [] := fun vs e z => by
            rw [z] at e
            exact hne (List.eq_nil_of_length_eq_zero e.symm)
          split at g
          · rename_i h2
            exact .inl (.inl ⟨_, k, _, rfl, rfl, hq, hk.1, hk.2, .inr ⟨hne2 _ hl, h2, fun p hp => VW.newTup g hh .nil hp⟩⟩)
          · rename_i h2
            split at g
            · rename_i h3
              have : k ≠ 1 := fun z => h1 (.inr z)
              exact .inl (.inr ⟨_, k, _, rfl, rfl, hq, hne2 _ hl, by omega, h3.1, by rw [hl]; exact h3.2, fun p hp => VW.newTup g hh (rs.rep _) hp⟩)
            · exact g.elim
    · exact g.elim
  · exact .inr (imp_mul ι H h σ _ _ vx vy Q hh rx ry g)
theorem px_mulT {a b : Expr} {fa fb : FE} {pos : Pos} (ha : PX X W a fa) (hb : PX X W b fb) : PX X W (.BinOp a .Mult b pos) (bin sMulT fa fb) := px_bin ((op_repT2.or op_repT).or op_mulG) imp_mulT ha hb
end
end Px
namespace Px
open PySem PySem.Spec PyProof.Rows L2
/-! ## t < u of tuples of ints -/
def ltTup (ns ms : List Int) : Bool := Ob.lexAt (fun j => decide (ns.getD j 0 = ms.getD j 0)) (fun j => decide (ns.getD j 0 < ms.getD j 0)) (decide (ns.length < ms.length)) 0 (min ns.length ms.length)
def rLtT (K : PySem.W.Frag) : R2 := fun x y H Q => ∃ (a b : Addr) (ns ms : List Int), x = .ref a ∧ y = .ref b ∧ SqT K H a (ns.map V.int) ∧ SqT K H b (ms.map V.int) ∧ Q (.bl (ltTup ns ms)) H
section
variable {X : Cx} {W : WX}
theorem op_ltT (hu : X.A.units < cLine) : OpR X (compareOp .Lt) (rLtT X.K) := by
  intro pins s σ H x y v u Q I rx ry h
  obtain ⟨a, b, ns, ms, rfl, rfl, ha, hb, q⟩ := h
  cases rx
  cases ry
  obtain ⟨us, r1, p1, _⟩ := I.tuple ha
  obtain ⟨ws, r2, p2, _⟩ := I.tuple hb
  have i1 : IntsAre us ns := Vals.ints r1
  have i2 : IntsAre ws ms := Vals.ints r2
  have l1 : us.toArray.size = ns.length := by rw [List.size_toArray]; exact i1.length
  have l2 : ws.toArray.size = ms.length := by rw [List.size_toArray]; exact i2.length
  have g1 : ∀ j (hj : j < us.toArray.size), ∃ t, us.toArray[j] = .int (ns.getD j 0) t := fun j hj => PyProof.Rows.IntsAre.int_at i1 _ _ (by simp at hj; simp [hj])
  have g2 : ∀ j (hj : j < ws.toArray.size), ∃ t, ws.toArray[j] = .int (ms.getD j 0) t := fun j hj => PyProof.Rows.IntsAre.int_at i2 _ _ (by simp at hj; simp [hj])
  have key := Ob.RcOp.tuples_lt (A := X.A) (s := s) (e := fun j => decide (ns.getD j 0 = ms.getD j 0)) (r := fun j => decide (ns.getD j 0 < ms.getD j 0)) p1 p2 hu (fun j h1 h2 => by
    obtain ⟨t, et⟩ := g1 j h1
    obtain ⟨t', et'⟩ := g2 j h2
    rw [et, et']
    have z := SeqAt.EqAt.int_int (A := X.A.in1) (s := s) (ns.getD j 0) t (ms.getD j 0) t'
    have e : (ns.getD j 0 == ms.getD j 0) = decide (ns.getD j 0 = ms.getD j 0) := by
      rw [Bool.eq_iff_iff, beq_iff_eq, decide_eq_true_eq]
    rw [e] at z
    exact z) (fun j h1 h2 _ => by
    obtain ⟨t, et⟩ := g1 j h1
    obtain ⟨t', et'⟩ := g2 j h2
    rw [et, et']
    exact Ob.RcOp.lt_int _ _ _ _)
  rw [l1, l2] at key
  have z : wpAny (model X.prog X.w) X.A (compareOp .Lt (.ref a) (.ref b)) (EP X pins σ Q) X.xe s := key X.prog X.w X.xe (EP X pins σ Q) ⟨.bl _, H, I, rfl, q⟩
  exact z
def intsD : List D → Option (List Int)
  | [] => some []
  | .int i :: r => (intsD r).map (i :: ·)
  | _ => none
theorem intsD_map : ∀ ns : List Int, intsD (ns.map D.int) = some ns
  | [] => rfl
  | n :: ns => by simp [intsD, intsD_map ns]
theorem reps_intsD {K : PySem.W.Frag} {ι : List Addr} {H : Hp} : ∀ {vs : List V} {ds : List D}, Reps K ι H vs ds → ∀ {ns : List Int}, intsD ds = some ns → vs = ns.map V.int
  | _, _, .nil, ns, e => by cases e; rfl
  | _, _, .cons (d := d) r t, ns, e => by
    cases r with
    | int i =>
      unfold intsD at e
      obtain ⟨ms, e2, rfl⟩ := Option.map_eq_some_iff.mp e
      rw [reps_intsD t e2]
      rfl
    | _ => simp [intsD] at e
def sLtT (x y : D) (h : Hy) : R (D × Hy) := match x, y with
  | .tup xs, .tup ys => match intsD xs, intsD ys with
    | some ns, some ms => .ok (.bl (ltTup ns ms), h)
    | _, _ => .stuck
  | x, y => sLt x y h
theorem imp_ltT : Imp2 X.K W sLtT (fun x y H Q => rLtT X.K x y H Q ∨ rCmpG (fun i j => decide (i < j)) (fun i j => decide (i.cps.toList < j.cps.toList)) x y H Q) := by
  intro ι H h σ x y vx vy Q hh rx ry g
  unfold sLtT at g
  split at g
  · split at g
    · rename_i ns ms e1 e2
      cases rx with
      | tup h1 r1 =>
        cases ry with
        | tup h2 r2 =>
          refine .inl ⟨_, _, ns, ms, rfl, rfl, ?_, ?_, g.same hh (.bl _)⟩
          · rw [← reps_intsD r1 e1]; exact h1
          · rw [← reps_intsD r2 e2]; exact h2
    · exact g.elim
  · exact .inr (imp_lt ι H h σ _ _ vx vy Q hh rx ry g)
theorem pxt_ltT {k : Nat} {a b : Expr} {fa fb : FE} {pos : Pos} (hr : Room k X.A) (ha : PX X W a fa) (hb : PX X W b fb) (hm : behindInMarks .Lt b = false := by first | rfl | with_unfolding_all rfl) : PXT X W (.Compare a [.Lt] [b] pos) (bOf (bin sLtT fa fb)) :=
  pxt_cmp ((op_ltT (by have := hu65 hr; omega)).or (op_lt.or op_lt_str)) imp_ltT ha hb hm
end
end Px
namespace Px
open PySem PySem.Spec PyProof.Rows L2
/-! ## t[::-1] of a tuple -/
theorem rev_adj (n : Nat) : Builtin.Slice.sliceAdjust none none (-1) (n : Int) = ((n : Int) - 1, -1) := by
  unfold Builtin.Slice.sliceAdjust
  simp
theorem rev_places (n : Nat) : Builtin.Slice.slicePlaces ((n : Int) - 1) (-1) (-1) = n := by
  unfold Builtin.Slice.slicePlaces
  have h1 : ¬ ((-1 : Int) > 0) := by omega
  simp only [h1, if_false, Int.neg_neg, Int.ediv_one]
  split <;> omega
theorem rev_pick (xs : List Value) : ((List.range xs.length).filterMap fun (k : Nat) => xs.toArray[((xs.length : Int) - 1 + (k : Int) * (-1)).toNat]?).toArray = xs.reverse.toArray := by
  congr 1
  have : ∀ k ∈ List.range xs.length, xs.toArray[((xs.length : Int) - 1 + (k : Int) * (-1)).toNat]? = some (xs.reverse.getD k .none) := by
    intro k hk
    have hk := List.mem_range.mp hk
    have e : ((xs.length : Int) - 1 + (k : Int) * (-1)).toNat = xs.length - 1 - k := by omega
    rw [e, List.getD_eq_getElem?_getD, List.getElem?_reverse hk]
    simp only [List.getElem?_toArray]
    rw [List.getElem?_eq_getElem (by omega)]
    rfl
  have h2 : ((List.range xs.length).filterMap fun (k : Nat) => xs.toArray[((xs.length : Int) - 1 + (k : Int) * (-1)).toNat]?) = (List.range xs.length).map fun k => xs.reverse.getD k .none := by
    generalize List.range xs.length = r at this
    induction r with
    | nil => rfl
    | cons a r ih => rw [List.filterMap_cons, this a (by simp), List.map_cons, ih fun k hk => this k (List.mem_cons_of_mem _ hk)]
  rw [h2]
  apply List.ext_getElem
  · simp
  · intro i h3 h4
    simp at h3 h4
    simp [h3]
theorem getItem_tuple_rev {prog : Program} {w : World} {A : Around} {E : Value → Shared → Prop} {s : Shared} {t sl : Addr} {xs : List Value} {tk : Tok} {Q : Value → Shared → Prop} (ht : IsTup s.heap t xs.toArray) (hs : s.heap.IsSliceOf sl .none .none (.int (-1) tk))
    (h : Q (.ref s.heap.objs.size) { s with heap := s.heap.push { cls := .type "tuple", data := .seq xs.reverse.toArray } }) (hsz : xs.length ≤ sizeLine) : wpAny (model prog w) A (getItem (.ref t) (.ref sl)) Q E s := by
  have htake : sizeOk (.seq xs.reverse.toArray) := by
    show xs.reverse.toArray.size ≤ sizeLine
    rw [List.size_toArray, List.length_reverse]
    exact hsz
  obtain ⟨os, hos, hcs, hds⟩ := id hs
  have hTs : s.TypeIs (.ref sl) "slice" := ⟨os, hos, hcs⟩
  unfold getItem
  try with_reducible refine wpAny_holding ?_
  first | refine wpAny_bind (wpAny_pure ?_) | skip
  refine wpAny_bind (wpAny_sequenceKey ht.typeIs (by decide) ?_)
  refine wpAny_bind (wpAny_callSpecial?_slot (name := Str.ofString "__getitem__") ht.typeIs PyProof.Rows.slot_tuple_getitem
    (wpAny_call_entry PyProof.Rows.slot_tuple_getitem ht.typeIs PyProof.Rows.entry_tuple_getitem ?_ (PyProof.Rows.args_tuple_getitem _ _)))
  show wpAny _ _ (Builtin.Tuple.tupleItemsOf (.ref t) >>= _) _ _ s
  refine wpAny_bind (PyProof.Rows.tupleItemsOf_ ht ?_)
  refine wpAny_bind (wpAny_typeOf hTs ?_)
  rw [if_pos (by decide)]
  refine wpAny_bind ?_
  unfold Builtin.Slice.sliceApplied Builtin.Slice.sliceFields
  refine wpAny_bind (wpAny_bind (wpAny_field hos hds (x := .none) rfl (wpAny_bind (wpAny_field hos hds (x := .none) rfl (wpAny_bind (wpAny_field hos hds (x := .int (-1) tk) rfl (wpAny_pure ?_)))))))
  refine wpAny_bind (HT.slicePart_ (.int (-1) tk) ?_)
  show wpAny _ _ (if ((-1 : Int) == 0) = true then _ else _) _ _ s
  rw [if_neg (by decide)]
  refine wpAny_bind (HT.slicePart_ .none (wpAny_bind (HT.slicePart_ .none (wpAny_bind (wpAny_pure ?_)))))
  show wpAny _ _ (match Builtin.Slice.sliceAdjust none none (-1) (xs.toArray.size : Int) with | (lo, hi) => pure (lo, (-1 : Int), Builtin.Slice.slicePlaces lo hi (-1))) _ _ s
  rw [rev_adj]
  show wpAny _ _ (pure (((xs.toArray.size : Int) - 1), (-1 : Int), Builtin.Slice.slicePlaces ((xs.toArray.size : Int) - 1) (-1) (-1))) _ _ s
  rw [rev_places]
  refine wpAny_pure ?_
  show wpAny _ _ (if (((xs.toArray.size : Int) - 1) == 0 && (-1 : Int) == 1 && xs.toArray.size == xs.toArray.size) = true then _ else _) _ _ s
  rw [if_neg (by simp)]
  have e : ((List.range xs.toArray.size).filterMap fun (k : Nat) => xs.toArray[((xs.toArray.size : Int) - 1 + (k : Int) * (-1)).toNat]?).toArray = xs.reverse.toArray := by
    rw [List.size_toArray]
    exact rev_pick xs
  rw [e]
  first
    | exact wpAny_bind (m := Builtin.Tuple.tupleExact _) (wpAny_newObj_type (wpAny_pure ⟨_, rfl, wpAny_pure h⟩) htake)
    | exact wpAny_bind (m := Builtin.Tuple.tupleExact _) (wpAny_newObj_type (wpAny_bind (wpAny_pure (wpAny_pure ⟨_, rfl, wpAny_pure h⟩))) htake)
    | exact wpAny_bind (wpAny_bind (m := Builtin.Tuple.tupleExact _) (wpAny_newObj_type (wpAny_pure (wpAny_pure ⟨_, rfl, wpAny_pure h⟩)) htake))
    | exact wpAny_bind (wpAny_bind (m := Builtin.Tuple.tupleExact _) (wpAny_newObj_type (wpAny_pure ⟨_, rfl, wpAny_pure h⟩) htake))
def rRevT (K : PySem.W.Frag) : V → Option Int → Option Int → Int → Hp → VK → Prop := fun x lo hi k H Q => ∃ a xs, x = .ref a ∧ SqT K H a xs ∧ lo = none ∧ hi = none ∧ k = -1 ∧ ∀ p, H p = none → Q (.ref p) (upd H p (.tup xs.reverse))
section
variable {X : Cx} {W : WX} {pos p2 : Pos} {e ke : Expr} {f fk : FE} {lo hi : Option Expr} {fl fh : FO}
theorem vals_rev : ∀ {vs : List V} {us : List Value}, Vals vs us → Vals vs.reverse us.reverse
  | _, _, .nil => .nil
  | _, _, .cons r t => by
    rw [List.reverse_cons, List.reverse_cons]
    exact (vals_rev t).append (.cons r .nil)
theorem reps_rev {K : PySem.W.Frag} {ι : List Addr} {H : Hp} : ∀ {vs : List V} {ds : List D}, Reps K ι H vs ds → Reps K ι H vs.reverse ds.reverse
  | _, _, .nil => .nil
  | _, _, .cons r t => by
    rw [List.reverse_cons, List.reverse_cons]
    exact (reps_rev t).append (.cons r .nil)
theorem part_none {v : Value} {o : Option Int} (p : IsPart v o) (h : o = none) : v = .none := by
  cases p with
  | none => rfl
  | int i t => cases h
theorem sk_revT : SlK X (rRevT X.K) := by
  intro pins s σ H x v vl vu lo hi k tk sl Q I rx hs pl pu h
  obtain ⟨a, xs, rfl, hx, el, eh, rfl, q⟩ := h
  cases rx
  obtain ⟨its, r, ht, hz⟩ := I.tuple hx
  have hlen := r.length
  have e1 := part_none pl el
  have e2 := part_none pu eh
  subst e1 e2
  refine ⟨"tuple", _, PyProof.Rows.slot_tuple_getitem.lookup, IsTup.typeIs ht, ?_⟩
  refine getItem_tuple_rev ht hs ?_ (by omega)
  refine ⟨.ref s.heap.objs.size, _, I.laid (t' := s.toks) (o := .tup xs.reverse) (fun b ob q => Heap.get?_push_of_some _ q) (Nat.le_refl _) ?_, rfl, q _ (I.hok.fresh (Nat.le_refl _))⟩
  exact ⟨by rw [List.length_reverse]; omega, its.reverse, vals_rev r, IsTup.new _ _⟩
/-- x[::-1], tuples too -/
def sCutR (x : D) (lo hi : Option Int) (k : Int) (h : Hy) : R (D × Hy) := match x with
  | .tup xs => if lo = none ∧ hi = none ∧ k = -1 then .ok (.tup xs.reverse, h) else .stuck
  | x => sCutK x lo hi k h
def eCutR (f : FE) (lo hi : FO) (k : FE) : FE := fun ρ h => (f ρ h).bind fun p => (lo ρ p.2).bind fun q => (hi ρ q.2).bind fun r => (k ρ r.2).bind fun z => match z.1 with
  | .int i => sCutR p.1 q.1 r.1 i z.2
  | _ => .stuck
theorem px_cutR (ha : PX X W e f) (hl : PXO X W lo fl) (hu : PXO X W hi fh) (hk : PX X W ke fk) : PX X W (.Subscript e (.Slice lo hi (some ke) p2) pos) (eCutR f fl fh fk) := by
  refine ⟨PE.mono (pe_sliceK (sk_revT.or (sk_str.or sk_list)) ha.pe hl.po hu.po hk.pe) fun σ H Q ⟨ι, ρ, h, hρ, hh, g⟩ => ?_⟩
  refine tE_seq hρ hh g fun p ι1 H1 v1 e1 h1 r1 hρ1 q1 => tO_seqV hρ1 h1 q1 fun p2 ι2 H2 e2 h2 hρ2 q2 => tO_seqV hρ2 h2 q2 fun p3 ι3 H3 e3 h3 hρ3 q3 => tE_seq hρ3 h3 q3 fun p4 ι4 H4 v4 e4 h4 r4 hρ4 q4 => ?_
  have r3 := ((r1.ext e2).ext e3).ext e4
  split at q4
  · rename_i i hi
    rw [hi] at r4
    cases r4
    refine ⟨i, rfl, ?_⟩
    unfold sCutR at q4
    split at q4
    · rename_i xs hp
      split at q4
      · rename_i hz
        rw [hp] at r3
        cases r3 with
        | tup hs rs => exact .inl ⟨_, _, rfl, hs, hz.1, hz.2.1, hz.2.2, fun p hp => VW.newTup q4 h4 (reps_rev rs) hp⟩
      · exact q4.elim
    · refine .inr ?_
      unfold sCutK at q4
      split at q4
      · split at q4
        · rename_i s hp hz
          rw [hp] at r3
          cases r3
          exact .inl ⟨_, rfl, line_le hz.1, hz.2.1, hz.2.2, q4.same h4 (.str _)⟩
        · exact q4.elim
      · split at q4
        · rename_i hz
          split at q4
          · rename_i e
            obtain ⟨a, ws, ev, hs, rw'⟩ := itemsL_of h4 r3 e
            rw [ev]
            exact .inr ⟨_, _, rfl, hs, hz.1, fun p hp => VW.newLst q4 h4 (rw'.pickK _ _ _) hp⟩
          · exact q4.elim
        · exact q4.elim
  · exact q4.elim
end
section
variable {E : String → Option D → Hy → Prop} {ρ : Env} {h : Hy} {f k : FE} {lo hi : FO} {Q : D × Hy → Prop}
theorem gd_eCutR (q : Good (f ρ h) (fun p => Good (lo ρ p.2) (fun r => Good (hi ρ r.2) (fun s => Good (k ρ s.2) (fun z => onI z.1 fun i => Good (sCutR p.1 r.1 s.1 i z.2) Q E) E) E) E) E) : Good (eCutR f lo hi k ρ h) Q E :=
  gd_bind (q.mono (fun _ z => gd_bind (z.mono (fun _ z => gd_bind (z.mono (fun _ z => gd_bind (z.mono (fun p z => by obtain ⟨b, e, z⟩ := oi_use z; rw [e]; exact z) fun _ _ _ z => z)) fun _ _ _ z => z)) fun _ _ _ z => z)) fun _ _ _ z => z)
theorem gd_revT {xs : List D} (q : Q (.tup xs.reverse, h)) : Good (sCutR (.tup xs) none none (-1) h) Q E := by
  show Good (if (none : Option Int) = none ∧ (none : Option Int) = none ∧ (-1 : Int) = -1 then .ok (.tup xs.reverse, h) else .stuck) Q E
  exact gd_if ⟨rfl, rfl, rfl⟩ q
theorem gd_mulT0 {xs : List D} (q : Q (.tup [], h)) : Good (sMulT (.tup xs) (.int 0) h) Q E := by
  show Good (if (-9000000000000000000 : Int) < 0 ∧ (0 : Int) < 9000000000000000000 then (if xs = [] ∨ (0 : Int) = 1 then .ok (.tup xs, h) else if (0 : Int) ≤ 0 then .ok (.tup [], h) else if (0 : Int) ≤ 1000 ∧ xs.length ≤ 1000 then .ok (.tup (List.replicate (0 : Int).toNat xs).flatten, h) else .stuck) else .stuck) Q E
  rw [if_pos (by decide)]
  by_cases e : xs = []
  · rw [if_pos (.inl e), e]; exact q
  · rw [if_neg (by intro z; rcases z with z | z; exact e z; cases z), if_pos (by decide)]; exact q
theorem gd_mulT1 {xs : List D} (q : Q (.tup xs, h)) : Good (sMulT (.tup xs) (.int 1) h) Q E := by
  show Good (if (-9000000000000000000 : Int) < 1 ∧ (1 : Int) < 9000000000000000000 then (if xs = [] ∨ (1 : Int) = 1 then .ok (.tup xs, h) else if (1 : Int) ≤ 0 then .ok (.tup [], h) else if (1 : Int) ≤ 1000 ∧ xs.length ≤ 1000 then .ok (.tup (List.replicate (1 : Int).toNat xs).flatten, h) else .stuck) else .stuck) Q E
  rw [if_pos (by decide), if_pos (.inr rfl)]
  exact q
end
end Px
namespace Px
open PySem PySem.Spec PyProof.Rows L2
/-! ## d[y] of a dict of ours -/
def sDix (x y : D) (h : Hy) : R (D × Hy) := match x with
  | .ref n => match h[n]? with
    | some (.dic ks) => if isKey y = true then match lookD ks y with
      | some v => .ok (v, h)
      | none => .stuck
      else .stuck
    | _ => .stuck
  | _ => .stuck
section
variable {X : Cx} {W : WX}
theorem px_dix {k : Nat} {a b : Expr} {fa fb : FE} {pos : Pos} (hr : Room k X.A) (ha : PX X W a fa) (hb : PX X W b fb) (hs : NoSl b := by exact fun _ _ => rfl) : PX X W (.Subscript a b pos) (bin sDix fa fb) := by
  refine ⟨PE.mono (pe_dget (by have := hu65 hr; omega) ha.pe hb.pe hs) fun σ H Q ⟨ι, ρ, h, hρ, hh, g⟩ => ?_⟩
  refine tE_seq hρ hh g fun p ι1 H1 v1 e1 h1 r1 hρ1 q1 => tE_seq hρ1 h1 q1 fun p2 ι2 H2 v2 e2 h2 r2 hρ2 q2 => ?_
  have r1 := r1.ext e2
  unfold sDix at q2
  split at q2
  · rename_i n hn
    split at q2
    · rename_i ks e
      split at q2
      · rename_i hk
        split at q2
        · rename_i x hx
          rw [hn] at r1
          cases r1 with
          | ref hi =>
            obtain ⟨kv, hkv, rk⟩ := h2.at_ _ _ _ hi e
            obtain ⟨key, kr, ev⟩ := key_of r2 hk
            rcases rk.look kr with ⟨z, _⟩ | ⟨v, x', z1, z2, rv⟩
            · rw [hx] at z; cases z
            · rw [hx] at z1
              cases z1
              exact ⟨_, v, rfl, .inl ⟨kv, key, .inl hkv, ev, z2.symm⟩, q2.same h2 rv⟩
        · exact q2.elim
      · exact q2.elim
    · exact q2.elim
  · exact q2.elim
end
section
variable {E : String → Option D → Hy → Prop} {h : Hy} {Q : D × Hy → Prop}
theorem gd_dix {n : Nat} {ks : List (D × D)} {y v : D} (e : h[n]? = some (.dic ks)) (hk : isKey y = true) (hv : lookD ks y = some v) (q : Q (v, h)) : Good (sDix (.ref n) y h) Q E := by
  unfold sDix
  simp only [e, hk, hv, if_true]
  exact q
end
end Px
namespace Px
open PySem PySem.Spec PyProof.Rows L2
/-! ## list.clear, list.pop(i) -/
def mClear (x : D) (xs : List D) (h : Hy) : R (D × Hy) := match x, xs with
  | .ref n, [] => match h[n]? with
    | some (.lst _) => .ok (.non, h.set n (.lst []))
    | _ => .stuck
  | _, _ => .stuck
theorem imp_clear {X : Cx} {W : WX} : ImpM X.K W mClear rClear := by
  intro ι H h σ x v xs vs Q hh rx rs g
  unfold mClear at g
  split at g
  · split at g
    · rename_i n _ ds e
      cases rx with
      | ref hn =>
        cases rs
        obtain ⟨ws, hv, rw'⟩ := hh.at_ _ _ _ hn e
        exact ⟨_, _, rfl, rfl, hv, VW.set g hh hn .nil .non⟩
    · exact g.elim
  · exact g.elim
theorem mt_clr {X : Cx} : MtR X "list.clear" rClear := mt_clear
def mPopAt (x : D) (xs : List D) (h : Hy) : R (D × Hy) := match x, xs with
  | .ref n, [.int i] => match h[n]? with
    | some (.lst ds) => if 0 ≤ i ∧ i < ds.length ∧ i < 9000000000000000000 then match ds[i.toNat]? with
        | some y => .ok (y, h.set n (.lst (ds.eraseIdx i.toNat)))
        | none => .stuck
      else .stuck
    | _ => .stuck
  | _, _ => .stuck
theorem Reps.eraseIdx {K : PySem.W.Frag} {ι : List Addr} {H : Hp} : ∀ {vs : List V} {ds : List D} (k : Nat), Reps K ι H vs ds → Reps K ι H (vs.eraseIdx k) (ds.eraseIdx k)
  | _, _, _, .nil => .nil
  | _, _, 0, .cons _ r => r
  | _, _, k + 1, .cons h r => .cons h (Reps.eraseIdx k r)
theorem imp_popAt {X : Cx} {W : WX} : ImpM X.K W mPopAt rPopAt := by
  intro ι H h σ x v xs vs Q hh rx rs g
  unfold mPopAt at g
  split at g
  · split at g
    · rename_i n i _ ds e
      split at g
      · rename_i hz
        split at g
        · rename_i y ey
          cases rx with
          | ref hn =>
            cases rs with
            | cons r rs =>
              cases rs
              cases r
              obtain ⟨ws, hv, rw'⟩ := hh.at_ _ _ _ hn e
              obtain ⟨w, ew, rv⟩ := rw'.get ey
              refine ⟨_, _, i, i.toNat, w, rfl, rfl, hv, by omega, by omega, ?_, ew, VW.set g hh hn (rw'.eraseIdx _) rv⟩
              rw [rw'.length]
              unfold seqIndex?
              simp only [if_neg (show ¬ i < 0 by omega)]
              rw [if_pos (by simp; omega)]
        · exact g.elim
      · exact g.elim
    · exact g.elim
  · exact g.elim
theorem mt_popA {X : Cx} : MtR X "list.pop" rPopAt := mt_popAt
section
variable {E : String → Option D → Hy → Prop} {h : Hy} {Q : D × Hy → Prop}
theorem gd_clear {n : Nat} {xs : List D} (e : h[n]? = some (.lst xs)) (q : Q (.non, h.set n (.lst []))) : Good (mClear (.ref n) [] h) Q E := by
  unfold mClear
  simp only [e]
  exact q
theorem gd_popAt {n : Nat} {xs : List D} {i : Int} {y : D} (e : h[n]? = some (.lst xs)) (h0 : 0 ≤ i) (h1 : i < xs.length) (h2 : i < 9000000000000000000) (ey : xs[i.toNat]? = some y) (q : Q (y, h.set n (.lst (xs.eraseIdx i.toNat)))) : Good (mPopAt (.ref n) [.int i] h) Q E := by
  unfold mPopAt
  simp only [e, ey]
  exact gd_if ⟨h0, h1, h2⟩ q
end
end Px
namespace Px
/-! ## words and names -/
theorem mem_str_join {P : Char → Prop} {ts : List Tx} (h : ∀ t ∈ ts, ∀ c ∈ t, P c) : ∀ c ∈ joinT [] ts, P c := by
  have e : joinT [] ts = ts.flatten := by
    induction ts with
    | nil => rfl
    | cons t ts ih =>
      cases ts with
      | nil => simp [joinT]
      | cons u ts => simp only [joinT, List.append_nil, List.flatten_cons] at ih ⊢; rw [ih fun t ht => h t (List.mem_cons_of_mem _ ht)]
  intro c hc
  rw [e] at hc
  obtain ⟨t, ht, hc⟩ := List.mem_flatten.mp hc
  exact h t ht c hc
theorem strs_of {P : Tx → Prop} : ∀ {ys : List D}, (∀ y ∈ ys, ∃ s, y = .str s ∧ P s) → ∃ ss : List Tx, ys = ss.map D.str ∧ (∀ s ∈ ss, P s) ∧ ss.length = ys.length
  | [], _ => ⟨[], rfl, by simp, rfl⟩
  | y :: ys, h => by
    obtain ⟨s, rfl, p⟩ := h y (by simp)
    obtain ⟨ss, rfl, q, l⟩ := strs_of fun z hz => h z (List.mem_cons_of_mem _ hz)
    exact ⟨s :: ss, rfl, by simpa using ⟨p, q⟩, by simp⟩
theorem sum_le {n : Nat} : ∀ {ss : List Tx}, (∀ s ∈ ss, s.length ≤ n) → (ss.map List.length).sum ≤ ss.length * n
  | [], _ => by simp
  | s :: ss, h => by
    have a := h s (by simp)
    have b := sum_le fun u hu => h u (List.mem_cons_of_mem _ hu)
    simp only [List.map_cons, List.sum_cons, List.length_cons, Nat.add_mul, Nat.one_mul]
    omega
theorem sum_one {P : Tx → Prop} : ∀ {ss : List Tx}, (∀ s ∈ ss, s.length = 1 ∧ P s) → (ss.map List.length).sum = ss.length
  | [], _ => rfl
  | s :: ss, h => by
    have a := (h s (by simp)).1
    have b := sum_one fun u hu => h u (List.mem_cons_of_mem _ hu)
    simp only [List.map_cons, List.sum_cons, List.length_cons]
    omega
theorem joinT_nil_len : ∀ ts : List Tx, (joinT [] ts).length = (ts.map List.length).sum
  | [] => rfl
  | [x] => by simp [joinT]
  | x :: y :: r => by
    have := joinT_nil_len (y :: r)
    simp only [joinT, List.append_nil, List.length_append, List.map_cons, List.sum_cons] at this ⊢
    omega
theorem joinT_nil : ∀ ts : List Tx, joinT [] ts = ts.flatten
  | [] => rfl
  | [x] => by simp [joinT]
  | x :: y :: r => by
    have := joinT_nil (y :: r)
    simp only [joinT, List.append_nil, List.flatten_cons] at this ⊢
    rw [this]
abbrev ALPH : Tx := ['a', 'b', 'c', 'd', 'e', 'f', 'g', 'h', 'i', 'j', 'k', 'l', 'm', 'n', 'o', 'p', 'q', 'r', 's', 't', 'u', 'v', 'w', 'x', 'y', 'z']
abbrev FIGS : Tx := ['0', '1', '2', '3', '4', '5', '6', '7', '8', '9']
abbrev TNS : Tx := ['a', 'b', 'c', 'd', 'e', 'f', 'g']
def isW (s : Tx) : Prop := 1 ≤ s.length ∧ s.length ≤ 8 ∧ ∀ c ∈ s, c ∈ ALPH
inductive Kd where
  | l | c | p | s
def Kd.tx : Kd → Tx
  | .l => ['l', 'e', 't', 't', 'e', 'r', 's']
  | .c => ['c', 'a', 'l', 'l', 's']
  | .p => ['p', 'a', 'g', 'e', 's']
  | .s => ['s', 'o', 'u', 'n', 'd', 's']
/-- names of a kind, put together -/
def NmS : Kd → Tx → Prop
  | .l, x => ∃ a b, isW a ∧ isW b ∧ x = a ++ '@' :: b
  | .c, x => ∃ ds : Tx, 3 ≤ ds.length ∧ ds.length ≤ 9 ∧ (∀ c ∈ ds, c ∈ FIGS) ∧ x = '+' :: ds
  | .p, x => ∃ ws : List Tx, 1 ≤ ws.length ∧ ws.length ≤ 3 ∧ (∀ w ∈ ws, isW w) ∧ x = joinT [] (ws.map fun w => '/' :: w)
  | .s, x => ∃ ts : Tx, 2 ≤ ts.length ∧ ts.length ≤ 6 ∧ (∀ c ∈ ts, c ∈ TNS) ∧ x = joinT ['-'] (ts.map fun c => [c])
theorem kd_mem {x : D} (hx : x ∈ [D.str ['l', 'e', 't', 't', 'e', 'r', 's'], .str ['c', 'a', 'l', 'l', 's'], .str ['p', 'a', 'g', 'e', 's'], .str ['s', 'o', 'u', 'n', 'd', 's']]) : ∃ kd : Kd, x = .str kd.tx := by
  simp only [List.mem_cons, List.not_mem_nil, or_false] at hx
  rcases hx with rfl | rfl | rfl | rfl
  · exact ⟨.l, rfl⟩
  · exact ⟨.c, rfl⟩
  · exact ⟨.p, rfl⟩
  · exact ⟨.s, rfl⟩
theorem kd_inj {a b : Kd} (e : a.tx = b.tx) : a = b := by
  cases a <;> cases b <;> first | rfl | (simp [Kd.tx] at e)
/-! ## sayings -/
inductive Lf where
  | wd (w : Tx) | nu (i : Int) | nm (x : Tx) | pa | pi (rows : List Tx)
/-- a row of parts -/
inductive Sy where
  | nil | lf (p : Lf) (r : Sy) | gp (q : Bool) (i r : Sy)
/-- one part -/
inductive Pr where
  | lf (p : Lf) | gp (q : Bool) (i : Sy)
def gw : Bool → Tx
  | true => ['l', 'o', 'u', 'd']
  | false => ['q', 'u', 'o', 't', 'e']
def Lf.w : Lf → Tx
  | .wd _ => ['w', 'o', 'r', 'd']
  | .nu _ => ['n', 'u', 'm', 'b', 'e', 'r']
  | .nm _ => ['n', 'a', 'm', 'e']
  | .pa => ['p', 'a', 'u', 's', 'e']
  | .pi _ => ['p', 'i', 'c', 't', 'u', 'r', 'e']
def Lf.rs : Lf → List D
  | .wd w => [.str w]
  | .nu i => [.int i]
  | .nm x => [.str x]
  | .pa => []
  | .pi rows => [.tup (rows.map D.str)]
def Lf.d (p : Lf) : D := .tup (.str p.w :: p.rs)
def Sy.ds : Sy → List D
  | .nil => []
  | .lf p r => p.d :: r.ds
  | .gp q i r => .tup [.str (gw q), .tup i.ds] :: r.ds
def Pr.w : Pr → Tx
  | .lf p => p.w
  | .gp q _ => gw q
def Pr.rs : Pr → List D
  | .lf p => p.rs
  | .gp _ i => [.tup i.ds]
def Pr.d (p : Pr) : D := .tup (.str p.w :: p.rs)
def Pr.isG : Pr → Bool
  | .lf _ => false
  | .gp _ _ => true
def Pr.inn : Pr → Sy
  | .lf _ => .nil
  | .gp _ i => i
def Sy.pl : Sy → List Pr
  | .nil => []
  | .lf p r => .lf p :: r.pl
  | .gp q i r => .gp q i :: r.pl
def Pr.cons : Pr → Sy → Sy
  | .lf p, r => .lf p r
  | .gp q i, r => .gp q i r
def Sy.of : List Pr → Sy
  | [] => .nil
  | p :: r => p.cons (Sy.of r)
def Sy.app : Sy → Sy → Sy
  | .nil, s => s
  | .lf p r, s => .lf p (r.app s)
  | .gp q i r, s => .gp q i (r.app s)
def Sy.size : Sy → Nat
  | .nil => 0
  | .lf _ r => 1 + r.size
  | .gp _ i r => 1 + i.size + r.size
def Sy.deep : Sy → Nat
  | .nil => 0
  | .lf _ r => max 1 r.deep
  | .gp _ i r => max (1 + i.deep) r.deep
def Pr.size : Pr → Nat
  | .lf _ => 1
  | .gp _ i => 1 + i.size
def Pr.deep : Pr → Nat
  | .lf _ => 1
  | .gp _ i => 1 + i.deep
/-- all leaves keep P, and no group is empty -/
def Sy.all (P : Lf → Prop) : Sy → Prop
  | .nil => True
  | .lf p r => P p ∧ r.all P
  | .gp _ i r => i.pl ≠ [] ∧ i.all P ∧ r.all P
def Pr.all (P : Lf → Prop) : Pr → Prop
  | .lf p => P p
  | .gp _ i => i.pl ≠ [] ∧ i.all P
theorem Sy.ds_pl : ∀ s : Sy, s.ds = s.pl.map Pr.d
  | .nil => rfl
  | .lf p r => by rw [Sy.ds, Sy.pl, List.map_cons, Sy.ds_pl r]; rfl
  | .gp q i r => by rw [Sy.ds, Sy.pl, List.map_cons, Sy.ds_pl r]; rfl
@[simp] theorem Sy.of_pl : ∀ s : Sy, Sy.of s.pl = s
  | .nil => rfl
  | .lf p r => by rw [Sy.pl, Sy.of, Sy.of_pl r]; rfl
  | .gp q i r => by rw [Sy.pl, Sy.of, Sy.of_pl r]; rfl
@[simp] theorem Pr.cons_pl (p : Pr) (s : Sy) : (p.cons s).pl = p :: s.pl := by cases p <;> rfl
@[simp] theorem Sy.pl_of : ∀ l : List Pr, (Sy.of l).pl = l
  | [] => rfl
  | p :: l => by rw [Sy.of, Pr.cons_pl, Sy.pl_of l]
@[simp] theorem Sy.app_pl : ∀ s t : Sy, (s.app t).pl = s.pl ++ t.pl
  | .nil, t => rfl
  | .lf p r, t => by simp only [Sy.app, Sy.pl, Sy.app_pl r, List.cons_append]
  | .gp q i r, t => by simp only [Sy.app, Sy.pl, Sy.app_pl r, List.cons_append]
theorem Sy.ext {s t : Sy} (h : s.pl = t.pl) : s = t := by rw [← Sy.of_pl s, h, Sy.of_pl]
theorem Sy.of_app (a b : List Pr) : Sy.of (a ++ b) = (Sy.of a).app (Sy.of b) := Sy.ext (by simp)
@[simp] theorem Sy.app_nil (s : Sy) : s.app .nil = s := Sy.ext (by rw [Sy.app_pl]; simp [Sy.pl])
theorem Sy.app_assoc (a b c : Sy) : (a.app b).app c = a.app (b.app c) := Sy.ext (by simp)
theorem Sy.app_ds (s t : Sy) : (s.app t).ds = s.ds ++ t.ds := by simp only [Sy.ds_pl, Sy.app_pl, List.map_append]
theorem Sy.of_ds (l : List Pr) : (Sy.of l).ds = l.map Pr.d := by rw [Sy.ds_pl, Sy.pl_of]
theorem Sy.size_pl : ∀ s : Sy, s.size = (s.pl.map Pr.size).sum
  | .nil => rfl
  | .lf p r => by simp only [Sy.size, Sy.pl, List.map_cons, List.sum_cons, Sy.size_pl r, Pr.size]
  | .gp q i r => by simp only [Sy.size, Sy.pl, List.map_cons, List.sum_cons, Sy.size_pl r, Pr.size]
theorem Sy.size_app (s t : Sy) : (s.app t).size = s.size + t.size := by simp only [Sy.size_pl, Sy.app_pl, List.map_append, List.sum_append_nat]
theorem Sy.len_size (s : Sy) : s.pl.length ≤ s.size := by
  rw [Sy.size_pl]
  induction s.pl with
  | nil => simp
  | cons p l ih => cases p <;> simp only [List.length_cons, List.map_cons, List.sum_cons, Pr.size] <;> omega
theorem Sy.deep_le {n : Nat} : ∀ {s : Sy}, s.deep ≤ n ↔ ∀ p ∈ s.pl, p.deep ≤ n
  | .nil => by simp [Sy.deep, Sy.pl]
  | .lf p r => by simp only [Sy.deep, Sy.pl, Nat.max_le, Sy.deep_le (s := r), List.mem_cons, forall_eq_or_imp, Pr.deep]
  | .gp q i r => by simp only [Sy.deep, Sy.pl, Nat.max_le, Sy.deep_le (s := r), List.mem_cons, forall_eq_or_imp, Pr.deep]
theorem Sy.all_pl {P : Lf → Prop} : ∀ {s : Sy}, s.all P ↔ ∀ p ∈ s.pl, p.all P
  | .nil => by simp [Sy.all, Sy.pl]
  | .lf p r => by simp only [Sy.all, Sy.pl, Sy.all_pl (s := r), List.mem_cons, forall_eq_or_imp, Pr.all]
  | .gp q i r => by simp only [Sy.all, Sy.pl, Sy.all_pl (s := r), List.mem_cons, forall_eq_or_imp, Pr.all, and_assoc]
theorem Pr.size_mem {s : Sy} {p : Pr} (h : p ∈ s.pl) : p.size ≤ s.size := by
  rw [Sy.size_pl]
  revert h
  induction s.pl with
  | nil => intro h; cases h
  | cons x l ih =>
    intro h
    rw [List.map_cons, List.sum_cons]
    rcases List.mem_cons.mp h with rfl | h
    · omega
    · have := ih h; omega
theorem Sy.deep_size : ∀ s : Sy, s.deep ≤ s.size
  | .nil => by simp [Sy.deep]
  | .lf p r => by have := Sy.deep_size r; simp only [Sy.deep, Sy.size]; omega
  | .gp q i r => by have := Sy.deep_size r; have := Sy.deep_size i; simp only [Sy.deep, Sy.size]; omega
@[simp] theorem Lf.rs_lt (p : Lf) (m : Nat) : D.ltAll m p.rs = true := by
  cases p <;> simp [Lf.rs, D.ltAll, D.lt]
@[simp] theorem Sy.ds_lt (m : Nat) : ∀ s : Sy, D.ltAll m s.ds = true
  | .nil => rfl
  | .lf p r => by simp [Sy.ds, D.ltAll, Lf.d, D.lt, Sy.ds_lt m r]
  | .gp q i r => by simp [Sy.ds, D.ltAll, D.lt, Sy.ds_lt m r, Sy.ds_lt m i]
@[simp] theorem Pr.d_lt (m : Nat) (p : Pr) : p.d.lt m = true := by cases p <;> simp [Pr.d, D.lt, D.ltAll, Pr.rs]
@[simp] theorem Lf.d_lt (m : Nat) (p : Lf) : p.d.lt m = true := by simp [Lf.d, D.lt, D.ltAll]
/-! ### as views -/
def Lf.ts : Lf → List T
  | .wd w => [.str w]
  | .nu i => [.int i]
  | .nm x => [.str x]
  | .pa => []
  | .pi rows => [.tup (rows.map T.str)]
def Sy.ts : Sy → List T
  | .nil => []
  | .lf p r => .tup (.str p.w :: p.ts) :: r.ts
  | .gp q i r => .tup [.str (gw q), .tup i.ts] :: r.ts
theorem Lf.vw {h : Hy} {n : Nat} (p : Lf) : p.rs.mapM (vw h (n + 2)) = some p.ts := by
  cases p with
  | pi rows => simp only [Lf.rs, Lf.ts, List.mapM_cons, List.mapM_nil, Px.vw, vw_strs]; rfl
  | _ => rfl
theorem Sy.vw {h : Hy} : ∀ (s : Sy) (n : Nat), 2 * s.deep + 1 ≤ n → s.ds.mapM (vw h n) = some s.ts
  | .nil, n, _ => rfl
  | .lf p r, n, hn => by
    simp only [Sy.deep] at hn
    obtain ⟨m, rfl⟩ : ∃ m, n = m + 3 := ⟨n - 3, by omega⟩
    have a : Px.vw h (m + 3) p.d = some (.tup (.str p.w :: p.ts)) := by
      simp only [Lf.d, Px.vw, List.mapM_cons, Lf.vw]; rfl
    rw [Sy.ds, List.mapM_cons, a, Sy.vw r _ (by omega)]
    rfl
  | .gp q i r, n, hn => by
    simp only [Sy.deep] at hn
    obtain ⟨m, rfl⟩ : ∃ m, n = m + 2 := ⟨n - 2, by omega⟩
    have b := Sy.vw (h := h) i m (by omega)
    obtain ⟨k, rfl⟩ : ∃ k, m = k + 1 := ⟨m - 1, by omega⟩
    have a : Px.vw h (k + 1 + 2) (.tup [.str (gw q), .tup i.ds]) = some (.tup [.str (gw q), .tup i.ts]) := by
      simp only [Px.vw, List.mapM_cons, List.mapM_nil, b]; rfl
    rw [Sy.ds, List.mapM_cons, a, Sy.vw r _ (by omega)]
    rfl
mutual
theorem T.eqv_self : ∀ t : T, T.eqv t t = true
  | .non => by simp [T.eqv]
  | .bl _ => by simp [T.eqv]
  | .int _ => by simp [T.eqv]
  | .str _ => by simp [T.eqv]
  | .tup xs => by simp only [T.eqv]; exact T.eqvs_self xs
  | .lst xs => by simp only [T.eqv]; exact T.eqvs_self xs
theorem T.eqvs_self : ∀ ts : List T, T.eqvs ts ts = true
  | [] => by simp [T.eqvs]
  | t :: ts => by simp only [T.eqvs, T.eqv_self t, T.eqvs_self ts]; rfl
end
theorem T.eqvs_nil (ts : List T) : T.eqvs ts [] = ts.isEmpty := by cases ts <;> simp [T.eqvs]
theorem Sy.ts_nil (s : Sy) : s.ts.isEmpty = s.pl.isEmpty := by cases s <;> rfl
/-! ### what repr shows of them -/
mutual
def T.wt : T → Nat
  | .non => 4
  | .bl _ => 5
  | .int i => (num i).length
  | .str s => 2 + 4 * s.length
  | .lst xs => 2 + T.wts xs
  | .tup xs => 3 + T.wts xs
def T.wts : List T → Nat
  | [] => 0
  | x :: xs => 2 + x.wt + T.wts xs
end
theorem esc_len : ((List.range 128).all fun n => decide ((PySem.Builtin.Str.reprChar 34 n).length ≤ 4) && decide ((PySem.Builtin.Str.reprChar 39 n).length ≤ 4)) = true := by decide +kernel
theorem escC_len {q c : Char} (hq : q = '"' ∨ q = '\'') (hc : c.toNat < 128) : (escC q c).length ≤ 4 := by
  have h := List.all_eq_true.mp esc_len c.toNat (List.mem_range.mpr hc)
  simp only [Bool.and_eq_true, decide_eq_true_eq] at h
  unfold escC
  rw [List.length_map]
  rcases hq with rfl | rfl
  · exact h.1
  · exact h.2
theorem rtxS_len (s : Tx) (h : (s.all fun c => decide (c.toNat < 128)) = true) : (rtxS s).length ≤ 2 + 4 * s.length := by
  have hq : quoteOf s = '"' ∨ quoteOf s = '\'' := by unfold quoteOf; split <;> simp
  have a : ∀ s : Tx, (s.all fun c => decide (c.toNat < 128)) = true → ∀ q : Char, (q = '"' ∨ q = '\'') → (s.flatMap (escC q)).length ≤ 4 * s.length := by
    intro s
    induction s with
    | nil => intro _ _ _; simp
    | cons c s ih =>
      intro h q hq
      simp only [List.all_cons, Bool.and_eq_true, decide_eq_true_eq] at h
      have b := ih h.2 q hq
      have d := escC_len hq h.1
      rw [List.flatMap_cons, List.length_append, List.length_cons]
      omega
  have b := a s h _ hq
  unfold rtxS
  simp only [List.length_cons, List.length_append, List.length_nil]
  omega
theorem rtxs_sum (xs : List T) : (joinT [',', ' '] (T.rtxs xs)).length ≤ ((T.rtxs xs).map List.length).sum + 2 * xs.length := by
  have := joinT_len [',', ' '] (T.rtxs xs)
  rw [rtxs_map, List.length_map] at this
  rw [rtxs_map]
  simp only [List.length_cons, List.length_nil] at this
  omega
mutual
theorem T.rtx_wt : ∀ t : T, t.shw = true → t.rtx.length ≤ t.wt
  | .non, _ => by simp [T.rtx, T.wt]
  | .bl b, _ => by cases b <;> simp [T.rtx, T.wt]
  | .int i, _ => by simp [T.rtx, T.wt]
  | .str s, h => by
    simp only [T.rtx, T.wt]
    exact rtxS_len s (by simpa [T.shw] using h)
  | .lst xs, h => by
    have a := T.rtxs_wt xs (by simpa [T.shw] using h)
    have b := rtxs_sum xs
    simp only [T.rtx, T.wt, List.length_cons, List.length_append, List.length_nil]
    omega
  | .tup xs, h => by
    have a := T.rtxs_wt xs (by simpa [T.shw] using h)
    have b := rtxs_sum xs
    simp only [T.rtx, T.wt, List.length_cons, List.length_append]
    split <;> simp only [List.length_cons, List.length_nil] <;> omega
theorem T.rtxs_wt : ∀ ts : List T, T.shws ts = true → ((T.rtxs ts).map List.length).sum + 2 * ts.length ≤ T.wts ts
  | [], _ => by simp [T.rtxs, T.wts]
  | x :: xs, h => by
    simp only [T.shws, Bool.and_eq_true] at h
    have a := T.rtx_wt x h.1
    have b := T.rtxs_wt xs h.2
    simp only [T.rtxs, T.wts, List.map_cons, List.sum_cons, List.length_cons]
    omega
end
/-- texts that are short and of ASCII, ints that are short -/
def Lf.small : Lf → Prop
  | .wd w => w.length ≤ 100 ∧ ∀ c ∈ w, c.toNat < 128
  | .nu i => -1000000000000 < i ∧ i < 1000000000000
  | .nm x => x.length ≤ 100 ∧ ∀ c ∈ x, c.toNat < 128
  | .pa => True
  | .pi rows => rows.length ≤ 6 ∧ ∀ r ∈ rows, r.length ≤ 8 ∧ ∀ c ∈ r, c.toNat < 128
theorem num_small {i : Int} (h0 : -1000000000000 < i) (h1 : i < 1000000000000) : (num i).length ≤ 13 := by
  by_cases hi : 0 ≤ i
  · have := num_len (k := 12) hi (by omega) (by omega)
    omega
  · have e : num i = '-' :: num (-i) := by
      obtain ⟨n, rfl⟩ : ∃ n : Nat, i = -((n + 1 : Nat) : Int) := ⟨(-i).toNat - 1, by omega⟩
      rw [Int.neg_neg, num_nat]
      show (toString (Int.negSucc n)).toList = _
      have : toString (Int.negSucc n) = "-" ++ Nat.repr (n + 1) := rfl
      rw [this, String.toList_append]
      show ['-'] ++ (Nat.repr (n + 1)).toList = _
      rw [Nat.toList_repr]
      rfl
    have := num_len (k := 12) (i := -i) (by omega) (by omega) (by omega)
    rw [e, List.length_cons]
    omega
theorem Lf.small_ts (p : Lf) (h : p.small) : T.shws p.ts = true ∧ T.wts p.ts ≤ 410 := by
  cases p with
  | wd w => simp only [Lf.small] at h; simp only [Lf.ts, T.shws, T.shw, T.wts, T.wt, Bool.and_true, List.all_eq_true, decide_eq_true_eq]; exact ⟨h.2, by omega⟩
  | nu i =>
    simp only [Lf.small] at h
    have := num_small h.1 h.2
    simp only [Lf.ts, T.shws, T.shw, T.wts, T.wt, Bool.and_true, Bool.and_eq_true, decide_eq_true_eq]
    exact ⟨⟨by omega, by omega⟩, by omega⟩
  | nm w => simp only [Lf.small] at h; simp only [Lf.ts, T.shws, T.shw, T.wts, T.wt, Bool.and_true, List.all_eq_true, decide_eq_true_eq]; exact ⟨h.2, by omega⟩
  | pa => simp [Lf.ts, T.shws, T.wts]
  | pi rows =>
    simp only [Lf.small] at h
    have a : ∀ rows : List Tx, (∀ r ∈ rows, r.length ≤ 8 ∧ ∀ c ∈ r, c.toNat < 128) → T.shws (rows.map T.str) = true ∧ T.wts (rows.map T.str) ≤ 36 * rows.length := by
      intro rows
      induction rows with
      | nil => intro _; simp [T.shws, T.wts]
      | cons r rows ih =>
        intro h
        have b := ih fun z hz => h z (List.mem_cons_of_mem _ hz)
        have c := h r (by simp)
        simp only [List.map_cons, T.shws, T.shw, T.wts, T.wt, Bool.and_eq_true, List.all_eq_true, decide_eq_true_eq, List.length_cons]
        exact ⟨⟨c.2, b.1⟩, by omega⟩
    have b := a rows h.2
    simp only [Lf.ts, T.shws, T.shw, T.wts, T.wt, Bool.and_true]
    exact ⟨b.1, by omega⟩
theorem Lf.w_small (p : Lf) : (p.w.all fun c => decide (c.toNat < 128)) = true ∧ p.w.length ≤ 8 := by cases p <;> (simp only [Lf.w]; decide)
theorem gw_small (q : Bool) : ((gw q).all fun c => decide (c.toNat < 128)) = true ∧ (gw q).length ≤ 5 := by cases q <;> decide
theorem Sy.small_ts : ∀ s : Sy, s.all Lf.small → T.shws s.ts = true ∧ T.wts s.ts ≤ 500 * s.size
  | .nil, _ => by simp [Sy.ts, T.shws, T.wts]
  | .lf p r, h => by
    simp only [Sy.all] at h
    have a := Lf.small_ts p h.1
    have b := Sy.small_ts r h.2
    have c := Lf.w_small p
    simp only [Sy.ts, T.shws, T.shw, T.wts, T.wt, Sy.size, Bool.and_eq_true]
    exact ⟨⟨⟨c.1, a.1⟩, b.1⟩, by omega⟩
  | .gp q i r, h => by
    simp only [Sy.all] at h
    have a := Sy.small_ts i h.2.1
    have b := Sy.small_ts r h.2.2
    have c := gw_small q
    simp only [Sy.ts, T.shws, T.shw, T.wts, T.wt, Sy.size, Bool.and_eq_true]
    exact ⟨⟨⟨c.1, a.1, trivial⟩, b.1⟩, by omega⟩
theorem Pr.isG_w (p : Pr) : decide (p.w ∈ [gw true, gw false]) = p.isG := by
  rcases p with (_ | _ | _ | _ | _) | ⟨_ | _, i⟩ <;> simp [Pr.w, Lf.w, Pr.isG, gw]
/-! ### rules -/
section
variable {E : String → Option D → Hy → Prop} {ρ : Env} {h : Hy} {Q : D × Hy → Prop} {QL : List D × Hy → Prop} {k : Kn} {s : FS}
theorem gd_ix0P {p : Pr} (q : Q (.str p.w, h)) : Good (sIx p.d (.int 0) h) Q E := gd_ixT atI0 q
theorem atI1 {α : Type} {x y : α} {xs : List α} : L2.atI (x :: y :: xs) 1 = some y := by
  rw [atI_nat (d := x) (by omega) (by simp only [List.length_cons]; omega)]
  rfl
theorem gd_ix1G {b : Bool} {i : Sy} (q : Q (.tup i.ds, h)) : Good (sIx (Pr.gp b i).d (.int 1) h) Q E := gd_ixT atI1 q
/-- a saying is shown -/
theorem gd_reprSy {s : Sy} (hd : s.deep ≤ 10) (hs : s.all Lf.small) (hz : s.size ≤ 10000) (q : Q (.str (T.tup s.ts).rtx, h)) : Good (gRepr [.tup s.ds] h) Q E := by
  have a := Sy.small_ts s hs
  have e : vw h 24 (.tup s.ds) = some (.tup s.ts) := by
    show (s.ds.mapM (vw h 23)).map T.tup = _
    rw [Sy.vw s 23 (by omega)]
    rfl
  have b : (T.tup s.ts).shw = true := by simpa [T.shw] using a.1
  refine gd_repr e b ?_ q
  have c := T.rtx_wt _ b
  simp only [T.wt] at c
  omega
theorem gd_eqSy0 {s : Sy} (hd : s.deep ≤ 10) (q : Q (.bl s.pl.isEmpty, h)) : Good (sEq (.tup s.ds) (.tup []) h) Q E := by
  have e : vw h 24 (.tup s.ds) = some (.tup s.ts) := by
    show (s.ds.mapM (vw h 23)).map T.tup = _
    rw [Sy.vw s 23 (by omega)]
    rfl
  refine gd_eqV e (b := .tup []) rfl ?_
  simp only [T.eqv, T.eqvs_nil, Sy.ts_nil]
  exact q
theorem gd_neSy0 {s : Sy} (hd : s.deep ≤ 10) (q : Q (.bl (!s.pl.isEmpty), h)) : Good (sNe (.tup s.ds) (.tup []) h) Q E := by
  have e : vw h 24 (.tup s.ds) = some (.tup s.ts) := by
    show (s.ds.mapM (vw h 23)).map T.tup = _
    rw [Sy.vw s 23 (by omega)]
    rfl
  refine gd_neV e (b := .tup []) rfl ?_
  simp only [T.eqv, T.eqvs_nil, Sy.ts_nil]
  exact q
theorem wipeE_len (ρ : Env) : ∀ vs : List Nat, (wipeE ρ vs).length = ρ.length
  | [] => rfl
  | v :: vs => by rw [wipeE, List.length_set, wipeE_len ρ vs]
/-- [y for x in xs for y in g(x)], the heap left alone -/
theorem gd_c2f {γ : Type} {ct : CT} {fi1 : FI} {i n : Nat} {vs1 : List Nat} {all : List D} {o : Option Nat} (mk : γ → D) (us : List γ) (g : γ → List D) (e : srcOk all o h)
    (hx : ∀ u ∈ us, ∃ ρ1, ct.store (mk u) ρ = some ρ1 ∧ i < ρ1.length ∧ Good (fi1 ρ1 h) (fun p => p = ((g u, none), h)) NE) (hz : n + (us.map g).flatten.length ≤ 16777216)
    (q : QL ((us.map g).flatten, h)) : Good (c2Loop ct tTrue fi1 (.one i) tTrue (eVar i) vs1 ρ all o (us.map mk) n h) QL E := by
  refine gd_of ?_ q
  clear q
  induction us generalizing n with
  | nil => unfold c2Loop; simp only [List.map_nil, if_pos e]; rfl
  | cons u us ih =>
    obtain ⟨ρ1, e1, hi, e2⟩ := hx u (by simp)
    simp only [List.map_cons, List.flatten_cons, List.length_append] at hz
    have ih := ih (n := n + (g u).length) (fun v hv => hx v (List.mem_cons_of_mem _ hv)) (by omega)
    have e2 := ok_of e2
    have inner : cLoop (.one i) tTrue (eVar i) (wipeE ρ1 vs1) (g u) none (g u) h = .ok (g u, h) := by
      have := gd_cAll (E := NE) (QL := fun r => r = (g u, h)) (h := h) (ρ := wipeE ρ1 vs1) (i := i) (f := eVar i) (all := g u) (o := none) (fun x : D => x) (g u) (fun x => x) srcOk_none (fun x hx => gd_var (by rw [List.getElem?_set_self (by rw [wipeE_len]; exact hi)]) rfl) (by rw [List.map_id'])
      rw [List.map_id'] at this
      exact ok_of this
    rw [List.map_cons, c2Loop]
    rw [if_pos e, e1]
    simp only [tTrue_ev, e2, R.calm, R.bind_ok, if_true]
    rw [if_pos (by omega), inner]
    simp only [R.bind_ok, ih, List.map_cons, List.flatten_cons]
theorem gd_sum {n : Nat} {xs : List D} {is : List Int} (e : h[n]? = some (.lst xs)) (ex : xs = is.map D.int) (q : Q (.int is.sum, h)) : Good (gSum [.ref n] h) Q E := by
  refine gd_of ?_ q
  subst ex
  have m : ∀ is : List Int, (is.map D.int).mapM asInt = some is := fun is => by
    induction is with
    | nil => rfl
    | cons i is ih => simp only [List.map_cons, List.mapM_cons, ih]; rfl
  unfold gSum itemsL
  simp only [e, Option.bind_some, m]
theorem gd_extend {n m : Nat} {xs ys : List D} (e : h[n]? = some (.lst xs)) (e2 : h[m]? = some (.lst ys)) (z : xs.length + ys.length ≤ 16777216) (q : Q (.non, h.set n (.lst (xs ++ ys)))) : Good (mExtend (.ref n) [.ref m] h) Q E := by
  refine gd_of ?_ q
  unfold mExtend
  simp only [e, e2, if_pos z]
/-- a for loop over what stands for a list of ours -/
theorem gs_fMap {γ : Type} {ct : CT} {all : List D} {o : Option Nat} (mk : γ → D) (us : List γ) (I : List γ → Env → Hy → Prop) (src : ∀ p ρ h, I p ρ h → srcOk all o h) (ρ : Env) (h : Hy) (i : I [] ρ h)
    (b : ∀ pre x post ρ h, us = pre ++ x :: post → I pre ρ h → ∃ ρ1, ct.store (mk x) ρ = some ρ1 ∧ Gs (s ρ1 h) { nx := I (pre ++ [x]), rt := k.rt, bk := k.nx, ct := I (pre ++ [x]), ex := k.ex })
    (e : ∀ ρ h, I us ρ h → k.nx ρ h) : Gs (fLoop ct s all o (us.map mk) ρ h) k := by
  refine gs_fLoop (fun p ρ h => ∃ vs, p = vs.map mk ∧ vs <+: us ∧ I vs ρ h) (fun p ρ h ⟨vs, _, _, i⟩ => src vs ρ h i) _ ρ h ⟨[], rfl, List.nil_prefix, i⟩ (fun pre x post ρ h eq ⟨vs, e1, pf, i⟩ => ?_) (fun ρ h ⟨vs, e1, pf, i⟩ => ?_)
  · obtain ⟨r, rfl⟩ := pf
    rw [List.map_append, e1] at eq
    have eq := List.append_cancel_left eq
    cases r with
    | nil => cases eq
    | cons y r =>
      rw [List.map_cons, List.cons.injEq] at eq
      obtain ⟨rfl, _⟩ := eq
      obtain ⟨ρ1, s1, g⟩ := b vs y r ρ h rfl i
      exact ⟨ρ1, s1, g.mono (fun _ _ z => ⟨_, by rw [e1, List.map_append]; rfl, ⟨r, by simp⟩, z⟩) (fun _ _ z => z) (fun _ _ z => z) (fun _ _ z => ⟨_, by rw [e1, List.map_append]; rfl, ⟨r, by simp⟩, z⟩) fun _ _ _ _ z => z⟩
  · obtain ⟨r, rfl⟩ := pf
    have hl := congrArg List.length e1
    simp only [List.length_map, List.length_append] at hl
    have : r = [] := List.eq_nil_of_length_eq_zero (by omega)
    subst this
    rw [List.append_nil] at e
    exact e ρ h i
/-- .. with its number -/
theorem gs_fEnum {γ : Type} {ct : CT} {all : List D} {o : Option Nat} (mk : γ → D) (us : List γ) (I : List γ → Env → Hy → Prop) (src : ∀ p ρ h, I p ρ h → srcOk all o h) (ρ : Env) (h : Hy) (i : I [] ρ h)
    (b : ∀ pre x post ρ h, us = pre ++ x :: post → I pre ρ h → ∃ ρ1, ct.store (.tup [.int pre.length, mk x]) ρ = some ρ1 ∧ Gs (s ρ1 h) { nx := I (pre ++ [x]), rt := k.rt, bk := k.nx, ct := I (pre ++ [x]), ex := k.ex })
    (e : ∀ ρ h, I us ρ h → k.nx ρ h) : Gs (fLoop ct s all o (numbered 0 (us.map mk)) ρ h) k := by
  have nm : ∀ (us : List γ) (n : Nat), numbered n (us.map mk) = (us.zipIdx n).map fun p => .tup [.int p.2, mk p.1] := by
    intro us
    induction us with
    | nil => intro n; rfl
    | cons u us ih => intro n; simp only [List.map_cons, numbered, List.zipIdx_cons, ih]
  rw [nm]
  refine gs_fMap (fun p : γ × Nat => .tup [.int p.2, mk p.1]) (us.zipIdx 0) (fun p ρ h => I (p.map (·.1)) ρ h) (fun p ρ h i => src _ ρ h i) ρ h i (fun pre x post ρ h eq i => ?_) (fun ρ h i => e ρ h (by rw [List.zipIdx_map_fst] at i; exact i))
  have e1 := congrArg (List.map (·.1)) eq
  rw [List.zipIdx_map_fst, List.map_append, List.map_cons] at e1
  have e2 := congrArg (fun l => l[pre.length]?) eq
  simp only [List.getElem?_zipIdx] at e2
  rw [List.getElem?_append_right (Nat.le_refl _), Nat.sub_self, List.getElem?_cons_zero] at e2
  have e3 : x.2 = pre.length := by
    cases q : us[pre.length]? with
    | none => rw [q] at e2; cases e2
    | some y =>
      rw [q] at e2
      simp only [Option.map_some, Option.some.injEq] at e2
      rw [← e2]
      simp
  obtain ⟨ρ1, s1, g⟩ := b (pre.map (·.1)) x.1 (post.map (·.1)) ρ h e1 i
  refine ⟨ρ1, by rw [e3]; rw [List.length_map] at s1; exact s1, g.mono (fun _ _ z => by rw [List.map_append]; exact z) (fun _ _ z => z) (fun _ _ z => z) (fun _ _ z => by rw [List.map_append]; exact z) fun _ _ _ _ z => z⟩
end
end Px
namespace Px
/-! ### a law's sayings -/
def Lf.ok (kd : Kd) : Lf → Prop
  | .wd w => isW w
  | .nu i => -1000000000 ≤ i ∧ i ≤ 1000000000
  | .nm x => NmS kd x
  | .pa => True
  | .pi rows => 1 ≤ rows.length ∧ rows.length ≤ 6 ∧ ∃ w, 1 ≤ w ∧ w ≤ 8 ∧ ∀ r ∈ rows, r.length = w ∧ ∀ c ∈ r, c ∈ FIGS
theorem alph_low : ∀ c ∈ ALPH, c.toNat < 128 := by decide
theorem figs_low : ∀ c ∈ FIGS, c.toNat < 128 := by decide
theorem tns_low : ∀ c ∈ TNS, c.toNat < 128 := by decide
theorem NmS.small : ∀ {kd : Kd} {x : Tx}, NmS kd x → x.length ≤ 100 ∧ ∀ c ∈ x, c.toNat < 128
  | .l, x, ⟨a, b, ha, hb, e⟩ => by
    have h1 := ha.2.1
    have h2 := hb.2.1
    subst e
    refine ⟨by simp only [List.length_append, List.length_cons]; omega, fun c hc => ?_⟩
    rcases List.mem_append.mp hc with hc | hc
    · exact alph_low c (ha.2.2 c hc)
    · rcases List.mem_cons.mp hc with rfl | hc
      · decide
      · exact alph_low c (hb.2.2 c hc)
  | .c, x, ⟨ds, h1, h2, h3, e⟩ => by
    subst e
    refine ⟨by simp only [List.length_cons]; omega, fun c hc => ?_⟩
    rcases List.mem_cons.mp hc with rfl | hc
    · decide
    · exact figs_low c (h3 c hc)
  | .p, x, ⟨ws, h1, h2, h3, e⟩ => by
    subst e
    have a := sum_le (n := 9) (ss := ws.map fun w => '/' :: w) fun s hs => by
      obtain ⟨w, hw, rfl⟩ := List.mem_map.mp hs
      have := (h3 w hw).2.1
      simp only [List.length_cons]; omega
    rw [List.length_map] at a
    refine ⟨by rw [joinT_nil_len]; omega, mem_str_join fun t ht c hc => ?_⟩
    obtain ⟨w, hw, rfl⟩ := List.mem_map.mp ht
    rcases List.mem_cons.mp hc with rfl | hc
    · decide
    · exact alph_low c ((h3 w hw).2.2 c hc)
  | .s, x, ⟨ts, h1, h2, h3, e⟩ => by
    subst e
    have a := joinT_len ['-'] (ts.map fun c => [c])
    have b := sum_signs ts
    simp only [List.length_map, List.length_cons, List.length_nil] at a
    refine ⟨by omega, fun c hc => ?_⟩
    have key : ∀ ts : Tx, (∀ c ∈ ts, c ∈ TNS) → ∀ c ∈ joinT ['-'] (ts.map fun c => [c]), c.toNat < 128 := by
      intro ts
      induction ts with
      | nil => intro _ c hc; simp [joinT] at hc
      | cons t ts ih =>
        intro h c hc
        cases ts with
        | nil =>
          have : c = t := by simpa [joinT] using hc
          rw [this]; exact tns_low t (h t (by simp))
        | cons u ts =>
          rcases List.mem_append.mp (show c ∈ ([t] ++ ['-']) ++ joinT ['-'] ((u :: ts).map fun c => [c]) from hc) with hc | hc
          · simp only [List.cons_append, List.nil_append, List.mem_cons, List.not_mem_nil, or_false] at hc
            rcases hc with rfl | rfl
            · exact tns_low c (h c (by simp))
            · decide
          · exact ih (fun z hz => h z (List.mem_cons_of_mem _ hz)) c hc
    exact key ts h3 c hc
theorem Lf.ok_small {kd : Kd} {p : Lf} (h : p.ok kd) : p.small := by
  cases p with
  | wd w => exact ⟨by have := h.2.1; omega, fun c hc => alph_low c (h.2.2 c hc)⟩
  | nu i => simp only [Lf.ok] at h; simp only [Lf.small]; omega
  | nm x => exact NmS.small h
  | pa => trivial
  | pi rows =>
    obtain ⟨h1, h2, w, h3, h4, h5⟩ := h
    exact ⟨h2, fun r hr => ⟨by have := (h5 r hr).1; omega, fun c hc => figs_low c ((h5 r hr).2 c hc)⟩⟩
theorem Sy.all_mono {P Q : Lf → Prop} (h : ∀ p, P p → Q p) : ∀ {s : Sy}, s.all P → s.all Q
  | .nil, _ => trivial
  | .lf p r, a => ⟨h p a.1, Sy.all_mono h a.2⟩
  | .gp _ i r, a => ⟨a.1, Sy.all_mono h a.2.1, Sy.all_mono h a.2.2⟩
theorem Sy.all_app {P : Lf → Prop} {s t : Sy} : (s.app t).all P ↔ s.all P ∧ t.all P := by
  simp only [Sy.all_pl, Sy.app_pl, List.mem_append]
  exact ⟨fun h => ⟨fun p hp => h p (.inl hp), fun p hp => h p (.inr hp)⟩, fun h p hp => hp.elim (h.1 p) (h.2 p)⟩
theorem Sy.deep_app {s t : Sy} {n : Nat} : (s.app t).deep ≤ n ↔ s.deep ≤ n ∧ t.deep ≤ n := by
  simp only [Sy.deep_le, Sy.app_pl, List.mem_append]
  exact ⟨fun h => ⟨fun p hp => h p (.inl hp), fun p hp => h p (.inr hp)⟩, fun h p hp => hp.elim (h.1 p) (h.2 p)⟩
theorem Sy.of1_all {P : Lf → Prop} {p : Pr} : (Sy.of [p]).all P ↔ p.all P := by rw [Sy.all_pl]; simp
theorem Sy.of1_deep {p : Pr} {n : Nat} : (Sy.of [p]).deep ≤ n ↔ p.deep ≤ n := by rw [Sy.deep_le]; simp
theorem Sy.of1_size {p : Pr} : (Sy.of [p]).size = p.size := by rw [Sy.size_pl]; simp
theorem Pr.size_inn (p : Pr) : p.size = 1 + p.inn.size := by cases p <;> rfl
theorem Pr.inn_nil {p : Pr} (h : p.isG = false) : p.inn.size = 0 := by cases p with
  | lf p => rfl
  | gp _ _ => cases h
theorem Sy.size_sum (s : Sy) : (s.pl.length : Int) + (((s.pl.filter Pr.isG).map fun p => (p.inn.size : Int))).sum = s.size := by
  rw [Sy.size_pl]
  induction s.pl with
  | nil => rfl
  | cons p l ih =>
    have a := Pr.size_inn p
    rw [List.map_cons, List.sum_cons, List.length_cons, List.filter_cons]
    cases e : p.isG with
    | true => rw [if_pos rfl, List.map_cons, List.sum_cons]; omega
    | false =>
      have b := Pr.inn_nil e
      rw [if_neg (by simp)]; omega
theorem Pr.gp_of {p : Pr} (h : p.isG = true) : ∃ q, p = .gp q p.inn := by cases p with
  | lf p => cases h
  | gp q i => exact ⟨q, rfl⟩
theorem Pr.inn_deep {p : Pr} : p.inn.deep + 1 ≤ p.deep := by cases p with
  | lf p => simp [Pr.inn, Pr.deep, Sy.deep]
  | gp q i => simp only [Pr.inn, Pr.deep]; omega
theorem Sy.inn_deep {s : Sy} {p : Pr} {n : Nat} (h : s.deep ≤ n) (hp : p ∈ s.pl) : p.inn.deep + 1 ≤ n := by
  have a := Sy.deep_le.mp h p hp
  have b := Pr.inn_deep (p := p)
  omega
theorem Sy.inn_size {s : Sy} {p : Pr} (hp : p ∈ s.pl) : p.inn.size + 1 ≤ s.size := by
  have a := Pr.size_mem hp
  have b := Pr.size_inn p
  omega
section
variable {E : String → Option D → Hy → Prop} {h : Hy} {Q : D × Hy → Prop}
theorem gd_inG {p : Pr} (q : Q (.bl p.isG, h)) : Good (sIn (.str p.w) (.tup [.str ['l', 'o', 'u', 'd'], .str ['q', 'u', 'o', 't', 'e']]) h) Q E :=
  gd_inT (ss := [gw true, gw false]) rfl (by rw [Pr.isG_w]; exact q)
theorem gd_ix1P {p : Pr} (hg : p.isG = true) (q : Q (.tup p.inn.ds, h)) : Good (sIx p.d (.int 1) h) Q E := by
  obtain ⟨b, e⟩ := Pr.gp_of hg
  rw [e]
  exact gd_ix1G q
theorem gd_pow9 (q : Q (.int 1000000000, h)) : Good (sPow (.int 10) (.int 9) h) Q E := gd_powI (by decide) q
theorem gd_minG {i j : Int} (q : ∀ m, (m = i ∨ m = j) → m ≤ i → m ≤ j → Q (.int m, h)) : Good (gMin [.int i, .int j] h) Q E := gd_min (q _ (by split <;> simp) (by split <;> omega) (by split <;> omega))
theorem gd_maxG {i j : Int} (q : ∀ m, (m = i ∨ m = j) → i ≤ m → j ≤ m → Q (.int m, h)) : Good (gMax [.int i, .int j] h) Q E := gd_max (q _ (by split <;> simp) (by split <;> omega) (by split <;> omega))
end
def cS : Nat → Nat
  | 0 => 0
  | 1 => 5000
  | n + 2 => 5000 + 13 * cS n
end Px
namespace Px
section
variable {E : String → Option D → Hy → Prop} {h h1 : Hy} {Q : D × Hy → Prop} {QI : (List D × Option Nat) × Hy → Prop} {m n : Nat}
theorem gd_ixLg {i : Int} (q : ∃ xs x, h[n]? = some (.lst xs) ∧ L2.atI xs i = some x ∧ Q (x, h)) : Good (sIx (.ref n) (.int i) h) Q E := by
  obtain ⟨xs, x, a, b, c⟩ := q
  exact gd_ixL a b c
theorem gd_ixTg {xs : List D} {i : Int} (q : ∃ x, L2.atI xs i = some x ∧ Q (x, h)) : Good (sIx (.tup xs) (.int i) h) Q E := by
  obtain ⟨x, a, b⟩ := q
  exact gd_ixT a b
theorem gd_ivOg (q : ∃ xs, h[n]? = some (.lst xs) ∧ QI ((xs, some n), h)) : Good (ivK h (.ref n, h)) QI E := by
  obtain ⟨xs, a, b⟩ := q
  exact gd_ivO a b
theorem gd_ivAg (q : ∃ g xs, h1 = h ++ g ∧ h1[n]? = some (.lst xs) ∧ h.length ≤ n ∧ D.ltAll h.length xs = true ∧ QI ((xs, none), h)) : Good (ivK h (.ref n, h1)) QI E := by
  obtain ⟨g, xs, a, b, c, d, e⟩ := q
  exact gd_ivA a b c d e
theorem gd_lenLg (q : ∃ xs, h[n]? = some (.lst xs) ∧ Q (.int (xs.length : Int), h)) : Good (gLen [.ref n] h) Q E := by
  obtain ⟨xs, a, b⟩ := q
  exact gd_lenL a b
theorem gd_addLg (q : ∃ a b, h[m]? = some (.lst a) ∧ h[n]? = some (.lst b) ∧ a.length + b.length ≤ 16777216 ∧ Good (new (.lst (a ++ b)) h) Q E) : Good (sAdd (.ref m) (.ref n) h) Q E := by
  obtain ⟨a, b, e1, e2, z, q⟩ := q
  exact gd_addL e1 e2 z q
theorem gd_eqNilSg (q : ∃ us : List Tx, h[n]? = some (.lst (us.map D.str)) ∧ h[m]? = some (.lst []) ∧ Q (.bl us.isEmpty, h)) : Good (sEq (.ref n) (.ref m) h) Q E := by
  obtain ⟨us, a, b, c⟩ := q
  exact gd_eqNilS a b c
theorem gd_eqNilCg (q : ∃ us : Tx, h[n]? = some (.lst (us.map fun c => D.str [c])) ∧ h[m]? = some (.lst []) ∧ Q (.bl us.isEmpty, h)) : Good (sEq (.ref n) (.ref m) h) Q E := by
  obtain ⟨us, a, b, c⟩ := q
  exact gd_eqNilC a b c
theorem gd_eqNilEg (q : h[n]? = some (.lst []) ∧ h[m]? = some (.lst []) ∧ Q (.bl true, h)) : Good (sEq (.ref n) (.ref m) h) Q E := gd_eqNilE q.1 q.2.1 q.2.2
end
abbrev kn0 (I : Env → Hy → Prop) : Kn := { nx := I, rt := fun _ _ => False, bk := fun _ _ => False, ct := fun _ _ => False, ex := fun _ _ _ _ => False }
theorem gs_mid {r : RS} {k : Kn} {I : Env → Hy → Prop} (g : Gs r (kn0 I)) (n : ∀ ρ h, I ρ h → k.nx ρ h) : Gs r k := g.mono n (fun _ _ z => z.elim) (fun _ _ z => z.elim) (fun _ _ z => z.elim) fun _ _ _ _ z => z.elim
theorem cS_mono : ∀ n : Nat, cS n ≤ cS (n + 1) ∧ cS n ≤ cS (n + 2)
  | 0 => by simp [cS]
  | 1 => by simp [cS]
  | n + 2 => by
    have a := cS_mono n
    have e1 : cS (n + 2) = 5000 + 13 * cS n := rfl
    have e2 : cS (n + 2 + 1) = 5000 + 13 * cS (n + 1) := rfl
    have e3 : cS (n + 2 + 2) = 5000 + 13 * cS (n + 2) := rfl
    omega
theorem cS_le {m n : Nat} (h : m ≤ n) : cS m ≤ cS n := by
  induction h with
  | refl => exact Nat.le_refl _
  | step _ ih => exact Nat.le_trans ih (cS_mono _).1
theorem cS_12 : cS 12 ≤ 3000000000 := by decide
theorem isW_words : ∀ x ∈ [D.str ['w', 'o', 'r', 'd'], .str ['n', 'u', 'm', 'b', 'e', 'r'], .str ['m', 'i', 'n', 'u', 's'], .str ['o', 'v', 'e', 'r'], .str ['s', 'p', 'e', 'l', 'l'], .str ['o', 'n', 'e'], .str ['n', 'a', 'm', 'e'], .str ['q', 'u', 'o', 't', 'e'], .str ['p', 'a', 'u', 's', 'e'], .str ['s', 'o', 'm', 'e', 'o', 'n', 'e'], .str ['l', 'o', 'u', 'd'], .str ['a']], ∃ j, x = .str j ∧ isW j := by
  intro x hx
  simp only [List.mem_cons, List.not_mem_nil, or_false] at hx
  rcases hx with rfl | rfl | rfl | rfl | rfl | rfl | rfl | rfl | rfl | rfl | rfl | rfl <;> exact ⟨_, rfl, by unfold isW; decide⟩
theorem isW_two {a b : Tx} (ha : isW a) (hb : isW b) : ∀ x ∈ [D.str a, .str b], ∃ j, x = .str j ∧ isW j := by
  intro x hx
  simp only [List.mem_cons, List.not_mem_nil, or_false] at hx
  rcases hx with rfl | rfl
  · exact ⟨_, rfl, ha⟩
  · exact ⟨_, rfl, hb⟩
theorem gd_inGw {E : String → Option D → Hy → Prop} {h : Hy} {Q : D × Hy → Prop} {b : Bool} (q : Q (.bl true, h)) : Good (sIn (.str (gw b)) (.tup [.str ['l', 'o', 'u', 'd'], .str ['q', 'u', 'o', 't', 'e']]) h) Q E :=
  gd_inT (ss := [gw true, gw false]) rfl (by rw [decide_eq_true (by cases b <;> simp)]; exact q)
theorem gd_inLQ {E : String → Option D → Hy → Prop} {h : Hy} {Q : D × Hy → Prop} {s : Tx} (q : Q (.bl (decide (s ∈ [['l', 'o', 'u', 'd'], ['q', 'u', 'o', 't', 'e']])), h)) : Good (sIn (.str s) (.tup [.str ['l', 'o', 'u', 'd'], .str ['q', 'u', 'o', 't', 'e']]) h) Q E :=
  gd_inT (ss := [['l', 'o', 'u', 'd'], ['q', 'u', 'o', 't', 'e']]) rfl q
theorem Sy.ds_len (s : Sy) : s.ds.length = s.pl.length := by rw [Sy.ds_pl, List.length_map]
theorem gd_addP {E : String → Option D → Hy → Prop} {h : Hy} {Q : D × Hy → Prop} {s : Sy} {p : Pr} (z : s.size ≤ 10000) (q : Q (.tup (s.app (Sy.of [p])).ds, h)) : Good (sAdd (.tup s.ds) (.tup [p.d]) h) Q E :=
  gd_addT (by have := s.len_size; rw [Sy.ds_len]; simp; omega) (by rw [Sy.app_ds, Sy.of_ds] at q; exact q)
theorem gd_addSy {E : String → Option D → Hy → Prop} {h : Hy} {Q : D × Hy → Prop} {s t : Sy} (z : s.size ≤ 10000) (z2 : t.size ≤ 10000) (q : Q (.tup (s.app t).ds, h)) : Good (sAdd (.tup s.ds) (.tup t.ds) h) Q E :=
  gd_addT (by have := s.len_size; have := t.len_size; rw [Sy.ds_len, Sy.ds_len]; omega) (by rw [Sy.app_ds] at q; exact q)
theorem prs_of {P : Pr → Prop} : ∀ {ys : List D}, (∀ y ∈ ys, ∃ p : Pr, y = p.d ∧ P p) → ∃ ps : List Pr, ys = ps.map Pr.d ∧ (∀ p ∈ ps, P p) ∧ ps.length = ys.length
  | [], _ => ⟨[], rfl, by simp, rfl⟩
  | y :: ys, h => by
    obtain ⟨s, rfl, p⟩ := h y (by simp)
    obtain ⟨ss, rfl, q, l⟩ := prs_of fun z hz => h z (List.mem_cons_of_mem _ hz)
    exact ⟨s :: ss, rfl, by simpa using ⟨p, q⟩, by simp⟩
theorem flat_of {P : Lf → Prop} {ps : List Pr} (h : ∀ p ∈ ps, p.all P ∧ p.deep ≤ 1 ∧ p.size ≤ 1) : (Sy.of ps).all P ∧ (Sy.of ps).deep ≤ 1 ∧ (Sy.of ps).size ≤ ps.length := by
  refine ⟨Sy.all_pl.mpr fun p hp => (h p (by simpa using hp)).1, Sy.deep_le.mpr fun p hp => (h p (by simpa using hp)).2.1, ?_⟩
  rw [Sy.size_pl, Sy.pl_of]
  induction ps with
  | nil => simp
  | cons p ps ih =>
    have a := (h p (by simp)).2.2
    have b := ih fun z hz => h z (List.mem_cons_of_mem _ hz)
    simp only [List.map_cons, List.sum_cons, List.length_cons]
    omega
theorem Sy.take_drop (ps : List Pr) (n : Nat) : (Sy.of (ps.take n)).app (Sy.of (ps.drop n)) = Sy.of ps := by rw [← Sy.of_app, List.take_append_drop]
theorem Sy.size_of (ps : List Pr) : (Sy.of ps).size = (ps.map Pr.size).sum := by rw [Sy.size_pl, Sy.pl_of]
theorem first_words : ∀ x ∈ [D.str ['w', 'o', 'r', 'd'], .str ['n', 'u', 'm', 'b', 'e', 'r'], .str ['n', 'a', 'm', 'e'], .str ['p', 'a', 'u', 's', 'e'], .str ['p', 'i', 'c', 't', 'u', 'r', 'e'], .str ['w', 'o', 'r', 'd'], .str ['l', 'o', 'u', 'd'], .str ['q', 'u', 'o', 't', 'e']],
    ∃ s, x = .str s ∧ s ∈ [['w', 'o', 'r', 'd'], ['n', 'u', 'm', 'b', 'e', 'r'], ['n', 'a', 'm', 'e'], ['p', 'a', 'u', 's', 'e'], ['p', 'i', 'c', 't', 'u', 'r', 'e'], ['l', 'o', 'u', 'd'], ['q', 'u', 'o', 't', 'e']] := by
  intro x hx
  simp only [List.mem_cons, List.not_mem_nil, or_false] at hx
  rcases hx with rfl | rfl | rfl | rfl | rfl | rfl | rfl | rfl <;> exact ⟨_, rfl, by simp⟩
end Px
namespace Px
/-! ## what kinds carry, sayings lessened -/
def Kd.car : Kd → List Tx
  | .l => [['l', 'o', 'u', 'd'], ['n', 'a', 'm', 'e'], ['n', 'u', 'm', 'b', 'e', 'r'], ['p', 'a', 'u', 's', 'e'], ['p', 'i', 'c', 't', 'u', 'r', 'e'], ['q', 'u', 'o', 't', 'e'], ['w', 'o', 'r', 'd']]
  | .c => [['n', 'a', 'm', 'e'], ['n', 'u', 'm', 'b', 'e', 'r'], ['p', 'a', 'u', 's', 'e'], ['q', 'u', 'o', 't', 'e'], ['w', 'o', 'r', 'd']]
  | .p => [['l', 'o', 'u', 'd'], ['n', 'a', 'm', 'e'], ['n', 'u', 'm', 'b', 'e', 'r'], ['p', 'a', 'u', 's', 'e'], ['p', 'i', 'c', 't', 'u', 'r', 'e'], ['w', 'o', 'r', 'd']]
  | .s => [['l', 'o', 'u', 'd'], ['n', 'u', 'm', 'b', 'e', 'r'], ['p', 'a', 'u', 's', 'e'], ['w', 'o', 'r', 'd']]
abbrev SOM : Lf := .wd ['s', 'o', 'm', 'e', 'o', 'n', 'e']
def Lf.less (kd : Kd) (p : Lf) : List Pr := if p.w ∈ kd.car then [.lf p] else if p.w = ['n', 'a', 'm', 'e'] then [.lf SOM] else []
def Sy.grp (kd : Kd) (q : Bool) (i : Sy) : List Pr := if gw q ∈ kd.car then (if i.pl.isEmpty then [] else [.gp q i]) else i.pl
def Sy.less (kd : Kd) : Sy → Sy
  | .nil => .nil
  | .lf p r => (Sy.of (p.less kd)).app (r.less kd)
  | .gp q i r => (Sy.of (Sy.grp kd q (i.less kd))).app (r.less kd)
def Pr.less (kd : Kd) : Pr → List Pr
  | .lf p => p.less kd
  | .gp q i => Sy.grp kd q (i.less kd)
theorem Sy.less_pl {kd : Kd} : ∀ s : Sy, (s.less kd).pl = (s.pl.map (Pr.less kd)).flatten
  | .nil => rfl
  | .lf p r => by rw [Sy.less, Sy.app_pl, Sy.pl_of, Sy.less_pl r]; rfl
  | .gp q i r => by rw [Sy.less, Sy.app_pl, Sy.pl_of, Sy.less_pl r]; rfl
theorem Sy.less_app {kd : Kd} (a b : Sy) : (a.app b).less kd = (a.less kd).app (b.less kd) := Sy.ext (by simp [Sy.less_pl])
theorem Pr.less_lf {kd : Kd} {p : Lf} {x : Pr} (h : x ∈ p.less kd) : x = .lf p ∧ p.w ∈ kd.car ∨ x = .lf SOM := by
  unfold Lf.less at h
  split at h
  · exact .inl ⟨by simpa using h, by assumption⟩
  · split at h
    · exact .inr (by simpa using h)
    · cases h
theorem Sy.less_all {kd : Kd} {P : Lf → Prop} (hP : P SOM) : ∀ {s : Sy}, s.all P → (s.less kd).all P
  | .nil, _ => trivial
  | .lf p r, h => by
    refine Sy.all_app.mpr ⟨Sy.all_pl.mpr fun x hx => ?_, Sy.less_all hP h.2⟩
    rw [Sy.pl_of] at hx
    rcases Pr.less_lf hx with ⟨rfl, _⟩ | rfl
    · exact h.1
    · exact hP
  | .gp q i r, h => by
    have a := Sy.less_all (kd := kd) hP h.2.1
    refine Sy.all_app.mpr ⟨Sy.all_pl.mpr fun x hx => ?_, Sy.less_all hP h.2.2⟩
    rw [Sy.pl_of] at hx
    unfold Sy.grp at hx
    split at hx
    · split at hx
      · cases hx
      · rename_i e
        have : x = .gp q (i.less kd) := by simpa using hx
        rw [this]
        exact ⟨fun z => e (by rw [z]; rfl), a⟩
    · exact Sy.all_pl.mp a x hx
theorem Sy.less_deep {kd : Kd} : ∀ {s : Sy}, (s.less kd).deep ≤ s.deep
  | .nil => by simp [Sy.less, Sy.deep]
  | .lf p r => by
    have a := Sy.less_deep (kd := kd) (s := r)
    refine Sy.deep_app.mpr ⟨Sy.deep_le.mpr fun x hx => ?_, by simp only [Sy.deep]; omega⟩
    rw [Sy.pl_of] at hx
    rcases Pr.less_lf hx with ⟨rfl, _⟩ | rfl <;> (simp only [Pr.deep, Sy.deep]; omega)
  | .gp q i r => by
    have a := Sy.less_deep (kd := kd) (s := r)
    have b := Sy.less_deep (kd := kd) (s := i)
    refine Sy.deep_app.mpr ⟨Sy.deep_le.mpr fun x hx => ?_, by simp only [Sy.deep]; omega⟩
    rw [Sy.pl_of] at hx
    unfold Sy.grp at hx
    split at hx
    · split at hx
      · cases hx
      · have : x = .gp q (i.less kd) := by simpa using hx
        rw [this]
        simp only [Pr.deep, Sy.deep]; omega
    · have := Sy.deep_le.mp b x hx
      simp only [Sy.deep]; omega
theorem Sy.less_size {kd : Kd} : ∀ {s : Sy}, (s.less kd).size ≤ s.size
  | .nil => by simp [Sy.less, Sy.size]
  | .lf p r => by
    have a := Sy.less_size (kd := kd) (s := r)
    rw [Sy.less, Sy.size_app, Sy.size_of]
    unfold Lf.less
    simp only [Sy.size]
    split
    · simp only [List.map_cons, List.map_nil, List.sum_cons, List.sum_nil, Pr.size]; omega
    · split
      · simp only [List.map_cons, List.map_nil, List.sum_cons, List.sum_nil, Pr.size]; omega
      · simp only [List.map_nil, List.sum_nil]; omega
  | .gp q i r => by
    have a := Sy.less_size (kd := kd) (s := r)
    have b := Sy.less_size (kd := kd) (s := i)
    rw [Sy.less, Sy.size_app, Sy.size_of]
    unfold Sy.grp
    simp only [Sy.size]
    split
    · split
      · simp only [List.map_nil, List.sum_nil]; omega
      · simp only [List.map_cons, List.map_nil, List.sum_cons, List.sum_nil, Pr.size]; omega
    · rw [← Sy.size_pl]; omega
/-! ## paths -/
def Sy.nodes (π : List Int) (k : Int) : Sy → List (List Int × Pr)
  | .nil => []
  | .lf p r => (π ++ [k], .lf p) :: r.nodes π (k + 1)
  | .gp q i r => (π ++ [k], .gp q i) :: (i.nodes (π ++ [k]) 0 ++ r.nodes π (k + 1))
def Pr.nodes (π : List Int) (k : Int) : Pr → List (List Int × Pr)
  | .lf p => [(π ++ [k], .lf p)]
  | .gp q i => (π ++ [k], .gp q i) :: i.nodes (π ++ [k]) 0
theorem Pr.nodes_inn (π : List Int) (k : Int) (p : Pr) : p.nodes π k = (π ++ [k], p) :: p.inn.nodes (π ++ [k]) 0 := by cases p <;> rfl
theorem Sy.nodes_app {π : List Int} : ∀ (a b : Sy) (k : Int), (a.app b).nodes π k = a.nodes π k ++ b.nodes π (k + a.pl.length)
  | .nil, b, k => by simp [Sy.app, Sy.nodes, Sy.pl]
  | .lf p r, b, k => by
    simp only [Sy.app, Sy.nodes, Sy.pl, List.length_cons, List.cons_append, Sy.nodes_app r b]
    congr 3
    omega
  | .gp q i r, b, k => by
    simp only [Sy.app, Sy.nodes, Sy.pl, List.length_cons, List.cons_append, Sy.nodes_app r b, List.append_assoc]
    congr 4
    omega
theorem Sy.nodes_of1 {π : List Int} {k : Int} (p : Pr) : (Sy.of [p]).nodes π k = p.nodes π k := by cases p <;> simp [Sy.of, Pr.cons, Sy.nodes, Pr.nodes]
theorem Sy.nodes_snoc {π : List Int} {k : Int} (l : List Pr) (p : Pr) : (Sy.of (l ++ [p])).nodes π k = (Sy.of l).nodes π k ++ p.nodes π (k + l.length) := by
  rw [Sy.of_app, Sy.nodes_app, Sy.pl_of, Sy.nodes_of1]
theorem Sy.nodes_len {π : List Int} : ∀ (s : Sy) (k : Int), (s.nodes π k).length = s.size
  | .nil, k => rfl
  | .lf p r, k => by simp only [Sy.nodes, List.length_cons, Sy.nodes_len r, Sy.size]; omega
  | .gp q i r, k => by
    have a := Sy.nodes_len (π := π ++ [k]) i 0
    simp only [Sy.nodes, List.length_cons, List.length_append, Sy.nodes_len r, a, Sy.size]; omega
theorem Sy.nodes_deep {π : List Int} : ∀ (s : Sy) (k : Int), ∀ x ∈ s.nodes π k, x.1.length ≤ π.length + s.deep
  | .nil, k, x, h => by cases h
  | .lf p r, k, x, h => by
    rcases List.mem_cons.mp h with rfl | h
    · simp only [List.length_append, List.length_cons, List.length_nil, Sy.deep]; omega
    · have := Sy.nodes_deep r _ x h; simp only [Sy.deep]; omega
  | .gp q i r, k, x, h => by
    rcases List.mem_cons.mp h with rfl | h
    · simp only [List.length_append, List.length_cons, List.length_nil, Sy.deep]; omega
    · rcases List.mem_append.mp h with h | h
      · have := Sy.nodes_deep i _ x h
        simp only [List.length_append, List.length_cons, List.length_nil] at this
        simp only [Sy.deep]; omega
      · have := Sy.nodes_deep r _ x h; simp only [Sy.deep]; omega
/-- from a part on along a path -/
def AtP : Pr → List Int → Pr → Prop
  | p0, [], p => p0 = p
  | p0, a :: r, p => ∃ j : Nat, a = j ∧ ∃ p1, p0.inn.pl[j]? = some p1 ∧ AtP p1 r p
def AtS (s : Sy) (π : List Int) (p : Pr) : Prop := ∃ (j : Nat) (r : List Int) (p0 : Pr), π = (j : Int) :: r ∧ s.pl[j]? = some p0 ∧ AtP p0 r p
theorem Sy.nodes_at : ∀ (s : Sy) (π : List Int) (k : Int), ∀ x ∈ s.nodes π k, ∃ (j : Nat) (r : List Int) (p0 : Pr), x.1 = π ++ (k + j) :: r ∧ s.pl[j]? = some p0 ∧ AtP p0 r x.2
  | .nil, π, k, x, h => by cases h
  | .lf p r, π, k, x, h => by
    rcases List.mem_cons.mp h with rfl | h
    · exact ⟨0, [], .lf p, by simp, rfl, rfl⟩
    · obtain ⟨j, r', p0, e, e1, e2⟩ := Sy.nodes_at r π _ x h
      exact ⟨j + 1, r', p0, by rw [e]; congr 2; omega, e1, e2⟩
  | .gp q i r, π, k, x, h => by
    rcases List.mem_cons.mp h with rfl | h
    · exact ⟨0, [], .gp q i, by simp, rfl, rfl⟩
    · rcases List.mem_append.mp h with h | h
      · obtain ⟨j, r', p0, e, e1, e2⟩ := Sy.nodes_at i _ _ x h
        exact ⟨0, (0 + j) :: r', .gp q i, by rw [e]; simp, rfl, j, by omega, p0, e1, e2⟩
      · obtain ⟨j, r', p0, e, e1, e2⟩ := Sy.nodes_at r π _ x h
        exact ⟨j + 1, r', p0, by rw [e]; congr 2; omega, e1, e2⟩
theorem Sy.nodes_atS {s : Sy} {x : List Int × Pr} (h : x ∈ s.nodes [] 0) : AtS s x.1 x.2 := by
  obtain ⟨j, r, p0, e, e1, e2⟩ := Sy.nodes_at s [] 0 x h
  exact ⟨j, r, p0, by rw [e]; simp, e1, e2⟩
theorem AtP.mem {P : Pr → Prop} (down : ∀ p q : Pr, P p → q ∈ p.inn.pl → P q) : ∀ {π : List Int} {p0 p : Pr}, AtP p0 π p → P p0 → P p
  | [], p0, p, h, a => by rw [← (show p0 = p from h)]; exact a
  | x :: r, p0, p, ⟨j, _, p1, e, h⟩, a => AtP.mem down h (down p0 p1 a (List.mem_of_getElem? e))
def pd (π : List Int) : D := .tup (π.map .int)
@[simp] theorem pd_lt {m : Nat} (π : List Int) : (pd π).lt m = true := by simp [pd]
def Sy.lost (kd : Kd) (s : Sy) : List (List Int × Pr) := (s.nodes [] 0).filter fun x => !decide (x.2.w ∈ kd.car)
def lostD (x : List Int × Pr) : D := .tup [pd x.1, .str x.2.w]
@[simp] theorem lostD_lt {m : Nat} (x : List Int × Pr) : (lostD x).lt m = true := by simp [lostD]
theorem ltAll_map {γ : Type} {mk : γ → D} {m : Nat} : ∀ {us : List γ}, (∀ u ∈ us, (mk u).lt m = true) → D.ltAll m (us.map mk) = true
  | [], _ => by simp
  | u :: us, h => by simp [h u (by simp), ltAll_map fun v hv => h v (List.mem_cons_of_mem _ hv)]
/-! ### rules -/
section
variable {E : String → Option D → Hy → Prop} {ρ : Env} {h h0 : Hy} {Q : D × Hy → Prop} {k : Kn} {L : List (Nat × Ob)} {b : Nat}
theorem car_in {kd : Kd} {w : Tx} (q : Q (.bl (decide (w ∈ kd.car)), h)) : Good (sIn (.str w) (.tup (kd.car.map D.str)) h) Q E := gd_inT rfl q
theorem car_nin {kd : Kd} {w : Tx} (q : Q (.bl (!decide (w ∈ kd.car)), h)) : Good (sNotIn (.str w) (.tup (kd.car.map D.str)) h) Q E := gd_ninT rfl q
abbrev CARRIED : List (Tx × D) := [(['l', 'e', 't', 't', 'e', 'r', 's'], .tup (Kd.l.car.map D.str)), (['c', 'a', 'l', 'l', 's'], .tup (Kd.c.car.map D.str)), (['p', 'a', 'g', 'e', 's'], .tup (Kd.p.car.map D.str)), (['s', 'o', 'u', 'n', 'd', 's'], .tup (Kd.s.car.map D.str))]
theorem gd_kdCar {tb : List (Tx × D)} {f : FE} {kd : Kd} (e : tb = CARRIED) (q : Good (f ρ h) (fun p => p.1 = .str kd.tx ∧ Q (.tup (kd.car.map D.str), p.2)) E) : Good (eKdIx tb f ρ h) Q E := by
  subst e
  unfold eKdIx
  refine gd_bind (q.mono (fun p z => ?_) fun _ _ _ z => z)
  obtain ⟨e, z⟩ := z
  rw [e]
  have l : CARRIED.lookup kd.tx = some (.tup (kd.car.map D.str)) := by cases kd <;> simp [Kd.tx, List.lookup] <;> rfl
  simp only [l]
  exact z
theorem gd_inLs {n : Nat} {xs : List D} {ss : List Tx} {s : Tx} (e : h[n]? = some (.lst xs)) (ex : xs = ss.map D.str) (q : Q (.bl (decide (s ∈ ss)), h)) : Good (sIn (.str s) (.ref n) h) Q E := by
  subst ex
  have a : Good (sIn (.str s) (.tup (ss.map D.str)) h) (fun r => r = (.bl (decide (s ∈ ss)), h)) NE := gd_inT rfl rfl
  refine gd_of ?_ q
  have v1 : vw h 24 (.ref n) = some (.lst (ss.map T.str)) := vw_ref e (vw_strs _ ss)
  have v2 : vw h 24 (.tup (ss.map D.str)) = some (.tup (ss.map T.str)) := by
    show ((ss.map D.str).mapM (vw h 23)).map T.tup = _
    rw [vw_strs]
    rfl
  have a := ok_of a
  unfold sIn isIn at a ⊢
  simp only [v1, v2] at a ⊢
  exact a
/-- a tuple of a pure thing and a new list is given back -/
theorem gd_pureT {n N : Nat} {b : FS} {ds : List D} (hl : ds.length = n) (hp : D.ltAll 0 ds = true)
    (q : Gs (b (startE N ds) []) { nx := fun _ _ => False, rt := fun d h1 => ∃ x m xs, d = .tup [x, .ref m] ∧ x.lt 0 = true ∧ h1[m]? = some (.lst xs) ∧ D.ltAll 0 xs = true ∧ ∀ g : Hy, g[m]? = some (.lst xs) → Q (.tup [x, .ref (h.length + m)], h ++ g), bk := fun _ _ => False, ct := fun _ _ => False, ex := fun _ _ _ _ => False }) : Good (defD n N b ds h) Q E := by
  rw [defD_pure hl hp]
  unfold bodyD
  cases r : b (startE N ds) [] with
  | rt d h1 =>
    rw [r] at q
    obtain ⟨x, m, xs, rfl, hx, e, hxs, q⟩ := q
    have o : (RS.rt (.tup [x, .ref m]) h1).out [] = .ok (.tup [x, .ref m], h1) := by
      show R.ok (gc [] (.tup [x, .ref m], h1)) = _
      unfold gc
      rw [if_pos (Clean.nil _), if_neg (by simp)]
    rw [o]
    show Good (.ok (_, _)) Q E
    have e2 : D.sh h.length (.tup [x, .ref m]) = .tup [x, .ref (h.length + m)] := by simp only [D.sh, D.shs, D.sh_pure hx]
    show Q (D.sh h.length (.tup [x, .ref m]), _)
    rw [e2]
    refine q _ ?_
    rw [List.getElem?_map, e]
    show some (Ob.lst (D.shs h.length xs)) = _
    rw [D.shs_pure hxs]
  | nx ρ h1 => rw [r] at q; exact q.elim
  | bk ρ h1 => rw [r] at q; exact q.elim
  | ct ρ h1 => rw [r] at q; exact q.elim
  | exc c d ρ h1 => rw [r] at q; exact q.elim
  | stuck => rw [r] at q; exact q.elim
theorem St.grow {g : Hy} {m : Nat} {o : Ob} (S : St h0 b h L) (e : g[m]? = some o) : St h0 b (h ++ g) (L ++ [(h.length + m, o)]) := by
  refine ⟨by have := S.len; simp; omega, fun m hm hb => ?_, fun q hq => ?_, ?_, fun q hq => ?_⟩
  · rw [List.getElem?_append_left (by have := S.len; omega)]
    exact S.fr m hm hb
  · rcases List.mem_append.mp hq with hq | hq
    · exact hp_low (S.cells _ hq)
    · have : q = (h.length + m, o) := by simpa using hq
      rw [this]
      rw [hp_last]
      exact e
  · have nd := S.nd
    rw [List.map_append]
    refine List.nodup_append.mpr ⟨nd, by simp, fun x hx y hy => ?_⟩
    obtain ⟨q, hq, rfl⟩ := List.mem_map.mp hx
    have := S.lt hq
    have hy : y = h.length + m := by simpa using hy
    omega
  · rcases List.mem_append.mp hq with hq | hq
    · exact S.new q hq
    · have : q = (h.length + m, o) := by simpa using hq
      rw [this]
      have := S.len
      exact .inr (by simp only; omega)
end
end Px
namespace Px
theorem Sy.less_ds {kd : Kd} (s : Sy) : (s.pl.map fun p => (p.less kd).map Pr.d).flatten = (s.less kd).ds := by
  rw [Sy.ds_pl, Sy.less_pl, List.map_flatten, List.map_map]
  rfl
section
variable {E : String → Option D → Hy → Prop} {h : Hy} {Q : D × Hy → Prop}
theorem gd_inLf {p : Lf} (q : Q (.bl false, h)) : Good (sIn (.str p.w) (.tup [.str ['l', 'o', 'u', 'd'], .str ['q', 'u', 'o', 't', 'e']]) h) Q E :=
  gd_inG (p := .lf p) q
end
end Px
namespace Px
section
variable {E : String → Option D → Hy → Prop} {ρ : Env} {h : Hy} {Q : D × Hy → Prop} {QI : (List D × Option Nat) × Hy → Prop} {f : FE}
theorem gd_listT {xs : List D} (q : Good (new (.lst xs) h) Q E) : Good (gListG [.tup xs] h) Q E := q
theorem gd_iEnumT {xs : List D} (q : Good (f ρ h) (fun p => ∃ xs, p.1 = .tup xs ∧ QI ((numbered 0 xs, none), p.2)) E) : Good (iEnum2 f ρ h) QI E := by
  refine gd_iEnum (q.mono (fun p z => ?_) fun _ _ _ z => z)
  obtain ⟨xs, e, z⟩ := z
  rw [e]
  exact z
theorem gd_addPd {π : List Int} {k : Int} (z : π.length ≤ 10000) (q : Q (pd (π ++ [k]), h)) : Good (sAdd (pd π) (.tup [.int k]) h) Q E := by
  unfold pd at q ⊢
  rw [List.map_append] at q
  exact gd_addT (by simp; omega) q
theorem gd_isNotN {x : D} (q : Q (.bl (!x.isNon), h)) : Good (sIsNot x .non h) Q E := by cases x <;> exact q
theorem atI_ds {t : Sy} {j : Nat} {p : Pr} (e : t.pl[j]? = some p) : L2.atI t.ds (j : Int) = some p.d ∧ j < t.ds.length := by
  have hj : j < t.pl.length := (List.getElem?_eq_some_iff.mp e).1
  have hl : j < t.ds.length := by rw [Sy.ds_len]; exact hj
  refine ⟨?_, hl⟩
  rw [atI_nat (d := .non) (by omega) (by omega), Int.toNat_natCast, List.getD_eq_getElem?_getD, Sy.ds_pl, List.getElem?_map, e]
  rfl
theorem AtP.isG {p1 p2 : Pr} {j : Nat} (e : p1.inn.pl[j]? = some p2) : p1.isG = true := by
  cases p1 with
  | lf p => simp [Pr.inn, Sy.pl] at e
  | gp q i => rfl
theorem gd_isNotP {p : Pr} (q : Q (.bl true, h)) : Good (sIsNot p.d .non h) Q E := q
theorem Sy.less_cons {kd : Kd} {p : Pr} {l : List Pr} : ((Sy.of (p :: l)).less kd).ds = (p.less kd).map Pr.d ++ ((Sy.of l).less kd).ds := by
  rw [← Sy.less_ds, ← Sy.less_ds, Sy.pl_of, Sy.pl_of]
  rfl
theorem gd_isiL {n : Nat} {xs : List D} (e : h[n]? = some (.lst xs)) (q : Q (.bl true, h)) : Good (gIsi "list" [.ref n] h) Q E := gd_isi (t := "list") (by unfold tyOf; simp only [e]) q
theorem gd_isiT {xs : List D} (q : Q (.bl true, h)) : Good (gIsi "tuple" [.tup xs] h) Q E := gd_isi (t := "tuple") rfl q
theorem isLst_of' {n : Nat} {xs : List D} (e : h[n]? = some (.lst xs)) : isLst h (.ref n) = true := isLst_ref e
theorem Sy.rep_size {kd : Kd} {s : Sy} {pre post : List Pr} (e : s.pl.reverse = pre ++ post) : ((Sy.of pre.reverse).less kd).ds.length ≤ s.size := by
  have a : s.pl = post.reverse ++ pre.reverse := by rw [← List.reverse_append, ← e, List.reverse_reverse]
  have b := Sy.less_size (kd := kd) (s := Sy.of pre.reverse)
  have c := ((Sy.of pre.reverse).less kd).len_size
  have d := s.size_pl
  rw [a, List.map_append, List.sum_append_nat] at d
  rw [Sy.size_of] at b
  rw [Sy.ds_len]
  omega
theorem gd_neSyT {s : Sy} (c : s.pl.isEmpty = true) (hd : s.deep ≤ 10) (q : Q (.bl false, h)) : Good (sNe (.tup s.ds) (.tup []) h) Q E := gd_neSy0 hd (by rw [c]; exact q)
theorem gd_neSyF {s : Sy} (c : s.pl.isEmpty = false) (hd : s.deep ≤ 10) (q : Q (.bl true, h)) : Good (sNe (.tup s.ds) (.tup []) h) Q E := gd_neSy0 hd (by rw [c]; exact q)
theorem gd_intF (q : Q (.int 0, h)) : Good (gInt [.bl false] h) Q E := q
theorem gd_intT (q : Q (.int 1, h)) : Good (gInt [.bl true] h) Q E := q
theorem Lf.nGrp (p : Lf) (kd : Kd) : decide (p.w ∈ [['l', 'o', 'u', 'd'], ['q', 'u', 'o', 't', 'e']]) = false := by cases p <;> simp [Lf.w]
theorem gd_inCS {s : Tx} (q : Q (.bl (decide (s ∈ [['c', 'a', 'l', 'l', 's'], ['s', 'o', 'u', 'n', 'd', 's']])), h)) : Good (sIn (.str s) (.tup [.str ['c', 'a', 'l', 'l', 's'], .str ['s', 'o', 'u', 'n', 'd', 's']]) h) Q E := gd_inT (ss := [['c', 'a', 'l', 'l', 's'], ['s', 'o', 'u', 'n', 'd', 's']]) rfl q
theorem gd_neSelf {s : Tx} (q : Q (.bl false, h)) : Good (sNe (.str s) (.str s) h) Q E := gd_neS (by rw [decide_eq_true rfl]; exact q)
theorem isLst0 {xs : List D} {g : Hy} : isLst (Ob.lst xs :: g) (.ref 0) = true := rfl
theorem gd_app0 {xs : List D} {y : D} {g : Hy} (z : xs.length < 16777216) (q : Q (.non, .lst (xs ++ [y]) :: g)) : Good (mAppend (.ref 0) [y] (Ob.lst xs :: g)) Q E := gd_append (by rfl) z q
theorem gd_ext0 {xs ys : List D} {g : Hy} (z : xs.length + ys.length ≤ 16777216) (q : Q (.non, .lst (xs ++ ys) :: (g ++ [.lst ys]))) : Good (mExtend (.ref 0) [.ref (g.length + 1)] (Ob.lst xs :: (g ++ [.lst ys]))) Q E :=
  gd_extend (xs := xs) (ys := ys) (by rfl) (by rw [List.getElem?_cons_succ]; exact hp_last0) z q
theorem nodes_pre {s : Sy} {pre post : List Pr} {p : Pr} {π : List Int} (e : s.pl = pre ++ p :: post) : ((Sy.of pre).nodes π 0).length + (p.nodes π pre.length).length ≤ s.size := by
  have a : s = ((Sy.of (pre ++ [p])).app (Sy.of post)) := Sy.ext (by rw [Sy.app_pl, Sy.pl_of, Sy.pl_of, e]; simp)
  have b := congrArg (fun s => (s.nodes π 0).length) a
  simp only [Sy.nodes_app, Sy.nodes_snoc, List.length_append, Sy.nodes_len s] at b
  rw [Int.zero_add] at b
  omega
end
end Px
namespace Px
/-! ## what is lost, shown -/
theorem Sy.nodes_small : ∀ (s : Sy) (π : List Int) (k : Int), 0 ≤ k → k + s.size ≤ 10000 → (∀ a ∈ π, 0 ≤ a ∧ a ≤ 10000) → ∀ x ∈ s.nodes π k, ∀ a ∈ x.1, 0 ≤ a ∧ a ≤ 10000
  | .nil, π, k, _, _, _, x, h => by cases h
  | .lf p r, π, k, h0, h1, hp, x, h => by
    simp only [Sy.size] at h1
    rcases List.mem_cons.mp h with rfl | h
    · intro a ha
      rcases List.mem_append.mp ha with ha | ha
      · exact hp a ha
      · have : a = k := by simpa using ha
        omega
    · exact Sy.nodes_small r π (k + 1) (by omega) (by omega) hp x h
  | .gp q i r, π, k, h0, h1, hp, x, h => by
    simp only [Sy.size] at h1
    have hk : ∀ a ∈ π ++ [k], 0 ≤ a ∧ a ≤ 10000 := by
      intro a ha
      rcases List.mem_append.mp ha with ha | ha
      · exact hp a ha
      · have : a = k := by simpa using ha
        omega
    rcases List.mem_cons.mp h with rfl | h
    · exact hk
    · rcases List.mem_append.mp h with h | h
      · exact Sy.nodes_small i (π ++ [k]) 0 (by omega) (by omega) hk x h
      · exact Sy.nodes_small r π (k + 1) (by omega) (by omega) hp x h
theorem Pr.w_small (p : Pr) : (p.w.all fun c => decide (c.toNat < 128)) = true ∧ p.w.length ≤ 8 := by
  cases p with
  | lf p => exact Lf.w_small p
  | gp q i => have := gw_small q; exact ⟨this.1, by show (gw q).length ≤ 8; omega⟩
def lostT (x : List Int × Pr) : T := .tup [.tup (x.1.map .int), .str x.2.w]
theorem lostD_vw {h : Hy} {n : Nat} (x : List Int × Pr) : vw h (n + 3) (lostD x) = some (lostT x) := by
  unfold lostD lostT pd
  simp only [vw, List.mapM_cons, List.mapM_nil, vw_ints]
  rfl
theorem num_len5 {a : Int} (h0 : 0 ≤ a) (h1 : a ≤ 10000) : (num a).length ≤ 5 := num_len h0 (by omega) (by omega)
theorem ints_wt : ∀ l : List Int, (∀ a ∈ l, 0 ≤ a ∧ a ≤ 10000) → T.shws (l.map .int) = true ∧ T.wts (l.map .int) ≤ 7 * l.length
  | [], _ => by simp [T.shws, T.wts]
  | a :: l, h => by
    have b := ints_wt l fun z hz => h z (List.mem_cons_of_mem _ hz)
    have c := h a (by simp)
    have d := num_len5 c.1 c.2
    simp only [List.map_cons, T.shws, T.shw, T.wts, T.wt, Bool.and_eq_true, decide_eq_true_eq, List.length_cons]
    exact ⟨⟨⟨by omega, by omega⟩, b.1⟩, by omega⟩
theorem lostT_wt {x : List Int × Pr} (h : ∀ a ∈ x.1, 0 ≤ a ∧ a ≤ 10000) (hl : x.1.length ≤ 10) : (lostT x).shw = true ∧ (lostT x).wt ≤ 200 := by
  have a := ints_wt x.1 h
  have b := Pr.w_small x.2
  unfold lostT
  simp only [T.shw, T.shws, T.wt, T.wts, Bool.and_eq_true, Bool.and_true]
  exact ⟨⟨a.1, b.1⟩, by omega⟩
theorem lostTs_wt : ∀ l : List (List Int × Pr), (∀ x ∈ l, (∀ a ∈ x.1, 0 ≤ a ∧ a ≤ 10000) ∧ x.1.length ≤ 10) → T.shws (l.map lostT) = true ∧ T.wts (l.map lostT) ≤ 202 * l.length
  | [], _ => by simp [T.shws, T.wts]
  | x :: l, h => by
    have b := lostTs_wt l fun z hz => h z (List.mem_cons_of_mem _ hz)
    have c := h x (by simp)
    have d := lostT_wt c.1 c.2
    simp only [List.map_cons, T.shws, T.wts, Bool.and_eq_true, List.length_cons]
    exact ⟨⟨d.1, b.1⟩, by omega⟩
theorem Sy.lost_len {kd : Kd} (s : Sy) : (s.lost kd).length ≤ s.size := by rw [← Sy.nodes_len s 0 (π := [])]; exact List.length_filter_le _ _
section
variable {E : String → Option D → Hy → Prop} {h : Hy} {Q : D × Hy → Prop}
theorem gd_reprLost {kd : Kd} {s : Sy} {n : Nat} (e : h[n]? = some (.lst ((s.lost kd).map lostD))) (hd : s.deep ≤ 10) (hz : s.size ≤ 10000) (q : Q (.str (T.lst ((s.lost kd).map lostT)).rtx, h)) : Good (gRepr [.ref n] h) Q E := by
  have v : vw h 24 (.ref n) = some (.lst ((s.lost kd).map lostT)) := vw_ref e (vw_map _ fun x _ => lostD_vw x)
  have a := lostTs_wt (s.lost kd) fun x hx => by
    have hx := (List.mem_filter.mp hx).1
    have l := Sy.nodes_deep s 0 x hx
    simp only [List.length_nil] at l
    exact ⟨Sy.nodes_small s [] 0 (by omega) (by omega) (by simp) x hx, by omega⟩
  have b : (T.lst ((s.lost kd).map lostT)).shw = true := by simpa [T.shw] using a.1
  refine gd_repr v b ?_ q
  have c := T.rtx_wt _ b
  have d := Sy.lost_len (kd := kd) s
  simp only [T.wt] at c
  omega
theorem gd_appN {n : Nat} {xs : List D} {y : D} (e : h[n]? = some (.lst xs)) (z : xs.length < 16777216) (q : ∀ h' : Hy, h'.length = h.length → h'[n]? = some (.lst (xs ++ [y])) → (∀ m, m ≠ n → h'[m]? = h[m]?) → Q (.non, h')) : Good (mAppend (.ref n) [y] h) Q E :=
  gd_append e z (q _ List.length_set (hp_set_self e) fun m hm => List.getElem?_set_ne (Ne.symm hm))
theorem gd_extN {n : Nat} {xs ys : List D} (e : h[n]? = some (.lst xs)) (z : xs.length + ys.length ≤ 16777216) (q : ∀ h' : Hy, h'[n]? = some (.lst (xs ++ ys)) → (∀ m, m < h.length → m ≠ n → h'[m]? = h[m]?) → Q (.non, h')) : Good (mExtend (.ref n) [.ref h.length] (h ++ [.lst ys])) Q E := by
  refine gd_extend (hp_low e) hp_last0 z (q _ (hp_set_self (hp_low e)) fun m hm hn => ?_)
  rw [List.getElem?_set_ne (Ne.symm hn), List.getElem?_append_left hm]
theorem gd_clearS {h0 : Hy} {b n : Nat} {xs : List D} {c : Nat × Ob} {L : List (Nat × Ob)} (S : St h0 b h (c :: (n, .lst xs) :: L)) (q : ∀ h', St h0 b h' (c :: (n, .lst []) :: L) → Q (.non, h')) : Good (mClear (.ref n) [] h) Q E := gd_clear S.g1 (q _ (St.write (L := [c]) S))
end
end Px
namespace Px
theorem gd_eqSyF {E : String → Option D → Hy → Prop} {h : Hy} {Q : D × Hy → Prop} {s : Sy} (c : s.pl.isEmpty = false) (hd : s.deep ≤ 10) (q : Q (.bl false, h)) : Good (sEq (.tup s.ds) (.tup []) h) Q E := gd_eqSy0 hd (by rw [c]; exact q)
theorem gd_eqPr {E : String → Option D → Hy → Prop} {h : Hy} {Q : D × Hy → Prop} {p : Pr} (hd : p.deep ≤ 10) (q : Q (.bl false, h)) : Good (sEq (.tup (.str p.w :: p.rs)) (.tup []) h) Q E := by
  have a : (Sy.of [p]).deep ≤ 10 := Sy.of1_deep.mpr hd
  have b := Sy.vw (h := h) (Sy.of [p]) 24 (by omega)
  have c : (Sy.of [p]).ds = [p.d] := by rw [Sy.of_ds]; rfl
  rw [c] at b
  simp only [List.mapM_cons, List.mapM_nil] at b
  have e : (Sy.of [p]).ts = [T.tup (.str p.w :: match p with | .lf p => p.ts | .gp _ i => [.tup i.ts])] := by cases p <;> rfl
  rw [e] at b
  cases v : vw h 24 p.d with
  | none => rw [v] at b; cases b
  | some t =>
    rw [v] at b
    have b : some [t] = some [_] := b
    have b := (List.cons.inj (Option.some.inj b)).1
    refine gd_eqV (a := t) (b := .tup []) v rfl ?_
    rw [b]
    simp only [T.eqv, T.eqvs]
    exact q
end Px
namespace Px
/-! ## paths are rising -/
theorem lexAt_shift {e r : Nat → Bool} {z : Bool} : ∀ (n i : Nat), Ob.lexAt (fun j => e (j + 1)) (fun j => r (j + 1)) z i n = Ob.lexAt e r z (i + 1) n
  | 0, i => rfl
  | n + 1, i => by rw [Ob.lexAt_succ, Ob.lexAt_succ, lexAt_shift n (i + 1)]
theorem ltTup_cons (x : Int) (a b : List Int) : ltTup (x :: a) (x :: b) = ltTup a b := by
  have m : min (x :: a).length (x :: b).length = min a.length b.length + 1 := by simp only [List.length_cons]; omega
  have d : decide ((x :: a).length < (x :: b).length) = decide (a.length < b.length) := by
    simp only [List.length_cons]
    by_cases h : a.length < b.length
    · rw [decide_eq_true h, decide_eq_true (by omega)]
    · rw [decide_eq_false h, decide_eq_false (by omega)]
  unfold ltTup
  rw [m, d, Ob.lexAt_succ, if_pos (by simp), ← lexAt_shift]
  rfl
theorem ltTup_app (π a b : List Int) : ltTup (π ++ a) (π ++ b) = ltTup a b := by
  induction π with
  | nil => rfl
  | cons x π ih => rw [List.cons_append, List.cons_append, ltTup_cons, ih]
theorem ltTup_lt {x y : Int} (h : x < y) (a b : List Int) : ltTup (x :: a) (y :: b) = true := by
  have m : min (x :: a).length (y :: b).length = min a.length b.length + 1 := by simp only [List.length_cons]; omega
  unfold ltTup
  rw [m, Ob.lexAt_succ, if_neg (by simp; omega)]
  simpa using h
theorem ltTup_nil (x : Int) (a : List Int) : ltTup [] (x :: a) = true := by
  unfold ltTup
  simp [Ob.lexAt_zero]
theorem Sy.nodes_rise : ∀ (s : Sy) (π : List Int) (k : Int), (s.nodes π k).Pairwise fun x y => ltTup x.1 y.1 = true
  | .nil, π, k => .nil
  | .lf p r, π, k => by
    refine List.pairwise_cons.mpr ⟨fun y hy => ?_, Sy.nodes_rise r π (k + 1)⟩
    obtain ⟨j, r', _, e, _⟩ := Sy.nodes_at r π _ y hy
    rw [e, ltTup_app]
    exact ltTup_lt (by omega) _ _
  | .gp q i r, π, k => by
    refine List.pairwise_cons.mpr ⟨fun y hy => ?_, List.pairwise_append.mpr ⟨Sy.nodes_rise i _ _, Sy.nodes_rise r _ _, fun x hx y hy => ?_⟩⟩
    · rcases List.mem_append.mp hy with hy | hy
      · obtain ⟨j, r', _, e, _⟩ := Sy.nodes_at i _ _ y hy
        have := ltTup_app (π ++ [k]) [] ((0 + (j : Int)) :: r')
        rw [List.append_nil] at this
        rw [e]
        exact this.trans (ltTup_nil _ _)
      · obtain ⟨j, r', _, e, _⟩ := Sy.nodes_at r π _ y hy
        rw [e, ltTup_app]
        exact ltTup_lt (by omega) _ _
    · obtain ⟨j, r', _, e, _⟩ := Sy.nodes_at i _ _ x hx
      obtain ⟨j2, r2, _, e2, _⟩ := Sy.nodes_at r π _ y hy
      rw [e, e2, List.append_assoc, ltTup_app]
      exact ltTup_lt (by omega) _ _
/-! ## first words -/
def Sy.ws : Sy → List Tx
  | .nil => []
  | .lf p r => p.w :: r.ws
  | .gp q i r => gw q :: (i.ws ++ r.ws)
theorem Sy.nodes_ws : ∀ (s : Sy) (π : List Int) (k : Int), (s.nodes π k).map (fun x => x.2.w) = s.ws
  | .nil, π, k => rfl
  | .lf p r, π, k => by simp only [Sy.nodes, List.map_cons, Sy.nodes_ws r, Sy.ws]; rfl
  | .gp q i r, π, k => by simp only [Sy.nodes, List.map_cons, List.map_append, Sy.nodes_ws r, Sy.nodes_ws i, Sy.ws]; rfl
theorem Sy.ws_len : ∀ s : Sy, s.ws.length = s.size
  | .nil => rfl
  | .lf p r => by simp only [Sy.ws, List.length_cons, Sy.ws_len r, Sy.size]; omega
  | .gp q i r => by simp only [Sy.ws, List.length_cons, List.length_append, Sy.ws_len r, Sy.ws_len i, Sy.size]; omega
theorem Sy.ws_app : ∀ s t : Sy, (s.app t).ws = s.ws ++ t.ws
  | .nil, t => rfl
  | .lf p r, t => by simp only [Sy.app, Sy.ws, Sy.ws_app r t, List.cons_append]
  | .gp q i r, t => by simp only [Sy.app, Sy.ws, Sy.ws_app r t, List.cons_append, List.append_assoc]
theorem Pr.ws_inn (p : Pr) : (Sy.of [p]).ws = p.w :: p.inn.ws := by cases p <;> simp [Sy.of, Pr.cons, Sy.ws, Pr.w, Pr.inn]
/-! ## paths moved -/
theorem Sy.nodes_base {ρ : List Int} : ∀ (s : Sy) (π : List Int) (k : Int), (s.nodes (ρ ++ π) k).map (·.1) = (s.nodes π k).map fun x => ρ ++ x.1
  | .nil, π, k => rfl
  | .lf p r, π, k => by simp only [Sy.nodes, List.map_cons, Sy.nodes_base r, List.append_assoc]
  | .gp q i r, π, k => by
    have a := Sy.nodes_base (ρ := ρ) i (π ++ [k]) 0
    simp only [Sy.nodes, List.map_cons, List.map_append, Sy.nodes_base r, List.append_assoc] at a ⊢
    rw [a]
def shift (c : Int) : List Int → List Int
  | [] => []
  | a :: r => (a + c) :: r
theorem shift_one {c k : Int} : shift c [k] = [k + c] := rfl
theorem Sy.nodes_shift {c : Int} : ∀ (s : Sy) (k : Int), (s.nodes [] (k + c)).map (·.1) = (s.nodes [] k).map fun x => shift c x.1
  | .nil, k => rfl
  | .lf p r, k => by
    have a := Sy.nodes_shift (c := c) r (k + 1)
    simp only [Sy.nodes, List.map_cons, List.nil_append, shift_one]
    rw [← a]
    congr 2
    congr 1
    omega
  | .gp q i r, k => by
    have a := Sy.nodes_shift (c := c) r (k + 1)
    have b := Sy.nodes_base (ρ := [k + c]) i [] 0
    have d := Sy.nodes_base (ρ := [k]) i [] 0
    rw [List.append_nil] at b d
    have e : ((i.nodes [k] 0).map fun x => shift c x.1) = (i.nodes [] 0).map fun x => [k + c] ++ x.1 := by
      have := congrArg (List.map (shift c)) d
      rw [List.map_map, List.map_map] at this
      exact this
    simp only [Sy.nodes, List.map_cons, List.map_append, List.nil_append, shift_one, b, e]
    rw [← a]
    congr 3
    congr 1
    omega
/-! ### rules -/
section
variable {E : String → Option D → Hy → Prop} {ρ : Env} {h : Hy} {Q : D × Hy → Prop} {QL : List D × Hy → Prop} {f : FE} {t : FT}
theorem gd_ltTI {ns ms : List Int} (q : Q (.bl (ltTup ns ms), h)) : Good (sLtT (pd ns) (pd ms) h) Q E := by
  unfold pd sLtT
  simp only [intsD_map]
  exact q
theorem gd_neLs {m n : Nat} {xs ys : List D} {a : List Tx} (e1 : h[m]? = some (.lst xs)) (e2 : h[n]? = some (.lst ys)) (f1 : xs = a.map D.str) (f2 : ys = a.map D.str) (q : Q (.bl false, h)) : Good (sNe (.ref m) (.ref n) h) Q E := by
  subst f1
  subst f2
  refine gd_neV (vw_ref e1 (vw_strs _ a)) (vw_ref e2 (vw_strs _ a)) ?_
  rw [T.eqv_self]
  exact q
theorem pd_vw {n : Nat} (π : List Int) : vw h (n + 2) (pd π) = some (.tup (π.map .int)) := by
  unfold pd
  simp only [vw, vw_ints]
  rfl
theorem gd_neLpd {m n : Nat} {xs ys : List D} {a : List (List Int)} (e1 : h[m]? = some (.lst xs)) (e2 : h[n]? = some (.lst ys)) (f1 : xs = a.map pd) (f2 : ys = a.map pd) (q : Q (.bl false, h)) : Good (sNe (.ref m) (.ref n) h) Q E := by
  subst f1
  subst f2
  have v : (a.map pd).mapM (vw h 23) = some (a.map fun π => .tup (π.map T.int)) := vw_map _ fun π _ => pd_vw π
  refine gd_neV (vw_ref e1 v) (vw_ref e2 v) ?_
  rw [T.eqv_self]
  exact q
/-- nothing of it is taken -/
theorem gd_cNone {ct : CT} {all : List D} {o : Option Nat} (xs : List D) (e : srcOk all o h) (hx : ∀ x ∈ xs, ∃ ρ1, ct.store x ρ = some ρ1 ∧ Good (t ρ1 h) (fun r => r = (false, h)) NE) (q : QL ([], h)) : Good (cLoop ct t f ρ all o xs h) QL E := by
  have := gd_cMap (QL := QL) (E := E) (t := t) (f := f) (fun x : D => x) xs (fun x => x) (fun _ => false) e (fun x hm => by
    obtain ⟨ρ1, a, b⟩ := hx x hm
    exact ⟨ρ1, a, b, fun z => by cases z⟩) (by rw [List.filter_eq_nil_iff.mpr (by simp)]; exact q)
  simpa using this
theorem rangeD_mem {lo : Int} {n : Nat} {x : D} (hx : x ∈ rangeD lo n) : ∃ j : Nat, j < n ∧ x = .int (lo + j) := by
  obtain ⟨i, hi, rfl⟩ := List.mem_iff_getElem.mp hx
  rw [rangeD_length] at hi
  have := rangeD_get n lo i hi
  rw [List.getElem?_eq_getElem (by rw [rangeD_length]; exact hi)] at this
  exact ⟨i, hi, Option.some.inj this⟩
end
end Px
namespace Px
/-! ## a while loop, by how often it goes on at most -/
theorem gs_while {t : FT} {s : FS} {k : Kn} (I : Nat → Env → Hy → Prop)
    (b : ∀ n ρ h, I n ρ h → Good (t ρ h) (fun p => if p.1 = true then ∃ m, n = m + 1 ∧ Gs (s ρ p.2) { nx := I m, rt := k.rt, bk := k.nx, ct := I m, ex := k.ex } else k.nx ρ p.2) (fun c d h => k.ex c d ρ h)) :
    ∀ (N n : Nat) (ρ : Env) (h : Hy), n < N → I n ρ h → Gs (wLoop t s N ρ h) k := by
  intro N
  induction N with
  | zero => intro n ρ h hn; omega
  | succ N ih =>
    intro n ρ h hn i
    unfold wLoop
    refine gs_toS ((b n ρ h i).mono (fun p z => ?_) fun _ _ _ z => z)
    cases e : p.1 with
    | false =>
      rw [e, if_neg Bool.false_ne_true] at z
      simp only [Bool.false_eq_true, if_false]
      exact z
    | true =>
      rw [e, if_pos rfl] at z
      obtain ⟨m, rfl, g⟩ := z
      simp only [if_true]
      have go : ∀ ρ h, I m ρ h → Gs (wLoop t s N ρ h) k := fun ρ h j => ih m ρ h (by omega) j
      cases q : s ρ p.2 with
      | nx ρ2 h2 => rw [q] at g; exact go _ _ g
      | ct ρ2 h2 => rw [q] at g; exact go _ _ g
      | bk ρ2 h2 => rw [q] at g; exact g
      | rt d h2 => rw [q] at g; exact g
      | exc c d ρ2 h2 => rw [q] at g; exact g
      | stuck => rw [q] at g; exact g.elim
/-! ## paths by a row of what is still to be gone through -/
def qd (x : List Int × Pr) : D := .tup [pd x.1, x.2.d]
@[simp] theorem qd_lt {m : Nat} (x : List Int × Pr) : (qd x).lt m = true := by simp [qd]
def kids (π : List Int) (s : Sy) : List (List Int × Pr) := (s.pl.zipIdx 0).map fun p => (π ++ [(p.2 : Int)], p.1)
def flatN (q : List (List Int × Pr)) : List (List Int × Pr) := (q.map fun x => x :: x.2.inn.nodes x.1 0).flatten
theorem flatN_cons (x : List Int × Pr) (q : List (List Int × Pr)) : flatN (x :: q) = x :: (x.2.inn.nodes x.1 0 ++ flatN q) := rfl
theorem flatN_app (a b : List (List Int × Pr)) : flatN (a ++ b) = flatN a ++ flatN b := by simp [flatN]
theorem flat_kids (π : List Int) : ∀ (s : Sy) (k : Nat), flatN ((s.pl.zipIdx k).map fun p => (π ++ [(p.2 : Int)], p.1)) = s.nodes π k
  | .nil, k => rfl
  | .lf p r, k => by
    have a := flat_kids π r (k + 1)
    rw [Sy.pl, List.zipIdx_cons, List.map_cons, flatN_cons, a, Sy.nodes]
    rfl
  | .gp q i r, k => by
    have a := flat_kids π r (k + 1)
    rw [Sy.pl, List.zipIdx_cons, List.map_cons, flatN_cons, a, Sy.nodes]
    rfl
theorem flatN_kids (π : List Int) (s : Sy) : flatN (kids π s) = s.nodes π 0 := flat_kids π s 0
theorem kids_len (π : List Int) (s : Sy) : (kids π s).length = s.pl.length := by simp [kids]
theorem flatN_len (q : List (List Int × Pr)) : q.length ≤ (flatN q).length := by
  induction q with
  | nil => simp
  | cons x q ih => rw [flatN_cons, List.length_cons, List.length_cons, List.length_append]; omega
theorem numbered_zip : ∀ (us : List Pr) (n : Nat), numbered n (us.map Pr.d) = (us.zipIdx n).map fun p => D.tup [.int p.2, p.1.d]
  | [], n => rfl
  | u :: us, n => by simp only [List.map_cons, numbered, List.zipIdx_cons, numbered_zip us]
def Pr.t : Pr → T
  | .lf p => .tup (.str p.w :: p.ts)
  | .gp q i => .tup [.str (gw q), .tup i.ts]
def qt (x : List Int × Pr) : T := .tup [.tup (x.1.map .int), x.2.t]
theorem Pr.vw {h : Hy} {p : Pr} {n : Nat} (hd : 2 * p.deep + 1 ≤ n) : Px.vw h n p.d = some p.t := by
  have a : (Sy.of [p]).deep ≤ p.deep := Sy.of1_deep.mpr (Nat.le_refl _)
  have b := Sy.vw (h := h) (Sy.of [p]) n (by omega)
  have c : (Sy.of [p]).ds = [p.d] := by rw [Sy.of_ds]; rfl
  have e : (Sy.of [p]).ts = [p.t] := by cases p <;> rfl
  clear a hd
  rw [c, e] at b
  simp only [List.mapM_cons, List.mapM_nil] at b
  cases v : Px.vw h n p.d with
  | none => rw [v] at b; cases b
  | some t =>
    rw [v] at b
    have b : some [t] = some [p.t] := b
    rw [(List.cons.inj (Option.some.inj b)).1]
theorem qd_vw {h : Hy} {x : List Int × Pr} (hd : x.2.deep ≤ 10) : vw h 23 (qd x) = some (qt x) := by
  unfold qd qt
  have a := Pr.vw (h := h) (p := x.2) (n := 22) (by omega)
  have b : vw h 22 (pd x.1) = some (.tup (x.1.map .int)) := pd_vw x.1
  simp only [vw, List.mapM_cons, List.mapM_nil, a, b]
  rfl
section
variable {E : String → Option D → Hy → Prop} {h : Hy} {Q : D × Hy → Prop}
theorem gd_mulTn {xs : List D} {n : Int} (h0 : 0 ≤ n) (h1 : n ≤ 1000) (z : xs.length ≤ 1000) (q : Q (.tup (List.replicate n.toNat xs).flatten, h)) : Good (sMulT (.tup xs) (.int n) h) Q E := by
  unfold sMulT
  simp only
  rw [if_pos ⟨by omega, by omega⟩]
  split
  · rename_i c
    rcases c with rfl | rfl
    · have e : (List.replicate n.toNat ([] : List D)).flatten = [] := by simp
      rw [e] at q
      exact q
    · have e : (List.replicate (1 : Int).toNat xs).flatten = xs := by simp
      rw [e] at q
      exact q
  · split
    · rename_i c
      have : n = 0 := by omega
      subst this
      exact q
    · rw [if_pos ⟨h1, z⟩]
      exact q
theorem gd_popN {n : Nat} {x : D} {xs : List D} (e : h[n]? = some (.lst (x :: xs))) (q : ∀ h' : Hy, h'.length = h.length → h'[n]? = some (.lst xs) → (∀ m, m ≠ n → h'[m]? = h[m]?) → Q (x, h')) : Good (mPopAt (.ref n) [.int 0] h) Q E :=
  gd_popAt e (by omega) (by simp only [List.length_cons]; omega) (by omega) rfl (q _ List.length_set (hp_set_self e) fun m hm => List.getElem?_set_ne (Ne.symm hm))
end
end Px
namespace Px
theorem paths_wt : ∀ l : List (List Int × Pr), (∀ x ∈ l, (∀ a ∈ x.1, 0 ≤ a ∧ a ≤ 10000) ∧ x.1.length ≤ 10) → T.shws (l.map fun x => .tup (x.1.map .int)) = true ∧ T.wts (l.map fun x => .tup (x.1.map .int)) ≤ 80 * l.length
  | [], _ => by simp [T.shws, T.wts]
  | x :: l, h => by
    have b := paths_wt l fun z hz => h z (List.mem_cons_of_mem _ hz)
    have c := h x (by simp)
    have d := ints_wt x.1 c.1
    simp only [List.map_cons, T.shws, T.shw, T.wts, T.wt, Bool.and_eq_true, List.length_cons]
    exact ⟨⟨d.1, b.1⟩, by omega⟩
section
variable {E : String → Option D → Hy → Prop} {h : Hy} {Q : D × Hy → Prop}
theorem gd_reprNodes {s : Sy} {n : Nat} (e : h[n]? = some (.lst ((s.nodes [] 0).map fun x => pd x.1))) (hd : s.deep ≤ 10) (hz : s.size ≤ 10000) (q : Q (.str (T.lst ((s.nodes [] 0).map fun x => .tup (x.1.map .int))).rtx, h)) : Good (gRepr [.ref n] h) Q E := by
  have v : vw h 24 (.ref n) = some (.lst ((s.nodes [] 0).map fun x => .tup (x.1.map .int))) := vw_ref e (vw_map _ fun x _ => pd_vw x.1)
  have a := paths_wt (s.nodes [] 0) fun x hx => by
    have l := Sy.nodes_deep s 0 x hx
    simp only [List.length_nil] at l
    exact ⟨Sy.nodes_small s [] 0 (by omega) (by omega) (by simp) x hx, by omega⟩
  have b : (T.lst ((s.nodes [] 0).map fun x => .tup (x.1.map .int))).shw = true := by simpa [T.shw] using a.1
  refine gd_repr v b ?_ q
  have c := T.rtx_wt _ b
  have d := Sy.nodes_len s 0 (π := [])
  simp only [T.wt] at c
  omega
theorem gd_app1 {c : Ob} {xs : List D} {y : D} {g : Hy} (z : xs.length < 16777216) (q : Q (.non, c :: .lst (xs ++ [y]) :: g)) : Good (mAppend (.ref 1) [y] (c :: Ob.lst xs :: g)) Q E := gd_append (by rfl) z q
theorem isLst1 {c : Ob} {xs : List D} {g : Hy} : isLst (c :: Ob.lst xs :: g) (.ref 1) = true := rfl
theorem gd_gwT {b : Bool} {s : Sy} (q : Q (.tup (Sy.of [.gp b s]).ds, h)) : Q (.tup [.tup [.str (gw b), .tup s.ds]], h) := q
def pauses (n : Nat) : Sy := Sy.of (List.replicate n (.lf .pa))
theorem pauses_ds (n : Nat) : (List.replicate n [D.tup [.str ['p', 'a', 'u', 's', 'e']]]).flatten = (pauses n).ds := by
  unfold pauses
  rw [Sy.of_ds]
  induction n with
  | zero => rfl
  | succ n ih => rw [List.replicate_succ, List.flatten_cons, ih, List.replicate_succ, List.map_cons]; rfl
theorem pauses_ok (n : Nat) : (pauses n).all Lf.small ∧ (pauses n).deep ≤ 1 ∧ (pauses n).size = n := by
  unfold pauses
  refine ⟨Sy.all_pl.mpr fun p hp => ?_, Sy.deep_le.mpr fun p hp => ?_, ?_⟩
  · rw [Sy.pl_of] at hp; rw [(List.mem_replicate.mp hp).2]; trivial
  · rw [Sy.pl_of] at hp; rw [(List.mem_replicate.mp hp).2]; exact Nat.le_refl _
  · rw [Sy.size_of, List.map_replicate]; simp [Pr.size]
end
end Px
namespace Px
section
variable {E : String → Option D → Hy → Prop} {h : Hy} {Q : D × Hy → Prop}
theorem gd_reprN0 {s : Sy} {g : Hy} (hd : s.deep ≤ 10) (hz : s.size ≤ 10000) (q : Q (.str (T.lst ((s.nodes [] 0).map fun x => .tup (x.1.map .int))).rtx, .lst ((s.nodes [] 0).map fun x => pd x.1) :: g)) : Good (gRepr [.ref 0] (.lst ((s.nodes [] 0).map fun x => pd x.1) :: g)) Q E := gd_reprNodes (by rfl) hd hz q
theorem gd_reprN1 {c : Ob} {s : Sy} {g : Hy} (hd : s.deep ≤ 10) (hz : s.size ≤ 10000) (q : Q (.str (T.lst ((s.nodes [] 0).map fun x => .tup (x.1.map .int))).rtx, c :: .lst ((s.nodes [] 0).map fun x => pd x.1) :: g)) : Good (gRepr [.ref 1] (c :: .lst ((s.nodes [] 0).map fun x => pd x.1) :: g)) Q E := gd_reprNodes (by rfl) hd hz q
end
end Px
namespace Px
/-! ## lessened in any order -/
theorem Sy.less_nil {kd : Kd} : (Sy.nil).less kd = .nil := rfl
theorem Sy.of_nil_pl {s : Sy} (h : s.pl.isEmpty = true) : s = .nil := by cases s <;> first | rfl | cases h
theorem Lf.less_comm (a b : Kd) (p : Lf) : (Sy.of (p.less a)).less b = (Sy.of (p.less b)).less a := by
  cases p <;> cases a <;> cases b <;> rfl
theorem Sy.less_of1 {kd : Kd} {q : Bool} {x : Sy} : (Sy.of [.gp q x]).less kd = Sy.of (Sy.grp kd q (x.less kd)) := by
  show (Sy.of (Sy.grp kd q (x.less kd))).app .nil = _
  rw [Sy.app_nil]
theorem Sy.less_comm (a b : Kd) : ∀ s : Sy, (s.less a).less b = (s.less b).less a
  | .nil => rfl
  | .lf p r => by
    rw [Sy.less, Sy.less, Sy.less_app, Sy.less_app, Lf.less_comm, Sy.less_comm a b r]
  | .gp q i r => by
    have ih := Sy.less_comm a b i
    rw [Sy.less, Sy.less, Sy.less_app, Sy.less_app, Sy.less_comm a b r]
    congr 1
    generalize i.less a = x at ih
    generalize i.less b = y at ih
    by_cases ca : gw q ∈ a.car <;> by_cases cb : gw q ∈ b.car
    · have l : ∀ (u : Sy) (k : Kd), gw q ∈ k.car → (Sy.of (if u.pl.isEmpty then [] else [.gp q u])).less k = Sy.of (if (u.less k).pl.isEmpty then [] else [.gp q (u.less k)]) := by
        intro u k ck
        cases e : u.pl.isEmpty with
        | true => rw [Sy.of_nil_pl e]; rfl
        | false =>
          rw [if_neg (by simp), Sy.less_of1]
          unfold Sy.grp
          rw [if_pos ck]
      unfold Sy.grp
      rw [if_pos ca, if_pos cb, l x b cb, l y a ca, ih]
    · unfold Sy.grp
      rw [if_pos ca, if_neg cb, Sy.of_pl]
      cases e : x.pl.isEmpty with
      | true =>
        rw [Sy.of_nil_pl e] at ih
        rw [if_pos rfl, ← ih]; rfl
      | false => rw [if_neg (by simp), Sy.less_of1, Sy.grp, if_neg cb, Sy.of_pl, ih]
    · unfold Sy.grp
      rw [if_neg ca, if_pos cb, Sy.of_pl]
      cases e : y.pl.isEmpty with
      | true =>
        rw [Sy.of_nil_pl e] at ih
        rw [if_pos rfl, ih]; rfl
      | false => rw [if_neg (by simp), Sy.less_of1, Sy.grp, if_neg ca, Sy.of_pl, ih]
    · unfold Sy.grp
      rw [if_neg ca, if_neg cb, Sy.of_pl, Sy.of_pl, ih]
theorem Sy.ws_of {l : List Pr} {w : Tx} : w ∈ (Sy.of l).ws ↔ ∃ p ∈ l, w ∈ (Sy.of [p]).ws := by
  induction l with
  | nil => simp [Sy.of, Sy.ws]
  | cons p l ih =>
    have : Sy.of (p :: l) = (Sy.of [p]).app (Sy.of l) := by rw [← Sy.of_app]; rfl
    rw [this, Sy.ws_app, List.mem_append, ih]
    simp
theorem Kd.word_car (kd : Kd) : ['w', 'o', 'r', 'd'] ∈ kd.car := by cases kd <;> simp [Kd.car]
/-- all its words are carried -/
def Sy.C (kd : Kd) (s : Sy) : Prop := ∀ w ∈ s.ws, w ∈ kd.car
theorem Sy.C_app {kd : Kd} {s t : Sy} : (s.app t).C kd ↔ s.C kd ∧ t.C kd := by
  unfold Sy.C
  rw [Sy.ws_app]
  simp only [List.mem_append]
  exact ⟨fun h => ⟨fun w hw => h w (.inl hw), fun w hw => h w (.inr hw)⟩, fun h w hw => hw.elim (h.1 w) (h.2 w)⟩
theorem Sy.less_C (kd : Kd) : ∀ s : Sy, (s.less kd).C kd
  | .nil => fun w hw => by cases hw
  | .lf p r => by
    rw [Sy.less]
    refine Sy.C_app.mpr ⟨fun w hw => ?_, Sy.less_C kd r⟩
    obtain ⟨x, hx, hw⟩ := Sy.ws_of.mp hw
    rcases Pr.less_lf hx with ⟨rfl, hc⟩ | rfl
    · rw [Pr.ws_inn] at hw
      have : w = p.w := by simpa [Pr.inn, Sy.ws, Pr.w] using hw
      rw [this]; exact hc
    · rw [Pr.ws_inn] at hw
      have : w = ['w', 'o', 'r', 'd'] := by simpa [Pr.inn, Sy.ws, Pr.w, Lf.w] using hw
      rw [this]; exact kd.word_car
  | .gp q i r => by
    have ih := Sy.less_C kd i
    rw [Sy.less]
    refine Sy.C_app.mpr ⟨?_, Sy.less_C kd r⟩
    unfold Sy.grp
    split
    · rename_i c
      split
      · intro w hw; cases hw
      · intro w hw
        rw [Pr.ws_inn] at hw
        rcases List.mem_cons.mp hw with rfl | hw
        · exact c
        · exact ih w hw
    · rw [Sy.of_pl]; exact ih
theorem Sy.C_less {kd kd' : Kd} : ∀ {s : Sy}, s.C kd → (s.less kd').C kd
  | .nil, _ => fun w hw => by cases hw
  | .lf p r, h => by
    rw [Sy.less]
    refine Sy.C_app.mpr ⟨fun w hw => ?_, Sy.C_less fun w hw => h w (List.mem_cons_of_mem _ hw)⟩
    obtain ⟨x, hx, hw⟩ := Sy.ws_of.mp hw
    rcases Pr.less_lf hx with ⟨rfl, hc⟩ | rfl
    · rw [Pr.ws_inn] at hw
      have : w = p.w := by simpa [Pr.inn, Sy.ws, Pr.w] using hw
      rw [this]; exact h _ (by simp [Sy.ws])
    · rw [Pr.ws_inn] at hw
      have : w = ['w', 'o', 'r', 'd'] := by simpa [Pr.inn, Sy.ws, Pr.w, Lf.w] using hw
      rw [this]; exact kd.word_car
  | .gp q i r, h => by
    have ih := Sy.C_less (kd := kd) (kd' := kd') (s := i) fun w hw => h w (by simp [Sy.ws, hw])
    rw [Sy.less]
    refine Sy.C_app.mpr ⟨?_, Sy.C_less fun w hw => h w (by simp [Sy.ws, hw])⟩
    unfold Sy.grp
    split
    · split
      · intro w hw; cases hw
      · intro w hw
        rw [Pr.ws_inn] at hw
        rcases List.mem_cons.mp hw with rfl | hw
        · exact h _ (by simp [Sy.ws, Pr.w])
        · exact ih w hw
    · rw [Sy.of_pl]; exact ih
theorem Sy.less_id {kd : Kd} {P : Lf → Prop} : ∀ {s : Sy}, s.all P → s.C kd → s.less kd = s
  | .nil, _, _ => rfl
  | .lf p r, h, c => by
    have ih := Sy.less_id h.2 (kd := kd) fun w hw => c w (List.mem_cons_of_mem _ hw)
    rw [Sy.less, ih, Lf.less, if_pos (c p.w (by simp [Sy.ws]))]
    rfl
  | .gp q i r, h, c => by
    have ih := Sy.less_id h.2.2 (kd := kd) fun w hw => c w (by simp [Sy.ws, hw])
    have ih2 := Sy.less_id h.2.1 (kd := kd) fun w hw => c w (by simp [Sy.ws, hw])
    have e : i.pl.isEmpty = false := by
      cases e : i.pl with
      | nil => exact absurd e h.1
      | cons _ _ => rfl
    rw [Sy.less, ih, ih2, Sy.grp, if_pos (c (gw q) (by simp [Sy.ws])), e]
    rfl
theorem Sy.lost_nil {kd : Kd} {s : Sy} (c : s.C kd) : s.lost kd = [] := by
  unfold Sy.lost
  refine List.filter_eq_nil_iff.mpr fun x hx => ?_
  have : x.2.w ∈ s.ws := by
    rw [← Sy.nodes_ws s [] 0]
    exact List.mem_map.mpr ⟨x, hx, rfl⟩
  simp [c _ this]
theorem Sy.C_l (s : Sy) : s.C .l := by
  intro w hw
  rw [← Sy.nodes_ws s [] 0] at hw
  obtain ⟨x, _, rfl⟩ := List.mem_map.mp hw
  rcases x.2 with (_ | _ | _ | _ | _) | ⟨_ | _, i⟩ <;> simp [Pr.w, Lf.w, gw, Kd.car]
def Sy.row (s : Sy) (ks : List Kd) : Sy := ks.foldl (fun s k => s.less k) s
theorem Sy.row_perm {s : Sy} {a b : List Kd} (p : a.Perm b) : s.row a = s.row b :=
  List.Perm.foldl_eq' p (fun x _ y _ z => Sy.less_comm x y z) s
theorem Sy.row_C_keep {kd : Kd} : ∀ (ks : List Kd) {s : Sy}, s.C kd → (s.row ks).C kd
  | [], _, h => h
  | _ :: ks, _, h => Sy.row_C_keep ks (Sy.C_less h)
theorem Sy.row_C {kd : Kd} : ∀ {ks : List Kd} {s : Sy}, kd ∈ ks → (s.row ks).C kd
  | k :: ks, s, h => by
    rcases List.mem_cons.mp h with rfl | h
    · exact Sy.row_C_keep ks (Sy.less_C kd s)
    · exact Sy.row_C (s := s.less k) h
theorem Sy.row_ok {P : Lf → Prop} (hP : P SOM) : ∀ (ks : List Kd) {s : Sy}, s.all P → (s.row ks).all P ∧ (s.row ks).deep ≤ s.deep ∧ (s.row ks).size ≤ s.size
  | [], _, h => ⟨h, Nat.le_refl _, Nat.le_refl _⟩
  | k :: ks, s, h => by
    have a := Sy.row_ok hP ks (Sy.less_all (kd := k) hP h)
    have b := Sy.less_deep (kd := k) (s := s)
    have c := Sy.less_size (kd := k) (s := s)
    have e : s.row (k :: ks) = (s.less k).row ks := rfl
    rw [e]
    exact ⟨a.1, by omega, by omega⟩
end Px
namespace Px
section
variable {E : String → Option D → Hy → Prop} {ρ : Env} {h h0 : Hy} {f : FE} {Q : D × Hy → Prop} {QL : List D × Hy → Prop}
/-- a comprehension by an invariant of what is made so far -/
theorem gd_cInv {ct : CT} {all : List D} {o : Option Nat} (I : List D → Hy → Prop) (xs : List D) (src : ∀ ys h, I ys h → srcOk all o h)
    (body : ∀ (ys : List D) (x : D) (h : Hy), x ∈ xs → ys.length < xs.length → I ys h → ∃ ρ1, ct.store x ρ = some ρ1 ∧ Good (f ρ1 h) (fun p => I (ys ++ [p.1]) p.2) NE) (i : I [] h)
    (q : ∀ ys h', ys.length = xs.length → I ys h' → QL (ys, h')) : Good (cLoop ct tTrue f ρ all o xs h) QL E := by
  have gen : ∀ (rest pre : List D) (h : Hy), (∀ x ∈ rest, x ∈ xs) → pre.length + rest.length = xs.length → I pre h → ∃ ys h', cLoop ct tTrue f ρ all o rest h = .ok (ys, h') ∧ ys.length = rest.length ∧ I (pre ++ ys) h' := by
    intro rest
    induction rest with
    | nil =>
      intro pre h _ _ i
      refine ⟨[], h, ?_, rfl, by rw [List.append_nil]; exact i⟩
      unfold cLoop
      rw [if_pos (src _ _ i)]
    | cons x rest ih =>
      intro pre h hm hl i
      simp only [List.length_cons] at hl
      obtain ⟨ρ1, e1, g⟩ := body pre x h (hm x (by simp)) (by omega) i
      obtain ⟨⟨d, h1⟩, e2, i1⟩ := ex_of g
      obtain ⟨ys, h', e3, l, i2⟩ := ih (pre ++ [d]) h1 (fun y hy => hm y (List.mem_cons_of_mem _ hy)) (by simp only [List.length_append, List.length_cons, List.length_nil]; omega) i1
      refine ⟨d :: ys, h', ?_, by simp [l], by rw [List.append_assoc] at i2; exact i2⟩
      rw [cLoop, if_pos (src _ _ i), e1]
      simp only [tTrue_ev, R.calm, R.bind_ok, if_true, e2, e3]
  obtain ⟨ys, h', e, l, i1⟩ := gen xs [] h (fun _ hx => hx) (by simp) i
  exact gd_of e (q ys h' l i1)
/-- a def that draws and gives back a new list -/
theorem gd_ownL {n N c k b : Nat} {bg : Ob} {L : List (Nat × Ob)} {body : FS} {args : List D} {P : List D → Prop} (hl : args.length + 1 = n) (S : St h0 b h ((b, bg) :: L))
    (g : St h b h [(b, bg)] → Gs (body (startE N (.ref b :: args)) h) { nx := fun _ _ => False, rt := fun d h1 => ∃ m xs bg' L, d = .ref m ∧ h.length ≤ m ∧ h1[m]? = some (.lst xs) ∧ D.ltAll 0 xs = true ∧ P xs ∧ St h b h1 ((b, bg') :: L) ∧ Bag (k + c) bg', bk := fun _ _ => False, ct := fun _ _ => False, ex := fun _ _ _ _ => False })
    (q : ∀ xs n h' bg', P xs → Bag (k + c) bg' → St h0 b h' ((b, bg') :: (L ++ [(n, .lst xs)])) → Q (.ref n, h')) : Good (defD n N body (.ref b :: args) h) Q E := by
  have e := S.g0
  have hbl : b < h.length := (List.getElem?_eq_some_iff.mp e).1
  have g := g (St.start e)
  rw [defD_own (by simp [hl]) (by simp [D.ltAll, D.lt])]
  cases r : body (startE N (.ref b :: args)) h with
  | rt d h1 =>
    rw [r] at g
    obtain ⟨m, xs, bg', L', rfl, hm, em, hx, p, S', hb'⟩ := g
    have o := out_part (x := .non) (h := h) (h1 := h1) (b := b) (by simp [D.lt]) hbl S'.fr S'.g0 hb'.lt S'.len
    have cl : Clean h h1 := fun i hi => by
      by_cases q : i = b
      · subst q
        exact ⟨bg', S'.g0, .inr hb'.lt⟩
      · exact ⟨h[i], by rw [S'.fr i hi q, List.getElem?_eq_getElem hi], .inl (List.getElem?_eq_getElem hi)⟩
    have ev : (RS.rt (.ref m) h1).out h = .ok (.ref h.length, h1.take h.length ++ [.lst xs]) := by
      show R.ok (gc h (.ref m, h1)) = _
      unfold gc
      rw [if_pos cl, if_neg (by simp [D.lt]; omega)]
      simp only [em]
      rw [if_pos (show Ob.lt h.length (.lst xs) = true from ?_)]
      show D.ltAll h.length xs = true
      clear em p q r S e
      induction xs with
      | nil => simp
      | cons x xs ih =>
        rw [D.ltAll_cons, Bool.and_eq_true] at hx ⊢
        exact ⟨D.lt_mono hx.1, ih hx.2⟩
    have hlen : (h1.take h.length).length = h.length := o.2.2.2
    have z := (S.bag o.2.1 o.2.2.2 o.2.2.1).alloc (o := .lst xs)
    rw [hlen] at z
    exact gd_of ev (q xs _ _ bg' p hb' z)
  | nx ρ h1 => rw [r] at g; exact g.elim
  | bk ρ h1 => rw [r] at g; exact g.elim
  | ct ρ h1 => rw [r] at g; exact g.elim
  | exc c d ρ h1 => rw [r] at g; exact g.elim
  | stuck => rw [r] at g; exact g.elim
theorem Sy.vwT {h : Hy} {s : Sy} {n : Nat} (hd : 2 * s.deep + 2 ≤ n) : Px.vw h n (D.tup s.ds) = some (.tup s.ts) := by
  obtain ⟨m, rfl⟩ : ∃ m, n = m + 1 := ⟨n - 1, by omega⟩
  show (s.ds.mapM (Px.vw h m)).map T.tup = _
  rw [Sy.vw s m (by omega)]
  rfl
theorem gd_neSyS {s : Sy} (hd : s.deep ≤ 10) (q : Q (.bl false, h)) : Good (sNe (.tup s.ds) (.tup s.ds) h) Q E := by
  refine gd_neV (Sy.vwT (by omega)) (Sy.vwT (by omega)) ?_
  rw [T.eqv_self]
  exact q
/-- (saying, []) twice -/
theorem gd_neSyL {s : Sy} {m n : Nat} (hd : s.deep ≤ 9) (e1 : h[m]? = some (.lst [])) (e2 : h[n]? = some (.lst [])) (q : Q (.bl false, h)) : Good (sNe (.tup [.tup s.ds, .ref m]) (.tup [.tup s.ds, .ref n]) h) Q E := by
  have v : ∀ k, h[k]? = some (.lst []) → vw h 24 (.tup [.tup s.ds, .ref k]) = some (.tup [.tup s.ts, .lst []]) := by
    intro k ek
    have a : vw h 24 (.tup [.tup s.ds, .ref k]) = ([D.tup s.ds, .ref k].mapM (vw h 23)).map T.tup := rfl
    have b : vw h 23 (.ref k) = some (.lst []) := vw_ref ek rfl
    rw [a]
    simp only [List.mapM_cons, List.mapM_nil, Sy.vwT (h := h) (s := s) (n := 23) (by omega), b]
    rfl
  refine gd_neV (v m e1) (v n e2) ?_
  rw [T.eqv_self]
  exact q
/-- nothing of it is taken, though the looks lay things -/
theorem gd_cNoneI {ct : CT} {t : FT} {all : List D} {o : Option Nat} (I : Hy → Prop) (xs : List D) (src : ∀ h, I h → srcOk all o h) (hx : ∀ x ∈ xs, ∀ h, I h → ∃ ρ1, ct.store x ρ = some ρ1 ∧ Good (t ρ1 h) (fun r => r.1 = false ∧ I r.2) NE) (i : I h) (q : ∀ h', I h' → QL ([], h')) : Good (cLoop ct t f ρ all o xs h) QL E := by
  have gen : ∀ (rest : List D) (h : Hy), (∀ x ∈ rest, x ∈ xs) → I h → ∃ h', cLoop ct t f ρ all o rest h = .ok ([], h') ∧ I h' := by
    intro rest
    induction rest with
    | nil =>
      intro h _ i
      refine ⟨h, ?_, i⟩
      unfold cLoop
      rw [if_pos (src _ i)]
    | cons x rest ih =>
      intro h hm i
      obtain ⟨ρ1, e1, g⟩ := hx x (hm x (by simp)) h i
      obtain ⟨⟨d, h1⟩, e2, e3, i1⟩ := ex_of g
      obtain ⟨h', e4, i2⟩ := ih h1 (fun y hy => hm y (List.mem_cons_of_mem _ hy)) i1
      have e3 : d = false := e3
      subst e3
      refine ⟨h', ?_, i2⟩
      rw [cLoop, if_pos (src _ i), e1]
      simp only [e2, R.calm, R.bind_ok, Bool.false_eq_true, if_false, e4]
  obtain ⟨h', e, i1⟩ := gen xs h (fun _ hx => hx) i
  exact gd_of e (q h' i1)
theorem gd_ninLs {n : Nat} {xs : List D} {ss : List Tx} {s : Tx} (e : h[n]? = some (.lst xs)) (ex : xs = ss.map D.str) (q : Q (.bl (!decide (s ∈ ss)), h)) : Good (sNotIn (.str s) (.ref n) h) Q E :=
  gd_ninT' (r := .stuck) (ok_of (gd_inLs e ex rfl)) q
theorem St.sub {b b' : Nat} {h : Hy} {L M : List (Nat × Ob)} (S : St [] b h L) (hs : M.Sublist L) : St [] b' h M :=
  ⟨Nat.zero_le _, fun m hm => absurd hm (Nat.not_lt_zero _), fun q hq => S.cells q (hs.subset hq), (hs.map _).nodup S.nd, fun q _ => .inr (Nat.zero_le _)⟩
theorem gd_listR {n : Nat} {xs : List D} (e : h[n]? = some (.lst xs)) (q : Good (new (.lst xs) h) Q E) : Good (gListG [.ref n] h) Q E := by
  show Good (gList [.ref n] h) Q E
  unfold gList items
  simp only [e]
  exact q
theorem perm_erase {α : Type} : ∀ (l : List α) (i : Nat) (hi : i < l.length), (l[i] :: l.eraseIdx i).Perm l
  | a :: l, 0, _ => .refl _
  | a :: l, i + 1, hi => by
    have hi' : i < l.length := by simpa using hi
    have ih := perm_erase l i hi'
    show (l[i] :: a :: l.eraseIdx i).Perm (a :: l)
    exact (List.Perm.swap a _ _).trans (ih.cons a)
theorem map_erase {α β : Type} (g : α → β) : ∀ (l : List α) (i : Nat), (l.map g).eraseIdx i = (l.eraseIdx i).map g
  | [], _ => rfl
  | _ :: _, 0 => rfl
  | a :: l, i + 1 => by
    show g a :: (l.map g).eraseIdx i = g a :: (l.eraseIdx i).map g
    rw [map_erase g l i]
theorem Kd.car_len (kd : Kd) : kd.car.length ≤ 7 := by cases kd <;> decide
end
end Px
namespace Px
section
variable {E : String → Option D → Hy → Prop} {ρ : Env} {h h0 : Hy} {f : FE} {t : FT} {Q : D × Hy → Prop} {QL : List D × Hy → Prop} {b n : Nat} {o bg : Ob} {c c1 c2 c3 c4 c5 c6 : Nat × Ob} {L M : List (Nat × Ob)}
/-! ### the law's urn of numbers -/
def Urn (k : Nat) (o : Ob) : Prop := ∃ p c q, o = .lst [.int p, .int c, .int q] ∧ 0 ≤ c ∧ c ≤ (k : Int) ∧ 0 ≤ q ∧ q < 10000000000000000000000000000000000000000000000000000
theorem Urn.mono {k l : Nat} (h : Urn k o) (kl : k ≤ l) : Urn l o := let ⟨p, c, q, e, a, b, d, f⟩ := h; ⟨p, c, q, e, a, by omega, d, f⟩
theorem Urn.lt {k m : Nat} (h : Urn k o) : o.lt m = true := by
  obtain ⟨p, c, q, rfl, _⟩ := h
  simp [Ob.lt]
/-- a def that draws from the bag at most c times and gives back what is no object -/
def GenU (f : FD) (args : List D) (c : Nat) (P : D → Prop) : Prop :=
  ∀ (h : Hy) (b : Nat) (bg : Ob) (k : Nat), h[b]? = some bg → Urn k bg → k + c < 1000000000000000 → ∃ d h' bg', f (.ref b :: args) h = .ok (d, h') ∧ h'.length = h.length ∧ (∀ m, m ≠ b → h'[m]? = h[m]?) ∧ h'[b]? = some bg' ∧ Urn (k + c) bg' ∧ d.lt 0 = true ∧ P d
theorem gd_genU {f : FD} {args : List D} {c k : Nat} {P : D → Prop} (G : GenU f args c P) (S : St h0 b h ((b, bg) :: L)) (hb : Urn k bg) (hk : k + c < 1000000000000000) (q : ∀ d h' bg', P d → d.lt 0 = true → Urn (k + c) bg' → St h0 b h' ((b, bg') :: L) → Q (d, h')) : Good (f (.ref b :: args) h) Q E := by
  obtain ⟨d, h', bg', e, hl, fr, e1, hb', hd, p⟩ := G h b bg k S.g0 hb hk
  exact gd_of e (q d h' bg' p hd hb' (S.bag fr hl e1))
theorem gen_ofU {n N c : Nat} {body : FS} {args : List D} {P : D → Prop} (hl : args.length + 1 = n)
    (q : ∀ (h : Hy) (b : Nat) (bg : Ob) (k : Nat), St h b h [(b, bg)] → Urn k bg → k + c < 1000000000000000 → Gs (body (startE N (.ref b :: args)) h) { nx := fun _ _ => False, rt := fun d h1 => d.lt 0 = true ∧ P d ∧ ∃ bg' L, St h b h1 ((b, bg') :: L) ∧ Urn (k + c) bg', bk := fun _ _ => False, ct := fun _ _ => False, ex := fun _ _ _ _ => False }) :
    GenU (defD n N body) args c P := by
  intro h b bg k e hb hk
  have g := q h b bg k (St.start e) hb hk
  rw [defD_own (by simp [hl]) (by simp [D.ltAll, D.lt])]
  cases r : body (startE N (.ref b :: args)) h with
  | rt d h1 =>
    rw [r] at g
    obtain ⟨hd, p, bg', L, S, hb'⟩ := g
    have hbl : b < h.length := (List.getElem?_eq_some_iff.mp e).1
    have o := out_part (x := d) (h := h) (h1 := h1) (b := b) (D.lt_mono hd) hbl S.fr S.g0 hb'.lt S.len
    exact ⟨d, _, bg', o.1, o.2.2.2, o.2.1, o.2.2.1, hb', hd, p⟩
  | nx ρ h1 => rw [r] at g; exact g.elim
  | bk ρ h1 => rw [r] at g; exact g.elim
  | ct ρ h1 => rw [r] at g; exact g.elim
  | exc c d ρ h1 => rw [r] at g; exact g.elim
  | stuck => rw [r] at g; exact g.elim
/-- a comprehension whose elements draw -/
theorem gd_cGenU {i k cst nl : Nat} {all : List D} (P : D → Prop) (S : St h0 b h ((b, bg) :: L)) (hb : Urn k bg) (xs : List D) (hnl : xs.length = nl)
    (body : ∀ x ∈ xs, ∀ (h : Hy) (bg : Ob) (k1 : Nat), k1 + cst ≤ k + nl * cst → St h0 b h ((b, bg) :: L) → Urn k1 bg → Good (f (ρ.set i (some x)) h) (fun p => P p.1 ∧ ∃ bg' M, St h0 b p.2 ((b, bg') :: (L ++ M)) ∧ Urn (k1 + cst) bg') NE)
    (q : ∀ ys h' bg', ys.length = nl → (∀ y ∈ ys, P y) → St h0 b h' ((b, bg') :: L) → Urn (k + nl * cst) bg' → QL (ys, h')) : Good (cLoop (.one i) tTrue f ρ all none xs h) QL E := by
  induction xs generalizing h bg k QL nl with
  | nil =>
    unfold cLoop
    rw [if_pos srcOk_none]
    subst hnl
    exact q [] h bg rfl (fun y hy => by cases hy) S (by simpa using hb)
  | cons x xs ih =>
    rw [List.length_cons] at hnl
    subst hnl
    obtain ⟨⟨d, h1⟩, e, p, bg1, M, S1, hb1⟩ := ex_of (body x (by simp) h bg k (by rw [Nat.add_mul, Nat.one_mul]; have := Nat.zero_le (xs.length * cst); omega) S hb)
    rw [cLoop, if_pos srcOk_none]
    simp only [store_one, tTrue_ev, R.calm, R.bind_ok, if_true, e]
    refine gd_bind (ih (St.drop (L := (b, bg1) :: L) S1) hb1 rfl (fun y hy h bg k1 hk1 S hb => body y (List.mem_cons_of_mem _ hy) h bg k1 (by rw [Nat.add_mul, Nat.one_mul]; omega) S hb) fun ys h' bg' hl hp S' hb' => ?_)
    refine q (d :: ys) h' bg' (by simp [hl]) (fun y hy => ?_) S' (hb'.mono (by rw [Nat.add_mul, Nat.one_mul]; omega))
    rcases List.mem_cons.mp hy with rfl | hy
    · exact p
    · exact hp y hy
end
end Px
namespace Px
section
variable {E : String → Option D → Hy → Prop} {h : Hy} {Q : D × Hy → Prop}
theorem gd_pow4 (q : Q (.int 10000, h)) : Good (sPow (.int 10) (.int 4) h) Q E := gd_powI (by decide) q
theorem gd_pow5 (q : Q (.int 100000, h)) : Good (sPow (.int 10) (.int 5) h) Q E := gd_powI (by decide) q
theorem gd_pow6 (q : Q (.int 1000000, h)) : Good (sPow (.int 10) (.int 6) h) Q E := gd_powI (by decide) q
theorem gd_pow18 (q : Q (.int 1000000000000000000, h)) : Good (sPow (.int 10) (.int 18) h) Q E := gd_powI (by decide) q
theorem gd_pow50 (q : Q (.int 100000000000000000000000000000000000000000000000000, h)) : Good (sPow (.int 10) (.int 50) h) Q E := gd_powI (by decide) q
end
end Px
namespace Px
section
variable {E : String → Option D → Hy → Prop} {ρ : Env} {h : Hy} {Q : D × Hy → Prop} {k : Kn}
/-- a def that writes to some tracked cells and gives back what is no object -/
theorem gd_ownT {n N b : Nat} {body : FS} {ds : List D} {M0 : List (Nat × Ob)} (hl : ds.length = n) (hp : D.ltAll 0 ds = false) (S0 : St [] b h M0)
    (g : Gs (body (startE N ds) h) { nx := fun _ _ => False, rt := fun d h1 => d.lt 0 = true ∧ ∃ M, M.map (·.1) = M0.map (·.1) ∧ St [] b h1 M ∧ ∀ h2, St [] b h2 M → Q (d, h2), bk := fun _ _ => False, ct := fun _ _ => False, ex := fun _ _ _ _ => False }) : Good (defD n N body ds h) Q E := by
  rw [defD_own hl hp]
  cases r : body (startE N ds) h with
  | rt d h1 =>
    rw [r] at g
    obtain ⟨hd, M, hM, S, q⟩ := g
    show Good (.ok (gc h (d, h1))) Q E
    unfold gc
    split
    · rw [if_pos (D.lt_mono hd)]
      refine q _ ⟨Nat.zero_le _, fun m hm => absurd hm (Nat.not_lt_zero _), fun c hc => ?_, S.nd, fun _ _ => .inr (Nat.zero_le _)⟩
      have : c.1 ∈ M0.map (·.1) := by rw [← hM]; exact List.mem_map.mpr ⟨c, hc, rfl⟩
      obtain ⟨c0, h0, e0⟩ := List.mem_map.mp this
      have lt := S0.lt h0
      rw [e0] at lt
      rw [List.getElem?_take_of_lt lt]
      exact S.cells c hc
    · exact q _ S
  | nx ρ h1 => rw [r] at g; exact g.elim
  | bk ρ h1 => rw [r] at g; exact g.elim
  | ct ρ h1 => rw [r] at g; exact g.elim
  | exc c d ρ h1 => rw [r] at g; exact g.elim
  | stuck => rw [r] at g; exact g.elim
theorem gd_newF {b : Nat} {u : Ob} {c0 c1 c2 : Nat × Ob} {L : List (Nat × Ob)} (S : St [] b h (c0 :: c1 :: c2 :: L)) (q : ∀ n h', n = h.length → St [] b h' (c0 :: c1 :: c2 :: (n, u) :: L) → Q (.ref n, h')) : Good (new u h) Q E := by
  refine gd_newS S fun n h' hn S => q n h' hn (S.rebase ?_)
  show (c0 :: c1 :: c2 :: (L ++ [(n, u)])).Perm (c0 :: c1 :: c2 :: ([(n, u)] ++ L))
  exact (((List.perm_append_comm).cons c2).cons c1).cons c0
theorem gd_newF1 {b : Nat} {u : Ob} {c0 : Nat × Ob} {L : List (Nat × Ob)} (S : St [] b h (c0 :: L)) (q : ∀ n h', n = h.length → St [] b h' (c0 :: (n, u) :: L) → Q (.ref n, h')) : Good (new u h) Q E := by
  refine gd_newS S fun n h' hn S => q n h' hn (S.rebase ?_)
  show (c0 :: (L ++ [(n, u)])).Perm (c0 :: ([(n, u)] ++ L))
  exact (List.perm_append_comm).cons c0
theorem gd_appS4 {h0 : Hy} {b n : Nat} {xs : List D} {y : D} {c c1 c2 c3 : Nat × Ob} {L : List (Nat × Ob)} (S : St h0 b h (c :: c1 :: c2 :: c3 :: (n, .lst xs) :: L)) (z : xs.length < 16777216) (q : ∀ h', St h0 b h' (c :: c1 :: c2 :: c3 :: (n, .lst (xs ++ [y])) :: L) → Q (.non, h')) : Good (mAppend (.ref n) [y] h) Q E := gd_append S.g4 z (q _ (St.write (L := [c, c1, c2, c3]) S))
theorem gs_setS1 {h0 : Hy} {b n : Nat} {x d : D} {c : Nat × Ob} {L : List (Nat × Ob)} (S : St h0 b h (c :: (n, .lst [x]) :: L)) (q : ∀ h', St h0 b h' (c :: (n, .lst [d]) :: L) → k.nx ρ h') : Gs (fsK2 d (.ref n) ρ (.int 0, h)) k :=
  gs_fsK2 (i := 0) (j := 0) S.g1 (by rfl) (q _ (St.write (L := [c]) S))
end
def cU : Nat → Nat
  | 0 => 0
  | n + 1 => 10 + 4 * (310 + cU n)
theorem cU_mono : ∀ n, cU n ≤ cU (n + 1)
  | 0 => by simp [cU]
  | n + 1 => by have := cU_mono n; simp only [cU] at *; omega
theorem cU_le {m n : Nat} (h : m ≤ n) : cU m ≤ cU n := by
  induction h with
  | refl => exact Nat.le_refl _
  | step _ ih => exact Nat.le_trans ih (cU_mono _)
theorem cU_12 : cU 12 ≤ 100000000000 := by decide
end Px
namespace Px
abbrev PAUSE : Tx := ['p', 'a', 'u', 's', 'e']
/-- its leaves are well, its first words are some of these, or pauses -/
def Sy.aw (kd : Kd) (ws : List Tx) (s : Sy) : Prop := s.all (Lf.ok kd) ∧ ∀ x ∈ s.ws, x ∈ ws ∨ x = PAUSE
theorem aw_nil {kd : Kd} {ws : List Tx} : Sy.aw kd ws .nil := ⟨trivial, fun x hx => by cases hx⟩
theorem aw_app {kd : Kd} {ws : List Tx} {s t : Sy} (a : s.aw kd ws) (b : t.aw kd ws) : (s.app t).aw kd ws :=
  ⟨Sy.all_app.mpr ⟨a.1, b.1⟩, fun x hx => by
    rw [Sy.ws_app] at hx
    exact (List.mem_append.mp hx).elim (a.2 x) (b.2 x)⟩
theorem aw_lf {kd : Kd} {ws : List Tx} {p : Lf} (h : p.ok kd) (hw : p.w ∈ ws ∨ p.w = PAUSE) : (Sy.of [.lf p]).aw kd ws :=
  ⟨Sy.of1_all.mpr h, fun x hx => by
    rw [Pr.ws_inn] at hx
    have : x = p.w := by simpa [Pr.inn, Sy.ws, Pr.w] using hx
    rw [this]; exact hw⟩
theorem aw_gp {kd : Kd} {ws : List Tx} {q : Bool} {i : Sy} (hn : i.pl ≠ []) (h : i.aw kd ws) (hw : gw q ∈ ws) : (Sy.of [.gp q i]).aw kd ws :=
  ⟨Sy.of1_all.mpr ⟨hn, h.1⟩, fun x hx => by
    rw [Pr.ws_inn] at hx
    rcases List.mem_cons.mp hx with rfl | hx
    · exact .inl hw
    · exact h.2 x hx⟩
end Px
namespace Px
/-! ## sayings spoken -/
abbrev DIGS : List Tx := [['n', 'o', 'u', 'g', 'h', 't'], ['o', 'n', 'e'], ['t', 'w', 'o'], ['t', 'h', 'r', 'e', 'e'], ['f', 'o', 'u', 'r'], ['f', 'i', 'v', 'e'], ['s', 'i', 'x'], ['s', 'e', 'v', 'e', 'n'], ['e', 'i', 'g', 'h', 't'], ['n', 'i', 'n', 'e']]
abbrev SAIDs : List Tx := DIGS ++ [['n', 'u', 'm', 'b', 'e', 'r'], ['m', 'i', 'n', 'u', 's'], ['o', 'v', 'e', 'r'], ['n', 'a', 'm', 'e'], ['q', 'u', 'o', 't', 'e'], ['u', 'n', 'q', 'u', 'o', 't', 'e'], ['p', 'a', 'u', 's', 'e'], ['s', 'p', 'e', 'l', 'l']]
def dgw (c : Char) : Tx := DIGS.getD (c.toNat - 48) []
theorem rd1 {c : Char} (hc : c ∈ FIGS) : rdInt [c] = some ((c.toNat - 48 : Nat) : Int) := by
  simp only [FIGS, List.mem_cons, List.not_mem_nil, or_false] at hc
  rcases hc with rfl | rfl | rfl | rfl | rfl | rfl | rfl | rfl | rfl | rfl <;> decide +kernel
theorem fig_lt {c : Char} (hc : c ∈ FIGS) : c.toNat - 48 < 10 := by
  simp only [FIGS, List.mem_cons, List.not_mem_nil, or_false] at hc
  rcases hc with rfl | rfl | rfl | rfl | rfl | rfl | rfl | rfl | rfl | rfl <;> decide
def spkW (w : Tx) : List Tx := if w ∈ SAIDs then ['s', 'p', 'e', 'l', 'l'] :: (w.map (fun c => [c]) ++ [['o', 'v', 'e', 'r']]) else [w]
def spkN (i : Int) : List Tx := ['n', 'u', 'm', 'b', 'e', 'r'] :: ((if i < 0 then [['m', 'i', 'n', 'u', 's']] else []) ++ ((num (if i < 0 then -i else i)).map dgw ++ [['o', 'v', 'e', 'r']]))
def spkM (x : Tx) : List Tx := ['n', 'a', 'm', 'e'] :: ((x.drop 1).map dgw ++ [['o', 'v', 'e', 'r']])
def Lf.spk : Lf → List Tx
  | .wd w => spkW w
  | .nu i => spkN i
  | .nm x => spkM x
  | .pa => [PAUSE]
  | .pi _ => []
def Sy.spk : Sy → List Tx
  | .nil => []
  | .lf p r => p.spk ++ r.spk
  | .gp _ i r => ['q', 'u', 'o', 't', 'e'] :: (i.spk ++ [['u', 'n', 'q', 'u', 'o', 't', 'e']]) ++ r.spk
def Pr.spk : Pr → List Tx
  | .lf p => p.spk
  | .gp _ i => ['q', 'u', 'o', 't', 'e'] :: (i.spk ++ [['u', 'n', 'q', 'u', 'o', 't', 'e']])
theorem Sy.spk_pl : ∀ s : Sy, s.spk = (s.pl.map Pr.spk).flatten
  | .nil => rfl
  | .lf p r => by rw [Sy.spk, Sy.pl, List.map_cons, List.flatten_cons, Sy.spk_pl r]; rfl
  | .gp q i r => by rw [Sy.spk, Sy.pl, List.map_cons, List.flatten_cons, Sy.spk_pl r]; rfl
theorem Sy.spk_of (l : List Pr) : (Sy.of l).spk = (l.map Pr.spk).flatten := by rw [Sy.spk_pl, Sy.pl_of]
theorem Lf.spk_len {kd : Kd} {p : Lf} (h : p.ok kd) : p.spk.length ≤ 110 := by
  cases p with
  | wd w =>
    have := h.2.1
    simp only [Lf.spk, spkW]
    split <;> simp only [List.length_cons, List.length_append, List.length_map, List.length_nil] <;> omega
  | nu i =>
    simp only [Lf.ok] at h
    have a : (num (if i < 0 then -i else i)).length ≤ 13 := num_small (by split <;> omega) (by split <;> omega)
    simp only [Lf.spk, spkN]
    generalize num (if i < 0 then -i else i) = N at a
    simp only [List.length_cons, List.length_append, List.length_map, List.length_nil]
    split <;> simp only [List.length_cons, List.length_nil] <;> omega
  | nm x =>
    have := (NmS.small h).1
    simp only [Lf.spk, spkM, List.length_cons, List.length_append, List.length_map, List.length_nil, List.length_drop]
    omega
  | pa => simp [Lf.spk]
  | pi rows => simp [Lf.spk]
theorem Sy.spk_len {kd : Kd} : ∀ {s : Sy}, s.all (Lf.ok kd) → s.spk.length ≤ 110 * s.size
  | .nil, _ => by simp [Sy.spk]
  | .lf p r, h => by
    have a := Lf.spk_len h.1
    have b := Sy.spk_len h.2
    simp only [Sy.spk, List.length_append, Sy.size]
    omega
  | .gp q i r, h => by
    have a := Sy.spk_len h.2.1
    have b := Sy.spk_len h.2.2
    simp only [Sy.spk, List.length_append, List.length_cons, List.length_nil, Sy.size]
    omega
section
variable {E : String → Option D → Hy → Prop} {h : Hy} {Q : D × Hy → Prop}
theorem gd_intC {c : Char} (hc : c ∈ FIGS) (q : Q (.int ((c.toNat - 48 : Nat) : Int), h)) : Good (gInt [.str [c]] h) Q E := by
  unfold gInt
  have z : [c].length ≤ 640 := by simp
  simp only [if_pos z, rd1 hc]
  exact q
theorem gd_mulLg {m : Nat} {k : Int} (q : ∃ a, h[m]? = some (.lst a) ∧ a.length * k.toNat ≤ 16777216 ∧ -9000000000000000000 < k ∧ k < 9000000000000000000 ∧ Good (new (.lst (List.replicate k.toNat a).flatten) h) Q E) : Good (sMul (.ref m) (.int k) h) Q E := by
  obtain ⟨a, e, z, z1, z2, q⟩ := q
  exact gd_mulL e z z1 z2 q
theorem gd_mulL1g {m : Nat} (q : ∃ a, h[m]? = some (.lst a) ∧ a.length ≤ 16777216 ∧ Good (new (.lst a) h) Q E) : Good (sMul (.ref m) (.int 1) h) Q E := by
  obtain ⟨a, e, z, q⟩ := q
  have f : (List.replicate (1 : Int).toNat a).flatten = a := by simp
  exact gd_mulL e (by simpa using z) (by decide) (by decide) (by rw [f]; exact q)
theorem gd_mulL0g {m : Nat} (q : ∃ a, h[m]? = some (.lst a) ∧ Good (new (.lst []) h) Q E) : Good (sMul (.ref m) (.int 0) h) Q E := by
  obtain ⟨a, e, q⟩ := q
  have f : (List.replicate (0 : Int).toNat a).flatten = [] := by simp
  exact gd_mulL e (by simp) (by decide) (by decide) (by rw [f]; exact q)
theorem gd_absNeg {i : Int} (c : i < 0) (q : Q (.int (-i), h)) : Good (gAbs [.int i] h) Q E := gd_abs (by rw [if_pos c]; exact q)
theorem gd_absPos {i : Int} (c : ¬ i < 0) (q : Q (.int i, h)) : Good (gAbs [.int i] h) Q E := gd_abs (by rw [if_neg c]; exact q)
theorem gd_ltT {i j : Int} (c : i < j) (q : Q (.bl true, h)) : Good (sLt (.int i) (.int j) h) Q E := gd_ltI (by rw [decide_eq_true c]; exact q)
theorem gd_ltF {i j : Int} (c : ¬ i < j) (q : Q (.bl false, h)) : Good (sLt (.int i) (.int j) h) Q E := gd_ltI (by rw [decide_eq_false c]; exact q)
theorem dig_at {c : Char} (hc : c ∈ FIGS) : L2.atI (DIGS.map D.str) ((c.toNat - 48 : Nat) : Int) = some (.str (dgw c)) := by
  have := fig_lt hc
  rw [atI_nat (d := .str []) (by omega) (by simp; omega), Int.toNat_natCast]
  unfold dgw
  rw [List.getD_eq_getElem?_getD, List.getD_eq_getElem?_getD, List.getElem?_map]
  cases DIGS[c.toNat - 48]? <;> rfl
end
end Px
namespace Px
open PySem PySem.Spec PyProof.Rows L2
/-! ## x += e, x -= e for ints -/
def sAugI (g : Int → Int → Int) (i : Nat) (f : FE) : FS := fun ρ h => match ρ[i]? with
  | some (some (.int a)) => (f ρ h).toS ρ fun p => match p.1 with
    | .int b => .nx (ρ.set i (some (.int (g a b)))) p.2
    | _ => .stuck
  | _ => .stuck
def sAug (i : Nat) (f : FE) : FS := sAugI (fun a b => a + b) i f
def sAugD (i : Nat) (f : FE) : FS := sAugI (fun a b => a - b) i f
section
variable {X : Cx} {W : WX} {pos : Pos} {a : Expr} {fa : FE}
theorem pxs_augI {x : Str} {px : Pos} {op : Operator} {g : Int → Int → Int} (ho : PIp X op (ipI g)) (i : Nat) (hN : X.N.Nodup) (ha : PX X W a fa) (hi : X.N[i]? = some x) (hx : Loc X.env.scope x)
    (hf : X.fn x = true ∨ X.env.scope.names.lookup x = some .local) : PXS X W (.AugAssign (.Name x px) op a pos) (sAugI g i fa) := by
  refine ⟨PS.mono (ps_aug hN hi hx ha.pe ho hf) fun D σ H ⟨ι, ρ, h, hρ, hh, q⟩ => ?_⟩
  unfold sAugI at q
  split at q
  · rename_i b e
    obtain ⟨v, hv, r⟩ := hρ.2 _ _ e
    cases r
    refine ⟨_, hv, tE_seqS hρ hh q fun p ι1 H1 v1 e1 h1 r1 hρ1 q1 => ?_⟩
    split at q1
    · rename_i c e2
      rw [e2] at r1
      cases r1
      exact ⟨_, _, rfl, rfl, q1 ι1 H1 _ Ext.refl h1 (hρ1.set (.int _) i)⟩
    · exact q1.elim
  · exact q.elim
theorem pxs_aug {x : Str} {px : Pos} (i : Nat) (hN : X.N.Nodup) (ha : PX X W a fa) (hi : X.N[i]? = some x := by rfl) (hx : Loc X.env.scope x := by first | exact .inl rfl | exact .inr rfl)
    (hf : X.fn x = true ∨ X.env.scope.names.lookup x = some .local := by first | exact .inl rfl | exact .inr rfl | assumption) : PXS X W (.AugAssign (.Name x px) .Add a pos) (sAug i fa) := pxs_augI ip_add i hN ha hi hx hf
theorem pxs_augD {x : Str} {px : Pos} (i : Nat) (hN : X.N.Nodup) (ha : PX X W a fa) (hi : X.N[i]? = some x := by rfl) (hx : Loc X.env.scope x := by first | exact .inl rfl | exact .inr rfl)
    (hf : X.fn x = true ∨ X.env.scope.names.lookup x = some .local := by first | exact .inl rfl | exact .inr rfl | assumption) : PXS X W (.AugAssign (.Name x px) .Sub a pos) (sAugD i fa) := pxs_augI ip_sub i hN ha hi hx hf
end
section
variable {ρ : Env} {h : Hy} {f : FE} {k : Kn} {i : Nat} {a : Int}
theorem gs_augI {g : Int → Int → Int} (e : ρ[i]? = some (some (.int a))) (q : Good (f ρ h) (fun p => ∃ b, p.1 = .int b ∧ k.nx (ρ.set i (some (.int (g a b)))) p.2) (fun c d h => k.ex c d ρ h)) : Gs (sAugI g i f ρ h) k := by
  unfold sAugI
  rw [e]
  refine gs_toS (q.mono (fun p ⟨b, e1, z⟩ => ?_) fun _ _ _ z => z)
  rw [e1]
  exact z
theorem gs_aug (e : ρ[i]? = some (some (.int a))) (q : Good (f ρ h) (fun p => ∃ b, p.1 = .int b ∧ k.nx (ρ.set i (some (.int (a + b)))) p.2) (fun c d h => k.ex c d ρ h)) : Gs (sAug i f ρ h) k := gs_augI e q
theorem gs_augD (e : ρ[i]? = some (some (.int a))) (q : Good (f ρ h) (fun p => ∃ b, p.1 = .int b ∧ k.nx (ρ.set i (some (.int (a - b)))) p.2) (fun c d h => k.ex c d ρ h)) : Gs (sAugD i f ρ h) k := gs_augI e q
end
end Px
/-! ## sorted, of tuples of ints of any length -/
namespace PxTS
open PySem PySem.Spec PyProof.Rows SrtO
section
variable {prog : Program} {w : World} {A : Around} {E : Value → Shared → Prop} {s : Shared}
theorem lex_gen {d : Bool} {xs ys : List Value} {ns ms : List Int} {Q : Bool → Shared → Prop} (i : Nat) (hx : IntsAre xs ns) (hy : IntsAre ys ms) (hd : d = decide (ns.length < ms.length)) (h : Q (HT.lexLt ns ms) s) : PySem.W.KatLex prog w A true d Q (xs.zip ys) i s := by
  induction hx generalizing ys ms i with
  | nil =>
    cases hy with
    | nil =>
      subst hd
      exact PySem.W.kat_nil h
    | cons q u hy =>
      have e : d = true := by rw [hd]; simp
      subst e
      exact PySem.W.kat_nil h
  | @cons p t xs ns hx ih =>
    cases hy with
    | nil =>
      have e : d = false := by rw [hd]; simp
      subst e
      exact PySem.W.kat_nil h
    | @cons q u ys ms hy =>
      have hd' : d = decide (ns.length < ms.length) := by rw [hd]; simp
      show PySem.W.KatLex prog w A true d Q ((Value.int p t, Value.int q u) :: xs.zip ys) i s
      refine PySem.W.kat_cons (wpAny_eqBool_int ?_)
      by_cases e : p = q
      · subst e
        rw [beq_self_eq_true]
        rw [HT.lexLt_cons, if_pos rfl] at h
        refine PySem.W.kat_yes ?_
        first
          | exact ih (i + 1) hy hd' h
          | exact ih _ _ (i + 1) hy hd' h
      · rw [show (p == q) = false from beq_eq_false_iff_ne.mpr e]
        rw [HT.lexLt_cons, if_neg e] at h
        exact PySem.W.kat_no (TS.oneLt_ints _ h)
theorem firsts {h : Heap} {k : Value → List Int} : ∀ vs : List Value, (∀ v ∈ vs, TS.TupInts h v (k v) ∧ k v ≠ []) → ∃ fs, PySem.W.KatTups h vs fs ∧ fs.length = vs.length ∧ ∀ f, f ∈ fs → ∃ n t, f = Value.int n t
  | [], _ => ⟨[], PySem.W.KatTups.nil, rfl, fun f hf => by simp at hf⟩
  | v :: vs, x => by
    obtain ⟨fs, kk, hl, hi⟩ := firsts vs fun u hu => x u (List.mem_cons_of_mem _ hu)
    obtain ⟨⟨a, xs, rfl, ⟨o, ho, hc, n, hdt⟩, i⟩, hn⟩ := x v (List.mem_cons_self ..)
    obtain ⟨y, ys, e⟩ : ∃ y ys, xs.toList = y :: ys := by
      cases q : xs.toList with
      | nil =>
        rw [q] at i
        have l := i.length
        rw [List.length_nil] at l
        exact absurd (List.eq_nil_of_length_eq_zero l.symm) hn
      | cons y ys => exact ⟨y, ys, rfl⟩
    obtain ⟨m, t, hy⟩ := i.all y (by rw [e]; exact List.mem_cons_self ..)
    refine ⟨y :: fs, PySem.W.KatTups.cons ho hc hdt ?_ kk, by simp [hl], ?_⟩
    · have z := congrArg (fun l : List Value => l[0]?) e
      simpa using z
    · intro f hf
      rcases List.mem_cons.mp hf with rfl | hf
      · exact ⟨m, t, hy⟩
      · exact hi f hf
theorem tup_cmp {vs : List Value} {k : Value → List Int} (hp : ∀ v ∈ vs, TS.TupInts s.heap v (k v)) : Cmp prog w A s (tuples' true) (fun p => p.1 ∈ vs) (lt2 fun v u => HT.lexLt (k v) (k u)) := by
  intro p q hm hm'
  have h1 := hp _ hm
  have h2 := hp _ hm'
  show wpAny (model prog w) A (keyLt' (tuples' true) p.1 q.1) (fun r s' => s' = s ∧ r = HT.lexLt (k p.1) (k q.1)) (fun _ _ => False) s
  obtain ⟨a, xs, e1, ⟨o, ho, hc, n, hdt⟩, i⟩ := h1
  obtain ⟨a', ys, e2, ⟨o', ho', hc', n', hdt'⟩, i'⟩ := h2
  rw [e1, e2]
  rw [e1] at i
  rw [e2] at i'
  refine PySem.W.kat_lt ho hdt ho' hdt' ?_
  have l1 := i.length
  have l2 := i'.length
  rw [Array.length_toList] at l1 l2
  exact lex_gen 0 i i' (by rw [l1, l2]) ⟨rfl, rfl⟩
theorem tups_sortable {a : Addr} {vs : List Value} {k : Value → List Int} (h0 : 0 < vs.length) (hp : ∀ v ∈ vs, TS.TupInts s.heap v (k v) ∧ k v ≠ []) (ha : ∀ o, s.heap.get? a = some o → o.cls ≠ .type "tuple") : SortableO prog w A s a vs fun v u => HT.lexLt (k v) (k u) := by
  intro h' keep
  have hp' : ∀ v ∈ vs, TS.TupInts h' v (k v) ∧ k v ≠ [] := fun v hm => ⟨(hp v hm).1.keeps fun b o e c => keep b o (fun z => by subst z; exact ha o e c) e, (hp v hm).2⟩
  obtain ⟨fs, h1, h2, h3⟩ := firsts vs hp'
  refine ⟨tuples' true, fun Q E hq => ?_, tup_cmp fun v hm => (hp' v hm).1⟩
  refine PySem.W.kat_kind (T := .type "int") h1 (by omega) (fun f hm => ?_) (by rfl) ?_
  · obtain ⟨x, t, rfl⟩ := h3 f hm
    exact PySem.W.Looks.now
  · have e : (Value.type "int" != Value.type "tuple") = true := by first | decide +kernel | rfl | decide
    rw [e]
    exact hq
theorem sorted_tups {l : Addr} {vs : List Value} {k : Value → List Int} {Q : Value → Shared → Prop} (hl : s.heap.IsList l vs.toArray) (hz : vs.length ≤ sizeLine) (hp : ∀ v ∈ vs, TS.TupInts s.heap v (k v) ∧ k v ≠ [])
    (h : ∀ (h' : Heap) (d : Addr) (out : List Value), Srtd (fun v u => HT.lexLt (k v) (k u)) out → Stb (fun v u => HT.lexLt (k v) (k u)) out vs → (∀ b o, s.heap.get? b = some o → h'.get? b = some o) → s.heap.objs.size ≤ d → (∃ n, h'.get? d = some (seqObj "list" out.toArray n)) → Q (.ref d) { s with heap := h' }) :
    wpAny (model prog w) A (call (.builtin "sorted") [.ref l]) Q E s := by
  refine sorted_ord (NtL.swo_lexL k) hl hz (fun h2 h₁ a ha kk => ?_) fun out hs hb => ?_
  · refine tups_sortable (s := { s with heap := h₁ }) (by omega) (fun v hm => ⟨(hp v hm).1.keeps fun b o e _ => (kk b o e).2, (hp v hm).2⟩) fun o e => ?_
    have e' : some o = some (seqObj "list" vs.toArray 0) := e.symm.trans ha
    cases e'
    intro c
    exact absurd (Value.type.inj c) (by decide)
  · exact h _ _ out hs hb (fun b o e => sortedAll_old e) (Nat.le_succ _) (sortedAll_at s.heap vs out.toArray)
end
end PxTS
namespace Px
open PySem PySem.Spec PyProof.Rows L2
theorem perm_lift {α β : Type} {f : α → β} {ys zs : List β} (h : ys.Perm zs) : ∀ l : List α, zs = l.map f → ∃ l' : List α, ys = l'.map f ∧ l'.Perm l := by
  induction h with
  | nil =>
    intro l e
    obtain rfl := List.map_eq_nil_iff.mp e.symm
    exact ⟨[], rfl, List.Perm.refl _⟩
  | cons x p ih =>
    intro l e
    obtain ⟨a, l1, rfl, rfl, e2⟩ := List.map_eq_cons_iff.mp e.symm
    obtain ⟨l', rfl, p'⟩ := ih l1 e2.symm
    exact ⟨a :: l', rfl, p'.cons a⟩
  | swap x y l0 =>
    intro l e
    obtain ⟨a, l1, rfl, rfl, e2⟩ := List.map_eq_cons_iff.mp e.symm
    obtain ⟨b, l2, rfl, rfl, rfl⟩ := List.map_eq_cons_iff.mp e2
    exact ⟨b :: a :: l2, rfl, List.Perm.swap _ _ _⟩
  | trans p q ih1 ih2 =>
    intro l e
    obtain ⟨l1, rfl, p1⟩ := ih2 l e
    obtain ⟨l2, rfl, p2⟩ := ih1 l1 rfl
    exact ⟨l2, rfl, p2.trans p1⟩
def rSortedTI (K : PySem.W.Frag) : List V → Hp → VK → Prop := fun vs H Q => ∃ (a : Addr) (L : List (Addr × List Int)), vs = [V.ref a] ∧ SqL K H a (L.map fun p => V.ref p.1) ∧ (∀ p ∈ L, SqT K H p.1 (p.2.map V.int) ∧ p.2 ≠ []) ∧
  ∀ (L' : List (Addr × List Int)) (p : Addr), L'.Perm L → L'.Pairwise (fun p q => HT.lexLt q.2 p.2 = false) → H p = none → Q (.ref p) (upd H p (.lst (L'.map fun p => V.ref p.1)))
section
variable {X : Cx} {W : WX}
theorem cr_sortedTI : CallR X (.builtin "sorted") (rSortedTI X.K) := by
  intro pins s σ H vs us Q I r h
  obtain ⟨a, L, rfl, hs, hx, q⟩ := h
  obtain ⟨its, rv, hl, hz⟩ := I.list hs
  rw [Vals.ref1 r]
  have tp : ∀ p ∈ L, TS.TupInts s.heap (.ref p.1) p.2 := fun p hp => by
    obtain ⟨us, r1, p1, _⟩ := I.tuple (hx p hp).1
    exact ⟨p.1, _, rfl, p1, Vals.ints r1⟩
  have ev : its = L.map fun p => Value.ref p.1 := by
    have := nts_of (ts := L.map (·.1)) (us := its) (by rw [List.map_map]; exact rv)
    rw [List.map_map] at this
    exact this
  subst ev
  refine PxTS.sorted_tups (k := TS.intsOf s.heap) hl.isList (by rw [List.length_map]; rw [List.length_map] at hz; exact hz) (fun v hv => ?_) fun h' d out h1 h2 kp hd hn => ?_
  · obtain ⟨p, hp, rfl⟩ := List.mem_map.mp hv
    rw [(tp p hp).ints]
    exact ⟨tp p hp, (hx p hp).2⟩
  · obtain ⟨L', rfl, hp'⟩ := perm_lift h2.perm L rfl
    obtain ⟨n, hn⟩ := hn
    have hlen : (L'.map fun p => V.ref p.1).length ≤ sizeLine := by
      rw [List.length_map, hp'.length_eq]
      rw [List.length_map] at hz
      exact hz
    have srt : L'.Pairwise (fun p q => HT.lexLt q.2 p.2 = false) := by
      have := List.pairwise_map.mp h1
      refine this.imp_of_mem fun {p q} hp hq z => ?_
      dsimp only at z
      rw [(tp p (hp'.mem_iff.mp hp)).ints, (tp q (hp'.mem_iff.mp hq)).ints] at z
      exact z
    have rvals : Vals (L'.map fun p => V.ref p.1) (L'.map fun p => Value.ref p.1) := by
      have := of_nts (L'.map (·.1))
      rw [List.map_map, List.map_map] at this
      exact this
    exact ⟨.ref d, upd H d (.lst (L'.map fun p => V.ref p.1)), I.laid (t' := s.toks) kp hd ⟨hlen, _, n, rvals, hn⟩, rfl, q L' d hp' srt (I.hok.fresh hd)⟩
end
end Px
namespace Px
open PySem PySem.Spec PyProof.Rows L2
def leI (a b : List Int) : Bool := !HT.lexLt b a
theorem leI_iff {a b : List Int} : leI a b = true ↔ HT.lexLt b a = false := by unfold leI; simp
theorem leI_total (a b : List Int) : leI a b = true ∨ leI b a = true := by
  rw [leI_iff, leI_iff]
  cases h : HT.lexLt b a with
  | false => exact .inl rfl
  | true => exact .inr (NtL.lex_asym _ _ h)
theorem leI_trans {a b c : List Int} (h : leI a b = true) (h' : leI b c = true) : leI a c = true := by
  rw [leI_iff] at *; exact NtL.lex_tr _ _ _ h h'
theorem lexLt_eq : ∀ a b : List Int, HT.lexLt a b = false → HT.lexLt b a = false → a = b
  | [], [], _, _ => rfl
  | [], _ :: _, h, _ => by cases h
  | _ :: _, [], _, h => by cases h
  | x :: a, y :: b, h, h' => by
    rw [HT.lexLt_cons] at h h'
    by_cases e : x = y
    · subst e
      rw [if_pos rfl] at h h'
      rw [lexLt_eq a b h h']
    · rw [if_neg e, decide_eq_false_iff_not] at h
      rw [if_neg (Ne.symm e), decide_eq_false_iff_not] at h'
      omega
theorem leI_antisymm {a b : List Int} (h : leI a b = true) (h' : leI b a = true) : a = b := by
  rw [leI_iff] at *; exact lexLt_eq _ _ h' h
def insI (x : List Int) : List (List Int) → List (List Int)
  | [] => [x]
  | y :: r => if leI x y then x :: y :: r else y :: insI x r
def sortI : List (List Int) → List (List Int)
  | [] => []
  | x :: r => insI x (sortI r)
theorem insI_perm (x : List Int) : ∀ l : List (List Int), (insI x l).Perm (x :: l)
  | [] => List.Perm.refl _
  | y :: r => by
    unfold insI
    split
    · exact List.Perm.refl _
    · exact ((insI_perm x r).cons y).trans (List.Perm.swap x y r)
theorem sortI_perm : ∀ l : List (List Int), (sortI l).Perm l
  | [] => List.Perm.refl _
  | x :: r => (insI_perm x _).trans ((sortI_perm r).cons x)
theorem insI_sorted (x : List Int) : ∀ l : List (List Int), l.Pairwise (fun a b => leI a b = true) → (insI x l).Pairwise (fun a b => leI a b = true)
  | [], _ => by unfold insI; simp
  | y :: r, h => by
    obtain ⟨h1, h2⟩ := List.pairwise_cons.mp h
    unfold insI
    split
    · rename_i e
      refine List.pairwise_cons.mpr ⟨fun z hz => ?_, h⟩
      rcases List.mem_cons.mp hz with rfl | hz
      · exact e
      · exact leI_trans e (h1 z hz)
    · rename_i e
      refine List.pairwise_cons.mpr ⟨fun z hz => ?_, insI_sorted x r h2⟩
      rcases List.mem_cons.mp ((insI_perm x r).mem_iff.mp hz) with rfl | hz
      · exact (leI_total z y).resolve_left e
      · exact h1 z hz
theorem sortI_sorted : ∀ l : List (List Int), (sortI l).Pairwise (fun a b => leI a b = true)
  | [] => List.Pairwise.nil
  | x :: r => insI_sorted x _ (sortI_sorted r)
theorem sortI_unique {l l' : List (List Int)} (h : l'.Perm l) (s : l'.Pairwise (fun a b => leI a b = true)) : l' = sortI l :=
  (h.trans (sortI_perm l).symm).eq_of_pairwise (fun a b _ _ h1 h2 => leI_antisymm h1 h2) s (sortI_sorted l)
def tupsD : List D → Option (List (List Int))
  | [] => some []
  | .tup xs :: r => match intsD xs, tupsD r with
    | some (n :: ns), some l => some ((n :: ns) :: l)
    | _, _ => none
  | _ => none
theorem tupsD_of {K : PySem.W.Frag} {ι : List Addr} {H : Hp} : ∀ {vs : List V} {ds : List D}, Reps K ι H vs ds → ∀ {nss : List (List Int)}, tupsD ds = some nss →
    ∃ L : List (Addr × List Int), vs = (L.map fun p => V.ref p.1) ∧ L.map (·.2) = nss ∧ (∀ p ∈ L, SqT K H p.1 (p.2.map V.int) ∧ p.2 ≠ []) ∧ ∀ p ∈ L, Rep K ι H (.ref p.1) (.tup (p.2.map D.int))
  | _, _, .nil, nss, e => by
    cases e
    exact ⟨[], rfl, rfl, by simp, by simp⟩
  | _, _, .cons (d := d) r t, nss, e => by
    cases r with
    | @tup a ws xs h1 r1 =>
      unfold tupsD at e
      split at e
      · rename_i n ns l e1 e2
        cases e
        obtain ⟨L, rfl, h2, h3, h4⟩ := tupsD_of t e2
        have q := reps_intsD r1 e1
        have s1 : SqT K H a ((n :: ns).map V.int) := by rw [← q]; exact h1
        have rp : Reps K ι H ((n :: ns).map V.int) ((n :: ns).map D.int) := by
          generalize n :: ns = ms
          induction ms with
          | nil => exact .nil
          | cons m ms ih => exact .cons (.int m) ih
        refine ⟨(a, n :: ns) :: L, rfl, by rw [List.map_cons, h2], fun p hp => ?_, fun p hp => ?_⟩
        · rcases List.mem_cons.mp hp with rfl | hp
          · exact ⟨s1, by simp⟩
          · exact h3 p hp
        · rcases List.mem_cons.mp hp with rfl | hp
          · exact .tup s1 rp
          · exact h4 p hp
      · cases e
    | _ => simp [tupsD] at e
theorem reps_tups {K : PySem.W.Frag} {ι : List Addr} {H : Hp} : ∀ L : List (Addr × List Int), (∀ p ∈ L, Rep K ι H (.ref p.1) (.tup (p.2.map D.int))) → Reps K ι H (L.map fun p => V.ref p.1) ((L.map (·.2)).map fun ns => D.tup (ns.map D.int))
  | [], _ => .nil
  | p :: L, h => .cons (h p List.mem_cons_self) (reps_tups L fun q hq => h q (List.mem_cons_of_mem _ hq))
def gSortedT (xs : List D) (h : Hy) : R (D × Hy) := match xs with
  | [x] => match (itemsL h x).bind tupsD with
    | some nss => new (.lst ((sortI nss).map fun ns => D.tup (ns.map D.int))) h
    | none => gSorted [x] h
  | xs => gSorted xs h
section
variable {X : Cx} {W : WX}
theorem imp_sortedT : ImpL X.K W gSortedT (fun vs H Q => rSortedTI X.K vs H Q ∨ rSortedG X.K vs H Q) := by
  intro ι H h σ xs vs Q hh rs g
  unfold gSortedT at g
  split at g
  · split at g
    · rename_i x nss e
      cases rs with
      | cons r rs =>
        cases rs
        obtain ⟨ys, e1, e2⟩ := Option.bind_eq_some_iff.mp e
        obtain ⟨a, ws, rfl, hs, rw'⟩ := itemsL_of hh r e1
        obtain ⟨L, rfl, h2, h3, h4⟩ := tupsD_of rw' e2
        refine .inl ⟨a, L, rfl, hs, h3, fun L' p hp hsd hn => ?_⟩
        have u : L'.map (·.2) = sortI nss := sortI_unique (by rw [← h2]; exact hp.map _) (List.pairwise_map.mpr (hsd.imp fun z => leI_iff.mpr z))
        rw [← u] at g
        exact VW.newLst g hh (reps_tups L' fun q hq => h4 q (hp.mem_iff.mp hq)) hn
    · exact .inr (imp_sorted ι H h σ _ vs Q hh rs g)
  · exact .inr (imp_sorted ι H h σ _ vs Q hh rs g)
theorem pxc_sortedT {pos p : Pos} {e : Expr} {es : List Expr} {t : FA} (hc : X.calm = true) (hm : X.mg "sorted" = none) (ha : PXA X W (e :: es) t) (hg : Gl X "sorted" := by rfl) (he : starEach (e :: es) X.env = (false, eval e X.env) :: starEach es X.env := by rfl) (hpl : (backTo pos (starEach es X.env)).any (·.1) = false := by rfl) : PX X W (.Call (.Name "sorted" p) (e :: es) [] pos) (eCall gSortedT t) := px_callB (cr_sortedTI.or cr_sortedG) imp_sortedT hm ha hg (by decide +kernel) (by decide) (by decide) he hpl
end
end Px
namespace Px
open PySem PySem.Spec PyProof.Rows L2
/-! ## parts taken out by their paths -/
def Sy.grpB (kd : Kd) (q : Bool) (i : Sy) : List Pr := if gw q ∈ kd.car then [.gp q i] else i.pl
/-- what is not carried is out, groups of nothing stay -/
def Sy.bare (kd : Kd) : Sy → Sy
  | .nil => .nil
  | .lf p r => (Sy.of (p.less kd)).app (r.bare kd)
  | .gp q i r => (Sy.of (Sy.grpB kd q (i.bare kd))).app (r.bare kd)
def Sy.grpS (q : Bool) (i : Sy) : List Pr := if i.pl.isEmpty then [] else [.gp q i]
def Sy.swept : Sy → Sy
  | .nil => .nil
  | .lf p r => .lf p r.swept
  | .gp q i r => (Sy.of (Sy.grpS q i.swept)).app r.swept
theorem Sy.swept_app : ∀ a b : Sy, (a.app b).swept = a.swept.app b.swept
  | .nil, b => rfl
  | .lf p r, b => by simp only [Sy.app, Sy.swept, Sy.swept_app r b]
  | .gp q i r, b => by simp only [Sy.app, Sy.swept, Sy.swept_app r b, Sy.app_assoc]
theorem Lf.swept_less (kd : Kd) (p : Lf) : (Sy.of (p.less kd)).swept = Sy.of (p.less kd) := by
  unfold Lf.less
  split
  · rfl
  · split <;> rfl
theorem Sy.swept_bare (kd : Kd) : ∀ s : Sy, (s.bare kd).swept = s.less kd
  | .nil => rfl
  | .lf p r => by rw [Sy.bare, Sy.swept_app, Lf.swept_less, Sy.swept_bare kd r]; rfl
  | .gp q i r => by
    rw [Sy.bare, Sy.swept_app, Sy.swept_bare kd r, Sy.less]
    congr 1
    unfold Sy.grpB Sy.grp
    by_cases c : gw q ∈ kd.car
    · rw [if_pos c, if_pos c]
      show (Sy.of (Sy.grpS q (i.bare kd).swept)).app .nil = _
      rw [Sy.app_nil, Sy.swept_bare kd i]
      rfl
    · rw [if_neg c, if_neg c, Sy.of_pl, Sy.swept_bare kd i, Sy.of_pl]
def Pr.gone : Pr → List Pr
  | .lf p => if p.w = ['n', 'a', 'm', 'e'] then [.lf SOM] else []
  | .gp _ i => i.pl
def Pr.into : Pr → Sy → Pr
  | .lf p, _ => .lf p
  | .gp q _, j => .gp q j
def wo : List Int → Sy → Sy
  | [], s => s
  | a :: r, s => Sy.of (s.pl.take a.toNat ++ ((s.pl[a.toNat]?).elim [] fun p => if r = [] then p.gone else [p.into (wo r p.inn)]) ++ s.pl.drop (a.toNat + 1))
def Va : List Int → Sy → Prop
  | [], _ => False
  | a :: r, s => 0 ≤ a ∧ ∃ p, s.pl[a.toNat]? = some p ∧ (r = [] ∨ (p.isG = true ∧ Va r p.inn))
theorem wo_at {pre post : List Pr} {p : Pr} {k : Int} {r : List Int} (hk : k = pre.length) : wo (k :: r) (Sy.of (pre ++ p :: post)) = Sy.of (pre ++ (if r = [] then p.gone else [p.into (wo r p.inn)]) ++ post) := by
  subst hk
  rw [wo, Sy.pl_of, Int.toNat_natCast]
  have a : (pre ++ p :: post)[pre.length]? = some p := by simp
  have b : (pre ++ p :: post).take pre.length = pre := by simp
  have c : (pre ++ p :: post).drop (pre.length + 1) = post := by
    rw [List.drop_append, List.drop_eq_nil_of_le (by omega)]
    simp [show pre.length + 1 - pre.length = 1 by omega]
  rw [a, b, c]
  rfl
theorem Va_at {pre post : List Pr} {p : Pr} {k : Int} {r : List Int} (hk : k = pre.length) (h : r = [] ∨ (p.isG = true ∧ Va r p.inn)) : Va (k :: r) (Sy.of (pre ++ p :: post)) := by
  subst hk
  exact ⟨by omega, p, by rw [Sy.pl_of, Int.toNat_natCast]; simp, h⟩
def wos (ps : List (List Int)) (s : Sy) : Sy := ps.foldr wo s
def Vs : List (List Int) → Sy → Prop
  | [], _ => True
  | π :: ps, s => Vs ps s ∧ Va π (wos ps s)
theorem wos_app (a b : List (List Int)) (s : Sy) : wos (a ++ b) s = wos a (wos b s) := List.foldr_append
theorem Vs_app : ∀ (a b : List (List Int)) (s : Sy), Vs b s → Vs a (wos b s) → Vs (a ++ b) s
  | [], b, s, h, _ => h
  | π :: a, b, s, h, h2 => ⟨Vs_app a b s h h2.1, by
    show Va π (wos (a ++ b) s)
    rw [wos_app]; exact h2.2⟩
theorem Vs_split : ∀ (a b : List (List Int)) (s : Sy), Vs (a ++ b) s → Vs b s
  | [], b, s, h => h
  | π :: a, b, s, h => Vs_split a b s h.1
/-- all of them lie within one group -/
theorem wos_in {pre post : List Pr} {q : Bool} {k : Int} (hk : k = pre.length) : ∀ (ps : List (List Int)) (i : Sy), Vs ps i → wos (ps.map fun π => k :: π) (Sy.of (pre ++ .gp q i :: post)) = Sy.of (pre ++ .gp q (wos ps i) :: post) ∧ Vs (ps.map fun π => k :: π) (Sy.of (pre ++ .gp q i :: post))
  | [], i, _ => ⟨rfl, trivial⟩
  | π :: ps, i, h => by
    obtain ⟨e, v⟩ := wos_in hk ps i h.1
    have ne : π ≠ [] := fun z => by have := h.2; rw [z] at this; exact this
    refine ⟨?_, v, ?_⟩
    · show wo (k :: π) (wos (ps.map fun π => k :: π) (Sy.of (pre ++ .gp q i :: post))) = _
      rw [e, wo_at hk, if_neg ne]
      show Sy.of (pre ++ [Pr.gp q (wo π (wos ps i))] ++ post) = Sy.of (pre ++ Pr.gp q (wo π (wos ps i)) :: post)
      rw [List.append_assoc]
      rfl
    · rw [e]
      exact Va_at hk (.inr ⟨rfl, h.2⟩)
theorem Sy.nodes_base2 {ρ : List Int} : ∀ (s : Sy) (π : List Int) (k : Int), s.nodes (ρ ++ π) k = (s.nodes π k).map fun x => (ρ ++ x.1, x.2)
  | .nil, π, k => rfl
  | .lf p r, π, k => by simp only [Sy.nodes, List.map_cons, Sy.nodes_base2 r, List.append_assoc]
  | .gp q i r, π, k => by
    have a := Sy.nodes_base2 (ρ := ρ) i (π ++ [k]) 0
    simp only [Sy.nodes, List.map_cons, List.map_append, Sy.nodes_base2 r, List.append_assoc] at a ⊢
    rw [a]
def lp (kd : Kd) (l : List (List Int × Pr)) : List (List Int) := (l.filter fun x => !decide (x.2.w ∈ kd.car)).map (·.1)
theorem lp_app {kd : Kd} (a b : List (List Int × Pr)) : lp kd (a ++ b) = lp kd a ++ lp kd b := by simp [lp]
theorem lp_cons {kd : Kd} (x : List Int × Pr) (b : List (List Int × Pr)) : lp kd (x :: b) = (if x.2.w ∈ kd.car then [] else [x.1]) ++ lp kd b := by
  unfold lp
  rw [List.filter_cons]
  by_cases c : x.2.w ∈ kd.car <;> simp [c]
theorem lp_in {kd : Kd} {i : Sy} {k : Int} : lp kd (i.nodes [k] 0) = (lp kd (i.nodes [] 0)).map fun π => k :: π := by
  have a := Sy.nodes_base2 (ρ := [k]) i [] 0
  rw [List.append_nil] at a
  rw [a]
  unfold lp
  rw [List.filter_map, List.map_map, List.map_map]
  rfl
theorem wos_bare (kd : Kd) : ∀ (s : Sy) (pre : List Pr) (k : Int), k = pre.length → wos (lp kd (s.nodes [] k)) (Sy.of (pre ++ s.pl)) = Sy.of (pre ++ (s.bare kd).pl) ∧ Vs (lp kd (s.nodes [] k)) (Sy.of (pre ++ s.pl))
  | .nil, pre, k, hk => ⟨rfl, trivial⟩
  | .lf p r, pre, k, hk => by
    obtain ⟨e, v⟩ := wos_bare kd r (pre ++ [.lf p]) (k + 1) (by rw [List.length_append, hk]; simp)
    simp only [List.append_assoc, List.cons_append, List.nil_append] at e v
    rw [Sy.nodes, lp_cons, Sy.pl, Sy.bare, Sy.app_pl, Sy.pl_of]
    by_cases c : p.w ∈ kd.car
    · rw [if_pos (show (Pr.lf p).w ∈ kd.car from c), List.nil_append, Lf.less, if_pos c]
      exact ⟨e, v⟩
    · rw [if_neg (show ¬ (Pr.lf p).w ∈ kd.car from c), Lf.less, if_neg c]
      refine ⟨?_, v, ?_⟩
      · show wo [k] (wos (lp kd (r.nodes [] (k + 1))) (Sy.of (pre ++ Pr.lf p :: r.pl))) = _
        rw [e, wo_at hk, if_pos rfl, List.append_assoc]
        rfl
      · show Va [k] (wos (lp kd (r.nodes [] (k + 1))) (Sy.of (pre ++ Pr.lf p :: r.pl)))
        rw [e]
        exact Va_at hk (.inl rfl)
  | .gp q i r, pre, k, hk => by
    obtain ⟨e, v⟩ := wos_bare kd r (pre ++ [.gp q i]) (k + 1) (by rw [List.length_append, hk]; simp)
    obtain ⟨e2, v2⟩ := wos_bare kd i [] 0 rfl
    simp only [List.append_assoc, List.cons_append, List.nil_append, Sy.of_pl] at e v e2 v2
    obtain ⟨e3, v3⟩ := wos_in (pre := pre) (post := (r.bare kd).pl) (q := q) hk _ i v2
    rw [e2] at e3
    have e4 : wos (lp kd (i.nodes ([] ++ [k]) 0) ++ lp kd (r.nodes [] (k + 1))) (Sy.of (pre ++ Pr.gp q i :: r.pl)) = Sy.of (pre ++ Pr.gp q (i.bare kd) :: (r.bare kd).pl) := by
      rw [wos_app, e, List.nil_append, lp_in, e3]
    have v4 : Vs (lp kd (i.nodes ([] ++ [k]) 0) ++ lp kd (r.nodes [] (k + 1))) (Sy.of (pre ++ Pr.gp q i :: r.pl)) := by
      refine Vs_app _ _ _ v ?_
      rw [e, List.nil_append, lp_in]
      exact v3
    rw [Sy.nodes, lp_cons, lp_app, Sy.pl, Sy.bare, Sy.app_pl, Sy.pl_of]
    unfold Sy.grpB
    by_cases c : gw q ∈ kd.car
    · rw [if_pos (show (Pr.gp q i).w ∈ kd.car from c), List.nil_append, if_pos c]
      exact ⟨e4, v4⟩
    · rw [if_neg (show ¬ (Pr.gp q i).w ∈ kd.car from c), if_neg c]
      refine ⟨?_, v4, ?_⟩
      · show wo [k] (wos (lp kd (i.nodes ([] ++ [k]) 0) ++ lp kd (r.nodes [] (k + 1))) (Sy.of (pre ++ Pr.gp q i :: r.pl))) = _
        rw [e4, wo_at hk, if_pos rfl, List.append_assoc]
        rfl
      · show Va [k] (wos (lp kd (i.nodes ([] ++ [k]) 0) ++ lp kd (r.nodes [] (k + 1))) (Sy.of (pre ++ Pr.gp q i :: r.pl)))
        rw [e4]
        exact Va_at hk (.inl rfl)
theorem wos_lost (kd : Kd) (s : Sy) : wos ((s.lost kd).map (·.1)) s = s.bare kd ∧ Vs ((s.lost kd).map (·.1)) s := by
  have := wos_bare kd s [] 0 rfl
  rw [List.nil_append, List.nil_append, Sy.of_pl, Sy.of_pl] at this
  exact this
theorem wo_size : ∀ (π : List Int) (s : Sy), (wo π s).size ≤ s.size
  | [], s => Nat.le_refl _
  | a :: r, s => by
    rw [wo, Sy.size_of, Sy.size_pl]
    cases e : s.pl[a.toNat]? with
    | none =>
      simp only [Option.elim_none, List.append_nil]
      have := List.take_append_drop a.toNat s.pl
      have l := (List.getElem?_eq_none_iff.mp e)
      rw [List.take_of_length_le l, List.drop_eq_nil_of_le (by omega), List.append_nil]
      exact Nat.le_refl _
    | some p =>
      obtain ⟨l, e2⟩ := List.getElem?_eq_some_iff.mp e
      have ih := wo_size r p.inn
      have d : s.pl = s.pl.take a.toNat ++ p :: s.pl.drop (a.toNat + 1) := by rw [← e2]; simp
      simp only [Option.elim_some, List.map_append, List.sum_append_nat]
      have d2 : (s.pl.map Pr.size).sum = ((s.pl.take a.toNat).map Pr.size).sum + (p.size + ((s.pl.drop (a.toNat + 1)).map Pr.size).sum) := by
        conv => lhs; rw [d]
        rw [List.map_append, List.sum_append_nat, List.map_cons, List.sum_cons]
      rw [d2]
      have m : ((if r = [] then p.gone else [p.into (wo r p.inn)]).map Pr.size).sum ≤ p.size := by
        split
        · cases p with
          | lf p => rw [Pr.gone]; split <;> simp [Pr.size]
          | gp q i => simp only [Pr.gone, Pr.size]; rw [← Sy.size_pl]; omega
        · cases p with
          | lf p => simp [Pr.into, Pr.size]
          | gp q i => simp only [Pr.into, List.map_cons, List.map_nil, List.sum_cons, List.sum_nil, Pr.size, Pr.inn] at ih ⊢; omega
      omega
theorem wo_deep : ∀ (π : List Int) (s : Sy) (n : Nat), s.deep ≤ n → (wo π s).deep ≤ n
  | [], s, n, h => h
  | a :: r, s, n, h => by
    have hh := Sy.deep_le.mp h
    refine Sy.deep_le.mpr fun x hx => ?_
    rw [wo, Sy.pl_of] at hx
    rcases List.mem_append.mp hx with hx | hx
    · rcases List.mem_append.mp hx with hx | hx
      · exact hh x (List.mem_of_mem_take hx)
      · cases e : s.pl[a.toNat]? with
        | none => rw [e] at hx; cases hx
        | some p =>
          rw [e] at hx
          simp only [Option.elim_some] at hx
          have hp := hh p (List.mem_of_getElem? e)
          split at hx
          · cases p with
            | lf p =>
              rw [Pr.gone] at hx
              split at hx
              · have : x = .lf SOM := by simpa using hx
                rw [this]; exact hp
              · cases hx
            | gp q i =>
              have := Sy.deep_le.mp (Nat.le_refl i.deep) x hx
              simp only [Pr.deep] at hp
              omega
          · have e2 : x = p.into (wo r p.inn) := by simpa using hx
            rw [e2]
            cases p with
            | lf p => exact hp
            | gp q i =>
              simp only [Pr.deep] at hp
              have := wo_deep r i (n - 1) (by omega)
              simp only [Pr.into, Pr.deep, Pr.inn]
              omega
    · exact hh x (List.mem_of_mem_drop hx)
theorem wos_size (ps : List (List Int)) (s : Sy) : (wos ps s).size ≤ s.size := by
  induction ps with
  | nil => exact Nat.le_refl _
  | cons π ps ih => exact Nat.le_trans (wo_size π _) ih
theorem wos_deep (ps : List (List Int)) (s : Sy) {n : Nat} (h : s.deep ≤ n) : (wos ps s).deep ≤ n := by
  induction ps with
  | nil => exact h
  | cons π ps ih => exact wo_deep π _ n ih
theorem Sy.swept_size : ∀ s : Sy, s.swept.size ≤ s.size
  | .nil => Nat.le_refl _
  | .lf p r => by have := Sy.swept_size r; simp only [Sy.swept, Sy.size]; omega
  | .gp q i r => by
    have a := Sy.swept_size r
    have b := Sy.swept_size i
    rw [Sy.swept, Sy.size_app, Sy.size_of]
    unfold Sy.grpS
    simp only [Sy.size]
    split
    · simp only [List.map_nil, List.sum_nil]; omega
    · simp only [List.map_cons, List.map_nil, List.sum_cons, List.sum_nil, Pr.size]; omega
theorem Sy.swept_deep : ∀ s : Sy, s.swept.deep ≤ s.deep
  | .nil => Nat.le_refl _
  | .lf p r => by have := Sy.swept_deep r; simp only [Sy.swept, Sy.deep]; omega
  | .gp q i r => by
    have a := Sy.swept_deep r
    have b := Sy.swept_deep i
    refine Sy.deep_app.mpr ⟨Sy.deep_le.mpr fun x hx => ?_, by simp only [Sy.deep]; omega⟩
    rw [Sy.pl_of] at hx
    unfold Sy.grpS at hx
    split at hx
    · cases hx
    · have : x = .gp q i.swept := by simpa using hx
      rw [this]
      simp only [Pr.deep, Sy.deep]; omega
/-! ### the lost paths stand in their order -/
theorem lex_of_lt : ∀ a b : List Int, ltTup a b = true → HT.lexLt a b = true
  | [], [], h => by simp [ltTup, Ob.lexAt_zero] at h
  | [], _ :: _, _ => rfl
  | x :: a, [], h => by simp [ltTup, Ob.lexAt_zero] at h
  | x :: a, y :: b, h => by
    rw [HT.lexLt_cons]
    by_cases e : x = y
    · subst e
      rw [ltTup_cons] at h
      rw [if_pos rfl]
      exact lex_of_lt a b h
    · rw [if_neg e]
      rcases Int.lt_or_lt_of_ne e with c | c
      · exact decide_eq_true c
      · exfalso
        have m : min (x :: a).length (y :: b).length = min a.length b.length + 1 := by simp only [List.length_cons]; omega
        unfold ltTup at h
        rw [m, Ob.lexAt_succ, if_neg (by simp; omega)] at h
        simp at h
        omega
theorem leI_of_lt {a b : List Int} (h : ltTup a b = true) : leI a b = true := leI_iff.mpr (NtL.lex_asym _ _ (lex_of_lt a b h))
theorem sort_lost (kd : Kd) (s : Sy) : sortI ((s.lost kd).map (·.1)) = (s.lost kd).map (·.1) :=
  (sortI_unique (.refl _) (List.pairwise_map.mpr (((Sy.nodes_rise s [] 0).imp fun h => leI_of_lt h).filter _))).symm
theorem lost_inj {kd : Kd} {s : Sy} {x : List Int × Pr} (hx : x ∈ s.nodes [] 0) : x.1 ∈ (s.lost kd).map (·.1) ↔ ¬ x.2.w ∈ kd.car := by
  constructor
  · intro h
    obtain ⟨y, hy, e⟩ := List.mem_map.mp h
    obtain ⟨hy1, hy2⟩ := List.mem_filter.mp hy
    have nd : (s.nodes [] 0).Pairwise fun x y => x.1 ≠ y.1 := (Sy.nodes_rise s [] 0).imp fun {a b} h z => by
      have h := lex_of_lt _ _ h
      rw [z] at h
      have := NtL.lex_asym _ _ h
      rw [h] at this; cases this
    have : x = y := by
      clear hy hy2 h
      have e : y.1 = x.1 := e
      generalize s.nodes [] 0 = l at nd hx hy1
      induction l with
      | nil => cases hx
      | cons z l ih =>
        obtain ⟨h1, h2⟩ := List.pairwise_cons.mp nd
        rcases List.mem_cons.mp hx with rfl | hx <;> rcases List.mem_cons.mp hy1 with rfl | hy1
        · rfl
        · exact absurd e.symm (h1 _ (by assumption))
        · exact absurd e (h1 _ (by assumption))
        · exact ih h2 hx hy1
    rw [this]
    simpa using hy2
  · intro h
    exact List.mem_map.mpr ⟨x, List.mem_filter.mpr ⟨hx, by simpa using h⟩, rfl⟩
/-! ### rules -/
theorem isIn_tup {h : Hy} {x : D} {a : T} {n : Nat} {bs : List T} (e1 : vw h 24 x = some a) (nt : ∀ s, x ≠ .str s) (e2 : vw h 24 (.ref n) = some (.lst bs)) : isIn x (.ref n) h = some (bs.any fun z => T.eqv z a) := by
  unfold isIn
  split
  · rename_i z _; exact absurd rfl (nt _)
  · simp only [e1, e2]
theorem T.eqv_pd (a b : List Int) : T.eqvs (a.map T.int) (b.map T.int) = decide (a = b) := by
  induction a generalizing b with
  | nil => cases b <;> simp [T.eqvs]
  | cons x a ih =>
    cases b with
    | nil => simp [T.eqvs]
    | cons y b => simp only [List.map_cons, T.eqvs, T.eqv, ih, List.cons.injEq, Bool.decide_and]
theorem any_pd (l : List (List Int)) (π : List Int) : ((l.map fun π => T.tup (π.map T.int)).any fun z => T.eqv z (.tup (π.map T.int))) = decide (π ∈ l) := by
  induction l with
  | nil => simp
  | cons a l ih =>
    rw [List.map_cons, List.any_cons, ih]
    simp only [T.eqv, T.eqv_pd, List.mem_cons, Bool.decide_or]
    congr 1
    by_cases c : a = π
    · rw [decide_eq_true c, decide_eq_true c.symm]
    · rw [decide_eq_false c, decide_eq_false (Ne.symm c)]
section
variable {E : String → Option D → Hy → Prop} {h : Hy} {Q : D × Hy → Prop}
theorem gd_ninPd {n : Nat} {xs : List D} {l : List (List Int)} {π : List Int} (e : h[n]? = some (.lst xs)) (ex : xs = l.map pd) (q : Q (.bl (!decide (π ∈ l)), h)) : Good (sNotIn (pd π) (.ref n) h) Q E := by
  subst ex
  have v : vw h 24 (.ref n) = some (.lst (l.map fun π => .tup (π.map T.int))) := vw_ref e (vw_map _ fun π _ => pd_vw π)
  refine gd_ninT' (r := .stuck) (b := decide (π ∈ l)) ?_ q
  unfold sIn
  rw [isIn_tup (pd_vw (n := 22) π) (fun s z => by cases z) v]
  rw [any_pd]
theorem tupsD_pd : ∀ l : List (List Int), (∀ π ∈ l, π ≠ []) → tupsD (l.map pd) = some l
  | [], _ => rfl
  | [] :: l, h => absurd rfl (h [] (by simp))
  | (n :: ns) :: l, h => by
    have a := tupsD_pd l fun π hπ => h π (List.mem_cons_of_mem _ hπ)
    have b : intsD ((n :: ns).map D.int) = some (n :: ns) := intsD_map _
    show tupsD (.tup ((n :: ns).map D.int) :: l.map pd) = _
    unfold tupsD
    simp only [b, a]
theorem gd_sortT {n : Nat} {xs : List D} {l : List (List Int)} (e : h[n]? = some (.lst xs)) (ex : xs = l.map pd) (hl : ∀ π ∈ l, π ≠ []) (q : Good (new (.lst ((sortI l).map pd)) h) Q E) : Good (gSortedT [.ref n] h) Q E := by
  subst ex
  unfold gSortedT itemsL
  simp only [e, Option.bind_some, tupsD_pd l hl]
  exact q
theorem fm_congr {α β : Type} {f g : α → Option β} : ∀ {l : List α}, (∀ a ∈ l, f a = g a) → l.filterMap f = l.filterMap g
  | [], _ => rfl
  | a :: l, h => by rw [List.filterMap_cons, List.filterMap_cons, h a (by simp), fm_congr fun b hb => h b (List.mem_cons_of_mem _ hb)]
theorem pickK_rev {α : Type} (xs : List α) : pickK xs none none (-1) = xs.reverse := by
  unfold pickK Builtin.Str.strSliceIndices sliceRange
  have c : (if (-1 : Int) > 0 then (if (0 : Int) < (xs.length : Int) then ((xs.length : Int) - 0 + -1 - 1) / -1 else 0) else (if (xs.length : Int) - 1 > -1 then ((xs.length : Int) - 1 - -1 - -1 - 1) / (- -1) else 0)).toNat = xs.length := by
    rw [if_neg (by omega), Int.neg_neg, Int.ediv_one]
    split <;> omega
  have d : (List.range xs.length).map (fun (k : Nat) => ((xs.length : Int) - 1 + -1 * (k : Int)).toNat) = (List.range xs.length).map fun k => xs.length - 1 - k := List.map_congr_left fun k hk => by
    have := List.mem_range.mp hk; omega
  simp only [show ¬ ((-1 : Int) > 0) by omega, if_false] at c ⊢
  rw [c, d]
  rw [List.filterMap_map]
  have : ∀ k ∈ List.range xs.length, ((fun x => xs[x]?) ∘ fun k => xs.length - 1 - k) k = xs.reverse[k]? := by
    intro k hk
    have hk := List.mem_range.mp hk
    rw [List.getElem?_reverse hk]
    rfl
  rw [fm_congr this]
  have e : ∀ ys : List α, (List.range ys.length).filterMap (fun k => ys[k]?) = ys := by
    intro ys
    induction ys with
    | nil => rfl
    | cons y ys ih =>
      rw [List.length_cons, List.range_succ_eq_map, List.filterMap_cons]
      simp only [List.getElem?_cons_zero, List.filterMap_map]
      exact congrArg (y :: ·) ih
  have := e xs.reverse
  rw [List.length_reverse] at this
  rw [this]
theorem gd_revL {n : Nat} {xs : List D} (e : h[n]? = some (.lst xs)) (q : Good (new (.lst xs.reverse) h) Q E) : Good (sCutR (.ref n) none none (-1) h) Q E := by
  show Good (sCutK (.ref n) none none (-1) h) Q E
  unfold sCutK itemsL
  simp only [e]
  rw [if_pos ⟨by omega, by omega⟩, pickK_rev]
  exact q
/-- a part is held against the groups of nothing -/
def NOUGHTS : List D := [.tup [.str ['l', 'o', 'u', 'd'], .tup []], .tup [.str ['q', 'u', 'o', 't', 'e'], .tup []]]
theorem Pr.eqv_nought (p : Pr) : ([T.tup [.str ['l', 'o', 'u', 'd'], .tup []], T.tup [.str ['q', 'u', 'o', 't', 'e'], .tup []]].any fun z => T.eqv z p.t) = (p.isG && p.inn.pl.isEmpty) := by
  rcases p with (_ | _ | _ | _ | _) | ⟨_ | _, i⟩
  iterate 5 (simp [Pr.t, Pr.isG, T.eqv, T.eqvs, Lf.w, Lf.ts])
  all_goals
    have := Sy.ts_nil i
    cases i <;> simp [Pr.t, Pr.isG, Pr.inn, T.eqv, T.eqvs, gw, Sy.ts, Sy.pl]
theorem gd_ninNo {n : Nat} {xs : List D} {p : Pr} (e : h[n]? = some (.lst xs)) (ex : xs = NOUGHTS) (hd : p.deep ≤ 10) (q : Q (.bl (!(p.isG && p.inn.pl.isEmpty)), h)) : Good (sNotIn p.d (.ref n) h) Q E := by
  subst ex
  have v : vw h 24 (.ref n) = some (.lst [T.tup [.str ['l', 'o', 'u', 'd'], .tup []], T.tup [.str ['q', 'u', 'o', 't', 'e'], .tup []]]) := vw_ref e rfl
  refine gd_ninT' (r := .stuck) (b := p.isG && p.inn.pl.isEmpty) ?_ q
  unfold sIn
  rw [isIn_tup (Pr.vw (p := p) (by omega)) (fun s z => by cases p <;> cases z) v, Pr.eqv_nought]
end
end Px
namespace Px
/-! ## sayings in notes -/
abbrev Nt := Int × Int
def nd (x : Nt) : D := .tup [.int x.1, .int x.2]
def ntT (x : Nt) : T := .tup [.int x.1, .int x.2]
@[simp] theorem nd_lt {m : Nat} (x : Nt) : (nd x).lt m = true := by simp [nd]
def pairN (k : Int) : List Nt := [(k / 6, 1), (k % 6, 1)]
abbrev nEND : Nt := (6, 1)
abbrev nBEGIN : Nt := (7, 1)
abbrev nMINUS : Nt := (5, 1)
abbrev nLOUD : Nt := (7, 2)
abbrev nSOFT : Nt := (6, 2)
def letN (c : Char) : Int := ((c.toNat - 97 : Nat) : Int)
def figN (c : Char) : Int := ((c.toNat - 48 : Nat) : Int)
def ltsN (w : Tx) : List Nt := (w.map fun c => pairN (letN c)).flatten
def fgsN (w : Tx) : List Nt := (w.map fun c => pairN (figN c)).flatten
def absI (i : Int) : Int := if i < 0 then -i else i
def Lf.nts : Lf → List Nt
  | .wd w => ltsN w ++ [nEND]
  | .nu i => nBEGIN :: ((if i < 0 then [nMINUS, nMINUS] else []) ++ (fgsN (num (absI i)) ++ [nEND]))
  | .nm _ => []
  | .pa => [nEND]
  | .pi _ => []
def Sy.nts : Sy → List Nt
  | .nil => []
  | .lf p r => p.nts ++ r.nts
  | .gp _ i r => nLOUD :: (i.nts ++ [nSOFT]) ++ r.nts
def Pr.nts : Pr → List Nt
  | .lf p => p.nts
  | .gp _ i => nLOUD :: (i.nts ++ [nSOFT])
theorem Sy.nts_pl : ∀ s : Sy, s.nts = (s.pl.map Pr.nts).flatten
  | .nil => rfl
  | .lf p r => by rw [Sy.nts, Sy.pl, List.map_cons, List.flatten_cons, Sy.nts_pl r]; rfl
  | .gp q i r => by rw [Sy.nts, Sy.pl, List.map_cons, List.flatten_cons, Sy.nts_pl r]; rfl
theorem Sy.nts_of (l : List Pr) : (Sy.of l).nts = (l.map Pr.nts).flatten := by rw [Sy.nts_pl, Sy.pl_of]
theorem nts_snoc {pre : List Pr} {p : Pr} : (Sy.of (pre ++ [p])).nts = (Sy.of pre).nts ++ p.nts := by rw [Sy.nts_of, Sy.nts_of, List.map_append, List.flatten_append]; simp
theorem Sy.nts_app (a b : Sy) : (a.app b).nts = a.nts ++ b.nts := by rw [Sy.nts_pl, Sy.nts_pl, Sy.nts_pl, Sy.app_pl, List.map_append, List.flatten_append]
theorem ltsN_len (w : Tx) : (ltsN w).length = 2 * w.length := by
  induction w with
  | nil => rfl
  | cons c w ih => unfold ltsN at *; rw [List.map_cons, List.flatten_cons, List.length_append, ih]; simp only [pairN, List.length_cons, List.length_nil]; omega
theorem fgsN_len (w : Tx) : (fgsN w).length = 2 * w.length := by
  induction w with
  | nil => rfl
  | cons c w ih => unfold fgsN at *; rw [List.map_cons, List.flatten_cons, List.length_append, ih]; simp only [pairN, List.length_cons, List.length_nil]; omega
theorem absI_num {i : Int} (h0 : -1000000000 ≤ i) (h1 : i ≤ 1000000000) : (num (absI i)).length ≤ 10 ∧ ∀ c ∈ num (absI i), c ∈ FIGS := by
  have a : 0 ≤ absI i := by unfold absI; split <;> omega
  have b : absI i ≤ 1000000000 := by unfold absI; split <;> omega
  exact ⟨num_len (k := 10) a (by omega) (by omega), fun c hc => num_dig a hc⟩
theorem Lf.nts_len {kd : Kd} {p : Lf} (h : p.ok kd) : p.nts.length ≤ 24 := by
  cases p with
  | wd w => have := h.2.1; simp only [Lf.nts, List.length_append, ltsN_len, List.length_cons, List.length_nil]; omega
  | nu i =>
    have h : -1000000000 ≤ i ∧ i ≤ 1000000000 := h
    have a := (absI_num h.1 h.2).1
    simp only [Lf.nts, List.length_append, fgsN_len, List.length_cons, List.length_nil]
    split <;> simp only [List.length_cons, List.length_nil] <;> omega
  | nm x => simp [Lf.nts]
  | pa => simp [Lf.nts]
  | pi rows => simp [Lf.nts]
theorem Sy.nts_len {kd : Kd} : ∀ {s : Sy}, s.all (Lf.ok kd) → s.nts.length ≤ 24 * s.size
  | .nil, _ => by simp [Sy.nts]
  | .lf p r, h => by
    have a := Lf.nts_len h.1
    have b := Sy.nts_len h.2
    simp only [Sy.nts, List.length_append, Sy.size]
    omega
  | .gp q i r, h => by
    have a := Sy.nts_len h.2.1
    have b := Sy.nts_len h.2.2
    simp only [Sy.nts, List.length_append, List.length_cons, List.length_nil, Sy.size]
    omega
theorem alph_all : ∀ c ∈ ALPH, findT ALPH [c] = letN c ∧ letN c < 26 := by decide +kernel
theorem letN_pos (c : Char) : 0 ≤ letN c := by unfold letN; omega
theorem figN_pos (c : Char) : 0 ≤ figN c := by unfold figN; omega
theorem figN_lt {c : Char} (h : c ∈ FIGS) : figN c < 10 := by have := fig_lt h; unfold figN; omega
def nOk (x : Nt) : Prop := 0 ≤ x.1 ∧ x.1 ≤ 100 ∧ 0 ≤ x.2 ∧ x.2 ≤ 100
theorem pairN_ok {k : Int} (h0 : 0 ≤ k) (h1 : k < 100) : ∀ x ∈ pairN k, nOk x := by
  intro x hx
  simp only [pairN, List.mem_cons, List.not_mem_nil, or_false] at hx
  unfold nOk
  rcases hx with rfl | rfl <;> (simp only; omega)
theorem ltsN_ok {w : Tx} (h : ∀ c ∈ w, c ∈ ALPH) : ∀ x ∈ ltsN w, nOk x := by
  intro x hx
  obtain ⟨l, hl, hx⟩ := List.mem_flatten.mp hx
  obtain ⟨c, hc, rfl⟩ := List.mem_map.mp hl
  exact pairN_ok (letN_pos c) (by have := (alph_all c (h c hc)).2; omega) x hx
theorem fgsN_ok {w : Tx} (h : ∀ c ∈ w, c ∈ FIGS) : ∀ x ∈ fgsN w, nOk x := by
  intro x hx
  obtain ⟨l, hl, hx⟩ := List.mem_flatten.mp hx
  obtain ⟨c, hc, rfl⟩ := List.mem_map.mp hl
  exact pairN_ok (figN_pos c) (by have := figN_lt (h c hc); omega) x hx
theorem Lf.nts_ok {kd : Kd} {p : Lf} (h : p.ok kd) : ∀ x ∈ p.nts, nOk x := by
  intro x hx
  cases p with
  | wd w =>
    simp only [Lf.nts, List.mem_append, List.mem_cons, List.not_mem_nil, or_false] at hx
    rcases hx with hx | rfl
    · exact ltsN_ok h.2.2 x hx
    · unfold nOk; decide
  | nu i =>
    have h : -1000000000 ≤ i ∧ i ≤ 1000000000 := h
    simp only [Lf.nts, List.mem_append, List.mem_cons, List.not_mem_nil, or_false] at hx
    rcases hx with rfl | hx | hx | rfl
    · unfold nOk; decide
    · split at hx
      · have : x = nMINUS := by simpa using hx
        rw [this]; unfold nOk; decide
      · cases hx
    · exact fgsN_ok (absI_num h.1 h.2).2 x hx
    · unfold nOk; decide
  | nm _ => cases hx
  | pa =>
    have : x = nEND := by simpa [Lf.nts] using hx
    rw [this]; unfold nOk; decide
  | pi _ => cases hx
theorem Sy.nts_ok {kd : Kd} : ∀ {s : Sy}, s.all (Lf.ok kd) → ∀ x ∈ s.nts, nOk x
  | .nil, _, x, hx => by cases hx
  | .lf p r, h, x, hx => by
    rcases List.mem_append.mp hx with hx | hx
    · exact Lf.nts_ok h.1 x hx
    · exact Sy.nts_ok h.2 x hx
  | .gp q i r, h, x, hx => by
    simp only [Sy.nts, List.cons_append, List.mem_cons, List.mem_append, List.not_mem_nil, or_false] at hx
    rcases hx with rfl | (hx | rfl) | hx
    · unfold nOk; decide
    · exact Sy.nts_ok h.2.1 x hx
    · unfold nOk; decide
    · exact Sy.nts_ok h.2.2 x hx
theorem nd_vw {h : Hy} {n : Nat} (x : Nt) : vw h (n + 2) (nd x) = some (ntT x) := rfl
theorem nds_vw {h : Hy} (l : List Nt) : vw h 24 (.tup (l.map nd)) = some (.tup (l.map ntT)) := by
  show ((l.map nd).mapM (vw h 23)).map T.tup = _
  rw [vw_map (mk := nd) (tk := ntT) _ fun x _ => nd_vw x]
  rfl
theorem nts_wt : ∀ l : List Nt, (∀ x ∈ l, nOk x) → T.shws (l.map ntT) = true ∧ T.wts (l.map ntT) ≤ 40 * l.length
  | [], _ => by simp [T.shws, T.wts]
  | x :: l, h => by
    have b := nts_wt l fun z hz => h z (List.mem_cons_of_mem _ hz)
    have c := h x (by simp)
    unfold nOk at c
    have d1 := num_len5 (a := x.1) (by omega) (by omega)
    have d2 := num_len5 (a := x.2) (by omega) (by omega)
    simp only [List.map_cons, ntT, T.shws, T.shw, T.wts, T.wt, Bool.and_eq_true, Bool.and_true, decide_eq_true_eq, List.length_cons] at b ⊢
    exact ⟨⟨⟨by omega, by omega⟩, b.1⟩, by omega⟩
def SW : List Tx := [['w', 'o', 'r', 'd'], ['n', 'u', 'm', 'b', 'e', 'r'], PAUSE, ['l', 'o', 'u', 'd']]
theorem sw_in {w : Tx} (h : w ∈ SW) : w = ['w', 'o', 'r', 'd'] ∨ w = ['n', 'u', 'm', 'b', 'e', 'r'] ∨ w = PAUSE ∨ w = ['l', 'o', 'u', 'd'] := by
  simpa [SW] using h
section
variable {E : String → Option D → Hy → Prop} {h : Hy} {Q : D × Hy → Prop}
theorem gd_reprNts {l : List Nt} (hl : l.length ≤ 100000) (hok : ∀ x ∈ l, nOk x) (q : Q (.str (T.tup (l.map ntT)).rtx, h)) : Good (gRepr [.tup (l.map nd)] h) Q E := by
  have a := nts_wt l hok
  have b : (T.tup (l.map ntT)).shw = true := by simpa [T.shw] using a.1
  refine gd_repr (nds_vw l) b ?_ q
  have c := T.rtx_wt _ b
  simp only [T.wt] at c
  omega
theorem gd_indexA {A : Tx} (eA : A = ALPH) {c : Char} (hc : c ∈ ALPH) (q : Q (.int (letN c), h)) : Good (mIndexS (.str A) [.str [c]] h) Q E := by
  subst eA
  have a := (alph_all c hc).1
  refine gd_indexS (by rw [a]; exact letN_pos c) ?_
  rw [a]
  exact q
theorem gd_intFg {c : Char} (hc : c ∈ FIGS) (q : Q (.int (figN c), h)) : Good (gInt [.str [c]] h) Q E := gd_intC hc q
end
end Px
namespace G
open PySem PySem.Spec PyProof.Rows L2 Px
def k_SOFT : List D := [.int 6, .int 2]
def k_LOUD : List D := [.int 7, .int 2]
def k_ALPHABET : Tx := ['a', 'b', 'c', 'd', 'e', 'f', 'g', 'h', 'i', 'j', 'k', 'l', 'm', 'n', 'o', 'p', 'q', 'r', 's', 't', 'u', 'v', 'w', 'x', 'y', 'z']
def k_END : List D := [.int 6, .int 1]
def k_MINUS : List D := [.int 5, .int 1]
def k_BEGIN : List D := [.int 7, .int 1]
abbrev top (i : Nat) : Stmt := PySem.Challenge.pw_doorkinds_k28_sayings_sounded.main.body.getD i (.Pass ⟨0, 0, 0, 0⟩)
def d_pair_of : He.DefD := ⟨("pair_of", none), "pair_of", "pair_of", defArgs (top 8), defBody (top 8), defScope (top 8), [], []⟩
def d_number_sounded : He.DefD := ⟨("number_sounded", none), "number_sounded", "number_sounded", defArgs (top 9), defBody (top 9), defScope (top 9), [], []⟩
def d_part_sounded : He.DefD := ⟨("part_sounded", none), "part_sounded", "part_sounded", defArgs (top 10), defBody (top 10), defScope (top 10), [], []⟩
def d_sounds_body : He.DefD := ⟨("sounds_body", none), "sounds_body", "sounds_body", defArgs (top 11), defBody (top 11), defScope (top 11), [], []⟩
def d_written : He.DefD := ⟨("written", none), "written", "written", defArgs (top 12), defBody (top 12), defScope (top 12), [], []⟩
def d__law_urn : He.DefD := ⟨("_law_urn", none), "_law_urn", "_law_urn", defArgs (top 14), defBody (top 14), defScope (top 14), [], []⟩
def d__law_take : He.DefD := ⟨("_law_take", none), "_law_take", "_law_take", defArgs (top 15), defBody (top 15), defScope (top 15), [], []⟩
def d__law_word : He.DefD := ⟨("_law_word", none), "_law_word", "_law_word", defArgs (top 16), defBody (top 16), defScope (top 16), [], []⟩
def d__law_number : He.DefD := ⟨("_law_number", none), "_law_number", "_law_number", defArgs (top 17), defBody (top 17), defScope (top 17), [], []⟩
def d__law_name : He.DefD := ⟨("_law_name", none), "_law_name", "_law_name", defArgs (top 18), defBody (top 18), defScope (top 18), [], []⟩
def d__law_leaf : He.DefD := ⟨("_law_leaf", none), "_law_leaf", "_law_leaf", defArgs (top 19), defBody (top 19), defScope (top 19), [], []⟩
def d__law_parts : He.DefD := ⟨("_law_parts", none), "_law_parts", "_law_parts", defArgs (top 20), defBody (top 20), defScope (top 20), [], []⟩
def d__law_saying : He.DefD := ⟨("_law_saying", none), "_law_saying", "_law_saying", defArgs (top 21), defBody (top 21), defScope (top 21), [], []⟩
def d__law_sounded : He.DefD := ⟨("_law_sounded", none), "_law_sounded", "_law_sounded", defArgs (top 22), defBody (top 22), defScope (top 22), [], []⟩
def d_law : He.DefD := ⟨("law", none), "law", "law", defArgs (top 23), defBody (top 23), defScope (top 23), [], []⟩
def fn : List He.DefD := [d_pair_of, d_number_sounded, d_part_sounded, d_sounds_body, d_written, d__law_urn, d__law_take, d__law_word, d__law_number, d__law_name, d__law_leaf, d__law_parts, d__law_saying, d__law_sounded, d_law]
def fa : List He.Fa := [.glo "pair_of", .glo "number_sounded", .glo "part_sounded", .glo "sounds_body", .glo "written", .glo "_law_urn", .glo "_law_take", .glo "_law_word", .glo "_law_number", .glo "_law_name", .glo "_law_leaf", .glo "_law_parts", .glo "_law_saying", .glo "_law_sounded", .glo "law", .free "abs", .free "str", .free "int", .free "tuple", .free "len", .free "max", .free "range", .free "min", .free "repr", .free "isinstance"]
def cs : List (Str × D) := [("SIX", .int 6), ("BEGIN", .tup k_BEGIN), ("MINUS", .tup k_MINUS), ("END", .tup k_END), ("ALPHABET", .str k_ALPHABET), ("LOUD", .tup k_LOUD), ("SOFT", .tup k_SOFT)]
def ts : List Tb := []
theorem lit_0 : String.toList "pause" = ['p', 'a', 'u', 's', 'e'] := by simp
theorem lit_1 : String.toList "word" = ['w', 'o', 'r', 'd'] := by simp
theorem lit_2 : String.toList "number" = ['n', 'u', 'm', 'b', 'e', 'r'] := by simp
theorem lit_3 : String.toList "abcdefghijklmnopqrstuvwxyz" = ['a', 'b', 'c', 'd', 'e', 'f', 'g', 'h', 'i', 'j', 'k', 'l', 'm', 'n', 'o', 'p', 'q', 'r', 's', 't', 'u', 'v', 'w', 'x', 'y', 'z'] := by simp
theorem lit_4 : String.toList "nine" = ['n', 'i', 'n', 'e'] := by simp
theorem lit_5 : String.toList "eight" = ['e', 'i', 'g', 'h', 't'] := by simp
theorem lit_6 : String.toList "seven" = ['s', 'e', 'v', 'e', 'n'] := by simp
theorem lit_7 : String.toList "six" = ['s', 'i', 'x'] := by simp
theorem lit_8 : String.toList "five" = ['f', 'i', 'v', 'e'] := by simp
theorem lit_9 : String.toList "four" = ['f', 'o', 'u', 'r'] := by simp
theorem lit_10 : String.toList "three" = ['t', 'h', 'r', 'e', 'e'] := by simp
theorem lit_11 : String.toList "two" = ['t', 'w', 'o'] := by simp
theorem lit_12 : String.toList "one" = ['o', 'n', 'e'] := by simp
theorem lit_13 : String.toList "nought" = ['n', 'o', 'u', 'g', 'h', 't'] := by simp
theorem lit_14 : String.toList "minus" = ['m', 'i', 'n', 'u', 's'] := by simp
theorem lit_15 : String.toList "someone" = ['s', 'o', 'm', 'e', 'o', 'n', 'e'] := by simp
theorem lit_16 : String.toList "spell" = ['s', 'p', 'e', 'l', 'l'] := by simp
theorem lit_17 : String.toList "unquote" = ['u', 'n', 'q', 'u', 'o', 't', 'e'] := by simp
theorem lit_18 : String.toList "quote" = ['q', 'u', 'o', 't', 'e'] := by simp
theorem lit_19 : String.toList "name" = ['n', 'a', 'm', 'e'] := by simp
theorem lit_20 : String.toList "over" = ['o', 'v', 'e', 'r'] := by simp
theorem lit_21 : String.toList "" = [] := by simp
theorem lit_22 : String.toList "calls" = ['c', 'a', 'l', 'l', 's'] := by simp
theorem lit_23 : String.toList "+" = ['+'] := by simp
theorem lit_24 : String.toList "sounds" = ['s', 'o', 'u', 'n', 'd', 's'] := by simp
theorem lit_25 : String.toList "-" = ['-'] := by simp
theorem lit_26 : String.toList "abcdefg" = ['a', 'b', 'c', 'd', 'e', 'f', 'g'] := by simp
theorem lit_27 : String.toList "pages" = ['p', 'a', 'g', 'e', 's'] := by simp
theorem lit_28 : String.toList "/" = ['/'] := by simp
theorem lit_29 : String.toList "@" = ['@'] := by simp
theorem lit_30 : String.toList "picture" = ['p', 'i', 'c', 't', 'u', 'r', 'e'] := by simp
theorem lit_31 : String.toList "loud" = ['l', 'o', 'u', 'd'] := by simp
/-! what each def does -/
def b_pair_of : FS := (sRet (eLst (aCons (eTup (aCons (bin sFdiv (eVar 0) (eC (.int 6))) (aCons (eC (.int 1)) aNil))) (aCons (eTup (aCons (bin sMod (eVar 0) (eC (.int 6))) (aCons (eC (.int 1)) aNil))) aNil))))
def f_pair_of : FD := defD 1 1 b_pair_of
def b_number_sounded : FS := (bCons (sSet 1 (eComp2 [2, 3] (iVal (eCall gStr (aCons (eCall gAbs (aCons (eVar 0) aNil)) aNil))) (.one 2) tTrue [3] (iVal (eCall f_pair_of (aCons (eCall gInt (aCons (eVar 2) aNil)) aNil))) (.one 3) tTrue (eVar 3))) (sRet (bin sAdd (bin sAdd (bin sAdd (eLst (aCons (eC (.tup k_BEGIN)) aNil)) (bin sMul (eLst (aCons (eC (.tup k_MINUS)) (aCons (eC (.tup k_MINUS)) aNil))) (eCall gInt (aCons (bin sLt (eVar 0) (eC (.int 0))) aNil)))) (eVar 1)) (eLst (aCons (eC (.tup k_END)) aNil)))))
def f_number_sounded : FD := defD 1 4 b_number_sounded
def b_part_sounded (r_part_sounded : FD) : FS := (bCons (sAsg (eVar 0) (fgStar 1 (fgsCons (fgName 1) (fgsCons (fgName 2) fgsNil)))) (bCons (sIf (bOf (bin sEq (eVar 1) (eC (.str ['p', 'a', 'u', 's', 'e'])))) (sRet (eLst (aCons (eC (.tup k_END)) aNil))) bNil) (bCons (sIf (bOf (bin sEq (eVar 1) (eC (.str ['w', 'o', 'r', 'd'])))) (sRet (bin sAdd (eComp2 [3, 4] (iVal (bin sIx (eVar 2) (eC (.int 0)))) (.one 3) tTrue [4] (iVal (eCall f_pair_of (aCons (eM1 mIndexS (eC (.str k_ALPHABET)) (eVar 3)) aNil))) (.one 4) tTrue (eVar 4)) (eLst (aCons (eC (.tup k_END)) aNil)))) bNil) (bCons (sIf (bOf (bin sEq (eVar 1) (eC (.str ['n', 'u', 'm', 'b', 'e', 'r'])))) (sRet (eCall f_number_sounded (aCons (bin sIx (eVar 2) (eC (.int 0))) aNil))) bNil) (sRet (bin sAdd (bin sAdd (eLst (aCons (eC (.tup k_LOUD)) aNil)) (eComp2 [5, 4] (iVal (bin sIx (eVar 2) (eC (.int 0)))) (.one 5) tTrue [4] (iVal (eCall r_part_sounded (aCons (eVar 5) aNil))) (.one 4) tTrue (eVar 4))) (eLst (aCons (eC (.tup k_SOFT)) aNil))))))))
def f_part_sounded : Nat → FD
  | 0 => fdStuck
  | n + 1 => defD 1 6 (b_part_sounded (f_part_sounded n))
def b_sounds_body : FS := (sRet (eCall gTupleG (aCons (eComp2 [1, 2] (iVal (eVar 0)) (.one 1) tTrue [2] (iVal (eCall (f_part_sounded 12) (aCons (eVar 1) aNil))) (.one 2) tTrue (eVar 2)) aNil)))
def f_sounds_body : FD := defD 1 3 b_sounds_body
def b_written : FS := (sRet (eCall f_sounds_body (aCons (eVar 0) aNil)))
def f_written : FD := defD 1 1 b_written
def b__law_urn : FS := (bCons (sSet 2 (eC (.int 0))) (bCons (sIf (bOf (bin sLt (eVar 1) (eCall gLen (aCons (eVar 0) aNil)))) (sSet 2 (bin sIx (eVar 0) (eVar 1))) bNil) (sRet (eLst (aCons (eCall gMax (aCons (eC (.int 0)) (aCons (bin sSub (eVar 2) (bin sPow (eC (.int 10)) (eC (.int 18)))) aNil))) (aCons (eC (.int 0)) (aCons (bin sAdd (bin sMod (eVar 2) (bin sPow (eC (.int 10)) (eC (.int 50)))) (bin sMul (eC (.int 29)) (eVar 1))) aNil)))))))
def f__law_urn : FD := defD 2 3 b__law_urn
def b__law_take : FS := (bCons (sAsg (bin sAdd (bin sIx (eVar 0) (eC (.int 1))) (eC (.int 1))) (fgSub (eVar 0) (eC (.int 1)))) (bCons (sIf (bOf (bin sGt (bin sIx (eVar 0) (eC (.int 0))) (eC (.int 1)))) (bCons (sSet 2 (bin sMod (bin sIx (eVar 0) (eC (.int 0))) (eVar 1))) (bCons (sAsg (bin sFdiv (bin sIx (eVar 0) (eC (.int 0))) (eVar 1)) (fgSub (eVar 0) (eC (.int 0)))) (sRet (eVar 2)))) bNil) (bCons (sSet 3 (bin sAdd (bin sIx (eVar 0) (eC (.int 2))) (eC (.int 314159265358979323846)))) (bCons (sSet 3 (bin sMul (eVar 3) (bin sAdd (bin sAdd (bin sMul (bin sIx (eVar 0) (eC (.int 1))) (bin sIx (eVar 0) (eC (.int 1)))) (bin sMul (eC (.int 57)) (bin sIx (eVar 0) (eC (.int 1))))) (eC (.int 3))))) (bCons (sSet 3 (bin sMod (eVar 3) (eC (.int 618970019642690137449562111)))) (bCons (sSet 4 (bin sMod (bin sAdd (bin sAdd (bin sMul (eVar 3) (eVar 3)) (bin sIx (eVar 0) (eC (.int 2)))) (bin sIx (eVar 0) (eC (.int 1)))) (eC (.int 162259276829213363391578010288127)))) (sRet (bin sMod (bin sFdiv (eVar 4) (eC (.int 1009))) (eVar 1)))))))))
def f__law_take : FD := defD 2 5 b__law_take
def b__law_word : FS := (bCons (sSet 1 (eC (.str ['a', 'b', 'c', 'd', 'e', 'f', 'g', 'h', 'i', 'j', 'k', 'l', 'm', 'n', 'o', 'p', 'q', 'r', 's', 't', 'u', 'v', 'w', 'x', 'y', 'z']))) (bCons (sSet 2 (eLst (aCons (eC (.str ['n', 'u', 'm', 'b', 'e', 'r'])) (aCons (eC (.str ['m', 'i', 'n', 'u', 's'])) (aCons (eC (.str ['n', 'o', 'u', 'g', 'h', 't'])) (aCons (eC (.str ['o', 'n', 'e'])) (aCons (eC (.str ['t', 'w', 'o'])) (aCons (eC (.str ['t', 'h', 'r', 'e', 'e'])) (aCons (eC (.str ['f', 'o', 'u', 'r'])) (aCons (eC (.str ['f', 'i', 'v', 'e'])) (aCons (eC (.str ['s', 'i', 'x'])) (aCons (eC (.str ['s', 'e', 'v', 'e', 'n'])) (aCons (eC (.str ['e', 'i', 'g', 'h', 't'])) (aCons (eC (.str ['n', 'i', 'n', 'e'])) aNil)))))))))))))) (bCons (sSet 2 (bin sAdd (eVar 2) (eLst (aCons (eC (.str ['o', 'v', 'e', 'r'])) (aCons (eC (.str ['n', 'a', 'm', 'e'])) (aCons (eC (.str ['q', 'u', 'o', 't', 'e'])) (aCons (eC (.str ['u', 'n', 'q', 'u', 'o', 't', 'e'])) (aCons (eC (.str ['p', 'a', 'u', 's', 'e'])) (aCons (eC (.str ['s', 'p', 'e', 'l', 'l'])) (aCons (eC (.str ['s', 'o', 'm', 'e', 'o', 'n', 'e'])) aNil)))))))))) (bCons (sSet 3 (eCall f__law_take (aCons (eVar 0) (aCons (eC (.int 6)) aNil)))) (bCons (sIf (bOf (bin sLt (eVar 3) (eC (.int 2)))) (sRet (bin sIx (eVar 2) (eCall f__law_take (aCons (eVar 0) (aCons (eC (.int 19)) aNil))))) bNil) (bCons (sIf (bOf (bin sEq (eVar 3) (eC (.int 2)))) (sRet (eCut (eCut (bin sAdd (bin sIx (eVar 2) (eCall f__law_take (aCons (eVar 0) (aCons (eC (.int 19)) aNil)))) (bin sIx (eVar 1) (eCall f__law_take (aCons (eVar 0) (aCons (eC (.int 26)) aNil))))) (oSome (eCall f__law_take (aCons (eVar 0) (aCons (eC (.int 2)) aNil)))) oNone) oNone (oSome (eC (.int 8))))) bNil) (sRet (eM1 mJoinG (eC (.str [])) (eComp [4] (iRange1 (aCons (bin sSub (bin sIx (eLst (aCons (eC (.int 8)) (aCons (eC (.int 3)) aNil))) (bin sMod (eVar 3) (eC (.int 2)))) (eCall f__law_take (aCons (eVar 0) (aCons (eC (.int 3)) aNil)))) aNil)) (.one 4) tTrue (bin sIx (eVar 1) (eCall f__law_take (aCons (eVar 0) (aCons (eC (.int 26)) aNil)))))))))))))
def f__law_word : FD := defD 1 5 b__law_word
def b__law_number : FS := (bCons (sSet 1 (eCall f__law_take (aCons (eVar 0) (aCons (eC (.int 5)) aNil)))) (bCons (sSet 2 (bin sAdd (bin sMul (eCall f__law_take (aCons (eVar 0) (aCons (bin sPow (eC (.int 10)) (eC (.int 5))) aNil))) (bin sPow (eC (.int 10)) (eC (.int 4)))) (eCall f__law_take (aCons (eVar 0) (aCons (bin sPow (eC (.int 10)) (eC (.int 4))) aNil))))) (bCons (sSet 3 (eLst (aCons (eCall f__law_take (aCons (eVar 0) (aCons (eC (.int 10)) aNil))) (aCons (eVar 2) (aCons (bin sPow (eC (.int 10)) (eC (.int 9))) (aCons (bin sMul (bin sFdiv (eVar 2) (bin sPow (eC (.int 10)) (eC (.int 6)))) (bin sPow (eC (.int 10)) (eC (.int 6)))) (aCons (eCall f__law_take (aCons (eVar 0) (aCons (eC (.int 1000)) aNil))) aNil))))))) (sRet (bin sMul (bin sIx (eVar 3) (eVar 1)) (bin sIx (eLst (aCons (eC (.int 1)) (aCons (un sNeg (eC (.int 1))) aNil))) (eCall f__law_take (aCons (eVar 0) (aCons (eC (.int 2)) aNil)))))))))
def f__law_number : FD := defD 1 4 b__law_number
def b__law_name : FS := (bCons (sIf (bOf (bin sEq (eVar 1) (eC (.str ['c', 'a', 'l', 'l', 's'])))) (sRet (bin sAdd (eC (.str ['+'])) (eM1 mJoinG (eC (.str [])) (eComp [2] (iRange1 (aCons (bin sAdd (eC (.int 3)) (eCall f__law_take (aCons (eVar 0) (aCons (eC (.int 7)) aNil)))) aNil)) (.one 2) tTrue (eCall gStr (aCons (eCall f__law_take (aCons (eVar 0) (aCons (eC (.int 10)) aNil))) aNil)))))) bNil) (bCons (sIf (bOf (bin sEq (eVar 1) (eC (.str ['s', 'o', 'u', 'n', 'd', 's'])))) (sRet (eM1 mJoinG (eC (.str ['-'])) (eComp [2] (iRange1 (aCons (bin sAdd (eC (.int 2)) (eCall f__law_take (aCons (eVar 0) (aCons (eC (.int 5)) aNil)))) aNil)) (.one 2) tTrue (bin sIx (eC (.str ['a', 'b', 'c', 'd', 'e', 'f', 'g'])) (eCall f__law_take (aCons (eVar 0) (aCons (eC (.int 7)) aNil))))))) bNil) (bCons (sSet 3 (eComp [2] (iRange1 (aCons (bin sAdd (eC (.int 1)) (eCall f__law_take (aCons (eVar 0) (aCons (eC (.int 3)) aNil)))) aNil)) (.one 2) tTrue (eCall f__law_word (aCons (eVar 0) aNil)))) (bCons (sIf (bOf (bin sEq (eVar 1) (eC (.str ['p', 'a', 'g', 'e', 's'])))) (sRet (eM1 mJoinG (eC (.str [])) (eComp [4] (iVal (eVar 3)) (.one 4) tTrue (bin sAdd (eC (.str ['/'])) (eVar 4))))) bNil) (sRet (bin sAdd (bin sAdd (bin sIx (eVar 3) (eC (.int 0))) (eC (.str ['@']))) (eCall f__law_word (aCons (eVar 0) aNil))))))))
def f__law_name : FD := defD 2 5 b__law_name
def b__law_leaf : FS := (bCons (sIf (bOf (bin sEq (eVar 2) (eC (.str ['w', 'o', 'r', 'd'])))) (sRet (eTup (aCons (eC (.str ['w', 'o', 'r', 'd'])) (aCons (eCall f__law_word (aCons (eVar 0) aNil)) aNil)))) bNil) (bCons (sIf (bOf (bin sEq (eVar 2) (eC (.str ['n', 'u', 'm', 'b', 'e', 'r'])))) (sRet (eTup (aCons (eC (.str ['n', 'u', 'm', 'b', 'e', 'r'])) (aCons (eCall f__law_number (aCons (eVar 0) aNil)) aNil)))) bNil) (bCons (sIf (bOf (bin sEq (eVar 2) (eC (.str ['n', 'a', 'm', 'e'])))) (sRet (eTup (aCons (eC (.str ['n', 'a', 'm', 'e'])) (aCons (eCall f__law_name (aCons (eVar 0) (aCons (eVar 1) aNil))) aNil)))) bNil) (bCons (sIf (bOf (bin sEq (eVar 2) (eC (.str ['p', 'i', 'c', 't', 'u', 'r', 'e'])))) (bCons (sSet 3 (bin sAdd (eC (.int 1)) (eCall f__law_take (aCons (eVar 0) (aCons (eC (.int 8)) aNil))))) (bCons (sSet 4 (eComp [6] (iRange1 (aCons (bin sAdd (eC (.int 1)) (eCall f__law_take (aCons (eVar 0) (aCons (eC (.int 6)) aNil)))) aNil)) (.one 6) tTrue (eM1 mJoinG (eC (.str [])) (eComp [5] (iRange1 (aCons (eVar 3) aNil)) (.one 5) tTrue (eCall gStr (aCons (eCall f__law_take (aCons (eVar 0) (aCons (eC (.int 10)) aNil))) aNil)))))) (sRet (eTup (aCons (eC (.str ['p', 'i', 'c', 't', 'u', 'r', 'e'])) (aCons (eCall gTupleG (aCons (eVar 4) aNil)) aNil)))))) bNil) (sRet (eTup (aCons (eC (.str ['p', 'a', 'u', 's', 'e'])) aNil)))))))
def f__law_leaf : FD := defD 3 7 b__law_leaf
def l__law_parts_0 (r__law_parts : FD) : FS := (bCons (sSet 7 (bin sIx (eVar 2) (eCall f__law_take (aCons (eVar 0) (aCons (eCall gLen (aCons (eVar 2) aNil)) aNil))))) (sIf (bOf (bin sGt (bin sIx (eVar 4) (eC (.int 0))) (eC (.int 0)))) (bCons (sAsg (bin sSub (bin sIx (eVar 4) (eC (.int 0))) (eC (.int 1))) (fgSub (eVar 4) (eC (.int 0)))) (sIf (tAnd (bOf (bin sIn (eVar 7) (eLst (aCons (eC (.str ['l', 'o', 'u', 'd'])) (aCons (eC (.str ['q', 'u', 'o', 't', 'e'])) aNil))))) (tAnd (bOf (bin sGt (eVar 3) (eC (.int 1)))) (bOf (bin sGt (bin sIx (eVar 4) (eC (.int 0))) (eC (.int 0)))))) (sExpr (eL1 mAppend (eVar 5) (aCons (eTup (aCons (eVar 7) (aCons (eCall r__law_parts (aCons (eVar 0) (aCons (eVar 1) (aCons (eVar 2) (aCons (bin sSub (eVar 3) (eC (.int 1))) (aCons (eVar 4) aNil)))))) aNil))) aNil))) (sExpr (eL1 mAppend (eVar 5) (aCons (eCall f__law_leaf (aCons (eVar 0) (aCons (eVar 1) (aCons (eVar 7) aNil)))) aNil))))) bNil))
def b__law_parts (r__law_parts : FD) : FS := (bCons (sSet 5 (eLst aNil)) (bCons (sFor (iRange1 (aCons (bin sAdd (eC (.int 1)) (eCall f__law_take (aCons (eVar 0) (aCons (eC (.int 4)) aNil)))) aNil)) (.one 6) (l__law_parts_0 r__law_parts)) (sRet (eCall gTupleG (aCons (eVar 5) aNil)))))
def f__law_parts : Nat → FD
  | 0 => fdStuck
  | n + 1 => defD 5 8 (b__law_parts (f__law_parts n))
def l__law_saying_0 : FS := (sSet 5 (bin sAdd (eVar 5) (eCall (f__law_parts 12) (aCons (eVar 0) (aCons (eVar 1) (aCons (eVar 2) (aCons (eC (.int 4)) (aCons (eVar 4) aNil))))))))
def b__law_saying : FS := (bCons (sSet 4 (eLst (aCons (eCall f__law_take (aCons (eVar 0) (aCons (bin sAdd (eVar 3) (eC (.int 1))) aNil))) aNil))) (bCons (sSet 5 (eTup aNil)) (bCons (sWhile 64 (bOf (bin sGt (bin sIx (eVar 4) (eC (.int 0))) (eC (.int 0)))) l__law_saying_0) (sRet (eVar 5)))))
def f__law_saying : FD := defD 4 6 b__law_saying
def l__law_sounded_0 (r__law_sounded : FD) : FS := (sSet 2 (bin sAdd (eVar 2) (eLst (aCons (eTup (aCons (bin sFdiv (eVar 7) (eC (.int 6))) (aCons (eC (.int 1)) aNil))) (aCons (eTup (aCons (bin sMod (eVar 7) (eC (.int 6))) (aCons (eC (.int 1)) aNil))) aNil)))))
def l__law_sounded_1 (r__law_sounded : FD) : FS := (bCons (sSet 4 (eLst aNil)) (bCons (sIf (bOf (bin sEq (bin sIx (eVar 3) (eC (.int 0))) (eC (.str ['w', 'o', 'r', 'd'])))) (sSet 4 (eComp [5] (iVal (bin sIx (eVar 3) (eC (.int 1)))) (.one 5) tTrue (eM1 mIndexS (eVar 1) (eVar 5)))) bNil) (bCons (sIf (bOf (bin sEq (bin sIx (eVar 3) (eC (.int 0))) (eC (.str ['n', 'u', 'm', 'b', 'e', 'r'])))) (bCons (sSet 2 (bin sAdd (bin sAdd (eVar 2) (eLst (aCons (eTup (aCons (eC (.int 7)) (aCons (eC (.int 1)) aNil))) aNil))) (bin sMul (eLst (aCons (eTup (aCons (eC (.int 5)) (aCons (eC (.int 1)) aNil))) (aCons (eTup (aCons (eC (.int 5)) (aCons (eC (.int 1)) aNil))) aNil))) (eCall gInt (aCons (bin sLt (bin sIx (eVar 3) (eC (.int 1))) (eC (.int 0))) aNil))))) (sSet 4 (eComp [6] (iVal (eCall gStr (aCons (eCall gAbs (aCons (bin sIx (eVar 3) (eC (.int 1))) aNil)) aNil))) (.one 6) tTrue (eCall gInt (aCons (eVar 6) aNil))))) bNil) (sIf (bOf (bin sEq (bin sIx (eVar 3) (eC (.int 0))) (eC (.str ['l', 'o', 'u', 'd'])))) (sSet 2 (bin sAdd (bin sAdd (bin sAdd (eVar 2) (eLst (aCons (eTup (aCons (eC (.int 7)) (aCons (eC (.int 2)) aNil))) aNil))) (eCall r__law_sounded (aCons (bin sIx (eVar 3) (eC (.int 1))) aNil))) (eLst (aCons (eTup (aCons (eC (.int 6)) (aCons (eC (.int 2)) aNil))) aNil)))) (bCons (sFor (iVal (eVar 4)) (.one 7) (l__law_sounded_0 r__law_sounded)) (sExpr (eL1 mAppend (eVar 2) (aCons (eTup (aCons (eC (.int 6)) (aCons (eC (.int 1)) aNil))) aNil))))))))
def b__law_sounded (r__law_sounded : FD) : FS := (bCons (sSet 1 (eC (.str ['a', 'b', 'c', 'd', 'e', 'f', 'g', 'h', 'i', 'j', 'k', 'l', 'm', 'n', 'o', 'p', 'q', 'r', 's', 't', 'u', 'v', 'w', 'x', 'y', 'z']))) (bCons (sSet 2 (eLst aNil)) (bCons (sFor (iVal (eVar 0)) (.one 3) (l__law_sounded_1 r__law_sounded)) (sRet (eVar 2)))))
def f__law_sounded : Nat → FD
  | 0 => fdStuck
  | n + 1 => defD 1 8 (b__law_sounded (f__law_sounded n))
def l_law_0 : FS := (bCons (sSet 7 (eCall f_written (aCons (eVar 4) aNil))) (sIf (tOr (tNot (bOf (un (fun x h => gIsi "tuple" [x] h) (eVar 7)))) (tOr (bOf (bin sNe (eCall gRepr (aCons (eVar 7) aNil)) (eCall gRepr (aCons (eCall gTupleG (aCons (eCall (f__law_sounded 12) (aCons (eVar 4) aNil)) aNil)) aNil)))) (bOf (bin sNe (eCall gRepr (aCons (eVar 4) aNil)) (eVar 5))))) (sRet (eC (.bl false))) bNil))
def l_law_1 : FS := (bCons (sSet 3 (eCall f__law_urn (aCons (eVar 0) (aCons (eVar 2) aNil)))) (bCons (sSet 4 (eCall f__law_saying (aCons (eVar 3) (aCons (eC (.str ['s', 'o', 'u', 'n', 'd', 's'])) (aCons (eVar 1) (aCons (bin sIx (eLst (aCons (eC (.int 12)) (aCons (eC (.int 60)) aNil))) (eCall gInt (aCons (bin sEq (eCall f__law_take (aCons (eVar 3) (aCons (eC (.int 5)) aNil))) (eC (.int 0))) aNil))) aNil)))))) (bCons (sSet 5 (eCall gRepr (aCons (eVar 4) aNil))) (sFor (iRange1 (aCons (eC (.int 2)) aNil)) (.one 6) l_law_0))))
def b_law : FS := (bCons (sSet 1 (eLst (aCons (eC (.str ['w', 'o', 'r', 'd'])) (aCons (eC (.str ['w', 'o', 'r', 'd'])) (aCons (eC (.str ['n', 'u', 'm', 'b', 'e', 'r'])) (aCons (eC (.str ['p', 'a', 'u', 's', 'e'])) (aCons (eC (.str ['l', 'o', 'u', 'd'])) aNil))))))) (bCons (sFor (iRange1 (aCons (eCall gMax (aCons (eC (.int 1)) (aCons (eCall gMin (aCons (eC (.int 6)) (aCons (eCall gLen (aCons (eVar 0) aNil)) aNil))) aNil))) aNil)) (.one 2) l_law_1) (sRet (eC (.bl true)))))
def f_law : FD := defD 1 8 b_law
/-! .. and that it does so -/
section
variable {P : Program} {w : World} {K : PySem.W.Frag} {mg : Str → Option Value} {base : Heap}
theorem sc_pair_of : FnScope ["k"] ["k"] (defScope (top 8)) := ⟨rfl, rfl, rfl, by decide +kernel, rfl, by decide +kernel, by decide +kernel⟩
theorem ok_pair_of (S : Says fa fn cs ts w K mg) : Cal P w K mg base 1 "pair_of" 1 f_pair_of :=
  cal_of (S.d.def_ 0 (d := d_pair_of) rfl) (S.glo 0) sc_pair_of (fun _ _ _ _ _ _ us hl => match us, hl with | [_], _ => rfl) fun cdv A outer s H E u => (pxb_one (pxs_ret (px_lst (pxa_cons (px_tup (pxa_cons (px_fdiv (px_var 0) (px_gl (S.con 0))) (pxa_cons px_int pxa_nil))) (pxa_cons (px_tup (pxa_cons (px_mod (px_var 0) (px_gl (S.con 0))) (pxa_cons px_int pxa_nil))) pxa_nil)))))
theorem sc_number_sounded : FnScope ["number", "figures", "figure", "note"] ["number"] (defScope (top 9)) := ⟨rfl, rfl, rfl, by decide +kernel, rfl, by decide +kernel, by decide +kernel⟩
theorem ok_number_sounded (S : Says fa fn cs ts w K mg) : Cal P w K mg base 2 "number_sounded" 1 f_number_sounded :=
  cal_of (S.d.def_ 1 (d := d_number_sounded) rfl) (S.glo 1) sc_number_sounded (fun _ _ _ _ _ _ us hl => match us, hl with | [_], _ => rfl) fun cdv A outer s H E u => (pxb_cons (pxs_setComp2 1 u.calm sc_number_sounded.nd (pxi_val (pxc_str u.calm (S.free 16) (pxa_cons (pxc_abs u.calm (S.free 15) (pxa_cons (px_var 0) pxa_nil)) pxa_nil))) (own := [("figure", 2), ("note", 3)]) (vs1 := [3]) (blk_ok (by kernel_rfl)) (fun _ _ _ _ _ => (pg_one 2 sc_number_sounded.nd)) (fun _ _ _ _ _ => pxts_nil) (fun _ _ _ _ _ => (pxib_val (px_callC (ok_pair_of S) takesN u.rm u.gd (pxa_cons (pxc_int u.calm (S.free 17) (pxa_cons (px_var 2) pxa_nil)) pxa_nil)))) (fun _ _ _ _ _ => (pg_one 3 sc_number_sounded.nd)) (fun _ _ _ _ _ => pxts_nil) (fun _ _ _ _ _ => (px_var 3))) (pxb_one (pxs_ret (px_add (px_add (px_add (px_lst (pxa_cons (px_gl (S.con 1)) pxa_nil)) (px_mul (px_lst (pxa_cons (px_gl (S.con 2)) (pxa_cons (px_gl (S.con 2)) pxa_nil))) (pxc_int u.calm (S.free 17) (pxa_cons (px_lt u.rm (px_var 0) px_int) pxa_nil)))) (px_var 1)) (px_lst (pxa_cons (px_gl (S.con 3)) pxa_nil))))))
theorem sc_part_sounded : FnScope ["part", "word", "rest", "letter", "note", "one"] ["part"] (defScope (top 10)) := ⟨rfl, rfl, rfl, by decide +kernel, rfl, by decide +kernel, by decide +kernel⟩
theorem okr_part_sounded (S : Says fa fn cs ts w K mg) (n : Nat) : Cal P w K mg base (2 + n) "part_sounded" 1 (f_part_sounded n) := by
  induction n with
  | zero => exact cal_stuck (ps := ["part"]) (S.d.def_ 2 (d := d_part_sounded) rfl) (S.glo 2) (fun _ _ _ _ _ _ us hl => match us, hl with | [_], _ => rfl)
  | succ n ih => exact cal_of (k := 2 + n) (S.d.def_ 2 (d := d_part_sounded) rfl) (S.glo 2) sc_part_sounded (fun _ _ _ _ _ _ us hl => match us, hl with | [_], _ => rfl) fun cdv A outer s H E u => (pxb_cons (pxs_asg (px_var 0) (pxg_star (n := 1) u.calm (pxgs_cons (pxg_name 1 sc_part_sounded.nd) (pxgs_star (pxg_name 2 sc_part_sounded.nd) pxgs_nil)))) (pxb_cons (pxs_if (pxt_eq u.rm (px_var 1) (px_strL lit_0)) (pxb_one (pxs_ret (px_lst (pxa_cons (px_gl (S.con 3)) pxa_nil)))) pxb_nil) (pxb_cons (pxs_if (pxt_eq u.rm (px_var 1) (px_strL lit_1)) (pxb_one (pxs_ret (px_add (px_comp2 u.calm sc_part_sounded.nd (pxi_val (px_ix (px_var 2) px_int)) (own := [("letter", 3), ("note", 4)]) (vs1 := [4]) (blk_ok (by kernel_rfl)) (fun _ _ _ _ _ => (pg_one 3 sc_part_sounded.nd)) (fun _ _ _ _ _ => pxts_nil) (fun _ _ _ _ _ => (pxib_val (px_callC (ok_pair_of S) takesN u.rm u.gd (pxa_cons (px_indexS (px_gl (S.con 4)) (px_var 3)) pxa_nil) (hjk := by omega)))) (fun _ _ _ _ _ => (pg_one 4 sc_part_sounded.nd)) (fun _ _ _ _ _ => pxts_nil) (fun _ _ _ _ _ => (px_var 4))) (px_lst (pxa_cons (px_gl (S.con 3)) pxa_nil))))) pxb_nil) (pxb_cons (pxs_if (pxt_eq u.rm (px_var 1) (px_strL lit_2)) (pxb_one (pxs_ret (px_callC (ok_number_sounded S) u.tk u.rm u.gd (pxa_cons (px_ix (px_var 2) px_int) pxa_nil) (hjk := by omega)))) pxb_nil) (pxb_one (pxs_ret (px_add (px_add (px_lst (pxa_cons (px_gl (S.con 5)) pxa_nil)) (px_comp2 u.calm sc_part_sounded.nd (pxi_val (px_ix (px_var 2) px_int)) (own := [("one", 5), ("note", 4)]) (vs1 := [4]) (blk_ok (by kernel_rfl)) (fun _ _ _ _ _ => (pg_one 5 sc_part_sounded.nd)) (fun _ _ _ _ _ => pxts_nil) (fun _ _ _ _ _ => (pxib_val (px_callC ih takesN u.rm u.gd (pxa_cons (px_var 5) pxa_nil) (hjk := by omega)))) (fun _ _ _ _ _ => (pg_one 4 sc_part_sounded.nd)) (fun _ _ _ _ _ => pxts_nil) (fun _ _ _ _ _ => (px_var 4)))) (px_lst (pxa_cons (px_gl (S.con 6)) pxa_nil)))))))))
theorem ok_part_sounded (S : Says fa fn cs ts w K mg) (n : Nat) : Cal P w K mg base (2 + n) "part_sounded" 1 (f_part_sounded n) := (okr_part_sounded S n)
theorem sc_sounds_body : FnScope ["saying", "part", "note"] ["saying"] (defScope (top 11)) := ⟨rfl, rfl, rfl, by decide +kernel, rfl, by decide +kernel, by decide +kernel⟩
theorem ok_sounds_body (S : Says fa fn cs ts w K mg) : Cal P w K mg base 15 "sounds_body" 1 f_sounds_body :=
  cal_of (S.d.def_ 3 (d := d_sounds_body) rfl) (S.glo 3) sc_sounds_body (fun _ _ _ _ _ _ us hl => match us, hl with | [_], _ => rfl) fun cdv A outer s H E u => (pxb_one (pxs_ret (pxc_tupleG u.calm (S.free 18) (pxa_cons (px_comp2 u.calm sc_sounds_body.nd (pxi_val (px_var 0)) (own := [("part", 1), ("note", 2)]) (vs1 := [2]) (blk_ok (by kernel_rfl)) (fun _ _ _ _ _ => (pg_one 1 sc_sounds_body.nd)) (fun _ _ _ _ _ => pxts_nil) (fun _ _ _ _ _ => (pxib_val (px_callC (ok_part_sounded S 12) takesN u.rm u.gd (pxa_cons (px_var 1) pxa_nil)))) (fun _ _ _ _ _ => (pg_one 2 sc_sounds_body.nd)) (fun _ _ _ _ _ => pxts_nil) (fun _ _ _ _ _ => (px_var 2))) pxa_nil))))
theorem sc_written : FnScope ["saying"] ["saying"] (defScope (top 12)) := ⟨rfl, rfl, rfl, by decide +kernel, rfl, by decide +kernel, by decide +kernel⟩
theorem ok_written (S : Says fa fn cs ts w K mg) : Cal P w K mg base 16 "written" 1 f_written :=
  cal_of (S.d.def_ 4 (d := d_written) rfl) (S.glo 4) sc_written (fun _ _ _ _ _ _ us hl => match us, hl with | [_], _ => rfl) fun cdv A outer s H E u => (pxb_one (pxs_ret (px_callC (ok_sounds_body S) u.tk u.rm u.gd (pxa_cons (px_var 0) pxa_nil))))
theorem sc__law_urn : FnScope ["script", "k", "cell"] ["script", "k"] (defScope (top 14)) := ⟨rfl, rfl, rfl, by decide +kernel, rfl, by decide +kernel, by decide +kernel⟩
theorem ok__law_urn (S : Says fa fn cs ts w K mg) : Cal P w K mg base 1 "_law_urn" 2 f__law_urn :=
  cal_of (S.d.def_ 5 (d := d__law_urn) rfl) (S.glo 5) sc__law_urn (fun _ _ _ _ _ _ us hl => match us, hl with | [_, _], _ => rfl) fun cdv A outer s H E u => (pxb_cons (pxs_set 2 sc__law_urn.nd px_int) (pxb_cons (pxs_if (pxt_lt u.rm (px_var 1) (pxc_len u.calm (S.free 19) (pxa_cons (px_var 0) pxa_nil))) (pxb_one (pxs_set 2 sc__law_urn.nd (px_ix (px_var 0) (px_var 1)))) pxb_nil) (pxb_one (pxs_ret (px_lst (pxa_cons (pxc_max u.calm (S.free 20) (pxa_cons px_int (pxa_cons (px_sub (px_var 2) (px_pow px_int px_int)) pxa_nil))) (pxa_cons px_int (pxa_cons (px_add (px_mod (px_var 2) (px_pow px_int px_int)) (px_mul px_int (px_var 1))) pxa_nil))))))))
theorem sc__law_take : FnScope ["urn", "many", "digit", "one", "two"] ["urn", "many"] (defScope (top 15)) := ⟨rfl, rfl, rfl, by decide +kernel, rfl, by decide +kernel, by decide +kernel⟩
theorem ok__law_take (S : Says fa fn cs ts w K mg) : Cal P w K mg base 1 "_law_take" 2 f__law_take :=
  cal_of (S.d.def_ 6 (d := d__law_take) rfl) (S.glo 6) sc__law_take (fun _ _ _ _ _ _ us hl => match us, hl with | [_, _], _ => rfl) fun cdv A outer s H E u => (pxb_cons (pxs_asg (px_add (px_ix (px_var 0) px_int) px_int) (pxg_sub (px_var 0) px_int)) (pxb_cons (pxs_if (pxt_gt u.rm (px_ix (px_var 0) px_int) px_int) (pxb_cons (pxs_set 2 sc__law_take.nd (px_mod (px_ix (px_var 0) px_int) (px_var 1))) (pxb_cons (pxs_asg (px_fdiv (px_ix (px_var 0) px_int) (px_var 1)) (pxg_sub (px_var 0) px_int)) (pxb_one (pxs_ret (px_var 2))))) pxb_nil) (pxb_cons (pxs_set 3 sc__law_take.nd (px_add (px_ix (px_var 0) px_int) px_int)) (pxb_cons (pxs_set 3 sc__law_take.nd (px_mul (px_var 3) (px_add (px_add (px_mul (px_ix (px_var 0) px_int) (px_ix (px_var 0) px_int)) (px_mul px_int (px_ix (px_var 0) px_int))) px_int))) (pxb_cons (pxs_set 3 sc__law_take.nd (px_mod (px_var 3) px_int)) (pxb_cons (pxs_set 4 sc__law_take.nd (px_mod (px_add (px_add (px_mul (px_var 3) (px_var 3)) (px_ix (px_var 0) px_int)) (px_ix (px_var 0) px_int)) px_int)) (pxb_one (pxs_ret (px_mod (px_fdiv (px_var 4) px_int) (px_var 1))))))))))
theorem sc__law_word : FnScope ["urn", "letters", "said", "way", "k"] ["urn"] (defScope (top 16)) := ⟨rfl, rfl, rfl, by decide +kernel, rfl, by decide +kernel, by decide +kernel⟩
theorem ok__law_word (S : Says fa fn cs ts w K mg) : Cal P w K mg base 2 "_law_word" 1 f__law_word :=
  cal_of (S.d.def_ 7 (d := d__law_word) rfl) (S.glo 7) sc__law_word (fun _ _ _ _ _ _ us hl => match us, hl with | [_], _ => rfl) fun cdv A outer s H E u => (pxb_cons (pxs_set 1 sc__law_word.nd (px_strL lit_3)) (pxb_cons (pxs_set 2 sc__law_word.nd (px_lst (pxa_cons (px_strL lit_2) (pxa_cons (px_strL lit_14) (pxa_cons (px_strL lit_13) (pxa_cons (px_strL lit_12) (pxa_cons (px_strL lit_11) (pxa_cons (px_strL lit_10) (pxa_cons (px_strL lit_9) (pxa_cons (px_strL lit_8) (pxa_cons (px_strL lit_7) (pxa_cons (px_strL lit_6) (pxa_cons (px_strL lit_5) (pxa_cons (px_strL lit_4) pxa_nil)))))))))))))) (pxb_cons (pxs_set 2 sc__law_word.nd (px_add (px_var 2) (px_lst (pxa_cons (px_strL lit_20) (pxa_cons (px_strL lit_19) (pxa_cons (px_strL lit_18) (pxa_cons (px_strL lit_17) (pxa_cons (px_strL lit_0) (pxa_cons (px_strL lit_16) (pxa_cons (px_strL lit_15) pxa_nil)))))))))) (pxb_cons (pxs_set 3 sc__law_word.nd (px_callC (ok__law_take S) u.tk u.rm u.gd (pxa_cons (px_var 0) (pxa_cons px_int pxa_nil)))) (pxb_cons (pxs_if (pxt_lt u.rm (px_var 3) px_int) (pxb_one (pxs_ret (px_ix (px_var 2) (px_callC (ok__law_take S) u.tk u.rm u.gd (pxa_cons (px_var 0) (pxa_cons px_int pxa_nil)))))) pxb_nil) (pxb_cons (pxs_if (pxt_eq u.rm (px_var 3) px_int) (pxb_one (pxs_ret (px_cut (px_cut (px_add (px_ix (px_var 2) (px_callC (ok__law_take S) u.tk u.rm u.gd (pxa_cons (px_var 0) (pxa_cons px_int pxa_nil)))) (px_ix (px_var 1) (px_callC (ok__law_take S) u.tk u.rm u.gd (pxa_cons (px_var 0) (pxa_cons px_int pxa_nil))))) (pxo_some (px_callC (ok__law_take S) u.tk u.rm u.gd (pxa_cons (px_var 0) (pxa_cons px_int pxa_nil)))) pxo_none) pxo_none (pxo_some px_int)))) pxb_nil) (pxb_one (pxs_ret (px_joinG u.calm (px_strL lit_21) (px_comp u.calm sc__law_word.nd (pxi_range1 (S.free 21) (pxa_cons (px_sub (px_ix (px_lst (pxa_cons px_int (pxa_cons px_int pxa_nil))) (px_mod (px_var 3) px_int)) (px_callC (ok__law_take S) u.tk u.rm u.gd (pxa_cons (px_var 0) (pxa_cons px_int pxa_nil)))) pxa_nil)) (own := [("k", 4)]) (blk_ok (by kernel_rfl)) (fun _ _ _ _ _ => (pg_one 4 sc__law_word.nd)) (fun _ _ _ _ _ => pxts_nil) (fun _ _ _ _ _ => (px_ix (px_var 1) (px_callC (ok__law_take S) takesN u.rm u.gd (pxa_cons (px_var 0) (pxa_cons px_int pxa_nil)))))))))))))))
theorem sc__law_number : FnScope ["urn", "way", "far", "some"] ["urn"] (defScope (top 17)) := ⟨rfl, rfl, rfl, by decide +kernel, rfl, by decide +kernel, by decide +kernel⟩
theorem ok__law_number (S : Says fa fn cs ts w K mg) : Cal P w K mg base 2 "_law_number" 1 f__law_number :=
  cal_of (S.d.def_ 8 (d := d__law_number) rfl) (S.glo 8) sc__law_number (fun _ _ _ _ _ _ us hl => match us, hl with | [_], _ => rfl) fun cdv A outer s H E u => (pxb_cons (pxs_set 1 sc__law_number.nd (px_callC (ok__law_take S) u.tk u.rm u.gd (pxa_cons (px_var 0) (pxa_cons px_int pxa_nil)))) (pxb_cons (pxs_set 2 sc__law_number.nd (px_add (px_mul (px_callC (ok__law_take S) u.tk u.rm u.gd (pxa_cons (px_var 0) (pxa_cons (px_pow px_int px_int) pxa_nil))) (px_pow px_int px_int)) (px_callC (ok__law_take S) u.tk u.rm u.gd (pxa_cons (px_var 0) (pxa_cons (px_pow px_int px_int) pxa_nil))))) (pxb_cons (pxs_set 3 sc__law_number.nd (px_lst (pxa_cons (px_callC (ok__law_take S) u.tk u.rm u.gd (pxa_cons (px_var 0) (pxa_cons px_int pxa_nil))) (pxa_cons (px_var 2) (pxa_cons (px_pow px_int px_int) (pxa_cons (px_mul (px_fdiv (px_var 2) (px_pow px_int px_int)) (px_pow px_int px_int)) (pxa_cons (px_callC (ok__law_take S) u.tk u.rm u.gd (pxa_cons (px_var 0) (pxa_cons px_int pxa_nil))) pxa_nil))))))) (pxb_one (pxs_ret (px_mul (px_ix (px_var 3) (px_var 1)) (px_ix (px_lst (pxa_cons px_int (pxa_cons (px_neg px_int) pxa_nil))) (px_callC (ok__law_take S) u.tk u.rm u.gd (pxa_cons (px_var 0) (pxa_cons px_int pxa_nil))))))))))
theorem sc__law_name : FnScope ["urn", "kind", "k", "words", "word"] ["urn", "kind"] (defScope (top 18)) := ⟨rfl, rfl, rfl, by decide +kernel, rfl, by decide +kernel, by decide +kernel⟩
theorem ok__law_name (S : Says fa fn cs ts w K mg) : Cal P w K mg base 3 "_law_name" 2 f__law_name :=
  cal_of (S.d.def_ 9 (d := d__law_name) rfl) (S.glo 9) sc__law_name (fun _ _ _ _ _ _ us hl => match us, hl with | [_, _], _ => rfl) fun cdv A outer s H E u => (pxb_cons (pxs_if (pxt_eq u.rm (px_var 1) (px_strL lit_22)) (pxb_one (pxs_ret (px_add (px_strL lit_23) (px_joinG u.calm (px_strL lit_21) (px_comp u.calm sc__law_name.nd (pxi_range1 (S.free 21) (pxa_cons (px_add px_int (px_callC (ok__law_take S) u.tk u.rm u.gd (pxa_cons (px_var 0) (pxa_cons px_int pxa_nil)))) pxa_nil)) (own := [("k", 2)]) (blk_ok (by kernel_rfl)) (fun _ _ _ _ _ => (pg_one 2 sc__law_name.nd)) (fun _ _ _ _ _ => pxts_nil) (fun _ _ _ _ _ => (pxc_str u.calm (S.free 16) (pxa_cons (px_callC (ok__law_take S) takesN u.rm u.gd (pxa_cons (px_var 0) (pxa_cons px_int pxa_nil))) pxa_nil)))))))) pxb_nil) (pxb_cons (pxs_if (pxt_eq u.rm (px_var 1) (px_strL lit_24)) (pxb_one (pxs_ret (px_joinG u.calm (px_strL lit_25) (px_comp u.calm sc__law_name.nd (pxi_range1 (S.free 21) (pxa_cons (px_add px_int (px_callC (ok__law_take S) u.tk u.rm u.gd (pxa_cons (px_var 0) (pxa_cons px_int pxa_nil)))) pxa_nil)) (own := [("k", 2)]) (blk_ok (by kernel_rfl)) (fun _ _ _ _ _ => (pg_one 2 sc__law_name.nd)) (fun _ _ _ _ _ => pxts_nil) (fun _ _ _ _ _ => (px_ix (px_strL lit_26) (px_callC (ok__law_take S) takesN u.rm u.gd (pxa_cons (px_var 0) (pxa_cons px_int pxa_nil))))))))) pxb_nil) (pxb_cons (pxs_setComp 3 u.calm sc__law_name.nd (pxi_range1 (S.free 21) (pxa_cons (px_add px_int (px_callC (ok__law_take S) u.tk u.rm u.gd (pxa_cons (px_var 0) (pxa_cons px_int pxa_nil)))) pxa_nil)) (own := [("k", 2)]) (blk_ok (by kernel_rfl)) (fun _ _ _ _ _ => (pg_one 2 sc__law_name.nd)) (fun _ _ _ _ _ => pxts_nil) (fun _ _ _ _ _ => (px_callC (ok__law_word S) takesN u.rm u.gd (pxa_cons (px_var 0) pxa_nil)))) (pxb_cons (pxs_if (pxt_eq u.rm (px_var 1) (px_strL lit_27)) (pxb_one (pxs_ret (px_joinG u.calm (px_strL lit_21) (px_comp u.calm sc__law_name.nd (pxi_val (px_var 3)) (own := [("word", 4)]) (blk_ok (by kernel_rfl)) (fun _ _ _ _ _ => (pg_one 4 sc__law_name.nd)) (fun _ _ _ _ _ => pxts_nil) (fun _ _ _ _ _ => (px_add (px_strL lit_28) (px_var 4))))))) pxb_nil) (pxb_one (pxs_ret (px_add (px_add (px_ix (px_var 3) px_int) (px_strL lit_29)) (px_callC (ok__law_word S) u.tk u.rm u.gd (pxa_cons (px_var 0) pxa_nil)))))))))
theorem sc__law_leaf : FnScope ["urn", "kind", "word", "wide", "rows", "j", "k"] ["urn", "kind", "word"] (defScope (top 19)) := ⟨rfl, rfl, rfl, by decide +kernel, rfl, by decide +kernel, by decide +kernel⟩
theorem ok__law_leaf (S : Says fa fn cs ts w K mg) : Cal P w K mg base 4 "_law_leaf" 3 f__law_leaf :=
  cal_of (S.d.def_ 10 (d := d__law_leaf) rfl) (S.glo 10) sc__law_leaf (fun _ _ _ _ _ _ us hl => match us, hl with | [_, _, _], _ => rfl) fun cdv A outer s H E u => (pxb_cons (pxs_if (pxt_eq u.rm (px_var 2) (px_strL lit_1)) (pxb_one (pxs_ret (px_tup (pxa_cons (px_strL lit_1) (pxa_cons (px_callC (ok__law_word S) u.tk u.rm u.gd (pxa_cons (px_var 0) pxa_nil)) pxa_nil))))) pxb_nil) (pxb_cons (pxs_if (pxt_eq u.rm (px_var 2) (px_strL lit_2)) (pxb_one (pxs_ret (px_tup (pxa_cons (px_strL lit_2) (pxa_cons (px_callC (ok__law_number S) u.tk u.rm u.gd (pxa_cons (px_var 0) pxa_nil)) pxa_nil))))) pxb_nil) (pxb_cons (pxs_if (pxt_eq u.rm (px_var 2) (px_strL lit_19)) (pxb_one (pxs_ret (px_tup (pxa_cons (px_strL lit_19) (pxa_cons (px_callC (ok__law_name S) u.tk u.rm u.gd (pxa_cons (px_var 0) (pxa_cons (px_var 1) pxa_nil))) pxa_nil))))) pxb_nil) (pxb_cons (pxs_if (pxt_eq u.rm (px_var 2) (px_strL lit_30)) (pxb_cons (pxs_set 3 sc__law_leaf.nd (px_add px_int (px_callC (ok__law_take S) u.tk u.rm u.gd (pxa_cons (px_var 0) (pxa_cons px_int pxa_nil))))) (pxb_cons (pxs_setComp 4 u.calm sc__law_leaf.nd (pxi_range1 (S.free 21) (pxa_cons (px_add px_int (px_callC (ok__law_take S) u.tk u.rm u.gd (pxa_cons (px_var 0) (pxa_cons px_int pxa_nil)))) pxa_nil)) (own := [("k", 6)]) (blk_ok (by kernel_rfl)) (fun _ _ _ _ _ => (pg_one 6 sc__law_leaf.nd)) (fun _ _ _ _ _ => pxts_nil) (fun _ _ _ _ _ => (px_joinG u.calm (px_strL lit_21) (px_comp u.calm sc__law_leaf.nd (pxi_range1 (S.free 21) (pxa_cons (px_var 3) pxa_nil)) (own := [("j", 5)]) (blk_ok (by kernel_rfl)) (fun _ _ _ _ _ => (pg_one 5 sc__law_leaf.nd)) (fun _ _ _ _ _ => pxts_nil) (fun _ _ _ _ _ => (pxc_str u.calm (S.free 16) (pxa_cons (px_callC (ok__law_take S) takesN u.rm u.gd (pxa_cons (px_var 0) (pxa_cons px_int pxa_nil))) pxa_nil))))))) (pxb_one (pxs_ret (px_tup (pxa_cons (px_strL lit_30) (pxa_cons (pxc_tupleG u.calm (S.free 18) (pxa_cons (px_var 4) pxa_nil)) pxa_nil))))))) pxb_nil) (pxb_one (pxs_ret (px_tup (pxa_cons (px_strL lit_0) pxa_nil))))))))
theorem sc__law_parts : FnScope ["urn", "kind", "words", "deep", "left", "found", "k", "word"] ["urn", "kind", "words", "deep", "left"] (defScope (top 20)) := ⟨rfl, rfl, rfl, by decide +kernel, rfl, by decide +kernel, by decide +kernel⟩
theorem okr__law_parts (S : Says fa fn cs ts w K mg) (n : Nat) : Cal P w K mg base (4 + n) "_law_parts" 5 (f__law_parts n) := by
  induction n with
  | zero => exact cal_stuck (ps := ["urn", "kind", "words", "deep", "left"]) (S.d.def_ 11 (d := d__law_parts) rfl) (S.glo 11) (fun _ _ _ _ _ _ us hl => match us, hl with | [_, _, _, _, _], _ => rfl)
  | succ n ih => exact cal_of (k := 4 + n) (S.d.def_ 11 (d := d__law_parts) rfl) (S.glo 11) sc__law_parts (fun _ _ _ _ _ _ us hl => match us, hl with | [_, _, _, _, _], _ => rfl) fun cdv A outer s H E u => (pxb_cons (pxs_set 5 sc__law_parts.nd (px_lst pxa_nil)) (pxb_cons (pxs_for u.po u.calm (pxi_range1 (S.free 21) (pxa_cons (px_add px_int (px_callC (ok__law_take S) u.tk u.rm u.gd (pxa_cons (px_var 0) (pxa_cons px_int pxa_nil)) (hjk := by omega))) pxa_nil)) (pg_one 6 sc__law_parts.nd) (pxb_cons (pxs_set 7 sc__law_parts.nd (px_ix (px_var 2) (px_callC (ok__law_take S) u.tk u.rm u.gd (pxa_cons (px_var 0) (pxa_cons (pxc_len u.calm (S.free 19) (pxa_cons (px_var 2) pxa_nil)) pxa_nil)) (hjk := by omega)))) (pxb_one (pxs_if (pxt_gt u.rm (px_ix (px_var 4) px_int) px_int) (pxb_cons (pxs_asg (px_sub (px_ix (px_var 4) px_int) px_int) (pxg_sub (px_var 4) px_int)) (pxb_one (pxs_if (PXW.pxt (pxw_and (pxt_in u.rm (px_var 7) (px_lst (pxa_cons (px_strL lit_31) (pxa_cons (px_strL lit_18) pxa_nil)))) (pxw_and (pxt_gt u.rm (px_var 3) px_int) (pxw_and1 (pxt_gt u.rm (px_ix (px_var 4) px_int) px_int))))) (pxb_one (pxs_expr (px_l1 F.slot_list_append F.type_list_append mt_append imp_append (px_var 5) (pxa_cons (px_tup (pxa_cons (px_var 7) (pxa_cons (px_callC ih u.tk u.rm u.gd (pxa_cons (px_var 0) (pxa_cons (px_var 1) (pxa_cons (px_var 2) (pxa_cons (px_sub (px_var 3) px_int) (pxa_cons (px_var 4) pxa_nil))))) (hjk := by omega)) pxa_nil))) pxa_nil)))) (pxb_one (pxs_expr (px_l1 F.slot_list_append F.type_list_append mt_append imp_append (px_var 5) (pxa_cons (px_callC (ok__law_leaf S) u.tk u.rm u.gd (pxa_cons (px_var 0) (pxa_cons (px_var 1) (pxa_cons (px_var 7) pxa_nil))) (hjk := by omega)) pxa_nil))))))) pxb_nil)))) (pxb_one (pxs_ret (pxc_tupleG u.calm (S.free 18) (pxa_cons (px_var 5) pxa_nil))))))
theorem ok__law_parts (S : Says fa fn cs ts w K mg) (n : Nat) : Cal P w K mg base (4 + n) "_law_parts" 5 (f__law_parts n) := (okr__law_parts S n)
theorem sc__law_saying : FnScope ["urn", "kind", "words", "top", "left", "found"] ["urn", "kind", "words", "top"] (defScope (top 21)) := ⟨rfl, rfl, rfl, by decide +kernel, rfl, by decide +kernel, by decide +kernel⟩
theorem ok__law_saying (S : Says fa fn cs ts w K mg) : Cal P w K mg base 17 "_law_saying" 4 f__law_saying :=
  cal_of (S.d.def_ 12 (d := d__law_saying) rfl) (S.glo 12) sc__law_saying (fun _ _ _ _ _ _ us hl => match us, hl with | [_, _, _, _], _ => rfl) fun cdv A outer s H E u => (pxb_cons (pxs_set 4 sc__law_saying.nd (px_lst (pxa_cons (px_callC (ok__law_take S) u.tk u.rm u.gd (pxa_cons (px_var 0) (pxa_cons (px_add (px_var 3) px_int) pxa_nil))) pxa_nil))) (pxb_cons (pxs_set 5 sc__law_saying.nd (px_tup pxa_nil)) (pxb_cons (pxs_while 64 u.po (pxt_gt u.rm (px_ix (px_var 4) px_int) px_int) (pxb_one (pxs_set 5 sc__law_saying.nd (px_add (px_var 5) (px_callC (ok__law_parts S 12) u.tk u.rm u.gd (pxa_cons (px_var 0) (pxa_cons (px_var 1) (pxa_cons (px_var 2) (pxa_cons px_int (pxa_cons (px_var 4) pxa_nil)))))))))) (pxb_one (pxs_ret (px_var 5))))))
theorem sc__law_sounded : FnScope ["saying", "letters", "found", "part", "numbers", "letter", "figure", "number"] ["saying"] (defScope (top 22)) := ⟨rfl, rfl, rfl, by decide +kernel, rfl, by decide +kernel, by decide +kernel⟩
theorem okr__law_sounded (S : Says fa fn cs ts w K mg) (n : Nat) : Cal P w K mg base (0 + n) "_law_sounded" 1 (f__law_sounded n) := by
  induction n with
  | zero => exact cal_stuck (ps := ["saying"]) (S.d.def_ 13 (d := d__law_sounded) rfl) (S.glo 13) (fun _ _ _ _ _ _ us hl => match us, hl with | [_], _ => rfl)
  | succ n ih => exact cal_of (k := 0 + n) (S.d.def_ 13 (d := d__law_sounded) rfl) (S.glo 13) sc__law_sounded (fun _ _ _ _ _ _ us hl => match us, hl with | [_], _ => rfl) fun cdv A outer s H E u => (pxb_cons (pxs_set 1 sc__law_sounded.nd (px_strL lit_3)) (pxb_cons (pxs_set 2 sc__law_sounded.nd (px_lst pxa_nil)) (pxb_cons (pxs_for u.po u.calm (pxi_val (px_var 0)) (pg_one 3 sc__law_sounded.nd) (pxb_cons (pxs_set 4 sc__law_sounded.nd (px_lst pxa_nil)) (pxb_cons (pxs_if (pxt_eq u.rm (px_ix (px_var 3) px_int) (px_strL lit_1)) (pxb_one (pxs_setComp 4 u.calm sc__law_sounded.nd (pxi_val (px_ix (px_var 3) px_int)) (own := [("letter", 5)]) (blk_ok (by kernel_rfl)) (fun _ _ _ _ _ => (pg_one 5 sc__law_sounded.nd)) (fun _ _ _ _ _ => pxts_nil) (fun _ _ _ _ _ => (px_indexS (px_var 1) (px_var 5))))) pxb_nil) (pxb_cons (pxs_if (pxt_eq u.rm (px_ix (px_var 3) px_int) (px_strL lit_2)) (pxb_cons (pxs_set 2 sc__law_sounded.nd (px_add (px_add (px_var 2) (px_lst (pxa_cons (px_tup (pxa_cons px_int (pxa_cons px_int pxa_nil))) pxa_nil))) (px_mul (px_lst (pxa_cons (px_tup (pxa_cons px_int (pxa_cons px_int pxa_nil))) (pxa_cons (px_tup (pxa_cons px_int (pxa_cons px_int pxa_nil))) pxa_nil))) (pxc_int u.calm (S.free 17) (pxa_cons (px_lt u.rm (px_ix (px_var 3) px_int) px_int) pxa_nil))))) (pxb_one (pxs_setComp 4 u.calm sc__law_sounded.nd (pxi_val (pxc_str u.calm (S.free 16) (pxa_cons (pxc_abs u.calm (S.free 15) (pxa_cons (px_ix (px_var 3) px_int) pxa_nil)) pxa_nil))) (own := [("figure", 6)]) (blk_ok (by kernel_rfl)) (fun _ _ _ _ _ => (pg_one 6 sc__law_sounded.nd)) (fun _ _ _ _ _ => pxts_nil) (fun _ _ _ _ _ => (pxc_int u.calm (S.free 17) (pxa_cons (px_var 6) pxa_nil)))))) pxb_nil) (pxb_one (pxs_if (pxt_eq u.rm (px_ix (px_var 3) px_int) (px_strL lit_31)) (pxb_one (pxs_set 2 sc__law_sounded.nd (px_add (px_add (px_add (px_var 2) (px_lst (pxa_cons (px_tup (pxa_cons px_int (pxa_cons px_int pxa_nil))) pxa_nil))) (px_callC ih u.tk u.rm u.gd (pxa_cons (px_ix (px_var 3) px_int) pxa_nil) (hjk := by omega))) (px_lst (pxa_cons (px_tup (pxa_cons px_int (pxa_cons px_int pxa_nil))) pxa_nil))))) (pxb_cons (pxs_for u.po u.calm (pxi_val (px_var 4)) (pg_one 7 sc__law_sounded.nd) (pxb_one (pxs_set 2 sc__law_sounded.nd (px_add (px_var 2) (px_lst (pxa_cons (px_tup (pxa_cons (px_fdiv (px_var 7) px_int) (pxa_cons px_int pxa_nil))) (pxa_cons (px_tup (pxa_cons (px_mod (px_var 7) px_int) (pxa_cons px_int pxa_nil))) pxa_nil))))))) (pxb_one (pxs_expr (px_l1 F.slot_list_append F.type_list_append mt_append imp_append (px_var 2) (pxa_cons (px_tup (pxa_cons px_int (pxa_cons px_int pxa_nil))) pxa_nil))))))))))) (pxb_one (pxs_ret (px_var 2))))))
theorem ok__law_sounded (S : Says fa fn cs ts w K mg) (n : Nat) : Cal P w K mg base (0 + n) "_law_sounded" 1 (f__law_sounded n) := (okr__law_sounded S n)
theorem sc_law : FnScope ["script", "words", "k", "urn", "saying", "kept", "turn", "told"] ["script"] (defScope (top 23)) := ⟨rfl, rfl, rfl, by decide +kernel, rfl, by decide +kernel, by decide +kernel⟩
theorem law_fn (S : Says fa fn cs ts w K mg) {f : Addr} {fd : FuncData} (F0 : FunD K d_law.name d_law.qual d_law.params d_law.body d_law.scope [] [] f fd) : FnG P w K mg base 18 f fd ["script"] (spF K 1 f_law) :=
  fnD_ok F0 sc_law fun cdv A outer s H E u => (pxb_cons (pxs_set 1 sc_law.nd (px_lst (pxa_cons (px_strL lit_1) (pxa_cons (px_strL lit_1) (pxa_cons (px_strL lit_2) (pxa_cons (px_strL lit_0) (pxa_cons (px_strL lit_31) pxa_nil))))))) (pxb_cons (pxs_for u.po u.calm (pxi_range1 (S.free 21) (pxa_cons (pxc_max u.calm (S.free 20) (pxa_cons px_int (pxa_cons (pxc_min u.calm (S.free 22) (pxa_cons px_int (pxa_cons (pxc_len u.calm (S.free 19) (pxa_cons (px_var 0) pxa_nil)) pxa_nil))) pxa_nil))) pxa_nil)) (pg_one 2 sc_law.nd) (pxb_cons (pxs_set 3 sc_law.nd (px_callC (ok__law_urn S) u.tk u.rm u.gd (pxa_cons (px_var 0) (pxa_cons (px_var 2) pxa_nil)))) (pxb_cons (pxs_set 4 sc_law.nd (px_callC (ok__law_saying S) u.tk u.rm u.gd (pxa_cons (px_var 3) (pxa_cons (px_strL lit_24) (pxa_cons (px_var 1) (pxa_cons (px_ix (px_lst (pxa_cons px_int (pxa_cons px_int pxa_nil))) (pxc_int u.calm (S.free 17) (pxa_cons (px_eq u.rm (px_callC (ok__law_take S) u.tk u.rm u.gd (pxa_cons (px_var 3) (pxa_cons px_int pxa_nil))) px_int) pxa_nil))) pxa_nil)))))) (pxb_cons (pxs_set 5 sc_law.nd (pxc_repr u.rm u.gd (S.free 23) (pxa_cons (px_var 4) pxa_nil))) (pxb_one (pxs_for u.po u.calm (pxi_range1 (S.free 21) (pxa_cons px_int pxa_nil)) (pg_one 6 sc_law.nd) (pxb_cons (pxs_set 7 sc_law.nd (px_callC (ok_written S) u.tk u.rm u.gd (pxa_cons (px_var 4) pxa_nil))) (pxb_one (pxs_if (PXW.pxt (pxw_or (pxt_not (pxt_val (px_isi rfl (S.free 24) (S.free 18) (by decide +kernel) (by decide +kernel) (px_var 7)))) (pxw_or (pxt_ne u.rm (pxc_repr u.rm u.gd (S.free 23) (pxa_cons (px_var 7) pxa_nil)) (pxc_repr u.rm u.gd (S.free 23) (pxa_cons (pxc_tupleG u.calm (S.free 18) (pxa_cons (px_callC (ok__law_sounded S 12) u.tk u.rm u.gd (pxa_cons (px_var 4) pxa_nil)) pxa_nil)) pxa_nil))) (pxw_or1 (pxt_ne u.rm (pxc_repr u.rm u.gd (S.free 23) (pxa_cons (px_var 4) pxa_nil)) (px_var 5)))))) (pxb_one (pxs_ret px_bl)) pxb_nil))))))))) (pxb_one (pxs_ret px_bl))))
end
end G
namespace G
open Px
variable {h : Hy}
theorem take_st {b : Nat} {p c q many : Int} (e : h[b]? = some (.lst [.int p, .int c, .int q])) (c0 : 0 ≤ c) (c1 : c < 1000000000000000) (q0 : 0 ≤ q) (q1 : q < 10000000000000000000000000000000000000000000000000000) (hm : 0 < many) (hm2 : many < 1000000000000000000) :
    ∃ v p' h', 0 ≤ v ∧ v < many ∧ f__law_take [.ref b, .int many] h = .ok (.int v, h') ∧ (∀ m, m ≠ b → h'[m]? = h[m]?) ∧ h'[b]? = some (.lst [.int p', .int (c + 1), .int q]) ∧ h'.length = h.length := by
  have e1 : (h.set b (.lst [.int p, .int (c + 1), .int q]))[b]? = some (.lst [.int p, .int (c + 1), .int q]) := hp_set_self e
  have s1 : sIx (.ref b) (.int 1) h = .ok (.int c, h) := sIx_ref e (by rfl)
  have t0 : sIx (.ref b) (.int 0) (h.set b (.lst [.int p, .int (c + 1), .int q])) = .ok (.int p, h.set b (.lst [.int p, .int (c + 1), .int q])) := sIx_ref e1 (by rfl)
  have t1 : sIx (.ref b) (.int 1) (h.set b (.lst [.int p, .int (c + 1), .int q])) = .ok (.int (c + 1), h.set b (.lst [.int p, .int (c + 1), .int q])) := sIx_ref e1 (by rfl)
  have t2 : sIx (.ref b) (.int 2) (h.set b (.lst [.int p, .int (c + 1), .int q])) = .ok (.int q, h.set b (.lst [.int p, .int (c + 1), .int q])) := sIx_ref e1 (by rfl)
  have w : ∀ ρ, fsK2 (.int (c + 1)) (.ref b) ρ (.int 1, h) = .nx ρ (h.set b (.lst [.int p, .int (c + 1), .int q])) := fun ρ => fsK2_ref (i := 1) (j := 1) e (by rfl)
  have cl : ∀ p', Clean h (h.set b (.lst [.int p', .int (c + 1), .int q])) := fun p' => (Clean.refl h).set (by simp [Ob.lt]) b
  have out : ∀ v p', (RS.rt (.int v) (h.set b (.lst [.int p', .int (c + 1), .int q]))).out h = .ok (.int v, h.set b (.lst [.int p', .int (c + 1), .int q])) := fun v p' => by
    rw [out_rt_clean (by simp) (cl p'), List.take_of_length_le (by simp)]
  have fin : ∀ v p', 0 ≤ v → v < many → f__law_take [.ref b, .int many] h = .ok (.int v, h.set b (.lst [.int p', .int (c + 1), .int q])) →
      ∃ v p' h', 0 ≤ v ∧ v < many ∧ f__law_take [.ref b, .int many] h = .ok (.int v, h') ∧ (∀ m, m ≠ b → h'[m]? = h[m]?) ∧ h'[b]? = some (.lst [.int p', .int (c + 1), .int q]) ∧ h'.length = h.length := fun v p' v0 v1 ev =>
    ⟨v, p', _, v0, v1, ev, fun m hm => List.getElem?_set_ne (Ne.symm hm), hp_set_self e, List.length_set⟩
  by_cases hp : 1 < p
  · refine fin (p % many) (p / many) (Int.emod_nonneg _ (by omega)) (Int.emod_lt_of_pos _ hm) ?_
    have w2 : ∀ ρ, fsK2 (.int (p / many)) (.ref b) ρ (.int 0, h.set b (.lst [.int p, .int (c + 1), .int q])) = .nx ρ (h.set b (.lst [.int (p / many), .int (c + 1), .int q])) := fun ρ => by
      rw [fsK2_ref (i := 0) (j := 0) e1 (by rfl)]
      simp [List.set_set]
    have m1 : 0 < many ∧ many < 115792089237316195423570985008687907853269984665640564039457584007913129639936 := by omega
    unfold f__law_take
    rw [defD_own (by rfl) (by simp)]
    unfold b__law_take
    simp [startE, s1, w, t0, hp, hm, m1, w2, out]
  · have a1 : -115792089237316195423570985008687907853269984665640564039457584007913129639936 < q + 314159265358979323846 ∧ q + 314159265358979323846 < 115792089237316195423570985008687907853269984665640564039457584007913129639936 := by omega
    have a2 : -115792089237316195423570985008687907853269984665640564039457584007913129639936 < c + 1 ∧ c + 1 < 115792089237316195423570985008687907853269984665640564039457584007913129639936 := by omega
    have sq : 0 ≤ (c + 1) * (c + 1) ∧ (c + 1) * (c + 1) ≤ 1000000000000000000000000000000 := by
      constructor
      · exact Int.mul_nonneg (by omega) (by omega)
      · have : (c + 1) * (c + 1) ≤ 1000000000000000 * 1000000000000000 := Int.mul_le_mul (by omega) (by omega) (by omega) (by omega)
        omega
    have a3 : -115792089237316195423570985008687907853269984665640564039457584007913129639936 < (c + 1) * (c + 1) + 57 * (c + 1) + 3 ∧ (c + 1) * (c + 1) + 57 * (c + 1) + 3 < 115792089237316195423570985008687907853269984665640564039457584007913129639936 := by omega
    generalize ho : (q + 314159265358979323846) * ((c + 1) * (c + 1) + 57 * (c + 1) + 3) % 618970019642690137449562111 = o
    have o1 : -115792089237316195423570985008687907853269984665640564039457584007913129639936 < o ∧ o < 115792089237316195423570985008687907853269984665640564039457584007913129639936 := by omega
    refine fin ((o * o + q + (c + 1)) % 162259276829213363391578010288127 / 1009 % many) p (Int.emod_nonneg _ (Int.ne_of_gt hm)) (Int.emod_lt_of_pos _ hm) ?_
    unfold f__law_take
    rw [defD_own (by rfl) (by simp)]
    unfold b__law_take
    simp [startE, s1, w, t0, t1, t2, hp, hm, a1, a2, a3, ho, o1, out]
end G
namespace G
open Px
theorem pick_gen {many : Int} (hm : 0 < many) (hm2 : many < 1000000000000000000) : GenU f__law_take [.int many] 1 (fun d => ∃ v, d = .int v ∧ 0 ≤ v ∧ v < many) := by
  intro h b bg k e hb hk
  obtain ⟨p, c, q, rfl, c0, c1, q0, q1⟩ := hb
  obtain ⟨v, p', h', v0, v1, ev, fr, e1, hl⟩ := take_st e c0 (by omega) q0 q1 hm hm2
  exact ⟨.int v, h', _, ev, hl, fr, e1, ⟨p', c + 1, q, rfl, by omega, by omega, q0, q1⟩, by simp, v, rfl, v0, v1⟩
theorem gd_pick {E : String → Option D → Hy → Prop} {h h0 : Hy} {Q : D × Hy → Prop} {b k : Nat} {bg : Ob} {L : List (Nat × Ob)} {many : Int} (S : St h0 b h ((b, bg) :: L)) (hb : Urn k bg) (hk : k + 1 < 1000000000000000) (hm : 0 < many) (hm2 : many < 1000000000000000000)
    (q : ∀ v h' bg', 0 ≤ v → v < many → Urn (k + 1) bg' → St h0 b h' ((b, bg') :: L) → Q (.int v, h')) : Good (f__law_take [.ref b, .int many] h) Q E :=
  gd_genU (pick_gen hm hm2) S hb hk fun d h' bg' p _ hb S => by
    obtain ⟨v, rfl, v0, v1⟩ := p
    exact q v h' bg' v0 v1 hb S
end G
set_option hygiene false
local macro_rules | `(tactic| walk_at "T28n") => `(tactic| (try dsimp only [List.set_cons_zero, List.set_cons_succ, Px.wipeE_cons, Px.wipeE_nil, Px.kG, Px.wipeE_cons, List.nil_append, List.cons_append, List.length_nil, List.length_cons]))
local macro_rules | `(tactic| walk_at "T28l") => `(tactic| (first | omega | decide | (exact ⟨by decide, by omega⟩) | (simp only [List.length_append, List.length_cons, List.length_nil, List.length_map, List.length_take, List.length_drop, List.length_replicate]; omega)))
local macro_rules | `(tactic| walk_at "T28h") => `(tactic| (first | assumption | exact Px.St.g0 (by assumption) | exact Px.St.g1 (by assumption) | exact Px.St.g2 (by assumption) | exact Px.St.g3 (by assumption) | exact Px.St.g4 (by assumption) | exact Px.St.g5 (by assumption) | exact Px.St.g6 (by assumption) | exact Px.St.g7 (by assumption) | exact Px.St.g8 (by assumption) | exact Px.St.g9 (by assumption) | exact Px.St.g10 (by assumption) | exact Px.St.g11 (by assumption) | exact Px.St.g12 (by assumption) | exact Px.St.g13 (by assumption) | exact Px.St.g14 (by assumption)))
local macro_rules | `(tactic| walk_at "T283") => `(tactic| (first
    | (with_reducible refine Px.gd_v0 ?_)
    | (with_reducible refine Px.gd_v1 ?_)
    | (with_reducible refine Px.gd_v2 ?_)
    | (with_reducible refine Px.gd_v3 ?_)
    | (with_reducible refine Px.gd_v4 ?_)
    | (with_reducible refine Px.gd_v5 ?_)
    | (with_reducible refine Px.gd_v6 ?_)
    | (with_reducible refine Px.gd_v7 ?_)
    | (with_reducible refine Px.gd_v8 ?_)
    | (with_reducible refine Px.gd_v9 ?_)
    | (with_reducible refine Px.gd_v10 ?_)
    | (with_reducible refine Px.gd_v11 ?_)
    | (with_reducible refine Px.gd_v12 ?_)
    | (with_reducible refine Px.gd_v13 ?_)
    | (with_reducible refine Px.gd_c ?_)
    | (with_reducible refine Px.gd_bin ?_)
    | (with_reducible refine Px.gd_un ?_)
    | (with_reducible refine Px.gd_chain ?_)
    | (with_reducible refine Px.gd_bOf ?_)
    | (with_reducible refine Px.gd_tAnd ?_)
    | (with_reducible refine Px.gd_tOr ?_)
    | (with_reducible refine Px.gd_tNot ?_)
    | (with_reducible refine Px.gd_tTrue ?_)
    | (with_reducible refine Px.gd_eAnd ?_)
    | (with_reducible refine Px.gd_eOr ?_)
    | (with_reducible refine Px.gd_eNot ?_)
    | (with_reducible refine Px.gd_eIf ?_)
    | (with_reducible refine Px.gd_aNil ?_)
    | (with_reducible refine Px.gd_aCons ?_)
    | (with_reducible refine Px.gd_eTup ?_)
    | (with_reducible refine Px.gd_eLst ?_)
    | (with_reducible refine Px.gd_eCall ?_)
    | (with_reducible refine Px.gd_eCallD ?_)
    | (with_reducible refine Px.gd_eCallK ?_)
    | (with_reducible refine Px.gd_oNone ?_)
    | (with_reducible refine Px.gd_oSome ?_)
    | (with_reducible refine Px.gd_eCut ?_)
    | (with_reducible refine Px.gd_eCutK ?_)
    | (with_reducible refine Px.gd_eM0 ?_)
    | (with_reducible refine Px.gd_eM1 ?_)
    | (with_reducible refine Px.gd_jNil ?_)
    | (with_reducible refine Px.gd_jCons ?_)
    | (with_reducible refine Px.gd_eJoined ?_)
    | (with_reducible refine Px.gd_fmtS ?_)
    | (with_reducible refine Px.gd_iVal ?_)
    | (with_reducible refine Px.gd_iRange1 ?_)
    | (with_reducible refine Px.gd_iRange2 ?_)
    | (with_reducible refine Px.gd_iEnum ?_)
    | (with_reducible refine Px.gd_eDnew ?_)
    | (with_reducible refine Px.gd_eComp ?_)
    | (with_reducible refine Px.gd_eComp2 ?_)
    | (with_reducible refine Px.ob_bl ?_)
    | (with_reducible refine Px.oi_int ?_)
    | (with_reducible refine Px.os_str ?_)
    | (with_reducible refine Px.gd_addI ?_)
    | (with_reducible refine Px.gd_subI ?_)
    | (with_reducible refine Px.gd_negI ?_)
    | (with_reducible refine Px.gd_ltI ?_)
    | (with_reducible refine Px.gd_leI ?_)
    | (with_reducible refine Px.gd_gtI ?_)
    | (with_reducible refine Px.gd_geI ?_)
    | (with_reducible refine Px.gd_eqI ?_)
    | (with_reducible refine Px.gd_neI ?_)
    | (with_reducible refine Px.gd_eqS ?_)
    | (with_reducible refine Px.gd_neS ?_)
    | (with_reducible refine Px.gd_isN ?_)
    | (with_reducible refine Px.gd_isNotB ?_)
    | (with_reducible refine Px.gd_isB ?_)
    | (with_reducible refine Px.gd_inC ?_)
    | (with_reducible refine Px.gd_ninC ?_)
    | (with_reducible refine Px.gd_cutT ?_)
    | (with_reducible refine Px.gd_lenT ?_)
    | (with_reducible refine Px.gd_lenF ?_)
    | (with_reducible refine Px.gd_max ?_)
    | (with_reducible refine Px.gd_min ?_)
    | (with_reducible refine Px.gd_abs ?_)
    | (with_reducible refine Px.gd_intI ?_)
    | (with_reducible refine Px.gd_intB ?_)
    | (with_reducible refine Px.gd_find ?_)
    | (with_reducible refine Px.gd_tupT ?_)
    | (with_reducible refine Px.gd_ivS ?_)
    | (with_reducible refine Px.gd_ivT ?_)
    | (with_reducible refine Px.gd_ivF ?_)
    | (with_reducible refine Px.gs_cons ?_)
    | (with_reducible refine Px.gs_nil ?_)
    | (with_reducible refine Px.gs_set ?_)
    | (with_reducible refine Px.gs_expr ?_)
    | (with_reducible refine Px.gs_ret ?_)
    | (with_reducible refine Px.gs_retN ?_)
    | (with_reducible refine Px.gs_if ?_)
    | (with_reducible refine Px.gs_brk ?_)
    | (with_reducible refine Px.gs_cnt ?_)
    | (with_reducible refine Px.gs_asg ?_)
    | (with_reducible refine Px.gs_fgName ?_)
    | (with_reducible refine Px.gs_fgsNil ?_)
    | (with_reducible refine Px.gs_fgsCons ?_)
    | (with_reducible refine Px.gs_fgSub ?_)
    | (with_reducible refine Px.gs_for ?_)
    | (with_reducible refine Px.gd_ok ?_)
    | (with_reducible refine Px.gd_addS ?_ ?_; (· walk_at "T28l"))
    | (with_reducible refine Px.gd_addT ?_ ?_; (· walk_at "T28l"))
    | (with_reducible refine Px.gd_mulI ?_ ?_; (· walk_at "T28l"))
    | (with_reducible refine Px.gd_fdivI ?_ ?_; (· walk_at "T28l"))
    | (with_reducible refine Px.gd_modI ?_ ?_; (· walk_at "T28l"))
    | (with_reducible refine Px.gd_powI ?_ ?_; (· walk_at "T28l"))
    | (with_reducible refine Px.gd_cutS ?_ ?_; (· walk_at "T28l"))
    | (with_reducible refine Px.gd_lenS ?_ ?_; (· walk_at "T28l"))
    | (with_reducible refine Px.gd_strI ?_ ?_; (· walk_at "T28l"))
    | (with_reducible refine Px.gd_divmod ?_ ?_; (· walk_at "T28l"))
    | (with_reducible refine Px.gd_mkTup ?_ ?_; (· walk_at "T28l"))
    | (with_reducible refine Px.gd_mkLst ?_ ?_; (· walk_at "T28l"))
    | (with_reducible refine Px.gd_rg1 ?_ ?_; (· walk_at "T28l"))
    | (with_reducible refine Px.gd_rg2 ?_ ?_; (· walk_at "T28l"))
    | (with_reducible refine Px.gd_split ?_ ?_; (· walk_at "T28l"))
    | (with_reducible refine Px.gd_tupS ?_ ?_; (· walk_at "T28l"))
    | (with_reducible refine Px.gs_fgTup ?_ ?_; (· walk_at "T28l"))
    | (with_reducible refine Px.gd_cutKS ?_ ?_; (· walk_at "T28l"))
    | (with_reducible refine Px.gs_fgTup (by with_unfolding_all rfl) ?_)
    | (with_reducible refine Px.gd_isi (by with_unfolding_all rfl) ?_)
    | (with_reducible refine Px.gd_inT (by with_unfolding_all rfl) ?_)
    | (with_reducible refine Px.gd_inTI (by with_unfolding_all rfl) ?_)
    | (with_reducible refine Px.gd_ninT (by with_unfolding_all rfl) ?_)
    | (with_reducible refine Px.gd_ninTI (by with_unfolding_all rfl) ?_)))
local macro_rules | `(tactic| walk_at "T284") => `(tactic| (first
    | (with_reducible refine Px.gd_ixS Px.atI0 ?_ ?_; (· walk_at "T28l"))
    | (with_reducible refine Px.gd_ixL (by walk_at "T28h") Px.atI0 ?_)
    | (with_reducible refine Px.gd_ixT Px.atI0 ?_)
    | (with_reducible refine Px.gd_newS (by assumption) fun n h' hn S => ?_; dsimp only [List.nil_append, List.cons_append] at S)
    | (with_reducible refine G.gd_pick (by assumption) (by assumption) ?_ ?_ ?_ fun v h' bg' v0 v1 hb S => ?_; (· omega); (· walk_at "T28l"); (· walk_at "T28l"))
    | (with_reducible refine Px.gd_ixL (by walk_at "T28h") ?_ ?_; (· rfl))
    | (with_reducible refine Px.gd_ixSA ?_ ?_ ?_ fun c hc => ?_; (· omega); (· walk_at "T28l"); (· walk_at "T28l"))
    | (with_reducible refine Px.gd_addL (by walk_at "T28h") (by walk_at "T28h") ?_ ?_; (· walk_at "T28l"))
    | (with_reducible refine Px.gd_mulL (by walk_at "T28h") ?_ ?_ ?_ ?_; (· walk_at "T28l"); (· omega); (· omega))
    | (with_reducible refine Px.gd_neNilE (by walk_at "T28h") (by walk_at "T28h") ?_)
    | (with_reducible refine Px.gd_eqNilE (by walk_at "T28h") (by walk_at "T28h") ?_)
    | (with_reducible refine Px.gd_lenL (by walk_at "T28h") ?_)
    | (with_reducible refine Px.gd_ivO (by walk_at "T28h") ?_)
    | (with_reducible refine Px.gd_eqNilC (by walk_at "T28h") (by walk_at "T28h") ?_)
    | (with_reducible refine Px.gd_eqNilS (by walk_at "T28h") (by walk_at "T28h") ?_)
    | (with_reducible refine Px.gd_appS0 (by assumption) ?_ fun h' S => ?_; (· walk_at "T28l"))
    | (with_reducible refine Px.gd_appS1 (by assumption) ?_ fun h' S => ?_; (· walk_at "T28l"))
    | (with_reducible refine Px.gd_appS2 (by assumption) ?_ fun h' S => ?_; (· walk_at "T28l"))
    | (with_reducible refine Px.gd_appS3 (by assumption) ?_ fun h' S => ?_; (· walk_at "T28l"))
    | (rw [if_pos rfl])
    | (rw [if_neg Bool.false_ne_true])
    | (rw [if_pos (by simp only [decide_eq_true_eq, Bool.not_eq_true', decide_eq_false_iff_not]; omega)])
    | (rw [if_neg (by simp only [decide_eq_true_eq, Bool.not_eq_true', decide_eq_false_iff_not]; omega)])
    | (rw [if_pos (by decide)])
    | (rw [if_neg (by decide)])))
local macro_rules | `(tactic| walk_at "T285") => `(tactic| (first
    | (with_reducible refine Px.gd_ixS Px.atI0 ?_ ?_; (· walk_at "T28l"))
    | (with_reducible refine Px.gd_ixL (by walk_at "T28h") Px.atI0 ?_)
    | (with_reducible refine Px.gd_ixT Px.atI0 ?_)
    | (with_reducible refine Px.gd_newS (by assumption) fun n h' hn S => ?_; dsimp only [List.nil_append, List.cons_append] at S)
    | (with_reducible refine G.gd_pick (by assumption) (by assumption) ?_ ?_ ?_ fun v h' bg' v0 v1 hb S => ?_; (· omega); (· walk_at "T28l"); (· walk_at "T28l"))
    | (with_reducible refine Px.gd_ixL (by walk_at "T28h") ?_ ?_; (· rfl))
    | (with_reducible refine Px.gd_ixSA ?_ ?_ ?_ fun c hc => ?_; (· omega); (· walk_at "T28l"); (· walk_at "T28l"))
    | (with_reducible refine Px.gd_ixLA (by walk_at "T28h") ?_ ?_ fun x hx => ?_; (· omega); (· walk_at "T28l"))
    | (with_reducible refine Px.gd_addL (by walk_at "T28h") (by walk_at "T28h") ?_ ?_; (· walk_at "T28l"))
    | (with_reducible refine Px.gd_mulL (by walk_at "T28h") ?_ ?_ ?_ ?_; (· walk_at "T28l"); (· omega); (· omega))
    | (with_reducible refine Px.gd_neNilE (by walk_at "T28h") (by walk_at "T28h") ?_)
    | (with_reducible refine Px.gd_eqNilE (by walk_at "T28h") (by walk_at "T28h") ?_)
    | (with_reducible refine Px.gd_lenL (by walk_at "T28h") ?_)
    | (with_reducible refine Px.gd_ivO (by walk_at "T28h") ?_)
    | (with_reducible refine Px.gd_eqNilC (by walk_at "T28h") (by walk_at "T28h") ?_)
    | (with_reducible refine Px.gd_eqNilS (by walk_at "T28h") (by walk_at "T28h") ?_)
    | (with_reducible refine Px.gd_appS0 (by assumption) ?_ fun h' S => ?_; (· walk_at "T28l"))
    | (with_reducible refine Px.gd_appS1 (by assumption) ?_ fun h' S => ?_; (· walk_at "T28l"))
    | (with_reducible refine Px.gd_appS2 (by assumption) ?_ fun h' S => ?_; (· walk_at "T28l"))
    | (with_reducible refine Px.gd_appS3 (by assumption) ?_ fun h' S => ?_; (· walk_at "T28l"))
    | (rw [if_pos rfl])
    | (rw [if_neg Bool.false_ne_true])
    | (rw [if_pos (by simp only [decide_eq_true_eq, Bool.not_eq_true', decide_eq_false_iff_not]; omega)])
    | (rw [if_neg (by simp only [decide_eq_true_eq, Bool.not_eq_true', decide_eq_false_iff_not]; omega)])
    | (rw [if_pos (by decide)])
    | (rw [if_neg (by decide)])))
set_option hygiene true
namespace G
open Px
abbrev SAID19 : List D := [.str ['n', 'u', 'm', 'b', 'e', 'r'], .str ['m', 'i', 'n', 'u', 's'], .str ['n', 'o', 'u', 'g', 'h', 't'], .str ['o', 'n', 'e'], .str ['t', 'w', 'o'], .str ['t', 'h', 'r', 'e', 'e'], .str ['f', 'o', 'u', 'r'], .str ['f', 'i', 'v', 'e'], .str ['s', 'i', 'x'], .str ['s', 'e', 'v', 'e', 'n'], .str ['e', 'i', 'g', 'h', 't'], .str ['n', 'i', 'n', 'e'], .str ['o', 'v', 'e', 'r'], .str ['n', 'a', 'm', 'e'], .str ['q', 'u', 'o', 't', 'e'], .str ['u', 'n', 'q', 'u', 'o', 't', 'e'], .str ['p', 'a', 'u', 's', 'e'], .str ['s', 'p', 'e', 'l', 'l'], .str ['s', 'o', 'm', 'e', 'o', 'n', 'e']]
theorem said19 : ∀ x ∈ SAID19, ∃ j, x = .str j ∧ (isW j ∧ 3 ≤ j.length) := by
  intro x hx
  simp only [SAID19, List.mem_cons, List.not_mem_nil, or_false] at hx
  rcases hx with rfl | rfl | rfl | rfl | rfl | rfl | rfl | rfl | rfl | rfl | rfl | rfl | rfl | rfl | rfl | rfl | rfl | rfl | rfl <;> exact ⟨_, rfl, by unfold isW; decide, by decide⟩
theorem word_gen : GenU f__law_word [] 20 (fun d => ∃ s : Tx, d = .str s ∧ isW s) := by
  refine gen_ofU (by rfl) fun h b bg k S hb hk => ?_
  unfold b__law_word
  simp only [startE, List.map_cons, List.map_nil, List.length_cons, List.length_nil, Nat.reduceAdd, Nat.reduceSub, List.replicate_succ, List.replicate_zero, List.cons_append, List.nil_append]
  walk_at "T28n"
  repeat ((first | walk_at "T283" | walk_at "T284"); walk_at "T28n")
  by_cases h1 : v < 2
  · walk_at "T28n"
    repeat ((first | walk_at "T283" | (with_reducible refine gd_ixLS (fun j => isW j ∧ 3 ≤ j.length) (by walk_at "T28h") ?_ ?_ said19 fun s hs => ?_; (· omega); (· walk_at "T28l")) | walk_at "T284"); walk_at "T28n")
    exact ⟨by simp, ⟨_, rfl, hs.1⟩, _, _, S, hb.mono (by omega)⟩
  by_cases h2 : v = 2
  · walk_at "T28n"
    repeat ((first | walk_at "T283" | (with_reducible refine gd_ixLS (fun j => isW j ∧ 3 ≤ j.length) (by walk_at "T28h") ?_ ?_ said19 fun s hs => ?_; (· omega); (· walk_at "T28l")) | walk_at "T284"); walk_at "T28n")
    have ls : s.length ≤ 8 := hs.1.2.1
    walk_at "T28n"
    repeat ((first | walk_at "T283" | walk_at "T284"); walk_at "T28n")
    rename_i u hu bu u0 u1 hbu Su
    have hc' := hc
    walk_at "T28n"
    repeat ((first | walk_at "T283" | walk_at "T284"); walk_at "T28n")
    rw [cut_lo v0]
    walk_at "T28n"
    repeat ((first | walk_at "T283" | walk_at "T284"); walk_at "T28n")
    rw [cut_hi (by omega)]
    refine ⟨by simp, ⟨_, rfl, ?_, ?_, ?_⟩, _, _, S, hb.mono (by omega)⟩
    · have := hs.2; simp only [List.length_take, List.length_drop, List.length_append, List.length_cons, List.length_nil]; omega
    · simp only [List.length_take]; omega
    · intro x hx
      have hx := List.mem_of_mem_drop (List.mem_of_mem_take hx)
      rcases List.mem_append.mp hx with hx | hx
      · exact hs.1.2.2 x hx
      · have : x = c := by simpa using hx
        rw [this]; exact hc'
  · walk_at "T28n"
    repeat ((first | walk_at "T283" | (with_reducible refine gd_ixLI 3 8 (by walk_at "T28h") ?_ ?_ ?_ fun j j0 j1 => ?_; (· omega); (· walk_at "T28l"); (· intro x hx; simp only [List.mem_cons, List.not_mem_nil, or_false] at hx; rcases hx with rfl | rfl <;> exact ⟨_, rfl, by decide, by decide⟩)) | walk_at "T284"); walk_at "T28n")
    refine ⟨by rw [rangeD_length]; omega, ?_⟩
    refine gd_cGenU (cst := 1) (nl := (j - v).toNat) (fun d => ∃ c : Char, d = .str [c] ∧ c ∈ ALPH) (by assumption) (by assumption) _ (rangeD_length _ _) (fun x hx h bg k1 hk1 S hb => ?_) fun ys h' bg' hl hp S hb => ?_
    · walk_at "T28n"
      repeat ((first | walk_at "T283" | walk_at "T285"); walk_at "T28n")
      exact ⟨⟨_, rfl, hc⟩, _, [], S, hb⟩
    · obtain ⟨cs, rfl, hcs⟩ := all_signs ys hp
      rw [List.length_map] at hl
      have sm := sum_signs cs
      walk_at "T28n"
      repeat ((first | walk_at "T283" | (with_reducible refine gd_joinL (ts := cs.map fun c => [c]) (by walk_at "T28h") (by simp) ?_ ?_; (· simp only [List.length_cons, List.length_nil, List.length_map] at *; omega)) | walk_at "T285"); walk_at "T28n")
      rw [joinT_signs]
      exact ⟨by simp, ⟨_, rfl, by omega, by omega, hcs.1⟩, bg', _, S, hb.mono (by omega)⟩
theorem gd_word {E : String → Option D → Hy → Prop} {h h0 : Hy} {Q : D × Hy → Prop} {b k : Nat} {bg : Ob} {L : List (Nat × Ob)} (S : St h0 b h ((b, bg) :: L)) (hb : Urn k bg) (hk : k + 20 < 1000000000000000)
    (q : ∀ s h' bg', isW s → 1 ≤ s.length → s.length ≤ 8 → Urn (k + 20) bg' → St h0 b h' ((b, bg') :: L) → Q (.str s, h')) : Good (f__law_word [.ref b] h) Q E :=
  gd_genU word_gen S hb hk fun d h' bg' p _ hb S => by
    obtain ⟨s, rfl, w⟩ := p
    exact q s h' bg' w w.1 w.2.1 hb S
end G
set_option hygiene false
local macro_rules | `(tactic| walk_at "U28n") => `(tactic| (try dsimp only [List.set_cons_zero, List.set_cons_succ, Px.wipeE_cons, Px.wipeE_nil, Px.kG, Px.wipeE_cons, List.nil_append, List.cons_append, List.length_nil, List.length_cons]))
local macro_rules | `(tactic| walk_at "U28l") => `(tactic| (first | omega | decide | (exact ⟨by decide, by omega⟩) | (simp only [List.length_append, List.length_cons, List.length_nil, List.length_map, List.length_take, List.length_drop, List.length_replicate]; omega)))
local macro_rules | `(tactic| walk_at "U28h") => `(tactic| (first | assumption | exact Px.St.g0 (by assumption) | exact Px.St.g1 (by assumption) | exact Px.St.g2 (by assumption) | exact Px.St.g3 (by assumption) | exact Px.St.g4 (by assumption) | exact Px.St.g5 (by assumption) | exact Px.St.g6 (by assumption) | exact Px.St.g7 (by assumption) | exact Px.St.g8 (by assumption) | exact Px.St.g9 (by assumption) | exact Px.St.g10 (by assumption) | exact Px.St.g11 (by assumption) | exact Px.St.g12 (by assumption) | exact Px.St.g13 (by assumption) | exact Px.St.g14 (by assumption)))
local macro_rules | `(tactic| walk_at "U283") => `(tactic| (first
    | (with_reducible refine Px.gd_v0 ?_)
    | (with_reducible refine Px.gd_v1 ?_)
    | (with_reducible refine Px.gd_v2 ?_)
    | (with_reducible refine Px.gd_v3 ?_)
    | (with_reducible refine Px.gd_v4 ?_)
    | (with_reducible refine Px.gd_v5 ?_)
    | (with_reducible refine Px.gd_v6 ?_)
    | (with_reducible refine Px.gd_v7 ?_)
    | (with_reducible refine Px.gd_v8 ?_)
    | (with_reducible refine Px.gd_v9 ?_)
    | (with_reducible refine Px.gd_v10 ?_)
    | (with_reducible refine Px.gd_v11 ?_)
    | (with_reducible refine Px.gd_v12 ?_)
    | (with_reducible refine Px.gd_v13 ?_)
    | (with_reducible refine Px.gd_c ?_)
    | (with_reducible refine Px.gd_bin ?_)
    | (with_reducible refine Px.gd_un ?_)
    | (with_reducible refine Px.gd_chain ?_)
    | (with_reducible refine Px.gd_bOf ?_)
    | (with_reducible refine Px.gd_tAnd ?_)
    | (with_reducible refine Px.gd_tOr ?_)
    | (with_reducible refine Px.gd_tNot ?_)
    | (with_reducible refine Px.gd_tTrue ?_)
    | (with_reducible refine Px.gd_eAnd ?_)
    | (with_reducible refine Px.gd_eOr ?_)
    | (with_reducible refine Px.gd_eNot ?_)
    | (with_reducible refine Px.gd_eIf ?_)
    | (with_reducible refine Px.gd_aNil ?_)
    | (with_reducible refine Px.gd_aCons ?_)
    | (with_reducible refine Px.gd_eTup ?_)
    | (with_reducible refine Px.gd_eLst ?_)
    | (with_reducible refine Px.gd_eCall ?_)
    | (with_reducible refine Px.gd_eCallD ?_)
    | (with_reducible refine Px.gd_eCallK ?_)
    | (with_reducible refine Px.gd_oNone ?_)
    | (with_reducible refine Px.gd_oSome ?_)
    | (with_reducible refine Px.gd_eCut ?_)
    | (with_reducible refine Px.gd_eCutK ?_)
    | (with_reducible refine Px.gd_eM0 ?_)
    | (with_reducible refine Px.gd_eM1 ?_)
    | (with_reducible refine Px.gd_jNil ?_)
    | (with_reducible refine Px.gd_jCons ?_)
    | (with_reducible refine Px.gd_eJoined ?_)
    | (with_reducible refine Px.gd_fmtS ?_)
    | (with_reducible refine Px.gd_iVal ?_)
    | (with_reducible refine Px.gd_iRange1 ?_)
    | (with_reducible refine Px.gd_iRange2 ?_)
    | (with_reducible refine Px.gd_iEnum ?_)
    | (with_reducible refine Px.gd_eDnew ?_)
    | (with_reducible refine Px.gd_eComp ?_)
    | (with_reducible refine Px.gd_eComp2 ?_)
    | (with_reducible refine Px.ob_bl ?_)
    | (with_reducible refine Px.oi_int ?_)
    | (with_reducible refine Px.os_str ?_)
    | (with_reducible refine Px.gd_addI ?_)
    | (with_reducible refine Px.gd_subI ?_)
    | (with_reducible refine Px.gd_negI ?_)
    | (with_reducible refine Px.gd_ltI ?_)
    | (with_reducible refine Px.gd_leI ?_)
    | (with_reducible refine Px.gd_gtI ?_)
    | (with_reducible refine Px.gd_geI ?_)
    | (with_reducible refine Px.gd_eqI ?_)
    | (with_reducible refine Px.gd_neI ?_)
    | (with_reducible refine Px.gd_eqS ?_)
    | (with_reducible refine Px.gd_neS ?_)
    | (with_reducible refine Px.gd_isN ?_)
    | (with_reducible refine Px.gd_isNotB ?_)
    | (with_reducible refine Px.gd_isB ?_)
    | (with_reducible refine Px.gd_inC ?_)
    | (with_reducible refine Px.gd_ninC ?_)
    | (with_reducible refine Px.gd_cutT ?_)
    | (with_reducible refine Px.gd_lenT ?_)
    | (with_reducible refine Px.gd_lenF ?_)
    | (with_reducible refine Px.gd_max ?_)
    | (with_reducible refine Px.gd_min ?_)
    | (with_reducible refine Px.gd_abs ?_)
    | (with_reducible refine Px.gd_intI ?_)
    | (with_reducible refine Px.gd_intB ?_)
    | (with_reducible refine Px.gd_find ?_)
    | (with_reducible refine Px.gd_tupT ?_)
    | (with_reducible refine Px.gd_ivS ?_)
    | (with_reducible refine Px.gd_ivT ?_)
    | (with_reducible refine Px.gd_ivF ?_)
    | (with_reducible refine Px.gs_cons ?_)
    | (with_reducible refine Px.gs_nil ?_)
    | (with_reducible refine Px.gs_set ?_)
    | (with_reducible refine Px.gs_expr ?_)
    | (with_reducible refine Px.gs_ret ?_)
    | (with_reducible refine Px.gs_retN ?_)
    | (with_reducible refine Px.gs_if ?_)
    | (with_reducible refine Px.gs_brk ?_)
    | (with_reducible refine Px.gs_cnt ?_)
    | (with_reducible refine Px.gs_asg ?_)
    | (with_reducible refine Px.gs_fgName ?_)
    | (with_reducible refine Px.gs_fgsNil ?_)
    | (with_reducible refine Px.gs_fgsCons ?_)
    | (with_reducible refine Px.gs_fgSub ?_)
    | (with_reducible refine Px.gs_for ?_)
    | (with_reducible refine Px.gd_ok ?_)
    | (with_reducible refine Px.gd_addS ?_ ?_; (· walk_at "U28l"))
    | (with_reducible refine Px.gd_addT ?_ ?_; (· walk_at "U28l"))
    | (with_reducible refine Px.gd_mulI ?_ ?_; (· walk_at "U28l"))
    | (with_reducible refine Px.gd_fdivI ?_ ?_; (· walk_at "U28l"))
    | (with_reducible refine Px.gd_modI ?_ ?_; (· walk_at "U28l"))
    | (with_reducible refine Px.gd_cutS ?_ ?_; (· walk_at "U28l"))
    | (with_reducible refine Px.gd_lenS ?_ ?_; (· walk_at "U28l"))
    | (with_reducible refine Px.gd_strI ?_ ?_; (· walk_at "U28l"))
    | (with_reducible refine Px.gd_divmod ?_ ?_; (· walk_at "U28l"))
    | (with_reducible refine Px.gd_mkTup ?_ ?_; (· walk_at "U28l"))
    | (with_reducible refine Px.gd_mkLst ?_ ?_; (· walk_at "U28l"))
    | (with_reducible refine Px.gd_rg1 ?_ ?_; (· walk_at "U28l"))
    | (with_reducible refine Px.gd_rg2 ?_ ?_; (· walk_at "U28l"))
    | (with_reducible refine Px.gd_split ?_ ?_; (· walk_at "U28l"))
    | (with_reducible refine Px.gd_tupS ?_ ?_; (· walk_at "U28l"))
    | (with_reducible refine Px.gs_fgTup ?_ ?_; (· walk_at "U28l"))
    | (with_reducible refine Px.gd_cutKS ?_ ?_; (· walk_at "U28l"))
    | (with_reducible refine Px.gs_fgTup (by with_unfolding_all rfl) ?_)
    | (with_reducible refine Px.gd_isi (by with_unfolding_all rfl) ?_)
    | (with_reducible refine Px.gd_inT (by with_unfolding_all rfl) ?_)
    | (with_reducible refine Px.gd_inTI (by with_unfolding_all rfl) ?_)
    | (with_reducible refine Px.gd_ninT (by with_unfolding_all rfl) ?_)
    | (with_reducible refine Px.gd_ninTI (by with_unfolding_all rfl) ?_)))
local macro_rules | `(tactic| walk_at "U284") => `(tactic| (first
    | (with_reducible refine Px.gd_ixS Px.atI0 ?_ ?_; (· walk_at "U28l"))
    | (with_reducible refine Px.gd_ixL (by walk_at "U28h") Px.atI0 ?_)
    | (with_reducible refine Px.gd_ixT Px.atI0 ?_)
    | (with_reducible refine Px.gd_newS (by assumption) fun n h' hn S => ?_; dsimp only [List.nil_append, List.cons_append] at S)
    | (with_reducible refine G.gd_pick (by assumption) (by assumption) ?_ ?_ ?_ fun v h' bg' v0 v1 hb S => ?_; (· omega); (· walk_at "U28l"); (· walk_at "U28l"))
    | (with_reducible refine Px.gd_ixL (by walk_at "U28h") ?_ ?_; (· rfl))
    | (with_reducible refine Px.gd_ixSA ?_ ?_ ?_ fun c hc => ?_; (· omega); (· walk_at "U28l"); (· walk_at "U28l"))
    | (with_reducible refine Px.gd_addL (by walk_at "U28h") (by walk_at "U28h") ?_ ?_; (· walk_at "U28l"))
    | (with_reducible refine Px.gd_mulL (by walk_at "U28h") ?_ ?_ ?_ ?_; (· walk_at "U28l"); (· omega); (· omega))
    | (with_reducible refine Px.gd_neNilE (by walk_at "U28h") (by walk_at "U28h") ?_)
    | (with_reducible refine Px.gd_eqNilE (by walk_at "U28h") (by walk_at "U28h") ?_)
    | (with_reducible refine Px.gd_lenL (by walk_at "U28h") ?_)
    | (with_reducible refine Px.gd_ivO (by walk_at "U28h") ?_)
    | (with_reducible refine Px.gd_eqNilC (by walk_at "U28h") (by walk_at "U28h") ?_)
    | (with_reducible refine Px.gd_eqNilS (by walk_at "U28h") (by walk_at "U28h") ?_)
    | (with_reducible refine Px.gd_appS0 (by assumption) ?_ fun h' S => ?_; (· walk_at "U28l"))
    | (with_reducible refine Px.gd_appS1 (by assumption) ?_ fun h' S => ?_; (· walk_at "U28l"))
    | (with_reducible refine Px.gd_appS2 (by assumption) ?_ fun h' S => ?_; (· walk_at "U28l"))
    | (with_reducible refine Px.gd_appS3 (by assumption) ?_ fun h' S => ?_; (· walk_at "U28l"))
    | (rw [if_pos rfl])
    | (rw [if_neg Bool.false_ne_true])
    | (rw [if_pos (by simp only [decide_eq_true_eq, Bool.not_eq_true', decide_eq_false_iff_not]; omega)])
    | (rw [if_neg (by simp only [decide_eq_true_eq, Bool.not_eq_true', decide_eq_false_iff_not]; omega)])
    | (rw [if_pos (by decide)])
    | (rw [if_neg (by decide)])))
local macro_rules | `(tactic| walk_at "U285") => `(tactic| (first
    | (with_reducible refine Px.gd_v0 ?_)
    | (with_reducible refine Px.gd_v1 ?_)
    | (with_reducible refine Px.gd_v2 ?_)
    | (with_reducible refine Px.gd_v3 ?_)
    | (with_reducible refine Px.gd_v4 ?_)
    | (with_reducible refine Px.gd_v5 ?_)
    | (with_reducible refine Px.gd_v6 ?_)
    | (with_reducible refine Px.gd_v7 ?_)
    | (with_reducible refine Px.gd_v8 ?_)
    | (with_reducible refine Px.gd_v9 ?_)
    | (with_reducible refine Px.gd_v10 ?_)
    | (with_reducible refine Px.gd_v11 ?_)
    | (with_reducible refine Px.gd_v12 ?_)
    | (with_reducible refine Px.gd_v13 ?_)
    | (with_reducible refine Px.gd_c ?_)
    | (with_reducible refine Px.gd_bin ?_)
    | (with_reducible refine Px.gd_un ?_)
    | (with_reducible refine Px.gd_chain ?_)
    | (with_reducible refine Px.gd_bOf ?_)
    | (with_reducible refine Px.gd_tAnd ?_)
    | (with_reducible refine Px.gd_tOr ?_)
    | (with_reducible refine Px.gd_tNot ?_)
    | (with_reducible refine Px.gd_tTrue ?_)
    | (with_reducible refine Px.gd_eAnd ?_)
    | (with_reducible refine Px.gd_eOr ?_)
    | (with_reducible refine Px.gd_eNot ?_)
    | (with_reducible refine Px.gd_eIf ?_)
    | (with_reducible refine Px.gd_aNil ?_)
    | (with_reducible refine Px.gd_aCons ?_)
    | (with_reducible refine Px.gd_eTup ?_)
    | (with_reducible refine Px.gd_eLst ?_)
    | (with_reducible refine Px.gd_eCall ?_)
    | (with_reducible refine Px.gd_eCallD ?_)
    | (with_reducible refine Px.gd_eCallK ?_)
    | (with_reducible refine Px.gd_oNone ?_)
    | (with_reducible refine Px.gd_oSome ?_)
    | (with_reducible refine Px.gd_eCut ?_)
    | (with_reducible refine Px.gd_eCutK ?_)
    | (with_reducible refine Px.gd_eM0 ?_)
    | (with_reducible refine Px.gd_eM1 ?_)
    | (with_reducible refine Px.gd_jNil ?_)
    | (with_reducible refine Px.gd_jCons ?_)
    | (with_reducible refine Px.gd_eJoined ?_)
    | (with_reducible refine Px.gd_fmtS ?_)
    | (with_reducible refine Px.gd_iVal ?_)
    | (with_reducible refine Px.gd_iRange1 ?_)
    | (with_reducible refine Px.gd_iRange2 ?_)
    | (with_reducible refine Px.gd_iEnum ?_)
    | (with_reducible refine Px.gd_eDnew ?_)
    | (with_reducible refine Px.gd_eComp ?_)
    | (with_reducible refine Px.gd_eComp2 ?_)
    | (with_reducible refine Px.ob_bl ?_)
    | (with_reducible refine Px.oi_int ?_)
    | (with_reducible refine Px.os_str ?_)
    | (with_reducible refine Px.gd_addI ?_)
    | (with_reducible refine Px.gd_subI ?_)
    | (with_reducible refine Px.gd_negI ?_)
    | (with_reducible refine Px.gd_ltI ?_)
    | (with_reducible refine Px.gd_leI ?_)
    | (with_reducible refine Px.gd_gtI ?_)
    | (with_reducible refine Px.gd_geI ?_)
    | (with_reducible refine Px.gd_eqI ?_)
    | (with_reducible refine Px.gd_neI ?_)
    | (with_reducible refine Px.gd_eqS ?_)
    | (with_reducible refine Px.gd_neS ?_)
    | (with_reducible refine Px.gd_isN ?_)
    | (with_reducible refine Px.gd_isNotB ?_)
    | (with_reducible refine Px.gd_isB ?_)
    | (with_reducible refine Px.gd_inC ?_)
    | (with_reducible refine Px.gd_ninC ?_)
    | (with_reducible refine Px.gd_cutT ?_)
    | (with_reducible refine Px.gd_lenT ?_)
    | (with_reducible refine Px.gd_lenF ?_)
    | (with_reducible refine Px.gd_max ?_)
    | (with_reducible refine Px.gd_min ?_)
    | (with_reducible refine Px.gd_abs ?_)
    | (with_reducible refine Px.gd_intI ?_)
    | (with_reducible refine Px.gd_intB ?_)
    | (with_reducible refine Px.gd_find ?_)
    | (with_reducible refine Px.gd_tupT ?_)
    | (with_reducible refine Px.gd_ivS ?_)
    | (with_reducible refine Px.gd_ivT ?_)
    | (with_reducible refine Px.gd_ivF ?_)
    | (with_reducible refine Px.gs_cons ?_)
    | (with_reducible refine Px.gs_nil ?_)
    | (with_reducible refine Px.gs_set ?_)
    | (with_reducible refine Px.gs_expr ?_)
    | (with_reducible refine Px.gs_ret ?_)
    | (with_reducible refine Px.gs_retN ?_)
    | (with_reducible refine Px.gs_if ?_)
    | (with_reducible refine Px.gs_brk ?_)
    | (with_reducible refine Px.gs_cnt ?_)
    | (with_reducible refine Px.gs_asg ?_)
    | (with_reducible refine Px.gs_fgName ?_)
    | (with_reducible refine Px.gs_fgsNil ?_)
    | (with_reducible refine Px.gs_fgsCons ?_)
    | (with_reducible refine Px.gs_fgSub ?_)
    | (with_reducible refine Px.gs_for ?_)
    | (with_reducible refine Px.gd_ok ?_)
    | (with_reducible refine Px.gd_addS ?_ ?_; (· walk_at "U28l"))
    | (with_reducible refine Px.gd_addT ?_ ?_; (· walk_at "U28l"))
    | (with_reducible refine Px.gd_mulI ?_ ?_; (· walk_at "U28l"))
    | (with_reducible refine Px.gd_fdivI ?_ ?_; (· walk_at "U28l"))
    | (with_reducible refine Px.gd_modI ?_ ?_; (· walk_at "U28l"))
    | (with_reducible refine Px.gd_powI ?_ ?_; (· walk_at "U28l"))
    | (with_reducible refine Px.gd_cutS ?_ ?_; (· walk_at "U28l"))
    | (with_reducible refine Px.gd_lenS ?_ ?_; (· walk_at "U28l"))
    | (with_reducible refine Px.gd_strI ?_ ?_; (· walk_at "U28l"))
    | (with_reducible refine Px.gd_divmod ?_ ?_; (· walk_at "U28l"))
    | (with_reducible refine Px.gd_mkTup ?_ ?_; (· walk_at "U28l"))
    | (with_reducible refine Px.gd_mkLst ?_ ?_; (· walk_at "U28l"))
    | (with_reducible refine Px.gd_rg1 ?_ ?_; (· walk_at "U28l"))
    | (with_reducible refine Px.gd_rg2 ?_ ?_; (· walk_at "U28l"))
    | (with_reducible refine Px.gd_split ?_ ?_; (· walk_at "U28l"))
    | (with_reducible refine Px.gd_tupS ?_ ?_; (· walk_at "U28l"))
    | (with_reducible refine Px.gs_fgTup ?_ ?_; (· walk_at "U28l"))
    | (with_reducible refine Px.gd_cutKS ?_ ?_; (· walk_at "U28l"))
    | (with_reducible refine Px.gs_fgTup (by with_unfolding_all rfl) ?_)
    | (with_reducible refine Px.gd_isi (by with_unfolding_all rfl) ?_)
    | (with_reducible refine Px.gd_inT (by with_unfolding_all rfl) ?_)
    | (with_reducible refine Px.gd_inTI (by with_unfolding_all rfl) ?_)
    | (with_reducible refine Px.gd_ninT (by with_unfolding_all rfl) ?_)
    | (with_reducible refine Px.gd_ninTI (by with_unfolding_all rfl) ?_)))
local macro_rules | `(tactic| walk_at "U286") => `(tactic| (first
    | (with_reducible refine Px.gd_ixS Px.atI0 ?_ ?_; (· walk_at "U28l"))
    | (with_reducible refine Px.gd_ixL (by walk_at "U28h") Px.atI0 ?_)
    | (with_reducible refine Px.gd_ixT Px.atI0 ?_)
    | (with_reducible refine Px.gd_newS (by assumption) fun n h' hn S => ?_; dsimp only [List.nil_append, List.cons_append] at S)
    | (with_reducible refine G.gd_pick (by assumption) (by assumption) ?_ ?_ ?_ fun v h' bg' v0 v1 hb S => ?_; (· omega); (· walk_at "U28l"); (· walk_at "U28l"))
    | (with_reducible refine Px.gd_ixL (by walk_at "U28h") ?_ ?_; (· rfl))
    | (with_reducible refine Px.gd_ixSA ?_ ?_ ?_ fun c hc => ?_; (· omega); (· walk_at "U28l"); (· walk_at "U28l"))
    | (with_reducible refine Px.gd_ixLA (by walk_at "U28h") ?_ ?_ fun x hx => ?_; (· omega); (· walk_at "U28l"))
    | (with_reducible refine Px.gd_addL (by walk_at "U28h") (by walk_at "U28h") ?_ ?_; (· walk_at "U28l"))
    | (with_reducible refine Px.gd_mulL (by walk_at "U28h") ?_ ?_ ?_ ?_; (· walk_at "U28l"); (· omega); (· omega))
    | (with_reducible refine Px.gd_neNilE (by walk_at "U28h") (by walk_at "U28h") ?_)
    | (with_reducible refine Px.gd_eqNilE (by walk_at "U28h") (by walk_at "U28h") ?_)
    | (with_reducible refine Px.gd_lenL (by walk_at "U28h") ?_)
    | (with_reducible refine Px.gd_ivO (by walk_at "U28h") ?_)
    | (with_reducible refine Px.gd_eqNilC (by walk_at "U28h") (by walk_at "U28h") ?_)
    | (with_reducible refine Px.gd_eqNilS (by walk_at "U28h") (by walk_at "U28h") ?_)
    | (with_reducible refine Px.gd_appS0 (by assumption) ?_ fun h' S => ?_; (· walk_at "U28l"))
    | (with_reducible refine Px.gd_appS1 (by assumption) ?_ fun h' S => ?_; (· walk_at "U28l"))
    | (with_reducible refine Px.gd_appS2 (by assumption) ?_ fun h' S => ?_; (· walk_at "U28l"))
    | (with_reducible refine Px.gd_appS3 (by assumption) ?_ fun h' S => ?_; (· walk_at "U28l"))
    | (rw [if_pos rfl])
    | (rw [if_neg Bool.false_ne_true])
    | (rw [if_pos (by simp only [decide_eq_true_eq, Bool.not_eq_true', decide_eq_false_iff_not]; omega)])
    | (rw [if_neg (by simp only [decide_eq_true_eq, Bool.not_eq_true', decide_eq_false_iff_not]; omega)])
    | (rw [if_pos (by decide)])
    | (rw [if_neg (by decide)])))
local macro_rules | `(tactic| walk_at "U287") => `(tactic| (first
    | (with_reducible refine Px.gd_v0 ?_)
    | (with_reducible refine Px.gd_v1 ?_)
    | (with_reducible refine Px.gd_v2 ?_)
    | (with_reducible refine Px.gd_v3 ?_)
    | (with_reducible refine Px.gd_v4 ?_)
    | (with_reducible refine Px.gd_v5 ?_)
    | (with_reducible refine Px.gd_v6 ?_)
    | (with_reducible refine Px.gd_v7 ?_)
    | (with_reducible refine Px.gd_v8 ?_)
    | (with_reducible refine Px.gd_v9 ?_)
    | (with_reducible refine Px.gd_v10 ?_)
    | (with_reducible refine Px.gd_v11 ?_)
    | (with_reducible refine Px.gd_v12 ?_)
    | (with_reducible refine Px.gd_v13 ?_)
    | (with_reducible refine Px.gd_c ?_)
    | (with_reducible refine Px.gd_bin ?_)
    | (with_reducible refine Px.gd_un ?_)
    | (with_reducible refine Px.gd_chain ?_)
    | (with_reducible refine Px.gd_bOf ?_)
    | (with_reducible refine Px.gd_tAnd ?_)
    | (with_reducible refine Px.gd_tOr ?_)
    | (with_reducible refine Px.gd_tNot ?_)
    | (with_reducible refine Px.gd_tTrue ?_)
    | (with_reducible refine Px.gd_eAnd ?_)
    | (with_reducible refine Px.gd_eOr ?_)
    | (with_reducible refine Px.gd_eNot ?_)
    | (with_reducible refine Px.gd_eIf ?_)
    | (with_reducible refine Px.gd_aNil ?_)
    | (with_reducible refine Px.gd_aCons ?_)
    | (with_reducible refine Px.gd_eTup ?_)
    | (with_reducible refine Px.gd_eLst ?_)
    | (with_reducible refine Px.gd_eCall ?_)
    | (with_reducible refine Px.gd_eCallD ?_)
    | (with_reducible refine Px.gd_eCallK ?_)
    | (with_reducible refine Px.gd_oNone ?_)
    | (with_reducible refine Px.gd_oSome ?_)
    | (with_reducible refine Px.gd_eCut ?_)
    | (with_reducible refine Px.gd_eCutK ?_)
    | (with_reducible refine Px.gd_eM0 ?_)
    | (with_reducible refine Px.gd_eM1 ?_)
    | (with_reducible refine Px.gd_jNil ?_)
    | (with_reducible refine Px.gd_jCons ?_)
    | (with_reducible refine Px.gd_eJoined ?_)
    | (with_reducible refine Px.gd_fmtS ?_)
    | (with_reducible refine Px.gd_iVal ?_)
    | (with_reducible refine Px.gd_iRange1 ?_)
    | (with_reducible refine Px.gd_iRange2 ?_)
    | (with_reducible refine Px.gd_iEnum ?_)
    | (with_reducible refine Px.gd_eDnew ?_)
    | (with_reducible refine Px.gd_eComp ?_)
    | (with_reducible refine Px.gd_eComp2 ?_)
    | (with_reducible refine Px.ob_bl ?_)
    | (with_reducible refine Px.oi_int ?_)
    | (with_reducible refine Px.os_str ?_)
    | (with_reducible refine Px.gd_addI ?_)
    | (with_reducible refine Px.gd_subI ?_)
    | (with_reducible refine Px.gd_negI ?_)
    | (with_reducible refine Px.gd_ltI ?_)
    | (with_reducible refine Px.gd_leI ?_)
    | (with_reducible refine Px.gd_gtI ?_)
    | (with_reducible refine Px.gd_geI ?_)
    | (with_reducible refine Px.gd_eqI ?_)
    | (with_reducible refine Px.gd_neI ?_)
    | (with_reducible refine Px.gd_eqS ?_)
    | (with_reducible refine Px.gd_neS ?_)
    | (with_reducible refine Px.gd_isN ?_)
    | (with_reducible refine Px.gd_isNotB ?_)
    | (with_reducible refine Px.gd_isB ?_)
    | (with_reducible refine Px.gd_inC ?_)
    | (with_reducible refine Px.gd_ninC ?_)
    | (with_reducible refine Px.gd_cutT ?_)
    | (with_reducible refine Px.gd_lenT ?_)
    | (with_reducible refine Px.gd_lenF ?_)
    | (with_reducible refine Px.gd_max ?_)
    | (with_reducible refine Px.gd_min ?_)
    | (with_reducible refine Px.gd_abs ?_)
    | (with_reducible refine Px.gd_intI ?_)
    | (with_reducible refine Px.gd_intB ?_)
    | (with_reducible refine Px.gd_find ?_)
    | (with_reducible refine Px.gd_tupT ?_)
    | (with_reducible refine Px.gd_ivS ?_)
    | (with_reducible refine Px.gd_ivT ?_)
    | (with_reducible refine Px.gd_ivF ?_)
    | (with_reducible refine Px.gd_new0 ?_)
    | (with_reducible refine Px.gs_cons ?_)
    | (with_reducible refine Px.gs_nil ?_)
    | (with_reducible refine Px.gs_set ?_)
    | (with_reducible refine Px.gs_expr ?_)
    | (with_reducible refine Px.gs_ret ?_)
    | (with_reducible refine Px.gs_retN ?_)
    | (with_reducible refine Px.gs_if ?_)
    | (with_reducible refine Px.gs_brk ?_)
    | (with_reducible refine Px.gs_cnt ?_)
    | (with_reducible refine Px.gs_asg ?_)
    | (with_reducible refine Px.gs_fgName ?_)
    | (with_reducible refine Px.gs_fgsNil ?_)
    | (with_reducible refine Px.gs_fgsCons ?_)
    | (with_reducible refine Px.gs_fgSub ?_)
    | (with_reducible refine Px.gs_for ?_)
    | (with_reducible refine Px.gd_ok ?_)
    | (with_reducible refine Px.gd_addS ?_ ?_; (· walk_at "U28l"))
    | (with_reducible refine Px.gd_addT ?_ ?_; (· walk_at "U28l"))
    | (with_reducible refine Px.gd_mulI ?_ ?_; (· walk_at "U28l"))
    | (with_reducible refine Px.gd_fdivI ?_ ?_; (· walk_at "U28l"))
    | (with_reducible refine Px.gd_modI ?_ ?_; (· walk_at "U28l"))
    | (with_reducible refine Px.gd_powI ?_ ?_; (· walk_at "U28l"))
    | (with_reducible refine Px.gd_cutS ?_ ?_; (· walk_at "U28l"))
    | (with_reducible refine Px.gd_lenS ?_ ?_; (· walk_at "U28l"))
    | (with_reducible refine Px.gd_strI ?_ ?_; (· walk_at "U28l"))
    | (with_reducible refine Px.gd_divmod ?_ ?_; (· walk_at "U28l"))
    | (with_reducible refine Px.gd_mkTup ?_ ?_; (· walk_at "U28l"))
    | (with_reducible refine Px.gd_mkLst ?_ ?_; (· walk_at "U28l"))
    | (with_reducible refine Px.gd_rg1 ?_ ?_; (· walk_at "U28l"))
    | (with_reducible refine Px.gd_rg2 ?_ ?_; (· walk_at "U28l"))
    | (with_reducible refine Px.gd_split ?_ ?_; (· walk_at "U28l"))
    | (with_reducible refine Px.gd_tupS ?_ ?_; (· walk_at "U28l"))
    | (with_reducible refine Px.gs_fgTup ?_ ?_; (· walk_at "U28l"))
    | (with_reducible refine Px.gd_cutKS ?_ ?_; (· walk_at "U28l"))
    | (with_reducible refine Px.gs_fgTup (by with_unfolding_all rfl) ?_)
    | (with_reducible refine Px.gd_isi (by with_unfolding_all rfl) ?_)
    | (with_reducible refine Px.gd_inT (by with_unfolding_all rfl) ?_)
    | (with_reducible refine Px.gd_inTI (by with_unfolding_all rfl) ?_)
    | (with_reducible refine Px.gd_ninT (by with_unfolding_all rfl) ?_)
    | (with_reducible refine Px.gd_ninTI (by with_unfolding_all rfl) ?_)))
local macro_rules | `(tactic| walk_at "U288") => `(tactic| (first
    | (with_reducible refine Px.gd_ixS Px.atI0 ?_ ?_; (· walk_at "U28l"))
    | (with_reducible refine Px.gd_ixLg ?_; refine ⟨_, _, rfl, Px.atI0, ?_⟩)
    | (with_reducible refine Px.gd_ixT Px.atI0 ?_)
    | (with_reducible refine Px.gd_ivOg ?_; refine ⟨_, rfl, ?_⟩)
    | (with_reducible refine Px.gd_ivAg ?_; refine ⟨_, _, rfl, rfl, ?_, ?_, ?_⟩; (· simp; done); (· simp; done))
    | (with_reducible refine Px.gd_eqNilEg ?_; refine ⟨rfl, rfl, ?_⟩)
    | (with_reducible refine Px.gd_eqNilCg ?_; refine ⟨_, rfl, rfl, ?_⟩)
    | (with_reducible refine Px.gd_eqNilSg ?_; refine ⟨_, rfl, rfl, ?_⟩)
    | (with_reducible refine Px.gd_ixLg ?_; refine ⟨_, _, rfl, rfl, ?_⟩)
    | (with_reducible refine Px.gd_ixTg ?_; refine ⟨_, rfl, ?_⟩)
    | (with_reducible refine Px.gd_lenLg ?_; refine ⟨_, rfl, ?_⟩)
    | (with_reducible refine Px.gd_addLg ?_; refine ⟨_, _, rfl, rfl, ?_, ?_⟩; (· walk_at "U28l"))
    | (with_reducible refine Px.gd_ixSA ?_ ?_ ?_ fun c hc => ?_; (· omega); (· walk_at "U28l"); (· walk_at "U28l"))
    | (rw [if_pos rfl])
    | (rw [if_neg Bool.false_ne_true])
    | (rw [if_pos (by simp only [decide_eq_true_eq, Bool.not_eq_true', decide_eq_false_iff_not]; omega)])
    | (rw [if_neg (by simp only [decide_eq_true_eq, Bool.not_eq_true', decide_eq_false_iff_not]; omega)])
    | (rw [if_pos (by decide)])
    | (rw [if_neg (by decide)])))
set_option hygiene true
namespace G
open Px
theorem number_gen : GenU f__law_number [] 20 (fun d => ∃ i, d = .int i ∧ -1000000000 ≤ i ∧ i ≤ 1000000000) := by
  refine gen_ofU (by rfl) fun h b bg k S hb hk => ?_
  unfold b__law_number
  simp only [startE, List.map_cons, List.map_nil, List.length_cons, List.length_nil, Nat.reduceAdd, Nat.reduceSub, List.replicate_succ, List.replicate_zero, List.cons_append, List.nil_append]
  walk_at "U28n"
  repeat ((first | walk_at "U283" | (with_reducible refine gd_pow4 ?_) | (with_reducible refine gd_pow5 ?_) | (with_reducible refine gd_pow6 ?_) | (with_reducible refine gd_pow9 ?_) | (with_reducible refine gd_ixLI 0 1000000000 (by walk_at "U28h") ?_ ?_ ?_ fun j j0 j1 => ?_; (· omega); (· walk_at "U28l"); (· intro x hx; simp only [List.mem_cons, List.not_mem_nil, or_false] at hx; rcases hx with rfl | rfl | rfl | rfl | rfl <;> exact ⟨_, rfl, by omega, by omega⟩)) | walk_at "U284"); walk_at "U28n")
  refine gd_ixLA (by walk_at "U28h") (by omega) (by simp only [List.length_cons, List.length_nil]; omega) fun x hx => ?_
  simp only [List.mem_cons, List.not_mem_nil, or_false] at hx
  rcases hx with rfl | rfl
  · walk_at "U28n"
    repeat ((first | walk_at "U285" | walk_at "U286"); walk_at "U28n")
    exact ⟨by simp, ⟨_, rfl, by omega, by omega⟩, _, _, S, hb.mono (by omega)⟩
  · walk_at "U28n"
    repeat ((first | walk_at "U285" | walk_at "U286"); walk_at "U28n")
    exact ⟨by simp, ⟨_, rfl, by omega, by omega⟩, _, _, S, hb.mono (by omega)⟩
theorem gd_number {E : String → Option D → Hy → Prop} {h h0 : Hy} {Q : D × Hy → Prop} {b k : Nat} {bg : Ob} {L : List (Nat × Ob)} (S : St h0 b h ((b, bg) :: L)) (hb : Urn k bg) (hk : k + 20 < 1000000000000000)
    (q : ∀ i h' bg', -1000000000 ≤ i → i ≤ 1000000000 → Urn (k + 20) bg' → St h0 b h' ((b, bg') :: L) → Q (.int i, h')) : Good (f__law_number [.ref b] h) Q E :=
  gd_genU number_gen S hb hk fun d h' bg' p _ hb S => by
    obtain ⟨i, rfl, i0, i1⟩ := p
    exact q i h' bg' i0 i1 hb S
theorem name_gen2 (k : Kd) : GenU f__law_name [.str k.tx] 200 (fun d => ∃ s : Tx, d = .str s ∧ NmS k s) := by
  refine gen_ofU (by rfl) fun h b bg kk S hb hk => ?_
  unfold b__law_name
  simp only [startE, List.map_cons, List.map_nil, List.length_cons, List.length_nil, Nat.reduceAdd, Nat.reduceSub, List.replicate_succ, List.replicate_zero, List.cons_append, List.nil_append]
  cases k with
  | l =>
    simp only [Kd.tx]
    walk_at "U28n"
    repeat ((first | walk_at "U285" | walk_at "U286"); walk_at "U28n")
    refine ⟨by rw [rangeD_length]; omega, ?_⟩
    refine gd_cGenU (cst := 20) (nl := (1 + v).toNat) (fun d => ∃ s : Tx, d = .str s ∧ isW s) (by assumption) (by assumption) _ (rangeD_length _ _) (fun x hx h bg k1 hk1 S hb => ?_) fun ys h' bg' hl hp S hb => ?_
    · walk_at "U28n"
      repeat ((first | walk_at "U285" | (with_reducible refine gd_word (by assumption) (by assumption) ?_ fun s h' bg' w w1 w2 hb S => ?_; (· omega)) | walk_at "U286"); walk_at "U28n")
      exact ⟨⟨_, rfl, w⟩, _, [], S, hb⟩
    · obtain ⟨ss, rfl, hs, hl2⟩ := strs_of hp
      cases ss with
      | nil => simp only [List.length_nil] at hl2; omega
      | cons a ss =>
        have ha := hs a (by simp)
        have ha2 := ha.2.1
        rw [List.map_cons]
        walk_at "U28n"
        repeat ((first | walk_at "U285" | (with_reducible refine gd_word (by assumption) (by assumption) ?_ fun s h' bg' w w1 w2 hb S => ?_; (· omega)) | walk_at "U284"); walk_at "U28n")
        exact ⟨by simp, ⟨_, rfl, a, s, ha, w, by rw [List.append_assoc]; rfl⟩, _, _, S, hb.mono (by omega)⟩
  | c =>
    simp only [Kd.tx]
    walk_at "U28n"
    repeat ((first | walk_at "U285" | walk_at "U286"); walk_at "U28n")
    refine ⟨by rw [rangeD_length]; omega, ?_⟩
    refine gd_cGenU (cst := 1) (nl := (3 + v).toNat) (fun d => ∃ s : Tx, d = .str s ∧ s.length = 1 ∧ ∀ c ∈ s, c ∈ FIGS) (by assumption) (by assumption) _ (rangeD_length _ _) (fun x hx h bg k1 hk1 S hb => ?_) fun ys h' bg' hl hp S hb => ?_
    · walk_at "U28n"
      repeat ((first | walk_at "U285" | walk_at "U286"); walk_at "U28n")
      refine ⟨⟨_, rfl, ?_, fun c hc => num_dig (by assumption) hc⟩, _, [], S, hb⟩
      have a := num_len (k := 1) (i := v) (by assumption) (by omega) (by omega)
      have b := num_pos (i := v) (by assumption)
      omega
    · obtain ⟨ss, rfl, hs, hl2⟩ := strs_of hp
      have sm := sum_one hs
      have jl : (joinT [] ss).length = ss.length := by rw [joinT_nil_len, sum_one hs]
      walk_at "U28n"
      repeat ((first | walk_at "U285" | (with_reducible refine gd_joinL (ts := ss) (by walk_at "U28h") rfl ?_ ?_; (· simp only [List.length_nil]; omega)) | walk_at "U286"); walk_at "U28n")
      exact ⟨by simp, ⟨_, rfl, joinT [] ss, by omega, by omega, mem_str_join fun t ht c hc => (hs t ht).2 c hc, rfl⟩, bg', _, S, hb.mono (by omega)⟩
  | p =>
    simp only [Kd.tx]
    walk_at "U28n"
    repeat ((first | walk_at "U285" | walk_at "U286"); walk_at "U28n")
    refine ⟨by rw [rangeD_length]; omega, ?_⟩
    refine gd_cGenU (cst := 20) (nl := (1 + v).toNat) (fun d => ∃ s : Tx, d = .str s ∧ isW s) (by assumption) (by assumption) _ (rangeD_length _ _) (fun x hx h bg k1 hk1 S hb => ?_) fun ys h' bg' hl hp S hb => ?_
    · walk_at "U28n"
      repeat ((first | walk_at "U285" | (with_reducible refine gd_word (by assumption) (by assumption) ?_ fun s h' bg' w w1 w2 hb S => ?_; (· omega)) | walk_at "U286"); walk_at "U28n")
      exact ⟨⟨_, rfl, w⟩, _, [], S, hb⟩
    · obtain ⟨ss, rfl, hs, hl2⟩ := strs_of hp
      walk_at "U28n"
      repeat ((first | walk_at "U285" | walk_at "U286"); walk_at "U28n")
      refine ⟨by rw [List.length_map]; omega, ?_⟩
      refine gd_cAll D.str ss (fun w => .str ('/' :: w)) (srcOk_some.mpr (by walk_at "U28h")) (fun u hu => ?_) ?_
      · have := (hs u hu).2.1
        walk_at "U28n"
        repeat ((first | walk_at "U287" | walk_at "U288"); walk_at "U28n")
      have e : ss.map (fun w => D.str ('/' :: w)) = (ss.map fun w => '/' :: w).map D.str := by rw [List.map_map]; rfl
      have sl : ((ss.map (fun w => '/' :: w)).map List.length).sum ≤ (ss.map (fun w => '/' :: w)).length * 9 := sum_le fun s hs2 => by
        obtain ⟨w, hw2, rfl⟩ := List.mem_map.mp hs2
        have := (hs w hw2).2.1
        simp only [List.length_cons]; omega
      rw [List.length_map] at sl
      rw [e]
      walk_at "U28n"
      repeat ((first | walk_at "U285" | (with_reducible refine gd_joinL (ts := ss.map (fun w => '/' :: w)) (by walk_at "U28h") rfl ?_ ?_; (· simp only [List.length_nil, List.length_map] at *; omega)) | walk_at "U286"); walk_at "U28n")
      exact ⟨by simp, ⟨_, rfl, ss, by omega, by omega, hs, rfl⟩, bg', _, S, hb.mono (by omega)⟩
  | s =>
    simp only [Kd.tx]
    walk_at "U28n"
    repeat ((first | walk_at "U285" | walk_at "U286"); walk_at "U28n")
    refine ⟨by rw [rangeD_length]; omega, ?_⟩
    refine gd_cGenU (cst := 1) (nl := (2 + v).toNat) (fun d => ∃ c : Char, d = .str [c] ∧ c ∈ TNS) (by assumption) (by assumption) _ (rangeD_length _ _) (fun x hx h bg k1 hk1 S hb => ?_) fun ys h' bg' hl hp S hb => ?_
    · walk_at "U28n"
      repeat ((first | walk_at "U285" | walk_at "U286"); walk_at "U28n")
      exact ⟨⟨_, rfl, hc⟩, _, [], S, hb⟩
    · obtain ⟨cs, rfl, hs⟩ := all_signs ys hp
      rw [List.length_map] at hl
      have sm := sum_signs cs
      walk_at "U28n"
      repeat ((first | walk_at "U285" | (with_reducible refine gd_joinL (ts := cs.map fun c => [c]) (by walk_at "U28h") (by simp) ?_ ?_; (· simp only [List.length_cons, List.length_nil, List.length_map] at *; omega)) | walk_at "U286"); walk_at "U28n")
      exact ⟨by simp, ⟨_, rfl, cs, by omega, by omega, hs.1, rfl⟩, bg', _, S, hb.mono (by omega)⟩
end G
set_option hygiene false
local macro_rules | `(tactic| walk_at "V28n") => `(tactic| (try dsimp only [List.set_cons_zero, List.set_cons_succ, Px.wipeE_cons, Px.wipeE_nil, Px.kG, Px.wipeE_cons, List.nil_append, List.cons_append, List.length_nil, List.length_cons]))
local macro_rules | `(tactic| walk_at "V28l") => `(tactic| (first | omega | decide | (exact ⟨by decide, by omega⟩) | (simp only [List.length_append, List.length_cons, List.length_nil, List.length_map, List.length_take, List.length_drop, List.length_replicate]; omega)))
local macro_rules | `(tactic| walk_at "V28h") => `(tactic| (first | assumption | exact Px.St.g0 (by assumption) | exact Px.St.g1 (by assumption) | exact Px.St.g2 (by assumption) | exact Px.St.g3 (by assumption) | exact Px.St.g4 (by assumption) | exact Px.St.g5 (by assumption) | exact Px.St.g6 (by assumption) | exact Px.St.g7 (by assumption) | exact Px.St.g8 (by assumption) | exact Px.St.g9 (by assumption) | exact Px.St.g10 (by assumption) | exact Px.St.g11 (by assumption) | exact Px.St.g12 (by assumption) | exact Px.St.g13 (by assumption) | exact Px.St.g14 (by assumption)))
local macro_rules | `(tactic| walk_at "V283") => `(tactic| (first
    | (with_reducible refine Px.gd_v0 ?_)
    | (with_reducible refine Px.gd_v1 ?_)
    | (with_reducible refine Px.gd_v2 ?_)
    | (with_reducible refine Px.gd_v3 ?_)
    | (with_reducible refine Px.gd_v4 ?_)
    | (with_reducible refine Px.gd_v5 ?_)
    | (with_reducible refine Px.gd_v6 ?_)
    | (with_reducible refine Px.gd_v7 ?_)
    | (with_reducible refine Px.gd_v8 ?_)
    | (with_reducible refine Px.gd_v9 ?_)
    | (with_reducible refine Px.gd_v10 ?_)
    | (with_reducible refine Px.gd_v11 ?_)
    | (with_reducible refine Px.gd_v12 ?_)
    | (with_reducible refine Px.gd_v13 ?_)
    | (with_reducible refine Px.gd_c ?_)
    | (with_reducible refine Px.gd_bin ?_)
    | (with_reducible refine Px.gd_un ?_)
    | (with_reducible refine Px.gd_chain ?_)
    | (with_reducible refine Px.gd_bOf ?_)
    | (with_reducible refine Px.gd_tAnd ?_)
    | (with_reducible refine Px.gd_tOr ?_)
    | (with_reducible refine Px.gd_tNot ?_)
    | (with_reducible refine Px.gd_tTrue ?_)
    | (with_reducible refine Px.gd_eAnd ?_)
    | (with_reducible refine Px.gd_eOr ?_)
    | (with_reducible refine Px.gd_eNot ?_)
    | (with_reducible refine Px.gd_eIf ?_)
    | (with_reducible refine Px.gd_aNil ?_)
    | (with_reducible refine Px.gd_aCons ?_)
    | (with_reducible refine Px.gd_eTup ?_)
    | (with_reducible refine Px.gd_eLst ?_)
    | (with_reducible refine Px.gd_eCall ?_)
    | (with_reducible refine Px.gd_eCallD ?_)
    | (with_reducible refine Px.gd_eCallK ?_)
    | (with_reducible refine Px.gd_oNone ?_)
    | (with_reducible refine Px.gd_oSome ?_)
    | (with_reducible refine Px.gd_eCut ?_)
    | (with_reducible refine Px.gd_eCutK ?_)
    | (with_reducible refine Px.gd_eM0 ?_)
    | (with_reducible refine Px.gd_eM1 ?_)
    | (with_reducible refine Px.gd_jNil ?_)
    | (with_reducible refine Px.gd_jCons ?_)
    | (with_reducible refine Px.gd_eJoined ?_)
    | (with_reducible refine Px.gd_fmtS ?_)
    | (with_reducible refine Px.gd_iVal ?_)
    | (with_reducible refine Px.gd_iRange1 ?_)
    | (with_reducible refine Px.gd_iRange2 ?_)
    | (with_reducible refine Px.gd_iEnum ?_)
    | (with_reducible refine Px.gd_eDnew ?_)
    | (with_reducible refine Px.gd_eComp ?_)
    | (with_reducible refine Px.gd_eComp2 ?_)
    | (with_reducible refine Px.ob_bl ?_)
    | (with_reducible refine Px.oi_int ?_)
    | (with_reducible refine Px.os_str ?_)
    | (with_reducible refine Px.gd_addI ?_)
    | (with_reducible refine Px.gd_subI ?_)
    | (with_reducible refine Px.gd_negI ?_)
    | (with_reducible refine Px.gd_ltI ?_)
    | (with_reducible refine Px.gd_leI ?_)
    | (with_reducible refine Px.gd_gtI ?_)
    | (with_reducible refine Px.gd_geI ?_)
    | (with_reducible refine Px.gd_eqI ?_)
    | (with_reducible refine Px.gd_neI ?_)
    | (with_reducible refine Px.gd_eqS ?_)
    | (with_reducible refine Px.gd_neS ?_)
    | (with_reducible refine Px.gd_isN ?_)
    | (with_reducible refine Px.gd_isNotB ?_)
    | (with_reducible refine Px.gd_isB ?_)
    | (with_reducible refine Px.gd_inC ?_)
    | (with_reducible refine Px.gd_ninC ?_)
    | (with_reducible refine Px.gd_cutT ?_)
    | (with_reducible refine Px.gd_lenT ?_)
    | (with_reducible refine Px.gd_lenF ?_)
    | (with_reducible refine Px.gd_max ?_)
    | (with_reducible refine Px.gd_min ?_)
    | (with_reducible refine Px.gd_abs ?_)
    | (with_reducible refine Px.gd_intI ?_)
    | (with_reducible refine Px.gd_intB ?_)
    | (with_reducible refine Px.gd_find ?_)
    | (with_reducible refine Px.gd_tupT ?_)
    | (with_reducible refine Px.gd_ivS ?_)
    | (with_reducible refine Px.gd_ivT ?_)
    | (with_reducible refine Px.gd_ivF ?_)
    | (with_reducible refine Px.gs_cons ?_)
    | (with_reducible refine Px.gs_nil ?_)
    | (with_reducible refine Px.gs_set ?_)
    | (with_reducible refine Px.gs_expr ?_)
    | (with_reducible refine Px.gs_ret ?_)
    | (with_reducible refine Px.gs_retN ?_)
    | (with_reducible refine Px.gs_if ?_)
    | (with_reducible refine Px.gs_brk ?_)
    | (with_reducible refine Px.gs_cnt ?_)
    | (with_reducible refine Px.gs_asg ?_)
    | (with_reducible refine Px.gs_fgName ?_)
    | (with_reducible refine Px.gs_fgsNil ?_)
    | (with_reducible refine Px.gs_fgsCons ?_)
    | (with_reducible refine Px.gs_fgSub ?_)
    | (with_reducible refine Px.gs_for ?_)
    | (with_reducible refine Px.gd_ok ?_)
    | (with_reducible refine Px.gd_addS ?_ ?_; (· walk_at "V28l"))
    | (with_reducible refine Px.gd_addT ?_ ?_; (· walk_at "V28l"))
    | (with_reducible refine Px.gd_mulI ?_ ?_; (· walk_at "V28l"))
    | (with_reducible refine Px.gd_fdivI ?_ ?_; (· walk_at "V28l"))
    | (with_reducible refine Px.gd_modI ?_ ?_; (· walk_at "V28l"))
    | (with_reducible refine Px.gd_powI ?_ ?_; (· walk_at "V28l"))
    | (with_reducible refine Px.gd_cutS ?_ ?_; (· walk_at "V28l"))
    | (with_reducible refine Px.gd_lenS ?_ ?_; (· walk_at "V28l"))
    | (with_reducible refine Px.gd_strI ?_ ?_; (· walk_at "V28l"))
    | (with_reducible refine Px.gd_divmod ?_ ?_; (· walk_at "V28l"))
    | (with_reducible refine Px.gd_mkTup ?_ ?_; (· walk_at "V28l"))
    | (with_reducible refine Px.gd_mkLst ?_ ?_; (· walk_at "V28l"))
    | (with_reducible refine Px.gd_rg1 ?_ ?_; (· walk_at "V28l"))
    | (with_reducible refine Px.gd_rg2 ?_ ?_; (· walk_at "V28l"))
    | (with_reducible refine Px.gd_split ?_ ?_; (· walk_at "V28l"))
    | (with_reducible refine Px.gd_tupS ?_ ?_; (· walk_at "V28l"))
    | (with_reducible refine Px.gs_fgTup ?_ ?_; (· walk_at "V28l"))
    | (with_reducible refine Px.gd_cutKS ?_ ?_; (· walk_at "V28l"))
    | (with_reducible refine Px.gs_fgTup (by with_unfolding_all rfl) ?_)
    | (with_reducible refine Px.gd_isi (by with_unfolding_all rfl) ?_)
    | (with_reducible refine Px.gd_inT (by with_unfolding_all rfl) ?_)
    | (with_reducible refine Px.gd_inTI (by with_unfolding_all rfl) ?_)
    | (with_reducible refine Px.gd_ninT (by with_unfolding_all rfl) ?_)
    | (with_reducible refine Px.gd_ninTI (by with_unfolding_all rfl) ?_)))
local macro_rules | `(tactic| walk_at "V284") => `(tactic| (first
    | (with_reducible refine Px.gd_ixS Px.atI0 ?_ ?_; (· walk_at "V28l"))
    | (with_reducible refine Px.gd_ixL (by walk_at "V28h") Px.atI0 ?_)
    | (with_reducible refine Px.gd_ixT Px.atI0 ?_)
    | (with_reducible refine Px.gd_newS (by assumption) fun n h' hn S => ?_; dsimp only [List.nil_append, List.cons_append] at S)
    | (with_reducible refine G.gd_pick (by assumption) (by assumption) ?_ ?_ ?_ fun v h' bg' v0 v1 hb S => ?_; (· omega); (· walk_at "V28l"); (· walk_at "V28l"))
    | (with_reducible refine Px.gd_ixL (by walk_at "V28h") ?_ ?_; (· rfl))
    | (with_reducible refine Px.gd_ixSA ?_ ?_ ?_ fun c hc => ?_; (· omega); (· walk_at "V28l"); (· walk_at "V28l"))
    | (with_reducible refine Px.gd_ixLA (by walk_at "V28h") ?_ ?_ fun x hx => ?_; (· omega); (· walk_at "V28l"))
    | (with_reducible refine Px.gd_addL (by walk_at "V28h") (by walk_at "V28h") ?_ ?_; (· walk_at "V28l"))
    | (with_reducible refine Px.gd_mulL (by walk_at "V28h") ?_ ?_ ?_ ?_; (· walk_at "V28l"); (· omega); (· omega))
    | (with_reducible refine Px.gd_neNilE (by walk_at "V28h") (by walk_at "V28h") ?_)
    | (with_reducible refine Px.gd_eqNilE (by walk_at "V28h") (by walk_at "V28h") ?_)
    | (with_reducible refine Px.gd_lenL (by walk_at "V28h") ?_)
    | (with_reducible refine Px.gd_ivO (by walk_at "V28h") ?_)
    | (with_reducible refine Px.gd_eqNilC (by walk_at "V28h") (by walk_at "V28h") ?_)
    | (with_reducible refine Px.gd_eqNilS (by walk_at "V28h") (by walk_at "V28h") ?_)
    | (with_reducible refine Px.gd_appS0 (by assumption) ?_ fun h' S => ?_; (· walk_at "V28l"))
    | (with_reducible refine Px.gd_appS1 (by assumption) ?_ fun h' S => ?_; (· walk_at "V28l"))
    | (with_reducible refine Px.gd_appS2 (by assumption) ?_ fun h' S => ?_; (· walk_at "V28l"))
    | (with_reducible refine Px.gd_appS3 (by assumption) ?_ fun h' S => ?_; (· walk_at "V28l"))
    | (rw [if_pos rfl])
    | (rw [if_neg Bool.false_ne_true])
    | (rw [if_pos (by simp only [decide_eq_true_eq, Bool.not_eq_true', decide_eq_false_iff_not]; omega)])
    | (rw [if_neg (by simp only [decide_eq_true_eq, Bool.not_eq_true', decide_eq_false_iff_not]; omega)])
    | (rw [if_pos (by decide)])
    | (rw [if_neg (by decide)])))
local macro_rules | `(tactic| walk_at "V285") => `(tactic| (first
    | (with_reducible refine Px.gd_v0 ?_)
    | (with_reducible refine Px.gd_v1 ?_)
    | (with_reducible refine Px.gd_v2 ?_)
    | (with_reducible refine Px.gd_v3 ?_)
    | (with_reducible refine Px.gd_v4 ?_)
    | (with_reducible refine Px.gd_v5 ?_)
    | (with_reducible refine Px.gd_v6 ?_)
    | (with_reducible refine Px.gd_v7 ?_)
    | (with_reducible refine Px.gd_v8 ?_)
    | (with_reducible refine Px.gd_v9 ?_)
    | (with_reducible refine Px.gd_v10 ?_)
    | (with_reducible refine Px.gd_v11 ?_)
    | (with_reducible refine Px.gd_v12 ?_)
    | (with_reducible refine Px.gd_v13 ?_)
    | (with_reducible refine Px.gd_c ?_)
    | (with_reducible refine Px.gd_bin ?_)
    | (with_reducible refine Px.gd_un ?_)
    | (with_reducible refine Px.gd_chain ?_)
    | (with_reducible refine Px.gd_bOf ?_)
    | (with_reducible refine Px.gd_tAnd ?_)
    | (with_reducible refine Px.gd_tOr ?_)
    | (with_reducible refine Px.gd_tNot ?_)
    | (with_reducible refine Px.gd_tTrue ?_)
    | (with_reducible refine Px.gd_eAnd ?_)
    | (with_reducible refine Px.gd_eOr ?_)
    | (with_reducible refine Px.gd_eNot ?_)
    | (with_reducible refine Px.gd_eIf ?_)
    | (with_reducible refine Px.gd_aNil ?_)
    | (with_reducible refine Px.gd_aCons ?_)
    | (with_reducible refine Px.gd_eTup ?_)
    | (with_reducible refine Px.gd_eLst ?_)
    | (with_reducible refine Px.gd_eCall ?_)
    | (with_reducible refine Px.gd_eCallD ?_)
    | (with_reducible refine Px.gd_eCallK ?_)
    | (with_reducible refine Px.gd_oNone ?_)
    | (with_reducible refine Px.gd_oSome ?_)
    | (with_reducible refine Px.gd_eCut ?_)
    | (with_reducible refine Px.gd_eCutK ?_)
    | (with_reducible refine Px.gd_eM0 ?_)
    | (with_reducible refine Px.gd_eM1 ?_)
    | (with_reducible refine Px.gd_jNil ?_)
    | (with_reducible refine Px.gd_jCons ?_)
    | (with_reducible refine Px.gd_eJoined ?_)
    | (with_reducible refine Px.gd_fmtS ?_)
    | (with_reducible refine Px.gd_iVal ?_)
    | (with_reducible refine Px.gd_iRange1 ?_)
    | (with_reducible refine Px.gd_iRange2 ?_)
    | (with_reducible refine Px.gd_iEnum ?_)
    | (with_reducible refine Px.gd_eDnew ?_)
    | (with_reducible refine Px.gd_eComp ?_)
    | (with_reducible refine Px.gd_eComp2 ?_)
    | (with_reducible refine Px.ob_bl ?_)
    | (with_reducible refine Px.oi_int ?_)
    | (with_reducible refine Px.os_str ?_)
    | (with_reducible refine Px.gd_addI ?_)
    | (with_reducible refine Px.gd_subI ?_)
    | (with_reducible refine Px.gd_negI ?_)
    | (with_reducible refine Px.gd_ltI ?_)
    | (with_reducible refine Px.gd_leI ?_)
    | (with_reducible refine Px.gd_gtI ?_)
    | (with_reducible refine Px.gd_geI ?_)
    | (with_reducible refine Px.gd_eqI ?_)
    | (with_reducible refine Px.gd_neI ?_)
    | (with_reducible refine Px.gd_eqS ?_)
    | (with_reducible refine Px.gd_neS ?_)
    | (with_reducible refine Px.gd_isN ?_)
    | (with_reducible refine Px.gd_isNotB ?_)
    | (with_reducible refine Px.gd_isB ?_)
    | (with_reducible refine Px.gd_inC ?_)
    | (with_reducible refine Px.gd_ninC ?_)
    | (with_reducible refine Px.gd_cutT ?_)
    | (with_reducible refine Px.gd_lenT ?_)
    | (with_reducible refine Px.gd_lenF ?_)
    | (with_reducible refine Px.gd_max ?_)
    | (with_reducible refine Px.gd_min ?_)
    | (with_reducible refine Px.gd_abs ?_)
    | (with_reducible refine Px.gd_intI ?_)
    | (with_reducible refine Px.gd_intB ?_)
    | (with_reducible refine Px.gd_find ?_)
    | (with_reducible refine Px.gd_tupT ?_)
    | (with_reducible refine Px.gd_ivS ?_)
    | (with_reducible refine Px.gd_ivT ?_)
    | (with_reducible refine Px.gd_ivF ?_)
    | (with_reducible refine Px.gs_nil ?_)
    | (with_reducible refine Px.gs_set ?_)
    | (with_reducible refine Px.gs_expr ?_)
    | (with_reducible refine Px.gs_ret ?_)
    | (with_reducible refine Px.gs_retN ?_)
    | (with_reducible refine Px.gs_if ?_)
    | (with_reducible refine Px.gs_brk ?_)
    | (with_reducible refine Px.gs_cnt ?_)
    | (with_reducible refine Px.gs_asg ?_)
    | (with_reducible refine Px.gs_fgName ?_)
    | (with_reducible refine Px.gs_fgsNil ?_)
    | (with_reducible refine Px.gs_fgsCons ?_)
    | (with_reducible refine Px.gs_fgSub ?_)
    | (with_reducible refine Px.gs_for ?_)
    | (with_reducible refine Px.gd_ok ?_)
    | (with_reducible refine Px.gd_addS ?_ ?_; (· walk_at "V28l"))
    | (with_reducible refine Px.gd_addT ?_ ?_; (· walk_at "V28l"))
    | (with_reducible refine Px.gd_mulI ?_ ?_; (· walk_at "V28l"))
    | (with_reducible refine Px.gd_fdivI ?_ ?_; (· walk_at "V28l"))
    | (with_reducible refine Px.gd_modI ?_ ?_; (· walk_at "V28l"))
    | (with_reducible refine Px.gd_powI ?_ ?_; (· walk_at "V28l"))
    | (with_reducible refine Px.gd_cutS ?_ ?_; (· walk_at "V28l"))
    | (with_reducible refine Px.gd_lenS ?_ ?_; (· walk_at "V28l"))
    | (with_reducible refine Px.gd_strI ?_ ?_; (· walk_at "V28l"))
    | (with_reducible refine Px.gd_divmod ?_ ?_; (· walk_at "V28l"))
    | (with_reducible refine Px.gd_mkTup ?_ ?_; (· walk_at "V28l"))
    | (with_reducible refine Px.gd_mkLst ?_ ?_; (· walk_at "V28l"))
    | (with_reducible refine Px.gd_rg1 ?_ ?_; (· walk_at "V28l"))
    | (with_reducible refine Px.gd_rg2 ?_ ?_; (· walk_at "V28l"))
    | (with_reducible refine Px.gd_split ?_ ?_; (· walk_at "V28l"))
    | (with_reducible refine Px.gd_tupS ?_ ?_; (· walk_at "V28l"))
    | (with_reducible refine Px.gs_fgTup ?_ ?_; (· walk_at "V28l"))
    | (with_reducible refine Px.gd_cutKS ?_ ?_; (· walk_at "V28l"))
    | (with_reducible refine Px.gs_fgTup (by with_unfolding_all rfl) ?_)
    | (with_reducible refine Px.gd_isi (by with_unfolding_all rfl) ?_)
    | (with_reducible refine Px.gd_inT (by with_unfolding_all rfl) ?_)
    | (with_reducible refine Px.gd_inTI (by with_unfolding_all rfl) ?_)
    | (with_reducible refine Px.gd_ninT (by with_unfolding_all rfl) ?_)
    | (with_reducible refine Px.gd_ninTI (by with_unfolding_all rfl) ?_)))
local macro_rules | `(tactic| walk_at "V286") => `(tactic| (first
    | (with_reducible refine Px.gd_ixS Px.atI0 ?_ ?_; (· walk_at "V28l"))
    | (with_reducible refine Px.gd_ixL (by walk_at "V28h") Px.atI0 ?_)
    | (with_reducible refine Px.gd_ixT Px.atI0 ?_)
    | (with_reducible refine G.gd_pick (by assumption) (by assumption) ?_ ?_ ?_ fun v h' bg' v0 v1 hb S => ?_; (· omega); (· walk_at "V28l"); (· walk_at "V28l"))
    | (with_reducible refine Px.gd_ixL (by walk_at "V28h") ?_ ?_; (· rfl))
    | (with_reducible refine Px.gd_ixSA ?_ ?_ ?_ fun c hc => ?_; (· omega); (· walk_at "V28l"); (· walk_at "V28l"))
    | (with_reducible refine Px.gd_ixLA (by walk_at "V28h") ?_ ?_ fun x hx => ?_; (· omega); (· walk_at "V28l"))
    | (with_reducible refine Px.gd_addL (by walk_at "V28h") (by walk_at "V28h") ?_ ?_; (· walk_at "V28l"))
    | (with_reducible refine Px.gd_mulL (by walk_at "V28h") ?_ ?_ ?_ ?_; (· walk_at "V28l"); (· omega); (· omega))
    | (with_reducible refine Px.gd_neNilE (by walk_at "V28h") (by walk_at "V28h") ?_)
    | (with_reducible refine Px.gd_eqNilE (by walk_at "V28h") (by walk_at "V28h") ?_)
    | (with_reducible refine Px.gd_lenL (by walk_at "V28h") ?_)
    | (with_reducible refine Px.gd_ivO (by walk_at "V28h") ?_)
    | (with_reducible refine Px.gd_eqNilC (by walk_at "V28h") (by walk_at "V28h") ?_)
    | (with_reducible refine Px.gd_eqNilS (by walk_at "V28h") (by walk_at "V28h") ?_)
    | (with_reducible refine Px.gd_appS0 (by assumption) ?_ fun h' S => ?_; (· walk_at "V28l"))
    | (with_reducible refine Px.gd_appS1 (by assumption) ?_ fun h' S => ?_; (· walk_at "V28l"))
    | (with_reducible refine Px.gd_appS2 (by assumption) ?_ fun h' S => ?_; (· walk_at "V28l"))
    | (with_reducible refine Px.gd_appS3 (by assumption) ?_ fun h' S => ?_; (· walk_at "V28l"))
    | (rw [if_pos rfl])
    | (rw [if_neg Bool.false_ne_true])
    | (rw [if_pos (by simp only [decide_eq_true_eq, Bool.not_eq_true', decide_eq_false_iff_not]; omega)])
    | (rw [if_neg (by simp only [decide_eq_true_eq, Bool.not_eq_true', decide_eq_false_iff_not]; omega)])
    | (rw [if_pos (by decide)])
    | (rw [if_neg (by decide)])))
local macro_rules | `(tactic| walk_at "V287") => `(tactic| (first
    | (with_reducible refine Px.gd_ixS Px.atI0 ?_ ?_; (· walk_at "V28l"))
    | (with_reducible refine Px.gd_ixL (by walk_at "V28h") Px.atI0 ?_)
    | (with_reducible refine Px.gd_ixT Px.atI0 ?_)
    | (with_reducible refine G.gd_pick (by assumption) (by assumption) ?_ ?_ ?_ fun v h' bg' v0 v1 hb S => ?_; (· omega); (· walk_at "V28l"); (· walk_at "V28l"))
    | (with_reducible refine Px.gd_ixL (by walk_at "V28h") ?_ ?_; (· rfl))
    | (with_reducible refine Px.gd_ixSA ?_ ?_ ?_ fun c hc => ?_; (· omega); (· walk_at "V28l"); (· walk_at "V28l"))
    | (with_reducible refine Px.gd_addL (by walk_at "V28h") (by walk_at "V28h") ?_ ?_; (· walk_at "V28l"))
    | (with_reducible refine Px.gd_mulL (by walk_at "V28h") ?_ ?_ ?_ ?_; (· walk_at "V28l"); (· omega); (· omega))
    | (with_reducible refine Px.gd_neNilE (by walk_at "V28h") (by walk_at "V28h") ?_)
    | (with_reducible refine Px.gd_eqNilE (by walk_at "V28h") (by walk_at "V28h") ?_)
    | (with_reducible refine Px.gd_lenL (by walk_at "V28h") ?_)
    | (with_reducible refine Px.gd_ivO (by walk_at "V28h") ?_)
    | (with_reducible refine Px.gd_eqNilC (by walk_at "V28h") (by walk_at "V28h") ?_)
    | (with_reducible refine Px.gd_eqNilS (by walk_at "V28h") (by walk_at "V28h") ?_)
    | (with_reducible refine Px.gd_appS0 (by assumption) ?_ fun h' S => ?_; (· walk_at "V28l"))
    | (with_reducible refine Px.gd_appS1 (by assumption) ?_ fun h' S => ?_; (· walk_at "V28l"))
    | (with_reducible refine Px.gd_appS2 (by assumption) ?_ fun h' S => ?_; (· walk_at "V28l"))
    | (with_reducible refine Px.gd_appS3 (by assumption) ?_ fun h' S => ?_; (· walk_at "V28l"))
    | (rw [if_pos rfl])
    | (rw [if_neg Bool.false_ne_true])
    | (rw [if_pos (by simp only [decide_eq_true_eq, Bool.not_eq_true', decide_eq_false_iff_not]; omega)])
    | (rw [if_neg (by simp only [decide_eq_true_eq, Bool.not_eq_true', decide_eq_false_iff_not]; omega)])
    | (rw [if_pos (by decide)])
    | (rw [if_neg (by decide)])))
set_option hygiene true
namespace G
open Px
theorem gd_name2 {k : Kd} {E : String → Option D → Hy → Prop} {h h0 : Hy} {Q : D × Hy → Prop} {b n : Nat} {bg : Ob} {L : List (Nat × Ob)} (S : St h0 b h ((b, bg) :: L)) (hb : Urn n bg) (hk : n + 200 < 1000000000000000)
    (q : ∀ s h' bg', NmS k s → Urn (n + 200) bg' → St h0 b h' ((b, bg') :: L) → Q (.str s, h')) : Good (f__law_name [.ref b, .str k.tx] h) Q E :=
  gd_genU (name_gen2 k) S hb hk fun d h' bg' p _ hb S => by
    obtain ⟨s, rfl, l⟩ := p
    exact q s h' bg' l hb S
theorem leaf_gen (kd : Kd) (word : Tx) : GenU f__law_leaf [.str kd.tx, .str word] 300 (fun d => ∃ p : Lf, d = p.d ∧ p.ok kd ∧ (p.w = word ∨ p.w = PAUSE)) := by
  refine gen_ofU (by rfl) fun h b bg k S hb hk => ?_
  unfold b__law_leaf
  simp only [startE, List.map_cons, List.map_nil, List.length_cons, List.length_nil, Nat.reduceAdd, Nat.reduceSub, List.replicate_succ, List.replicate_zero, List.cons_append, List.nil_append]
  walk_at "V28n"
  repeat ((first | walk_at "V283" | walk_at "V284"); walk_at "V28n")
  by_cases c1 : word = ['w', 'o', 'r', 'd']
  · rw [if_pos (by simpa using c1)]
    walk_at "V28n"
    repeat ((first | walk_at "V283" | (with_reducible refine gd_word (by assumption) (by assumption) ?_ fun s h' bg' w w1 w2 hb S => ?_; (· omega)) | walk_at "V284"); walk_at "V28n")
    exact ⟨by simp, ⟨.wd s, rfl, w, .inl c1.symm⟩, _, _, S, hb.mono (by omega)⟩
  rw [if_neg (by simpa using c1)]
  walk_at "V28n"
  repeat ((first | walk_at "V283" | walk_at "V284"); walk_at "V28n")
  by_cases c2 : word = ['n', 'u', 'm', 'b', 'e', 'r']
  · rw [if_pos (by simpa using c2)]
    walk_at "V28n"
    repeat ((first | walk_at "V283" | (with_reducible refine gd_number (by assumption) (by assumption) ?_ fun i h' bg' i0 i1 hb S => ?_; (· omega)) | walk_at "V284"); walk_at "V28n")
    exact ⟨by simp, ⟨.nu i, rfl, ⟨i0, i1⟩, .inl c2.symm⟩, _, _, S, hb.mono (by omega)⟩
  rw [if_neg (by simpa using c2)]
  walk_at "V28n"
  repeat ((first | walk_at "V283" | walk_at "V284"); walk_at "V28n")
  by_cases c3 : word = ['n', 'a', 'm', 'e']
  · rw [if_pos (by simpa using c3)]
    walk_at "V28n"
    repeat ((first | walk_at "V283" | (with_reducible refine gd_name2 (by assumption) (by assumption) ?_ fun s h' bg' hs hb S => ?_; (· omega)) | walk_at "V284"); walk_at "V28n")
    exact ⟨by simp, ⟨.nm s, rfl, hs, .inl c3.symm⟩, _, _, S, hb.mono (by omega)⟩
  rw [if_neg (by simpa using c3)]
  walk_at "V28n"
  repeat ((first | walk_at "V283" | walk_at "V284"); walk_at "V28n")
  by_cases c4 : word = ['p', 'i', 'c', 't', 'u', 'r', 'e']
  · rw [if_pos (by simpa using c4)]
    walk_at "V28n"
    repeat ((first | walk_at "V283" | walk_at "V284"); walk_at "V28n")
    rename_i w hA bA w0 w1 hbA SA
    refine ⟨by rw [rangeD_length]; omega, ?_⟩
    refine gd_cGenU (cst := 8) (nl := (1 + v).toNat) (fun d => ∃ s : Tx, d = .str s ∧ s.length = (1 + w).toNat ∧ ∀ c ∈ s, c ∈ FIGS) (by assumption) (by assumption) _ (rangeD_length _ _) (fun x hx h bg k1 hk1 S hb => ?_) fun ys h' bg' hl hp S hb => ?_
    · walk_at "V28n"
      repeat ((first | walk_at "V283" | walk_at "V284"); walk_at "V28n")
      refine ⟨by rw [rangeD_length]; omega, ?_⟩
      refine gd_cGenU (cst := 1) (nl := (1 + w).toNat) (fun d => ∃ s : Tx, d = .str s ∧ s.length = 1 ∧ ∀ c ∈ s, c ∈ FIGS) (by assumption) (by assumption) _ (rangeD_length _ _) (fun x hx h bg k1 hk1 S hb => ?_) fun ys h' bg' hl hp S hb => ?_
      · walk_at "V28n"
        repeat ((first | walk_at "V283" | walk_at "V284"); walk_at "V28n")
        refine ⟨⟨_, rfl, ?_, fun c hc => num_dig (by assumption) hc⟩, _, [], S, hb⟩
        have a := num_len (k := 1) (i := v) (by assumption) (by omega) (by omega)
        have b := num_pos (i := v) (by assumption)
        omega
      · obtain ⟨ss, rfl, hs, hl2⟩ := strs_of hp
        have sm := sum_one hs
        have jl : (joinT [] ss).length = ss.length := by rw [joinT_nil_len, sum_one hs]
        walk_at "V28n"
        repeat ((first | walk_at "V283" | (with_reducible refine gd_joinL (ts := ss) (by walk_at "V28h") rfl ?_ ?_; (· simp only [List.length_nil]; omega)) | walk_at "V284"); walk_at "V28n")
        exact ⟨⟨_, rfl, by omega, mem_str_join fun t ht c hc => (hs t ht).2 c hc⟩, bg', _, S, hb.mono (by omega)⟩
    · obtain ⟨ss, rfl, hs, hl2⟩ := strs_of hp
      walk_at "V28n"
      repeat ((first | walk_at "V283" | (with_reducible refine gd_tupL (by walk_at "V28h") ?_) | walk_at "V284"); walk_at "V28n")
      exact ⟨by simpa using Lf.rs_lt (.pi ss) 0, ⟨.pi ss, rfl, ⟨by omega, by omega, _, by omega, by omega, hs⟩, .inl c4.symm⟩, _, _, S, hb.mono (by omega)⟩
  rw [if_neg (by simpa using c4)]
  walk_at "V28n"
  repeat ((first | walk_at "V283" | walk_at "V284"); walk_at "V28n")
  exact ⟨by simp, ⟨.pa, rfl, trivial, .inr rfl⟩, _, _, S, hb.mono (by omega)⟩
theorem gd_leaf {kd : Kd} {word : Tx} {E : String → Option D → Hy → Prop} {h h0 : Hy} {Q : D × Hy → Prop} {b n : Nat} {bg : Ob} {L : List (Nat × Ob)} (S : St h0 b h ((b, bg) :: L)) (hb : Urn n bg) (hk : n + 300 < 1000000000000000)
    (q : ∀ (p : Lf) h' bg', p.ok kd → (p.w = word ∨ p.w = PAUSE) → Urn (n + 300) bg' → St h0 b h' ((b, bg') :: L) → Q ((Pr.lf p).d, h')) : Good (f__law_leaf [.ref b, .str kd.tx, .str word] h) Q E :=
  gd_genU (leaf_gen kd word) S hb hk fun d h' bg' p _ hb S => by
    obtain ⟨p, rfl, l, l2⟩ := p
    exact q p h' bg' l l2 hb S
def PartsOk (kd : Kd) (ws : List Tx) (n : Nat) (deep : Int) : Prop := ∀ (h : Hy) (u l w k : Nat) (m : Int) (bg : Ob) (L : List (Nat × Ob)) (Q : D × Hy → Prop) (E : String → Option D → Hy → Prop), St [] u h ((u, bg) :: (l, .lst [.int m]) :: (w, .lst (ws.map D.str)) :: L) → Urn k bg → k + cU n < 1000000000000000 → 0 ≤ m → m ≤ 100 →
    (∀ (s : Sy) h' bg' (m' : Int), s.aw kd ws → (s.deep : Int) ≤ deep → (s.size : Int) + m' = m → 0 ≤ m' → (1 ≤ m → s.pl ≠ []) → Urn (k + cU n) bg' → St [] u h' ((u, bg') :: (l, .lst [.int m']) :: (w, .lst (ws.map D.str)) :: L) → Q (.tup s.ds, h')) → Good (f__law_parts n [.ref u, .str kd.tx, .ref w, .int deep, .ref l] h) Q E
theorem parts_step (kd : Kd) (ws : List Tx) (hws : 0 < ws.length ∧ ws.length ≤ 10) (n : Nat) (ih : ∀ deep : Int, 1 ≤ deep → deep ≤ n → PartsOk kd ws n deep) (deep : Int) (d1 : 1 ≤ deep) (d2 : deep ≤ n + 1) (hn : n + 1 ≤ 12) : PartsOk kd ws (n + 1) deep := by
  intro h u l w k m bg L Q E S hb hk hm0 hm1 q
  have ec : cU (n + 1) = 10 + 4 * (310 + cU n) := rfl
  have hc := cU_le (show n + 1 ≤ 12 from hn)
  have hc2 := cU_12
  unfold f__law_parts
  refine gd_ownT (b := u) (by rfl) (by simp [D.lt]) S ?_
  unfold b__law_parts
  simp only [startE, List.map_cons, List.map_nil, List.length_cons, List.length_nil, Nat.reduceAdd, Nat.reduceSub, List.replicate_succ, List.replicate_zero, List.cons_append, List.nil_append]
  walk_at "V28n"
  repeat ((first | walk_at "V285" | walk_at "V284"); walk_at "V28n")
  refine gs_cons ?_
  walk_at "V28n"
  repeat ((first | walk_at "V285" | walk_at "V286"); walk_at "V28n")
  with_reducible refine gd_newF S fun f h' hf S => ?_
  walk_at "V28n"
  repeat ((first | walk_at "V285" | walk_at "V286"); walk_at "V28n")
  refine gs_cons ?_
  walk_at "V28n"
  repeat ((first | walk_at "V283" | walk_at "V286"); walk_at "V28n")
  refine gs_fLoop (fun pre ρ h' => ∃ (s : Sy) (m' : Int) (bg' : Ob) (x y : Option D), ρ = [some (.ref u), some (.str kd.tx), some (.ref w), some (.int deep), some (.ref l), some (.ref f), x, y] ∧ s.aw kd ws ∧ (s.deep : Int) ≤ deep ∧ (s.size : Int) + m' = m ∧ 0 ≤ m' ∧ (pre ≠ [] → 1 ≤ m → s.pl ≠ []) ∧ St [] u h' ((u, bg') :: (l, .lst [.int m']) :: (w, .lst (ws.map D.str)) :: (f, .lst s.ds) :: L) ∧ Urn (k + 1 + pre.length * (310 + cU n)) bg') (fun _ _ _ _ => srcOk_none) _ _ _ ⟨.nil, m, _, _, _, rfl, aw_nil, by simp [Sy.deep]; omega, by simp [Sy.size], hm0, fun z => absurd rfl z, S, hb.mono (by omega)⟩ (fun pre y post ρ h' e i => ?_) fun ρ h' i => ?_
  · with_reducible obtain ⟨s, m', bg', x1, x2, rfl, s1, s2, s3, s4, s5, S, hb⟩ := i
    have hl := congrArg List.length e
    rw [rangeD_length, List.length_append, List.length_cons] at hl
    have hl2 : pre.length + 1 ≤ 4 := by omega
    have hmul : pre.length * (310 + cU n) + (310 + cU n) ≤ 4 * (310 + cU n) := by
      have := Nat.mul_le_mul_right (310 + cU n) hl2
      rw [Nat.add_mul, Nat.one_mul] at this
      exact this
    have hsl := s.ds_len
    have hs2 := s.len_size
    have hwl : (ws.map D.str).length = ws.length := List.length_map _
    refine ⟨_, rfl, ?_⟩
    unfold l__law_parts_0
    walk_at "V28n"
    repeat ((first | walk_at "V283" | (with_reducible refine gd_ixLS (fun j => j ∈ ws) (by walk_at "V28h") ?_ ?_ (fun x hx => by obtain ⟨j, hj, rfl⟩ := List.mem_map.mp hx; exact ⟨_, rfl, hj⟩) fun wd hwd => ?_; (· omega); (· omega)) | walk_at "V287"); walk_at "V28n")
    have nb : (k + 1 + pre.length * (310 + cU n) + 1) + 300 + cU n < 1000000000000000 := by omega
    by_cases c0 : 0 < m'
    · walk_at "V28n"
      repeat ((first | walk_at "V283" | (with_reducible refine gs_setS1 (by assumption) fun h' S => ?_) | (with_reducible refine gd_newF (by assumption) fun tm h' hn S => ?_) | walk_at "V287"); walk_at "V28n")
      refine gd_inLs (ss := [['l', 'o', 'u', 'd'], ['q', 'u', 'o', 't', 'e']]) (St.g3 S) rfl ?_
      with_reducible refine ob_bl ?_
      have leafEnd : ∀ {h1 : Hy} (p : Lf) (bg1 : Ob) (x y2 : Option D), p.ok kd → (p.w = wd ∨ p.w = PAUSE) → Urn ((k + 1 + pre.length * (310 + cU n) + 1) + 300) bg1 → St [] u h1 ((u, bg1) :: (l, .lst [.int (m' - 1)]) :: (w, .lst (ws.map D.str)) :: (tm, .lst [.str ['l', 'o', 'u', 'd'], .str ['q', 'u', 'o', 't', 'e']]) :: (f, .lst (s.ds ++ [(Pr.lf p).d])) :: L) →
          ∃ (s : Sy) (m' : Int) (bg' : Ob) (x' y' : Option D), [some (D.ref u), some (.str kd.tx), some (.ref w), some (.int deep), some (.ref l), some (.ref f), x, y2] = [some (.ref u), some (.str kd.tx), some (.ref w), some (.int deep), some (.ref l), some (.ref f), x', y'] ∧ s.aw kd ws ∧ (s.deep : Int) ≤ deep ∧ (s.size : Int) + m' = m ∧ 0 ≤ m' ∧ (pre ++ [y] ≠ [] → 1 ≤ m → s.pl ≠ []) ∧ St [] u h1 ((u, bg') :: (l, .lst [.int m']) :: (w, .lst (ws.map D.str)) :: (f, .lst s.ds) :: L) ∧ Urn (k + 1 + (pre ++ [y]).length * (310 + cU n)) bg' := by
        intro h1 p bg1 x y2 hp hpw hb S
        have ez := Sy.size_app s (Sy.of [.lf p])
        rw [Sy.of1_size] at ez
        simp only [Pr.size] at ez
        refine ⟨s.app (Sy.of [.lf p]), m' - 1, bg1, x, y2, rfl, aw_app s1 (aw_lf hp (hpw.elim (fun z => .inl (by rw [z]; exact hwd)) .inr)), ?_, by omega, by omega, fun _ _ => by rw [Sy.app_pl]; simp, ?_, hb.mono (by rw [List.length_append, Nat.add_mul]; simp only [List.length_cons, List.length_nil]; omega)⟩
        · have : (s.app (Sy.of [.lf p])).deep ≤ deep.toNat := Sy.deep_app.mpr ⟨by omega, Sy.of1_deep.mpr (by simp only [Pr.deep]; omega)⟩
          omega
        · rw [Sy.app_ds, Sy.of_ds]
          exact St.sub S (.cons₂ _ (.cons₂ _ (.cons₂ _ (.cons _ (.refl _)))))
      by_cases cw : wd ∈ [['l', 'o', 'u', 'd'], ['q', 'u', 'o', 't', 'e']]
      · rw [if_pos (by simpa using cw)]
        by_cases cd : 1 < deep ∧ 0 < m' - 1
        · obtain ⟨cd, cm⟩ := cd
          obtain ⟨g, rfl⟩ : ∃ g, wd = gw g := by
            simp only [List.mem_cons, List.not_mem_nil, or_false] at cw
            rcases cw with rfl | rfl
            · exact ⟨true, rfl⟩
            · exact ⟨false, rfl⟩
          have ihp := ih (deep - 1) (by omega) (by omega)
          unfold PartsOk at ihp
          walk_at "V28n"
          repeat ((first | walk_at "V283" | (with_reducible refine gd_eL1 ?_) | (with_reducible refine ⟨isLst_of' (St.g4 (by assumption)), ?_⟩) | (with_reducible refine ihp _ u l w _ _ _ _ _ _ (by assumption) hb ?_ ?_ ?_ fun s2 h' bg' m2 t1 t2 t3 t4 t5 hb S => ?_; (· omega); (· omega); (· omega)) | (with_reducible refine gd_appS4 (by assumption) (by omega) fun h' S => ?_) | walk_at "V287"); walk_at "V28n")
          have ez := Sy.size_app s (Sy.of [.gp g s2])
          rw [Sy.of1_size] at ez
          simp only [Pr.size] at ez
          refine ⟨s.app (Sy.of [.gp g s2]), m2, _, _, _, rfl, aw_app s1 (aw_gp (t5 (by omega)) t1 hwd), ?_, by omega, t4, fun _ _ => by rw [Sy.app_pl]; simp, ?_, hb.mono (by rw [List.length_append, Nat.add_mul]; simp only [List.length_cons, List.length_nil]; omega)⟩
          · have : (s.app (Sy.of [.gp g s2])).deep ≤ deep.toNat := Sy.deep_app.mpr ⟨by omega, Sy.of1_deep.mpr (by simp only [Pr.deep]; omega)⟩
            omega
          · rw [Sy.app_ds, Sy.of_ds]
            exact St.sub S (.cons₂ _ (.cons₂ _ (.cons₂ _ (.cons _ (.refl _)))))
        · by_cases cd2 : 1 < deep
          all_goals walk_at "V28n"
          all_goals (repeat ((first | walk_at "V283" | (with_reducible refine gd_eL1 ?_) | (with_reducible refine ⟨isLst_of' (St.g4 (by assumption)), ?_⟩) | (with_reducible refine gd_leaf (by assumption) hb ?_ fun p h' bg' hp hpw hb S => ?_; (· omega)) | (with_reducible refine gd_appS4 (by assumption) (by omega) fun h' S => ?_) | walk_at "V287"); walk_at "V28n"))
          all_goals exact leafEnd p _ _ _ hp hpw hb S
      · rw [if_neg (by simpa using cw)]
        walk_at "V28n"
        repeat ((first | walk_at "V283" | (with_reducible refine gd_eL1 ?_) | (with_reducible refine ⟨isLst_of' (St.g4 (by assumption)), ?_⟩) | (with_reducible refine gd_leaf (by assumption) hb ?_ fun p h' bg' hp hpw hb S => ?_; (· omega)) | (with_reducible refine gd_appS4 (by assumption) (by omega) fun h' S => ?_) | walk_at "V287"); walk_at "V28n")
        exact leafEnd p _ _ _ hp hpw hb S
    · walk_at "V28n"
      repeat ((first | walk_at "V283" | walk_at "V284"); walk_at "V28n")
      exact ⟨s, m', _, _, _, rfl, s1, s2, s3, s4, fun _ z1 z => by
        have := s.size_pl
        rw [z] at this
        simp only [List.map_nil, List.sum_nil] at this
        omega, S, hb.mono (by rw [List.length_append, Nat.add_mul]; simp only [List.length_cons, List.length_nil]; omega)⟩
  · with_reducible obtain ⟨s, m', bg', x1, x2, rfl, s1, s2, s3, s4, s5, S, hb⟩ := i
    walk_at "V28n"
    repeat ((first | walk_at "V283" | (with_reducible refine gd_tupL (by walk_at "V28h") ?_) | walk_at "V284"); walk_at "V28n")
    refine ⟨by simp, _, ?_, St.sub S (.cons₂ _ (.cons₂ _ (.cons₂ _ (.cons _ (.refl _))))), fun h2 S2 => q s h2 bg' m' s1 s2 s3 s4 (fun z => s5 (fun e => ?_) z) (hb.mono ?_) S2⟩
    · rfl
    · have := congrArg List.length e
      rw [rangeD_length] at this
      simp only [List.length_nil] at this
      omega
    · rw [rangeD_length]
      have := Nat.mul_le_mul_right (310 + cU n) (show (1 + v).toNat ≤ 4 by omega)
      omega
end G
set_option hygiene false
local macro_rules | `(tactic| walk_at "W28n") => `(tactic| (try dsimp only [List.set_cons_zero, List.set_cons_succ, Px.wipeE_cons, Px.wipeE_nil, Px.kG, Px.wipeE_cons, List.nil_append, List.cons_append, List.length_nil, List.length_cons]))
local macro_rules | `(tactic| walk_at "W28l") => `(tactic| (first | omega | decide | (exact ⟨by decide, by omega⟩) | (simp only [List.length_append, List.length_cons, List.length_nil, List.length_map, List.length_take, List.length_drop, List.length_replicate]; omega)))
local macro_rules | `(tactic| walk_at "W28h") => `(tactic| (first | assumption | exact Px.St.g0 (by assumption) | exact Px.St.g1 (by assumption) | exact Px.St.g2 (by assumption) | exact Px.St.g3 (by assumption) | exact Px.St.g4 (by assumption) | exact Px.St.g5 (by assumption) | exact Px.St.g6 (by assumption) | exact Px.St.g7 (by assumption) | exact Px.St.g8 (by assumption) | exact Px.St.g9 (by assumption) | exact Px.St.g10 (by assumption) | exact Px.St.g11 (by assumption) | exact Px.St.g12 (by assumption) | exact Px.St.g13 (by assumption) | exact Px.St.g14 (by assumption)))
local macro_rules | `(tactic| walk_at "W283") => `(tactic| (first
    | (with_reducible refine Px.gd_v0 ?_)
    | (with_reducible refine Px.gd_v1 ?_)
    | (with_reducible refine Px.gd_v2 ?_)
    | (with_reducible refine Px.gd_v3 ?_)
    | (with_reducible refine Px.gd_v4 ?_)
    | (with_reducible refine Px.gd_v5 ?_)
    | (with_reducible refine Px.gd_v6 ?_)
    | (with_reducible refine Px.gd_v7 ?_)
    | (with_reducible refine Px.gd_v8 ?_)
    | (with_reducible refine Px.gd_v9 ?_)
    | (with_reducible refine Px.gd_v10 ?_)
    | (with_reducible refine Px.gd_v11 ?_)
    | (with_reducible refine Px.gd_v12 ?_)
    | (with_reducible refine Px.gd_v13 ?_)
    | (with_reducible refine Px.gd_c ?_)
    | (with_reducible refine Px.gd_bin ?_)
    | (with_reducible refine Px.gd_un ?_)
    | (with_reducible refine Px.gd_chain ?_)
    | (with_reducible refine Px.gd_bOf ?_)
    | (with_reducible refine Px.gd_tAnd ?_)
    | (with_reducible refine Px.gd_tOr ?_)
    | (with_reducible refine Px.gd_tNot ?_)
    | (with_reducible refine Px.gd_tTrue ?_)
    | (with_reducible refine Px.gd_eAnd ?_)
    | (with_reducible refine Px.gd_eOr ?_)
    | (with_reducible refine Px.gd_eNot ?_)
    | (with_reducible refine Px.gd_eIf ?_)
    | (with_reducible refine Px.gd_aNil ?_)
    | (with_reducible refine Px.gd_aCons ?_)
    | (with_reducible refine Px.gd_eTup ?_)
    | (with_reducible refine Px.gd_eLst ?_)
    | (with_reducible refine Px.gd_eCall ?_)
    | (with_reducible refine Px.gd_eCallD ?_)
    | (with_reducible refine Px.gd_eCallK ?_)
    | (with_reducible refine Px.gd_oNone ?_)
    | (with_reducible refine Px.gd_oSome ?_)
    | (with_reducible refine Px.gd_eCut ?_)
    | (with_reducible refine Px.gd_eCutK ?_)
    | (with_reducible refine Px.gd_eM0 ?_)
    | (with_reducible refine Px.gd_eM1 ?_)
    | (with_reducible refine Px.gd_jNil ?_)
    | (with_reducible refine Px.gd_jCons ?_)
    | (with_reducible refine Px.gd_eJoined ?_)
    | (with_reducible refine Px.gd_fmtS ?_)
    | (with_reducible refine Px.gd_iVal ?_)
    | (with_reducible refine Px.gd_iRange1 ?_)
    | (with_reducible refine Px.gd_iRange2 ?_)
    | (with_reducible refine Px.gd_iEnum ?_)
    | (with_reducible refine Px.gd_eDnew ?_)
    | (with_reducible refine Px.gd_eComp ?_)
    | (with_reducible refine Px.gd_eComp2 ?_)
    | (with_reducible refine Px.ob_bl ?_)
    | (with_reducible refine Px.oi_int ?_)
    | (with_reducible refine Px.os_str ?_)
    | (with_reducible refine Px.gd_addI ?_)
    | (with_reducible refine Px.gd_subI ?_)
    | (with_reducible refine Px.gd_negI ?_)
    | (with_reducible refine Px.gd_ltI ?_)
    | (with_reducible refine Px.gd_leI ?_)
    | (with_reducible refine Px.gd_gtI ?_)
    | (with_reducible refine Px.gd_geI ?_)
    | (with_reducible refine Px.gd_eqI ?_)
    | (with_reducible refine Px.gd_neI ?_)
    | (with_reducible refine Px.gd_eqS ?_)
    | (with_reducible refine Px.gd_neS ?_)
    | (with_reducible refine Px.gd_isN ?_)
    | (with_reducible refine Px.gd_isNotB ?_)
    | (with_reducible refine Px.gd_isB ?_)
    | (with_reducible refine Px.gd_inC ?_)
    | (with_reducible refine Px.gd_ninC ?_)
    | (with_reducible refine Px.gd_cutT ?_)
    | (with_reducible refine Px.gd_lenT ?_)
    | (with_reducible refine Px.gd_lenF ?_)
    | (with_reducible refine Px.gd_max ?_)
    | (with_reducible refine Px.gd_min ?_)
    | (with_reducible refine Px.gd_abs ?_)
    | (with_reducible refine Px.gd_intI ?_)
    | (with_reducible refine Px.gd_intB ?_)
    | (with_reducible refine Px.gd_find ?_)
    | (with_reducible refine Px.gd_tupT ?_)
    | (with_reducible refine Px.gd_ivS ?_)
    | (with_reducible refine Px.gd_ivT ?_)
    | (with_reducible refine Px.gd_ivF ?_)
    | (with_reducible refine Px.gs_nil ?_)
    | (with_reducible refine Px.gs_set ?_)
    | (with_reducible refine Px.gs_expr ?_)
    | (with_reducible refine Px.gs_ret ?_)
    | (with_reducible refine Px.gs_retN ?_)
    | (with_reducible refine Px.gs_if ?_)
    | (with_reducible refine Px.gs_brk ?_)
    | (with_reducible refine Px.gs_cnt ?_)
    | (with_reducible refine Px.gs_asg ?_)
    | (with_reducible refine Px.gs_fgName ?_)
    | (with_reducible refine Px.gs_fgsNil ?_)
    | (with_reducible refine Px.gs_fgsCons ?_)
    | (with_reducible refine Px.gs_fgSub ?_)
    | (with_reducible refine Px.gs_for ?_)
    | (with_reducible refine Px.gd_ok ?_)
    | (with_reducible refine Px.gd_addS ?_ ?_; (· walk_at "W28l"))
    | (with_reducible refine Px.gd_addT ?_ ?_; (· walk_at "W28l"))
    | (with_reducible refine Px.gd_mulI ?_ ?_; (· walk_at "W28l"))
    | (with_reducible refine Px.gd_fdivI ?_ ?_; (· walk_at "W28l"))
    | (with_reducible refine Px.gd_modI ?_ ?_; (· walk_at "W28l"))
    | (with_reducible refine Px.gd_powI ?_ ?_; (· walk_at "W28l"))
    | (with_reducible refine Px.gd_cutS ?_ ?_; (· walk_at "W28l"))
    | (with_reducible refine Px.gd_lenS ?_ ?_; (· walk_at "W28l"))
    | (with_reducible refine Px.gd_strI ?_ ?_; (· walk_at "W28l"))
    | (with_reducible refine Px.gd_divmod ?_ ?_; (· walk_at "W28l"))
    | (with_reducible refine Px.gd_mkTup ?_ ?_; (· walk_at "W28l"))
    | (with_reducible refine Px.gd_mkLst ?_ ?_; (· walk_at "W28l"))
    | (with_reducible refine Px.gd_rg1 ?_ ?_; (· walk_at "W28l"))
    | (with_reducible refine Px.gd_rg2 ?_ ?_; (· walk_at "W28l"))
    | (with_reducible refine Px.gd_split ?_ ?_; (· walk_at "W28l"))
    | (with_reducible refine Px.gd_tupS ?_ ?_; (· walk_at "W28l"))
    | (with_reducible refine Px.gs_fgTup ?_ ?_; (· walk_at "W28l"))
    | (with_reducible refine Px.gd_cutKS ?_ ?_; (· walk_at "W28l"))
    | (with_reducible refine Px.gs_fgTup (by with_unfolding_all rfl) ?_)
    | (with_reducible refine Px.gd_isi (by with_unfolding_all rfl) ?_)
    | (with_reducible refine Px.gd_inT (by with_unfolding_all rfl) ?_)
    | (with_reducible refine Px.gd_inTI (by with_unfolding_all rfl) ?_)
    | (with_reducible refine Px.gd_ninT (by with_unfolding_all rfl) ?_)
    | (with_reducible refine Px.gd_ninTI (by with_unfolding_all rfl) ?_)))
local macro_rules | `(tactic| walk_at "W284") => `(tactic| (first
    | (with_reducible refine Px.gd_ixS Px.atI0 ?_ ?_; (· walk_at "W28l"))
    | (with_reducible refine Px.gd_ixL (by walk_at "W28h") Px.atI0 ?_)
    | (with_reducible refine Px.gd_ixT Px.atI0 ?_)
    | (with_reducible refine Px.gd_newS (by assumption) fun n h' hn S => ?_; dsimp only [List.nil_append, List.cons_append] at S)
    | (with_reducible refine G.gd_pick (by assumption) (by assumption) ?_ ?_ ?_ fun v h' bg' v0 v1 hb S => ?_; (· omega); (· walk_at "W28l"); (· walk_at "W28l"))
    | (with_reducible refine Px.gd_ixL (by walk_at "W28h") ?_ ?_; (· rfl))
    | (with_reducible refine Px.gd_ixSA ?_ ?_ ?_ fun c hc => ?_; (· omega); (· walk_at "W28l"); (· walk_at "W28l"))
    | (with_reducible refine Px.gd_ixLA (by walk_at "W28h") ?_ ?_ fun x hx => ?_; (· omega); (· walk_at "W28l"))
    | (with_reducible refine Px.gd_addL (by walk_at "W28h") (by walk_at "W28h") ?_ ?_; (· walk_at "W28l"))
    | (with_reducible refine Px.gd_mulL (by walk_at "W28h") ?_ ?_ ?_ ?_; (· walk_at "W28l"); (· omega); (· omega))
    | (with_reducible refine Px.gd_neNilE (by walk_at "W28h") (by walk_at "W28h") ?_)
    | (with_reducible refine Px.gd_eqNilE (by walk_at "W28h") (by walk_at "W28h") ?_)
    | (with_reducible refine Px.gd_lenL (by walk_at "W28h") ?_)
    | (with_reducible refine Px.gd_ivO (by walk_at "W28h") ?_)
    | (with_reducible refine Px.gd_eqNilC (by walk_at "W28h") (by walk_at "W28h") ?_)
    | (with_reducible refine Px.gd_eqNilS (by walk_at "W28h") (by walk_at "W28h") ?_)
    | (with_reducible refine Px.gd_appS0 (by assumption) ?_ fun h' S => ?_; (· walk_at "W28l"))
    | (with_reducible refine Px.gd_appS1 (by assumption) ?_ fun h' S => ?_; (· walk_at "W28l"))
    | (with_reducible refine Px.gd_appS2 (by assumption) ?_ fun h' S => ?_; (· walk_at "W28l"))
    | (with_reducible refine Px.gd_appS3 (by assumption) ?_ fun h' S => ?_; (· walk_at "W28l"))
    | (rw [if_pos rfl])
    | (rw [if_neg Bool.false_ne_true])
    | (rw [if_pos (by simp only [decide_eq_true_eq, Bool.not_eq_true', decide_eq_false_iff_not]; omega)])
    | (rw [if_neg (by simp only [decide_eq_true_eq, Bool.not_eq_true', decide_eq_false_iff_not]; omega)])
    | (rw [if_pos (by decide)])
    | (rw [if_neg (by decide)])))
local macro_rules | `(tactic| walk_at "W285") => `(tactic| (first
    | (with_reducible refine Px.gd_ixS Px.atI0 ?_ ?_; (· walk_at "W28l"))
    | (with_reducible refine Px.gd_ixL (by walk_at "W28h") Px.atI0 ?_)
    | (with_reducible refine Px.gd_ixT Px.atI0 ?_)
    | (with_reducible refine G.gd_pick (by assumption) (by assumption) ?_ ?_ ?_ fun v h' bg' v0 v1 hb S => ?_; (· omega); (· walk_at "W28l"); (· walk_at "W28l"))
    | (with_reducible refine Px.gd_ixL (by walk_at "W28h") ?_ ?_; (· rfl))
    | (with_reducible refine Px.gd_ixSA ?_ ?_ ?_ fun c hc => ?_; (· omega); (· walk_at "W28l"); (· walk_at "W28l"))
    | (with_reducible refine Px.gd_ixLA (by walk_at "W28h") ?_ ?_ fun x hx => ?_; (· omega); (· walk_at "W28l"))
    | (with_reducible refine Px.gd_addL (by walk_at "W28h") (by walk_at "W28h") ?_ ?_; (· walk_at "W28l"))
    | (with_reducible refine Px.gd_mulL (by walk_at "W28h") ?_ ?_ ?_ ?_; (· walk_at "W28l"); (· omega); (· omega))
    | (with_reducible refine Px.gd_neNilE (by walk_at "W28h") (by walk_at "W28h") ?_)
    | (with_reducible refine Px.gd_eqNilE (by walk_at "W28h") (by walk_at "W28h") ?_)
    | (with_reducible refine Px.gd_lenL (by walk_at "W28h") ?_)
    | (with_reducible refine Px.gd_ivO (by walk_at "W28h") ?_)
    | (with_reducible refine Px.gd_eqNilC (by walk_at "W28h") (by walk_at "W28h") ?_)
    | (with_reducible refine Px.gd_eqNilS (by walk_at "W28h") (by walk_at "W28h") ?_)
    | (with_reducible refine Px.gd_appS0 (by assumption) ?_ fun h' S => ?_; (· walk_at "W28l"))
    | (with_reducible refine Px.gd_appS1 (by assumption) ?_ fun h' S => ?_; (· walk_at "W28l"))
    | (with_reducible refine Px.gd_appS2 (by assumption) ?_ fun h' S => ?_; (· walk_at "W28l"))
    | (with_reducible refine Px.gd_appS3 (by assumption) ?_ fun h' S => ?_; (· walk_at "W28l"))
    | (rw [if_pos rfl])
    | (rw [if_neg Bool.false_ne_true])
    | (rw [if_pos (by simp only [decide_eq_true_eq, Bool.not_eq_true', decide_eq_false_iff_not]; omega)])
    | (rw [if_neg (by simp only [decide_eq_true_eq, Bool.not_eq_true', decide_eq_false_iff_not]; omega)])
    | (rw [if_pos (by decide)])
    | (rw [if_neg (by decide)])))
local macro_rules | `(tactic| walk_at "W286") => `(tactic| (first
    | (with_reducible refine Px.gd_v0 ?_)
    | (with_reducible refine Px.gd_v1 ?_)
    | (with_reducible refine Px.gd_v2 ?_)
    | (with_reducible refine Px.gd_v3 ?_)
    | (with_reducible refine Px.gd_v4 ?_)
    | (with_reducible refine Px.gd_v5 ?_)
    | (with_reducible refine Px.gd_v6 ?_)
    | (with_reducible refine Px.gd_v7 ?_)
    | (with_reducible refine Px.gd_v8 ?_)
    | (with_reducible refine Px.gd_v9 ?_)
    | (with_reducible refine Px.gd_v10 ?_)
    | (with_reducible refine Px.gd_v11 ?_)
    | (with_reducible refine Px.gd_v12 ?_)
    | (with_reducible refine Px.gd_v13 ?_)
    | (with_reducible refine Px.gd_c ?_)
    | (with_reducible refine Px.gd_bin ?_)
    | (with_reducible refine Px.gd_un ?_)
    | (with_reducible refine Px.gd_chain ?_)
    | (with_reducible refine Px.gd_bOf ?_)
    | (with_reducible refine Px.gd_tAnd ?_)
    | (with_reducible refine Px.gd_tOr ?_)
    | (with_reducible refine Px.gd_tNot ?_)
    | (with_reducible refine Px.gd_tTrue ?_)
    | (with_reducible refine Px.gd_eAnd ?_)
    | (with_reducible refine Px.gd_eOr ?_)
    | (with_reducible refine Px.gd_eNot ?_)
    | (with_reducible refine Px.gd_eIf ?_)
    | (with_reducible refine Px.gd_aNil ?_)
    | (with_reducible refine Px.gd_aCons ?_)
    | (with_reducible refine Px.gd_eTup ?_)
    | (with_reducible refine Px.gd_eLst ?_)
    | (with_reducible refine Px.gd_eCall ?_)
    | (with_reducible refine Px.gd_eCallD ?_)
    | (with_reducible refine Px.gd_eCallK ?_)
    | (with_reducible refine Px.gd_oNone ?_)
    | (with_reducible refine Px.gd_oSome ?_)
    | (with_reducible refine Px.gd_eCut ?_)
    | (with_reducible refine Px.gd_eCutK ?_)
    | (with_reducible refine Px.gd_eM0 ?_)
    | (with_reducible refine Px.gd_eM1 ?_)
    | (with_reducible refine Px.gd_jNil ?_)
    | (with_reducible refine Px.gd_jCons ?_)
    | (with_reducible refine Px.gd_eJoined ?_)
    | (with_reducible refine Px.gd_fmtS ?_)
    | (with_reducible refine Px.gd_iVal ?_)
    | (with_reducible refine Px.gd_iRange1 ?_)
    | (with_reducible refine Px.gd_iRange2 ?_)
    | (with_reducible refine Px.gd_iEnum ?_)
    | (with_reducible refine Px.gd_eDnew ?_)
    | (with_reducible refine Px.gd_eComp ?_)
    | (with_reducible refine Px.gd_eComp2 ?_)
    | (with_reducible refine Px.ob_bl ?_)
    | (with_reducible refine Px.oi_int ?_)
    | (with_reducible refine Px.os_str ?_)
    | (with_reducible refine Px.gd_addI ?_)
    | (with_reducible refine Px.gd_subI ?_)
    | (with_reducible refine Px.gd_negI ?_)
    | (with_reducible refine Px.gd_ltI ?_)
    | (with_reducible refine Px.gd_leI ?_)
    | (with_reducible refine Px.gd_gtI ?_)
    | (with_reducible refine Px.gd_geI ?_)
    | (with_reducible refine Px.gd_eqI ?_)
    | (with_reducible refine Px.gd_neI ?_)
    | (with_reducible refine Px.gd_eqS ?_)
    | (with_reducible refine Px.gd_neS ?_)
    | (with_reducible refine Px.gd_isN ?_)
    | (with_reducible refine Px.gd_isNotB ?_)
    | (with_reducible refine Px.gd_isB ?_)
    | (with_reducible refine Px.gd_inC ?_)
    | (with_reducible refine Px.gd_ninC ?_)
    | (with_reducible refine Px.gd_cutT ?_)
    | (with_reducible refine Px.gd_lenT ?_)
    | (with_reducible refine Px.gd_lenF ?_)
    | (with_reducible refine Px.gd_max ?_)
    | (with_reducible refine Px.gd_min ?_)
    | (with_reducible refine Px.gd_abs ?_)
    | (with_reducible refine Px.gd_intI ?_)
    | (with_reducible refine Px.gd_intB ?_)
    | (with_reducible refine Px.gd_find ?_)
    | (with_reducible refine Px.gd_tupT ?_)
    | (with_reducible refine Px.gd_ivS ?_)
    | (with_reducible refine Px.gd_ivT ?_)
    | (with_reducible refine Px.gd_ivF ?_)
    | (with_reducible refine Px.gs_cons ?_)
    | (with_reducible refine Px.gs_nil ?_)
    | (with_reducible refine Px.gs_set ?_)
    | (with_reducible refine Px.gs_expr ?_)
    | (with_reducible refine Px.gs_ret ?_)
    | (with_reducible refine Px.gs_retN ?_)
    | (with_reducible refine Px.gs_if ?_)
    | (with_reducible refine Px.gs_brk ?_)
    | (with_reducible refine Px.gs_cnt ?_)
    | (with_reducible refine Px.gs_asg ?_)
    | (with_reducible refine Px.gs_fgName ?_)
    | (with_reducible refine Px.gs_fgsNil ?_)
    | (with_reducible refine Px.gs_fgsCons ?_)
    | (with_reducible refine Px.gs_fgSub ?_)
    | (with_reducible refine Px.gs_for ?_)
    | (with_reducible refine Px.gd_ok ?_)
    | (with_reducible refine Px.gd_addS ?_ ?_; (· walk_at "W28l"))
    | (with_reducible refine Px.gd_addT ?_ ?_; (· walk_at "W28l"))
    | (with_reducible refine Px.gd_mulI ?_ ?_; (· walk_at "W28l"))
    | (with_reducible refine Px.gd_fdivI ?_ ?_; (· walk_at "W28l"))
    | (with_reducible refine Px.gd_modI ?_ ?_; (· walk_at "W28l"))
    | (with_reducible refine Px.gd_powI ?_ ?_; (· walk_at "W28l"))
    | (with_reducible refine Px.gd_cutS ?_ ?_; (· walk_at "W28l"))
    | (with_reducible refine Px.gd_lenS ?_ ?_; (· walk_at "W28l"))
    | (with_reducible refine Px.gd_strI ?_ ?_; (· walk_at "W28l"))
    | (with_reducible refine Px.gd_divmod ?_ ?_; (· walk_at "W28l"))
    | (with_reducible refine Px.gd_mkTup ?_ ?_; (· walk_at "W28l"))
    | (with_reducible refine Px.gd_mkLst ?_ ?_; (· walk_at "W28l"))
    | (with_reducible refine Px.gd_rg1 ?_ ?_; (· walk_at "W28l"))
    | (with_reducible refine Px.gd_rg2 ?_ ?_; (· walk_at "W28l"))
    | (with_reducible refine Px.gd_split ?_ ?_; (· walk_at "W28l"))
    | (with_reducible refine Px.gd_tupS ?_ ?_; (· walk_at "W28l"))
    | (with_reducible refine Px.gs_fgTup ?_ ?_; (· walk_at "W28l"))
    | (with_reducible refine Px.gd_cutKS ?_ ?_; (· walk_at "W28l"))
    | (with_reducible refine Px.gs_fgTup (by with_unfolding_all rfl) ?_)
    | (with_reducible refine Px.gd_isi (by with_unfolding_all rfl) ?_)
    | (with_reducible refine Px.gd_inT (by with_unfolding_all rfl) ?_)
    | (with_reducible refine Px.gd_inTI (by with_unfolding_all rfl) ?_)
    | (with_reducible refine Px.gd_ninT (by with_unfolding_all rfl) ?_)
    | (with_reducible refine Px.gd_ninTI (by with_unfolding_all rfl) ?_)))
local macro_rules | `(tactic| walk_at "W287") => `(tactic| (first
    | (with_reducible refine Px.gd_ixS Px.atI0 ?_ ?_; (· walk_at "W28l"))
    | (with_reducible refine Px.gd_ixL (by walk_at "W28h") Px.atI0 ?_)
    | (with_reducible refine Px.gd_ixT Px.atI0 ?_)
    | (with_reducible refine Px.gd_newS (by assumption) fun n h' hn S => ?_; dsimp only [List.nil_append, List.cons_append] at S)
    | (with_reducible refine G.gd_pick (by assumption) (by assumption) ?_ ?_ ?_ fun v h' bg' v0 v1 hb S => ?_; (· omega); (· walk_at "W28l"); (· walk_at "W28l"))
    | (with_reducible refine Px.gd_ixL (by walk_at "W28h") ?_ ?_; (· rfl))
    | (with_reducible refine Px.gd_ixSA ?_ ?_ ?_ fun c hc => ?_; (· omega); (· walk_at "W28l"); (· walk_at "W28l"))
    | (with_reducible refine Px.gd_addL (by walk_at "W28h") (by walk_at "W28h") ?_ ?_; (· walk_at "W28l"))
    | (with_reducible refine Px.gd_mulL (by walk_at "W28h") ?_ ?_ ?_ ?_; (· walk_at "W28l"); (· omega); (· omega))
    | (with_reducible refine Px.gd_neNilE (by walk_at "W28h") (by walk_at "W28h") ?_)
    | (with_reducible refine Px.gd_eqNilE (by walk_at "W28h") (by walk_at "W28h") ?_)
    | (with_reducible refine Px.gd_lenL (by walk_at "W28h") ?_)
    | (with_reducible refine Px.gd_ivO (by walk_at "W28h") ?_)
    | (with_reducible refine Px.gd_eqNilC (by walk_at "W28h") (by walk_at "W28h") ?_)
    | (with_reducible refine Px.gd_eqNilS (by walk_at "W28h") (by walk_at "W28h") ?_)
    | (with_reducible refine Px.gd_appS0 (by assumption) ?_ fun h' S => ?_; (· walk_at "W28l"))
    | (with_reducible refine Px.gd_appS1 (by assumption) ?_ fun h' S => ?_; (· walk_at "W28l"))
    | (with_reducible refine Px.gd_appS2 (by assumption) ?_ fun h' S => ?_; (· walk_at "W28l"))
    | (with_reducible refine Px.gd_appS3 (by assumption) ?_ fun h' S => ?_; (· walk_at "W28l"))
    | (rw [if_pos rfl])
    | (rw [if_neg Bool.false_ne_true])
    | (rw [if_pos (by simp only [decide_eq_true_eq, Bool.not_eq_true', decide_eq_false_iff_not]; omega)])
    | (rw [if_neg (by simp only [decide_eq_true_eq, Bool.not_eq_true', decide_eq_false_iff_not]; omega)])
    | (rw [if_pos (by decide)])
    | (rw [if_neg (by decide)])))
local macro_rules | `(tactic| walk_at "W288") => `(tactic| (first
    | (with_reducible refine Px.gd_v0 ?_)
    | (with_reducible refine Px.gd_v1 ?_)
    | (with_reducible refine Px.gd_v2 ?_)
    | (with_reducible refine Px.gd_v3 ?_)
    | (with_reducible refine Px.gd_v4 ?_)
    | (with_reducible refine Px.gd_v5 ?_)
    | (with_reducible refine Px.gd_v6 ?_)
    | (with_reducible refine Px.gd_v7 ?_)
    | (with_reducible refine Px.gd_v8 ?_)
    | (with_reducible refine Px.gd_v9 ?_)
    | (with_reducible refine Px.gd_v10 ?_)
    | (with_reducible refine Px.gd_v11 ?_)
    | (with_reducible refine Px.gd_v12 ?_)
    | (with_reducible refine Px.gd_v13 ?_)
    | (with_reducible refine Px.gd_c ?_)
    | (with_reducible refine Px.gd_bin ?_)
    | (with_reducible refine Px.gd_un ?_)
    | (with_reducible refine Px.gd_chain ?_)
    | (with_reducible refine Px.gd_bOf ?_)
    | (with_reducible refine Px.gd_tAnd ?_)
    | (with_reducible refine Px.gd_tOr ?_)
    | (with_reducible refine Px.gd_tNot ?_)
    | (with_reducible refine Px.gd_tTrue ?_)
    | (with_reducible refine Px.gd_eAnd ?_)
    | (with_reducible refine Px.gd_eOr ?_)
    | (with_reducible refine Px.gd_eNot ?_)
    | (with_reducible refine Px.gd_eIf ?_)
    | (with_reducible refine Px.gd_aNil ?_)
    | (with_reducible refine Px.gd_aCons ?_)
    | (with_reducible refine Px.gd_eTup ?_)
    | (with_reducible refine Px.gd_eLst ?_)
    | (with_reducible refine Px.gd_eCall ?_)
    | (with_reducible refine Px.gd_eCallD ?_)
    | (with_reducible refine Px.gd_eCallK ?_)
    | (with_reducible refine Px.gd_oNone ?_)
    | (with_reducible refine Px.gd_oSome ?_)
    | (with_reducible refine Px.gd_eCut ?_)
    | (with_reducible refine Px.gd_eCutK ?_)
    | (with_reducible refine Px.gd_eM0 ?_)
    | (with_reducible refine Px.gd_eM1 ?_)
    | (with_reducible refine Px.gd_jNil ?_)
    | (with_reducible refine Px.gd_jCons ?_)
    | (with_reducible refine Px.gd_eJoined ?_)
    | (with_reducible refine Px.gd_fmtS ?_)
    | (with_reducible refine Px.gd_iVal ?_)
    | (with_reducible refine Px.gd_iRange1 ?_)
    | (with_reducible refine Px.gd_iRange2 ?_)
    | (with_reducible refine Px.gd_iEnum ?_)
    | (with_reducible refine Px.gd_eDnew ?_)
    | (with_reducible refine Px.gd_eComp ?_)
    | (with_reducible refine Px.gd_eComp2 ?_)
    | (with_reducible refine Px.ob_bl ?_)
    | (with_reducible refine Px.oi_int ?_)
    | (with_reducible refine Px.os_str ?_)
    | (with_reducible refine Px.gd_addI ?_)
    | (with_reducible refine Px.gd_subI ?_)
    | (with_reducible refine Px.gd_negI ?_)
    | (with_reducible refine Px.gd_ltI ?_)
    | (with_reducible refine Px.gd_leI ?_)
    | (with_reducible refine Px.gd_gtI ?_)
    | (with_reducible refine Px.gd_geI ?_)
    | (with_reducible refine Px.gd_eqI ?_)
    | (with_reducible refine Px.gd_neI ?_)
    | (with_reducible refine Px.gd_eqS ?_)
    | (with_reducible refine Px.gd_neS ?_)
    | (with_reducible refine Px.gd_isN ?_)
    | (with_reducible refine Px.gd_isNotB ?_)
    | (with_reducible refine Px.gd_isB ?_)
    | (with_reducible refine Px.gd_inC ?_)
    | (with_reducible refine Px.gd_ninC ?_)
    | (with_reducible refine Px.gd_cutT ?_)
    | (with_reducible refine Px.gd_lenT ?_)
    | (with_reducible refine Px.gd_lenF ?_)
    | (with_reducible refine Px.gd_max ?_)
    | (with_reducible refine Px.gd_min ?_)
    | (with_reducible refine Px.gd_abs ?_)
    | (with_reducible refine Px.gd_intI ?_)
    | (with_reducible refine Px.gd_intB ?_)
    | (with_reducible refine Px.gd_find ?_)
    | (with_reducible refine Px.gd_tupT ?_)
    | (with_reducible refine Px.gd_ivS ?_)
    | (with_reducible refine Px.gd_ivT ?_)
    | (with_reducible refine Px.gd_ivF ?_)
    | (with_reducible refine Px.gs_cons ?_)
    | (with_reducible refine Px.gs_nil ?_)
    | (with_reducible refine Px.gs_set ?_)
    | (with_reducible refine Px.gs_expr ?_)
    | (with_reducible refine Px.gs_ret ?_)
    | (with_reducible refine Px.gs_retN ?_)
    | (with_reducible refine Px.gs_if ?_)
    | (with_reducible refine Px.gs_brk ?_)
    | (with_reducible refine Px.gs_cnt ?_)
    | (with_reducible refine Px.gs_asg ?_)
    | (with_reducible refine Px.gs_fgName ?_)
    | (with_reducible refine Px.gs_fgsNil ?_)
    | (with_reducible refine Px.gs_fgsCons ?_)
    | (with_reducible refine Px.gs_fgSub ?_)
    | (with_reducible refine Px.gs_for ?_)
    | (with_reducible refine Px.gd_ok ?_)
    | (with_reducible refine Px.gd_addS ?_ ?_; (· walk_at "W28l"))
    | (with_reducible refine Px.gd_mulI ?_ ?_; (· walk_at "W28l"))
    | (with_reducible refine Px.gd_fdivI ?_ ?_; (· walk_at "W28l"))
    | (with_reducible refine Px.gd_modI ?_ ?_; (· walk_at "W28l"))
    | (with_reducible refine Px.gd_powI ?_ ?_; (· walk_at "W28l"))
    | (with_reducible refine Px.gd_cutS ?_ ?_; (· walk_at "W28l"))
    | (with_reducible refine Px.gd_lenS ?_ ?_; (· walk_at "W28l"))
    | (with_reducible refine Px.gd_strI ?_ ?_; (· walk_at "W28l"))
    | (with_reducible refine Px.gd_divmod ?_ ?_; (· walk_at "W28l"))
    | (with_reducible refine Px.gd_mkTup ?_ ?_; (· walk_at "W28l"))
    | (with_reducible refine Px.gd_mkLst ?_ ?_; (· walk_at "W28l"))
    | (with_reducible refine Px.gd_rg1 ?_ ?_; (· walk_at "W28l"))
    | (with_reducible refine Px.gd_rg2 ?_ ?_; (· walk_at "W28l"))
    | (with_reducible refine Px.gd_split ?_ ?_; (· walk_at "W28l"))
    | (with_reducible refine Px.gd_tupS ?_ ?_; (· walk_at "W28l"))
    | (with_reducible refine Px.gs_fgTup ?_ ?_; (· walk_at "W28l"))
    | (with_reducible refine Px.gd_cutKS ?_ ?_; (· walk_at "W28l"))
    | (with_reducible refine Px.gs_fgTup (by with_unfolding_all rfl) ?_)
    | (with_reducible refine Px.gd_isi (by with_unfolding_all rfl) ?_)
    | (with_reducible refine Px.gd_inT (by with_unfolding_all rfl) ?_)
    | (with_reducible refine Px.gd_inTI (by with_unfolding_all rfl) ?_)
    | (with_reducible refine Px.gd_ninT (by with_unfolding_all rfl) ?_)
    | (with_reducible refine Px.gd_ninTI (by with_unfolding_all rfl) ?_)))
set_option hygiene true
namespace G
open Px
theorem parts_ok (kd : Kd) (ws : List Tx) (hws : 0 < ws.length ∧ ws.length ≤ 10) : ∀ (n : Nat) (deep : Int), n ≤ 12 → 1 ≤ deep → deep ≤ n → PartsOk kd ws n deep
  | 0, deep, _, h1, h2 => by omega
  | n + 1, deep, hn, h1, h2 => parts_step kd ws hws n (fun d a b => parts_ok kd ws hws n d (by omega) a b) deep h1 (by omega) hn
theorem gd_saying {kd : Kd} {ws : List Tx} {E : String → Option D → Hy → Prop} {h : Hy} {Q : D × Hy → Prop} {u w k : Nat} {top : Int} {bg : Ob} {L : List (Nat × Ob)} (hws : 0 < ws.length ∧ ws.length ≤ 10) (S : St [] u h ((u, bg) :: (w, .lst (ws.map D.str)) :: L)) (hb : Urn k bg) (hk : k + 10000000000000 < 1000000000000000) (t0 : 0 ≤ top) (t1 : top ≤ 60)
    (q : ∀ (s : Sy) h' bg', s.aw kd ws → s.deep ≤ 4 → (s.size : Int) ≤ top → Urn (k + 10000000000000) bg' → St [] u h' ((u, bg') :: (w, .lst (ws.map D.str)) :: L) → Q (.tup s.ds, h')) : Good (f__law_saying [.ref u, .str kd.tx, .ref w, .int top] h) Q E := by
  have hc2 := cU_12
  have ihp := parts_ok kd ws hws 12 4 (by omega) (by omega) (by omega)
  unfold PartsOk at ihp
  refine gd_ownT (b := u) (by rfl) (by simp [D.lt]) S ?_
  unfold b__law_saying
  simp only [startE, List.map_cons, List.map_nil, List.length_cons, List.length_nil, Nat.reduceAdd, Nat.reduceSub, List.replicate_succ, List.replicate_zero, List.cons_append, List.nil_append]
  walk_at "W28n"
  repeat ((first | walk_at "W283" | walk_at "W284"); walk_at "W28n")
  refine gs_cons ?_
  walk_at "W28n"
  repeat ((first | walk_at "W283" | (with_reducible refine gd_newF1 (by assumption) fun l h' hl S => ?_) | walk_at "W285"); walk_at "W28n")
  refine gs_cons ?_
  walk_at "W28n"
  repeat ((first | walk_at "W283" | walk_at "W284"); walk_at "W28n")
  refine gs_cons ?_
  walk_at "W28n"
  repeat ((first | walk_at "W283" | walk_at "W284"); walk_at "W28n")
  refine gs_while (fun n ρ h' => ∃ (s : Sy) (m : Int) (bg' : Ob), ρ = [some (.ref u), some (.str kd.tx), some (.ref w), some (.int top), some (.ref l), some (.tup s.ds)] ∧ m ≤ n ∧ n ≤ 60 ∧ 0 ≤ m ∧ s.aw kd ws ∧ s.deep ≤ 4 ∧ (s.size : Int) + m ≤ top ∧ St [] u h' ((u, bg') :: (l, .lst [.int m]) :: (w, .lst (ws.map D.str)) :: L) ∧ Urn (k + 1 + (60 - n) * cU 12) bg') (fun n ρ h' i => ?_) 64 60 _ _ (by omega) ⟨.nil, v, bg', rfl, by omega, by omega, by omega, aw_nil, by simp [Sy.deep], by simp [Sy.size]; omega, S, hb.mono (by omega)⟩
  with_reducible obtain ⟨s, m, bg', rfl, n1, n2, m0, s1, s2, s3, S, hb⟩ := i
  have hmul : (60 - n) * cU 12 ≤ 60 * cU 12 := Nat.mul_le_mul_right _ (by omega)
  walk_at "W28n"
  repeat ((first | walk_at "W286" | walk_at "W287"); walk_at "W28n")
  by_cases c0 : 0 < m
  · rw [if_pos (by simpa using c0)]
    obtain ⟨n', rfl⟩ : ∃ n', n = n' + 1 := ⟨n - 1, by omega⟩
    refine ⟨n', rfl, ?_⟩
    unfold l__law_saying_0
    walk_at "W28n"
    repeat ((first | walk_at "W288" | (with_reducible refine ihp _ u l w _ _ _ _ _ _ (by assumption) hb ?_ ?_ ?_ fun s2 h' bg' m2 t1 t2 t3 t4 t5 hb S => ?_; (· omega); (· omega); (· omega)) | walk_at "W284"); walk_at "W28n")
    have ez := Sy.size_app s s2
    have ne := t5 (by omega)
    have l2 := s2.len_size
    have hne : 0 < s2.pl.length := List.length_pos_iff.mpr ne
    with_reducible refine gd_addSy (by omega) (by omega) ?_
    refine ⟨s.app s2, m2, bg', rfl, by omega, by omega, t4, aw_app s1 t1, Sy.deep_app.mpr ⟨by omega, by omega⟩, by omega, S, hb.mono ?_⟩
    have e : (60 - n') = (60 - (n' + 1)) + 1 := by omega
    rw [e, Nat.add_mul, Nat.one_mul]
    omega
  · rw [if_neg (by simpa using c0)]
    walk_at "W28n"
    repeat ((first | walk_at "W286" | walk_at "W284"); walk_at "W28n")
    refine ⟨by simp, (u, bg') :: (w, .lst (ws.map D.str)) :: L, rfl, St.sub S (.cons₂ _ (.cons _ (.refl _))), fun h2 S2 => q s h2 bg' s1 s2 (by omega) (hb.mono (by omega)) S2⟩
end G
set_option hygiene false
local macro_rules | `(tactic| walk_at "X28n") => `(tactic| (try dsimp only [List.set_cons_zero, List.set_cons_succ, Px.wipeE_cons, Px.wipeE_nil, Px.kG, Px.wipeE_cons, List.nil_append, List.cons_append, List.length_nil, List.length_cons]))
local macro_rules | `(tactic| walk_at "X28l") => `(tactic| (first | omega | decide | (exact ⟨by decide, by omega⟩) | (simp only [List.length_append, List.length_cons, List.length_nil, List.length_map, List.length_take, List.length_drop, List.length_replicate]; omega)))
local macro_rules | `(tactic| walk_at "X28h") => `(tactic| (first | assumption | exact Px.St.g0 (by assumption) | exact Px.St.g1 (by assumption) | exact Px.St.g2 (by assumption) | exact Px.St.g3 (by assumption) | exact Px.St.g4 (by assumption) | exact Px.St.g5 (by assumption) | exact Px.St.g6 (by assumption) | exact Px.St.g7 (by assumption) | exact Px.St.g8 (by assumption) | exact Px.St.g9 (by assumption) | exact Px.St.g10 (by assumption) | exact Px.St.g11 (by assumption) | exact Px.St.g12 (by assumption) | exact Px.St.g13 (by assumption) | exact Px.St.g14 (by assumption)))
local macro_rules | `(tactic| walk_at "X283") => `(tactic| (first
    | (with_reducible refine Px.gd_v0 ?_)
    | (with_reducible refine Px.gd_v1 ?_)
    | (with_reducible refine Px.gd_v2 ?_)
    | (with_reducible refine Px.gd_v3 ?_)
    | (with_reducible refine Px.gd_v4 ?_)
    | (with_reducible refine Px.gd_v5 ?_)
    | (with_reducible refine Px.gd_v6 ?_)
    | (with_reducible refine Px.gd_v7 ?_)
    | (with_reducible refine Px.gd_v8 ?_)
    | (with_reducible refine Px.gd_v9 ?_)
    | (with_reducible refine Px.gd_v10 ?_)
    | (with_reducible refine Px.gd_v11 ?_)
    | (with_reducible refine Px.gd_v12 ?_)
    | (with_reducible refine Px.gd_v13 ?_)
    | (with_reducible refine Px.gd_c ?_)
    | (with_reducible refine Px.gd_bin ?_)
    | (with_reducible refine Px.gd_un ?_)
    | (with_reducible refine Px.gd_chain ?_)
    | (with_reducible refine Px.gd_bOf ?_)
    | (with_reducible refine Px.gd_tAnd ?_)
    | (with_reducible refine Px.gd_tOr ?_)
    | (with_reducible refine Px.gd_tNot ?_)
    | (with_reducible refine Px.gd_tTrue ?_)
    | (with_reducible refine Px.gd_eAnd ?_)
    | (with_reducible refine Px.gd_eOr ?_)
    | (with_reducible refine Px.gd_eNot ?_)
    | (with_reducible refine Px.gd_eIf ?_)
    | (with_reducible refine Px.gd_aNil ?_)
    | (with_reducible refine Px.gd_aCons ?_)
    | (with_reducible refine Px.gd_eTup ?_)
    | (with_reducible refine Px.gd_eLst ?_)
    | (with_reducible refine Px.gd_eCall ?_)
    | (with_reducible refine Px.gd_eCallD ?_)
    | (with_reducible refine Px.gd_eCallK ?_)
    | (with_reducible refine Px.gd_oNone ?_)
    | (with_reducible refine Px.gd_oSome ?_)
    | (with_reducible refine Px.gd_eCut ?_)
    | (with_reducible refine Px.gd_eCutK ?_)
    | (with_reducible refine Px.gd_eM0 ?_)
    | (with_reducible refine Px.gd_eM1 ?_)
    | (with_reducible refine Px.gd_jNil ?_)
    | (with_reducible refine Px.gd_jCons ?_)
    | (with_reducible refine Px.gd_eJoined ?_)
    | (with_reducible refine Px.gd_fmtS ?_)
    | (with_reducible refine Px.gd_iVal ?_)
    | (with_reducible refine Px.gd_iRange1 ?_)
    | (with_reducible refine Px.gd_iRange2 ?_)
    | (with_reducible refine Px.gd_iEnum ?_)
    | (with_reducible refine Px.gd_eDnew ?_)
    | (with_reducible refine Px.gd_eComp ?_)
    | (with_reducible refine Px.gd_eComp2 ?_)
    | (with_reducible refine Px.ob_bl ?_)
    | (with_reducible refine Px.oi_int ?_)
    | (with_reducible refine Px.os_str ?_)
    | (with_reducible refine Px.gd_addI ?_)
    | (with_reducible refine Px.gd_subI ?_)
    | (with_reducible refine Px.gd_negI ?_)
    | (with_reducible refine Px.gd_ltI ?_)
    | (with_reducible refine Px.gd_leI ?_)
    | (with_reducible refine Px.gd_gtI ?_)
    | (with_reducible refine Px.gd_geI ?_)
    | (with_reducible refine Px.gd_eqI ?_)
    | (with_reducible refine Px.gd_neI ?_)
    | (with_reducible refine Px.gd_eqS ?_)
    | (with_reducible refine Px.gd_neS ?_)
    | (with_reducible refine Px.gd_isN ?_)
    | (with_reducible refine Px.gd_isNotB ?_)
    | (with_reducible refine Px.gd_isB ?_)
    | (with_reducible refine Px.gd_inC ?_)
    | (with_reducible refine Px.gd_ninC ?_)
    | (with_reducible refine Px.gd_cutT ?_)
    | (with_reducible refine Px.gd_lenT ?_)
    | (with_reducible refine Px.gd_lenF ?_)
    | (with_reducible refine Px.gd_max ?_)
    | (with_reducible refine Px.gd_min ?_)
    | (with_reducible refine Px.gd_abs ?_)
    | (with_reducible refine Px.gd_intI ?_)
    | (with_reducible refine Px.gd_intB ?_)
    | (with_reducible refine Px.gd_find ?_)
    | (with_reducible refine Px.gd_tupT ?_)
    | (with_reducible refine Px.gd_ivS ?_)
    | (with_reducible refine Px.gd_ivT ?_)
    | (with_reducible refine Px.gd_ivF ?_)
    | (with_reducible refine Px.gd_new0 ?_)
    | (with_reducible refine Px.gs_cons ?_)
    | (with_reducible refine Px.gs_nil ?_)
    | (with_reducible refine Px.gs_set ?_)
    | (with_reducible refine Px.gs_expr ?_)
    | (with_reducible refine Px.gs_ret ?_)
    | (with_reducible refine Px.gs_retN ?_)
    | (with_reducible refine Px.gs_if ?_)
    | (with_reducible refine Px.gs_brk ?_)
    | (with_reducible refine Px.gs_cnt ?_)
    | (with_reducible refine Px.gs_asg ?_)
    | (with_reducible refine Px.gs_fgName ?_)
    | (with_reducible refine Px.gs_fgsNil ?_)
    | (with_reducible refine Px.gs_fgsCons ?_)
    | (with_reducible refine Px.gs_fgSub ?_)
    | (with_reducible refine Px.gs_for ?_)
    | (with_reducible refine Px.gd_ok ?_)
    | (with_reducible refine Px.gd_addS ?_ ?_; (· walk_at "X28l"))
    | (with_reducible refine Px.gd_addT ?_ ?_; (· walk_at "X28l"))
    | (with_reducible refine Px.gd_mulI ?_ ?_; (· walk_at "X28l"))
    | (with_reducible refine Px.gd_fdivI ?_ ?_; (· walk_at "X28l"))
    | (with_reducible refine Px.gd_modI ?_ ?_; (· walk_at "X28l"))
    | (with_reducible refine Px.gd_powI ?_ ?_; (· walk_at "X28l"))
    | (with_reducible refine Px.gd_cutS ?_ ?_; (· walk_at "X28l"))
    | (with_reducible refine Px.gd_lenS ?_ ?_; (· walk_at "X28l"))
    | (with_reducible refine Px.gd_strI ?_ ?_; (· walk_at "X28l"))
    | (with_reducible refine Px.gd_divmod ?_ ?_; (· walk_at "X28l"))
    | (with_reducible refine Px.gd_mkTup ?_ ?_; (· walk_at "X28l"))
    | (with_reducible refine Px.gd_mkLst ?_ ?_; (· walk_at "X28l"))
    | (with_reducible refine Px.gd_rg1 ?_ ?_; (· walk_at "X28l"))
    | (with_reducible refine Px.gd_rg2 ?_ ?_; (· walk_at "X28l"))
    | (with_reducible refine Px.gd_split ?_ ?_; (· walk_at "X28l"))
    | (with_reducible refine Px.gd_tupS ?_ ?_; (· walk_at "X28l"))
    | (with_reducible refine Px.gs_fgTup ?_ ?_; (· walk_at "X28l"))
    | (with_reducible refine Px.gd_cutKS ?_ ?_; (· walk_at "X28l"))
    | (with_reducible refine Px.gs_fgTup (by with_unfolding_all rfl) ?_)
    | (with_reducible refine Px.gd_isi (by with_unfolding_all rfl) ?_)
    | (with_reducible refine Px.gd_inT (by with_unfolding_all rfl) ?_)
    | (with_reducible refine Px.gd_inTI (by with_unfolding_all rfl) ?_)
    | (with_reducible refine Px.gd_ninT (by with_unfolding_all rfl) ?_)
    | (with_reducible refine Px.gd_ninTI (by with_unfolding_all rfl) ?_)))
local macro_rules | `(tactic| walk_at "X284") => `(tactic| (first
    | (with_reducible refine Px.gd_ixS Px.atI0 ?_ ?_; (· walk_at "X28l"))
    | (with_reducible refine Px.gd_ixLg ?_; refine ⟨_, _, rfl, Px.atI0, ?_⟩)
    | (with_reducible refine Px.gd_ixT Px.atI0 ?_)
    | (with_reducible refine Px.gd_ivOg ?_; refine ⟨_, rfl, ?_⟩)
    | (with_reducible refine Px.gd_ivAg ?_; refine ⟨_, _, rfl, rfl, ?_, ?_, ?_⟩; (· simp; done); (· simp; done))
    | (with_reducible refine Px.gd_eqNilEg ?_; refine ⟨rfl, rfl, ?_⟩)
    | (with_reducible refine Px.gd_eqNilCg ?_; refine ⟨_, rfl, rfl, ?_⟩)
    | (with_reducible refine Px.gd_eqNilSg ?_; refine ⟨_, rfl, rfl, ?_⟩)
    | (with_reducible refine Px.gd_ixLg ?_; refine ⟨_, _, rfl, rfl, ?_⟩)
    | (with_reducible refine Px.gd_ixTg ?_; refine ⟨_, rfl, ?_⟩)
    | (with_reducible refine Px.gd_lenLg ?_; refine ⟨_, rfl, ?_⟩)
    | (with_reducible refine Px.gd_addLg ?_; refine ⟨_, _, rfl, rfl, ?_, ?_⟩; (· walk_at "X28l"))
    | (with_reducible refine Px.gd_ixSA ?_ ?_ ?_ fun c hc => ?_; (· omega); (· walk_at "X28l"); (· walk_at "X28l"))
    | (rw [if_pos rfl])
    | (rw [if_neg Bool.false_ne_true])
    | (rw [if_pos (by simp only [decide_eq_true_eq, Bool.not_eq_true', decide_eq_false_iff_not]; omega)])
    | (rw [if_neg (by simp only [decide_eq_true_eq, Bool.not_eq_true', decide_eq_false_iff_not]; omega)])
    | (rw [if_pos (by decide)])
    | (rw [if_neg (by decide)])))
local macro_rules | `(tactic| walk_at "X285") => `(tactic| (first
    | (with_reducible refine Px.gd_v0 ?_)
    | (with_reducible refine Px.gd_v1 ?_)
    | (with_reducible refine Px.gd_v2 ?_)
    | (with_reducible refine Px.gd_v3 ?_)
    | (with_reducible refine Px.gd_v4 ?_)
    | (with_reducible refine Px.gd_v5 ?_)
    | (with_reducible refine Px.gd_v6 ?_)
    | (with_reducible refine Px.gd_v7 ?_)
    | (with_reducible refine Px.gd_v8 ?_)
    | (with_reducible refine Px.gd_v9 ?_)
    | (with_reducible refine Px.gd_v10 ?_)
    | (with_reducible refine Px.gd_v11 ?_)
    | (with_reducible refine Px.gd_v12 ?_)
    | (with_reducible refine Px.gd_v13 ?_)
    | (with_reducible refine Px.gd_c ?_)
    | (with_reducible refine Px.gd_bin ?_)
    | (with_reducible refine Px.gd_un ?_)
    | (with_reducible refine Px.gd_chain ?_)
    | (with_reducible refine Px.gd_bOf ?_)
    | (with_reducible refine Px.gd_tAnd ?_)
    | (with_reducible refine Px.gd_tOr ?_)
    | (with_reducible refine Px.gd_tNot ?_)
    | (with_reducible refine Px.gd_tTrue ?_)
    | (with_reducible refine Px.gd_eAnd ?_)
    | (with_reducible refine Px.gd_eOr ?_)
    | (with_reducible refine Px.gd_eNot ?_)
    | (with_reducible refine Px.gd_eIf ?_)
    | (with_reducible refine Px.gd_aNil ?_)
    | (with_reducible refine Px.gd_aCons ?_)
    | (with_reducible refine Px.gd_eTup ?_)
    | (with_reducible refine Px.gd_eLst ?_)
    | (with_reducible refine Px.gd_eCall ?_)
    | (with_reducible refine Px.gd_eCallD ?_)
    | (with_reducible refine Px.gd_eCallK ?_)
    | (with_reducible refine Px.gd_oNone ?_)
    | (with_reducible refine Px.gd_oSome ?_)
    | (with_reducible refine Px.gd_eCut ?_)
    | (with_reducible refine Px.gd_eCutK ?_)
    | (with_reducible refine Px.gd_eM0 ?_)
    | (with_reducible refine Px.gd_eM1 ?_)
    | (with_reducible refine Px.gd_jNil ?_)
    | (with_reducible refine Px.gd_jCons ?_)
    | (with_reducible refine Px.gd_eJoined ?_)
    | (with_reducible refine Px.gd_fmtS ?_)
    | (with_reducible refine Px.gd_iVal ?_)
    | (with_reducible refine Px.gd_iRange1 ?_)
    | (with_reducible refine Px.gd_iRange2 ?_)
    | (with_reducible refine Px.gd_iEnum ?_)
    | (with_reducible refine Px.gd_eDnew ?_)
    | (with_reducible refine Px.gd_eComp ?_)
    | (with_reducible refine Px.gd_eComp2 ?_)
    | (with_reducible refine Px.ob_bl ?_)
    | (with_reducible refine Px.oi_int ?_)
    | (with_reducible refine Px.os_str ?_)
    | (with_reducible refine Px.gd_addI ?_)
    | (with_reducible refine Px.gd_subI ?_)
    | (with_reducible refine Px.gd_negI ?_)
    | (with_reducible refine Px.gd_ltI ?_)
    | (with_reducible refine Px.gd_leI ?_)
    | (with_reducible refine Px.gd_gtI ?_)
    | (with_reducible refine Px.gd_geI ?_)
    | (with_reducible refine Px.gd_eqI ?_)
    | (with_reducible refine Px.gd_neI ?_)
    | (with_reducible refine Px.gd_eqS ?_)
    | (with_reducible refine Px.gd_neS ?_)
    | (with_reducible refine Px.gd_isN ?_)
    | (with_reducible refine Px.gd_isNotB ?_)
    | (with_reducible refine Px.gd_isB ?_)
    | (with_reducible refine Px.gd_inC ?_)
    | (with_reducible refine Px.gd_ninC ?_)
    | (with_reducible refine Px.gd_cutT ?_)
    | (with_reducible refine Px.gd_lenT ?_)
    | (with_reducible refine Px.gd_lenF ?_)
    | (with_reducible refine Px.gd_max ?_)
    | (with_reducible refine Px.gd_min ?_)
    | (with_reducible refine Px.gd_intI ?_)
    | (with_reducible refine Px.gd_intB ?_)
    | (with_reducible refine Px.gd_find ?_)
    | (with_reducible refine Px.gd_tupT ?_)
    | (with_reducible refine Px.gd_ivS ?_)
    | (with_reducible refine Px.gd_ivT ?_)
    | (with_reducible refine Px.gd_ivF ?_)
    | (with_reducible refine Px.gd_new0 ?_)
    | (with_reducible refine Px.gs_cons ?_)
    | (with_reducible refine Px.gs_nil ?_)
    | (with_reducible refine Px.gs_set ?_)
    | (with_reducible refine Px.gs_expr ?_)
    | (with_reducible refine Px.gs_ret ?_)
    | (with_reducible refine Px.gs_retN ?_)
    | (with_reducible refine Px.gs_if ?_)
    | (with_reducible refine Px.gs_brk ?_)
    | (with_reducible refine Px.gs_cnt ?_)
    | (with_reducible refine Px.gs_asg ?_)
    | (with_reducible refine Px.gs_fgName ?_)
    | (with_reducible refine Px.gs_fgsNil ?_)
    | (with_reducible refine Px.gs_fgsCons ?_)
    | (with_reducible refine Px.gs_fgSub ?_)
    | (with_reducible refine Px.gs_for ?_)
    | (with_reducible refine Px.gd_ok ?_)
    | (with_reducible refine Px.gd_addS ?_ ?_; (· walk_at "X28l"))
    | (with_reducible refine Px.gd_addT ?_ ?_; (· walk_at "X28l"))
    | (with_reducible refine Px.gd_mulI ?_ ?_; (· walk_at "X28l"))
    | (with_reducible refine Px.gd_fdivI ?_ ?_; (· walk_at "X28l"))
    | (with_reducible refine Px.gd_modI ?_ ?_; (· walk_at "X28l"))
    | (with_reducible refine Px.gd_powI ?_ ?_; (· walk_at "X28l"))
    | (with_reducible refine Px.gd_cutS ?_ ?_; (· walk_at "X28l"))
    | (with_reducible refine Px.gd_lenS ?_ ?_; (· walk_at "X28l"))
    | (with_reducible refine Px.gd_strI ?_ ?_; (· walk_at "X28l"))
    | (with_reducible refine Px.gd_divmod ?_ ?_; (· walk_at "X28l"))
    | (with_reducible refine Px.gd_mkTup ?_ ?_; (· walk_at "X28l"))
    | (with_reducible refine Px.gd_mkLst ?_ ?_; (· walk_at "X28l"))
    | (with_reducible refine Px.gd_rg1 ?_ ?_; (· walk_at "X28l"))
    | (with_reducible refine Px.gd_rg2 ?_ ?_; (· walk_at "X28l"))
    | (with_reducible refine Px.gd_split ?_ ?_; (· walk_at "X28l"))
    | (with_reducible refine Px.gd_tupS ?_ ?_; (· walk_at "X28l"))
    | (with_reducible refine Px.gs_fgTup ?_ ?_; (· walk_at "X28l"))
    | (with_reducible refine Px.gd_cutKS ?_ ?_; (· walk_at "X28l"))
    | (with_reducible refine Px.gs_fgTup (by with_unfolding_all rfl) ?_)
    | (with_reducible refine Px.gd_isi (by with_unfolding_all rfl) ?_)
    | (with_reducible refine Px.gd_inT (by with_unfolding_all rfl) ?_)
    | (with_reducible refine Px.gd_inTI (by with_unfolding_all rfl) ?_)
    | (with_reducible refine Px.gd_ninT (by with_unfolding_all rfl) ?_)
    | (with_reducible refine Px.gd_ninTI (by with_unfolding_all rfl) ?_)))
local macro_rules | `(tactic| walk_at "X286") => `(tactic| (first
    | (with_reducible refine Px.gd_v0 ?_)
    | (with_reducible refine Px.gd_v1 ?_)
    | (with_reducible refine Px.gd_v2 ?_)
    | (with_reducible refine Px.gd_v3 ?_)
    | (with_reducible refine Px.gd_v4 ?_)
    | (with_reducible refine Px.gd_v5 ?_)
    | (with_reducible refine Px.gd_v6 ?_)
    | (with_reducible refine Px.gd_v7 ?_)
    | (with_reducible refine Px.gd_v8 ?_)
    | (with_reducible refine Px.gd_v9 ?_)
    | (with_reducible refine Px.gd_v10 ?_)
    | (with_reducible refine Px.gd_v11 ?_)
    | (with_reducible refine Px.gd_v12 ?_)
    | (with_reducible refine Px.gd_v13 ?_)
    | (with_reducible refine Px.gd_c ?_)
    | (with_reducible refine Px.gd_bin ?_)
    | (with_reducible refine Px.gd_un ?_)
    | (with_reducible refine Px.gd_chain ?_)
    | (with_reducible refine Px.gd_bOf ?_)
    | (with_reducible refine Px.gd_tAnd ?_)
    | (with_reducible refine Px.gd_tOr ?_)
    | (with_reducible refine Px.gd_tNot ?_)
    | (with_reducible refine Px.gd_tTrue ?_)
    | (with_reducible refine Px.gd_eAnd ?_)
    | (with_reducible refine Px.gd_eOr ?_)
    | (with_reducible refine Px.gd_eNot ?_)
    | (with_reducible refine Px.gd_eIf ?_)
    | (with_reducible refine Px.gd_aNil ?_)
    | (with_reducible refine Px.gd_aCons ?_)
    | (with_reducible refine Px.gd_eTup ?_)
    | (with_reducible refine Px.gd_eLst ?_)
    | (with_reducible refine Px.gd_eCall ?_)
    | (with_reducible refine Px.gd_eCallD ?_)
    | (with_reducible refine Px.gd_eCallK ?_)
    | (with_reducible refine Px.gd_oNone ?_)
    | (with_reducible refine Px.gd_oSome ?_)
    | (with_reducible refine Px.gd_eCut ?_)
    | (with_reducible refine Px.gd_eCutK ?_)
    | (with_reducible refine Px.gd_eM0 ?_)
    | (with_reducible refine Px.gd_eM1 ?_)
    | (with_reducible refine Px.gd_jNil ?_)
    | (with_reducible refine Px.gd_jCons ?_)
    | (with_reducible refine Px.gd_eJoined ?_)
    | (with_reducible refine Px.gd_fmtS ?_)
    | (with_reducible refine Px.gd_iVal ?_)
    | (with_reducible refine Px.gd_iRange1 ?_)
    | (with_reducible refine Px.gd_iRange2 ?_)
    | (with_reducible refine Px.gd_iEnum ?_)
    | (with_reducible refine Px.gd_eDnew ?_)
    | (with_reducible refine Px.gd_eComp ?_)
    | (with_reducible refine Px.gd_eComp2 ?_)
    | (with_reducible refine Px.ob_bl ?_)
    | (with_reducible refine Px.oi_int ?_)
    | (with_reducible refine Px.os_str ?_)
    | (with_reducible refine Px.gd_addI ?_)
    | (with_reducible refine Px.gd_subI ?_)
    | (with_reducible refine Px.gd_negI ?_)
    | (with_reducible refine Px.gd_leI ?_)
    | (with_reducible refine Px.gd_gtI ?_)
    | (with_reducible refine Px.gd_geI ?_)
    | (with_reducible refine Px.gd_eqI ?_)
    | (with_reducible refine Px.gd_neI ?_)
    | (with_reducible refine Px.gd_eqS ?_)
    | (with_reducible refine Px.gd_neS ?_)
    | (with_reducible refine Px.gd_isN ?_)
    | (with_reducible refine Px.gd_isNotB ?_)
    | (with_reducible refine Px.gd_isB ?_)
    | (with_reducible refine Px.gd_inC ?_)
    | (with_reducible refine Px.gd_ninC ?_)
    | (with_reducible refine Px.gd_cutT ?_)
    | (with_reducible refine Px.gd_lenT ?_)
    | (with_reducible refine Px.gd_lenF ?_)
    | (with_reducible refine Px.gd_max ?_)
    | (with_reducible refine Px.gd_min ?_)
    | (with_reducible refine Px.gd_intI ?_)
    | (with_reducible refine Px.gd_intB ?_)
    | (with_reducible refine Px.gd_find ?_)
    | (with_reducible refine Px.gd_tupT ?_)
    | (with_reducible refine Px.gd_ivS ?_)
    | (with_reducible refine Px.gd_ivT ?_)
    | (with_reducible refine Px.gd_ivF ?_)
    | (with_reducible refine Px.gd_new0 ?_)
    | (with_reducible refine Px.gs_cons ?_)
    | (with_reducible refine Px.gs_nil ?_)
    | (with_reducible refine Px.gs_set ?_)
    | (with_reducible refine Px.gs_expr ?_)
    | (with_reducible refine Px.gs_ret ?_)
    | (with_reducible refine Px.gs_retN ?_)
    | (with_reducible refine Px.gs_if ?_)
    | (with_reducible refine Px.gs_brk ?_)
    | (with_reducible refine Px.gs_cnt ?_)
    | (with_reducible refine Px.gs_asg ?_)
    | (with_reducible refine Px.gs_fgName ?_)
    | (with_reducible refine Px.gs_fgsNil ?_)
    | (with_reducible refine Px.gs_fgsCons ?_)
    | (with_reducible refine Px.gs_fgSub ?_)
    | (with_reducible refine Px.gs_for ?_)
    | (with_reducible refine Px.gd_ok ?_)
    | (with_reducible refine Px.gd_addS ?_ ?_; (· walk_at "X28l"))
    | (with_reducible refine Px.gd_addT ?_ ?_; (· walk_at "X28l"))
    | (with_reducible refine Px.gd_mulI ?_ ?_; (· walk_at "X28l"))
    | (with_reducible refine Px.gd_fdivI ?_ ?_; (· walk_at "X28l"))
    | (with_reducible refine Px.gd_modI ?_ ?_; (· walk_at "X28l"))
    | (with_reducible refine Px.gd_powI ?_ ?_; (· walk_at "X28l"))
    | (with_reducible refine Px.gd_cutS ?_ ?_; (· walk_at "X28l"))
    | (with_reducible refine Px.gd_lenS ?_ ?_; (· walk_at "X28l"))
    | (with_reducible refine Px.gd_strI ?_ ?_; (· walk_at "X28l"))
    | (with_reducible refine Px.gd_divmod ?_ ?_; (· walk_at "X28l"))
    | (with_reducible refine Px.gd_mkTup ?_ ?_; (· walk_at "X28l"))
    | (with_reducible refine Px.gd_mkLst ?_ ?_; (· walk_at "X28l"))
    | (with_reducible refine Px.gd_rg1 ?_ ?_; (· walk_at "X28l"))
    | (with_reducible refine Px.gd_rg2 ?_ ?_; (· walk_at "X28l"))
    | (with_reducible refine Px.gd_split ?_ ?_; (· walk_at "X28l"))
    | (with_reducible refine Px.gd_tupS ?_ ?_; (· walk_at "X28l"))
    | (with_reducible refine Px.gs_fgTup ?_ ?_; (· walk_at "X28l"))
    | (with_reducible refine Px.gd_cutKS ?_ ?_; (· walk_at "X28l"))
    | (with_reducible refine Px.gs_fgTup (by with_unfolding_all rfl) ?_)
    | (with_reducible refine Px.gd_isi (by with_unfolding_all rfl) ?_)
    | (with_reducible refine Px.gd_inT (by with_unfolding_all rfl) ?_)
    | (with_reducible refine Px.gd_inTI (by with_unfolding_all rfl) ?_)
    | (with_reducible refine Px.gd_ninT (by with_unfolding_all rfl) ?_)
    | (with_reducible refine Px.gd_ninTI (by with_unfolding_all rfl) ?_)))
set_option hygiene true
namespace G
open Px
variable {E : String → Option D → Hy → Prop} {h : Hy} {Q : D × Hy → Prop}
theorem kA : k_ALPHABET = ALPH := rfl
theorem pair_of_ev {k : Int} (h : Hy) : f_pair_of [.int k] h = .ok (.ref h.length, h ++ [.lst ((pairN k).map nd)]) := by
  refine ok_of (gd_pure (by rfl) (by simp) ?_)
  unfold b_pair_of
  simp only [startE, List.map_cons, List.map_nil, List.length_cons, List.length_nil, Nat.reduceAdd, Nat.reduceSub, List.replicate_succ, List.replicate_zero, List.cons_append, List.nil_append]
  walk_at "X28n"
  repeat ((first | walk_at "X283" | walk_at "X284"); walk_at "X28n")
  exact .lst _ _ rfl (by rfl) (ltAll_map fun _ _ => by simp) rfl
theorem number_sounded_ev {i : Int} (h0 : -1000000000 ≤ i) (h1 : i ≤ 1000000000) (h : Hy) : f_number_sounded [.int i] h = .ok (.ref h.length, h ++ [.lst ((Lf.nu i).nts.map nd)]) := by
  obtain ⟨hl, hd⟩ := absI_num h0 h1
  have a0 : 0 ≤ absI i := by unfold absI; split <;> omega
  have a1 : absI i ≤ 1000000000 := by unfold absI; split <;> omega
  have hz := fgsN_len (num (absI i))
  have hfl : ((num (absI i)).map fun c => (pairN (figN c)).map nd).flatten = (fgsN (num (absI i))).map nd := by unfold fgsN; rw [List.map_flatten, List.map_map]; rfl
  refine ok_of (gd_pure (by rfl) (by simp) ?_)
  unfold b_number_sounded
  simp only [startE, List.map_cons, List.map_nil, List.length_cons, List.length_nil, Nat.reduceAdd, Nat.reduceSub, List.replicate_succ, List.replicate_zero, List.cons_append, List.nil_append]
  have ha : ∀ {Q : D × Hy → Prop} {E : String → Option D → Hy → Prop} {h : Hy}, Q (.int (absI i), h) → Good (gAbs [.int i] h) Q E := fun {Q E h} q => by
    by_cases c : i < 0
    · exact gd_absNeg c (by unfold absI at q; rw [if_pos c] at q; exact q)
    · exact gd_absPos c (by unfold absI at q; rw [if_neg c] at q; exact q)
  walk_at "X28n"
  repeat ((first | walk_at "X285" | (with_reducible refine ha ?_) | walk_at "X284"); walk_at "X28n")
  refine gd_c2f (fun c => D.str [c]) (num (absI i)) (fun c => (pairN (figN c)).map nd) srcOk_none (fun c hc => ⟨_, rfl, by simp, ?_⟩) ?_ ?_
  · walk_at "X28n"
    repeat ((first | walk_at "X283" | (with_reducible refine gd_intFg (hd c hc) ?_) | (with_reducible refine gd_of (pair_of_ev _) ?_) | walk_at "X284"); walk_at "X28n")
    all_goals exact gd_ivA (by rfl) (by rfl) (by simp) (ltAll_map fun _ _ => by simp) rfl
  · rw [hfl, List.length_map]; omega
  rw [hfl]
  by_cases c : i < 0
  · walk_at "X28n"
    repeat ((first | walk_at "X286" | (with_reducible refine gd_ltT c ?_) | (with_reducible refine gd_intT ?_) | (with_reducible refine gd_mulL1g ?_; refine ⟨_, rfl, ?_, ?_⟩; (· decide)) | walk_at "X284"); walk_at "X28n")
    exact .lst _ _ rfl (by rfl) (by first | exact ltAll_map fun _ _ => by simp | (simp [k_END, k_BEGIN, k_MINUS]; done) | (simp [k_END, k_BEGIN, k_MINUS]; exact ltAll_map fun _ _ => by simp)) (by simp only [Lf.nts]; rw [if_pos c]; simp; exact ⟨rfl, rfl, rfl⟩)
  · walk_at "X28n"
    repeat ((first | walk_at "X286" | (with_reducible refine gd_ltF c ?_) | (with_reducible refine gd_intF ?_) | (with_reducible refine gd_mulL0g ?_; refine ⟨_, rfl, ?_⟩) | walk_at "X284"); walk_at "X28n")
    exact .lst _ _ rfl (by rfl) (by first | exact ltAll_map fun _ _ => by simp | (simp [k_END, k_BEGIN, k_MINUS]; done) | (simp [k_END, k_BEGIN, k_MINUS]; exact ltAll_map fun _ _ => by simp)) (by simp only [Lf.nts]; rw [if_neg c]; simp; exact ⟨rfl, rfl⟩)
theorem part_sounded_ev {kd : Kd} : ∀ (n : Nat) (p : Pr), p.deep ≤ n → p.size ≤ 10000 → p.all (Lf.ok kd) → (∀ x ∈ (Sy.of [p]).ws, x ∈ SW) → ∀ h, f_part_sounded n [p.d] h = .ok (.ref h.length, h ++ [.lst (p.nts.map nd)]) := by
  intro n
  induction n with
  | zero => intro p hp; have := Pr.inn_deep (p := p); omega
  | succ n ih =>
    intro p hp hz hok hws h
    unfold f_part_sounded
    refine ok_of (gd_pure (by rfl) (by simp) ?_)
    unfold b_part_sounded
    simp only [startE, List.map_cons, List.map_nil, List.length_cons, List.length_nil, Nat.reduceAdd, Nat.reduceSub, List.replicate_succ, List.replicate_zero, List.cons_append, List.nil_append]
    have hpw : p.w ∈ SW := hws p.w (by rw [Pr.ws_inn]; simp)
    rcases p with (w | i | x | _ | rows) | ⟨q, i⟩
    · have e : (Pr.lf (.wd w)).d = .tup [.str ['w', 'o', 'r', 'd'], .str w] := rfl
      have hw : isW w := hok
      have hw2 := hw.2.1
      have hw3 : ∀ c ∈ w, c ∈ ALPH := hw.2.2
      have hfl : (w.map fun c => (pairN (letN c)).map nd).flatten = (ltsN w).map nd := by unfold ltsN; rw [List.map_flatten, List.map_map]; rfl
      have hl := ltsN_len w
      simp only [e]
      walk_at "X28n"
      repeat ((first | walk_at "X283" | (with_reducible refine gd_fgStarT ?_) | walk_at "X284"); walk_at "X28n")
      refine gd_c2f (fun c => D.str [c]) w (fun c => (pairN (letN c)).map nd) srcOk_none (fun c hc => ⟨_, rfl, by simp, ?_⟩) ?_ ?_
      · walk_at "X28n"
        repeat ((first | walk_at "X283" | (with_reducible refine gd_indexA kA (hw3 c hc) ?_) | (with_reducible refine gd_of (pair_of_ev _) ?_) | walk_at "X284"); walk_at "X28n")
        all_goals exact gd_ivA (by rfl) (by rfl) (by simp) (ltAll_map fun _ _ => by simp) rfl
      · rw [hfl, List.length_map]; omega
      rw [hfl]
      walk_at "X28n"
      repeat ((first | walk_at "X283" | walk_at "X284"); walk_at "X28n")
      exact .lst _ _ rfl (by rfl) (by first | exact ltAll_map fun _ _ => by simp | (simp [k_END, k_BEGIN, k_MINUS]; done) | (simp [k_END, k_BEGIN, k_MINUS]; exact ltAll_map fun _ _ => by simp)) (by simp only [Lf.nts, Pr.nts]; simp; rfl)
    · have e : (Pr.lf (.nu i)).d = .tup [.str ['n', 'u', 'm', 'b', 'e', 'r'], .int i] := rfl
      have hi : -1000000000 ≤ i ∧ i ≤ 1000000000 := hok
      simp only [e]
      walk_at "X28n"
      repeat ((first | walk_at "X283" | (with_reducible refine gd_fgStarT ?_) | (with_reducible refine gd_of (number_sounded_ev hi.1 hi.2 _) ?_) | walk_at "X284"); walk_at "X28n")
      exact .lst _ _ rfl (by rfl) (ltAll_map fun _ _ => by simp) rfl
    · exfalso
      rcases sw_in hpw with z | z | z | z <;> cases z
    · have e : (Pr.lf .pa).d = .tup [.str ['p', 'a', 'u', 's', 'e']] := rfl
      simp only [e]
      walk_at "X28n"
      repeat ((first | walk_at "X283" | (with_reducible refine gd_fgStarT ?_) | walk_at "X284"); walk_at "X28n")
      exact .lst _ _ rfl (by rfl) (ltAll_map fun _ _ => by simp) rfl
    · exfalso
      rcases sw_in hpw with z | z | z | z <;> cases z
    · cases q with
      | false =>
        exfalso
        rcases sw_in hpw with z | z | z | z <;> cases z
      | true =>
        have e : (Pr.gp true i).d = .tup [.str ['l', 'o', 'u', 'd'], .tup i.ds] := rfl
        have hal := Sy.all_pl.mp hok.2
        have hd : i.deep ≤ n := by simp only [Pr.deep] at hp; omega
        have hs : i.size ≤ 10000 := by simp only [Pr.size] at hz; omega
        have sl := Sy.nts_len hok.2
        have hfl : (i.pl.map fun p => p.nts.map nd).flatten = i.nts.map nd := by rw [Sy.nts_pl, List.map_flatten, List.map_map]; rfl
        simp only [e]
        walk_at "X28n"
        repeat ((first | walk_at "X283" | (with_reducible refine gd_fgStarT ?_) | walk_at "X284"); walk_at "X28n")
        rw [Sy.ds_pl]
        refine gd_c2f Pr.d i.pl (fun p => p.nts.map nd) srcOk_none (fun u hu => ⟨_, rfl, by simp, ?_⟩) ?_ ?_
        · have hsub := fun x hx => hws x (by rw [Pr.ws_inn]; exact List.mem_cons_of_mem _ (by show x ∈ i.ws; rw [← Sy.of_pl i]; exact Sy.ws_of.mpr ⟨u, hu, hx⟩))
          have ev := ih u (Sy.deep_le.mp hd u hu) (by have := Pr.size_mem hu; omega) (hal u hu) hsub
          walk_at "X28n"
          repeat ((first | walk_at "X283" | (with_reducible refine gd_of (ev _) ?_) | walk_at "X284"); walk_at "X28n")
          all_goals exact gd_ivA (by rfl) (by rfl) (by simp) (ltAll_map fun _ _ => by simp) rfl
        · rw [hfl, List.length_map]; omega
        rw [hfl]
        walk_at "X28n"
        repeat ((first | walk_at "X283" | walk_at "X284"); walk_at "X28n")
        exact .lst _ _ rfl (by rfl) (by simp [k_LOUD, k_SOFT]; exact ltAll_map fun _ _ => by simp) (by simp [Pr.nts]; exact ⟨rfl, rfl⟩)
theorem body_ev {kd : Kd} {s : Sy} (hok : s.all (Lf.ok kd)) (hw : ∀ x ∈ s.ws, x ∈ SW) (hd : s.deep ≤ 10) (hz : s.size ≤ 10000) (h : Hy) : f_sounds_body [.tup s.ds] h = .ok (.tup (s.nts.map nd), h) := by
  have sl := Sy.nts_len hok
  have hal := Sy.all_pl.mp hok
  have hfl : (s.pl.map fun p => p.nts.map nd).flatten = s.nts.map nd := by rw [Sy.nts_pl, List.map_flatten, List.map_map]; rfl
  refine ok_of (gd_pure (by rfl) (by simp) ?_)
  unfold b_sounds_body
  simp only [startE, List.map_cons, List.map_nil, List.length_cons, List.length_nil, Nat.reduceAdd, Nat.reduceSub, List.replicate_succ, List.replicate_zero, List.cons_append, List.nil_append]
  walk_at "X28n"
  repeat ((first | walk_at "X283" | walk_at "X284"); walk_at "X28n")
  rw [Sy.ds_pl]
  refine gd_c2f Pr.d s.pl (fun p => p.nts.map nd) srcOk_none (fun u hu => ⟨_, rfl, by simp, ?_⟩) ?_ ?_
  · have hsub : ∀ x ∈ (Sy.of [u]).ws, x ∈ SW := fun x hx => hw x (by rw [← Sy.of_pl s]; exact Sy.ws_of.mpr ⟨u, hu, hx⟩)
    have ev := part_sounded_ev (kd := kd) 12 u (by have := Sy.deep_le.mp hd u hu; omega) (by have := Pr.size_mem hu; omega) (hal u hu) hsub
    walk_at "X28n"
    repeat ((first | walk_at "X283" | (with_reducible refine gd_of (ev _) ?_) | walk_at "X284"); walk_at "X28n")
    all_goals exact gd_ivA (by rfl) (by rfl) (by simp) (ltAll_map fun _ _ => by simp) rfl
  · rw [hfl, List.length_map]; omega
  rw [hfl]
  walk_at "X28n"
  repeat ((first | walk_at "X283" | (refine gd_tupL (by rfl) ?_) | walk_at "X284"); walk_at "X28n")
  exact .pure (by first | exact ltAll_map fun _ _ => by simp | (simp [k_END, k_BEGIN, k_MINUS]; done) | (simp [k_END, k_BEGIN, k_MINUS]; exact ltAll_map fun _ _ => by simp)) rfl
theorem written_ev {kd : Kd} {s : Sy} (hok : s.all (Lf.ok kd)) (hw : ∀ x ∈ s.ws, x ∈ SW) (hd : s.deep ≤ 10) (hz : s.size ≤ 10000) (h : Hy) : f_written [.tup s.ds] h = .ok (.tup (s.nts.map nd), h) := by
  refine ok_of (gd_pure (by rfl) (by simp) ?_)
  unfold b_written
  simp only [startE, List.map_cons, List.map_nil, List.length_cons, List.length_nil, Nat.reduceAdd, Nat.reduceSub, List.replicate_succ, List.replicate_zero, List.cons_append, List.nil_append]
  walk_at "X28n"
  repeat ((first | walk_at "X283" | (with_reducible refine gd_of (body_ev hok hw hd hz _) ?_) | walk_at "X284"); walk_at "X28n")
  exact .pure (by first | exact ltAll_map fun _ _ => by simp | (simp [k_END, k_BEGIN, k_MINUS]; done) | (simp [k_END, k_BEGIN, k_MINUS]; exact ltAll_map fun _ _ => by simp)) rfl
end G
set_option hygiene false
local macro_rules | `(tactic| walk_at "Y28n") => `(tactic| (try dsimp only [List.set_cons_zero, List.set_cons_succ, Px.wipeE_cons, Px.wipeE_nil, Px.kG, Px.wipeE_cons, List.nil_append, List.cons_append, List.length_nil, List.length_cons]))
local macro_rules | `(tactic| walk_at "Y28l") => `(tactic| (first | omega | decide | (exact ⟨by decide, by omega⟩) | (simp only [List.length_append, List.length_cons, List.length_nil, List.length_map, List.length_take, List.length_drop, List.length_replicate]; omega)))
local macro_rules | `(tactic| walk_at "Y28h") => `(tactic| (first | assumption | exact Px.St.g0 (by assumption) | exact Px.St.g1 (by assumption) | exact Px.St.g2 (by assumption) | exact Px.St.g3 (by assumption) | exact Px.St.g4 (by assumption) | exact Px.St.g5 (by assumption) | exact Px.St.g6 (by assumption) | exact Px.St.g7 (by assumption) | exact Px.St.g8 (by assumption) | exact Px.St.g9 (by assumption) | exact Px.St.g10 (by assumption) | exact Px.St.g11 (by assumption) | exact Px.St.g12 (by assumption) | exact Px.St.g13 (by assumption) | exact Px.St.g14 (by assumption)))
local macro_rules | `(tactic| walk_at "Y283") => `(tactic| (first
    | (with_reducible refine Px.gd_v0 ?_)
    | (with_reducible refine Px.gd_v1 ?_)
    | (with_reducible refine Px.gd_v2 ?_)
    | (with_reducible refine Px.gd_v3 ?_)
    | (with_reducible refine Px.gd_v4 ?_)
    | (with_reducible refine Px.gd_v5 ?_)
    | (with_reducible refine Px.gd_v6 ?_)
    | (with_reducible refine Px.gd_v7 ?_)
    | (with_reducible refine Px.gd_v8 ?_)
    | (with_reducible refine Px.gd_v9 ?_)
    | (with_reducible refine Px.gd_v10 ?_)
    | (with_reducible refine Px.gd_v11 ?_)
    | (with_reducible refine Px.gd_v12 ?_)
    | (with_reducible refine Px.gd_v13 ?_)
    | (with_reducible refine Px.gd_c ?_)
    | (with_reducible refine Px.gd_bin ?_)
    | (with_reducible refine Px.gd_un ?_)
    | (with_reducible refine Px.gd_chain ?_)
    | (with_reducible refine Px.gd_bOf ?_)
    | (with_reducible refine Px.gd_tAnd ?_)
    | (with_reducible refine Px.gd_tOr ?_)
    | (with_reducible refine Px.gd_tNot ?_)
    | (with_reducible refine Px.gd_tTrue ?_)
    | (with_reducible refine Px.gd_eAnd ?_)
    | (with_reducible refine Px.gd_eOr ?_)
    | (with_reducible refine Px.gd_eNot ?_)
    | (with_reducible refine Px.gd_eIf ?_)
    | (with_reducible refine Px.gd_aNil ?_)
    | (with_reducible refine Px.gd_aCons ?_)
    | (with_reducible refine Px.gd_eTup ?_)
    | (with_reducible refine Px.gd_eLst ?_)
    | (with_reducible refine Px.gd_eCall ?_)
    | (with_reducible refine Px.gd_eCallD ?_)
    | (with_reducible refine Px.gd_eCallK ?_)
    | (with_reducible refine Px.gd_oNone ?_)
    | (with_reducible refine Px.gd_oSome ?_)
    | (with_reducible refine Px.gd_eCut ?_)
    | (with_reducible refine Px.gd_eCutK ?_)
    | (with_reducible refine Px.gd_eM0 ?_)
    | (with_reducible refine Px.gd_eM1 ?_)
    | (with_reducible refine Px.gd_jNil ?_)
    | (with_reducible refine Px.gd_jCons ?_)
    | (with_reducible refine Px.gd_eJoined ?_)
    | (with_reducible refine Px.gd_fmtS ?_)
    | (with_reducible refine Px.gd_iVal ?_)
    | (with_reducible refine Px.gd_iRange1 ?_)
    | (with_reducible refine Px.gd_iRange2 ?_)
    | (with_reducible refine Px.gd_iEnum ?_)
    | (with_reducible refine Px.gd_eDnew ?_)
    | (with_reducible refine Px.gd_eComp ?_)
    | (with_reducible refine Px.gd_eComp2 ?_)
    | (with_reducible refine Px.ob_bl ?_)
    | (with_reducible refine Px.oi_int ?_)
    | (with_reducible refine Px.os_str ?_)
    | (with_reducible refine Px.gd_addI ?_)
    | (with_reducible refine Px.gd_subI ?_)
    | (with_reducible refine Px.gd_negI ?_)
    | (with_reducible refine Px.gd_ltI ?_)
    | (with_reducible refine Px.gd_leI ?_)
    | (with_reducible refine Px.gd_gtI ?_)
    | (with_reducible refine Px.gd_geI ?_)
    | (with_reducible refine Px.gd_eqI ?_)
    | (with_reducible refine Px.gd_neI ?_)
    | (with_reducible refine Px.gd_eqS ?_)
    | (with_reducible refine Px.gd_neS ?_)
    | (with_reducible refine Px.gd_isN ?_)
    | (with_reducible refine Px.gd_isNotB ?_)
    | (with_reducible refine Px.gd_isB ?_)
    | (with_reducible refine Px.gd_inC ?_)
    | (with_reducible refine Px.gd_ninC ?_)
    | (with_reducible refine Px.gd_cutT ?_)
    | (with_reducible refine Px.gd_lenT ?_)
    | (with_reducible refine Px.gd_lenF ?_)
    | (with_reducible refine Px.gd_max ?_)
    | (with_reducible refine Px.gd_min ?_)
    | (with_reducible refine Px.gd_abs ?_)
    | (with_reducible refine Px.gd_intI ?_)
    | (with_reducible refine Px.gd_intB ?_)
    | (with_reducible refine Px.gd_find ?_)
    | (with_reducible refine Px.gd_tupT ?_)
    | (with_reducible refine Px.gd_ivS ?_)
    | (with_reducible refine Px.gd_ivT ?_)
    | (with_reducible refine Px.gd_ivF ?_)
    | (with_reducible refine Px.gs_cons ?_)
    | (with_reducible refine Px.gs_nil ?_)
    | (with_reducible refine Px.gs_set ?_)
    | (with_reducible refine Px.gs_expr ?_)
    | (with_reducible refine Px.gs_ret ?_)
    | (with_reducible refine Px.gs_retN ?_)
    | (with_reducible refine Px.gs_if ?_)
    | (with_reducible refine Px.gs_brk ?_)
    | (with_reducible refine Px.gs_cnt ?_)
    | (with_reducible refine Px.gs_asg ?_)
    | (with_reducible refine Px.gs_fgName ?_)
    | (with_reducible refine Px.gs_fgsNil ?_)
    | (with_reducible refine Px.gs_fgsCons ?_)
    | (with_reducible refine Px.gs_fgSub ?_)
    | (with_reducible refine Px.gs_for ?_)
    | (with_reducible refine Px.gd_ok ?_)
    | (with_reducible refine Px.gd_addS ?_ ?_; (· walk_at "Y28l"))
    | (with_reducible refine Px.gd_addT ?_ ?_; (· walk_at "Y28l"))
    | (with_reducible refine Px.gd_mulI ?_ ?_; (· walk_at "Y28l"))
    | (with_reducible refine Px.gd_fdivI ?_ ?_; (· walk_at "Y28l"))
    | (with_reducible refine Px.gd_modI ?_ ?_; (· walk_at "Y28l"))
    | (with_reducible refine Px.gd_powI ?_ ?_; (· walk_at "Y28l"))
    | (with_reducible refine Px.gd_cutS ?_ ?_; (· walk_at "Y28l"))
    | (with_reducible refine Px.gd_lenS ?_ ?_; (· walk_at "Y28l"))
    | (with_reducible refine Px.gd_strI ?_ ?_; (· walk_at "Y28l"))
    | (with_reducible refine Px.gd_divmod ?_ ?_; (· walk_at "Y28l"))
    | (with_reducible refine Px.gd_mkTup ?_ ?_; (· walk_at "Y28l"))
    | (with_reducible refine Px.gd_mkLst ?_ ?_; (· walk_at "Y28l"))
    | (with_reducible refine Px.gd_rg1 ?_ ?_; (· walk_at "Y28l"))
    | (with_reducible refine Px.gd_rg2 ?_ ?_; (· walk_at "Y28l"))
    | (with_reducible refine Px.gd_split ?_ ?_; (· walk_at "Y28l"))
    | (with_reducible refine Px.gd_tupS ?_ ?_; (· walk_at "Y28l"))
    | (with_reducible refine Px.gs_fgTup ?_ ?_; (· walk_at "Y28l"))
    | (with_reducible refine Px.gd_cutKS ?_ ?_; (· walk_at "Y28l"))
    | (with_reducible refine Px.gs_fgTup (by with_unfolding_all rfl) ?_)
    | (with_reducible refine Px.gd_isi (by with_unfolding_all rfl) ?_)
    | (with_reducible refine Px.gd_inT (by with_unfolding_all rfl) ?_)
    | (with_reducible refine Px.gd_inTI (by with_unfolding_all rfl) ?_)
    | (with_reducible refine Px.gd_ninT (by with_unfolding_all rfl) ?_)
    | (with_reducible refine Px.gd_ninTI (by with_unfolding_all rfl) ?_)))
local macro_rules | `(tactic| walk_at "Y284") => `(tactic| (first
    | (with_reducible refine Px.gd_ixS Px.atI0 ?_ ?_; (· walk_at "Y28l"))
    | (with_reducible refine Px.gd_ixL (by walk_at "Y28h") Px.atI0 ?_)
    | (with_reducible refine Px.gd_ixT Px.atI0 ?_)
    | (with_reducible refine Px.gd_newS (by assumption) fun n h' hn S => ?_; dsimp only [List.nil_append, List.cons_append] at S)
    | (with_reducible refine G.gd_pick (by assumption) (by assumption) ?_ ?_ ?_ fun v h' bg' v0 v1 hb S => ?_; (· omega); (· walk_at "Y28l"); (· walk_at "Y28l"))
    | (with_reducible refine Px.gd_ixL (by walk_at "Y28h") ?_ ?_; (· rfl))
    | (with_reducible refine Px.gd_ixSA ?_ ?_ ?_ fun c hc => ?_; (· omega); (· walk_at "Y28l"); (· walk_at "Y28l"))
    | (with_reducible refine Px.gd_ixLA (by walk_at "Y28h") ?_ ?_ fun x hx => ?_; (· omega); (· walk_at "Y28l"))
    | (with_reducible refine Px.gd_addL (by walk_at "Y28h") (by walk_at "Y28h") ?_ ?_; (· walk_at "Y28l"))
    | (with_reducible refine Px.gd_mulL (by walk_at "Y28h") ?_ ?_ ?_ ?_; (· walk_at "Y28l"); (· omega); (· omega))
    | (with_reducible refine Px.gd_neNilE (by walk_at "Y28h") (by walk_at "Y28h") ?_)
    | (with_reducible refine Px.gd_eqNilE (by walk_at "Y28h") (by walk_at "Y28h") ?_)
    | (with_reducible refine Px.gd_lenL (by walk_at "Y28h") ?_)
    | (with_reducible refine Px.gd_ivO (by walk_at "Y28h") ?_)
    | (with_reducible refine Px.gd_eqNilC (by walk_at "Y28h") (by walk_at "Y28h") ?_)
    | (with_reducible refine Px.gd_eqNilS (by walk_at "Y28h") (by walk_at "Y28h") ?_)
    | (with_reducible refine Px.gd_appS0 (by assumption) ?_ fun h' S => ?_; (· walk_at "Y28l"))
    | (with_reducible refine Px.gd_appS1 (by assumption) ?_ fun h' S => ?_; (· walk_at "Y28l"))
    | (with_reducible refine Px.gd_appS2 (by assumption) ?_ fun h' S => ?_; (· walk_at "Y28l"))
    | (with_reducible refine Px.gd_appS3 (by assumption) ?_ fun h' S => ?_; (· walk_at "Y28l"))
    | (rw [if_pos rfl])
    | (rw [if_neg Bool.false_ne_true])
    | (rw [if_pos (by simp only [decide_eq_true_eq, Bool.not_eq_true', decide_eq_false_iff_not]; omega)])
    | (rw [if_neg (by simp only [decide_eq_true_eq, Bool.not_eq_true', decide_eq_false_iff_not]; omega)])
    | (rw [if_pos (by decide)])
    | (rw [if_neg (by decide)])))
set_option hygiene true
namespace G
open Px
variable {E : String → Option D → Hy → Prop} {h : Hy} {Q : D × Hy → Prop}
theorem gd_evS {f : FD} {args : List D} {h0 : Hy} {b : Nat} {xs : List D} {L : List (Nat × Ob)} (S : St h0 b h L) (ev : f args h = .ok (.ref h.length, h ++ [.lst xs])) (q : ∀ n h', St h0 b h' (L ++ [(n, .lst xs)]) → Q (.ref n, h')) : Good (f args h) Q E := gd_of ev (q _ _ S.alloc)
theorem gd_mulL1e {m : Nat} {a : List D} (e : h[m]? = some (.lst a)) (z : a.length ≤ 16777216) (q : Good (new (.lst a) h) Q E) : Good (sMul (.ref m) (.int 1) h) Q E := gd_mulL1g ⟨a, e, z, q⟩
theorem gd_mulL0e {m : Nat} {a : List D} (e : h[m]? = some (.lst a)) (q : Good (new (.lst []) h) Q E) : Good (sMul (.ref m) (.int 0) h) Q E := gd_mulL0g ⟨a, e, q⟩
theorem gd_absI {i : Int} (q : Q (.int (absI i), h)) : Good (gAbs [.int i] h) Q E := by
  by_cases c : i < 0
  · exact gd_absNeg c (by unfold absI at q; rw [if_pos c] at q; exact q)
  · exact gd_absPos c (by unfold absI at q; rw [if_neg c] at q; exact q)
def pairsN (ks : List Int) : List Nt := (ks.map pairN).flatten
theorem pairsN_len (ks : List Int) : (pairsN ks).length = 2 * ks.length := by
  induction ks with
  | nil => rfl
  | cons k ks ih => unfold pairsN at *; rw [List.map_cons, List.flatten_cons, List.length_append, ih]; simp only [pairN, List.length_cons, List.length_nil]; omega
theorem ltsN_pairs (w : Tx) : ltsN w = pairsN (w.map letN) := by unfold ltsN pairsN; rw [List.map_map]; rfl
theorem fgsN_pairs (w : Tx) : fgsN w = pairsN (w.map figN) := by unfold fgsN pairsN; rw [List.map_map]; rfl
/-- the tail of a part: its numbers by pairs, and the end -/
theorem tail_ev {r : FD} {f m : Nat} {s p4 : D} {X : List Nt} {ks : List Int} {a b c y : Option D} (hX : X.length + 2 * ks.length ≤ 100000) (S : St [] 0 h [(f, .lst (X.map nd)), (m, .lst (ks.map D.int))]) :
    Gs (bCons (sFor (iVal (eVar 4)) (.one 7) (l__law_sounded_0 r)) (sExpr (eL1 mAppend (eVar 2) (aCons (eTup (aCons (eC (.int 6)) (aCons (eC (.int 1)) aNil))) aNil))) [some s, a, some (.ref f), some p4, some (.ref m), b, c, y] h) (kn0 fun ρ h' => ∃ (f' : Nat) (m y : Option D), ρ = [some s, a, some (.ref f'), some p4, m, b, c, y] ∧ St [] 0 h' [(f', .lst ((X ++ (pairsN ks ++ [nEND])).map nd))]) := by
  with_reducible refine gs_cons (gs_mid (I := fun ρ h' => ∃ (f' : Nat) (y : Option D), ρ = [some s, a, some (.ref f'), some p4, some (.ref m), b, c, y] ∧ St [] 0 h' [(f', .lst ((X ++ pairsN ks).map nd))]) ?_ ?_)
  · walk_at "Y28n"
    repeat ((first | walk_at "Y283" | walk_at "Y284"); walk_at "Y28n")
    refine gs_fMap D.int ks (fun pre ρ h' => ∃ (f' : Nat) (y : Option D), ρ = [some s, a, some (.ref f'), some p4, some (.ref m), b, c, y] ∧ St [] 0 h' [(m, .lst (ks.map D.int)), (f', .lst ((X ++ pairsN pre).map nd))]) (fun _ _ _ ⟨_, _, _, S⟩ => srcOk_some.mpr (St.g0 S)) _ _ ⟨f, y, rfl, ?_⟩ (fun pre k post ρ h' e i => ?_) fun ρ h' i => ?_
    · have : (X ++ pairsN []).map nd = X.map nd := by simp [pairsN]
      rw [this]
      exact S.rebase (List.Perm.swap _ _ _)
    · with_reducible obtain ⟨f', y, rfl, S⟩ := i
      have hl := congrArg List.length e
      simp only [List.length_append, List.length_cons] at hl
      have hp := pairsN_len pre
      refine ⟨_, rfl, ?_⟩
      unfold l__law_sounded_0
      walk_at "Y28n"
      repeat ((first | walk_at "Y283" | walk_at "Y284"); walk_at "Y28n")
      have el : (X ++ pairsN pre).map nd ++ [D.tup [.int (k / 6), .int 1], .tup [.int (k % 6), .int 1]] = (X ++ pairsN (pre ++ [k])).map nd := by
        simp [pairsN, pairN, nd]
      rw [el] at S
      exact ⟨_, _, rfl, St.sub S (.cons₂ _ (.cons _ (.cons _ (.cons₂ _ .slnil))))⟩
    · with_reducible obtain ⟨f', y, rfl, S⟩ := i
      exact ⟨_, _, rfl, St.sub S (.cons _ (.cons₂ _ .slnil))⟩
  · with_reducible rintro ρ h' ⟨f', y, rfl, S⟩
    have hp := pairsN_len ks
    walk_at "Y28n"
    repeat ((first | walk_at "Y283" | (with_reducible refine gd_eL1 ?_) | (with_reducible refine ⟨isLst_of' (by walk_at "Y28h"), ?_⟩) | walk_at "Y284"); walk_at "Y28n")
    have el : (X ++ pairsN ks).map nd ++ [D.tup [.int 6, .int 1]] = (X ++ (pairsN ks ++ [nEND])).map nd := by simp [nd]
    rw [el] at S
    exact ⟨_, _, _, rfl, S⟩
end G
set_option hygiene false
local macro_rules | `(tactic| walk_at "Z28n") => `(tactic| (try dsimp only [List.set_cons_zero, List.set_cons_succ, Px.wipeE_cons, Px.wipeE_nil, Px.kG, Px.wipeE_cons, List.nil_append, List.cons_append, List.length_nil, List.length_cons]))
local macro_rules | `(tactic| walk_at "Z28l") => `(tactic| (first | omega | decide | (exact ⟨by decide, by omega⟩) | (simp only [List.length_append, List.length_cons, List.length_nil, List.length_map, List.length_take, List.length_drop, List.length_replicate]; omega)))
local macro_rules | `(tactic| walk_at "Z28h") => `(tactic| (first | assumption | exact Px.St.g0 (by assumption) | exact Px.St.g1 (by assumption) | exact Px.St.g2 (by assumption) | exact Px.St.g3 (by assumption) | exact Px.St.g4 (by assumption) | exact Px.St.g5 (by assumption) | exact Px.St.g6 (by assumption) | exact Px.St.g7 (by assumption) | exact Px.St.g8 (by assumption) | exact Px.St.g9 (by assumption) | exact Px.St.g10 (by assumption) | exact Px.St.g11 (by assumption) | exact Px.St.g12 (by assumption) | exact Px.St.g13 (by assumption) | exact Px.St.g14 (by assumption)))
local macro_rules | `(tactic| walk_at "Z283") => `(tactic| (first
    | (with_reducible refine Px.gd_v0 ?_)
    | (with_reducible refine Px.gd_v1 ?_)
    | (with_reducible refine Px.gd_v2 ?_)
    | (with_reducible refine Px.gd_v3 ?_)
    | (with_reducible refine Px.gd_v4 ?_)
    | (with_reducible refine Px.gd_v5 ?_)
    | (with_reducible refine Px.gd_v6 ?_)
    | (with_reducible refine Px.gd_v7 ?_)
    | (with_reducible refine Px.gd_v8 ?_)
    | (with_reducible refine Px.gd_v9 ?_)
    | (with_reducible refine Px.gd_v10 ?_)
    | (with_reducible refine Px.gd_v11 ?_)
    | (with_reducible refine Px.gd_v12 ?_)
    | (with_reducible refine Px.gd_v13 ?_)
    | (with_reducible refine Px.gd_c ?_)
    | (with_reducible refine Px.gd_bin ?_)
    | (with_reducible refine Px.gd_un ?_)
    | (with_reducible refine Px.gd_chain ?_)
    | (with_reducible refine Px.gd_bOf ?_)
    | (with_reducible refine Px.gd_tAnd ?_)
    | (with_reducible refine Px.gd_tOr ?_)
    | (with_reducible refine Px.gd_tNot ?_)
    | (with_reducible refine Px.gd_tTrue ?_)
    | (with_reducible refine Px.gd_eAnd ?_)
    | (with_reducible refine Px.gd_eOr ?_)
    | (with_reducible refine Px.gd_eNot ?_)
    | (with_reducible refine Px.gd_eIf ?_)
    | (with_reducible refine Px.gd_aNil ?_)
    | (with_reducible refine Px.gd_aCons ?_)
    | (with_reducible refine Px.gd_eTup ?_)
    | (with_reducible refine Px.gd_eLst ?_)
    | (with_reducible refine Px.gd_eCall ?_)
    | (with_reducible refine Px.gd_eCallD ?_)
    | (with_reducible refine Px.gd_eCallK ?_)
    | (with_reducible refine Px.gd_oNone ?_)
    | (with_reducible refine Px.gd_oSome ?_)
    | (with_reducible refine Px.gd_eCut ?_)
    | (with_reducible refine Px.gd_eCutK ?_)
    | (with_reducible refine Px.gd_eM0 ?_)
    | (with_reducible refine Px.gd_eM1 ?_)
    | (with_reducible refine Px.gd_jNil ?_)
    | (with_reducible refine Px.gd_jCons ?_)
    | (with_reducible refine Px.gd_eJoined ?_)
    | (with_reducible refine Px.gd_fmtS ?_)
    | (with_reducible refine Px.gd_iVal ?_)
    | (with_reducible refine Px.gd_iRange1 ?_)
    | (with_reducible refine Px.gd_iRange2 ?_)
    | (with_reducible refine Px.gd_iEnum ?_)
    | (with_reducible refine Px.gd_eDnew ?_)
    | (with_reducible refine Px.gd_eComp ?_)
    | (with_reducible refine Px.gd_eComp2 ?_)
    | (with_reducible refine Px.ob_bl ?_)
    | (with_reducible refine Px.oi_int ?_)
    | (with_reducible refine Px.os_str ?_)
    | (with_reducible refine Px.gd_addI ?_)
    | (with_reducible refine Px.gd_subI ?_)
    | (with_reducible refine Px.gd_negI ?_)
    | (with_reducible refine Px.gd_ltI ?_)
    | (with_reducible refine Px.gd_leI ?_)
    | (with_reducible refine Px.gd_gtI ?_)
    | (with_reducible refine Px.gd_geI ?_)
    | (with_reducible refine Px.gd_eqI ?_)
    | (with_reducible refine Px.gd_neI ?_)
    | (with_reducible refine Px.gd_eqS ?_)
    | (with_reducible refine Px.gd_neS ?_)
    | (with_reducible refine Px.gd_isN ?_)
    | (with_reducible refine Px.gd_isNotB ?_)
    | (with_reducible refine Px.gd_isB ?_)
    | (with_reducible refine Px.gd_inC ?_)
    | (with_reducible refine Px.gd_ninC ?_)
    | (with_reducible refine Px.gd_cutT ?_)
    | (with_reducible refine Px.gd_lenT ?_)
    | (with_reducible refine Px.gd_lenF ?_)
    | (with_reducible refine Px.gd_max ?_)
    | (with_reducible refine Px.gd_min ?_)
    | (with_reducible refine Px.gd_abs ?_)
    | (with_reducible refine Px.gd_intI ?_)
    | (with_reducible refine Px.gd_intB ?_)
    | (with_reducible refine Px.gd_find ?_)
    | (with_reducible refine Px.gd_tupT ?_)
    | (with_reducible refine Px.gd_ivS ?_)
    | (with_reducible refine Px.gd_ivT ?_)
    | (with_reducible refine Px.gd_ivF ?_)
    | (with_reducible refine Px.gs_cons ?_)
    | (with_reducible refine Px.gs_nil ?_)
    | (with_reducible refine Px.gs_set ?_)
    | (with_reducible refine Px.gs_expr ?_)
    | (with_reducible refine Px.gs_ret ?_)
    | (with_reducible refine Px.gs_retN ?_)
    | (with_reducible refine Px.gs_if ?_)
    | (with_reducible refine Px.gs_brk ?_)
    | (with_reducible refine Px.gs_cnt ?_)
    | (with_reducible refine Px.gs_asg ?_)
    | (with_reducible refine Px.gs_fgName ?_)
    | (with_reducible refine Px.gs_fgsNil ?_)
    | (with_reducible refine Px.gs_fgsCons ?_)
    | (with_reducible refine Px.gs_fgSub ?_)
    | (with_reducible refine Px.gs_for ?_)
    | (with_reducible refine Px.gd_ok ?_)
    | (with_reducible refine Px.gd_addS ?_ ?_; (· walk_at "Z28l"))
    | (with_reducible refine Px.gd_addT ?_ ?_; (· walk_at "Z28l"))
    | (with_reducible refine Px.gd_mulI ?_ ?_; (· walk_at "Z28l"))
    | (with_reducible refine Px.gd_fdivI ?_ ?_; (· walk_at "Z28l"))
    | (with_reducible refine Px.gd_modI ?_ ?_; (· walk_at "Z28l"))
    | (with_reducible refine Px.gd_powI ?_ ?_; (· walk_at "Z28l"))
    | (with_reducible refine Px.gd_cutS ?_ ?_; (· walk_at "Z28l"))
    | (with_reducible refine Px.gd_lenS ?_ ?_; (· walk_at "Z28l"))
    | (with_reducible refine Px.gd_strI ?_ ?_; (· walk_at "Z28l"))
    | (with_reducible refine Px.gd_divmod ?_ ?_; (· walk_at "Z28l"))
    | (with_reducible refine Px.gd_mkTup ?_ ?_; (· walk_at "Z28l"))
    | (with_reducible refine Px.gd_mkLst ?_ ?_; (· walk_at "Z28l"))
    | (with_reducible refine Px.gd_rg1 ?_ ?_; (· walk_at "Z28l"))
    | (with_reducible refine Px.gd_rg2 ?_ ?_; (· walk_at "Z28l"))
    | (with_reducible refine Px.gd_split ?_ ?_; (· walk_at "Z28l"))
    | (with_reducible refine Px.gd_tupS ?_ ?_; (· walk_at "Z28l"))
    | (with_reducible refine Px.gs_fgTup ?_ ?_; (· walk_at "Z28l"))
    | (with_reducible refine Px.gd_cutKS ?_ ?_; (· walk_at "Z28l"))
    | (with_reducible refine Px.gs_fgTup (by with_unfolding_all rfl) ?_)
    | (with_reducible refine Px.gd_isi (by with_unfolding_all rfl) ?_)
    | (with_reducible refine Px.gd_inT (by with_unfolding_all rfl) ?_)
    | (with_reducible refine Px.gd_inTI (by with_unfolding_all rfl) ?_)
    | (with_reducible refine Px.gd_ninT (by with_unfolding_all rfl) ?_)
    | (with_reducible refine Px.gd_ninTI (by with_unfolding_all rfl) ?_)))
local macro_rules | `(tactic| walk_at "Z284") => `(tactic| (first
    | (with_reducible refine Px.gd_ixS Px.atI0 ?_ ?_; (· walk_at "Z28l"))
    | (with_reducible refine Px.gd_ixL (by walk_at "Z28h") Px.atI0 ?_)
    | (with_reducible refine Px.gd_ixT Px.atI0 ?_)
    | (with_reducible refine Px.gd_newS (by assumption) fun n h' hn S => ?_; dsimp only [List.nil_append, List.cons_append] at S)
    | (with_reducible refine G.gd_pick (by assumption) (by assumption) ?_ ?_ ?_ fun v h' bg' v0 v1 hb S => ?_; (· omega); (· walk_at "Z28l"); (· walk_at "Z28l"))
    | (with_reducible refine Px.gd_ixL (by walk_at "Z28h") ?_ ?_; (· rfl))
    | (with_reducible refine Px.gd_ixSA ?_ ?_ ?_ fun c hc => ?_; (· omega); (· walk_at "Z28l"); (· walk_at "Z28l"))
    | (with_reducible refine Px.gd_ixLA (by walk_at "Z28h") ?_ ?_ fun x hx => ?_; (· omega); (· walk_at "Z28l"))
    | (with_reducible refine Px.gd_addL (by walk_at "Z28h") (by walk_at "Z28h") ?_ ?_; (· walk_at "Z28l"))
    | (with_reducible refine Px.gd_mulL (by walk_at "Z28h") ?_ ?_ ?_ ?_; (· walk_at "Z28l"); (· omega); (· omega))
    | (with_reducible refine Px.gd_neNilE (by walk_at "Z28h") (by walk_at "Z28h") ?_)
    | (with_reducible refine Px.gd_eqNilE (by walk_at "Z28h") (by walk_at "Z28h") ?_)
    | (with_reducible refine Px.gd_lenL (by walk_at "Z28h") ?_)
    | (with_reducible refine Px.gd_ivO (by walk_at "Z28h") ?_)
    | (with_reducible refine Px.gd_eqNilC (by walk_at "Z28h") (by walk_at "Z28h") ?_)
    | (with_reducible refine Px.gd_eqNilS (by walk_at "Z28h") (by walk_at "Z28h") ?_)
    | (with_reducible refine Px.gd_appS0 (by assumption) ?_ fun h' S => ?_; (· walk_at "Z28l"))
    | (with_reducible refine Px.gd_appS1 (by assumption) ?_ fun h' S => ?_; (· walk_at "Z28l"))
    | (with_reducible refine Px.gd_appS2 (by assumption) ?_ fun h' S => ?_; (· walk_at "Z28l"))
    | (with_reducible refine Px.gd_appS3 (by assumption) ?_ fun h' S => ?_; (· walk_at "Z28l"))
    | (rw [if_pos rfl])
    | (rw [if_neg Bool.false_ne_true])
    | (rw [if_pos (by simp only [decide_eq_true_eq, Bool.not_eq_true', decide_eq_false_iff_not]; omega)])
    | (rw [if_neg (by simp only [decide_eq_true_eq, Bool.not_eq_true', decide_eq_false_iff_not]; omega)])
    | (rw [if_pos (by decide)])
    | (rw [if_neg (by decide)])))
local macro_rules | `(tactic| walk_at "Z285") => `(tactic| (first
    | (with_reducible refine Px.gd_v0 ?_)
    | (with_reducible refine Px.gd_v1 ?_)
    | (with_reducible refine Px.gd_v2 ?_)
    | (with_reducible refine Px.gd_v3 ?_)
    | (with_reducible refine Px.gd_v4 ?_)
    | (with_reducible refine Px.gd_v5 ?_)
    | (with_reducible refine Px.gd_v6 ?_)
    | (with_reducible refine Px.gd_v7 ?_)
    | (with_reducible refine Px.gd_v8 ?_)
    | (with_reducible refine Px.gd_v9 ?_)
    | (with_reducible refine Px.gd_v10 ?_)
    | (with_reducible refine Px.gd_v11 ?_)
    | (with_reducible refine Px.gd_v12 ?_)
    | (with_reducible refine Px.gd_v13 ?_)
    | (with_reducible refine Px.gd_c ?_)
    | (with_reducible refine Px.gd_bin ?_)
    | (with_reducible refine Px.gd_un ?_)
    | (with_reducible refine Px.gd_chain ?_)
    | (with_reducible refine Px.gd_bOf ?_)
    | (with_reducible refine Px.gd_tAnd ?_)
    | (with_reducible refine Px.gd_tOr ?_)
    | (with_reducible refine Px.gd_tNot ?_)
    | (with_reducible refine Px.gd_tTrue ?_)
    | (with_reducible refine Px.gd_eAnd ?_)
    | (with_reducible refine Px.gd_eOr ?_)
    | (with_reducible refine Px.gd_eNot ?_)
    | (with_reducible refine Px.gd_eIf ?_)
    | (with_reducible refine Px.gd_aNil ?_)
    | (with_reducible refine Px.gd_aCons ?_)
    | (with_reducible refine Px.gd_eTup ?_)
    | (with_reducible refine Px.gd_eLst ?_)
    | (with_reducible refine Px.gd_eCall ?_)
    | (with_reducible refine Px.gd_eCallD ?_)
    | (with_reducible refine Px.gd_eCallK ?_)
    | (with_reducible refine Px.gd_oNone ?_)
    | (with_reducible refine Px.gd_oSome ?_)
    | (with_reducible refine Px.gd_eCut ?_)
    | (with_reducible refine Px.gd_eCutK ?_)
    | (with_reducible refine Px.gd_eM0 ?_)
    | (with_reducible refine Px.gd_eM1 ?_)
    | (with_reducible refine Px.gd_jNil ?_)
    | (with_reducible refine Px.gd_jCons ?_)
    | (with_reducible refine Px.gd_eJoined ?_)
    | (with_reducible refine Px.gd_fmtS ?_)
    | (with_reducible refine Px.gd_iVal ?_)
    | (with_reducible refine Px.gd_iRange1 ?_)
    | (with_reducible refine Px.gd_iRange2 ?_)
    | (with_reducible refine Px.gd_iEnum ?_)
    | (with_reducible refine Px.gd_eDnew ?_)
    | (with_reducible refine Px.gd_eComp ?_)
    | (with_reducible refine Px.gd_eComp2 ?_)
    | (with_reducible refine Px.ob_bl ?_)
    | (with_reducible refine Px.oi_int ?_)
    | (with_reducible refine Px.os_str ?_)
    | (with_reducible refine Px.gd_addI ?_)
    | (with_reducible refine Px.gd_subI ?_)
    | (with_reducible refine Px.gd_negI ?_)
    | (with_reducible refine Px.gd_ltI ?_)
    | (with_reducible refine Px.gd_leI ?_)
    | (with_reducible refine Px.gd_gtI ?_)
    | (with_reducible refine Px.gd_geI ?_)
    | (with_reducible refine Px.gd_eqI ?_)
    | (with_reducible refine Px.gd_neI ?_)
    | (with_reducible refine Px.gd_eqS ?_)
    | (with_reducible refine Px.gd_neS ?_)
    | (with_reducible refine Px.gd_isN ?_)
    | (with_reducible refine Px.gd_isNotB ?_)
    | (with_reducible refine Px.gd_isB ?_)
    | (with_reducible refine Px.gd_inC ?_)
    | (with_reducible refine Px.gd_ninC ?_)
    | (with_reducible refine Px.gd_cutT ?_)
    | (with_reducible refine Px.gd_lenT ?_)
    | (with_reducible refine Px.gd_lenF ?_)
    | (with_reducible refine Px.gd_max ?_)
    | (with_reducible refine Px.gd_min ?_)
    | (with_reducible refine Px.gd_abs ?_)
    | (with_reducible refine Px.gd_intI ?_)
    | (with_reducible refine Px.gd_intB ?_)
    | (with_reducible refine Px.gd_find ?_)
    | (with_reducible refine Px.gd_tupT ?_)
    | (with_reducible refine Px.gd_ivS ?_)
    | (with_reducible refine Px.gd_ivT ?_)
    | (with_reducible refine Px.gd_ivF ?_)
    | (with_reducible refine Px.gs_nil ?_)
    | (with_reducible refine Px.gs_set ?_)
    | (with_reducible refine Px.gs_expr ?_)
    | (with_reducible refine Px.gs_ret ?_)
    | (with_reducible refine Px.gs_retN ?_)
    | (with_reducible refine Px.gs_if ?_)
    | (with_reducible refine Px.gs_brk ?_)
    | (with_reducible refine Px.gs_cnt ?_)
    | (with_reducible refine Px.gs_asg ?_)
    | (with_reducible refine Px.gs_fgName ?_)
    | (with_reducible refine Px.gs_fgsNil ?_)
    | (with_reducible refine Px.gs_fgsCons ?_)
    | (with_reducible refine Px.gs_fgSub ?_)
    | (with_reducible refine Px.gs_for ?_)
    | (with_reducible refine Px.gd_ok ?_)
    | (with_reducible refine Px.gd_addS ?_ ?_; (· walk_at "Z28l"))
    | (with_reducible refine Px.gd_addT ?_ ?_; (· walk_at "Z28l"))
    | (with_reducible refine Px.gd_mulI ?_ ?_; (· walk_at "Z28l"))
    | (with_reducible refine Px.gd_fdivI ?_ ?_; (· walk_at "Z28l"))
    | (with_reducible refine Px.gd_modI ?_ ?_; (· walk_at "Z28l"))
    | (with_reducible refine Px.gd_powI ?_ ?_; (· walk_at "Z28l"))
    | (with_reducible refine Px.gd_cutS ?_ ?_; (· walk_at "Z28l"))
    | (with_reducible refine Px.gd_lenS ?_ ?_; (· walk_at "Z28l"))
    | (with_reducible refine Px.gd_strI ?_ ?_; (· walk_at "Z28l"))
    | (with_reducible refine Px.gd_divmod ?_ ?_; (· walk_at "Z28l"))
    | (with_reducible refine Px.gd_mkTup ?_ ?_; (· walk_at "Z28l"))
    | (with_reducible refine Px.gd_mkLst ?_ ?_; (· walk_at "Z28l"))
    | (with_reducible refine Px.gd_rg1 ?_ ?_; (· walk_at "Z28l"))
    | (with_reducible refine Px.gd_rg2 ?_ ?_; (· walk_at "Z28l"))
    | (with_reducible refine Px.gd_split ?_ ?_; (· walk_at "Z28l"))
    | (with_reducible refine Px.gd_tupS ?_ ?_; (· walk_at "Z28l"))
    | (with_reducible refine Px.gs_fgTup ?_ ?_; (· walk_at "Z28l"))
    | (with_reducible refine Px.gd_cutKS ?_ ?_; (· walk_at "Z28l"))
    | (with_reducible refine Px.gs_fgTup (by with_unfolding_all rfl) ?_)
    | (with_reducible refine Px.gd_isi (by with_unfolding_all rfl) ?_)
    | (with_reducible refine Px.gd_inT (by with_unfolding_all rfl) ?_)
    | (with_reducible refine Px.gd_inTI (by with_unfolding_all rfl) ?_)
    | (with_reducible refine Px.gd_ninT (by with_unfolding_all rfl) ?_)
    | (with_reducible refine Px.gd_ninTI (by with_unfolding_all rfl) ?_)))
local macro_rules | `(tactic| walk_at "Z286") => `(tactic| (first
    | (with_reducible refine Px.gd_v0 ?_)
    | (with_reducible refine Px.gd_v1 ?_)
    | (with_reducible refine Px.gd_v2 ?_)
    | (with_reducible refine Px.gd_v3 ?_)
    | (with_reducible refine Px.gd_v4 ?_)
    | (with_reducible refine Px.gd_v5 ?_)
    | (with_reducible refine Px.gd_v6 ?_)
    | (with_reducible refine Px.gd_v7 ?_)
    | (with_reducible refine Px.gd_v8 ?_)
    | (with_reducible refine Px.gd_v9 ?_)
    | (with_reducible refine Px.gd_v10 ?_)
    | (with_reducible refine Px.gd_v11 ?_)
    | (with_reducible refine Px.gd_v12 ?_)
    | (with_reducible refine Px.gd_v13 ?_)
    | (with_reducible refine Px.gd_c ?_)
    | (with_reducible refine Px.gd_bin ?_)
    | (with_reducible refine Px.gd_un ?_)
    | (with_reducible refine Px.gd_chain ?_)
    | (with_reducible refine Px.gd_bOf ?_)
    | (with_reducible refine Px.gd_tAnd ?_)
    | (with_reducible refine Px.gd_tOr ?_)
    | (with_reducible refine Px.gd_tNot ?_)
    | (with_reducible refine Px.gd_tTrue ?_)
    | (with_reducible refine Px.gd_eAnd ?_)
    | (with_reducible refine Px.gd_eOr ?_)
    | (with_reducible refine Px.gd_eNot ?_)
    | (with_reducible refine Px.gd_eIf ?_)
    | (with_reducible refine Px.gd_aNil ?_)
    | (with_reducible refine Px.gd_aCons ?_)
    | (with_reducible refine Px.gd_eTup ?_)
    | (with_reducible refine Px.gd_eLst ?_)
    | (with_reducible refine Px.gd_eCall ?_)
    | (with_reducible refine Px.gd_eCallD ?_)
    | (with_reducible refine Px.gd_eCallK ?_)
    | (with_reducible refine Px.gd_oNone ?_)
    | (with_reducible refine Px.gd_oSome ?_)
    | (with_reducible refine Px.gd_eCut ?_)
    | (with_reducible refine Px.gd_eCutK ?_)
    | (with_reducible refine Px.gd_eM0 ?_)
    | (with_reducible refine Px.gd_eM1 ?_)
    | (with_reducible refine Px.gd_jNil ?_)
    | (with_reducible refine Px.gd_jCons ?_)
    | (with_reducible refine Px.gd_eJoined ?_)
    | (with_reducible refine Px.gd_fmtS ?_)
    | (with_reducible refine Px.gd_iVal ?_)
    | (with_reducible refine Px.gd_iRange1 ?_)
    | (with_reducible refine Px.gd_iRange2 ?_)
    | (with_reducible refine Px.gd_iEnum ?_)
    | (with_reducible refine Px.gd_eDnew ?_)
    | (with_reducible refine Px.gd_eComp ?_)
    | (with_reducible refine Px.gd_eComp2 ?_)
    | (with_reducible refine Px.ob_bl ?_)
    | (with_reducible refine Px.oi_int ?_)
    | (with_reducible refine Px.os_str ?_)
    | (with_reducible refine Px.gd_addI ?_)
    | (with_reducible refine Px.gd_subI ?_)
    | (with_reducible refine Px.gd_negI ?_)
    | (with_reducible refine Px.gd_ltI ?_)
    | (with_reducible refine Px.gd_leI ?_)
    | (with_reducible refine Px.gd_gtI ?_)
    | (with_reducible refine Px.gd_geI ?_)
    | (with_reducible refine Px.gd_eqI ?_)
    | (with_reducible refine Px.gd_neI ?_)
    | (with_reducible refine Px.gd_eqS ?_)
    | (with_reducible refine Px.gd_neS ?_)
    | (with_reducible refine Px.gd_isN ?_)
    | (with_reducible refine Px.gd_isNotB ?_)
    | (with_reducible refine Px.gd_isB ?_)
    | (with_reducible refine Px.gd_inC ?_)
    | (with_reducible refine Px.gd_ninC ?_)
    | (with_reducible refine Px.gd_cutT ?_)
    | (with_reducible refine Px.gd_lenT ?_)
    | (with_reducible refine Px.gd_lenF ?_)
    | (with_reducible refine Px.gd_max ?_)
    | (with_reducible refine Px.gd_min ?_)
    | (with_reducible refine Px.gd_abs ?_)
    | (with_reducible refine Px.gd_intI ?_)
    | (with_reducible refine Px.gd_intB ?_)
    | (with_reducible refine Px.gd_find ?_)
    | (with_reducible refine Px.gd_tupT ?_)
    | (with_reducible refine Px.gd_ivS ?_)
    | (with_reducible refine Px.gd_ivT ?_)
    | (with_reducible refine Px.gd_ivF ?_)
    | (with_reducible refine Px.gd_new0 ?_)
    | (with_reducible refine Px.gs_cons ?_)
    | (with_reducible refine Px.gs_nil ?_)
    | (with_reducible refine Px.gs_set ?_)
    | (with_reducible refine Px.gs_expr ?_)
    | (with_reducible refine Px.gs_ret ?_)
    | (with_reducible refine Px.gs_retN ?_)
    | (with_reducible refine Px.gs_if ?_)
    | (with_reducible refine Px.gs_brk ?_)
    | (with_reducible refine Px.gs_cnt ?_)
    | (with_reducible refine Px.gs_asg ?_)
    | (with_reducible refine Px.gs_fgName ?_)
    | (with_reducible refine Px.gs_fgsNil ?_)
    | (with_reducible refine Px.gs_fgsCons ?_)
    | (with_reducible refine Px.gs_fgSub ?_)
    | (with_reducible refine Px.gs_for ?_)
    | (with_reducible refine Px.gd_ok ?_)
    | (with_reducible refine Px.gd_addS ?_ ?_; (· walk_at "Z28l"))
    | (with_reducible refine Px.gd_addT ?_ ?_; (· walk_at "Z28l"))
    | (with_reducible refine Px.gd_mulI ?_ ?_; (· walk_at "Z28l"))
    | (with_reducible refine Px.gd_fdivI ?_ ?_; (· walk_at "Z28l"))
    | (with_reducible refine Px.gd_modI ?_ ?_; (· walk_at "Z28l"))
    | (with_reducible refine Px.gd_powI ?_ ?_; (· walk_at "Z28l"))
    | (with_reducible refine Px.gd_cutS ?_ ?_; (· walk_at "Z28l"))
    | (with_reducible refine Px.gd_lenS ?_ ?_; (· walk_at "Z28l"))
    | (with_reducible refine Px.gd_strI ?_ ?_; (· walk_at "Z28l"))
    | (with_reducible refine Px.gd_divmod ?_ ?_; (· walk_at "Z28l"))
    | (with_reducible refine Px.gd_mkTup ?_ ?_; (· walk_at "Z28l"))
    | (with_reducible refine Px.gd_mkLst ?_ ?_; (· walk_at "Z28l"))
    | (with_reducible refine Px.gd_rg1 ?_ ?_; (· walk_at "Z28l"))
    | (with_reducible refine Px.gd_rg2 ?_ ?_; (· walk_at "Z28l"))
    | (with_reducible refine Px.gd_split ?_ ?_; (· walk_at "Z28l"))
    | (with_reducible refine Px.gd_tupS ?_ ?_; (· walk_at "Z28l"))
    | (with_reducible refine Px.gs_fgTup ?_ ?_; (· walk_at "Z28l"))
    | (with_reducible refine Px.gd_cutKS ?_ ?_; (· walk_at "Z28l"))
    | (with_reducible refine Px.gs_fgTup (by with_unfolding_all rfl) ?_)
    | (with_reducible refine Px.gd_isi (by with_unfolding_all rfl) ?_)
    | (with_reducible refine Px.gd_inT (by with_unfolding_all rfl) ?_)
    | (with_reducible refine Px.gd_inTI (by with_unfolding_all rfl) ?_)
    | (with_reducible refine Px.gd_ninT (by with_unfolding_all rfl) ?_)
    | (with_reducible refine Px.gd_ninTI (by with_unfolding_all rfl) ?_)))
local macro_rules | `(tactic| walk_at "Z287") => `(tactic| (first
    | (with_reducible refine Px.gd_ixS Px.atI0 ?_ ?_; (· walk_at "Z28l"))
    | (with_reducible refine Px.gd_ixLg ?_; refine ⟨_, _, rfl, Px.atI0, ?_⟩)
    | (with_reducible refine Px.gd_ixT Px.atI0 ?_)
    | (with_reducible refine Px.gd_ivOg ?_; refine ⟨_, rfl, ?_⟩)
    | (with_reducible refine Px.gd_ivAg ?_; refine ⟨_, _, rfl, rfl, ?_, ?_, ?_⟩; (· simp; done); (· simp; done))
    | (with_reducible refine Px.gd_eqNilEg ?_; refine ⟨rfl, rfl, ?_⟩)
    | (with_reducible refine Px.gd_eqNilCg ?_; refine ⟨_, rfl, rfl, ?_⟩)
    | (with_reducible refine Px.gd_eqNilSg ?_; refine ⟨_, rfl, rfl, ?_⟩)
    | (with_reducible refine Px.gd_ixLg ?_; refine ⟨_, _, rfl, rfl, ?_⟩)
    | (with_reducible refine Px.gd_ixTg ?_; refine ⟨_, rfl, ?_⟩)
    | (with_reducible refine Px.gd_lenLg ?_; refine ⟨_, rfl, ?_⟩)
    | (with_reducible refine Px.gd_addLg ?_; refine ⟨_, _, rfl, rfl, ?_, ?_⟩; (· walk_at "Z28l"))
    | (with_reducible refine Px.gd_ixSA ?_ ?_ ?_ fun c hc => ?_; (· omega); (· walk_at "Z28l"); (· walk_at "Z28l"))
    | (rw [if_pos rfl])
    | (rw [if_neg Bool.false_ne_true])
    | (rw [if_pos (by simp only [decide_eq_true_eq, Bool.not_eq_true', decide_eq_false_iff_not]; omega)])
    | (rw [if_neg (by simp only [decide_eq_true_eq, Bool.not_eq_true', decide_eq_false_iff_not]; omega)])
    | (rw [if_pos (by decide)])
    | (rw [if_neg (by decide)])))
local macro_rules | `(tactic| walk_at "Z288") => `(tactic| (first
    | (with_reducible refine Px.gd_v0 ?_)
    | (with_reducible refine Px.gd_v1 ?_)
    | (with_reducible refine Px.gd_v2 ?_)
    | (with_reducible refine Px.gd_v3 ?_)
    | (with_reducible refine Px.gd_v4 ?_)
    | (with_reducible refine Px.gd_v5 ?_)
    | (with_reducible refine Px.gd_v6 ?_)
    | (with_reducible refine Px.gd_v7 ?_)
    | (with_reducible refine Px.gd_v8 ?_)
    | (with_reducible refine Px.gd_v9 ?_)
    | (with_reducible refine Px.gd_v10 ?_)
    | (with_reducible refine Px.gd_v11 ?_)
    | (with_reducible refine Px.gd_v12 ?_)
    | (with_reducible refine Px.gd_v13 ?_)
    | (with_reducible refine Px.gd_c ?_)
    | (with_reducible refine Px.gd_bin ?_)
    | (with_reducible refine Px.gd_un ?_)
    | (with_reducible refine Px.gd_chain ?_)
    | (with_reducible refine Px.gd_bOf ?_)
    | (with_reducible refine Px.gd_tAnd ?_)
    | (with_reducible refine Px.gd_tOr ?_)
    | (with_reducible refine Px.gd_tNot ?_)
    | (with_reducible refine Px.gd_tTrue ?_)
    | (with_reducible refine Px.gd_eAnd ?_)
    | (with_reducible refine Px.gd_eOr ?_)
    | (with_reducible refine Px.gd_eNot ?_)
    | (with_reducible refine Px.gd_eIf ?_)
    | (with_reducible refine Px.gd_aNil ?_)
    | (with_reducible refine Px.gd_aCons ?_)
    | (with_reducible refine Px.gd_eTup ?_)
    | (with_reducible refine Px.gd_eLst ?_)
    | (with_reducible refine Px.gd_eCall ?_)
    | (with_reducible refine Px.gd_eCallD ?_)
    | (with_reducible refine Px.gd_eCallK ?_)
    | (with_reducible refine Px.gd_oNone ?_)
    | (with_reducible refine Px.gd_oSome ?_)
    | (with_reducible refine Px.gd_eCut ?_)
    | (with_reducible refine Px.gd_eCutK ?_)
    | (with_reducible refine Px.gd_eM0 ?_)
    | (with_reducible refine Px.gd_eM1 ?_)
    | (with_reducible refine Px.gd_jNil ?_)
    | (with_reducible refine Px.gd_jCons ?_)
    | (with_reducible refine Px.gd_eJoined ?_)
    | (with_reducible refine Px.gd_fmtS ?_)
    | (with_reducible refine Px.gd_iVal ?_)
    | (with_reducible refine Px.gd_iRange1 ?_)
    | (with_reducible refine Px.gd_iRange2 ?_)
    | (with_reducible refine Px.gd_iEnum ?_)
    | (with_reducible refine Px.gd_eDnew ?_)
    | (with_reducible refine Px.gd_eComp ?_)
    | (with_reducible refine Px.gd_eComp2 ?_)
    | (with_reducible refine Px.ob_bl ?_)
    | (with_reducible refine Px.oi_int ?_)
    | (with_reducible refine Px.os_str ?_)
    | (with_reducible refine Px.gd_addI ?_)
    | (with_reducible refine Px.gd_subI ?_)
    | (with_reducible refine Px.gd_negI ?_)
    | (with_reducible refine Px.gd_ltI ?_)
    | (with_reducible refine Px.gd_leI ?_)
    | (with_reducible refine Px.gd_gtI ?_)
    | (with_reducible refine Px.gd_geI ?_)
    | (with_reducible refine Px.gd_eqI ?_)
    | (with_reducible refine Px.gd_neI ?_)
    | (with_reducible refine Px.gd_eqS ?_)
    | (with_reducible refine Px.gd_neS ?_)
    | (with_reducible refine Px.gd_isN ?_)
    | (with_reducible refine Px.gd_isNotB ?_)
    | (with_reducible refine Px.gd_isB ?_)
    | (with_reducible refine Px.gd_inC ?_)
    | (with_reducible refine Px.gd_ninC ?_)
    | (with_reducible refine Px.gd_cutT ?_)
    | (with_reducible refine Px.gd_lenT ?_)
    | (with_reducible refine Px.gd_lenF ?_)
    | (with_reducible refine Px.gd_max ?_)
    | (with_reducible refine Px.gd_min ?_)
    | (with_reducible refine Px.gd_intI ?_)
    | (with_reducible refine Px.gd_intB ?_)
    | (with_reducible refine Px.gd_find ?_)
    | (with_reducible refine Px.gd_tupT ?_)
    | (with_reducible refine Px.gd_ivS ?_)
    | (with_reducible refine Px.gd_ivT ?_)
    | (with_reducible refine Px.gd_ivF ?_)
    | (with_reducible refine Px.gs_nil ?_)
    | (with_reducible refine Px.gs_set ?_)
    | (with_reducible refine Px.gs_expr ?_)
    | (with_reducible refine Px.gs_ret ?_)
    | (with_reducible refine Px.gs_retN ?_)
    | (with_reducible refine Px.gs_if ?_)
    | (with_reducible refine Px.gs_brk ?_)
    | (with_reducible refine Px.gs_cnt ?_)
    | (with_reducible refine Px.gs_asg ?_)
    | (with_reducible refine Px.gs_fgName ?_)
    | (with_reducible refine Px.gs_fgsNil ?_)
    | (with_reducible refine Px.gs_fgsCons ?_)
    | (with_reducible refine Px.gs_fgSub ?_)
    | (with_reducible refine Px.gs_for ?_)
    | (with_reducible refine Px.gd_ok ?_)
    | (with_reducible refine Px.gd_addS ?_ ?_; (· walk_at "Z28l"))
    | (with_reducible refine Px.gd_addT ?_ ?_; (· walk_at "Z28l"))
    | (with_reducible refine Px.gd_mulI ?_ ?_; (· walk_at "Z28l"))
    | (with_reducible refine Px.gd_fdivI ?_ ?_; (· walk_at "Z28l"))
    | (with_reducible refine Px.gd_modI ?_ ?_; (· walk_at "Z28l"))
    | (with_reducible refine Px.gd_powI ?_ ?_; (· walk_at "Z28l"))
    | (with_reducible refine Px.gd_cutS ?_ ?_; (· walk_at "Z28l"))
    | (with_reducible refine Px.gd_lenS ?_ ?_; (· walk_at "Z28l"))
    | (with_reducible refine Px.gd_strI ?_ ?_; (· walk_at "Z28l"))
    | (with_reducible refine Px.gd_divmod ?_ ?_; (· walk_at "Z28l"))
    | (with_reducible refine Px.gd_mkTup ?_ ?_; (· walk_at "Z28l"))
    | (with_reducible refine Px.gd_mkLst ?_ ?_; (· walk_at "Z28l"))
    | (with_reducible refine Px.gd_rg1 ?_ ?_; (· walk_at "Z28l"))
    | (with_reducible refine Px.gd_rg2 ?_ ?_; (· walk_at "Z28l"))
    | (with_reducible refine Px.gd_split ?_ ?_; (· walk_at "Z28l"))
    | (with_reducible refine Px.gd_tupS ?_ ?_; (· walk_at "Z28l"))
    | (with_reducible refine Px.gs_fgTup ?_ ?_; (· walk_at "Z28l"))
    | (with_reducible refine Px.gd_cutKS ?_ ?_; (· walk_at "Z28l"))
    | (with_reducible refine Px.gs_fgTup (by with_unfolding_all rfl) ?_)
    | (with_reducible refine Px.gd_isi (by with_unfolding_all rfl) ?_)
    | (with_reducible refine Px.gd_inT (by with_unfolding_all rfl) ?_)
    | (with_reducible refine Px.gd_inTI (by with_unfolding_all rfl) ?_)
    | (with_reducible refine Px.gd_ninT (by with_unfolding_all rfl) ?_)
    | (with_reducible refine Px.gd_ninTI (by with_unfolding_all rfl) ?_)))
local macro_rules | `(tactic| walk_at "Z289") => `(tactic| (first
    | (with_reducible refine Px.gd_ixS Px.atI0 ?_ ?_; (· walk_at "Z28l"))
    | (with_reducible refine Px.gd_ixL (by walk_at "Z28h") Px.atI0 ?_)
    | (with_reducible refine Px.gd_ixT Px.atI0 ?_)
    | (with_reducible refine Px.gd_newS (by assumption) fun n h' hn S => ?_; dsimp only [List.nil_append, List.cons_append] at S)
    | (with_reducible refine G.gd_pick (by assumption) (by assumption) ?_ ?_ ?_ fun v h' bg' v0 v1 hb S => ?_; (· omega); (· walk_at "Z28l"); (· walk_at "Z28l"))
    | (with_reducible refine Px.gd_ixL (by walk_at "Z28h") ?_ ?_; (· rfl))
    | (with_reducible refine Px.gd_ixSA ?_ ?_ ?_ fun c hc => ?_; (· omega); (· walk_at "Z28l"); (· walk_at "Z28l"))
    | (with_reducible refine Px.gd_ixLA (by walk_at "Z28h") ?_ ?_ fun x hx => ?_; (· omega); (· walk_at "Z28l"))
    | (with_reducible refine Px.gd_addL (by walk_at "Z28h") (by walk_at "Z28h") ?_ ?_; (· walk_at "Z28l"))
    | (with_reducible refine Px.gd_neNilE (by walk_at "Z28h") (by walk_at "Z28h") ?_)
    | (with_reducible refine Px.gd_eqNilE (by walk_at "Z28h") (by walk_at "Z28h") ?_)
    | (with_reducible refine Px.gd_lenL (by walk_at "Z28h") ?_)
    | (with_reducible refine Px.gd_ivO (by walk_at "Z28h") ?_)
    | (with_reducible refine Px.gd_eqNilC (by walk_at "Z28h") (by walk_at "Z28h") ?_)
    | (with_reducible refine Px.gd_eqNilS (by walk_at "Z28h") (by walk_at "Z28h") ?_)
    | (with_reducible refine Px.gd_appS0 (by assumption) ?_ fun h' S => ?_; (· walk_at "Z28l"))
    | (with_reducible refine Px.gd_appS1 (by assumption) ?_ fun h' S => ?_; (· walk_at "Z28l"))
    | (with_reducible refine Px.gd_appS2 (by assumption) ?_ fun h' S => ?_; (· walk_at "Z28l"))
    | (with_reducible refine Px.gd_appS3 (by assumption) ?_ fun h' S => ?_; (· walk_at "Z28l"))
    | (rw [if_pos rfl])
    | (rw [if_neg Bool.false_ne_true])
    | (rw [if_pos (by simp only [decide_eq_true_eq, Bool.not_eq_true', decide_eq_false_iff_not]; omega)])
    | (rw [if_neg (by simp only [decide_eq_true_eq, Bool.not_eq_true', decide_eq_false_iff_not]; omega)])
    | (rw [if_pos (by decide)])
    | (rw [if_neg (by decide)])))
set_option hygiene true
namespace G
open Px
variable {E : String → Option D → Hy → Prop} {h : Hy} {Q : D × Hy → Prop}
abbrev AB : D := .str ['a', 'b', 'c', 'd', 'e', 'f', 'g', 'h', 'i', 'j', 'k', 'l', 'm', 'n', 'o', 'p', 'q', 'r', 's', 't', 'u', 'v', 'w', 'x', 'y', 'z']
theorem law_sounded_ev {kd : Kd} : ∀ (n : Nat) (s : Sy), s.deep < n → s.size ≤ 1000 → s.all (Lf.ok kd) → (∀ x ∈ s.ws, x ∈ SW) → ∀ h, f__law_sounded n [.tup s.ds] h = .ok (.ref h.length, h ++ [.lst (s.nts.map nd)]) := by
  intro nf
  induction nf with
  | zero => intro s hs; omega
  | succ nf ih =>
    intro s hs hz hok hws h
    have hal := Sy.all_pl.mp hok
    have sl := Sy.nts_len hok
    unfold f__law_sounded
    refine ok_of (gd_pure (by rfl) (by simp) ?_)
    have S : St [] 0 [] [] := St.start0
    unfold b__law_sounded
    simp only [startE, List.map_cons, List.map_nil, List.length_cons, List.length_nil, Nat.reduceAdd, Nat.reduceSub, List.replicate_succ, List.replicate_zero, List.cons_append, List.nil_append]
    walk_at "Z28n"
    repeat ((first | walk_at "Z283" | walk_at "Z284"); walk_at "Z28n")
    rw [Sy.ds_pl]
    refine gs_fMap Pr.d s.pl (fun pre ρ h' => ∃ (f : Nat) (x m b c y : Option D), ρ = [some (.tup (s.pl.map Pr.d)), some AB, some (.ref f), x, m, b, c, y] ∧ St [] 0 h' [(f, .lst ((Sy.of pre).nts.map nd))]) (fun _ _ _ _ => srcOk_none) _ _ ⟨n, _, _, _, _, _, rfl, S⟩ (fun pre p post ρ h' e i => ?_) fun ρ h' i => ?_
    · with_reducible obtain ⟨f, x, m, b, c, y, rfl, S⟩ := i
      have hp : p ∈ s.pl := by rw [e]; simp
      have hpo := hal p hp
      have snoc := nts_snoc (pre := pre) (p := p)
      have hXl : (Sy.of pre).nts.length + p.nts.length ≤ s.nts.length := by
        rw [← List.length_append, ← snoc, Sy.nts_of, Sy.nts_pl, e, List.map_append, List.map_append, List.flatten_append, List.flatten_append, List.map_cons, List.map_cons, List.flatten_cons, List.flatten_cons]
        simp only [List.length_append, List.map_nil, List.flatten_nil, List.length_nil]
        omega
      have hsub : ∀ x ∈ (Sy.of [p]).ws, x ∈ SW := fun x hx => hws x (by rw [← Sy.of_pl s]; exact Sy.ws_of.mpr ⟨p, hp, hx⟩)
      have hpw : p.w ∈ SW := hsub p.w (by rw [Pr.ws_inn]; simp)
      refine ⟨_, rfl, ?_⟩
      rw [snoc]
      generalize (Sy.of pre).nts = X at S hXl
      unfold l__law_sounded_1
      rcases p with (w | i | x0 | _ | rows) | ⟨q, i⟩
      · have e : (Pr.lf (.wd w)).d = .tup [.str ['w', 'o', 'r', 'd'], .str w] := rfl
        have hw : isW w := hpo
        have hw2 := hw.2.1
        have hw3 : ∀ c ∈ w, c ∈ ALPH := hw.2.2
        simp only [e]
        simp only [Pr.nts, Lf.nts, List.length_append, ltsN_len] at hXl
        with_reducible refine gs_cons ?_
        walk_at "Z28n"
        repeat ((first | walk_at "Z285" | walk_at "Z284"); walk_at "Z28n")
        with_reducible refine gs_cons ?_
        walk_at "Z28n"
        repeat ((first | walk_at "Z285" | (with_reducible refine gd_ixT atI1 ?_) | walk_at "Z284"); walk_at "Z28n")
        refine ⟨by rw [List.length_map]; omega, ?_⟩
        refine gd_cAll (fun c => D.str [c]) w (fun c => .int (letN c)) srcOk_none (fun c hc => ?_) ?_
        · walk_at "Z28n"
          repeat ((first | walk_at "Z286" | (with_reducible refine gd_indexA rfl (hw3 c hc) ?_) | walk_at "Z287"); walk_at "Z28n")
        walk_at "Z28n"
        repeat ((first | walk_at "Z285" | walk_at "Z284"); walk_at "Z28n")
        with_reducible refine gs_cons ?_
        walk_at "Z28n"
        repeat ((first | walk_at "Z285" | walk_at "Z284"); walk_at "Z28n")
        have el : (w.map fun c => D.int (letN c)) = (w.map letN).map D.int := by rw [List.map_map]; rfl
        rw [el] at S
        have S : St [] 0 h' [(f, .lst (X.map nd)), (_, .lst ((w.map letN).map D.int))] := St.sub S (.cons₂ _ (.cons _ (.cons₂ _ .slnil)))
        with_reducible refine gs_mid (tail_ev (by rw [List.length_map]; omega) S) fun ρ h ⟨f', m, y, z, S⟩ => ?_
        rw [← ltsN_pairs] at S
        exact ⟨f', _, _, _, _, _, z, S⟩
      · have e : (Pr.lf (.nu i)).d = .tup [.str ['n', 'u', 'm', 'b', 'e', 'r'], .int i] := rfl
        have hi : -1000000000 ≤ i ∧ i ≤ 1000000000 := hpo
        obtain ⟨hl, hd⟩ := absI_num hi.1 hi.2
        have a0 : 0 ≤ absI i := by unfold absI; split <;> omega
        have a1 : absI i ≤ 1000000000 := by unfold absI; split <;> omega
        simp only [e]
        simp only [Pr.nts, Lf.nts, List.length_append, List.length_cons, fgsN_len] at hXl ⊢
        obtain ⟨M, hM⟩ : ∃ M, M = if i < 0 then [nMINUS, nMINUS] else [] := ⟨_, rfl⟩
        have hMl : M.length ≤ 2 := by rw [hM]; split <;> simp
        rw [← hM] at hXl ⊢
        with_reducible refine gs_cons ?_
        walk_at "Z28n"
        repeat ((first | walk_at "Z285" | walk_at "Z284"); walk_at "Z28n")
        with_reducible refine gs_cons ?_
        walk_at "Z28n"
        repeat ((first | walk_at "Z285" | walk_at "Z284"); walk_at "Z28n")
        with_reducible refine gs_cons ?_
        walk_at "Z28n"
        repeat ((first | walk_at "Z285" | walk_at "Z284"); walk_at "Z28n")
        with_reducible refine gs_cons ?_
        have md : ∀ {Q : D × Hy → Prop} {E : String → Option D → Hy → Prop} {h : Hy} {b : Nat}, h[b]? = some (.lst [.tup [.int 5, .int 1], .tup [.int 5, .int 1]]) → Good (new (.lst (M.map nd)) h) Q E → Good (sMul (.ref b) (.int (if decide (i < 0) = true then 1 else 0)) h) Q E := fun {Q E h b} e q => by
          by_cases c : i < 0
          · rw [decide_eq_true c, if_pos rfl]
            refine gd_mulL1e e (by decide) ?_
            rw [hM, if_pos c] at q
            exact q
          · rw [decide_eq_false c, if_neg Bool.false_ne_true]
            refine gd_mulL0e e ?_
            rw [hM, if_neg c] at q
            exact q
        walk_at "Z28n"
        repeat ((first | walk_at "Z288" | (with_reducible refine gd_ixT atI1 ?_) | (with_reducible refine gd_intB ?_) | (with_reducible refine md (by walk_at "Z28h") ?_) | (with_reducible refine gd_absI ?_) | walk_at "Z289"); walk_at "Z28n")
        refine ⟨by rw [List.length_map]; omega, ?_⟩
        refine gd_cAll (fun c => D.str [c]) (num (absI i)) (fun c => .int (figN c)) srcOk_none (fun c hc => ?_) ?_
        · walk_at "Z28n"
          repeat ((first | walk_at "Z286" | (with_reducible refine gd_intFg (hd c hc) ?_) | walk_at "Z287"); walk_at "Z28n")
        walk_at "Z28n"
        repeat ((first | walk_at "Z285" | walk_at "Z284"); walk_at "Z28n")
        have el : ((num (absI i)).map fun c => D.int (figN c)) = ((num (absI i)).map figN).map D.int := by rw [List.map_map]; rfl
        have el2 : X.map nd ++ [D.tup [.int 7, .int 1]] ++ M.map nd = (X ++ (nBEGIN :: M)).map nd := by simp [nd]
        rw [el, el2] at S
        have S : St [] 0 h' [(_, .lst ((X ++ (nBEGIN :: M)).map nd)), (_, .lst (((num (absI i)).map figN).map D.int))] := St.sub S (.cons _ (.cons _ (.cons _ (.cons _ (.cons _ (.cons _ (.cons₂ _ (.cons₂ _ .slnil))))))))
        with_reducible refine gs_mid (tail_ev (by simp only [List.length_append, List.length_cons, List.length_map, List.length_nil] at hXl ⊢; omega) S) fun ρ h ⟨f', m, y, z, S⟩ => ?_
        rw [← fgsN_pairs] at S
        have el3 : X ++ nBEGIN :: M ++ (fgsN (num (absI i)) ++ [nEND]) = X ++ nBEGIN :: (M ++ (fgsN (num (absI i)) ++ [nEND])) := by simp
        rw [el3] at S
        exact ⟨f', _, _, _, _, _, z, S⟩
      · exfalso
        rcases sw_in hpw with z | z | z | z <;> cases z
      · have e : (Pr.lf .pa).d = .tup [.str ['p', 'a', 'u', 's', 'e']] := rfl
        simp only [e]
        simp only [Pr.nts, Lf.nts, List.length_cons, List.length_nil] at hXl
        with_reducible refine gs_cons ?_
        walk_at "Z28n"
        repeat ((first | walk_at "Z285" | walk_at "Z284"); walk_at "Z28n")
        with_reducible refine gs_cons ?_
        walk_at "Z28n"
        repeat ((first | walk_at "Z285" | walk_at "Z284"); walk_at "Z28n")
        with_reducible refine gs_cons ?_
        walk_at "Z28n"
        repeat ((first | walk_at "Z285" | walk_at "Z284"); walk_at "Z28n")
        with_reducible refine gs_mid (tail_ev (ks := []) (by simp only [List.length_nil]; omega) S) fun ρ h ⟨f', m, y, z, S⟩ => ?_
        exact ⟨f', _, _, _, _, _, z, S⟩
      · exfalso
        rcases sw_in hpw with z | z | z | z <;> cases z
      · cases q with
        | false =>
          exfalso
          rcases sw_in hpw with z | z | z | z <;> cases z
        | true =>
          have e : (Pr.gp true i).d = .tup [.str ['l', 'o', 'u', 'd'], .tup i.ds] := rfl
          have h1 := Sy.inn_deep (Nat.le_of_lt_succ hs) hp
          have h2 := Sy.inn_size hp
          simp only [Pr.inn] at h1 h2
          have ev := ih i (by omega) (by omega) hpo.2 (fun x hx => hsub x (by rw [Pr.ws_inn]; exact List.mem_cons_of_mem _ hx))
          simp only [Pr.nts, List.length_cons, List.length_append, List.length_nil] at hXl
          simp only [e]
          with_reducible refine gs_cons ?_
          walk_at "Z28n"
          repeat ((first | walk_at "Z285" | walk_at "Z284"); walk_at "Z28n")
          with_reducible refine gs_cons ?_
          walk_at "Z28n"
          repeat ((first | walk_at "Z285" | walk_at "Z284"); walk_at "Z28n")
          with_reducible refine gs_cons ?_
          walk_at "Z28n"
          repeat ((first | walk_at "Z285" | walk_at "Z284"); walk_at "Z28n")
          walk_at "Z28n"
          repeat ((first | walk_at "Z285" | (with_reducible refine gd_ixT atI1 ?_) | (with_reducible refine gd_evS (by assumption) (ev _) fun n h' S => ?_; dsimp only [List.nil_append, List.cons_append] at S) | walk_at "Z284"); walk_at "Z28n")
          have el : X.map nd ++ [D.tup [.int 7, .int 2]] ++ i.nts.map nd ++ [D.tup [.int 6, .int 2]] = (X ++ nLOUD :: (i.nts ++ [nSOFT])).map nd := by simp [nd]
          rw [el] at S
          exact ⟨_, _, _, _, _, _, rfl, St.sub S (.cons _ (.cons _ (.cons _ (.cons _ (.cons _ (.cons _ (.cons _ (.cons₂ _ .slnil))))))))⟩
    · with_reducible obtain ⟨f, x, m, b, c, y, rfl, S⟩ := i
      walk_at "Z28n"
      repeat ((first | walk_at "Z283" | walk_at "Z284"); walk_at "Z28n")
      exact .lst _ _ rfl (St.g0 S) (ltAll_map fun _ _ => by simp) (by rw [Sy.of_pl])
end G
set_option hygiene false
local macro_rules | `(tactic| walk_at "A28n") => `(tactic| (try dsimp only [List.set_cons_zero, List.set_cons_succ, Px.wipeE_cons, Px.wipeE_nil, Px.kG, Px.wipeE_cons, List.nil_append, List.cons_append, List.length_nil, List.length_cons]))
local macro_rules | `(tactic| walk_at "A28l") => `(tactic| (first | omega | decide | (exact ⟨by decide, by omega⟩) | (simp only [List.length_append, List.length_cons, List.length_nil, List.length_map, List.length_take, List.length_drop, List.length_replicate]; omega)))
local macro_rules | `(tactic| walk_at "A28h") => `(tactic| (first | assumption | exact Px.St.g0 (by assumption) | exact Px.St.g1 (by assumption) | exact Px.St.g2 (by assumption) | exact Px.St.g3 (by assumption) | exact Px.St.g4 (by assumption) | exact Px.St.g5 (by assumption) | exact Px.St.g6 (by assumption) | exact Px.St.g7 (by assumption) | exact Px.St.g8 (by assumption) | exact Px.St.g9 (by assumption) | exact Px.St.g10 (by assumption) | exact Px.St.g11 (by assumption) | exact Px.St.g12 (by assumption) | exact Px.St.g13 (by assumption) | exact Px.St.g14 (by assumption)))
local macro_rules | `(tactic| walk_at "A283") => `(tactic| (first
    | (with_reducible refine Px.gd_v0 ?_)
    | (with_reducible refine Px.gd_v1 ?_)
    | (with_reducible refine Px.gd_v2 ?_)
    | (with_reducible refine Px.gd_v3 ?_)
    | (with_reducible refine Px.gd_v4 ?_)
    | (with_reducible refine Px.gd_v5 ?_)
    | (with_reducible refine Px.gd_v6 ?_)
    | (with_reducible refine Px.gd_v7 ?_)
    | (with_reducible refine Px.gd_v8 ?_)
    | (with_reducible refine Px.gd_v9 ?_)
    | (with_reducible refine Px.gd_v10 ?_)
    | (with_reducible refine Px.gd_v11 ?_)
    | (with_reducible refine Px.gd_v12 ?_)
    | (with_reducible refine Px.gd_v13 ?_)
    | (with_reducible refine Px.gd_c ?_)
    | (with_reducible refine Px.gd_bin ?_)
    | (with_reducible refine Px.gd_un ?_)
    | (with_reducible refine Px.gd_chain ?_)
    | (with_reducible refine Px.gd_bOf ?_)
    | (with_reducible refine Px.gd_tAnd ?_)
    | (with_reducible refine Px.gd_tOr ?_)
    | (with_reducible refine Px.gd_tNot ?_)
    | (with_reducible refine Px.gd_tTrue ?_)
    | (with_reducible refine Px.gd_eAnd ?_)
    | (with_reducible refine Px.gd_eOr ?_)
    | (with_reducible refine Px.gd_eNot ?_)
    | (with_reducible refine Px.gd_eIf ?_)
    | (with_reducible refine Px.gd_aNil ?_)
    | (with_reducible refine Px.gd_aCons ?_)
    | (with_reducible refine Px.gd_eTup ?_)
    | (with_reducible refine Px.gd_eLst ?_)
    | (with_reducible refine Px.gd_eCall ?_)
    | (with_reducible refine Px.gd_eCallD ?_)
    | (with_reducible refine Px.gd_eCallK ?_)
    | (with_reducible refine Px.gd_oNone ?_)
    | (with_reducible refine Px.gd_oSome ?_)
    | (with_reducible refine Px.gd_eCut ?_)
    | (with_reducible refine Px.gd_eCutK ?_)
    | (with_reducible refine Px.gd_eM0 ?_)
    | (with_reducible refine Px.gd_eM1 ?_)
    | (with_reducible refine Px.gd_jNil ?_)
    | (with_reducible refine Px.gd_jCons ?_)
    | (with_reducible refine Px.gd_eJoined ?_)
    | (with_reducible refine Px.gd_fmtS ?_)
    | (with_reducible refine Px.gd_iVal ?_)
    | (with_reducible refine Px.gd_iRange1 ?_)
    | (with_reducible refine Px.gd_iRange2 ?_)
    | (with_reducible refine Px.gd_iEnum ?_)
    | (with_reducible refine Px.gd_eDnew ?_)
    | (with_reducible refine Px.gd_eComp ?_)
    | (with_reducible refine Px.gd_eComp2 ?_)
    | (with_reducible refine Px.ob_bl ?_)
    | (with_reducible refine Px.oi_int ?_)
    | (with_reducible refine Px.os_str ?_)
    | (with_reducible refine Px.gd_addI ?_)
    | (with_reducible refine Px.gd_subI ?_)
    | (with_reducible refine Px.gd_negI ?_)
    | (with_reducible refine Px.gd_ltI ?_)
    | (with_reducible refine Px.gd_leI ?_)
    | (with_reducible refine Px.gd_gtI ?_)
    | (with_reducible refine Px.gd_geI ?_)
    | (with_reducible refine Px.gd_eqI ?_)
    | (with_reducible refine Px.gd_neI ?_)
    | (with_reducible refine Px.gd_eqS ?_)
    | (with_reducible refine Px.gd_neS ?_)
    | (with_reducible refine Px.gd_isN ?_)
    | (with_reducible refine Px.gd_isNotB ?_)
    | (with_reducible refine Px.gd_isB ?_)
    | (with_reducible refine Px.gd_inC ?_)
    | (with_reducible refine Px.gd_ninC ?_)
    | (with_reducible refine Px.gd_cutT ?_)
    | (with_reducible refine Px.gd_lenT ?_)
    | (with_reducible refine Px.gd_lenF ?_)
    | (with_reducible refine Px.gd_max ?_)
    | (with_reducible refine Px.gd_min ?_)
    | (with_reducible refine Px.gd_abs ?_)
    | (with_reducible refine Px.gd_intI ?_)
    | (with_reducible refine Px.gd_intB ?_)
    | (with_reducible refine Px.gd_find ?_)
    | (with_reducible refine Px.gd_tupT ?_)
    | (with_reducible refine Px.gd_ivS ?_)
    | (with_reducible refine Px.gd_ivT ?_)
    | (with_reducible refine Px.gd_ivF ?_)
    | (with_reducible refine Px.gd_new0 ?_)
    | (with_reducible refine Px.gs_cons ?_)
    | (with_reducible refine Px.gs_nil ?_)
    | (with_reducible refine Px.gs_set ?_)
    | (with_reducible refine Px.gs_expr ?_)
    | (with_reducible refine Px.gs_ret ?_)
    | (with_reducible refine Px.gs_retN ?_)
    | (with_reducible refine Px.gs_if ?_)
    | (with_reducible refine Px.gs_brk ?_)
    | (with_reducible refine Px.gs_cnt ?_)
    | (with_reducible refine Px.gs_asg ?_)
    | (with_reducible refine Px.gs_fgName ?_)
    | (with_reducible refine Px.gs_fgsNil ?_)
    | (with_reducible refine Px.gs_fgsCons ?_)
    | (with_reducible refine Px.gs_fgSub ?_)
    | (with_reducible refine Px.gs_for ?_)
    | (with_reducible refine Px.gd_ok ?_)
    | (with_reducible refine Px.gd_addS ?_ ?_; (· walk_at "A28l"))
    | (with_reducible refine Px.gd_addT ?_ ?_; (· walk_at "A28l"))
    | (with_reducible refine Px.gd_mulI ?_ ?_; (· walk_at "A28l"))
    | (with_reducible refine Px.gd_fdivI ?_ ?_; (· walk_at "A28l"))
    | (with_reducible refine Px.gd_modI ?_ ?_; (· walk_at "A28l"))
    | (with_reducible refine Px.gd_cutS ?_ ?_; (· walk_at "A28l"))
    | (with_reducible refine Px.gd_lenS ?_ ?_; (· walk_at "A28l"))
    | (with_reducible refine Px.gd_strI ?_ ?_; (· walk_at "A28l"))
    | (with_reducible refine Px.gd_divmod ?_ ?_; (· walk_at "A28l"))
    | (with_reducible refine Px.gd_mkTup ?_ ?_; (· walk_at "A28l"))
    | (with_reducible refine Px.gd_mkLst ?_ ?_; (· walk_at "A28l"))
    | (with_reducible refine Px.gd_rg1 ?_ ?_; (· walk_at "A28l"))
    | (with_reducible refine Px.gd_rg2 ?_ ?_; (· walk_at "A28l"))
    | (with_reducible refine Px.gd_split ?_ ?_; (· walk_at "A28l"))
    | (with_reducible refine Px.gd_tupS ?_ ?_; (· walk_at "A28l"))
    | (with_reducible refine Px.gs_fgTup ?_ ?_; (· walk_at "A28l"))
    | (with_reducible refine Px.gd_cutKS ?_ ?_; (· walk_at "A28l"))
    | (with_reducible refine Px.gs_fgTup (by with_unfolding_all rfl) ?_)
    | (with_reducible refine Px.gd_isi (by with_unfolding_all rfl) ?_)
    | (with_reducible refine Px.gd_inT (by with_unfolding_all rfl) ?_)
    | (with_reducible refine Px.gd_inTI (by with_unfolding_all rfl) ?_)
    | (with_reducible refine Px.gd_ninT (by with_unfolding_all rfl) ?_)
    | (with_reducible refine Px.gd_ninTI (by with_unfolding_all rfl) ?_)))
local macro_rules | `(tactic| walk_at "A284") => `(tactic| (first
    | (with_reducible refine Px.gd_ixS Px.atI0 ?_ ?_; (· walk_at "A28l"))
    | (with_reducible refine Px.gd_ixLg ?_; refine ⟨_, _, rfl, Px.atI0, ?_⟩)
    | (with_reducible refine Px.gd_ixT Px.atI0 ?_)
    | (with_reducible refine Px.gd_ivOg ?_; refine ⟨_, rfl, ?_⟩)
    | (with_reducible refine Px.gd_ivAg ?_; refine ⟨_, _, rfl, rfl, ?_, ?_, ?_⟩; (· simp; done); (· simp; done))
    | (with_reducible refine Px.gd_eqNilEg ?_; refine ⟨rfl, rfl, ?_⟩)
    | (with_reducible refine Px.gd_eqNilCg ?_; refine ⟨_, rfl, rfl, ?_⟩)
    | (with_reducible refine Px.gd_eqNilSg ?_; refine ⟨_, rfl, rfl, ?_⟩)
    | (with_reducible refine Px.gd_ixLg ?_; refine ⟨_, _, rfl, rfl, ?_⟩)
    | (with_reducible refine Px.gd_ixTg ?_; refine ⟨_, rfl, ?_⟩)
    | (with_reducible refine Px.gd_lenLg ?_; refine ⟨_, rfl, ?_⟩)
    | (with_reducible refine Px.gd_addLg ?_; refine ⟨_, _, rfl, rfl, ?_, ?_⟩; (· walk_at "A28l"))
    | (with_reducible refine Px.gd_ixSA ?_ ?_ ?_ fun c hc => ?_; (· omega); (· walk_at "A28l"); (· walk_at "A28l"))
    | (rw [if_pos rfl])
    | (rw [if_neg Bool.false_ne_true])
    | (rw [if_pos (by simp only [decide_eq_true_eq, Bool.not_eq_true', decide_eq_false_iff_not]; omega)])
    | (rw [if_neg (by simp only [decide_eq_true_eq, Bool.not_eq_true', decide_eq_false_iff_not]; omega)])
    | (rw [if_pos (by decide)])
    | (rw [if_neg (by decide)])))
local macro_rules | `(tactic| walk_at "A285") => `(tactic| (first
    | (with_reducible refine Px.gd_v0 ?_)
    | (with_reducible refine Px.gd_v1 ?_)
    | (with_reducible refine Px.gd_v2 ?_)
    | (with_reducible refine Px.gd_v3 ?_)
    | (with_reducible refine Px.gd_v4 ?_)
    | (with_reducible refine Px.gd_v5 ?_)
    | (with_reducible refine Px.gd_v6 ?_)
    | (with_reducible refine Px.gd_v7 ?_)
    | (with_reducible refine Px.gd_v8 ?_)
    | (with_reducible refine Px.gd_v9 ?_)
    | (with_reducible refine Px.gd_v10 ?_)
    | (with_reducible refine Px.gd_v11 ?_)
    | (with_reducible refine Px.gd_v12 ?_)
    | (with_reducible refine Px.gd_v13 ?_)
    | (with_reducible refine Px.gd_c ?_)
    | (with_reducible refine Px.gd_bin ?_)
    | (with_reducible refine Px.gd_un ?_)
    | (with_reducible refine Px.gd_chain ?_)
    | (with_reducible refine Px.gd_bOf ?_)
    | (with_reducible refine Px.gd_tAnd ?_)
    | (with_reducible refine Px.gd_tOr ?_)
    | (with_reducible refine Px.gd_tNot ?_)
    | (with_reducible refine Px.gd_tTrue ?_)
    | (with_reducible refine Px.gd_eAnd ?_)
    | (with_reducible refine Px.gd_eOr ?_)
    | (with_reducible refine Px.gd_eNot ?_)
    | (with_reducible refine Px.gd_eIf ?_)
    | (with_reducible refine Px.gd_aNil ?_)
    | (with_reducible refine Px.gd_aCons ?_)
    | (with_reducible refine Px.gd_eTup ?_)
    | (with_reducible refine Px.gd_eLst ?_)
    | (with_reducible refine Px.gd_eCall ?_)
    | (with_reducible refine Px.gd_eCallD ?_)
    | (with_reducible refine Px.gd_eCallK ?_)
    | (with_reducible refine Px.gd_oNone ?_)
    | (with_reducible refine Px.gd_oSome ?_)
    | (with_reducible refine Px.gd_eCut ?_)
    | (with_reducible refine Px.gd_eCutK ?_)
    | (with_reducible refine Px.gd_eM0 ?_)
    | (with_reducible refine Px.gd_eM1 ?_)
    | (with_reducible refine Px.gd_jNil ?_)
    | (with_reducible refine Px.gd_jCons ?_)
    | (with_reducible refine Px.gd_eJoined ?_)
    | (with_reducible refine Px.gd_fmtS ?_)
    | (with_reducible refine Px.gd_iVal ?_)
    | (with_reducible refine Px.gd_iRange1 ?_)
    | (with_reducible refine Px.gd_iRange2 ?_)
    | (with_reducible refine Px.gd_iEnum ?_)
    | (with_reducible refine Px.gd_eDnew ?_)
    | (with_reducible refine Px.gd_eComp ?_)
    | (with_reducible refine Px.gd_eComp2 ?_)
    | (with_reducible refine Px.ob_bl ?_)
    | (with_reducible refine Px.oi_int ?_)
    | (with_reducible refine Px.os_str ?_)
    | (with_reducible refine Px.gd_addI ?_)
    | (with_reducible refine Px.gd_subI ?_)
    | (with_reducible refine Px.gd_negI ?_)
    | (with_reducible refine Px.gd_ltI ?_)
    | (with_reducible refine Px.gd_leI ?_)
    | (with_reducible refine Px.gd_gtI ?_)
    | (with_reducible refine Px.gd_geI ?_)
    | (with_reducible refine Px.gd_eqI ?_)
    | (with_reducible refine Px.gd_neI ?_)
    | (with_reducible refine Px.gd_eqS ?_)
    | (with_reducible refine Px.gd_isN ?_)
    | (with_reducible refine Px.gd_isNotB ?_)
    | (with_reducible refine Px.gd_isB ?_)
    | (with_reducible refine Px.gd_inC ?_)
    | (with_reducible refine Px.gd_ninC ?_)
    | (with_reducible refine Px.gd_cutT ?_)
    | (with_reducible refine Px.gd_lenT ?_)
    | (with_reducible refine Px.gd_lenF ?_)
    | (with_reducible refine Px.gd_max ?_)
    | (with_reducible refine Px.gd_min ?_)
    | (with_reducible refine Px.gd_abs ?_)
    | (with_reducible refine Px.gd_intI ?_)
    | (with_reducible refine Px.gd_intB ?_)
    | (with_reducible refine Px.gd_find ?_)
    | (with_reducible refine Px.gd_tupT ?_)
    | (with_reducible refine Px.gd_ivS ?_)
    | (with_reducible refine Px.gd_ivT ?_)
    | (with_reducible refine Px.gd_ivF ?_)
    | (with_reducible refine Px.gs_cons ?_)
    | (with_reducible refine Px.gs_nil ?_)
    | (with_reducible refine Px.gs_set ?_)
    | (with_reducible refine Px.gs_expr ?_)
    | (with_reducible refine Px.gs_ret ?_)
    | (with_reducible refine Px.gs_retN ?_)
    | (with_reducible refine Px.gs_if ?_)
    | (with_reducible refine Px.gs_brk ?_)
    | (with_reducible refine Px.gs_cnt ?_)
    | (with_reducible refine Px.gs_asg ?_)
    | (with_reducible refine Px.gs_fgName ?_)
    | (with_reducible refine Px.gs_fgsNil ?_)
    | (with_reducible refine Px.gs_fgsCons ?_)
    | (with_reducible refine Px.gs_fgSub ?_)
    | (with_reducible refine Px.gs_for ?_)
    | (with_reducible refine Px.gd_ok ?_)
    | (with_reducible refine Px.gd_addS ?_ ?_; (· walk_at "A28l"))
    | (with_reducible refine Px.gd_addT ?_ ?_; (· walk_at "A28l"))
    | (with_reducible refine Px.gd_mulI ?_ ?_; (· walk_at "A28l"))
    | (with_reducible refine Px.gd_fdivI ?_ ?_; (· walk_at "A28l"))
    | (with_reducible refine Px.gd_modI ?_ ?_; (· walk_at "A28l"))
    | (with_reducible refine Px.gd_powI ?_ ?_; (· walk_at "A28l"))
    | (with_reducible refine Px.gd_cutS ?_ ?_; (· walk_at "A28l"))
    | (with_reducible refine Px.gd_lenS ?_ ?_; (· walk_at "A28l"))
    | (with_reducible refine Px.gd_strI ?_ ?_; (· walk_at "A28l"))
    | (with_reducible refine Px.gd_divmod ?_ ?_; (· walk_at "A28l"))
    | (with_reducible refine Px.gd_mkTup ?_ ?_; (· walk_at "A28l"))
    | (with_reducible refine Px.gd_mkLst ?_ ?_; (· walk_at "A28l"))
    | (with_reducible refine Px.gd_rg1 ?_ ?_; (· walk_at "A28l"))
    | (with_reducible refine Px.gd_rg2 ?_ ?_; (· walk_at "A28l"))
    | (with_reducible refine Px.gd_split ?_ ?_; (· walk_at "A28l"))
    | (with_reducible refine Px.gd_tupS ?_ ?_; (· walk_at "A28l"))
    | (with_reducible refine Px.gs_fgTup ?_ ?_; (· walk_at "A28l"))
    | (with_reducible refine Px.gd_cutKS ?_ ?_; (· walk_at "A28l"))
    | (with_reducible refine Px.gs_fgTup (by with_unfolding_all rfl) ?_)
    | (with_reducible refine Px.gd_isi (by with_unfolding_all rfl) ?_)
    | (with_reducible refine Px.gd_inT (by with_unfolding_all rfl) ?_)
    | (with_reducible refine Px.gd_inTI (by with_unfolding_all rfl) ?_)
    | (with_reducible refine Px.gd_ninT (by with_unfolding_all rfl) ?_)
    | (with_reducible refine Px.gd_ninTI (by with_unfolding_all rfl) ?_)))
local macro_rules | `(tactic| walk_at "A286") => `(tactic| (first
    | (with_reducible refine Px.gd_ixS Px.atI0 ?_ ?_; (· walk_at "A28l"))
    | (with_reducible refine Px.gd_ixL (by walk_at "A28h") Px.atI0 ?_)
    | (with_reducible refine Px.gd_ixT Px.atI0 ?_)
    | (with_reducible refine Px.gd_newS (by assumption) fun n h' hn S => ?_; dsimp only [List.nil_append, List.cons_append] at S)
    | (with_reducible refine G.gd_pick (by assumption) (by assumption) ?_ ?_ ?_ fun v h' bg' v0 v1 hb S => ?_; (· omega); (· walk_at "A28l"); (· walk_at "A28l"))
    | (with_reducible refine Px.gd_ixL (by walk_at "A28h") ?_ ?_; (· rfl))
    | (with_reducible refine Px.gd_ixSA ?_ ?_ ?_ fun c hc => ?_; (· omega); (· walk_at "A28l"); (· walk_at "A28l"))
    | (with_reducible refine Px.gd_ixLA (by walk_at "A28h") ?_ ?_ fun x hx => ?_; (· omega); (· walk_at "A28l"))
    | (with_reducible refine Px.gd_addL (by walk_at "A28h") (by walk_at "A28h") ?_ ?_; (· walk_at "A28l"))
    | (with_reducible refine Px.gd_mulL (by walk_at "A28h") ?_ ?_ ?_ ?_; (· walk_at "A28l"); (· omega); (· omega))
    | (with_reducible refine Px.gd_neNilE (by walk_at "A28h") (by walk_at "A28h") ?_)
    | (with_reducible refine Px.gd_eqNilE (by walk_at "A28h") (by walk_at "A28h") ?_)
    | (with_reducible refine Px.gd_lenL (by walk_at "A28h") ?_)
    | (with_reducible refine Px.gd_ivO (by walk_at "A28h") ?_)
    | (with_reducible refine Px.gd_eqNilC (by walk_at "A28h") (by walk_at "A28h") ?_)
    | (with_reducible refine Px.gd_eqNilS (by walk_at "A28h") (by walk_at "A28h") ?_)
    | (with_reducible refine Px.gd_appS0 (by assumption) ?_ fun h' S => ?_; (· walk_at "A28l"))
    | (with_reducible refine Px.gd_appS1 (by assumption) ?_ fun h' S => ?_; (· walk_at "A28l"))
    | (with_reducible refine Px.gd_appS2 (by assumption) ?_ fun h' S => ?_; (· walk_at "A28l"))
    | (with_reducible refine Px.gd_appS3 (by assumption) ?_ fun h' S => ?_; (· walk_at "A28l"))
    | (rw [if_pos rfl])
    | (rw [if_neg Bool.false_ne_true])
    | (rw [if_pos (by simp only [decide_eq_true_eq, Bool.not_eq_true', decide_eq_false_iff_not]; omega)])
    | (rw [if_neg (by simp only [decide_eq_true_eq, Bool.not_eq_true', decide_eq_false_iff_not]; omega)])
    | (rw [if_pos (by decide)])
    | (rw [if_neg (by decide)])))
local macro_rules | `(tactic| walk_at "A287") => `(tactic| (first
    | (with_reducible refine Px.gd_v0 ?_)
    | (with_reducible refine Px.gd_v1 ?_)
    | (with_reducible refine Px.gd_v2 ?_)
    | (with_reducible refine Px.gd_v3 ?_)
    | (with_reducible refine Px.gd_v4 ?_)
    | (with_reducible refine Px.gd_v5 ?_)
    | (with_reducible refine Px.gd_v6 ?_)
    | (with_reducible refine Px.gd_v7 ?_)
    | (with_reducible refine Px.gd_v8 ?_)
    | (with_reducible refine Px.gd_v9 ?_)
    | (with_reducible refine Px.gd_v10 ?_)
    | (with_reducible refine Px.gd_v11 ?_)
    | (with_reducible refine Px.gd_v12 ?_)
    | (with_reducible refine Px.gd_v13 ?_)
    | (with_reducible refine Px.gd_c ?_)
    | (with_reducible refine Px.gd_bin ?_)
    | (with_reducible refine Px.gd_un ?_)
    | (with_reducible refine Px.gd_chain ?_)
    | (with_reducible refine Px.gd_bOf ?_)
    | (with_reducible refine Px.gd_tAnd ?_)
    | (with_reducible refine Px.gd_tOr ?_)
    | (with_reducible refine Px.gd_tNot ?_)
    | (with_reducible refine Px.gd_tTrue ?_)
    | (with_reducible refine Px.gd_eAnd ?_)
    | (with_reducible refine Px.gd_eOr ?_)
    | (with_reducible refine Px.gd_eNot ?_)
    | (with_reducible refine Px.gd_eIf ?_)
    | (with_reducible refine Px.gd_aNil ?_)
    | (with_reducible refine Px.gd_aCons ?_)
    | (with_reducible refine Px.gd_eTup ?_)
    | (with_reducible refine Px.gd_eLst ?_)
    | (with_reducible refine Px.gd_eCall ?_)
    | (with_reducible refine Px.gd_eCallD ?_)
    | (with_reducible refine Px.gd_eCallK ?_)
    | (with_reducible refine Px.gd_oNone ?_)
    | (with_reducible refine Px.gd_oSome ?_)
    | (with_reducible refine Px.gd_eCut ?_)
    | (with_reducible refine Px.gd_eCutK ?_)
    | (with_reducible refine Px.gd_eM0 ?_)
    | (with_reducible refine Px.gd_eM1 ?_)
    | (with_reducible refine Px.gd_jNil ?_)
    | (with_reducible refine Px.gd_jCons ?_)
    | (with_reducible refine Px.gd_eJoined ?_)
    | (with_reducible refine Px.gd_fmtS ?_)
    | (with_reducible refine Px.gd_iVal ?_)
    | (with_reducible refine Px.gd_iRange1 ?_)
    | (with_reducible refine Px.gd_iRange2 ?_)
    | (with_reducible refine Px.gd_iEnum ?_)
    | (with_reducible refine Px.gd_eDnew ?_)
    | (with_reducible refine Px.gd_eComp ?_)
    | (with_reducible refine Px.gd_eComp2 ?_)
    | (with_reducible refine Px.ob_bl ?_)
    | (with_reducible refine Px.oi_int ?_)
    | (with_reducible refine Px.os_str ?_)
    | (with_reducible refine Px.gd_addI ?_)
    | (with_reducible refine Px.gd_subI ?_)
    | (with_reducible refine Px.gd_negI ?_)
    | (with_reducible refine Px.gd_ltI ?_)
    | (with_reducible refine Px.gd_leI ?_)
    | (with_reducible refine Px.gd_gtI ?_)
    | (with_reducible refine Px.gd_geI ?_)
    | (with_reducible refine Px.gd_eqI ?_)
    | (with_reducible refine Px.gd_neI ?_)
    | (with_reducible refine Px.gd_eqS ?_)
    | (with_reducible refine Px.gd_neS ?_)
    | (with_reducible refine Px.gd_isN ?_)
    | (with_reducible refine Px.gd_isNotB ?_)
    | (with_reducible refine Px.gd_isB ?_)
    | (with_reducible refine Px.gd_inC ?_)
    | (with_reducible refine Px.gd_ninC ?_)
    | (with_reducible refine Px.gd_cutT ?_)
    | (with_reducible refine Px.gd_lenT ?_)
    | (with_reducible refine Px.gd_lenF ?_)
    | (with_reducible refine Px.gd_max ?_)
    | (with_reducible refine Px.gd_min ?_)
    | (with_reducible refine Px.gd_abs ?_)
    | (with_reducible refine Px.gd_intI ?_)
    | (with_reducible refine Px.gd_intB ?_)
    | (with_reducible refine Px.gd_find ?_)
    | (with_reducible refine Px.gd_tupT ?_)
    | (with_reducible refine Px.gd_ivS ?_)
    | (with_reducible refine Px.gd_ivT ?_)
    | (with_reducible refine Px.gd_ivF ?_)
    | (with_reducible refine Px.gs_nil ?_)
    | (with_reducible refine Px.gs_set ?_)
    | (with_reducible refine Px.gs_expr ?_)
    | (with_reducible refine Px.gs_ret ?_)
    | (with_reducible refine Px.gs_retN ?_)
    | (with_reducible refine Px.gs_if ?_)
    | (with_reducible refine Px.gs_brk ?_)
    | (with_reducible refine Px.gs_cnt ?_)
    | (with_reducible refine Px.gs_asg ?_)
    | (with_reducible refine Px.gs_fgName ?_)
    | (with_reducible refine Px.gs_fgsNil ?_)
    | (with_reducible refine Px.gs_fgsCons ?_)
    | (with_reducible refine Px.gs_fgSub ?_)
    | (with_reducible refine Px.gs_for ?_)
    | (with_reducible refine Px.gd_ok ?_)
    | (with_reducible refine Px.gd_addS ?_ ?_; (· walk_at "A28l"))
    | (with_reducible refine Px.gd_addT ?_ ?_; (· walk_at "A28l"))
    | (with_reducible refine Px.gd_mulI ?_ ?_; (· walk_at "A28l"))
    | (with_reducible refine Px.gd_fdivI ?_ ?_; (· walk_at "A28l"))
    | (with_reducible refine Px.gd_modI ?_ ?_; (· walk_at "A28l"))
    | (with_reducible refine Px.gd_powI ?_ ?_; (· walk_at "A28l"))
    | (with_reducible refine Px.gd_cutS ?_ ?_; (· walk_at "A28l"))
    | (with_reducible refine Px.gd_lenS ?_ ?_; (· walk_at "A28l"))
    | (with_reducible refine Px.gd_strI ?_ ?_; (· walk_at "A28l"))
    | (with_reducible refine Px.gd_divmod ?_ ?_; (· walk_at "A28l"))
    | (with_reducible refine Px.gd_mkTup ?_ ?_; (· walk_at "A28l"))
    | (with_reducible refine Px.gd_mkLst ?_ ?_; (· walk_at "A28l"))
    | (with_reducible refine Px.gd_rg1 ?_ ?_; (· walk_at "A28l"))
    | (with_reducible refine Px.gd_rg2 ?_ ?_; (· walk_at "A28l"))
    | (with_reducible refine Px.gd_split ?_ ?_; (· walk_at "A28l"))
    | (with_reducible refine Px.gd_tupS ?_ ?_; (· walk_at "A28l"))
    | (with_reducible refine Px.gs_fgTup ?_ ?_; (· walk_at "A28l"))
    | (with_reducible refine Px.gd_cutKS ?_ ?_; (· walk_at "A28l"))
    | (with_reducible refine Px.gs_fgTup (by with_unfolding_all rfl) ?_)
    | (with_reducible refine Px.gd_isi (by with_unfolding_all rfl) ?_)
    | (with_reducible refine Px.gd_inT (by with_unfolding_all rfl) ?_)
    | (with_reducible refine Px.gd_inTI (by with_unfolding_all rfl) ?_)
    | (with_reducible refine Px.gd_ninT (by with_unfolding_all rfl) ?_)
    | (with_reducible refine Px.gd_ninTI (by with_unfolding_all rfl) ?_)))
local macro_rules | `(tactic| walk_at "A288") => `(tactic| (first
    | (with_reducible refine Px.gd_ixS Px.atI0 ?_ ?_; (· walk_at "A28l"))
    | (with_reducible refine Px.gd_ixL (by walk_at "A28h") Px.atI0 ?_)
    | (with_reducible refine Px.gd_ixT Px.atI0 ?_)
    | (with_reducible refine G.gd_pick (by assumption) (by assumption) ?_ ?_ ?_ fun v h' bg' v0 v1 hb S => ?_; (· omega); (· walk_at "A28l"); (· walk_at "A28l"))
    | (with_reducible refine Px.gd_ixL (by walk_at "A28h") ?_ ?_; (· rfl))
    | (with_reducible refine Px.gd_ixSA ?_ ?_ ?_ fun c hc => ?_; (· omega); (· walk_at "A28l"); (· walk_at "A28l"))
    | (with_reducible refine Px.gd_addL (by walk_at "A28h") (by walk_at "A28h") ?_ ?_; (· walk_at "A28l"))
    | (with_reducible refine Px.gd_mulL (by walk_at "A28h") ?_ ?_ ?_ ?_; (· walk_at "A28l"); (· omega); (· omega))
    | (with_reducible refine Px.gd_neNilE (by walk_at "A28h") (by walk_at "A28h") ?_)
    | (with_reducible refine Px.gd_eqNilE (by walk_at "A28h") (by walk_at "A28h") ?_)
    | (with_reducible refine Px.gd_lenL (by walk_at "A28h") ?_)
    | (with_reducible refine Px.gd_ivO (by walk_at "A28h") ?_)
    | (with_reducible refine Px.gd_eqNilC (by walk_at "A28h") (by walk_at "A28h") ?_)
    | (with_reducible refine Px.gd_eqNilS (by walk_at "A28h") (by walk_at "A28h") ?_)
    | (with_reducible refine Px.gd_appS0 (by assumption) ?_ fun h' S => ?_; (· walk_at "A28l"))
    | (with_reducible refine Px.gd_appS1 (by assumption) ?_ fun h' S => ?_; (· walk_at "A28l"))
    | (with_reducible refine Px.gd_appS2 (by assumption) ?_ fun h' S => ?_; (· walk_at "A28l"))
    | (with_reducible refine Px.gd_appS3 (by assumption) ?_ fun h' S => ?_; (· walk_at "A28l"))
    | (rw [if_pos rfl])
    | (rw [if_neg Bool.false_ne_true])
    | (rw [if_pos (by simp only [decide_eq_true_eq, Bool.not_eq_true', decide_eq_false_iff_not]; omega)])
    | (rw [if_neg (by simp only [decide_eq_true_eq, Bool.not_eq_true', decide_eq_false_iff_not]; omega)])
    | (rw [if_pos (by decide)])
    | (rw [if_neg (by decide)])))
local macro_rules | `(tactic| walk_at "A289") => `(tactic| (first
    | (with_reducible refine Px.gd_v0 ?_)
    | (with_reducible refine Px.gd_v1 ?_)
    | (with_reducible refine Px.gd_v2 ?_)
    | (with_reducible refine Px.gd_v3 ?_)
    | (with_reducible refine Px.gd_v4 ?_)
    | (with_reducible refine Px.gd_v5 ?_)
    | (with_reducible refine Px.gd_v6 ?_)
    | (with_reducible refine Px.gd_v7 ?_)
    | (with_reducible refine Px.gd_v8 ?_)
    | (with_reducible refine Px.gd_v9 ?_)
    | (with_reducible refine Px.gd_v10 ?_)
    | (with_reducible refine Px.gd_v11 ?_)
    | (with_reducible refine Px.gd_v12 ?_)
    | (with_reducible refine Px.gd_v13 ?_)
    | (with_reducible refine Px.gd_c ?_)
    | (with_reducible refine Px.gd_bin ?_)
    | (with_reducible refine Px.gd_un ?_)
    | (with_reducible refine Px.gd_chain ?_)
    | (with_reducible refine Px.gd_bOf ?_)
    | (with_reducible refine Px.gd_tAnd ?_)
    | (with_reducible refine Px.gd_tOr ?_)
    | (with_reducible refine Px.gd_tNot ?_)
    | (with_reducible refine Px.gd_tTrue ?_)
    | (with_reducible refine Px.gd_eAnd ?_)
    | (with_reducible refine Px.gd_eOr ?_)
    | (with_reducible refine Px.gd_eNot ?_)
    | (with_reducible refine Px.gd_eIf ?_)
    | (with_reducible refine Px.gd_aNil ?_)
    | (with_reducible refine Px.gd_aCons ?_)
    | (with_reducible refine Px.gd_eTup ?_)
    | (with_reducible refine Px.gd_eLst ?_)
    | (with_reducible refine Px.gd_eCall ?_)
    | (with_reducible refine Px.gd_eCallD ?_)
    | (with_reducible refine Px.gd_eCallK ?_)
    | (with_reducible refine Px.gd_oNone ?_)
    | (with_reducible refine Px.gd_oSome ?_)
    | (with_reducible refine Px.gd_eCut ?_)
    | (with_reducible refine Px.gd_eCutK ?_)
    | (with_reducible refine Px.gd_eM0 ?_)
    | (with_reducible refine Px.gd_eM1 ?_)
    | (with_reducible refine Px.gd_jNil ?_)
    | (with_reducible refine Px.gd_jCons ?_)
    | (with_reducible refine Px.gd_eJoined ?_)
    | (with_reducible refine Px.gd_fmtS ?_)
    | (with_reducible refine Px.gd_iVal ?_)
    | (with_reducible refine Px.gd_iRange1 ?_)
    | (with_reducible refine Px.gd_iRange2 ?_)
    | (with_reducible refine Px.gd_iEnum ?_)
    | (with_reducible refine Px.gd_eDnew ?_)
    | (with_reducible refine Px.gd_eComp ?_)
    | (with_reducible refine Px.gd_eComp2 ?_)
    | (with_reducible refine Px.ob_bl ?_)
    | (with_reducible refine Px.oi_int ?_)
    | (with_reducible refine Px.os_str ?_)
    | (with_reducible refine Px.gd_addI ?_)
    | (with_reducible refine Px.gd_subI ?_)
    | (with_reducible refine Px.gd_negI ?_)
    | (with_reducible refine Px.gd_ltI ?_)
    | (with_reducible refine Px.gd_leI ?_)
    | (with_reducible refine Px.gd_gtI ?_)
    | (with_reducible refine Px.gd_geI ?_)
    | (with_reducible refine Px.gd_eqI ?_)
    | (with_reducible refine Px.gd_neI ?_)
    | (with_reducible refine Px.gd_eqS ?_)
    | (with_reducible refine Px.gd_neS ?_)
    | (with_reducible refine Px.gd_isN ?_)
    | (with_reducible refine Px.gd_isNotB ?_)
    | (with_reducible refine Px.gd_isB ?_)
    | (with_reducible refine Px.gd_inC ?_)
    | (with_reducible refine Px.gd_ninC ?_)
    | (with_reducible refine Px.gd_cutT ?_)
    | (with_reducible refine Px.gd_lenT ?_)
    | (with_reducible refine Px.gd_lenF ?_)
    | (with_reducible refine Px.gd_max ?_)
    | (with_reducible refine Px.gd_min ?_)
    | (with_reducible refine Px.gd_abs ?_)
    | (with_reducible refine Px.gd_intI ?_)
    | (with_reducible refine Px.gd_intB ?_)
    | (with_reducible refine Px.gd_find ?_)
    | (with_reducible refine Px.gd_tupT ?_)
    | (with_reducible refine Px.gd_ivS ?_)
    | (with_reducible refine Px.gd_ivT ?_)
    | (with_reducible refine Px.gd_ivF ?_)
    | (with_reducible refine Px.gs_cons ?_)
    | (with_reducible refine Px.gs_nil ?_)
    | (with_reducible refine Px.gs_set ?_)
    | (with_reducible refine Px.gs_expr ?_)
    | (with_reducible refine Px.gs_ret ?_)
    | (with_reducible refine Px.gs_retN ?_)
    | (with_reducible refine Px.gs_if ?_)
    | (with_reducible refine Px.gs_brk ?_)
    | (with_reducible refine Px.gs_cnt ?_)
    | (with_reducible refine Px.gs_asg ?_)
    | (with_reducible refine Px.gs_fgName ?_)
    | (with_reducible refine Px.gs_fgsNil ?_)
    | (with_reducible refine Px.gs_fgsCons ?_)
    | (with_reducible refine Px.gs_fgSub ?_)
    | (with_reducible refine Px.gs_for ?_)
    | (with_reducible refine Px.gd_ok ?_)
    | (with_reducible refine Px.gd_addS ?_ ?_; (· walk_at "A28l"))
    | (with_reducible refine Px.gd_addT ?_ ?_; (· walk_at "A28l"))
    | (with_reducible refine Px.gd_mulI ?_ ?_; (· walk_at "A28l"))
    | (with_reducible refine Px.gd_fdivI ?_ ?_; (· walk_at "A28l"))
    | (with_reducible refine Px.gd_modI ?_ ?_; (· walk_at "A28l"))
    | (with_reducible refine Px.gd_powI ?_ ?_; (· walk_at "A28l"))
    | (with_reducible refine Px.gd_cutS ?_ ?_; (· walk_at "A28l"))
    | (with_reducible refine Px.gd_lenS ?_ ?_; (· walk_at "A28l"))
    | (with_reducible refine Px.gd_strI ?_ ?_; (· walk_at "A28l"))
    | (with_reducible refine Px.gd_divmod ?_ ?_; (· walk_at "A28l"))
    | (with_reducible refine Px.gd_mkTup ?_ ?_; (· walk_at "A28l"))
    | (with_reducible refine Px.gd_mkLst ?_ ?_; (· walk_at "A28l"))
    | (with_reducible refine Px.gd_rg1 ?_ ?_; (· walk_at "A28l"))
    | (with_reducible refine Px.gd_rg2 ?_ ?_; (· walk_at "A28l"))
    | (with_reducible refine Px.gd_split ?_ ?_; (· walk_at "A28l"))
    | (with_reducible refine Px.gd_tupS ?_ ?_; (· walk_at "A28l"))
    | (with_reducible refine Px.gs_fgTup ?_ ?_; (· walk_at "A28l"))
    | (with_reducible refine Px.gd_cutKS ?_ ?_; (· walk_at "A28l"))
    | (with_reducible refine Px.gs_fgTup (by with_unfolding_all rfl) ?_)
    | (with_reducible refine Px.gd_isi (by with_unfolding_all rfl) ?_)
    | (with_reducible refine Px.gd_inT (by with_unfolding_all rfl) ?_)
    | (with_reducible refine Px.gd_inTI (by with_unfolding_all rfl) ?_)
    | (with_reducible refine Px.gd_ninT (by with_unfolding_all rfl) ?_)
    | (with_reducible refine Px.gd_ninTI (by with_unfolding_all rfl) ?_)))
set_option hygiene true
namespace G
open Px
variable {E : String → Option D → Hy → Prop} {h : Hy} {Q : D × Hy → Prop}
theorem urn_ev (ns : List Int) (k : Int) (k0 : 0 ≤ k) (k1 : k < 64) (hn : ns.length ≤ 63) (h : Hy) : ∃ p q : Int, f__law_urn [.fl (ns.map D.int), .int k] h = .ok (.ref h.length, h ++ [.lst [.int p, .int 0, .int q]]) ∧ 0 ≤ q ∧ q < 10000000000000000000000000000000000000000000000000000 := by
  have hl : (ns.map D.int).length = ns.length := List.length_map _
  by_cases c : k < ns.length
  · obtain ⟨x, hx⟩ : ∃ x, ns[k.toNat]? = some x := ⟨_, List.getElem?_eq_getElem (by omega)⟩
    have ha : L2.atI (ns.map D.int) k = some (.int x) := by
      rw [atI_nat (d := .non) k0 (by omega), List.getD_eq_getElem?_getD, List.getElem?_map, hx]
      rfl
    refine ⟨if x - 1000000000000000000 > 0 then x - 1000000000000000000 else 0, x % 100000000000000000000000000000000000000000000000000 + 29 * k, ok_of (gd_pure (by rfl) (by simp) ?_), by omega, by omega⟩
    unfold b__law_urn
    simp only [startE, List.map_cons, List.map_nil, List.length_cons, List.length_nil, Nat.reduceAdd, Nat.reduceSub, List.replicate_succ, List.replicate_zero, List.cons_append, List.nil_append]
    walk_at "A28n"
    repeat ((first | walk_at "A283" | (with_reducible refine gd_pow18 ?_) | (with_reducible refine gd_pow50 ?_) | (with_reducible refine gd_ixF ha ?_) | walk_at "A284"); walk_at "A28n")
    exact .lst _ _ rfl (by rfl) (by simp) rfl
  · refine ⟨if (0 : Int) - 1000000000000000000 > 0 then 0 - 1000000000000000000 else 0, 0 % 100000000000000000000000000000000000000000000000000 + 29 * k, ok_of (gd_pure (by rfl) (by simp) ?_), by omega, by omega⟩
    unfold b__law_urn
    simp only [startE, List.map_cons, List.map_nil, List.length_cons, List.length_nil, Nat.reduceAdd, Nat.reduceSub, List.replicate_succ, List.replicate_zero, List.cons_append, List.nil_append]
    walk_at "A28n"
    repeat ((first | walk_at "A283" | (with_reducible refine gd_pow18 ?_) | (with_reducible refine gd_pow50 ?_) | walk_at "A284"); walk_at "A28n")
    exact .lst _ _ rfl (by rfl) (by simp) rfl
theorem gd_urn {ns : List Int} {k : Int} {b : Nat} {L : List (Nat × Ob)} (k0 : 0 ≤ k) (k1 : k < 64) (hn : ns.length ≤ 63) (S : St [] b h L)
    (q : ∀ n h' bg, Urn 0 bg → St [] n h' ((n, bg) :: L) → Q (.ref n, h')) : Good (f__law_urn [.fl (ns.map D.int), .int k] h) Q E := by
  obtain ⟨p, u, ev, u0, u1⟩ := urn_ev ns k k0 k1 hn h
  exact gd_of ev (q _ _ _ ⟨p, 0, u, rfl, by omega, by omega, u0, u1⟩ (S.alloc.rebase (List.perm_append_comm (l₁ := L) (l₂ := [_]))))
abbrev WS : List Tx := [['w', 'o', 'r', 'd'], ['w', 'o', 'r', 'd'], ['n', 'u', 'm', 'b', 'e', 'r'], PAUSE, ['l', 'o', 'u', 'd']]
theorem turn_ev {s : Sy} {b u w : Nat} {bg : Ob} {a c d e f g : Option D} (hok : s.all (Lf.ok .s)) (hw : ∀ x ∈ s.ws, x ∈ SW) (hd : s.deep ≤ 4) (hz : s.size ≤ 60) (S : St [] b h [(u, bg), (w, .lst (WS.map D.str))]) :
    Gs (l_law_0 [a, c, d, e, some (.tup s.ds), some (.str (T.tup s.ts).rtx), f, g] h) (kn0 fun ρ h' => (∃ f g, ρ = [a, c, d, e, some (.tup s.ds), some (.str (T.tup s.ts).rtx), f, g]) ∧ St [] b h' [(u, bg), (w, .lst (WS.map D.str))]) := by
  have hs := Sy.all_mono (fun p (hp : p.ok .s) => Lf.ok_small hp) hok
  have nl := Sy.nts_len hok
  have no := Sy.nts_ok hok
  unfold l_law_0
  walk_at "A28n"
  repeat ((first | walk_at "A285" | (with_reducible refine gd_of (written_ev hok hw (by omega) (by omega) _) ?_) | (with_reducible refine gd_isiT ?_) | (with_reducible refine gd_reprNts (by omega) no ?_) | (with_reducible refine gd_evS (by assumption) (law_sounded_ev 12 s (by omega) (by omega) hok hw _) fun n h' S => ?_) | walk_at "A286"); walk_at "A28n")
  with_reducible refine gd_tupL (S.cells (_, _) (List.mem_append_right _ (List.mem_singleton.mpr rfl))) ?_
  walk_at "A28n"
  repeat ((first | walk_at "A285" | (with_reducible refine gd_reprNts (by omega) no ?_) | (with_reducible refine gd_reprSy (by omega) (by assumption) (by omega) ?_) | (with_reducible refine gd_neSelf ?_) | walk_at "A286"); walk_at "A28n")
  with_reducible exact ⟨⟨_, _, rfl⟩, St.drop (L := [(u, bg), (w, .lst (WS.map D.str))]) S⟩
theorem top_ev {E : String → Option D → Hy → Prop} {h : Hy} {Q : D × Hy → Prop} {n : Nat} {v : Int} (e : h[n]? = some (.lst [.int 12, .int 60])) (q : ∀ t : Int, 0 ≤ t → t ≤ 60 → Q (.int t, h)) : Good (sIx (.ref n) (.int (if v = 0 then 1 else 0)) h) Q E := by
  by_cases c : v = 0
  · rw [if_pos c]
    exact gd_ixL e (by rfl) (q 60 (by omega) (by omega))
  · rw [if_neg c]
    exact gd_ixL e (by rfl) (q 12 (by omega) (by omega))
theorem WS_SW : ∀ x ∈ WS, x ∈ SW := by decide
theorem cell_ev {ns : List Int} {k : Int} {b w : Nat} {c d e f g : Option D} (hn : ns.length ≤ 63) (k0 : 0 ≤ k) (k1 : k < 64) (S : St [] b h [(w, .lst (WS.map D.str))]) :
    Gs (l_law_1 [some (.fl (ns.map D.int)), some (.ref w), some (.int k), c, d, e, f, g] h) (kn0 fun ρ h' => (∃ a c d e f g, ρ = [some (.fl (ns.map D.int)), some (.ref w), a, c, d, e, f, g]) ∧ ∃ b0, St [] b0 h' [(w, .lst (WS.map D.str))]) := by
  unfold l_law_1
  with_reducible refine gs_cons ?_
  walk_at "A28n"
  repeat ((first | walk_at "A287" | walk_at "A286"); walk_at "A28n")
  with_reducible refine gd_urn k0 k1 hn (by assumption) fun u h' bg hb S => ?_
  dsimp only
  walk_at "A28n"
  repeat ((first | walk_at "A287" | walk_at "A286"); walk_at "A28n")
  with_reducible refine gs_cons ?_
  walk_at "A28n"
  repeat ((first | walk_at "A287" | (with_reducible refine gd_newF1 (by assumption) fun l h' hl S => ?_) | walk_at "A288"); walk_at "A28n")
  have hi : (if decide (v = 0) = true then (1 : Int) else 0) = if v = 0 then 1 else 0 := by simp
  rw [hi]
  with_reducible refine top_ev (S.cells (l, .lst [.int 12, .int 60]) (by simp)) fun t t0 t1 => ?_
  have S : St [] u h' [(u, bg'), (w, .lst (WS.map D.str))] := St.sub S (.cons₂ _ (.cons _ (.cons₂ _ .slnil)))
  walk_at "A28n"
  repeat ((first | walk_at "A287" | walk_at "A286"); walk_at "A28n")
  have kc : ['s', 'o', 'u', 'n', 'd', 's'] = Kd.s.tx := rfl
  rw [kc]
  with_reducible refine gd_saying (ws := WS) ⟨by decide, by decide⟩ S hb (by omega) t0 t1 fun s h' bg' s1 s2 s3 hb S => ?_
  dsimp only
  have hok := s1.1
  have hs := Sy.all_mono (fun p (hp : p.ok .s) => Lf.ok_small hp) hok
  have hw : ∀ x ∈ s.ws, x ∈ SW := fun x hx => by
    rcases s1.2 x hx with r | r
    · exact WS_SW x r
    · rw [r]; decide
  have hz : s.size ≤ 60 := by omega
  with_reducible refine gs_cons ?_
  walk_at "A28n"
  repeat ((first | walk_at "A287" | (with_reducible refine gd_reprSy (by omega) (by assumption) (by omega) ?_) | walk_at "A286"); walk_at "A28n")
  refine gs_fLoop (fun pre ρ h' => (∃ x f g, ρ = [some (.fl (ns.map D.int)), some (.ref w), some (.int k), x, some (.tup s.ds), some (.str (T.tup s.ts).rtx), f, g]) ∧ St [] u h' [(u, bg'), (w, .lst (WS.map D.str))]) (fun _ _ _ _ => srcOk_none) _ _ _ ⟨⟨_, _, _, rfl⟩, S⟩ (fun pre y post ρ h' e i => ?_) fun ρ h' i => ?_
  · with_reducible obtain ⟨⟨x, f, g, rfl⟩, S⟩ := i
    refine ⟨_, rfl, ?_⟩
    walk_at "A28n"
    with_reducible refine (turn_ev hok hw (by omega) hz S).mono (fun ρ h i => ?_) (fun _ _ z => z.elim) (fun _ _ z => z.elim) (fun _ _ z => z.elim) fun _ _ _ _ z => z.elim
    with_reducible obtain ⟨⟨f, g, rfl⟩, S⟩ := i
    exact ⟨⟨_, _, _, rfl⟩, S⟩
  · with_reducible obtain ⟨⟨x, f, g, rfl⟩, S⟩ := i
    walk_at "A28n"
    repeat ((first | walk_at "A289" | walk_at "A286"); walk_at "A28n")
    with_reducible exact ⟨⟨_, _, _, _, _, _, rfl⟩, u, S.tail⟩
theorem law_holds : ∀ ns : List Int, ns.length ≤ 63 → ∃ h, f_law [.fl (ns.map D.int)] [] = .ok (.bl true, h) := by
  intro ns hN
  refine ⟨[], ok_of (gd_pure (by rfl) (by simp) ?_)⟩
  have S : St [] 0 [] [] := St.start0
  unfold b_law
  simp only [startE, List.map_cons, List.map_nil, List.length_cons, List.length_nil, Nat.reduceAdd, Nat.reduceSub, List.replicate_succ, List.replicate_zero, List.cons_append, List.nil_append]
  refine gs_cons ?_
  walk_at "A28n"
  repeat ((first | walk_at "A287" | walk_at "A286"); walk_at "A28n")
  refine gs_cons (gs_mid (I := fun ρ h' => (∃ a c d e f g, ρ = [some (.fl (ns.map D.int)), some (.ref n), a, c, d, e, f, g]) ∧ ∃ b0, St [] b0 h' [(n, .lst (WS.map D.str))]) ?_ ?_)
  · walk_at "A28n"
    repeat ((first | walk_at "A287" | walk_at "A286"); walk_at "A28n")
    generalize hg : (if (if ((ns.map D.int).length : Int) < 6 then ((ns.map D.int).length : Int) else 6) > 1 then (if ((ns.map D.int).length : Int) < 6 then ((ns.map D.int).length : Int) else 6) else 1).toNat = M
    have hM : M ≤ 6 := by
      rw [← hg]
      repeat' split
      all_goals omega
    have S : St [] 0 h' [(n, .lst (WS.map D.str))] := S
    refine gs_fLoop (fun pre ρ h' => (∃ a c d e f g, ρ = [some (.fl (ns.map D.int)), some (.ref n), a, c, d, e, f, g]) ∧ ∃ b0, St [] b0 h' [(n, .lst (WS.map D.str))]) (fun _ _ _ _ => srcOk_none) _ _ _ ⟨⟨_, _, _, _, _, _, rfl⟩, 0, S⟩ (fun pre y post ρ h' e i => ?_) fun ρ h' i => i
    with_reducible obtain ⟨⟨a, c, d, e1, f, g, rfl⟩, b0, S⟩ := i
    have hy : y ∈ rangeD 0 M := by rw [e]; simp
    obtain ⟨j, hj, rfl⟩ := rangeD_mem hy
    refine ⟨_, rfl, ?_⟩
    walk_at "A28n"
    with_reducible exact gs_mid (cell_ev hN (by omega) (by omega) S) fun ρ h i => i
  · with_reducible rintro ρ h' ⟨⟨a, c, d, e, f, g, rfl⟩, b0, S⟩
    walk_at "A28n"
    repeat ((first | walk_at "A289" | walk_at "A286"); walk_at "A28n")
    exact .pure (by simp) rfl
end G
namespace G
open PySem PySem.Spec PyProof.Rows L2 Px
theorem facts {P : Program} {w : World} {K : PySem.W.Frag} {h : Heap} {mg : Str → Option Value} {f : Addr} (X : K.In h) (G : h.Ns mainGlobals mg) (hfa : mg ("law" : Str) = some (.ref f)) (c : SaysP fa fn cs ts w K) :
    ∃ fd : FuncData, (∀ (s : Shared) (v : Value), BindsTo s fd ⟨[v], []⟩ [("script", v)]) ∧ ∀ base : Heap, K.In base → base.Ns mainGlobals mg → FnG P w K mg base 18 f fd ["script"] (spF K 1 f_law) := by
  have S : Says fa fn cs ts w K mg := ⟨c, h, X, G⟩
  obtain ⟨fd, F⟩ := S.d.def_ 14 (d := d_law) rfl
  have e := hfa.symm.trans (S.glo 14)
  cases e
  have b := FunD.bindsA (ps := ["script"]) F fun _ _ _ _ _ _ us hl => match us, hl with | [_], _ => rfl
  exact ⟨fd, fun s v => b s [v] rfl, fun base _ _ => law_fn S F⟩
end G
open PySem PySem.W PySem.Calls PyProof.Rows
theorem PySem.Challenge.cw_doorkinds_k28_sayings_sounded_holds : PySem.Challenge.rw_doorkinds_k28_sayings_sounded.Holds := by
  w_on; o_law; k_head
  (case hw => w_witness2)
  k_fill
  refine Px.law_walk (l := PySem.Challenge.rw_doorkinds_k28_sayings_sounded) (n := 63) (k := 18) (x := "script") rfl (by decide) (by kernel_rfl) ⟨rfl, by decide, by decide⟩ ?F
  case F =>
    intro w mg fa h Y GG hmg0
    have KX := PySem.W.kIn_of Y
    have hmg : mg ("law" : PySem.Str) = some (.ref fa) := hmg0
    obtain ⟨fd, hb, hF⟩ := G.facts (P := (PySem.Challenge.rw_doorkinds_k28_sayings_sounded).prog) (w := w) KX GG hmg (by
      show Px.obsP _ _ _ _ _ = Px.valP _ _ _
      kernel_rfl)
    exact ⟨_, fd, _, KX, hb, fun H a ns hl hO hS => Px.law_end G.law_holds H a ns hl hO hS, hF⟩

