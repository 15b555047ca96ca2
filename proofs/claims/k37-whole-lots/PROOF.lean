import PyProof.Rows.All
import Wide.All
import OpenK.AllK
import Wide.FinOn
import HandS.ForMost
import HandS.ForExc
import HandS.Wide
import HandS.IsInst
import HandS.Lambda
import HandS.TryMany
import HandS.ExcInit
import HandS.ExcField
import HandS.EndTab
import HandS.CallLocal
import HandS.TupAny
import HandS.Flow
import HandS.Gcd
import HandS.Zip
import KE.GoesEnum
import HandS.Defaults
import KE.SortData
import KE.DataMinMax
import KE.KTupSum
import HandS.Dict
import HandS.Deep
import HandS.SetFor
import HandS.Conv
import HandS.DictComp
import HandS.More
import HandS.WordsDict
import HandS.TupLe
import HandS.Text
import HandS.Style
import PyProof.ListStr
import HandS.Strs
import HandS.Remove
import HandS.SortKw
import PyProof.DictRoadsH
import KE.KDictDisplayH
import HandS.TupMul
import HandS.Star
import KE.DataCmp
import KE.KeyNested
import KE.KDictKeyed
import PySem.Challenge.RW_oldspares_k37_whole_lots
set_option Elab.async false
set_option linter.all false
set_option maxRecDepth 100000
set_option maxHeartbeats 4000000
set_option autoImplicit false
/-! AL0: data by value, a small store of things by reference, the relation to the abstract heap, judgements. -/
namespace AL
open PySem PySem.Spec PyProof.Rows L2 LamX

/-! ### data -/
inductive D where
  | non | bl (b : Bool) | int (i : Int) | str (x : Str)
  | lst (xs : List D) | tup (xs : List D) | dic (kvs : List (Key × D)) | ref (a : Addr)

inductive Cell where
  | lst (ds : List D)
  | dic (ds : List (Key × D))
  | ins (C : Addr) (fs : List (Str × D))
  | tp (ds : List D)
  | row
  | raw (o : HO)
  | ob (mk : List V → HO) (ds : List D)

abbrev Store := Addr → Option Cell
def updS (M : Store) (a : Addr) (c : Cell) : Store := fun b => if b = a then some c else M b
theorem updS_same {M : Store} {a : Addr} {c : Cell} : updS M a c a = some c := if_pos rfl
theorem updS_ne {M : Store} {a b : Addr} {c : Cell} (h : b ≠ a) : updS M a c b = M b := if_neg h
theorem updS_updS {M : Store} {a : Addr} {c c' : Cell} : updS (updS M a c) a c' = updS M a c' := by
  funext b; unfold updS; split <;> rfl
/-- hidden addresses: what a comprehension that runs is building -/
abbrev Hid := Addr → Bool
/-- the heap without what stands in the store or is hidden -/
def visM : Option Cell → Bool
  | none => true
  | some (.tp _) => true
  | _ => false
theorem vis_none {M : Store} {b : Addr} (h : M b = none) : visM (M b) = true := by rw [h]; rfl
def mkH (Z : Hid) (H : Hp) (M : Store) : Hp := fun b => if Z b = true then none else if visM (M b) = true then H b else none
theorem mk_vis {Z : Hid} {H : Hp} {M : Store} {b : Addr} (z : Z b = false) (h : visM (M b) = true) : mkH Z H M b = H b := by unfold mkH; rw [z, h]; rfl
theorem mk_none {Z : Hid} {H : Hp} {M : Store} {b : Addr} (z : Z b = false) (h : M b = none) : mkH Z H M b = H b := mk_vis z (vis_none h)
theorem mk_some {Z : Hid} {H : Hp} {M : Store} {b : Addr} {c : Cell} (h : M b = some c) (nt : visM (some c) = false := by rfl) : mkH Z H M b = none := by unfold mkH; rw [h, nt]; split <;> rfl
theorem mk_hid {Z : Hid} {H : Hp} {M : Store} {b : Addr} (z : Z b = true) : mkH Z H M b = none := by unfold mkH; rw [z]; rfl
theorem mk_iff {Z : Hid} {H : Hp} {M : Store} {b : Addr} {o : HO} : mkH Z H M b = some o ↔ (Z b = false ∧ visM (M b) = true) ∧ H b = some o := by
  unfold mkH
  cases z : Z b with
  | true => exact ⟨fun h => (nomatch h), fun h => (nomatch h.1.1)⟩
  | false =>
    cases e : visM (M b) with
    | true => exact ⟨fun h => ⟨⟨rfl, rfl⟩, h⟩, fun h => h.2⟩
    | false => exact ⟨fun h => (nomatch h), fun h => (nomatch h.1.2)⟩
theorem mk_of {Z : Hid} {H : Hp} {M : Store} {b : Addr} {o : HO} (z : Z b = false) (m : M b = none) (h : H b = some o) : mkH Z H M b = some o := mk_iff.mpr ⟨⟨z, vis_none m⟩, h⟩
theorem mk_free {Z : Hid} {H : Hp} {M : Store} {b : Addr} (n : H b = none) : mkH Z H M b = none := by
  cases e : mkH Z H M b with
  | none => rfl
  | some o => have := (mk_iff.mp e).2; rw [n] at this; cases this
theorem mk_sub {Z : Hid} {H H' : Hp} {M M' : Store} {a : Addr} (n : mkH Z H M a = none) (e1 : ∀ b, b ≠ a → M' b = M b) (e2 : ∀ b, b ≠ a → H' b = H b) : ∀ b o, mkH Z H M b = some o → mkH Z H' M' b = some o := fun b o h => by
  by_cases e : b = a
  · rw [e, n] at h; cases h
  · unfold mkH at h ⊢
    rw [e1 b e, e2 b e]; exact h

theorem rd_mk {Z : Hid} {H : Hp} {M : Store} {a : Addr} {u : HO} (h : Rd (mkH Z H M) a u) : Rd H a u := h.elim (fun h => .inl (mk_iff.mp h).2) (fun ⟨o, h⟩ => .inr ⟨o, (mk_iff.mp h).2⟩)

/-! ### the relation -/
mutual
inductive R (F : Hp) : V → D → Prop
  | non : R F .non .non
  | bl (b : Bool) : R F (.bl b) (.bl b)
  | int (i : Int) : R F (.int i) (.int i)
  | str (x : Str) : R F (.str x) (.str x)
  | lst {a : Addr} {vs : List V} {ds : List D} (h : F a = some (.lst vs)) (n : ds.length ≤ sizeLine) (r : Rs F vs ds) : R F (.ref a) (.lst ds)
  | tup {a : Addr} {vs : List V} {ds : List D} (h : Rd F a (.tup vs)) (n : ds.length ≤ sizeLine) (r : Rs F vs ds) : R F (.ref a) (.tup ds)
  | dic {a : Addr} {vs : List (Key × V)} {ds : List (Key × D)} (h : Rd F a (.dK vs)) (n : ds.length ≤ sizeLine) (r : Rks F vs ds) : R F (.ref a) (.dic ds)
  | ref (a : Addr) : R F (.ref a) (.ref a)
inductive Rs (F : Hp) : List V → List D → Prop
  | nil : Rs F [] []
  | cons {v : V} {vs : List V} {d : D} {ds : List D} (h : R F v d) (r : Rs F vs ds) : Rs F (v :: vs) (d :: ds)
inductive Rks (F : Hp) : List (Key × V) → List (Key × D) → Prop
  | nil : Rks F [] []
  | cons {k : Key} {v : V} {vs : List (Key × V)} {d : D} {ds : List (Key × D)} (h : R F v d) (r : Rks F vs ds) : Rks F ((k, v) :: vs) ((k, d) :: ds)
end
/-- more may be read -/
structure Sb (F F' : Hp) : Prop where
  lst : ∀ b vs, F b = some (.lst vs) → F' b = some (.lst vs)
  tup : ∀ b vs, Rd F b (.tup vs) → Rd F' b (.tup vs)
  dic : ∀ b vs, Rd F b (.dK vs) → Rd F' b (.dK vs)
  rdl : ∀ b vs, Rd F b (.lst vs) → Rd F' b (.lst vs)
theorem Sb.refl (F : Hp) : Sb F F := ⟨fun _ _ h => h, fun _ _ h => h, fun _ _ h => h, fun _ _ h => h⟩
theorem Sb.trans {F F1 F2 : Hp} (a : Sb F F1) (b : Sb F1 F2) : Sb F F2 :=
  ⟨fun c v h => b.lst c v (a.lst c v h), fun c v h => b.tup c v (a.tup c v h), fun c v h => b.dic c v (a.dic c v h), fun c v h => b.rdl c v (a.rdl c v h)⟩
theorem Sb.of {F F' : Hp} (h : ∀ b o, F b = some o → (∀ ps, o ≠ .tbl ps) → F' b = some o) : Sb F F' :=
  ⟨fun b v e => h b _ e (fun ps z => by cases z), fun b v e => e.elim (fun e => .inl (h b _ e (fun ps z => by cases z))) (fun ⟨o, e⟩ => .inr ⟨o, h b _ e (fun ps z => by cases z)⟩),
   fun b v e => e.elim (fun e => .inl (h b _ e (fun ps z => by cases z))) (fun ⟨o, e⟩ => .inr ⟨o, h b _ e (fun ps z => by cases z)⟩),
   fun b v e => e.elim (fun e => .inl (h b _ e (fun ps z => by cases z))) (fun ⟨o, e⟩ => .inr ⟨o, h b _ e (fun ps z => by cases z)⟩)⟩
mutual
theorem R.mono {F F' : Hp} (s : Sb F F') : ∀ {v : V} {d : D}, R F v d → R F' v d
  | _, _, .non => .non
  | _, _, .bl b => .bl b
  | _, _, .int i => .int i
  | _, _, .str x => .str x
  | _, _, .lst h n r => .lst (s.lst _ _ h) n (Rs.mono s r)
  | _, _, .tup h n r => .tup (s.tup _ _ h) n (Rs.mono s r)
  | _, _, .dic h n r => .dic (s.dic _ _ h) n (Rks.mono s r)
  | _, _, .ref a => .ref a
theorem Rs.mono {F F' : Hp} (s : Sb F F') : ∀ {vs : List V} {ds : List D}, Rs F vs ds → Rs F' vs ds
  | _, _, .nil => .nil
  | _, _, .cons h r => .cons (R.mono s h) (Rs.mono s r)
theorem Rks.mono {F F' : Hp} (s : Sb F F') : ∀ {vs : List (Key × V)} {ds : List (Key × D)}, Rks F vs ds → Rks F' vs ds
  | _, _, .nil => .nil
  | _, _, .cons h r => .cons (R.mono s h) (Rks.mono s r)
end
theorem Rs.length {F : Hp} : ∀ {vs : List V} {ds : List D}, Rs F vs ds → vs.length = ds.length
  | _, _, .nil => rfl
  | _, _, .cons _ r => congrArg (· + 1) r.length
theorem Rks.length {F : Hp} : ∀ {vs : List (Key × V)} {ds : List (Key × D)}, Rks F vs ds → vs.length = ds.length
  | _, _, .nil => rfl
  | _, _, .cons _ r => congrArg (· + 1) r.length
theorem Rs.get {F : Hp} : ∀ {vs : List V} {ds : List D} {i : Nat} {v : V}, Rs F vs ds → vs[i]? = some v → ∃ d, ds[i]? = some d ∧ R F v d
  | _, _, _, _, .nil, e => by simp at e
  | _, _, 0, _, .cons h _, e => by simp at e; subst e; exact ⟨_, rfl, h⟩
  | _, _, i + 1, v, .cons _ r, e => by
    obtain ⟨d, h1, h2⟩ := Rs.get (i := i) (v := v) r (by simpa using e)
    exact ⟨d, by simpa using h1, h2⟩
theorem Rs.getD {F : Hp} : ∀ {vs : List V} {ds : List D} {i : Nat} {d : D}, Rs F vs ds → ds[i]? = some d → ∃ v, vs[i]? = some v ∧ R F v d
  | _, _, _, _, .nil, e => by simp at e
  | _, _, 0, _, .cons h _, e => by simp at e; subst e; exact ⟨_, rfl, h⟩
  | _, _, i + 1, d, .cons _ r, e => by
    obtain ⟨v, h1, h2⟩ := Rs.getD (i := i) (d := d) r (by simpa using e)
    exact ⟨v, by simpa using h1, h2⟩
theorem Rs.append {F : Hp} : ∀ {vs ws : List V} {ds es : List D}, Rs F vs ds → Rs F ws es → Rs F (vs ++ ws) (ds ++ es)
  | _, _, _, _, .nil, s => s
  | _, _, _, _, .cons h r, s => .cons h (Rs.append r s)
theorem Rs.one {F : Hp} {v : V} {d : D} (h : R F v d) : Rs F [v] [d] := .cons h .nil
theorem Rs.drop {F : Hp} : ∀ {vs : List V} {ds : List D} (n : Nat), Rs F vs ds → Rs F (vs.drop n) (ds.drop n)
  | _, _, 0, r => r
  | _, _, _ + 1, .nil => .nil
  | _, _, n + 1, .cons _ r => Rs.drop n r
theorem Rs.take {F : Hp} : ∀ {vs : List V} {ds : List D} (n : Nat), Rs F vs ds → Rs F (vs.take n) (ds.take n)
  | _, _, 0, _ => .nil
  | _, _, _ + 1, .nil => .nil
  | _, _, n + 1, .cons h r => .cons h (Rs.take n r)
theorem Rs.set {F : Hp} {v : V} {d : D} (h : R F v d) : ∀ {vs : List V} {ds : List D} (i : Nat), Rs F vs ds → Rs F (vs.set i v) (ds.set i d)
  | _, _, _, .nil => .nil
  | _, _, 0, .cons _ r => .cons h r
  | _, _, i + 1, .cons g r => .cons g (Rs.set h i r)

/-! ### the store over the heap -/
/-- the law's own draws: [script, at, seed, rest] -/
def RowOk (K : PySem.W.Frag) (F H : Hp) (a : Addr) : Prop := ∃ (sc : Addr) (ns : List Int) (i s t : Int), H a = some (.lst [.ref sc, .int i, .int s, .int t]) ∧ (0 ≤ i ∧ 0 ≤ s ∧ s < 2147483648) ∧ SqL K F sc (ns.map V.int)
inductive Rfs (F : Hp) : List (Str × V) → List (Str × D) → Prop
  | nil : Rfs F [] []
  | cons {k : Str} {v : V} {vs : List (Str × V)} {d : D} {ds : List (Str × D)} (h : R F v d) (r : Rfs F vs ds) : Rfs F ((k, v) :: vs) ((k, d) :: ds)
theorem Rfs.mono {F F' : Hp} (s : Sb F F') : ∀ {vs : List (Str × V)} {ds : List (Str × D)}, Rfs F vs ds → Rfs F' vs ds
  | _, _, .nil => .nil
  | _, _, .cons h r => .cons (R.mono s h) (Rfs.mono s r)
/-- a tuple's own object, without a dict -/
def plainT (its : Array Value) : Obj := { cls := .type "tuple", data := .seq its }
def CellOk (K : PySem.W.Frag) (F H : Hp) (a : Addr) : Cell → Prop
  | .lst ds => ds.length ≤ sizeLine ∧ ∃ vs, H a = some (.lst vs) ∧ Rs F vs ds
  | .dic ds => ds.length ≤ sizeLine ∧ ∃ vs, H a = some (.dK vs) ∧ Rks F vs ds
  | .ins C fs => ∃ dx vs, H a = some (.ins C dx vs) ∧ Rfs F vs fs
  | .tp ds => ds.length ≤ sizeLine ∧ ∃ vs its, H a = some (.frz (plainT its) (.tup vs)) ∧ Rs F vs ds
  | .row => RowOk K F H a
  | .raw o => H a = some o ∧ (∀ ps, o ≠ .tbl ps) ∧ ∀ c q, o ≠ LamX.CodeO c q
  | .ob mk ds => ∃ vs, H a = some (mk vs) ∧ ((∀ ps, mk vs ≠ .tbl ps) ∧ ∀ c q, mk vs ≠ LamX.CodeO c q) ∧ Rs F vs ds
theorem SqL.monoS {K : PySem.W.Frag} {F F' : Hp} (s : Sb F F') {a : Addr} {vs : List V} (h : SqL K F a vs) : SqL K F' a vs := h.elim (fun h => .inl (s.rdl _ _ h)) .inr
theorem CellOk.mono {K : PySem.W.Frag} {F F' H H' : Hp} {a : Addr} {c : Cell} (s : Sb F F') (e : H' a = H a) (h : CellOk K F H a c) : CellOk K F' H' a c := by
  cases c with
  | lst ds => obtain ⟨n, vs, h1, h2⟩ := h; exact ⟨n, vs, e.trans h1, h2.mono s⟩
  | dic ds => obtain ⟨n, vs, h1, h2⟩ := h; exact ⟨n, vs, e.trans h1, h2.mono s⟩
  | ins C fs => obtain ⟨dx, vs, h1, h2⟩ := h; exact ⟨dx, vs, e.trans h1, h2.mono s⟩
  | tp ds => obtain ⟨n, vs, its, h1, h2⟩ := h; exact ⟨n, vs, its, e.trans h1, h2.mono s⟩
  | row => obtain ⟨sc, ns, i, z, t, h1, h2, h3⟩ := h; exact ⟨sc, ns, i, z, t, e.trans h1, h2, SqL.monoS s h3⟩
  | raw o => exact ⟨e.trans h.1, h.2⟩
  | ob mk ds => obtain ⟨vs, h1, h2, h3⟩ := h; exact ⟨vs, e.trans h1, h2, h3.mono s⟩
theorem CellOk.at {K : PySem.W.Frag} {F H : Hp} {a : Addr} {c : Cell} (h : CellOk K F H a c) : ∃ o, H a = some o ∧ (∀ ps, o ≠ .tbl ps) ∧ ∀ c q, o ≠ LamX.CodeO c q := by
  cases c with
  | lst ds => obtain ⟨n, vs, h1, h2⟩ := h; exact ⟨_, h1, (fun _ z => by cases z), fun _ _ z => by cases z⟩
  | dic ds => obtain ⟨n, vs, h1, h2⟩ := h; exact ⟨_, h1, (fun _ z => by cases z), fun _ _ z => by cases z⟩
  | ins C fs => obtain ⟨dx, vs, h1, h2⟩ := h; exact ⟨_, h1, (fun _ z => by cases z), fun _ _ z => by cases z⟩
  | tp ds => obtain ⟨n, vs, its, h1, h2⟩ := h; exact ⟨_, h1, (fun _ z => by cases z), fun _ _ z => by cases z⟩
  | row => obtain ⟨sc, ns, i, z, t, h1, h2, h3⟩ := h; exact ⟨_, h1, (fun _ z => by cases z), fun _ _ z => by cases z⟩
  | raw o => exact ⟨_, h.1, h.2.1, h.2.2⟩
  | ob mk ds => obtain ⟨vs, h1, h2, h3⟩ := h; exact ⟨_, h1, h2.1, h2.2⟩
/-- what stands outside the store stays (tables of code objects may grow) -/
def Ext (H : Hp) (M : Store) (H' : Hp) (M' : Store) : Prop := ∀ b o, visM (M b) = true → H b = some o → (∀ ps, o ≠ .tbl ps) → visM (M' b) = true ∧ H' b = some o
theorem Ext.refl (H : Hp) (M : Store) : Ext H M H M := fun _ _ h1 h2 _ => ⟨h1, h2⟩
theorem Ext.trans {H H1 H2 : Hp} {M M1 M2 : Store} (a : Ext H M H1 M1) (b : Ext H1 M1 H2 M2) : Ext H M H2 M2 := fun c o h1 h2 h3 =>
  let ⟨z1, z2⟩ := a c o h1 h2 h3
  b c o z1 z2 h3
theorem Ext.sb {Z : Hid} {H H' : Hp} {M M' : Store} (e : Ext H M H' M') : Sb (mkH Z H M) (mkH Z H' M') := Sb.of fun b o h hn => by
  obtain ⟨h1, h2⟩ := mk_iff.mp h
  obtain ⟨h3, h4⟩ := e b o h1.2 h2 hn
  exact mk_iff.mpr ⟨⟨h1.1, h3⟩, h4⟩
theorem Ext.of {H H' : Hp} {M : Store} (e : ∀ b o, H b = some o → H' b = some o) : Ext H M H' M := fun b o h1 h2 _ => ⟨h1, e b o h2⟩
/-- what a comprehension builds: a list, a dict -/
def HidO : HO → Prop | .lst _ => True | .dK _ => True | _ => False
structure RH (K : PySem.W.Frag) (T : List (Addr × Str)) (Z : Hid) (H : Hp) (M : Store) : Prop where
  cells : ∀ a c, M a = some c → CellOk K (mkH Z H M) H a c
  tabs : Tabs T H
  hid : ∀ z, Z z = true → ∃ o, H z = some o ∧ HidO o
  dis : ∀ a, M a ≠ none → Z a = false
structure Rep (K : PySem.W.Frag) (T : List (Addr × Str)) (Z : Hid) (H : Hp) (M : Store) (σ : L2.St) (sl : List (Option D)) : Prop where
  rh : RH K T Z H M
  slots : ∀ (i : Nat) (d : D), sl[i]? = some (some d) → ∃ v, σ[i]? = some (some v) ∧ R (mkH Z H M) v d
  len : sl.length = σ.length
section
variable {K : PySem.W.Frag} {T : List (Addr × Str)} {Z : Hid} {H H' : Hp} {M M' : Store} {σ : L2.St} {sl : List (Option D)} {a p : Addr} {o : HO} {c c' : Cell}
theorem RH.free (h : RH K T Z H M) (n : H p = none) : M p = none := by
  cases e : M p with
  | none => rfl
  | some c =>
    obtain ⟨o, z, _⟩ := (h.cells p c e).at
    rw [n] at z; cases z
theorem RH.vis (h : RH K T Z H M) (n : H p = none) : Z p = false := by
  cases e : Z p with
  | false => rfl
  | true => obtain ⟨xs, q, _⟩ := h.hid p e; rw [n] at q; cases q
theorem same_upd (n : H p = none) : ∀ b u, H b = some u → upd H p o b = some u := fun b u e => by rw [upd_ne (ne_of_none e n)]; exact e
theorem Rep.to (h : Rep K T Z H M σ sl) (r : RH K T Z H' M') (e : Ext H M H' M') : Rep K T Z H' M' σ sl :=
  ⟨r, fun i d z => let ⟨v, h1, h2⟩ := h.slots i d z; ⟨v, h1, h2.mono e.sb⟩, h.len⟩
/-- a new thing, not in the store -/
theorem RH.alloc (h : RH K T Z H M) (n : H p = none) : RH K T Z (upd H p o) M ∧ Ext H M (upd H p o) M := by
  have e : Ext H M (upd H p o) M := Ext.of (same_upd n)
  refine ⟨⟨fun a c z => ?_, h.tabs.ext (same_upd n), fun z q => ?_, h.dis⟩, e⟩
  rotate_left
  · obtain ⟨xs, y, y2⟩ := h.hid z q
    exact ⟨xs, same_upd n z _ y, y2⟩
  obtain ⟨u, z1, _⟩ := (h.cells a c z).at
  exact (h.cells a c z).mono e.sb (by rw [upd_ne (ne_of_none z1 n)])
/-- a new thing, in the store -/
theorem RH.cell (h : RH K T Z H M) (n : H p = none) (ok : CellOk K (mkH Z H M) (upd H p o) p c) : RH K T Z (upd H p o) (updS M p c) ∧ Ext H M (upd H p o) (updS M p c) := by
  have nM := h.free n
  have em : Sb (mkH Z H M) (mkH Z (upd H p o) (updS M p c)) := Sb.of fun b u h _ => mk_sub (a := p) (mk_free n) (fun b e => updS_ne e) (fun b e => upd_ne e) b u h
  refine ⟨⟨fun a c' z => ?_, h.tabs.ext (same_upd n), fun z q => ?_, fun a q => ?_⟩, fun b u h1 h2 _ => ?_⟩
  rotate_left
  · obtain ⟨xs, y, y2⟩ := h.hid z q
    exact ⟨xs, same_upd n z _ y, y2⟩
  · by_cases e : a = p
    · subst e; exact h.vis n
    · rw [updS_ne e] at q; exact h.dis a q
  rotate_left
  · by_cases e : a = p
    · subst e; rw [updS_same] at z; cases z; exact ok.mono em rfl
    · rw [updS_ne e] at z
      exact (h.cells a c' z).mono em (by rw [upd_ne e])
  · have ne := ne_of_none h2 n
    exact ⟨by rw [updS_ne ne]; exact h1, by rw [upd_ne ne]; exact h2⟩
theorem tabs_upd {o' : HO} (t : Tabs T H) (h : H a = some o) (n1 : ∀ ps, o ≠ .tbl ps) (n2 : ∀ c q, o ≠ LamX.CodeO c q) : Tabs T (upd H a o') := fun p hp => by
  obtain ⟨ps, h1, h2, h3⟩ := t p hp
  refine ⟨ps, ?_, h2, fun pos cv hc => ?_⟩
  · rw [upd_ne (ne_of h1 h (fun z => n1 ps z.symm))]; exact h1
  · obtain ⟨c, e1, e2⟩ := h3 pos cv hc
    refine ⟨c, e1, ?_⟩
    rw [upd_ne (ne_of e2 h (fun z => n2 _ _ z.symm))]; exact e2
/-- a thing of the store changes -/
theorem RH.put (h : RH K T Z H M) (ha : M a = some c) (ok : CellOk K (mkH Z H M) (upd H a o) a c') (nt : visM (some c) = false := by rfl) : RH K T Z (upd H a o) (updS M a c') ∧ Ext H M (upd H a o) (updS M a c') := by
  have em : Sb (mkH Z H M) (mkH Z (upd H a o) (updS M a c')) := Sb.of fun b u h _ => mk_sub (a := a) (mk_some ha nt) (fun b e => updS_ne e) (fun b e => upd_ne e) b u h
  obtain ⟨u, z1, z2, z3⟩ := (h.cells a c ha).at
  refine ⟨⟨fun b c'' z => ?_, tabs_upd h.tabs z1 z2 z3, fun z q => ?_, fun b q => ?_⟩, fun b u h1 h2 _ => ?_⟩
  rotate_left
  · obtain ⟨xs, y, y2⟩ := h.hid z q
    have ne : z ≠ a := fun w => by
      have := h.dis a (by rw [ha]; exact fun x => by cases x)
      rw [← w, q] at this; cases this
    exact ⟨xs, by rw [upd_ne ne]; exact y, y2⟩
  · by_cases e : b = a
    · subst e; exact h.dis b (by rw [ha]; exact fun x => by cases x)
    · rw [updS_ne e] at q; exact h.dis b q
  rotate_left
  · by_cases e : b = a
    · subst e; rw [updS_same] at z; cases z; exact ok.mono em rfl
    · rw [updS_ne e] at z
      exact (h.cells b c'' z).mono em (by rw [upd_ne e])
  · have ne : b ≠ a := fun z => by rw [z, ha, nt] at h1; cases h1
    exact ⟨by rw [updS_ne ne]; exact h1, by rw [upd_ne ne]; exact h2⟩
/-- .. its content in the store stays as told -/
theorem RH.put' (h : RH K T Z H M) (ha : M a = some c) (ok : CellOk K (mkH Z H M) (upd H a o) a c) (nt : visM (some c) = false := by rfl) : RH K T Z (upd H a o) M ∧ Ext H M (upd H a o) M := by
  have e : updS M a c = M := by
    funext b; unfold updS; split
    · rename_i z; rw [z, ha]
    · rfl
  have z := h.put (o := o) ha ok nt
  rwa [e] at z
/-- a thing of the store is let go: from now on it stands for itself -/
def delS (M : Store) (a : Addr) : Store := fun b => if b = a then none else M b
theorem delS_same {M : Store} {a : Addr} : delS M a a = none := if_pos rfl
theorem delS_ne {M : Store} {a b : Addr} (h : b ≠ a) : delS M a b = M b := if_neg h
theorem Ext.del : Ext H M H (delS M a) := fun b o h1 h2 _ => ⟨by unfold delS; split <;> first | rfl | exact h1, h2⟩
theorem RH.del (h : RH K T Z H M) : RH K T Z H (delS M a) := ⟨fun b c z => by
  have z' : M b = some c := by
    unfold delS at z
    split at z
    · cases z
    · exact z
  exact (h.cells b c z').mono (Ext.del (H := H) (M := M) (a := a)).sb rfl, h.tabs, h.hid, fun b q => by
    unfold delS at q
    split at q
    · exact absurd rfl q
    · exact h.dis b q⟩
theorem RH.delL (h : RH K T Z H M) {ds : List D} (ha : M a = some (.lst ds)) : R (mkH Z H (delS M a)) (.ref a) (.lst ds) := by
  obtain ⟨n, vs, h1, h2⟩ := h.cells a _ ha
  exact .lst (mk_of (h.dis a (by rw [ha]; exact fun x => by cases x)) delS_same h1) n (h2.mono Ext.del.sb)
theorem RH.delT (h : RH K T Z H M) {ds : List D} (ha : M a = some (.tp ds)) : R (mkH Z H (delS M a)) (.ref a) (.tup ds) := by
  obtain ⟨n, vs, its, h1, h2⟩ := h.cells a _ ha
  exact .tup (.inr ⟨_, mk_of (h.dis a (by rw [ha]; exact fun x => by cases x)) delS_same h1⟩) n (h2.mono Ext.del.sb)
theorem RH.tpR (h : RH K T Z H M) {ds : List D} (ha : M a = some (.tp ds)) : R (mkH Z H M) (.ref a) (.tup ds) := by
  obtain ⟨n, vs, its, h1, h2⟩ := h.cells a _ ha
  exact .tup (.inr ⟨_, mk_iff.mpr ⟨⟨h.dis a (by rw [ha]; exact fun x => by cases x), by rw [ha]; rfl⟩, h1⟩⟩) n h2
theorem RH.delD (h : RH K T Z H M) {ds : List (Key × D)} (ha : M a = some (.dic ds)) : R (mkH Z H (delS M a)) (.ref a) (.dic ds) := by
  obtain ⟨n, vs, h1, h2⟩ := h.cells a _ ha
  exact .dic (.inl (mk_of (h.dis a (by rw [ha]; exact fun x => by cases x)) delS_same h1)) n (h2.mono Ext.del.sb)
end

/-! ### the slots -/
def slotD : List (Option D) → Nat → Option D
  | [], _ => none
  | x :: _, 0 => x
  | _ :: r, i + 1 => slotD r i
theorem slotD_get : ∀ {sl : List (Option D)} {i : Nat} {d : D}, slotD sl i = some d → sl[i]? = some (some d)
  | [], _, _, h => by cases h
  | x :: _, 0, _, h => by simpa [slotD] using h
  | _ :: r, i + 1, d, h => by simpa using slotD_get (sl := r) (i := i) h
def setD : List (Option D) → Nat → Option D → List (Option D)
  | [], _, _ => []
  | _ :: r, 0, d => d :: r
  | x :: r, i + 1, d => x :: setD r i d
theorem setD_set : ∀ (sl : List (Option D)) (i : Nat) (d : Option D), setD sl i d = sl.set i d
  | [], _, _ => rfl
  | _ :: _, 0, _ => rfl
  | x :: r, i + 1, d => congrArg (x :: ·) (setD_set r i d)
theorem Rep.store {K : PySem.W.Frag} {T : List (Addr × Str)} {Z : Hid} {H : Hp} {M : Store} {σ : L2.St} {sl : List (Option D)} {v : V} {d : D} (h : Rep K T Z H M σ sl) (r : R (mkH Z H M) v d) (i : Nat) : Rep K T Z H M (σ.set i (some v)) (setD sl i (some d)) := by
  rw [setD_set]
  refine ⟨h.rh, fun j e z => ?_, by rw [List.length_set, List.length_set]; exact h.len⟩
  by_cases hj : i = j
  · subst hj
    have hl : i < sl.length := by
      have := (List.getElem?_eq_some_iff.mp z).1
      simpa using this
    rw [List.getElem?_set_self hl] at z
    have z' := Option.some.inj (Option.some.inj z)
    subst z'
    exact ⟨v, List.getElem?_set_self (by rw [← h.len]; exact hl), r⟩
  · rw [List.getElem?_set_ne hj] at z
    rw [List.getElem?_set_ne hj]
    exact h.slots j e z
theorem Rep.forget {K : PySem.W.Frag} {T : List (Addr × Str)} {Z : Hid} {H : Hp} {M : Store} {σ : L2.St} {sl : List (Option D)} (h : Rep K T Z H M σ sl) (i : Nat) : Rep K T Z H M (σ.set i none) (setD sl i none) := by
  rw [setD_set]
  refine ⟨h.rh, fun j e z => ?_, by rw [List.length_set, List.length_set]; exact h.len⟩
  by_cases hj : i = j
  · subst hj
    have hl : i < sl.length := by
      have := (List.getElem?_eq_some_iff.mp z).1
      simpa using this
    rw [List.getElem?_set_self hl] at z
    cases z
  · rw [List.getElem?_set_ne hj] at z
    rw [List.getElem?_set_ne hj]
    exact h.slots j e z

/-! ### judgements -/
/-- the ground of a def's entry -/
structure BC where
  T : List (Addr × Str)
  Z0 : Hid
  H0 : Hp
  M0 : Store
/-- behind the entry -/
structure BC.In (b : BC) (Z : Hid) (H : Hp) (M : Store) : Prop where
  ext : Ext b.H0 b.M0 H M
  hid : ∀ z, b.Z0 z = true → Z z = true
theorem BC.In.trans {b : BC} {Z : Hid} {H H1 : Hp} {M M1 : Store} (i : b.In Z H M) (e : Ext H M H1 M1) : b.In Z H1 M1 := ⟨i.ext.trans e, i.hid⟩
abbrev SL := List (Option D)
abbrev DK := D → Store → Prop
abbrev ATE := SL → Store → DK → Prop
abbrev ATT := SL → Store → (Bool → Store → Prop) → Prop
abbrev ATA := SL → Store → (List D → Store → Prop) → Prop
def Sim (b : BC) (K : PySem.W.Frag) (te : TE) (at_ : ATE) : Prop :=
  ∀ (Z : Hid) (σ : L2.St) (H : Hp) (M : Store) (sl : SL) (Q : VK) (Qa : DK), Rep K b.T Z H M σ sl → b.In Z H M → at_ sl M Qa →
    (∀ v d H' M', RH K b.T Z H' M' → Ext H M H' M' → R (mkH Z H' M') v d → Qa d M' → Q v H') → te σ H Q
def SimT (b : BC) (K : PySem.W.Frag) (te : TT) (at_ : ATT) : Prop :=
  ∀ (Z : Hid) (σ : L2.St) (H : Hp) (M : Store) (sl : SL) (Q : Bool → Hp → Prop) (Qa : Bool → Store → Prop), Rep K b.T Z H M σ sl → b.In Z H M → at_ sl M Qa →
    (∀ c H' M', RH K b.T Z H' M' → Ext H M H' M' → Qa c M' → Q c H') → te σ H Q
def SimA (b : BC) (K : PySem.W.Frag) (te : TA) (at_ : ATA) (n : Nat) : Prop :=
  ∀ (Z : Hid) (σ : L2.St) (H : Hp) (M : Store) (sl : SL) (Q : List V → Hp → Prop) (Qa : List D → Store → Prop), Rep K b.T Z H M σ sl → b.In Z H M → at_ sl M Qa →
    (∀ vs ds H' M', RH K b.T Z H' M' → Ext H M H' M' → Rs (mkH Z H' M') vs ds → ds.length = n → Qa ds M' → Q vs H') → te σ H Q
structure DE (b : BC) (X : Cx) (e : Expr) (te : TE) (at_ : ATE) : Prop where
  pe : PE X e te
  sim : Sim b X.K te at_
structure DT (b : BC) (X : Cx) (e : Expr) (te : TT) (at_ : ATT) : Prop where
  pt : PT X e te
  sim : SimT b X.K te at_
structure DW (b : BC) (X : Cx) (e : Expr) (te : TT) (at_ : ATT) : Prop where
  pw : PW X e te
  sim : SimT b X.K te at_
structure DA (b : BC) (X : Cx) (es : List Expr) (te : TA) (at_ : ATA) (n : Nat) : Prop where
  pa : PA X es te
  sim : SimA b X.K te at_ n
structure AEnds where
  nx : SL → Store → Prop
  rt : DK
  bk : SL → Store → Prop := fun _ _ => False
  ct : SL → Store → Prop := fun _ _ => False
abbrev ATS := AEnds → SL → Store → Prop
/-- what is reached behind a statement -/
structure EL (b : BC) (K : PySem.W.Frag) (Z : Hid) (H : Hp) (M : Store) (E : Ends) (Ea : AEnds) : Prop where
  nx : ∀ σ' H' M' sl', Rep K b.T Z H' M' σ' sl' → Ext H M H' M' → Ea.nx sl' M' → E.nx σ' H'
  rt : ∀ v d H' M', RH K b.T Z H' M' → Ext H M H' M' → R (mkH Z H' M') v d → Ea.rt d M' → E.rt v H'
  bk : ∀ σ' H' M' sl', Rep K b.T Z H' M' σ' sl' → Ext H M H' M' → Ea.bk sl' M' → E.bk σ' H'
  ct : ∀ σ' H' M' sl', Rep K b.T Z H' M' σ' sl' → Ext H M H' M' → Ea.ct sl' M' → E.ct σ' H'
theorem EL.from {b : BC} {K : PySem.W.Frag} {Z : Hid} {H H1 : Hp} {M M1 : Store} {E : Ends} {Ea : AEnds} (l : EL b K Z H M E Ea) (e : Ext H M H1 M1) : EL b K Z H1 M1 E Ea :=
  ⟨fun σ' H' M' sl' r x q => l.nx σ' H' M' sl' r (e.trans x) q, fun v d H' M' r x y q => l.rt v d H' M' r (e.trans x) y q,
   fun σ' H' M' sl' r x q => l.bk σ' H' M' sl' r (e.trans x) q, fun σ' H' M' sl' r x q => l.ct σ' H' M' sl' r (e.trans x) q⟩
def SimS (b : BC) (K : PySem.W.Frag) (ts : TS) (at_ : ATS) : Prop :=
  ∀ (Z : Hid) (σ : L2.St) (H : Hp) (M : Store) (sl : SL) (E : Ends) (Ea : AEnds), Rep K b.T Z H M σ sl → b.In Z H M → at_ Ea sl M → EL b K Z H M E Ea → ts E σ H
structure DS (b : BC) (X : Cx) (st : Stmt) (ts : TS) (at_ : ATS) : Prop where
  ps : PS X st ts
  sim : SimS b X.K ts at_
structure DSs (b : BC) (X : Cx) (st : List Stmt) (ts : TS) (at_ : ATS) : Prop where
  ps : PSs X st ts
  sim : SimS b X.K ts at_
end AL
set_option Elab.async false
set_option linter.all false
set_option maxRecDepth 100000
set_option maxHeartbeats 4000000
set_option autoImplicit false
/-! AL1: expressions. -/
namespace AL
open PySem PySem.Spec PyProof.Rows L2 LamX

section
variable {b : BC} {X : Cx} {pos : Pos}
/-! ### names, constants -/
@[simp] def aVar (i : Nat) : ATE := fun sl M Q => match slotD sl i with | some d => Q d M | none => False
@[simp] def aC (d : D) : ATE := fun _ M Q => Q d M
theorem sim_var {K : PySem.W.Frag} (i : Nat) : Sim b K (tVar i) (aVar i) := by
  intro Z σ H M sl Q Qa r e q k
  unfold aVar at q
  cases z : slotD sl i with
  | none => rw [z] at q; exact q.elim
  | some d =>
    rw [z] at q
    obtain ⟨v, h1, h2⟩ := r.slots i d (slotD_get z)
    exact ⟨v, h1, k v d H M r.rh (Ext.refl H M) h2 q⟩
theorem sim_c {K : PySem.W.Frag} {v : V} {d : D} (h : ∀ F, R F v d) : Sim b K (tC v) (aC d) := fun Z σ H M sl Q Qa r e q k => k v d H M r.rh (Ext.refl H M) (h _) q
theorem de_var (i : Nat) {x : Str} (hN : X.N[i]? = some x := by rfl) (hv : Vis X.env.scope x := by first | exact Or.inl rfl | exact Or.inr (Or.inl rfl) | exact Or.inr (Or.inr rfl))
    (hd : (x == ("__debug__" : Str)) = false := by decide) (hcd : (x == ("__classdict__" : Str)) = false := by decide) : DE b X (.Name x pos) (tVar i) (aVar i) := ⟨pe_var hN hv hd hcd, sim_var i⟩
theorem de_int {i : Int} {j : Nat} : DE b X (.Constant (.int i) j pos) (tC (.int i)) (aC (.int i)) := ⟨pe_int, sim_c fun _ => .int i⟩
theorem de_bl {i : Bool} {j : Nat} : DE b X (.Constant (.bool i) j pos) (tC (.bl i)) (aC (.bl i)) := ⟨pe_bl, sim_c fun _ => .bl i⟩
theorem de_non {j : Nat} : DE b X (.Constant .none j pos) (tC .non) (aC .non) := ⟨pe_non, sim_c fun _ => .non⟩
theorem de_str {x : Str} {j : Nat} : DE b X (.Constant (.str x) j pos) (tC (.str x)) (aC (.str x)) := ⟨pe_str, sim_c fun _ => .str x⟩
theorem de_gint {x : Str} {i : Int} {t : Tok} (hm : X.mg x = some (.int i t)) (hg : Gl X x := by rfl) (hd : (x == ("__debug__" : Str)) = false := by decide) : DE b X (.Name x pos) (tC (.int i)) (aC (.int i)) := ⟨pe_glob hg hm ⟨_, rfl⟩ hd, sim_c fun _ => .int i⟩
theorem de_gstr {x : Str} {i : Str} {t : Tok} (hm : X.mg x = some (.str i t)) (hg : Gl X x := by rfl) (hd : (x == ("__debug__" : Str)) = false := by decide) : DE b X (.Name x pos) (tC (.str i)) (aC (.str i)) := ⟨pe_glob hg hm ⟨_, rfl⟩ hd, sim_c fun _ => .str i⟩
theorem de_gref {x : Str} {f : Addr} (hm : X.mg x = some (.ref f)) (hg : Gl X x := by rfl) (hd : (x == ("__debug__" : Str)) = false := by decide) : DE b X (.Name x pos) (tC (.ref f)) (aC (.ref f)) := ⟨pe_glob hg hm rfl hd, sim_c fun _ => .ref f⟩

/-! ### operators by values -/
abbrev R2A := D → D → Store → DK → Prop
abbrev R1A := D → Store → DK → Prop
def OpSim (b : BC) (K : PySem.W.Frag) (r : R2) (ar : R2A) : Prop := ∀ (Z : Hid) (H : Hp) (M : Store) (x y : V) (d e : D) (Q : VK) (Qa : DK), RH K b.T Z H M → R (mkH Z H M) x d → R (mkH Z H M) y e → ar d e M Qa →
  (∀ v d' H' M', RH K b.T Z H' M' → Ext H M H' M' → R (mkH Z H' M') v d' → Qa d' M' → Q v H') → r x y H Q
def UnSim (b : BC) (K : PySem.W.Frag) (r : V → Hp → VK → Prop) (ar : R1A) : Prop := ∀ (Z : Hid) (H : Hp) (M : Store) (x : V) (d : D) (Q : VK) (Qa : DK), RH K b.T Z H M → R (mkH Z H M) x d → ar d M Qa →
  (∀ v d' H' M', RH K b.T Z H' M' → Ext H M H' M' → R (mkH Z H' M') v d' → Qa d' M' → Q v H') → r x H Q
@[simp] def aOp (ar : R2A) (aa ab : ATE) : ATE := fun sl M Q => aa sl M fun d M1 => ab sl M1 fun e M2 => ar d e M2 Q
@[simp] def aUn (ar : R1A) (aa : ATE) : ATE := fun sl M Q => aa sl M fun d M1 => ar d M1 Q
theorem sim_op {K : PySem.W.Frag} {r : R2} {ar : R2A} {ta tb : TE} {aa ab : ATE} (os : OpSim b K r ar) (ha : Sim b K ta aa) (hb : Sim b K tb ab) : Sim b K (tOp r ta tb) (aOp ar aa ab) := by
  intro Z σ H M sl Q Qa rp e q k
  refine ha Z σ H M sl _ _ rp e q fun v d H1 M1 r1 e1 h1 q1 => ?_
  refine hb Z σ H1 M1 sl _ _ (rp.to r1 e1) (e.trans e1) q1 fun u d2 H2 M2 r2 e2 h2 q2 => ?_
  exact os Z H2 M2 v u d d2 Q Qa r2 (h1.mono e2.sb) h2 q2 fun w d' H' M' r' e' h' q' => k w d' H' M' r' (e1.trans (e2.trans e')) h' q'
theorem sim_un {K : PySem.W.Frag} {r : V → Hp → VK → Prop} {ar : R1A} {ta : TE} {aa : ATE} (os : UnSim b K r ar) (ha : Sim b K ta aa) : Sim b K (tUn r ta) (aUn ar aa) := by
  intro Z σ H M sl Q Qa rp e q k
  refine ha Z σ H M sl _ _ rp e q fun v d H1 M1 r1 e1 h1 q1 => ?_
  exact os Z H1 M1 v d Q Qa r1 h1 q1 fun w d' H' M' r' e' h' q' => k w d' H' M' r' (e1.trans e') h' q'
theorem OpSim.or {K : PySem.W.Frag} {r r' : R2} {ar ar' : R2A} (h : OpSim b K r ar) (h' : OpSim b K r' ar') : OpSim b K (fun x y H Q => r x y H Q ∨ r' x y H Q) (fun d e M Q => ar d e M Q ∨ ar' d e M Q) :=
  fun Z H M x y d e Q Qa rh hx hy q k => q.elim (fun q => .inl (h Z H M x y d e Q Qa rh hx hy q k)) (fun q => .inr (h' Z H M x y d e Q Qa rh hx hy q k))
theorem OpSim.imp {K : PySem.W.Frag} {r : R2} {ar ar' : R2A} (h : OpSim b K r ar) (i : ∀ d e M Q, ar' d e M Q → ar d e M Q) : OpSim b K r ar' :=
  fun Z H M x y d e Q Qa rh hx hy q k => h Z H M x y d e Q Qa rh hx hy (i _ _ _ _ q) k
/-- ints in, a plain value out -/
theorem os_int0 {K : PySem.W.Frag} {g : Int → Int → V} {gd : Int → Int → D} (hg : ∀ i j F, R F (g i j) (gd i j)) : OpSim b K (rI0 g) (fun d e M Q => match d, e with | .int i, .int j => Q (gd i j) M | _, _ => False) := by
  intro Z H M x y d e Q Qa rh hx hy q k
  cases hx <;> first | exact q.elim | skip
  cases hy <;> first | exact q.elim | skip
  exact ⟨_, _, rfl, rfl, k _ _ H M rh (Ext.refl H M) (hg _ _ _) q⟩
theorem os_int {K : PySem.W.Frag} {C : Int → Int → Prop} {g : Int → Int → V} {gd : Int → Int → D} (hg : ∀ i j F, R F (g i j) (gd i j)) : OpSim b K (rI C g) (fun d e M Q => match d, e with | .int i, .int j => C i j ∧ Q (gd i j) M | _, _ => False) := by
  intro Z H M x y d e Q Qa rh hx hy q k
  cases hx <;> first | exact q.elim | skip
  cases hy <;> first | exact q.elim | skip
  exact ⟨_, _, rfl, rfl, q.1, k _ _ H M rh (Ext.refl H M) (hg _ _ _) q.2⟩
end
/-- the items of a list, wherever it stands -/
def cellL : Option Cell → Option (List D)
  | some (.lst ds) => some ds
  | _ => none
def seqL (M : Store) : D → Option (List D)
  | .lst ds => some ds
  | .ref a => cellL (M a)
  | _ => none
def seqT : D → Option (List D)
  | .tup ds => some ds
  | _ => none
def cellA : Option Cell → Option (List D)
  | some (.lst ds) => some ds
  | some (.tp ds) => some ds
  | _ => none
/-- the items of a list, a tuple -/
def seqA (M : Store) : D → Option (List D)
  | .tup ds => some ds
  | .ref a => cellA (M a)
  | d => seqL M d
/-- .. but of a tuple of the store -/
def seqB (M : Store) : D → Option (List D)
  | .tup ds => some ds
  | d => seqL M d
@[simp] theorem seqB_lst {M : Store} {ds : List D} : seqB M (.lst ds) = some ds := rfl
@[simp] theorem seqB_tup {M : Store} {ds : List D} : seqB M (.tup ds) = some ds := rfl
@[simp] theorem seqL_lst {M : Store} {ds : List D} : seqL M (.lst ds) = some ds := rfl
@[simp] theorem seqA_lst {M : Store} {ds : List D} : seqA M (.lst ds) = some ds := rfl
@[simp] theorem seqA_tup {M : Store} {ds : List D} : seqA M (.tup ds) = some ds := rfl
@[simp] theorem seqT_tup {ds : List D} : seqT (.tup ds) = some ds := rfl
theorem seqL_ref {M : Store} {a : Addr} {ds : List D} (h : M a = some (.lst ds)) : seqL M (.ref a) = some ds := by show cellL (M a) = _; rw [h]; rfl
theorem seqB_ref {M : Store} {a : Addr} {ds : List D} (h : M a = some (.lst ds)) : seqB M (.ref a) = some ds := seqL_ref h
theorem seqA_ref {M : Store} {a : Addr} {ds : List D} (h : M a = some (.lst ds)) : seqA M (.ref a) = some ds := by show cellA (M a) = _; rw [h]; rfl
theorem seqA_tp {M : Store} {a : Addr} {ds : List D} (h : M a = some (.tp ds)) : seqA M (.ref a) = some ds := by show cellA (M a) = _; rw [h]; rfl
section
variable {b : BC} {K : PySem.W.Frag} {T : List (Addr × Str)} {Z : Hid} {H : Hp} {M : Store} {v : V} {d : D} {ds : List D}
theorem seqL_ok (rh : RH K T Z H M) (r : R (mkH Z H M) v d) (h : seqL M d = some ds) : ∃ a vs, v = .ref a ∧ H a = some (.lst vs) ∧ Rs (mkH Z H M) vs ds ∧ ds.length ≤ sizeLine := by
  cases r with
  | lst h1 n h2 => cases h; exact ⟨_, _, rfl, (mk_iff.mp h1).2, h2, n⟩
  | ref a =>
    have h : cellL (M a) = some ds := h
    cases e : M a with
    | none => rw [e] at h; cases h
    | some c =>
      rw [e] at h
      cases c with
      | lst es => cases h; obtain ⟨n, vs, h1, h2⟩ := rh.cells a _ e; exact ⟨a, vs, rfl, h1, h2, n⟩
      | _ => cases h
  | _ => cases h
theorem seqT_ok (r : R (mkH Z H M) v d) (h : seqT d = some ds) : ∃ a vs, v = .ref a ∧ Rd H a (.tup vs) ∧ Rs (mkH Z H M) vs ds ∧ ds.length ≤ sizeLine := by
  cases r with
  | tup h1 n h2 => cases h; exact ⟨_, _, rfl, rd_mk h1, h2, n⟩
  | _ => cases h
theorem seqA_ok (rh : RH K T Z H M) (r : R (mkH Z H M) v d) (h : seqA M d = some ds) : ∃ a vs, v = .ref a ∧ (H a = some (.lst vs) ∨ Rd H a (.tup vs)) ∧ Rs (mkH Z H M) vs ds ∧ ds.length ≤ sizeLine := by
  cases r with
  | tup h1 n h2 => cases h; exact ⟨_, _, rfl, .inr (rd_mk h1), h2, n⟩
  | lst h1 n h2 => obtain ⟨a, vs, h1, h2, h3⟩ := seqL_ok rh (.lst h1 n h2) h; exact ⟨a, vs, h1, .inl h2, h3⟩
  | ref a =>
    have h : cellA (M a) = some ds := h
    cases e : M a with
    | none => rw [e] at h; cases h
    | some c =>
      rw [e] at h
      cases c with
      | lst es => cases h; obtain ⟨n, vs, h1, h2⟩ := rh.cells a _ e; exact ⟨a, vs, rfl, .inl h1, h2, n⟩
      | tp es => cases h; obtain ⟨n, vs, its, h1, h2⟩ := rh.cells a _ e; exact ⟨a, vs, rfl, .inr (.inr ⟨_, h1⟩), h2, n⟩
      | _ => cases h
  | _ => cases h
/-- a new list, a new tuple, as data -/
theorem new_lst {p : Addr} {vs : List V} (rh : RH K T Z H M) (np : H p = none) (n : ds.length ≤ sizeLine) (r : Rs (mkH Z H M) vs ds) :
    RH K T Z (upd H p (.lst vs)) M ∧ Ext H M (upd H p (.lst vs)) M ∧ R (mkH Z (upd H p (.lst vs)) M) (.ref p) (.lst ds) := by
  obtain ⟨r1, e1⟩ := rh.alloc (o := .lst vs) np
  exact ⟨r1, e1, .lst (mk_of (rh.vis np) (rh.free np) upd_same) n (r.mono e1.sb)⟩
theorem new_tup {p : Addr} {vs : List V} (rh : RH K T Z H M) (np : H p = none) (n : ds.length ≤ sizeLine) (r : Rs (mkH Z H M) vs ds) :
    RH K T Z (upd H p (.tup vs)) M ∧ Ext H M (upd H p (.tup vs)) M ∧ R (mkH Z (upd H p (.tup vs)) M) (.ref p) (.tup ds) := by
  obtain ⟨r1, e1⟩ := rh.alloc (o := .tup vs) np
  exact ⟨r1, e1, .tup (.inl (mk_of (rh.vis np) (rh.free np) upd_same)) n (r.mono e1.sb)⟩
/-- a new list in the store -/
theorem new_cell {p : Addr} {vs : List V} (rh : RH K T Z H M) (np : H p = none) (n : ds.length ≤ sizeLine) (r : Rs (mkH Z H M) vs ds) :
    RH K T Z (upd H p (.lst vs)) (updS M p (.lst ds)) ∧ Ext H M (upd H p (.lst vs)) (updS M p (.lst ds)) := rh.cell np ⟨n, vs, upd_same, r⟩
end
section
variable {b : BC} {X : Cx} {pos : Pos}
/-! ### + - * // % -/
theorem os_add_str {K : PySem.W.Frag} : OpSim b K (fun x y H Q => ∃ i j, x = .str i ∧ y = .str j ∧ i.length + j.length ≤ sizeLine ∧ Q (.str (i ++ j)) H) (fun d e M Q => match d, e with | .str i, .str j => i.length + j.length ≤ sizeLine ∧ Q (.str (i ++ j)) M | _, _ => False) := by
  intro Z H M x y d e Q Qa rh hx hy q k
  cases hx <;> first | exact q.elim | skip
  cases hy <;> first | exact q.elim | skip
  exact ⟨_, _, rfl, rfl, q.1, k _ _ H M rh (Ext.refl H M) (.str _) q.2⟩
theorem os_cat {K : PySem.W.Frag} : OpSim b K rCat (fun d e M Q => ∃ ds es, seqL M d = some ds ∧ seqL M e = some es ∧ ds.length + es.length ≤ sizeLine ∧ Q (.lst (ds ++ es)) M) := by
  intro Z H M x y d e Q Qa rh hx hy ⟨ds, es, h1, h2, h3, q⟩ k
  obtain ⟨a, vs, rfl, ha, hr, _⟩ := seqL_ok rh hx h1
  obtain ⟨c, ws, rfl, hc, hs, _⟩ := seqL_ok rh hy h2
  refine ⟨a, c, vs, ws, rfl, rfl, ha, hc, by rw [hr.length, hs.length]; exact h3, fun p np => ?_⟩
  obtain ⟨r1, e1, z⟩ := new_lst rh np (by rw [List.length_append]; exact h3) (hr.append hs)
  exact k _ _ _ _ r1 e1 z q
theorem os_catT {K : PySem.W.Frag} : OpSim b K (rCatA K) (fun d e M Q => match d, e with | .tup ds, .tup es => ds.length + es.length ≤ sizeLine ∧ Q (.tup (ds ++ es)) M | _, _ => False) := by
  intro Z H M x y d e Q Qa rh hx hy q k
  cases hx <;> first | exact q.elim | skip
  rename_i a vs ds h1 n1 r1
  cases hy <;> first | exact q.elim | skip
  rename_i c ws es h2 n2 r2
  obtain ⟨h3, q⟩ := q
  have g1 := rd_mk h1
  have g2 := rd_mk h2
  refine ⟨a, c, vs, ws, rfl, rfl, .inl g1, .inl g2, by rw [r1.length, r2.length]; exact h3, fun z => ?_, fun _ z => ?_, fun _ _ p np => ?_⟩
  · subst z; cases r1; exact k _ _ H M rh (Ext.refl H M) (.tup h2 n2 r2) q
  · subst z; cases r2
    refine k _ _ H M rh (Ext.refl H M) (.tup h1 n1 r1) ?_
    rw [List.append_nil] at q; exact q
  · obtain ⟨r3, e3, z⟩ := new_tup rh np (by rw [List.length_append]; exact h3) (r1.append r2)
    exact k _ _ _ _ r3 e3 z q
/-- +: ints, texts, lists, tuples -/
def addD : R2A := fun d e M Q => match d, e with
  | .int i, .int j => Q (.int (i + j)) M
  | .str i, .str j => i.length + j.length ≤ sizeLine ∧ Q (.str (i ++ j)) M
  | .tup ds, .tup es => ds.length + es.length ≤ sizeLine ∧ Q (.tup (ds ++ es)) M
  | .lst ds, .lst es => ds.length + es.length ≤ sizeLine ∧ Q (.lst (ds ++ es)) M
  | d, e => ∃ ds es, seqL M d = some ds ∧ seqL M e = some es ∧ ds.length + es.length ≤ sizeLine ∧ Q (.lst (ds ++ es)) M
@[simp] theorem addD_int {i j : Int} {M : Store} {Q : DK} : addD (.int i) (.int j) M Q = Q (.int (i + j)) M := rfl
@[simp] theorem addD_str {i j : Str} {M : Store} {Q : DK} : addD (.str i) (.str j) M Q = (i.length + j.length ≤ sizeLine ∧ Q (.str (i ++ j)) M) := rfl
@[simp] theorem addD_tup {i j : List D} {M : Store} {Q : DK} : addD (.tup i) (.tup j) M Q = (i.length + j.length ≤ sizeLine ∧ Q (.tup (i ++ j)) M) := rfl
@[simp] theorem addD_lst {i j : List D} {M : Store} {Q : DK} : addD (.lst i) (.lst j) M Q = (i.length + j.length ≤ sizeLine ∧ Q (.lst (i ++ j)) M) := rfl
@[simp] theorem addD_ref {a : Addr} {e : D} {M : Store} {Q : DK} : addD (.ref a) e M Q = ∃ ds es, seqL M (.ref a) = some ds ∧ seqL M e = some es ∧ ds.length + es.length ≤ sizeLine ∧ Q (.lst (ds ++ es)) M := by cases e <;> rfl
@[simp] theorem addD_lref {a : Addr} {i : List D} {M : Store} {Q : DK} : addD (.lst i) (.ref a) M Q = ∃ ds es, seqL M (.lst i) = some ds ∧ seqL M (.ref a) = some es ∧ ds.length + es.length ≤ sizeLine ∧ Q (.lst (ds ++ es)) M := rfl
def rAdd (K : PySem.W.Frag) : R2 := fun x y H Q => rI0 (fun i j => .int (i + j)) x y H Q ∨ (∃ i j, x = .str i ∧ y = .str j ∧ i.length + j.length ≤ sizeLine ∧ Q (.str (i ++ j)) H) ∨ rCatA K x y H Q ∨ rCat x y H Q
theorem op_addA : OpR X (binaryOp .Add) (rAdd X.K) := op_add.or (op_add_str.or (op_catA.or op_cat))
theorem os_add {K : PySem.W.Frag} : OpSim b K (rAdd K) addD := by
  refine OpSim.imp ((os_int0 (g := fun i j => .int (i + j)) (gd := fun i j => .int (i + j)) (fun i j F => .int _)).or (os_add_str.or (os_catT.or os_cat))) ?_
  intro d e M Q h
  cases d <;> cases e <;> first
    | exact .inl h | exact .inr (.inl h) | exact .inr (.inr (.inl h)) | exact .inr (.inr (.inr h))
    | exact .inr (.inr (.inr ⟨_, _, rfl, rfl, h.1, h.2⟩))
/-- *: ints, a list repeated -/
def mulD : R2A := fun d e M Q => match d, e with
  | .int i, .int j => CMulW i j ∧ Q (.int (i * j)) M
  | d, .int k => ∃ ds, seqL M d = some ds ∧ -(2 ^ 63) ≤ k ∧ k < 2 ^ 63 ∧ ds.length * k.toNat ≤ sizeLine ∧ Q (.lst (List.replicate k.toNat ds).flatten) M
  | _, _ => False
@[simp] theorem mulD_int {i j : Int} {M : Store} {Q : DK} : mulD (.int i) (.int j) M Q = (CMulW i j ∧ Q (.int (i * j)) M) := rfl
@[simp] theorem mulD_lst {ds : List D} {k : Int} {M : Store} {Q : DK} : mulD (.lst ds) (.int k) M Q = ∃ es, seqL M (.lst ds) = some es ∧ -(2 ^ 63) ≤ k ∧ k < 2 ^ 63 ∧ es.length * k.toNat ≤ sizeLine ∧ Q (.lst (List.replicate k.toNat es).flatten) M := rfl
end
end AL
set_option Elab.async false
set_option linter.all false
set_option maxRecDepth 100000
set_option maxHeartbeats 4000000
set_option autoImplicit false
/-! AL2: comparisons, tests, displays, places, slices. -/
namespace AL
open PySem PySem.Spec PyProof.Rows L2 LamX

section
variable {b : BC} {X : Cx} {pos : Pos} {e e1 e2 e3 : Expr} {ta tb tc : TE} {aa ab ac : ATE}
theorem os_rep {K : PySem.W.Frag} : OpSim b K rRep (fun d e M Q => match e with | .int k => ∃ ds, seqL M d = some ds ∧ -(2 ^ 63) ≤ k ∧ k < 2 ^ 63 ∧ ds.length * k.toNat ≤ sizeLine ∧ Q (.lst (List.replicate k.toNat ds).flatten) M | _ => False) := by
  intro Z H M x y d e Q Qa rh hx hy q k
  cases hy <;> first | exact q.elim | skip
  rename_i n
  obtain ⟨ds, h1, h2, h3, h4, q⟩ := q
  obtain ⟨a, vs, rfl, ha, hr, _⟩ := seqL_ok rh hx h1
  refine ⟨a, n, vs, rfl, rfl, ha, h2, h3, by rw [hr.length]; exact h4, fun p np => ?_⟩
  have hrep : ∀ m : Nat, Rs (mkH Z H M) (List.replicate m vs).flatten (List.replicate m ds).flatten := fun m => by
    induction m with
    | zero => exact .nil
    | succ m ih => rw [List.replicate_succ, List.replicate_succ, List.flatten_cons, List.flatten_cons]; exact hr.append ih
  have hl : (List.replicate n.toNat ds).flatten.length ≤ sizeLine := by
    rw [List.length_flatten, List.map_replicate, List.sum_replicate_nat, Nat.mul_comm]; exact h4
  obtain ⟨r1, e1, z⟩ := new_lst rh np hl (hrep n.toNat)
  exact k _ _ _ _ r1 e1 z q
def rMul : R2 := fun x y H Q => rI CMulW (fun i j => .int (i * j)) x y H Q ∨ rRep x y H Q
theorem op_mulA : OpR X (binaryOp .Mult) rMul := op_mulW.or op_rep
theorem os_mul {K : PySem.W.Frag} : OpSim b K rMul mulD := by
  refine OpSim.imp ((os_int (C := CMulW) (g := fun i j => .int (i * j)) (gd := fun i j => .int (i * j)) (fun i j F => .int _)).or os_rep) ?_
  intro d e M Q h
  cases d <;> cases e <;> first | exact .inl h | exact .inr h
@[simp] def subD : R2A := fun d e M Q => match d, e with | .int i, .int j => Q (.int (i - j)) M | _, _ => False
@[simp] def fdivD : R2A := fun d e M Q => match d, e with | .int i, .int j => CDivW i j ∧ Q (.int (i / j)) M | _, _ => False
@[simp] def modD : R2A := fun d e M Q => match d, e with | .int i, .int j => 0 < j ∧ Q (.int (i % j)) M | _, _ => False
@[simp] def powD : R2A := fun d e M Q => match d, e with | .int i, .int j => CPow i j ∧ Q (.int (i ^ j.toNat)) M | _, _ => False
@[simp] def negD : R1A := fun d M Q => match d with | .int i => Q (.int (-i)) M | _ => False
theorem de_add (ha : DE b X e1 ta aa) (hb : DE b X e2 tb ab) : DE b X (.BinOp e1 .Add e2 pos) (tOp (rAdd X.K) ta tb) (aOp addD aa ab) := ⟨pe_op op_addA ha.pe hb.pe, sim_op os_add ha.sim hb.sim⟩
theorem de_mul (ha : DE b X e1 ta aa) (hb : DE b X e2 tb ab) : DE b X (.BinOp e1 .Mult e2 pos) (tOp rMul ta tb) (aOp mulD aa ab) := ⟨pe_op op_mulA ha.pe hb.pe, sim_op os_mul ha.sim hb.sim⟩
theorem de_sub (ha : DE b X e1 ta aa) (hb : DE b X e2 tb ab) : DE b X (.BinOp e1 .Sub e2 pos) (tOp (rI0 fun i j => .int (i - j)) ta tb) (aOp subD aa ab) := ⟨pe_op op_sub ha.pe hb.pe, sim_op (os_int0 fun i j F => .int _) ha.sim hb.sim⟩
theorem de_fdiv (ha : DE b X e1 ta aa) (hb : DE b X e2 tb ab) : DE b X (.BinOp e1 .FloorDiv e2 pos) (tOp (rI CDivW fun i j => .int (i / j)) ta tb) (aOp fdivD aa ab) := ⟨pe_op op_fdivW ha.pe hb.pe, sim_op (os_int fun i j F => .int _) ha.sim hb.sim⟩
theorem de_mod (ha : DE b X e1 ta aa) (hb : DE b X e2 tb ab) : DE b X (.BinOp e1 .Mod e2 pos) (tOp (rI (fun _ j => 0 < j) fun i j => .int (i % j)) ta tb) (aOp modD aa ab) := ⟨pe_op op_mod ha.pe hb.pe, sim_op (os_int fun i j F => .int _) ha.sim hb.sim⟩
theorem de_pow (ha : DE b X e1 ta aa) (hb : DE b X e2 tb ab) : DE b X (.BinOp e1 .Pow e2 pos) (tOp (rI CPow fun i j => .int (i ^ j.toNat)) ta tb) (aOp powD aa ab) := ⟨pe_op op_pow ha.pe hb.pe, sim_op (os_int fun i j F => .int _) ha.sim hb.sim⟩
theorem de_neg (ha : DE b X e1 ta aa) : DE b X (.UnaryOp .USub e1 pos) (tUn (rU fun i => .int (-i)) ta) (aUn negD aa) := ⟨pe_un un_neg ha.pe, sim_un (fun Z H M x d Q Qa rh hx q k => by
  cases hx <;> first | exact q.elim | skip
  exact ⟨_, rfl, k _ _ H M rh (Ext.refl H M) (.int _) q⟩) ha.sim⟩

/-! ### comparisons of ints -/
@[simp] def cmpD (g : Int → Int → Bool) : R2A := fun d e M Q => match d, e with | .int i, .int j => Q (.bl (g i j)) M | _, _ => False
theorem os_cmp {K : PySem.W.Frag} (g : Int → Int → Bool) : OpSim b K (rI0 fun i j => .bl (g i j)) (cmpD g) := by
  refine OpSim.imp (os_int0 (g := fun i j => .bl (g i j)) (gd := fun i j => .bl (g i j)) fun i j F => .bl _) ?_
  intro d e M Q h; exact h
theorem de_lt (ha : DE b X e1 ta aa) (hb : DE b X e2 tb ab) : DE b X (.Compare e1 [.Lt] [e2] pos) (tOp (rI0 fun i j => .bl (decide (i < j))) ta tb) (aOp (cmpD fun i j => decide (i < j)) aa ab) := ⟨pe_cmpR op_lt ha.pe hb.pe (nomark _), sim_op (os_cmp _) ha.sim hb.sim⟩
theorem de_le (ha : DE b X e1 ta aa) (hb : DE b X e2 tb ab) : DE b X (.Compare e1 [.LtE] [e2] pos) (tOp (rI0 fun i j => .bl (decide (i ≤ j))) ta tb) (aOp (cmpD fun i j => decide (i ≤ j)) aa ab) := ⟨pe_cmpR op_le ha.pe hb.pe (nomark _), sim_op (os_cmp _) ha.sim hb.sim⟩
theorem de_gt (ha : DE b X e1 ta aa) (hb : DE b X e2 tb ab) : DE b X (.Compare e1 [.Gt] [e2] pos) (tOp (rI0 fun i j => .bl (decide (j < i))) ta tb) (aOp (cmpD fun i j => decide (j < i)) aa ab) := ⟨pe_cmpR op_gt ha.pe hb.pe (nomark _), sim_op (os_cmp fun i j => decide (j < i)) ha.sim hb.sim⟩
theorem de_ge (ha : DE b X e1 ta aa) (hb : DE b X e2 tb ab) : DE b X (.Compare e1 [.GtE] [e2] pos) (tOp (rI0 fun i j => .bl (decide (j ≤ i))) ta tb) (aOp (cmpD fun i j => decide (j ≤ i)) aa ab) := ⟨pe_cmpR op_ge ha.pe hb.pe (nomark _), sim_op (os_cmp fun i j => decide (j ≤ i)) ha.sim hb.sim⟩
/-- least <= thing <= most -/
@[simp] def aChain (g h : Int → Int → Bool) (aa ab ac : ATE) : ATE := fun sl M Q => aa sl M fun d M1 => ab sl M1 fun e M2 => match d, e with
  | .int i, .int j => if g i j = true then ac sl M2 fun f M3 => (match f with | .int l => Q (.bl (h j l)) M3 | _ => False) else Q (.bl false) M2
  | _, _ => False
theorem sim_chain {K : PySem.W.Frag} (g h : Int → Int → Bool) (ha : Sim b K ta aa) (hb : Sim b K tb ab) (hc : Sim b K tc ac) : Sim b K (tChain (rI0 fun i j => .bl (g i j)) (rI0 fun i j => .bl (h i j)) ta tb tc) (aChain g h aa ab ac) := by
  intro Z σ H M sl Q Qa rp e q k
  refine ha Z σ H M sl _ _ rp e q fun v d H1 M1 r1 e1 h1 q1 => ?_
  refine hb Z σ H1 M1 sl _ _ (rp.to r1 e1) (e.trans e1) q1 fun u d2 H2 M2 r2 e2 h2 q2 => ?_
  have h1' := h1.mono e2.sb
  cases h1' <;> first | exact q2.elim | skip
  cases h2 <;> first | exact q2.elim | skip
  rename_i i j
  refine ⟨i, j, rfl, rfl, _, rfl, ?_⟩
  by_cases c : g i j = true
  · have q2 : (if g i j = true then _ else _) := q2
    rw [if_pos c] at q2 ⊢
    refine hc Z σ H2 M2 sl _ _ (rp.to r2 (e1.trans e2)) ((e.trans e1).trans e2) q2 fun u d3 H3 M3 r3 e3 h3 q3 => ?_
    cases h3 <;> first | exact q3.elim | skip
    exact ⟨_, _, rfl, rfl, k _ _ H3 M3 r3 (e1.trans (e2.trans e3)) (.bl _) q3⟩
  · have q2 : (if g i j = true then _ else _) := q2
    rw [if_neg c] at q2 ⊢
    exact k _ _ H2 M2 r2 (e1.trans e2) (.bl _) q2
theorem de_lele (ha : DE b X e1 ta aa) (hb : DE b X e2 tb ab) (hc : DE b X e3 tc ac) (hm : lastMarks [.LtE, .LtE] [e2, e3] = false := by with_unfolding_all rfl) :
    DE b X (.Compare e1 [.LtE, .LtE] [e2, e3] pos) (tChain (rI0 fun i j => .bl (decide (i ≤ j))) (rI0 fun i j => .bl (decide (i ≤ j))) ta tb tc) (aChain (fun i j => decide (i ≤ j)) (fun i j => decide (i ≤ j)) aa ab ac) := ⟨pe_chain op_le op_le ha.pe hb.pe hc.pe hm, sim_chain _ _ ha.sim hb.sim hc.sim⟩
theorem de_lelt (ha : DE b X e1 ta aa) (hb : DE b X e2 tb ab) (hc : DE b X e3 tc ac) (hm : lastMarks [.LtE, .Lt] [e2, e3] = false := by with_unfolding_all rfl) :
    DE b X (.Compare e1 [.LtE, .Lt] [e2, e3] pos) (tChain (rI0 fun i j => .bl (decide (i ≤ j))) (rI0 fun i j => .bl (decide (i < j))) ta tb tc) (aChain (fun i j => decide (i ≤ j)) (fun i j => decide (i < j)) aa ab ac) := ⟨pe_chain op_le op_lt ha.pe hb.pe hc.pe hm, sim_chain _ _ ha.sim hb.sim hc.sim⟩

/-! ### is None -/
def isNon : D → Bool | .non => true | _ => false
@[simp] theorem isNon_non : isNon .non = true := rfl
@[simp] theorem isNon_bl {x} : isNon (.bl x) = false := rfl
@[simp] theorem isNon_int {x} : isNon (.int x) = false := rfl
@[simp] theorem isNon_str {x} : isNon (.str x) = false := rfl
@[simp] theorem isNon_lst {x} : isNon (.lst x) = false := rfl
@[simp] theorem isNon_tup {x} : isNon (.tup x) = false := rfl
@[simp] theorem isNon_dic {x} : isNon (.dic x) = false := rfl
@[simp] theorem isNon_ref {x} : isNon (.ref x) = false := rfl
theorem isNon_ok {F : Hp} {v : V} {d : D} (r : R F v d) : decide (v = .non) = isNon d := by cases r <;> first | rfl | (exact decide_eq_false (fun z => by cases z)) | (exact decide_eq_true rfl)
@[simp] def aIsN (aa : ATE) : ATE := fun sl M Q => aa sl M fun d M1 => Q (.bl (isNon d)) M1
@[simp] def aNotN (aa : ATE) : ATE := fun sl M Q => aa sl M fun d M1 => Q (.bl (!isNon d)) M1
theorem de_isN {j : Nat} {p : Pos} (ha : DE b X e1 ta aa) : DE b X (.Compare e1 [.Is] [.Constant .none j p] pos) (tIsN ta) (aIsN aa) := ⟨pe_cmp (pc_isN ha.pe), fun Z σ H M sl Q Qa rp e q k =>
  ha.sim Z σ H M sl _ _ rp e q fun v d H1 M1 r1 e1 h1 q1 => by rw [isNon_ok h1]; exact k _ _ H1 M1 r1 e1 (.bl _) q1⟩
theorem de_notN {j : Nat} {p : Pos} (ha : DE b X e1 ta aa) : DE b X (.Compare e1 [.IsNot] [.Constant .none j p] pos) (tNotN ta) (aNotN aa) := ⟨pe_cmp (pc_notN ha.pe), fun Z σ H M sl Q Qa rp e q k =>
  ha.sim Z σ H M sl _ _ rp e q fun v d H1 M1 r1 e1 h1 q1 => by rw [isNon_ok h1]; exact k _ _ H1 M1 r1 e1 (.bl _) q1⟩
end

/-! ### == and != of data -/
mutual
def toPy : D → PyData
  | .non => .none
  | .bl x => .bool x
  | .int i => .int i
  | .str x => .str x
  | .lst xs => .list (toPys xs)
  | .tup xs => .tuple (toPys xs)
  | .dic _ => .none
  | .ref _ => .none
def toPys : List D → List PyData
  | [] => []
  | x :: r => toPy x :: toPys r
end
mutual
/-- data that == may compare: no dicts, no things by reference, n deep at most -/
def okD : Nat → D → Bool
  | _, .non => true
  | _, .bl _ => true
  | _, .int _ => true
  | _, .str x => PyData.strOk x
  | n, .lst xs => decide (0 < n) && okDs (n - 1) xs
  | n, .tup xs => decide (0 < n) && okDs (n - 1) xs
  | _, .dic _ => false
  | _, .ref _ => false
def okDs : Nat → List D → Bool
  | _, [] => true
  | n, x :: r => okD n x && okDs n r
end
mutual
def eqD : D → D → Bool
  | .non, .non => true
  | .bl x, .bl y => x == y
  | .bl x, .int j => (if x then 1 else 0) == j
  | .int i, .bl y => i == (if y then 1 else 0)
  | .int i, .int j => decide (i = j)
  | .str x, .str y => decide (x = y)
  | .lst xs, .lst ys => eqDs xs ys
  | .tup xs, .tup ys => eqDs xs ys
  | _, _ => false
def eqDs : List D → List D → Bool
  | [], [] => true
  | x :: xs, y :: ys => eqD x y && eqDs xs ys
  | _, _ => false
end
theorem bsplit {x y : Bool} (h : (x && y) = true) : x = true ∧ y = true := by cases x <;> cases y <;> simp_all
mutual
theorem okD_lay : ∀ (n : Nat) (d : D), okD n d = true → (toPy d).canLay0 = true ∧ (toPy d).depth ≤ n
  | _, .non, _ => ⟨by simp [toPy, PyData.canLay0], by simp [toPy, PyData.depth]⟩
  | _, .bl _, _ => ⟨by simp [toPy, PyData.canLay0], by simp [toPy, PyData.depth]⟩
  | _, .int _, _ => ⟨by simp [toPy, PyData.canLay0], by simp [toPy, PyData.depth]⟩
  | _, .str x, h => ⟨by simpa [toPy, PyData.canLay0, okD] using h, by simp [toPy, PyData.depth]⟩
  | n, .lst xs, h => by
    have h' := bsplit (by simpa only [okD] using h)
    obtain ⟨h1, h2⟩ := okDs_lay (n - 1) xs h'.2
    have h0 := of_decide_eq_true h'.1
    exact ⟨by simpa [toPy, PyData.canLay0] using h1, by simp only [toPy, PyData.depth]; omega⟩
  | n, .tup xs, h => by
    have h' := bsplit (by simpa only [okD] using h)
    obtain ⟨h1, h2⟩ := okDs_lay (n - 1) xs h'.2
    have h0 := of_decide_eq_true h'.1
    exact ⟨by simpa [toPy, PyData.canLay0] using h1, by simp only [toPy, PyData.depth]; omega⟩
  | _, .dic _, h => by simp [okD] at h
  | _, .ref _, h => by simp [okD] at h
theorem okDs_lay : ∀ (n : Nat) (ds : List D), okDs n ds = true → PyData.canLayAll0 (toPys ds) = true ∧ PyData.depthAll (toPys ds) ≤ n
  | _, [], _ => ⟨by simp [toPys, PyData.canLayAll0], by simp [toPys, PyData.depthAll]⟩
  | n, x :: r, h => by
    have h' := bsplit (by simpa only [okDs] using h)
    obtain ⟨h1, h2⟩ := okD_lay n x h'.1
    obtain ⟨h3, h4⟩ := okDs_lay n r h'.2
    exact ⟨by simp [toPys, PyData.canLayAll0, h1, h3], by simp only [toPys, PyData.depthAll]; omega⟩
end
theorem okD_shaped {n : Nat} {d : D} (hn : n ≤ 64) (h : okD n d = true) : SeqAt.shaped (toPy d) = true := by
  obtain ⟨h1, h2⟩ := okD_lay n d h
  unfold SeqAt.shaped
  rw [h1, Bool.true_and]
  exact decide_eq_true (by omega)
mutual
theorem eqD_py : ∀ (n m : Nat) (d e : D), okD n d = true → okD m e = true → PyData.eqv (toPy d) (toPy e) = eqD d e
  | n, m, .lst xs, .lst ys, h, h' => by
    have g := bsplit (by simpa only [okD] using h)
    have g' := bsplit (by simpa only [okD] using h')
    simp only [toPy, PyData.eqv, eqD]
    exact eqDs_py _ _ xs ys g.2 g'.2
  | n, m, .tup xs, .tup ys, h, h' => by
    have g := bsplit (by simpa only [okD] using h)
    have g' := bsplit (by simpa only [okD] using h')
    simp only [toPy, PyData.eqv, eqD]
    exact eqDs_py _ _ xs ys g.2 g'.2
  | n, m, .int i, .int j, _, _ => by simp only [toPy, PyData.eqv, eqD]; by_cases e : i = j <;> simp [e]
  | n, m, .str i, .str j, _, _ => by simp only [toPy, PyData.eqv, eqD]; by_cases e : i = j <;> simp [e]
  | n, m, .non, e, h, h' => by cases e <;> first | (simp only [toPy, PyData.eqv, eqD]; done) | (simp [okD] at h'; done)
  | n, m, .bl x, e, h, h' => by cases e <;> first | (simp only [toPy, PyData.eqv, eqD]; done) | (simp [okD] at h'; done)
  | n, m, .int x, .bl _, h, h' => by simp only [toPy, PyData.eqv, eqD]
  | n, m, .int x, .non, h, h' => by simp only [toPy, PyData.eqv, eqD]
  | n, m, .int x, .str _, h, h' => by simp only [toPy, PyData.eqv, eqD]
  | n, m, .int x, .lst _, h, h' => by simp only [toPy, PyData.eqv, eqD]
  | n, m, .int x, .tup _, h, h' => by simp only [toPy, PyData.eqv, eqD]
  | n, m, .int x, .dic _, h, h' => by simp [okD] at h'
  | n, m, .int x, .ref _, h, h' => by simp [okD] at h'
  | n, m, .str x, .bl _, h, h' => by simp only [toPy, PyData.eqv, eqD]
  | n, m, .str x, .non, h, h' => by simp only [toPy, PyData.eqv, eqD]
  | n, m, .str x, .int _, h, h' => by simp only [toPy, PyData.eqv, eqD]
  | n, m, .str x, .lst _, h, h' => by simp only [toPy, PyData.eqv, eqD]
  | n, m, .str x, .tup _, h, h' => by simp only [toPy, PyData.eqv, eqD]
  | n, m, .str x, .dic _, h, h' => by simp [okD] at h'
  | n, m, .str x, .ref _, h, h' => by simp [okD] at h'
  | n, m, .lst x, .bl _, h, h' => by simp only [toPy, PyData.eqv, eqD]
  | n, m, .lst x, .non, h, h' => by simp only [toPy, PyData.eqv, eqD]
  | n, m, .lst x, .int _, h, h' => by simp only [toPy, PyData.eqv, eqD]
  | n, m, .lst x, .str _, h, h' => by simp only [toPy, PyData.eqv, eqD]
  | n, m, .lst x, .tup _, h, h' => by simp only [toPy, PyData.eqv, eqD]
  | n, m, .lst x, .dic _, h, h' => by simp [okD] at h'
  | n, m, .lst x, .ref _, h, h' => by simp [okD] at h'
  | n, m, .tup x, .bl _, h, h' => by simp only [toPy, PyData.eqv, eqD]
  | n, m, .tup x, .non, h, h' => by simp only [toPy, PyData.eqv, eqD]
  | n, m, .tup x, .int _, h, h' => by simp only [toPy, PyData.eqv, eqD]
  | n, m, .tup x, .str _, h, h' => by simp only [toPy, PyData.eqv, eqD]
  | n, m, .tup x, .lst _, h, h' => by simp only [toPy, PyData.eqv, eqD]
  | n, m, .tup x, .dic _, h, h' => by simp [okD] at h'
  | n, m, .tup x, .ref _, h, h' => by simp [okD] at h'
  | n, m, .dic _, _, h, _ => by simp [okD] at h
  | n, m, .ref _, _, h, _ => by simp [okD] at h
theorem eqDs_py : ∀ (n m : Nat) (ds es : List D), okDs n ds = true → okDs m es = true → PyData.eqvAll (toPys ds) (toPys es) = eqDs ds es
  | _, _, [], [], _, _ => by simp only [toPys, PyData.eqvAll, eqDs]
  | _, _, [], _ :: _, _, _ => by simp only [toPys, PyData.eqvAll, eqDs]
  | _, _, _ :: _, [], _, _ => by simp only [toPys, PyData.eqvAll, eqDs]
  | n, m, x :: xs, y :: ys, h, h' => by
    have g := bsplit (by simpa only [okDs] using h)
    have g' := bsplit (by simpa only [okDs] using h')
    simp only [toPys, PyData.eqvAll, eqDs]
    rw [eqD_py n m x y g.1 g'.1, eqDs_py n m xs ys g.2 g'.2]
end
mutual
theorem R.dp {K : PySem.W.Frag} {Z : Hid} {H : Hp} {M : Store} : ∀ {v : V} {d : D} (n : Nat), R (mkH Z H M) v d → okD n d = true → Dp K H v (toPy d)
  | _, _, _, .non, _ => by rw [toPy]; exact .non
  | _, _, _, .bl x, _ => by rw [toPy]; exact .bl x
  | _, _, _, .int x, _ => by rw [toPy]; exact .int x
  | _, _, _, .str x, _ => by rw [toPy]; exact .str x
  | _, _, n, .lst h _ r, o => by
    rw [toPy]
    exact .lst (.of (mk_iff.mp h).2) (Rs.dp (n - 1) r (bsplit (by simpa only [okD] using o)).2)
  | _, _, n, .tup h _ r, o => by
    rw [toPy]
    exact .tup (.inl (rd_mk h)) (Rs.dp (n - 1) r (bsplit (by simpa only [okD] using o)).2)
  | _, _, _, .dic _ _ _, o => by simp [okD] at o
  | _, _, _, .ref _, o => by simp [okD] at o
theorem Rs.dp {K : PySem.W.Frag} {Z : Hid} {H : Hp} {M : Store} : ∀ {vs : List V} {ds : List D} (n : Nat), Rs (mkH Z H M) vs ds → okDs n ds = true → DpAll K H vs (toPys ds)
  | _, _, _, .nil, _ => by rw [toPys]; exact .nil
  | _, _, n, .cons h r, o => by
    have g := bsplit (by simpa only [okDs] using o)
    rw [toPys]
    exact .cons (R.dp n h g.1) (Rs.dp n r g.2)
end
/-- a list of the store, looked through at the top -/
def derefD (M : Store) : D → D
  | .ref a => match cellL (M a) with | some ds => .lst ds | none => .ref a
  | d => d
@[simp] theorem derefD_non {M : Store} : derefD M .non = .non := rfl
@[simp] theorem derefD_bl {M : Store} {x : Bool} : derefD M (.bl x) = .bl x := rfl
@[simp] theorem derefD_int {M : Store} {x : Int} : derefD M (.int x) = .int x := rfl
@[simp] theorem derefD_str {M : Store} {x : Str} : derefD M (.str x) = .str x := rfl
@[simp] theorem derefD_lst {M : Store} {x : List D} : derefD M (.lst x) = .lst x := rfl
@[simp] theorem derefD_tup {M : Store} {x : List D} : derefD M (.tup x) = .tup x := rfl
@[simp] theorem derefD_dic {M : Store} {x : List (Key × D)} : derefD M (.dic x) = .dic x := rfl
theorem derefD_ref {M : Store} {a : Addr} {ds : List D} (h : M a = some (.lst ds)) : derefD M (.ref a) = .lst ds := by
  have : cellL (M a) = some ds := by rw [h]; rfl
  show (match cellL (M a) with | some ds => D.lst ds | none => D.ref a) = _
  rw [this]
section
variable {b : BC} {X : Cx} {pos : Pos} {e e1 e2 e3 : Expr} {ta tb tc : TE} {aa ab ac : ATE}
theorem deref_dp {K : PySem.W.Frag} {T : List (Addr × Str)} {Z : Hid} {H : Hp} {M : Store} {v : V} {d : D} (rh : RH K T Z H M) (r : R (mkH Z H M) v d) {n : Nat} (o : okD n (derefD M d) = true) : Dp K H v (toPy (derefD M d)) := by
  cases d with
  | ref a =>
    cases r
    cases z : cellL (M a) with
    | none =>
      have : derefD M (.ref a) = .ref a := by unfold derefD; simp only [z]
      rw [this] at o; simp [okD] at o
    | some ds =>
      have : derefD M (.ref a) = .lst ds := by unfold derefD; simp only [z]
      rw [this] at o ⊢
      obtain ⟨a', vs, h1, h2, h3, h4⟩ := seqL_ok rh (R.ref a) (show seqL M (.ref a) = some ds from z)
      cases h1
      rw [toPy]
      exact .lst (.of h2) (Rs.dp (n - 1) h3 (bsplit (by simpa only [okD] using o)).2)
  | _ => exact r.dp n o
@[simp] def eqA (neg : Bool) : R2A := fun d e M Q => okD 60 (derefD M d) = true ∧ okD 60 (derefD M e) = true ∧ Q (.bl (if neg then !eqD (derefD M d) (derefD M e) else eqD (derefD M d) (derefD M e))) M
theorem os_eq {K : PySem.W.Frag} : OpSim b K (rEqD K) (eqA false) := by
  intro Z H M x y d e Q Qa rh hx hy ⟨o1, o2, q⟩ k
  refine ⟨_, _, deref_dp rh hx o1, deref_dp rh hy o2, okD_shaped (by decide) o1, okD_shaped (by decide) o2, ?_⟩
  rw [eqD_py 60 60 _ _ o1 o2]
  exact k _ _ H M rh (Ext.refl H M) (.bl _) q
theorem os_ne {K : PySem.W.Frag} : OpSim b K (rNeD K) (eqA true) := by
  intro Z H M x y d e Q Qa rh hx hy ⟨o1, o2, q⟩ k
  refine ⟨_, _, deref_dp rh hx o1, deref_dp rh hy o2, okD_shaped (by decide) o1, okD_shaped (by decide) o2, ?_⟩
  rw [eqD_py 60 60 _ _ o1 o2]
  exact k _ _ H M rh (Ext.refl H M) (.bl _) q
theorem de_eq {k : Nat} (hr : Room k X.A) (ha : DE b X e1 ta aa) (hb : DE b X e2 tb ab) : DE b X (.Compare e1 [.Eq] [e2] pos) (tOp (rEqD X.K) ta tb) (aOp (eqA false) aa ab) := ⟨pe_cmpR (op_eqD hr.units) ha.pe hb.pe (nomark _), sim_op os_eq ha.sim hb.sim⟩
theorem de_ne {k : Nat} (hr : Room k X.A) (ha : DE b X e1 ta aa) (hb : DE b X e2 tb ab) : DE b X (.Compare e1 [.NotEq] [e2] pos) (tOp (rNeD X.K) ta tb) (aOp (eqA true) aa ab) := ⟨pe_cmpR (op_neD hr.units) ha.pe hb.pe (nomark _), sim_op os_ne ha.sim hb.sim⟩
end
end AL
set_option Elab.async false
set_option linter.all false
set_option maxRecDepth 100000
set_option maxHeartbeats 4000000
set_option autoImplicit false
/-! ALI: enumerate and zip over lists, tuples, texts in any mix, as walked things of the hand layer. -/
namespace AL
open PySem PySem.Spec PyProof.Rows L2

/-- what is walked: a list, a tuple at an address, a text -/
inductive Sc | seq (a : Addr) (isT : Bool) | txt (x : Str)
def ScAt (K : PySem.W.Frag) (H : Hp) : Sc → List V → Prop
  | .seq a false, xs => SqL K H a xs
  | .seq a true, xs => SqT K H a xs
  | .txt x, xs => xs = x.cps.toList.map fun c => V.str ⟨#[c]⟩
def ScVal : Sc → Value → Prop
  | .seq a _, v => v = .ref a
  | .txt x, v => ∃ t, v = .str x t
/-- its iterator's object at i, behind n turns -/
def ScIt (h : Heap) (i : Addr) (n : Nat) : Sc → Prop
  | .seq a false => h.IsListIter i a n
  | .seq a true => h.IsTupleIter i a n
  | .txt x => ∃ t, h.IsStrIter i (strIterType x) x t n
theorem ScIt.obj {h : Heap} {i : Addr} {n : Nat} {sc : Sc} (x : ScIt h i n sc) : ∃ o, h.get? i = some o ∧ (∀ v, o.data ≠ .cell v) ∧ (∀ vs m, o.data ≠ .seq vs m) := by
  cases sc with
  | seq a t =>
    cases t
    · obtain ⟨o, h1, _, h2⟩ := x; exact ⟨o, h1, (fun v q => by rw [h2] at q; cases q), (fun v m q => by rw [h2] at q; cases q)⟩
    · obtain ⟨o, h1, _, h2⟩ := x; exact ⟨o, h1, (fun v q => by rw [h2] at q; cases q), (fun v m q => by rw [h2] at q; cases q)⟩
  | txt y => obtain ⟨t, o, h1, _, h2⟩ := x; exact ⟨o, h1, (fun v q => by rw [h2] at q; cases q), (fun v m q => by rw [h2] at q; cases q)⟩
theorem ScIt.at {h h' : Heap} {i : Addr} {n : Nat} {sc : Sc} (x : ScIt h i n sc) (k : ∀ o, h.get? i = some o → h'.get? i = some o) : ScIt h' i n sc := by
  cases sc with
  | seq a t =>
    cases t
    · obtain ⟨o, h1, h2⟩ := x; exact ⟨o, k o h1, h2⟩
    · obtain ⟨o, h1, h2⟩ := x; exact ⟨o, k o h1, h2⟩
  | txt y => obtain ⟨t, o, h1, h2⟩ := x; exact ⟨t, o, k o h1, h2⟩
/-- the source's own objects: each a sequence -/
def Src (h : Heap) (l : List Addr) : Prop := ∀ b ∈ l, ∃ o vs m, h.get? b = some o ∧ o.data = .seq vs m
theorem src_ne {h : Heap} {l : List Addr} (s : Src h l) {b : Addr} {o : Obj} (e : h.get? b = some o) (n : ∀ vs m, o.data ≠ .seq vs m) : b ∉ l := fun z => by
  obtain ⟨o', vs, m, e', d⟩ := s b z
  rw [e] at e'; cases e'
  exact n _ _ d
/-- draws from a source that stands -/
structure DrawnAt (P : Program) (w : World) (A : Around) (h : Heap) (i : Addr) (n : Nat) (sc : Sc) (xs : List V) (src : List Addr) (Pp : Nat → Value → Prop) (St : Nat → Heap → Prop) : Prop where
  d : Draws P w A i (i :: src) xs.length Pp St
  now : St n h
  out : ∀ j v, Pp j v → ∃ x, xs[j]? = some x ∧ RelV x v
  it : ∀ j h', St j h' → ScIt h' i j sc
  src : Src h src
theorem drawn_at {X : Cx} {pins : List (Addr × Obj)} {σ : L2.St} {H : Hp} {s : Shared} {A : Around} {i : Addr} {n : Nat} {sc : Sc} {xs : List V} (I : Inv X pins σ H s) (hh : A.handled = none) (hs : ScAt X.K H sc xs) (hi : ScIt s.heap i n sc) :
    ∃ src Pp St, DrawnAt X.prog X.w A s.heap i n sc xs src Pp St := by
  obtain ⟨oi, ei, _, nseq⟩ := hi.obj
  cases sc with
  | seq a t =>
    cases t
    · obtain ⟨its, rv, p, hz⟩ := I.list hs
      obtain ⟨o, m, e, _, _, d⟩ := id p
      have ne : a ≠ i := fun z => by rw [z, ei] at e; cases e; exact nseq _ _ d
      have hsz : its.toArray.size = xs.length := by rw [List.size_toArray, rv.length]
      refine ⟨[a], _, _, ⟨hsz ▸ Draws.list hh i a ne its.toArray, ⟨hi, p.isList⟩, fun j v q => ?_, fun j h' q => q.1, fun b hb => ?_⟩⟩
      · have q' : its[j]? = some v := by simpa using q
        have hj : j < xs.length := by rw [rv.length]; exact (List.getElem?_eq_some_iff.mp q').1
        obtain ⟨u, h1, h2⟩ := rv.get (List.getElem?_eq_getElem hj)
        rw [q'] at h1; cases h1
        exact ⟨_, List.getElem?_eq_getElem hj, h2⟩
      · have : b = a := by simpa using hb
        rw [this]; exact ⟨o, _, m, e, d⟩
    · obtain ⟨its, rv, p, hz⟩ := I.tuple hs
      obtain ⟨o, e, c, m, d⟩ := id p
      have ne : a ≠ i := fun z => by rw [z, ei] at e; cases e; exact nseq _ _ d
      have hsz : its.toArray.size = xs.length := by rw [List.size_toArray, rv.length]
      refine ⟨[a], _, _, ⟨hsz ▸ Draws.tuple hh i a ne its.toArray, ⟨hi, p⟩, fun j v q => ?_, fun j h' q => q.1, fun b hb => ?_⟩⟩
      · have q' : its[j]? = some v := by simpa using q
        have hj : j < xs.length := by rw [rv.length]; exact (List.getElem?_eq_some_iff.mp q').1
        obtain ⟨u, h1, h2⟩ := rv.get (List.getElem?_eq_getElem hj)
        rw [q'] at h1; cases h1
        exact ⟨_, List.getElem?_eq_getElem hj, h2⟩
      · have : b = a := by simpa using hb
        rw [this]; exact ⟨o, _, m, e, d⟩
  | txt x =>
    obtain ⟨t, hi⟩ := hi
    have hl : x.cps.size = xs.length := by rw [show xs = _ from hs]; simp
    refine ⟨[], _, _, ⟨hl ▸ Draws.text hh i x t, hi, fun j v q => ?_, fun j h' q => ⟨t, q⟩, fun b hb => by cases hb⟩⟩
    obtain ⟨c, u, h1, rfl⟩ := q
    refine ⟨.str ⟨#[c]⟩, ?_, ⟨u, rfl⟩⟩
    rw [show xs = _ from hs, List.getElem?_map]
    have : x.cps.toList[j]? = some c := by simpa using h1
    rw [this]; rfl
/-- the items of a source are one list alone -/
theorem ScAt.inj {X : Cx} {pins : List (Addr × Obj)} {σ : L2.St} {H : Hp} {s : Shared} {sc : Sc} {xs ys : List V} (I : Inv X pins σ H s) (h : ScAt X.K H sc xs) (h' : ScAt X.K H sc ys) : xs = ys := by
  cases sc with
  | seq a t => cases t; exact I.list_inj h h'; exact I.tuple_inj h h'
  | txt x => exact (show xs = _ from h).trans (show ys = _ from h').symm

/-! ### enumerate -/
def ItE (K : PySem.W.Frag) (sc : Sc) : It :=
  ⟨fun i H => ∃ xs, ScAt K H sc xs ∧ i < xs.length, fun i H v H' => ∃ T x, v = .ref T ∧ H T = none ∧ H' = upd H T (.tup [.int (i : Nat), x]) ∧ ∀ xs, ScAt K H sc xs → xs[i]? = some x, fun i H => ∃ xs, ScAt K H sc xs ∧ xs.length = i⟩
theorem turn_enumE {P : Program} {w : World} {K : PySem.W.Frag} {elts : List Expr} {kk : Nat} {tpos : Pos} (sc : Sc) (e it : Addr) :
    Turn P w K (.Tuple elts kk tpos) (ItE K sc) [e, it] e (fun i h => (∃ old, IsEnum h e it ((i : Nat) : Int) old) ∧ ScIt h it i sc ∧ e ≠ it) where
  mem := by simp
  obj := fun i h st b hb => by
    obtain ⟨⟨old, he⟩, hi, _⟩ := st
    have e' : b = e ∨ b = it := by simpa using hb
    rcases e' with z | z
    · rw [z]; exact ⟨_, he, fun v q => nomatch q⟩
    · rw [z]; obtain ⟨o, h1, h2, _⟩ := hi.obj; exact ⟨o, h1, h2⟩
  keep := fun i h h' st k => let ⟨⟨old, he⟩, hi, hne⟩ := st; ⟨⟨old, k e (by simp) _ he⟩, hi.at fun o q => k it (by simp) o q, hne⟩
  item := by
    intro X hP hw hK hc i pins s σ H E I hf st hg
    subst hP hw hK
    obtain ⟨⟨old, he⟩, hit, hne⟩ := st
    obtain ⟨xs, hq, hx⟩ := hg
    obtain ⟨src, Pp, St, Dr⟩ := drawn_at (A := X.A.in1) I (I.ok.hd hc) hq hit
    have hel : e < s.heap.objs.size := Heap.lt_size he
    have hil : it < s.heap.objs.size := by obtain ⟨o, q, _⟩ := hit.obj; exact Heap.lt_size q
    have hef : e ∉ it :: src := fun z => by
      rcases List.mem_cons.mp z with z | z
      · exact hne z
      · exact src_ne Dr.src he (fun vs m q => by cases q) z
    refine wpAny_pyNext_enum_itemC Dr.d he Dr.now hx hne hef fun v h' tk hP ho hs' hT hsz hk => ?_
    obtain ⟨x, hxs, rx⟩ := Dr.out _ _ hP
    refine ⟨_, rfl, wpAny_letOwnedTupleGo_enum (s := { s with heap := h', toks := tk + 1 }) ho fun h'' he' sb => ?_⟩
    have hT2 : h''.get? s.heap.objs.size = some { cls := .type "tuple", data := .seq #[.int i tk, v] } := (sb.2 _ (Nat.ne_of_gt hel)).trans hT
    have new : ObjOk X.prog X.w (upd H s.heap.objs.size (.tup [.int (i : Nat), x])) h'' s.heap.objs.size (.tup [.int (i : Nat), x]) :=
      ⟨by show 2 ≤ sizeLine; decide, [.int i tk, v], .cons ⟨_, rfl⟩ (.cons rx .nil), ⟨_, hT2, rfl, _, rfl⟩⟩
    have I1 : Inv X pins σ (upd H s.heap.objs.size (.tup [.int (i : Nat), x])) { s with heap := h'', toks := tk + 1 } :=
      I.turnedNew (ch := [e, it]) (fun b ob hb q => (sb.2 b (fun z => hb (by simp [z]))).trans (hk b ob (fun z => hb (by simp [z])) (fun z => hb (by simp [z])) q)) hf (Nat.le_refl _) new
    refine ⟨.ref s.heap.objs.size, _, I1, rfl, ⟨_, x, rfl, I.hok.fresh (Nat.le_refl _), rfl, fun ys hy => by rw [hy.inj I hq]; exact hxs⟩, ⟨⟨v, ?_⟩, (Dr.it _ _ hs').at fun o q => (sb.2 it (Ne.symm hne)).trans q, hne⟩, fun b hb => ?_⟩
    · have e1 : ((i + 1 : Nat) : Int) = (i : Int) + 1 := by omega
      rw [e1]; exact he'
    · have hb' : b < s.heap.objs.size := by
        have e' : b = e ∨ b = it := by simpa using hb
        rcases e' with z | z
        · rw [z]; exact hel
        · rw [z]; exact hil
      rw [upd_ne (Nat.ne_of_lt hb')]
      exact (hf b hb).1
  done := by
    intro X hP hw hK hc i pins s σ H E I hf st hg
    subst hP hw hK
    obtain ⟨⟨old, he⟩, hit, hne⟩ := st
    obtain ⟨xs, hq, hx⟩ := hg
    subst hx
    obtain ⟨src, Pp, St, Dr⟩ := drawn_at (A := X.A.in1) I (I.ok.hd hc) hq hit
    obtain ⟨f0, f1, f2, f3, f4, f5⟩ := hf it (by simp)
    exact wpAny_pyNext_enum_endD Dr.d he Dr.now fun h' eb => ⟨rfl, I.turned (t' := s.toks) (fun b o hb q => eb b o hb q) f0 f1 f3 f4 f5⟩
  self := fun A i s Q E st h => let ⟨⟨_, he⟩, _⟩ := st; wpAny_pyIter_enum he h
theorem meets_enumerate_newT (l : Addr) (items : Array Value) :
    Meets (Builtin.«enumerate.__new__» ⟨[.type "enumerate", .ref l], []⟩) (fun _ R s => s.heap.IsTuple l items ∧
      R (.ok (.ret (.ref (s.heap.push { cls := .type "tuple_iterator", data := .fields #[.ref l, .int 0 0] }).objs.size)))
        { s with heap := (s.heap.push { cls := .type "tuple_iterator", data := .fields #[.ref l, .int 0 0] }).push { cls := .type "enumerate", data := .fields #[.none, .bool false, .ref s.heap.objs.size, rawInt 0, .none, .none] } }) :=
  .of_wp fun prog w A R s h => by
    obtain ⟨hp, g, d, tk, os⟩ := s; obtain ⟨hL, h⟩ := h
    have hsub := sub_enumerate
    obtain ⟨o, hl, _⟩ := id hL
    wp_walk using wpAny_loadPart' hl
    refine wpAny_stack_any fun st => wpAny_pure ?_
    split
    · rename_i c _ _ _ _ _
      cases (c == Value.type "enumerate")
      · wp_walk using wpAny_loadPart' hl, wpAny_pyIter_tuple hL
        exact ⟨_, rfl, h⟩
      · wp_walk using wpAny_loadPart' hl, wpAny_pyIter_tuple hL
        exact ⟨_, rfl, h⟩
    · wp_walk using wpAny_loadPart' hl, wpAny_pyIter_tuple hL
      exact ⟨_, rfl, h⟩
theorem call_enumerate_tuple {prog : Program} {w : World} {A : Around} {E : Value → Shared → Prop} {s : Shared} {l : Addr} {items : Array Value} {Q : Value → Shared → Prop} (hL : s.heap.IsTuple l items)
    (h : ∀ h', IsEnum h' (s.heap.objs.size + 1) s.heap.objs.size 0 .none → h'.IsTupleIter s.heap.objs.size l 0 → h'.objs.size = s.heap.objs.size + 2 →
      (∀ b o, s.heap.get? b = some o → h'.get? b = some o) → Q (.ref (s.heap.objs.size + 1)) { s with heap := h' }) :
    wpAny (model prog w) A (call (.type "enumerate") [.ref l]) Q E s := by
  refine callType_new F.called_enumerate (by decide) (F.typeCall_enumerate_1 _) (F.newCall_enumerate_1 _) (fun obj => F.args_object_init_2 obj _) F.entry_enumerate_new
    (meets_enumerate_newT l items) ⟨hL, ?_⟩
  have hz : (s.heap.push { cls := .type "tuple_iterator", data := .fields #[.ref l, .int 0 0] }).objs.size = s.heap.objs.size + 1 := Heap.size_push ..
  show _ ∧ _
  rw [hz]
  have he : IsEnum ((s.heap.push { cls := .type "tuple_iterator", data := .fields #[.ref l, .int 0 0] }).push
      { cls := .type "enumerate", data := .fields #[.none, .bool false, .ref s.heap.objs.size, rawInt 0, .none, .none] }) (s.heap.objs.size + 1) s.heap.objs.size 0 .none := by
    have := Heap.get?_push_size (s.heap.push { cls := .type "tuple_iterator", data := .fields #[.ref l, .int 0 0] })
      (o := { cls := .type "enumerate", data := .fields #[.none, .bool false, .ref s.heap.objs.size, rawInt 0, .none, .none] }) rfl
    rw [hz] at this; exact this
  refine ⟨⟨_, he, rfl⟩, h _ he ⟨_, Heap.get?_push_of_some _ (Heap.get?_push_size _ rfl), rfl, rfl⟩ (by rw [Heap.size_push, hz]) fun b o x => Heap.get?_push_of_some _ (Heap.get?_push_of_some _ x)⟩
def iEnumE (K : PySem.W.Frag) (ta : TA) : TI := fun σ H R => ta σ H fun vs H1 => ∃ sc xs, ((∃ a t, sc = Sc.seq a t ∧ vs = [.ref a]) ∨ ∃ x, sc = .txt x ∧ vs = [.str x]) ∧ ScAt K H1 sc xs ∧ R (ItE K sc) H1
theorem pi_enumE {X : Cx} {e : Expr} {ta : TA} {p pos tpos : Pos} {elts : List Expr} {kk : Nat} (hg : Gl X "enumerate") (hm : X.mg "enumerate" = none) (ha : PA X [e] ta) (hs : starEach [e] X.env = [(false, eval e X.env)] := by rfl) :
    PI X (.Tuple elts kk tpos) (.Call (.Name "enumerate" p) [e] [] pos) (iEnumE X.K ta) := by
  refine ⟨fun pins s σ H R I h => ?_⟩
  refine Call_ (ld_blt I hg hm boot_enumerate (PyProof.Rows.callWith_type1 (thn (ha.run pos pins s σ H _ I h) fun us s1 ⟨vs, H1, I1, r1, q1⟩ => ?_) hs rfl))
  obtain ⟨sc, xs, ex, hq, q⟩ := q1
  have fin : ∀ {h' : Heap}, IsEnum h' (s1.heap.objs.size + 1) s1.heap.objs.size 0 .none → ScIt h' s1.heap.objs.size 0 sc → h'.objs.size = s1.heap.objs.size + 2 → (∀ b o, s1.heap.get? b = some o → h'.get? b = some o) →
      PIE X pins σ (.Tuple elts kk tpos) R (.ref (s1.heap.objs.size + 1)) { s1 with heap := h' } := fun {h'} he hit hsz hk => by
    have I2 : Inv X pins σ H1 { s1 with heap := h' } := I1.kept (t' := s1.toks) hk
    refine ⟨s1.heap.objs.size + 1, [s1.heap.objs.size + 1, s1.heap.objs.size], _, _, H1, rfl, I2, turn_enumE sc (s1.heap.objs.size + 1) s1.heap.objs.size, ⟨⟨.none, he⟩, hit, Nat.succ_ne_self _⟩, fun b hb => ?_, q⟩
    have e' : b = s1.heap.objs.size + 1 ∨ b = s1.heap.objs.size := by simpa using hb
    have hle : s1.heap.objs.size ≤ b := by
      rcases e' with z | z
      · rw [z]; exact Nat.le_add_right _ _
      · rw [z]; exact Nat.le_refl _
    exact I1.fpOk hle (I1.hok.fresh hle)
  rcases ex with ⟨a, t, rfl, ex⟩ | ⟨x, rfl, ex⟩
  · subst ex
    cases r1 with
    | cons r rr =>
      cases rr
      cases r
      cases t
      · obtain ⟨its, rv, p', hz⟩ := I1.list hq
        exact call_enumerate_list p'.isList fun h' he hit hsz hk => wpAny_pyIter_enum he (fin he hit hsz hk)
      · obtain ⟨its, rv, p', hz⟩ := I1.tuple hq
        exact call_enumerate_tuple p' fun h' he hit hsz hk => wpAny_pyIter_enum he (fin he hit hsz hk)
  · subst ex
    cases r1 with
    | cons r rr =>
      cases rr
      obtain ⟨t, rfl⟩ := r
      exact call_enumerate_str fun h' he hit hsz hk => wpAny_pyIter_enum he (fin he ⟨t, hit⟩ hsz hk)

/-! ### zip -/
def ItZ (K : PySem.W.Frag) (sc sd : Sc) : It :=
  ⟨fun i H => ∃ xs ys, ScAt K H sc xs ∧ ScAt K H sd ys ∧ i < xs.length ∧ i < ys.length,
    fun i H v H' => ∃ T x y, v = .ref T ∧ H T = none ∧ H' = upd H T (.tup [x, y]) ∧ (∀ xs, ScAt K H sc xs → xs[i]? = some x) ∧ ∀ ys, ScAt K H sd ys → ys[i]? = some y,
    fun i H => ∃ xs ys, ScAt K H sc xs ∧ ScAt K H sd ys ∧ i ≤ xs.length ∧ i ≤ ys.length ∧ (i = xs.length ∨ i = ys.length)⟩
structure Apart5 (z TI TO i1 i2 : Addr) : Prop where
  TIz : TI ≠ z
  TOz : TO ≠ z
  TITO : TI ≠ TO
  TIi1 : TI ≠ i1
  TIi2 : TI ≠ i2
  TOi1 : TO ≠ i1
  TOi2 : TO ≠ i2
  i1z : i1 ≠ z
  i2z : i2 ≠ z
  i12 : i1 ≠ i2
theorem zip_sep {h : Heap} {z TI TO i1 i2 : Addr} {l1 l2 : List Addr} (D : Apart5 z TI TO i1 i2) (s1 : Src h l1) (s2 : Src h l2) (hz : ∃ o, h.get? z = some o ∧ ∀ vs m, o.data ≠ .seq vs m) (hi1 : ∃ o, h.get? i1 = some o ∧ ∀ vs m, o.data ≠ .seq vs m) (hi2 : ∃ o, h.get? i2 = some o ∧ ∀ vs m, o.data ≠ .seq vs m) (hT1 : TO ∉ l1) (hT2 : TO ∉ l2) :
    ZipSep2 z TI TO i1 i2 (i1 :: l1) (i2 :: l2) := by
  obtain ⟨oz, ez, nz⟩ := hz
  obtain ⟨o1, e1, n1⟩ := hi1
  obtain ⟨o2, e2, n2⟩ := hi2
  have nm : ∀ {a b : Addr} {l : List Addr}, a ≠ b → a ∉ l → a ∉ b :: l := fun x y z => (List.mem_cons.mp z).elim x y
  exact { TIz := D.TIz, TOz := D.TOz, TITO := D.TITO, TIi1 := D.TIi1, mem1 := List.mem_cons_self, zf1 := nm (Ne.symm D.i1z) (src_ne s1 ez nz), Tf1 := nm D.TOi1 hT1, TIi2 := D.TIi2, mem2 := List.mem_cons_self, zf2 := nm (Ne.symm D.i2z) (src_ne s2 ez nz), Tf2 := nm D.TOi2 hT2, sep1_2 := nm D.i12 (src_ne s2 e1 n1), sep2_1 := nm (Ne.symm D.i12) (src_ne s1 e2 n2) }
/-- the source's tuple is no object of the zip's own -/
theorem drawn_out {X : Cx} {pins : List (Addr × Obj)} {σ : L2.St} {H : Hp} {s : Shared} {A : Around} {i : Addr} {n : Nat} {sc : Sc} {xs : List V} (I : Inv X pins σ H s) (hh : A.handled = none) (hs : ScAt X.K H sc xs) (hi : ScIt s.heap i n sc) :
    ∃ src Pp St, DrawnAt X.prog X.w A s.heap i n sc xs src Pp St ∧ ∀ T, FpOk X pins H T → T ∉ src := by
  obtain ⟨src, Pp, St, D⟩ := drawn_at (A := A) I hh hs hi
  obtain ⟨oi, ei, _, nseq⟩ := hi.obj
  cases sc with
  | seq a t =>
    cases t
    · obtain ⟨its, rv, p, hz⟩ := I.list hs
      obtain ⟨o, m, e, _, _, d⟩ := id p
      have ne : a ≠ i := fun z => by rw [z, ei] at e; cases e; exact nseq _ _ d
      have hsz : its.toArray.size = xs.length := by rw [List.size_toArray, rv.length]
      refine ⟨[a], _, _, ⟨hsz ▸ Draws.list hh i a ne its.toArray, ⟨hi, p.isList⟩, fun j v q => ?_, fun j h' q => q.1, fun b hb => ?_⟩, fun T f hT => ?_⟩
      · have q' : its[j]? = some v := by simpa using q
        have hj : j < xs.length := by rw [rv.length]; exact (List.getElem?_eq_some_iff.mp q').1
        obtain ⟨u, h1, h2⟩ := rv.get (List.getElem?_eq_getElem hj)
        rw [q'] at h1; cases h1
        exact ⟨_, List.getElem?_eq_getElem hj, h2⟩
      · have : b = a := by simpa using hb
        rw [this]; exact ⟨o, _, m, e, d⟩
      · have hT : T = a := by simpa using hT
        subst hT
        rcases hs with (hs | ⟨_, hs⟩) | ⟨ok, _, _, hk, _⟩
        · rw [f.1] at hs; cases hs
        · rw [f.1] at hs; cases hs
        · have z := I.ok.mod.kin _ _ hk
          rcases f.2.2.2.1 with hx | hx
          · exact I.ok.noex _ _ z hx
          · exact absurd (Nat.lt_of_lt_of_le (Heap.lt_size z) I.ok.bsz) (Nat.not_lt.mpr hx)
    · obtain ⟨its, rv, p, hz⟩ := I.tuple hs
      obtain ⟨o, e, c, m, d⟩ := id p
      have ne : a ≠ i := fun z => by rw [z, ei] at e; cases e; exact nseq _ _ d
      have hsz : its.toArray.size = xs.length := by rw [List.size_toArray, rv.length]
      refine ⟨[a], _, _, ⟨hsz ▸ Draws.tuple hh i a ne its.toArray, ⟨hi, p⟩, fun j v q => ?_, fun j h' q => q.1, fun b hb => ?_⟩, fun T f hT => ?_⟩
      · have q' : its[j]? = some v := by simpa using q
        have hj : j < xs.length := by rw [rv.length]; exact (List.getElem?_eq_some_iff.mp q').1
        obtain ⟨u, h1, h2⟩ := rv.get (List.getElem?_eq_getElem hj)
        rw [q'] at h1; cases h1
        exact ⟨_, List.getElem?_eq_getElem hj, h2⟩
      · have : b = a := by simpa using hb
        rw [this]; exact ⟨o, _, m, e, d⟩
      · have hT : T = a := by simpa using hT
        subst hT
        rcases hs with (hs | ⟨_, hs⟩) | ⟨ok, _, _, hk, _⟩
        · rw [f.1] at hs; cases hs
        · rw [f.1] at hs; cases hs
        · have z := I.ok.mod.kin _ _ hk
          rcases f.2.2.2.1 with hx | hx
          · exact I.ok.noex _ _ z hx
          · exact absurd (Nat.lt_of_lt_of_le (Heap.lt_size z) I.ok.bsz) (Nat.not_lt.mpr hx)
  | txt x =>
    obtain ⟨t, hi⟩ := hi
    have hl : x.cps.size = xs.length := by rw [show xs = _ from hs]; simp
    refine ⟨[], _, _, ⟨hl ▸ Draws.text hh i x t, hi, fun j v q => ?_, fun j h' q => ⟨t, q⟩, fun b hb => by cases hb⟩, fun T _ z => by cases z⟩
    obtain ⟨c, u, h1, rfl⟩ := q
    refine ⟨.str ⟨#[c]⟩, ?_, ⟨u, rfl⟩⟩
    rw [show xs = _ from hs, List.getElem?_map]
    have : x.cps.toList[j]? = some c := by simpa using h1
    rw [this]; rfl
theorem turn_zipE {P : Program} {w : World} {K : PySem.W.Frag} {elts : List Expr} {kk : Nat} {tpos : Pos} {z TI TO i1 i2 : Addr} (sc sd : Sc) (D : Apart5 z TI TO i1 i2) :
    Turn P w K (.Tuple elts kk tpos) (ItZ K sc sd) [z, TI, TO, i1, i2] z (fun i h => IsZip h z TI TO .none ∧ IsTupOf2 h TI (.ref i1) (.ref i2) ∧ (∃ x y, IsTupOf2 h TO x y) ∧ ScIt h i1 i sc ∧ ScIt h i2 i sd) where
  mem := by simp
  obj := fun i h st c hc => by
    obtain ⟨hz, hTI, ⟨x, y, hTO⟩, h1, h2⟩ := st
    have e' : c = z ∨ c = TI ∨ c = TO ∨ c = i1 ∨ c = i2 := by simpa using hc
    rcases e' with q | q | q | q | q
    · rw [q]; exact ⟨_, hz, fun v q => nomatch q⟩
    · rw [q]; exact ⟨_, hTI, fun v q => nomatch q⟩
    · rw [q]; exact ⟨_, hTO, fun v q => nomatch q⟩
    · rw [q]; obtain ⟨o, e1, n1, _⟩ := h1.obj; exact ⟨o, e1, n1⟩
    · rw [q]; obtain ⟨o, e1, n1, _⟩ := h2.obj; exact ⟨o, e1, n1⟩
  keep := fun i h h' st k => by
    obtain ⟨hz, hTI, ⟨x, y, hTO⟩, h1, h2⟩ := st
    exact ⟨k z (by simp) _ hz, k TI (by simp) _ hTI, ⟨x, y, k TO (by simp) _ hTO⟩, h1.at fun o q => k i1 (by simp) o q, h2.at fun o q => k i2 (by simp) o q⟩
  item := by
    intro X hP hw hK hc i pins s σ H E I hf st hg
    subst hP hw hK
    obtain ⟨hz, hTI, ⟨x0, y0, hTO⟩, h1, h2⟩ := st
    obtain ⟨xs, ys, hqx, hqy, hx, hy⟩ := hg
    obtain ⟨s1, P1, S1, D1, n1⟩ := drawn_out (A := X.A.in1) I (I.ok.hd hc) hqx h1
    obtain ⟨s2, P2, S2, D2, n2⟩ := drawn_out (A := X.A.in1) I (I.ok.hd hc) hqy h2
    obtain ⟨o1, e1, _, z1⟩ := h1.obj
    obtain ⟨o2, e2, _, z2⟩ := h2.obj
    have hzl : z < s.heap.objs.size := Heap.lt_size hz
    have S := zip_sep D D1.src D2.src ⟨_, hz, fun vs m q => by cases q⟩ ⟨o1, e1, z1⟩ ⟨o2, e2, z2⟩ (n1 TO (hf TO (by simp))) (n2 TO (hf TO (by simp)))
    refine wpAny_pyNext_zipD2_item S D1.d D2.d hz hTI hTO D1.now D2.now hx hy fun v1 v2 h' tk y1 y2 z' TO' h1' h2' hT hsz hk => ?_
    obtain ⟨x, hxs, rx⟩ := D1.out _ _ y1
    obtain ⟨y, hys, ry⟩ := D2.out _ _ y2
    refine ⟨_, rfl, wpAny_letOwnedTupleGo_zip (s := { s with heap := h', toks := tk }) z' fun h'' z'' sb => ?_⟩
    have hT2 : h''.get? s.heap.objs.size = some { cls := .type "tuple", data := .seq #[v1, v2] } := (sb.2 _ (Nat.ne_of_gt hzl)).trans hT
    have new : ObjOk X.prog X.w (upd H s.heap.objs.size (.tup [x, y])) h'' s.heap.objs.size (.tup [x, y]) :=
      ⟨by show 2 ≤ sizeLine; decide, [v1, v2], .cons rx (.cons ry .nil), ⟨_, hT2, rfl, _, rfl⟩⟩
    have I1 : Inv X pins σ (upd H s.heap.objs.size (.tup [x, y])) { s with heap := h'', toks := tk } :=
      I.turnedNew (t' := tk) (ch := [z, TI, TO, i1, i2]) (fun c o hb q => (sb.2 c (fun q' => hb (by simp [q']))).trans (hk c o (fun q' => hb (by simp [q'])) (fun q' => hb (by simp [q'])) (fun q' => hb (by simp [q'])) (fun q' => hb (by simp [q'])) q)) hf (Nat.le_refl _) new
    refine ⟨.ref s.heap.objs.size, _, I1, rfl, ⟨_, x, y, rfl, I.hok.fresh (Nat.le_refl _), rfl, fun l hl => by rw [hl.inj I hqx]; exact hxs, fun l hl => by rw [hl.inj I hqy]; exact hys⟩, ⟨z'', ?_, ⟨v1, v2, ?_⟩, ?_, ?_⟩, fun c hcm => ?_⟩
    · exact (sb.2 _ D.TIz).trans (hk _ _ D.TIz D.TITO D.TIi1 D.TIi2 hTI)
    · exact (sb.2 _ D.TOz).trans TO'
    · exact (D1.it _ _ h1').at fun o q => (sb.2 _ D.i1z).trans q
    · exact (D2.it _ _ h2').at fun o q => (sb.2 _ D.i2z).trans q
    · have hlt : c < s.heap.objs.size := by
        have e' : c = z ∨ c = TI ∨ c = TO ∨ c = i1 ∨ c = i2 := by simpa using hcm
        rcases e' with q | q | q | q | q
        · rw [q]; exact hzl
        · rw [q]; exact Heap.lt_size hTI
        · rw [q]; exact Heap.lt_size hTO
        · rw [q]; exact Heap.lt_size e1
        · rw [q]; exact Heap.lt_size e2
      rw [upd_ne (Nat.ne_of_lt hlt)]
      exact (hf c hcm).1
  done := by
    intro X hP hw hK hc i pins s σ H E I hf st hg
    subst hP hw hK
    obtain ⟨hz, hTI, ⟨x0, y0, hTO⟩, h1, h2⟩ := st
    obtain ⟨xs, ys, hqx, hqy, hl1, hl2, hend⟩ := hg
    obtain ⟨s1, P1, S1, D1, n1⟩ := drawn_out (A := X.A.in1) I (I.ok.hd hc) hqx h1
    obtain ⟨s2, P2, S2, D2, n2⟩ := drawn_out (A := X.A.in1) I (I.ok.hd hc) hqy h2
    obtain ⟨o1, e1, _, z1⟩ := h1.obj
    obtain ⟨o2, e2, _, z2⟩ := h2.obj
    have S := zip_sep D D1.src D2.src ⟨_, hz, fun vs m q => by cases q⟩ ⟨o1, e1, z1⟩ ⟨o2, e2, z2⟩ (n1 TO (hf TO (by simp))) (n2 TO (hf TO (by simp)))
    exact wpAny_pyNext_zipD2_end S D1.d D2.d hz hTI hTO D1.now D2.now hl1 hl2 hend fun h' tk hk => ⟨rfl, I.turnedL (t' := tk) (ch := [z, TI, TO, i1, i2]) (fun c o hb q =>
      hk c o (fun q' => hb (by simp [q'])) (fun q' => hb (by simp [q'])) (fun q' => hb (by simp [q'])) (fun q' => hb (by simp [q'])) q) hf⟩
  self := fun A i s Q E st h => wpAny_pyIter_zip st.1 h
theorem begins_sc {X : Cx} {pins : List (Addr × Obj)} {σ : L2.St} {H : Hp} {s : Shared} {sc : Sc} {xs : List V} {v : Value} (I : Inv X pins σ H s) (hs : ScAt X.K H sc xs) (hv : ScVal sc v) :
    ∃ o Hb, Begins v o Hb ∧ Hb s.heap ∧ ∀ h i, h.get? i = some o → ScIt h i 0 sc := by
  cases sc with
  | seq a t =>
    obtain rfl : v = .ref a := hv
    cases t
    · obtain ⟨its, rv, p, _⟩ := I.list hs
      exact ⟨_, _, begins_list a its.toArray, p.isList, fun h i e => ⟨_, e, rfl, rfl⟩⟩
    · obtain ⟨its, rv, p, _⟩ := I.tuple hs
      exact ⟨_, _, begins_tuple a its.toArray, p, fun h i e => ⟨_, e, rfl, rfl⟩⟩
  | txt x =>
    obtain ⟨t, rfl⟩ := hv
    exact ⟨_, _, begins_text x t, trivial, fun h i e => ⟨t, _, e, rfl, rfl⟩⟩
def ScV : Sc → V → Prop
  | .seq a _, v => v = .ref a
  | .txt x, v => v = .str x
theorem ScV.val {sc : Sc} {v : V} {u : Value} (h : ScV sc v) (r : RelV v u) : ScVal sc u := by
  cases sc with
  | seq a t => obtain rfl : v = .ref a := h; exact r
  | txt x => obtain rfl : v = .str x := h; exact r
def iZipE (K : PySem.W.Frag) (ta : TA) : TI := fun σ H R => ta σ H fun vs H1 => ∃ sc sd xs ys v u, vs = [v, u] ∧ ScV sc v ∧ ScV sd u ∧ ScAt K H1 sc xs ∧ ScAt K H1 sd ys ∧ R (ItZ K sc sd) H1
theorem pi_zipE {X : Cx} {e e2 : Expr} {ta : TA} {p pos tpos : Pos} {elts : List Expr} {kk : Nat} (hg : Gl X "zip") (hm : X.mg "zip" = none) (ha : PA X [e, e2] ta)
    (hs : starEach [e, e2] X.env = (false, eval e X.env) :: starEach [e2] X.env := by rfl) (hpl : (backTo pos (starEach [e2] X.env)).any (·.1) = false := by rfl) :
    PI X (.Tuple elts kk tpos) (.Call (.Name "zip" p) [e, e2] [] pos) (iZipE X.K ta) := by
  refine ⟨fun pins s σ H R I h => ?_⟩
  refine Call_ (ld_blt I hg hm PyProof.Rows.boot_zip (PyProof.Rows.callWith_type1 (thn (ha.run pos pins s σ H _ I h) fun us s1 ⟨vs, H1, I1, r1, q1⟩ => ?_) hs hpl))
  obtain ⟨sc, sd, xs, ys, v, u, rfl, hv, hu, hx, hy, q⟩ := q1
  obtain ⟨v', u', rfl, rv, ru⟩ := vals2 r1
  obtain ⟨o1, Hb1, B1, b1, g1⟩ := begins_sc I1 hx (hv.val rv)
  obtain ⟨o2, Hb2, B2, b2, g2⟩ := begins_sc I1 hy (hu.val ru)
  refine zip_begins2 B1 B2 b1 b2 fun h' hz hTI hTO e1 e2 hsz hk => wpAny_pyIter_zip hz ?_
  have I2 : Inv X pins σ H1 { s1 with heap := h' } := I1.kept (t' := s1.toks) hk
  generalize hN : s1.heap.objs.size = N at *
  refine ⟨N + 4, [N + 4, N + 2, N + 3, N, N + 1], _, _, H1, rfl, I2, turn_zipE sc sd ⟨?_, ?_, ?_, ?_, ?_, ?_, ?_, ?_, ?_, ?_⟩, ⟨hz, hTI, ⟨_, _, hTO⟩, g1 _ _ e1, g2 _ _ e2⟩, fun b hb => ?_, q⟩
  all_goals first
    | (show (_ : Nat) ≠ _; omega)
    | skip
  have hle : s1.heap.objs.size ≤ b := by
    rw [hN]
    have e' : b = N + 4 ∨ b = N + 2 ∨ b = N + 3 ∨ b = N ∨ b = N + 1 := by simpa using hb
    have : N ≤ (b : Nat) := by
      rcases e' with z | z | z | z | z <;> (rw [z]; first | exact Nat.le_add_right _ _ | exact Nat.le_refl _)
    exact this
  exact I1.fpOk hle (I1.hok.fresh hle)
end AL
set_option Elab.async false
set_option linter.all false
set_option maxRecDepth 100000
set_option maxHeartbeats 4000000
set_option autoImplicit false
/-! AL3: tests, displays, places, slices. -/
namespace AL
open PySem PySem.Spec PyProof.Rows L2 LamX

section
variable {b : BC} {X : Cx} {pos : Pos} {e e1 e2 e3 : Expr} {es rest : List Expr} {ta tb tc : TE} {aa ab ac : ATE} {tA tB' tC : TT} {aA aB aC' : ATT} {t : TA} {at_ : ATA} {n : Nat}
/-! ### tests -/
@[simp] def aBool (aa : ATE) : ATT := fun sl M Q => aa sl M fun d M1 => match d with | .bl c => Q c M1 | _ => False
theorem sim_bool {K : PySem.W.Frag} (ha : Sim b K ta aa) : SimT b K (tB ta) (aBool aa) := by
  intro Z σ H M sl Q Qa rp e q k
  refine ha Z σ H M sl _ _ rp e q fun v d H1 M1 r1 e1 h1 q1 => ?_
  cases h1 <;> first | exact q1.elim | skip
  exact ⟨_, rfl, k _ H1 M1 r1 e1 q1⟩
theorem dt_val (ha : DE b X e ta aa) (he : ∀ whole, isTrue e X.env whole = (do let v ← whole; standAt e.pos; holding [v] (truthy v)) := by intro _; rfl) : DT b X e (tB ta) (aBool aa) := ⟨pt_val ha.pe he, sim_bool ha.sim⟩
/-- truth of a value -/
def truD (M : Store) : D → Option Bool
  | .non => some false
  | .bl c => some c
  | .int i => some (i != 0)
  | .str x => some ((x.length : Int) != 0)
  | .lst ds => some (!ds.isEmpty)
  | .tup ds => some (!ds.isEmpty)
  | .dic _ => none
  | .ref a => (cellL (M a)).map fun ds => !ds.isEmpty
def strFit : D → Prop | .str x => x.length ≤ sizeLine | _ => True
@[simp] theorem strFit_non : strFit .non = True := rfl
@[simp] theorem strFit_bl {x} : strFit (.bl x) = True := rfl
@[simp] theorem strFit_int {x} : strFit (.int x) = True := rfl
@[simp] theorem strFit_str {x : Str} : strFit (.str x) = (x.length ≤ sizeLine) := rfl
@[simp] theorem strFit_lst {x} : strFit (.lst x) = True := rfl
@[simp] theorem strFit_tup {x} : strFit (.tup x) = True := rfl
@[simp] theorem strFit_ref {x} : strFit (.ref x) = True := rfl
@[simp] def aTru (aa : ATE) : ATT := fun sl M Q => aa sl M fun d M1 => strFit d ∧ match truD M1 d with | some c => Q c M1 | none => False
theorem isEmpty_rs {F : Hp} {vs : List V} {ds : List D} (r : Rs F vs ds) : vs.isEmpty = ds.isEmpty := by cases r <;> rfl
theorem tru_ok' {K : PySem.W.Frag} {T : List (Addr × Str)} {Z : Hid} {H : Hp} {M : Store} {v : V} {d : D} {c : Bool} (rh : RH K T Z H M) (r : R (mkH Z H M) v d) (hs : strFit d) (h : truD M d = some c) : TruV K v H c := by
  cases r with
  | non => cases h; rfl
  | bl => cases h; rfl
  | int => cases h; rfl
  | str => cases h; exact ⟨hs, rfl⟩
  | lst h1 n h2 => cases h; exact .inl ⟨_, .of (mk_iff.mp h1).2, by rw [isEmpty_rs h2]⟩
  | tup h1 n h2 => cases h; exact .inr (.inl ⟨_, .inl (rd_mk h1), by rw [isEmpty_rs h2]⟩)
  | dic => cases h
  | ref a =>
    cases z : cellL (M a) with
    | none => rw [show truD M (.ref a) = (cellL (M a)).map _ from rfl, z] at h; cases h
    | some ds =>
      rw [show truD M (.ref a) = (cellL (M a)).map _ from rfl, z] at h; cases h
      obtain ⟨a', vs, h1, h2, h3, _⟩ := seqL_ok rh (R.ref a) (show seqL M (.ref a) = some ds from z)
      cases h1
      exact .inl ⟨_, .of h2, by rw [isEmpty_rs h3]⟩
theorem dt_truth (ha : DE b X e ta aa) (he : ∀ whole, isTrue e X.env whole = (do let v ← whole; standAt e.pos; holding [v] (truthy v)) := by intro _; rfl) :
    DT b X e (fun σ H Q => ta σ H fun x H' => ∃ k, TruV X.K x H' k ∧ Q k H') (aTru aa) := ⟨pt_truth ha.pe he, fun Z σ H M sl Q Qa rp e q k =>
  ha.sim Z σ H M sl _ _ rp e q fun v d H1 M1 r1 e1 h1 ⟨hs, q1⟩ => by
    cases z : truD M1 d with
    | none => rw [z] at q1; exact q1.elim
    | some c => rw [z] at q1; exact ⟨c, tru_ok' r1 h1 hs z, k c H1 M1 r1 e1 q1⟩⟩
@[simp] def aAnd (a c : ATT) : ATT := fun sl M Q => a sl M fun x M1 => if x = true then c sl M1 Q else Q false M1
@[simp] def aOr (a c : ATT) : ATT := fun sl M Q => a sl M fun x M1 => if x = true then Q true M1 else c sl M1 Q
@[simp] def aNot (a : ATT) : ATT := fun sl M Q => a sl M fun x M1 => Q (!x) M1
theorem sim_and {K : PySem.W.Frag} (ha : SimT b K tA aA) (hb : SimT b K tB' aB) : SimT b K (tAnd tA tB') (aAnd aA aB) := by
  intro Z σ H M sl Q Qa rp e q k
  refine ha Z σ H M sl _ _ rp e q fun c H1 M1 r1 e1 q1 => ?_
  cases c
  · exact k _ H1 M1 r1 e1 q1
  · exact hb Z σ H1 M1 sl _ _ (rp.to r1 e1) (e.trans e1) q1 fun c H2 M2 r2 e2 q2 => k c H2 M2 r2 (e1.trans e2) q2
theorem sim_or {K : PySem.W.Frag} (ha : SimT b K tA aA) (hb : SimT b K tB' aB) : SimT b K (tOr tA tB') (aOr aA aB) := by
  intro Z σ H M sl Q Qa rp e q k
  refine ha Z σ H M sl _ _ rp e q fun c H1 M1 r1 e1 q1 => ?_
  cases c
  · exact hb Z σ H1 M1 sl _ _ (rp.to r1 e1) (e.trans e1) q1 fun c H2 M2 r2 e2 q2 => k c H2 M2 r2 (e1.trans e2) q2
  · exact k _ H1 M1 r1 e1 q1
theorem dt_not (ha : DT b X e tA aA) : DT b X (.UnaryOp .Not e pos) (tNot tA) (aNot aA) := ⟨pt_not ha.pt, fun Z σ H M sl Q Qa rp e q k => ha.sim Z σ H M sl _ _ rp e q fun c H1 M1 r1 e1 q1 => k _ H1 M1 r1 e1 q1⟩
theorem dw_and1 (ha : DT b X e tA aA) : DW b X (.BoolOp .And [e] pos) tA aA := ⟨pw_and1 ha.pt, ha.sim⟩
theorem dw_or1 (ha : DT b X e tA aA) : DW b X (.BoolOp .Or [e] pos) tA aA := ⟨pw_or1 ha.pt, ha.sim⟩
theorem dw_and (ha : DT b X e1 tA aA) (hb : DW b X (.BoolOp .And (e2 :: rest) pos) tB' aB) : DW b X (.BoolOp .And (e1 :: e2 :: rest) pos) (tAnd tA tB') (aAnd aA aB) := ⟨pw_and ha.pt hb.pw, sim_and ha.sim hb.sim⟩
theorem dw_or (ha : DT b X e1 tA aA) (hb : DW b X (.BoolOp .Or (e2 :: rest) pos) tB' aB) : DW b X (.BoolOp .Or (e1 :: e2 :: rest) pos) (tOr tA tB') (aOr aA aB) := ⟨pw_or ha.pt hb.pw, sim_or ha.sim hb.sim⟩
theorem DW.dt (h : DW b X e tA aA) : DT b X e tA aA := ⟨h.pw.pt, h.sim⟩
/-! .. as values -/
@[simp] def aAndV (a c : ATE) : ATE := fun sl M Q => a sl M fun d M1 => match d with | .bl x => if x = true then c sl M1 Q else Q (.bl false) M1 | _ => False
@[simp] def aOrV (a c : ATE) : ATE := fun sl M Q => a sl M fun d M1 => match d with | .bl x => if x = true then Q (.bl true) M1 else c sl M1 Q | _ => False
@[simp] def aNotV (a : ATE) : ATE := fun sl M Q => a sl M fun d M1 => match d with | .bl x => Q (.bl (!x)) M1 | _ => False
theorem de_one {op : BoolOp} (ha : DE b X e ta aa) : DE b X (.BoolOp op [e] pos) ta aa := ⟨pe_one ha.pe, ha.sim⟩
theorem de_and (ha : DE b X e1 ta aa) (hb : DE b X (.BoolOp .And (e2 :: rest) pos) tb ab) : DE b X (.BoolOp .And (e1 :: e2 :: rest) pos) (tAndV ta tb) (aAndV aa ab) := ⟨pe_and ha.pe hb.pe, fun Z σ H M sl Q Qa rp e q k =>
  ha.sim Z σ H M sl _ _ rp e q fun v d H1 M1 r1 e1 h1 q1 => by
    cases h1 <;> first | exact q1.elim | skip
    rename_i c
    refine ⟨c, rfl, ?_⟩
    cases c
    · exact k _ _ H1 M1 r1 e1 (.bl _) q1
    · exact hb.sim Z σ H1 M1 sl _ _ (rp.to r1 e1) (e.trans e1) q1 fun v d H2 M2 r2 e2 h2 q2 => k v d H2 M2 r2 (e1.trans e2) h2 q2⟩
theorem de_or (ha : DE b X e1 ta aa) (hb : DE b X (.BoolOp .Or (e2 :: rest) pos) tb ab) : DE b X (.BoolOp .Or (e1 :: e2 :: rest) pos) (tOrV ta tb) (aOrV aa ab) := ⟨pe_or ha.pe hb.pe, fun Z σ H M sl Q Qa rp e q k =>
  ha.sim Z σ H M sl _ _ rp e q fun v d H1 M1 r1 e1 h1 q1 => by
    cases h1 <;> first | exact q1.elim | skip
    rename_i c
    refine ⟨c, rfl, ?_⟩
    cases c
    · exact hb.sim Z σ H1 M1 sl _ _ (rp.to r1 e1) (e.trans e1) q1 fun v d H2 M2 r2 e2 h2 q2 => k v d H2 M2 r2 (e1.trans e2) h2 q2
    · exact k _ _ H1 M1 r1 e1 (.bl _) q1⟩
theorem de_not (ha : DE b X e ta aa) : DE b X (.UnaryOp .Not e pos) (tNotV ta) (aNotV aa) := ⟨pe_not ha.pe, fun Z σ H M sl Q Qa rp e q k =>
  ha.sim Z σ H M sl _ _ rp e q fun v d H1 M1 r1 e1 h1 q1 => by
    cases h1 <;> first | exact q1.elim | skip
    exact ⟨_, rfl, k _ _ H1 M1 r1 e1 (.bl _) q1⟩⟩
@[simp] def aIfE (c : ATT) (a d : ATE) : ATE := fun sl M Q => c sl M fun x M1 => if x = true then a sl M1 Q else d sl M1 Q
theorem de_ifexp (hc : DT b X e1 tA aA) (ha : DE b X e2 ta aa) (hb : DE b X e3 tb ab) : DE b X (.IfExp e1 e2 e3 pos) (tIf tA ta tb) (aIfE aA aa ab) := ⟨pe_ifExp hc.pt ha.pe hb.pe, fun Z σ H M sl Q Qa rp e q k =>
  hc.sim Z σ H M sl _ _ rp e q fun c H1 M1 r1 e1 q1 => by
    cases c
    · exact hb.sim Z σ H1 M1 sl _ _ (rp.to r1 e1) (e.trans e1) q1 fun v d H2 M2 r2 e2 h2 q2 => k v d H2 M2 r2 (e1.trans e2) h2 q2
    · exact ha.sim Z σ H1 M1 sl _ _ (rp.to r1 e1) (e.trans e1) q1 fun v d H2 M2 r2 e2 h2 q2 => k v d H2 M2 r2 (e1.trans e2) h2 q2⟩

/-! ### arguments, displays -/
@[simp] def aNil : ATA := fun _ M Q => Q [] M
@[simp] def aCons (a : ATE) (r : ATA) : ATA := fun sl M Q => a sl M fun d M1 => r sl M1 fun ds M2 => Q (d :: ds) M2
theorem da_nil : DA b X [] tNil aNil 0 := ⟨pa_nil, fun Z σ H M sl Q Qa rp e q k => k [] [] H M rp.rh (Ext.refl H M) .nil rfl q⟩
theorem da_cons (ha : DE b X e ta aa) (hr : DA b X es t at_ n) (hs : starEach (e :: es) X.env = (false, eval e X.env) :: starEach es X.env := by rfl) : DA b X (e :: es) (tCons ta t) (aCons aa at_) (n + 1) := ⟨pa_cons ha.pe hr.pa hs, fun Z σ H M sl Q Qa rp e q k =>
  ha.sim Z σ H M sl _ _ rp e q fun v d H1 M1 r1 e1 h1 q1 => hr.sim Z σ H1 M1 sl _ _ (rp.to r1 e1) (e.trans e1) q1 fun vs ds H2 M2 r2 e2 h2 l2 q2 =>
    k _ _ H2 M2 r2 (e1.trans e2) (.cons (h1.mono e2.sb) h2) (by rw [List.length_cons, l2]) q2⟩
@[simp] def aTup (t : ATA) : ATE := fun sl M Q => t sl M fun ds M1 => Q (.tup ds) M1
@[simp] def aLst (t : ATA) : ATE := fun sl M Q => t sl M fun ds M1 => Q (.lst ds) M1
/-- a list display that goes into the store -/
@[simp] def aLstC (t : ATA) : ATE := fun sl M Q => t sl M fun ds M1 => ∀ a, M1 a = none → Q (.ref a) (updS M1 a (.lst ds))
theorem de_tup {x1 : Nat} (h : DA b X es t at_ n) (hn : n ≤ sizeLine := by decide) : DE b X (.Tuple es x1 pos) (tTup t) (aTup at_) := ⟨pe_tup h.pa, fun Z σ H M sl Q Qa rp e q k =>
  h.sim Z σ H M sl _ _ rp e q fun vs ds H1 M1 r1 e1 h1 l1 q1 => ⟨by rw [h1.length, l1]; exact hn, fun p np => by
    obtain ⟨r2, e2, z⟩ := new_tup r1 np (by rw [l1]; exact hn) h1
    exact k _ _ _ _ r2 (e1.trans e2) z q1⟩⟩
theorem de_lst (h : DA b X es t at_ n) (hn : n ≤ sizeLine := by decide) : DE b X (.List es pos) (tLst t) (aLst at_) := ⟨pe_lst h.pa, fun Z σ H M sl Q Qa rp e q k =>
  h.sim Z σ H M sl _ _ rp e q fun vs ds H1 M1 r1 e1 h1 l1 q1 => ⟨by rw [h1.length, l1]; exact hn, fun p np => by
    obtain ⟨r2, e2, z⟩ := new_lst r1 np (by rw [l1]; exact hn) h1
    exact k _ _ _ _ r2 (e1.trans e2) z q1⟩⟩
theorem de_lstC (h : DA b X es t at_ n) (hn : n ≤ sizeLine := by decide) : DE b X (.List es pos) (tLst t) (aLstC at_) := ⟨pe_lst h.pa, fun Z σ H M sl Q Qa rp e q k =>
  h.sim Z σ H M sl _ _ rp e q fun vs ds H1 M1 r1 e1 h1 l1 q1 => ⟨by rw [h1.length, l1]; exact hn, fun p np => by
    obtain ⟨r2, e2⟩ := new_cell r1 np (by rw [l1]; exact hn) h1
    exact k _ _ _ _ r2 (e1.trans e2) (.ref p) (q1 p (r1.free np))⟩⟩

/-! ### places -/
theorem atI_rs {F : Hp} {vs : List V} {ds : List D} (r : Rs F vs ds) {i : Int} {d : D} (h : atI ds i = some d) : ∃ v, atI vs i = some v ∧ R F v d := by
  unfold atI at *
  rw [r.length]
  cases z : ixN ds.length i with
  | none => rw [z] at h; cases h
  | some j => rw [z] at h; exact r.getD h
def ixD : R2A := fun d e M Q => match e with
  | .int i => (match seqA M d with
    | some ds => (match atI ds i with | some x => Q x M | none => False)
    | none => match d with
      | .str z => z.length ≤ sizeLine ∧ (match atI z.cps.toList i with | some c => Q (.str ⟨#[c]⟩) M | none => False)
      | _ => False)
  | _ => False
@[simp] theorem ixD_lst {ds : List D} {i : Int} {M : Store} {Q : DK} : ixD (.lst ds) (.int i) M Q = (match atI ds i with | some x => Q x M | none => False) := rfl
@[simp] theorem ixD_tup {ds : List D} {i : Int} {M : Store} {Q : DK} : ixD (.tup ds) (.int i) M Q = (match atI ds i with | some x => Q x M | none => False) := rfl
@[simp] theorem ixD_str {z : Str} {i : Int} {M : Store} {Q : DK} : ixD (.str z) (.int i) M Q = (z.length ≤ sizeLine ∧ (match atI z.cps.toList i with | some c => Q (.str ⟨#[c]⟩) M | none => False)) := rfl
theorem ixD_ref {a : Addr} {ds : List D} {i : Int} {M : Store} {Q : DK} (h : M a = some (.lst ds)) : ixD (.ref a) (.int i) M Q = (match atI ds i with | some x => Q x M | none => False) := by
  have : seqA M (.ref a) = some ds := seqA_ref h
  unfold ixD; simp only [this]
theorem os_ix {K : PySem.W.Frag} : OpSim b K (rIx K) ixD := by
  intro Z H M x y d e Q Qa rh hx hy q k
  unfold ixD at q
  cases hy <;> first | exact q.elim | skip
  rename_i i
  simp only at q
  cases z : seqA M d with
  | some ds =>
    rw [z] at q; simp only at q
    cases z2 : atI ds i with
    | none => rw [z2] at q; exact q.elim
    | some w =>
      rw [z2] at q
      obtain ⟨a, vs, rfl, ha, hr, _⟩ := seqA_ok rh hx z
      obtain ⟨u, h1, h2⟩ := atI_rs hr z2
      rcases ha with ha | ha
      · exact .inl ⟨a, vs, i, u, rfl, rfl, .of ha, h1, k _ _ H M rh (Ext.refl H M) h2 q⟩
      · exact .inr (.inl ⟨a, vs, i, u, rfl, rfl, .inl ha, h1, k _ _ H M rh (Ext.refl H M) h2 q⟩)
  | none =>
    rw [z] at q; simp only at q
    cases hx <;> first | exact q.elim | skip
    rename_i x
    obtain ⟨hz, q⟩ := q
    cases z2 : atI x.cps.toList i with
    | none => rw [z2] at q; exact q.elim
    | some c =>
      rw [z2] at q
      exact .inr (.inr ⟨x, i, c, rfl, rfl, hz, z2, k _ _ H M rh (Ext.refl H M) (.str _) q⟩)
theorem de_ix (ha : DE b X e1 ta aa) (hb : DE b X e2 tb ab) (hs : PlainIx e2 := by exact fun _ _ => rfl) : DE b X (.Subscript e1 e2 pos) (tOp (rIx X.K) ta tb) (aOp ixD aa ab) := ⟨pe_ix ix_seq ha.pe hb.pe hs, sim_op os_ix ha.sim hb.sim⟩

/-! ### slices -/
abbrev ATO := SL → Store → (Option Int → Store → Prop) → Prop
def SimO (b : BC) (K : PySem.W.Frag) (te : TO) (at_ : ATO) : Prop :=
  ∀ (Z : Hid) (σ : L2.St) (H : Hp) (M : Store) (sl : SL) (Q : Option Int → Hp → Prop) (Qa : Option Int → Store → Prop), Rep K b.T Z H M σ sl → b.In Z H M → at_ sl M Qa →
    (∀ c H' M', RH K b.T Z H' M' → Ext H M H' M' → Qa c M' → Q c H') → te σ H Q
structure DO (b : BC) (X : Cx) (e : Option Expr) (te : TO) (at_ : ATO) : Prop where
  po : PO X e te
  sim : SimO b X.K te at_
@[simp] def aNoPart : ATO := fun _ M Q => Q none M
@[simp] def aPart (a : ATE) : ATO := fun sl M Q => a sl M fun d M1 => match d with | .int i => Q (some i) M1 | _ => False
theorem do_none : DO b X none tNoPart aNoPart := ⟨po_none, fun Z σ H M sl Q Qa rp e q k => k none H M rp.rh (Ext.refl H M) q⟩
theorem do_some (ha : DE b X e ta aa) : DO b X (some e) (tPart ta) (aPart aa) := ⟨po_some ha.pe, fun Z σ H M sl Q Qa rp e q k =>
  ha.sim Z σ H M sl _ _ rp e q fun v d H1 M1 r1 e1 h1 q1 => by
    cases h1 <;> first | exact q1.elim | skip
    exact ⟨_, rfl, k _ H1 M1 r1 e1 q1⟩⟩
def cutD (xs : List D) (lo hi : Option Int) : List D := (xs.drop (HT.sIx xs.length 0 lo)).take (HT.sIx xs.length xs.length hi - HT.sIx xs.length 0 lo)
theorem cut_rs {F : Hp} {vs : List V} {ds : List D} (r : Rs F vs ds) (lo hi : Option Int) : Rs F (cutV vs lo hi) (cutD ds lo hi) := by
  unfold cutV cutD
  rw [r.length]
  exact (r.drop _).take _
theorem cutD_length (xs : List D) (lo hi : Option Int) : (cutD xs lo hi).length ≤ xs.length := by
  unfold cutD
  rw [List.length_take, List.length_drop]; omega
def slD (d : D) (lo hi : Option Int) (M : Store) (Q : DK) : Prop := match d with
  | .lst ds => Q (.lst (cutD ds lo hi)) M
  | .tup ds => Q (.tup (cutD ds lo hi)) M
  | .str z => z.length ≤ sizeLine ∧ Q (.str (cutS z lo hi)) M
  | .ref a => ∃ ds, cellL (M a) = some ds ∧ Q (.lst (cutD ds lo hi)) M
  | _ => False
@[simp] theorem slD_lst {ds : List D} {lo hi : Option Int} {M : Store} {Q : DK} : slD (.lst ds) lo hi M Q = Q (.lst (cutD ds lo hi)) M := rfl
@[simp] theorem slD_tup {ds : List D} {lo hi : Option Int} {M : Store} {Q : DK} : slD (.tup ds) lo hi M Q = Q (.tup (cutD ds lo hi)) M := rfl
@[simp] theorem slD_str {z : Str} {lo hi : Option Int} {M : Store} {Q : DK} : slD (.str z) lo hi M Q = (z.length ≤ sizeLine ∧ Q (.str (cutS z lo hi)) M) := rfl
theorem slD_ref {a : Addr} {ds : List D} {lo hi : Option Int} {M : Store} {Q : DK} (h : M a = some (.lst ds)) : slD (.ref a) lo hi M Q = Q (.lst (cutD ds lo hi)) M := by
  have : cellL (M a) = some ds := by rw [h]; rfl
  unfold slD
  simp [this]
def rSlX (K : PySem.W.Frag) : V → Option Int → Option Int → Hp → VK → Prop := fun x lo hi H Q => rSlL K x lo hi H Q ∨ rSlA K x lo hi H Q ∨ rSlS x lo hi H Q
@[simp] def aSl (a : ATE) (l h : ATO) : ATE := fun sl M Q => a sl M fun d M1 => l sl M1 fun lo M2 => h sl M2 fun hi M3 => slD d lo hi M3 Q
theorem sl_ok {K : PySem.W.Frag} {T : List (Addr × Str)} {Z : Hid} {H : Hp} {M : Store} {v : V} {d : D} {lo hi : Option Int} {Q : VK} {Qa : DK} (rh : RH K T Z H M) (r : R (mkH Z H M) v d) (q : slD d lo hi M Qa)
    (k : ∀ v d' H' M', RH K T Z H' M' → Ext H M H' M' → R (mkH Z H' M') v d' → Qa d' M' → Q v H') : rSlX K v lo hi H Q := by
  have lst : ∀ {a : Addr} {vs : List V} {ds : List D}, H a = some (.lst vs) → Rs (mkH Z H M) vs ds → ds.length ≤ sizeLine → Qa (.lst (cutD ds lo hi)) M → rSlX K (.ref a) lo hi H Q := fun {a vs ds} h1 h2 n q => by
    refine .inl ⟨a, vs, rfl, .of h1, fun p np => ?_⟩
    obtain ⟨r2, e2, z⟩ := new_lst rh np (Nat.le_trans (cutD_length ds lo hi) n) (cut_rs h2 lo hi)
    exact k _ _ _ _ r2 e2 z q
  cases r with
  | lst h1 n h2 => exact lst (mk_iff.mp h1).2 h2 n q
  | ref a =>
    obtain ⟨ds, h1, q⟩ := q
    obtain ⟨a', vs, h2, h3, h4, h5⟩ := seqL_ok rh (R.ref a) (show seqL M (.ref a) = some ds from h1)
    cases h2
    exact lst h3 h4 h5 q
  | tup h1 n h2 =>
    rename_i a vs ds
    have g := rd_mk h1
    refine .inr (.inl ⟨a, vs, rfl, .inl g, ?_⟩)
    have hc := cut_rs h2 lo hi
    refine ⟨fun c => ?_, fun c p np => ?_⟩
    · have e : cutD ds lo hi = ds := by
        unfold cutD
        rw [h2.length] at c
        rw [c.1, c.2, List.drop_zero, Nat.sub_zero, List.take_length]
      have q : Qa (.tup (cutD ds lo hi)) M := q
      rw [e] at q
      exact k _ _ H M rh (Ext.refl H M) (.tup h1 n h2) q
    · obtain ⟨r2, e2, z⟩ := new_tup rh np (Nat.le_trans (cutD_length ds lo hi) n) hc
      exact k _ _ _ _ r2 e2 z q
  | str x => exact .inr (.inr ⟨x, rfl, q.1, k _ _ H M rh (Ext.refl H M) (.str _) q.2⟩)
  | _ => exact q.elim
theorem de_slice {lo hi : Option Expr} {tl th : TO} {al ah : ATO} {p2 : Pos} (ha : DE b X e ta aa) (hl : DO b X lo tl al) (hh : DO b X hi th ah) : DE b X (.Subscript e (.Slice lo hi none p2) pos) (tSl (rSlX X.K) ta tl th) (aSl aa al ah) := ⟨pe_slice (sl_list.or (sl_tupA.or sl_str)) ha.pe hl.po hh.po, fun Z σ H M sl Q Qa rp e q k =>
  ha.sim Z σ H M sl _ _ rp e q fun v d H1 M1 r1 e1 h1 q1 => hl.sim Z σ H1 M1 sl _ _ (rp.to r1 e1) (e.trans e1) q1 fun l H2 M2 r2 e2 q2 => hh.sim Z σ H2 M2 sl _ _ (rp.to r2 (e1.trans e2)) (e.trans (e1.trans e2)) q2 fun u H3 M3 r3 e3 q3 =>
    sl_ok r3 (h1.mono (e2.trans e3).sb) q3 fun w d' H' M' r' e' h' q' => k w d' H' M' r' (e1.trans (e2.trans (e3.trans e'))) h' q'⟩
end
end AL
set_option Elab.async false
set_option linter.all false
set_option maxRecDepth 100000
set_option maxHeartbeats 4000000
set_option autoImplicit false
/-! AL4: what is walked, targets, loops, comprehensions. -/
namespace AL
open PySem PySem.Spec PyProof.Rows L2 LamX

/-! ### what is walked -/
/-- more may be hidden: what is new -/
def Zx (Z Z' : Hid) (H : Hp) : Prop := ∀ z, Z' z = true → Z z = true ∨ H z = none
theorem Zx.refl (Z : Hid) (H : Hp) : Zx Z Z H := fun _ h => .inl h
theorem ext_sb {Z Z' : Hid} {H H' : Hp} {M M' : Store} (z : Zx Z Z' H) (e : Ext H M H' M') : Sb (mkH Z H M) (mkH Z' H' M') := Sb.of fun b o h hn => by
  obtain ⟨h1, h2⟩ := mk_iff.mp h
  obtain ⟨h3, h4⟩ := e b o h1.2 h2 hn
  refine mk_iff.mpr ⟨⟨?_, h3⟩, h4⟩
  cases q : Z' b with
  | false => rfl
  | true =>
    rcases z b q with q | q
    · rw [h1.1] at q; cases q
    · rw [h2] at q; cases q
/-- a walk hands out the data ds while chk holds of the store -/
structure ItOk (b : BC) (K : PySem.W.Frag) (Z : Hid) (J : It) (H1 : Hp) (M1 : Store) (ds : List D) (chk : Store → Prop) : Prop where
  go : ∀ (Z' : Hid) (i : Nat) H M, Zx Z Z' H1 → RH K b.T Z' H M → Ext H1 M1 H M → chk M → i < ds.length → J.go i H
  stop : ∀ (Z' : Hid) H M, Zx Z Z' H1 → RH K b.T Z' H M → Ext H1 M1 H M → chk M → J.stop ds.length H
  yld : ∀ (Z' : Hid) (i : Nat) H M x H', Zx Z Z' H1 → RH K b.T Z' H M → Ext H1 M1 H M → chk M → i < ds.length → J.yld i H x H' → ∃ d, ds[i]? = some d ∧ RH K b.T Z' H' M ∧ Ext H M H' M ∧ R (mkH Z' H' M) x d
  len : ds.length ≤ sizeLine
abbrev ATI := SL → Store → (List D → (Store → Prop) → Store → Prop) → Prop
def SimI (b : BC) (K : PySem.W.Frag) (wi : TI) (ai : ATI) : Prop :=
  ∀ (Z : Hid) (σ : L2.St) (H : Hp) (M : Store) (sl : SL) (Rc : It → Hp → Prop) (Ra : List D → (Store → Prop) → Store → Prop), Rep K b.T Z H M σ sl → b.In Z H M → ai sl M Ra →
    (∀ J H1 M1 ds chk, RH K b.T Z H1 M1 → Ext H M H1 M1 → ItOk b K Z J H1 M1 ds chk → Ra ds chk M1 → Rc J H1) → wi σ H Rc
structure DI (b : BC) (X : Cx) (tg iter : Expr) (wi : TI) (ai : ATI) : Prop where
  pi : PI X tg iter wi
  sim : SimI b X.K wi ai
/-- the items of a list, a tuple, a text -/
def seqX (M : Store) : D → Option (List D)
  | .str z => some (z.cps.toList.map fun c => .str ⟨#[c]⟩)
  | d => seqB M d
@[simp] theorem seqX_lst {M : Store} {ds : List D} : seqX M (.lst ds) = some ds := rfl
@[simp] theorem seqX_tup {M : Store} {ds : List D} : seqX M (.tup ds) = some ds := rfl
@[simp] theorem seqX_str {M : Store} {z : Str} : seqX M (.str z) = some (z.cps.toList.map fun c => D.str ⟨#[c]⟩) := rfl
theorem seqX_ref {M : Store} {a : Addr} {ds : List D} (h : M a = some (.lst ds)) : seqX M (.ref a) = some ds := seqL_ref h
def scOf (v : V) : D → Sc
  | .str z => .txt z
  | .tup _ => (match v with | .ref a => .seq a true | _ => .txt "")
  | _ => (match v with | .ref a => .seq a false | _ => .txt "")
theorem sc_at {K : PySem.W.Frag} {T : List (Addr × Str)} {Z : Hid} {H : Hp} {M : Store} {v : V} {d : D} {ds : List D} (rh : RH K T Z H M) (r : R (mkH Z H M) v d) (h : seqX M d = some ds) :
    ScV (scOf v d) v ∧ ∃ vs, ScAt K H (scOf v d) vs ∧ Rs (mkH Z H M) vs ds := by
  cases r with
  | str x =>
    cases h
    refine ⟨rfl, _, rfl, ?_⟩
    generalize x.cps.toList = l
    induction l with
    | nil => exact .nil
    | cons c l ih => exact .cons (.str _) ih
  | tup h1 n h2 => cases h; exact ⟨rfl, _, .inl (rd_mk h1), h2⟩
  | lst h1 n h2 => cases h; exact ⟨rfl, _, .of (mk_iff.mp h1).2, h2⟩
  | ref a =>
    obtain ⟨a', vs, h1, h2, h3, _⟩ := seqL_ok rh (R.ref a) (show seqL M (.ref a) = some ds from h)
    cases h1
    exact ⟨rfl, _, .of h2, h3⟩
  | _ => cases h
def ItOf (K : PySem.W.Frag) : Sc → It
  | .seq a false => Itl K a
  | .seq a true => Itt K a
  | .txt x => Its x
def iAny (K : PySem.W.Frag) (tl : TE) : TI := fun σ H R => tl σ H fun x H1 => ∃ sc xs, ScV sc x ∧ ScAt K H1 sc xs ∧ R (ItOf K sc) H1
theorem pi_any {X : Cx} {tg l : Expr} {tl : TE} (hl : PE X l tl) : PI X tg l (iAny X.K tl) := by
  refine ⟨fun pins s σ H R I h => ?_⟩
  refine thn (hl.run pins s σ H _ I h) fun v s1 ⟨x, H1, I1, r1, sc, xs, hv, hq, q⟩ => ?_
  cases sc with
  | seq a t =>
    obtain rfl : x = .ref a := hv
    cases r1
    cases t
    · obtain ⟨its, rv, p, hz⟩ := I1.list hq
      exact wpAny_pyIter_list p.isList (pi_one (tk := s1.toks) I1 _ (turn_list a _) ⟨_, Heap.get?_push_size _ rfl, rfl, rfl⟩ q)
    · obtain ⟨its, rv, p, hz⟩ := I1.tuple hq
      exact wpAny_pyIter_tuple (show s1.heap.IsTuple a its.toArray from p) (pi_one (tk := s1.toks) I1 _ (turn_tuple a _) ⟨_, Heap.get?_push_size _ rfl, rfl, rfl⟩ q)
  | txt z =>
    obtain rfl : x = .str z := hv
    obtain ⟨t, rfl⟩ := r1
    cases ha : z.cps.all (· < 128)
    · exact wpAny_pyIter_wide ha (pi_one (tk := s1.toks) I1 _ (turn_str _ z t "str_iterator" (.inr rfl)) ⟨_, Heap.get?_push_size _ rfl, rfl, rfl⟩ q)
    · exact wpAny_pyIter_ascii ha (pi_one (tk := s1.toks) I1 _ (turn_str _ z t "str_ascii_iterator" (.inl rfl)) ⟨_, Heap.get?_push_size _ rfl, rfl, rfl⟩ q)
theorem itof_go {K : PySem.W.Frag} {H : Hp} {sc : Sc} {xs : List V} {i : Nat} (h : ScAt K H sc xs) (hi : i < xs.length) : (ItOf K sc).go i H := by
  cases sc with
  | seq a t => cases t <;> exact ⟨xs, xs[i], h, List.getElem?_eq_getElem hi⟩
  | txt z =>
    have h : xs = _ := h
    subst h
    show i < z.cps.size
    simpa using hi
theorem itof_stop {K : PySem.W.Frag} {H : Hp} {sc : Sc} {xs : List V} (h : ScAt K H sc xs) : (ItOf K sc).stop xs.length H := by
  cases sc with
  | seq a t => cases t <;> exact ⟨xs, h, Nat.le_refl _⟩
  | txt z =>
    have h : xs = _ := h
    subst h
    show z.cps.size ≤ _
    simp
theorem itof_yld {K : PySem.W.Frag} {H H' : Hp} {sc : Sc} {xs : List V} {i : Nat} {x : V} (h : ScAt K H sc xs) (y : (ItOf K sc).yld i H x H') : H' = H ∧ xs[i]? = some x := by
  cases sc with
  | seq a t => cases t <;> exact ⟨y.1, y.2 xs h⟩
  | txt z =>
    obtain ⟨y1, c, y2, y3⟩ := y
    refine ⟨y1, ?_⟩
    rw [show xs = _ from h, List.getElem?_map, y3]
    have : z.cps.toList[i]? = some c := by simpa using y2
    rw [this]; rfl
/-- the text that is walked is no longer than the line -/
def fitX : D → Prop | .str x => x.length ≤ sizeLine | _ => True
@[simp] theorem fitX_str {x : Str} : fitX (.str x) = (x.length ≤ sizeLine) := rfl
@[simp] theorem fitX_lst {x} : fitX (.lst x) = True := rfl
@[simp] theorem fitX_tup {x} : fitX (.tup x) = True := rfl
@[simp] theorem fitX_ref {x} : fitX (.ref x) = True := rfl
@[simp] theorem fitX_int {x} : fitX (.int x) = True := rfl
@[simp] theorem fitX_non : fitX .non = True := rfl
theorem len_x {K : PySem.W.Frag} {T : List (Addr × Str)} {Z : Hid} {H : Hp} {M : Store} {v : V} {d : D} {ds : List D} (rh : RH K T Z H M) (r : R (mkH Z H M) v d) (h : seqX M d = some ds) (f : fitX d) : ds.length ≤ sizeLine := by
  cases r with
  | str x => cases h; rw [List.length_map, Array.length_toList]; exact f
  | tup h1 n h2 => cases h; exact n
  | lst h1 n h2 => cases h; exact n
  | ref a => obtain ⟨a', vs, h1, h2, h3, h4⟩ := seqL_ok rh (R.ref a) (show seqL M (.ref a) = some ds from h); exact h4
  | _ => cases h
@[simp] def aSeqI (a : ATE) : ATI := fun sl M Q => a sl M fun d M1 => fitX d ∧ match seqX M1 d with | some ds => Q ds (fun M' => seqX M' d = some ds) M1 | none => False
section
variable {b : BC} {X : Cx} {pos : Pos} {tg e e1 e2 : Expr} {ta tb : TE} {aa ab : ATE} {t : TA} {at_ : ATA} {n : Nat}
theorem di_seq (ha : DE b X e ta aa) : DI b X tg e (iAny X.K ta) (aSeqI aa) := ⟨pi_any ha.pe, fun Z σ H M sl Rc Ra rp e q k =>
  ha.sim Z σ H M sl _ _ rp e q fun v d H1 M1 r1 e1 h1 ⟨f, q1⟩ => by
    cases z : seqX M1 d with
    | none => rw [z] at q1; exact q1.elim
    | some ds =>
      rw [z] at q1
      obtain ⟨hv, vs, hs, _⟩ := sc_at r1 h1 z
      have h1' : ∀ {Z' : Hid} {H : Hp} {M : Store}, Zx Z Z' H1 → Ext H1 M1 H M → R (mkH Z' H M) v d := fun zx ex => h1.mono (ext_sb zx ex)
      refine ⟨_, _, hv, hs, k _ H1 M1 ds _ r1 e1 ⟨fun Z' i H M zx rh ex c hi => ?_, fun Z' H M zx rh ex c => ?_, fun Z' i H M x H' zx rh ex c hi y => ?_, len_x r1 h1 z f⟩ q1⟩
      · obtain ⟨_, vs, hs, hr⟩ := sc_at rh (h1' zx ex) c
        exact itof_go hs (by rw [hr.length]; exact hi)
      · obtain ⟨_, vs, hs, hr⟩ := sc_at rh (h1' zx ex) c
        rw [← hr.length]
        exact itof_stop hs
      · obtain ⟨_, vs, hs, hr⟩ := sc_at rh (h1' zx ex) c
        obtain ⟨rfl, hx⟩ := itof_yld hs y
        obtain ⟨d', h2, h3⟩ := hr.get hx
        exact ⟨d', h2, rh, Ext.refl _ _, h3⟩⟩
def rngD (lo : Int) (n : Nat) : List D := (List.range n).map fun i => .int (lo + (i : Nat))
theorem rngD_length {lo : Int} {n : Nat} : (rngD lo n).length = n := by simp [rngD]
theorem itr_ok {b : BC} {K : PySem.W.Frag} {Z : Hid} {H1 : Hp} {M1 : Store} {lo : Int} {n : Nat} (h : n ≤ sizeLine) : ItOk b K Z (Itr lo n) H1 M1 (rngD lo n) fun _ => True :=
  ⟨fun Z' i H M zx rh ex c hi => by rw [rngD_length] at hi; exact hi, fun Z' H M zx rh ex c => by rw [rngD_length]; exact Nat.le_refl n, fun Z' i H M x H' zx rh ex c hi y => by
    obtain ⟨rfl, rfl⟩ := y
    rw [rngD_length] at hi
    exact ⟨.int (lo + i), by simp [rngD, hi], rh, Ext.refl _ _, .int _⟩, by rw [rngD_length]; exact h⟩
@[simp] def aRng1 (t : ATA) : ATI := fun sl M Q => t sl M fun ds M1 => match ds with | [.int j] => -(2 ^ 62) ≤ j ∧ j.toNat ≤ sizeLine ∧ Q (rngD 0 j.toNat) (fun _ => True) M1 | _ => False
@[simp] def aRng2 (t : ATA) : ATI := fun sl M Q => t sl M fun ds M1 => match ds with | [.int i, .int j] => (-(2 ^ 60) ≤ i ∧ i < 2 ^ 60 ∧ -(2 ^ 60) ≤ j ∧ j < 2 ^ 60) ∧ (j - i).toNat ≤ sizeLine ∧ Q (rngD i (j - i).toNat) (fun _ => True) M1 | _ => False
theorem di_range1 {p : Pos} (hm : X.mg "range" = none) (ha : DA b X [e] t at_ 1) (hg : Gl X "range" := by rfl) (hs : starEach [e] X.env = [(false, eval e X.env)] := by rfl) : DI b X tg (.Call (.Name "range" p) [e] [] pos) (iRng1 t) (aRng1 at_) := ⟨pi_range1 hg hm ha.pa hs, fun Z σ H M sl Rc Ra rp e q k =>
  ha.sim Z σ H M sl _ _ rp e q fun vs ds H1 M1 r1 e1 h1 _ q1 => by
    cases h1 with
    | nil => exact q1.elim
    | cons h r =>
      cases r with
      | cons _ _ => revert q1; cases h <;> exact fun q1 => q1.elim
      | nil =>
        cases h with
        | int j =>
          obtain ⟨h1, h2, q1⟩ := q1
          refine ⟨j, rfl, h1, ?_, k _ H1 M1 _ _ r1 e1 (itr_ok h2) q1⟩
          have : (sizeLine : Nat) = 16777216 := sizeLine_eq
          omega
        | _ => exact q1.elim⟩
theorem di_range2 {p : Pos} (hm : X.mg "range" = none) (ha : DA b X [e1, e2] t at_ 2) (hg : Gl X "range" := by rfl) (hs : starEach [e1, e2] X.env = [(false, eval e1 X.env), (false, eval e2 X.env)] := by rfl) (hs2 : starEach [e2] X.env = [(false, eval e2 X.env)] := by rfl) :
    DI b X tg (.Call (.Name "range" p) [e1, e2] [] pos) (iRng2 t) (aRng2 at_) := ⟨pi_range2 hg hm ha.pa hs hs2, fun Z σ H M sl Rc Ra rp e q k =>
  ha.sim Z σ H M sl _ _ rp e q fun vs ds H1 M1 r1 e1 h1 hl q1 => by
    cases h1 with
    | nil => exact q1.elim
    | cons h r =>
      cases r with
      | nil => cases hl
      | cons h' r' =>
        cases r' with
        | cons _ _ => cases hl
        | nil =>
          cases h with
          | int i =>
            cases h' with
            | int j =>
              obtain ⟨⟨a1, a2, a3, a4⟩, h2, q1⟩ := q1
              exact ⟨i, j, rfl, ⟨by omega, by omega, by omega, by omega⟩, k _ H1 M1 _ _ r1 e1 (itr_ok h2) q1⟩
            | _ => exact q1.elim
          | _ => exact q1.elim⟩
/-- enumerate -/
def enumD : Nat → List D → List D
  | _, [] => []
  | i, x :: r => .tup [.int i, x] :: enumD (i + 1) r
theorem enumD_length : ∀ (i : Nat) (ds : List D), (enumD i ds).length = ds.length
  | _, [] => rfl
  | i, x :: r => congrArg (· + 1) (enumD_length (i + 1) r)
theorem enumD_get : ∀ (k : Nat) (ds : List D) (i : Nat) (d : D), ds[i]? = some d → (enumD k ds)[i]? = some (.tup [.int ((k + i : Nat) : Int), d])
  | _, [], _, _, h => by simp at h
  | k, x :: r, 0, d, h => by simp at h; subst h; simp [enumD]
  | k, x :: r, i + 1, d, h => by
    have := enumD_get (k + 1) r i d (by simpa using h)
    simp only [enumD, List.getElem?_cons_succ]
    rw [this, show k + 1 + i = k + (i + 1) from by omega]
theorem two_line : 2 ≤ sizeLine := by decide
@[simp] def aEnum (t : ATA) : ATI := fun sl M Q => t sl M fun ds M1 => match ds with
  | [d] => fitX d ∧ (match seqX M1 d with | some es => Q (enumD 0 es) (fun M' => seqX M' d = some es) M1 | none => False)
  | _ => False
theorem di_enum {p tpos : Pos} {elts : List Expr} {kk : Nat} (hm : X.mg "enumerate" = none) (ha : DA b X [e] t at_ 1) (hg : Gl X "enumerate" := by rfl) (hs : starEach [e] X.env = [(false, eval e X.env)] := by rfl) :
    DI b X (.Tuple elts kk tpos) (.Call (.Name "enumerate" p) [e] [] pos) (iEnumE X.K t) (aEnum at_) := ⟨pi_enumE hg hm ha.pa hs, fun Z σ H M sl Rc Ra rp e q k =>
  ha.sim Z σ H M sl _ _ rp e q fun vs ds H1 M1 r1 e1 h1 hl q1 => by
    cases h1 with
    | nil => exact q1.elim
    | cons h r =>
      cases r with
      | cons _ _ => cases hl
      | nil =>
        rename_i v d
        obtain ⟨f, q1⟩ := q1
        cases z : seqX M1 d with
        | none => rw [z] at q1; exact q1.elim
        | some es =>
          rw [z] at q1
          obtain ⟨hv, vs, hs, hr0⟩ := sc_at r1 h z
          have h1' : ∀ {Z' : Hid} {H : Hp} {M : Store}, Zx Z Z' H1 → Ext H1 M1 H M → R (mkH Z' H M) v d := fun zx ex => h.mono (ext_sb zx ex)
          refine ⟨scOf v d, vs, ?_, hs, k _ H1 M1 (enumD 0 es) _ r1 e1 ⟨fun Z' i H M zx rh ex c hi => ?_, fun Z' H M zx rh ex c => ?_, fun Z' i H M x H' zx rh ex c hi y => ?_, by rw [enumD_length]; exact len_x r1 h z f⟩ q1⟩
          · cases hsc : scOf v d with
            | seq a t => rw [hsc] at hv; exact .inl ⟨a, t, rfl, by rw [show v = _ from hv]⟩
            | txt x => rw [hsc] at hv; exact .inr ⟨x, rfl, by rw [show v = _ from hv]⟩
          · obtain ⟨_, vs, hs, hr⟩ := sc_at rh (h1' zx ex) c
            rw [enumD_length] at hi
            exact ⟨vs, hs, by rw [hr.length]; exact hi⟩
          · obtain ⟨_, vs, hs, hr⟩ := sc_at rh (h1' zx ex) c
            rw [enumD_length, ← hr.length]
            exact ⟨vs, hs, rfl⟩
          · obtain ⟨_, vs, hs, hr⟩ := sc_at rh (h1' zx ex) c
            obtain ⟨T, x', rfl, nT, rfl, hx⟩ := y
            obtain ⟨d', h2, h3⟩ := hr.get (hx vs hs)
            obtain ⟨r2, e2, r3⟩ := new_tup (ds := [.int (i : Nat), d']) rh nT two_line (.cons (.int (i : Nat)) (.one h3))
            exact ⟨_, by have := enumD_get 0 es i d' h2; rw [Nat.zero_add] at this; exact this, r2, e2, r3⟩⟩
/-- zip -/
def zipD (ds es : List D) : List D := List.zipWith (fun x y => .tup [x, y]) ds es
@[simp] def aZip (t : ATA) : ATI := fun sl M Q => t sl M fun ds M1 => match ds with
  | [d, e] => (fitX d ∧ fitX e) ∧ (match seqX M1 d, seqX M1 e with | some es, some fs => Q (zipD es fs) (fun M' => seqX M' d = some es ∧ seqX M' e = some fs) M1 | _, _ => False)
  | _ => False
theorem di_zip {p tpos : Pos} {elts : List Expr} {kk : Nat} (hm : X.mg "zip" = none) (ha : DA b X [e1, e2] t at_ 2) (hg : Gl X "zip" := by rfl) (hs : starEach [e1, e2] X.env = (false, eval e1 X.env) :: starEach [e2] X.env := by rfl) (hpl : (backTo pos (starEach [e2] X.env)).any (·.1) = false := by rfl) :
    DI b X (.Tuple elts kk tpos) (.Call (.Name "zip" p) [e1, e2] [] pos) (iZipE X.K t) (aZip at_) := ⟨pi_zipE hg hm ha.pa hs hpl, fun Z σ H M sl Rc Ra rp e q k =>
  ha.sim Z σ H M sl _ _ rp e q fun vs ds H1 M1 r1 e1 h1 hl q1 => by
    cases h1 with
    | nil => exact q1.elim
    | cons h r =>
      cases r with
      | nil => cases hl
      | cons h' r' =>
        cases r' with
        | cons _ _ => cases hl
        | nil =>
          rename_i v d u f
          obtain ⟨⟨fd, ff⟩, q1⟩ := q1
          cases z : seqX M1 d with
          | none => rw [z] at q1; exact q1.elim
          | some es =>
            cases z' : seqX M1 f with
            | none => rw [z, z'] at q1; exact q1.elim
            | some fs =>
              rw [z, z'] at q1
              obtain ⟨hv, vs, hs, hr0⟩ := sc_at r1 h z
              obtain ⟨hv', vs', hs', hr0'⟩ := sc_at r1 h' z'
              have h1' : ∀ {Z' : Hid} {H : Hp} {M : Store}, Zx Z Z' H1 → Ext H1 M1 H M → R (mkH Z' H M) v d := fun zx ex => h.mono (ext_sb zx ex)
              have h2' : ∀ {Z' : Hid} {H : Hp} {M : Store}, Zx Z Z' H1 → Ext H1 M1 H M → R (mkH Z' H M) u f := fun zx ex => h'.mono (ext_sb zx ex)
              have hlz : (zipD es fs).length = min es.length fs.length := by simp [zipD]
              refine ⟨scOf v d, scOf u f, vs, vs', v, u, rfl, hv, hv', hs, hs', k _ H1 M1 (zipD es fs) _ r1 e1 ⟨fun Z' i H M zx rh ex c hi => ?_, fun Z' H M zx rh ex c => ?_, fun Z' i H M x H' zx rh ex c hi y => ?_, by rw [hlz]; exact Nat.le_trans (Nat.min_le_left _ _) (len_x r1 h z fd)⟩ q1⟩
              · obtain ⟨_, vs, hs, hr⟩ := sc_at rh (h1' zx ex) c.1
                obtain ⟨_, vs', hs', hr'⟩ := sc_at rh (h2' zx ex) c.2
                rw [hlz] at hi
                exact ⟨vs, vs', hs, hs', by rw [hr.length]; omega, by rw [hr'.length]; omega⟩
              · obtain ⟨_, vs, hs, hr⟩ := sc_at rh (h1' zx ex) c.1
                obtain ⟨_, vs', hs', hr'⟩ := sc_at rh (h2' zx ex) c.2
                rw [hlz]
                exact ⟨vs, vs', hs, hs', by rw [hr.length]; omega, by rw [hr'.length]; omega, by rw [hr.length, hr'.length]; omega⟩
              · obtain ⟨_, vs, hs, hr⟩ := sc_at rh (h1' zx ex) c.1
                obtain ⟨_, vs', hs', hr'⟩ := sc_at rh (h2' zx ex) c.2
                obtain ⟨T, x', y', rfl, nT, rfl, hx, hy⟩ := y
                obtain ⟨d1, g1, g2⟩ := hr.get (hx vs hs)
                obtain ⟨d2, g3, g4⟩ := hr'.get (hy vs' hs')
                obtain ⟨r2, e2, r3⟩ := new_tup (ds := [d1, d2]) rh nT two_line (.cons g2 (.one g4))
                exact ⟨_, by simp [zipD, List.getElem?_zipWith, g1, g3], r2, e2, r3⟩⟩

/-! ### targets -/
abbrev ATG := D → SL → Store → (SL → Store → Prop) → Prop
abbrev ATGs := List D → SL → Store → (SL → Store → Prop) → Prop
def SimG (b : BC) (K : PySem.W.Frag) (g : TG) (ag : ATG) : Prop :=
  ∀ (Z : Hid) (σ : L2.St) (H : Hp) (M : Store) (sl : SL) (v : V) (d : D) (Q : L2.St → Hp → Prop) (Qa : SL → Store → Prop), Rep K b.T Z H M σ sl → b.In Z H M → R (mkH Z H M) v d → ag d sl M Qa →
    (∀ σ' H' M' sl', Rep K b.T Z H' M' σ' sl' → Ext H M H' M' → Qa sl' M' → Q σ' H') → g v σ H Q
def SimGs (b : BC) (K : PySem.W.Frag) (g : TGs) (ag : ATGs) : Prop :=
  ∀ (Z : Hid) (σ : L2.St) (H : Hp) (M : Store) (sl : SL) (vs : List V) (ds : List D) (Q : L2.St → Hp → Prop) (Qa : SL → Store → Prop), Rep K b.T Z H M σ sl → b.In Z H M → Rs (mkH Z H M) vs ds → ag ds sl M Qa →
    (∀ σ' H' M' sl', Rep K b.T Z H' M' σ' sl' → Ext H M H' M' → Qa sl' M' → Q σ' H') → g vs σ H Q
structure DG (b : BC) (X : Cx) (tg : Expr) (g : TG) (ag : ATG) : Prop where
  pg : PG X tg g
  sim : SimG b X.K g ag
structure DGs (b : BC) (X : Cx) (tg : List Expr) (g : TGs) (ag : ATGs) : Prop where
  pg : PGs X tg g
  sim : SimGs b X.K g ag
@[simp] def aGName (i : Nat) : ATG := fun d sl M Q => Q (setD sl i (some d)) M
@[simp] def aGNil : ATGs := fun ds sl M Q => match ds with | [] => Q sl M | _ => False
@[simp] def aGCons (g : ATG) (r : ATGs) : ATGs := fun ds sl M Q => match ds with | d :: rest => g d sl M fun sl' M' => r rest sl' M' Q | [] => False
@[simp] def aGTup (n : Nat) (r : ATGs) : ATG := fun d sl M Q => match d with | .tup ds => ds.length = n ∧ r ds sl M Q | _ => False
variable {es : List Expr} {g : TG} {gs : TGs} {ag : ATG} {ags : ATGs}
theorem dg_name (i : Nat) {x : Str} (hN : X.N.Nodup) (hi : X.N[i]? = some x := by rfl) (hx : Loc X.env.scope x := by first | exact Or.inl rfl | exact Or.inr rfl) (hf : X.fn x = true ∨ X.env.scope.names.lookup x = some .local := by first | exact .inl rfl | exact .inr rfl) : DG b X (.Name x pos) (gName i) (aGName i) :=
  ⟨pg_name hN hi hx hf, fun Z σ H M sl v d Q Qa rp e r q k => k _ H M _ (rp.store r i) (Ext.refl H M) q⟩
theorem dgs_nil : DGs b X [] gNil aGNil := ⟨pgs_nil, fun Z σ H M sl vs ds Q Qa rp e r q k => by
  cases r with
  | nil => exact ⟨rfl, k _ H M _ rp (Ext.refl H M) q⟩
  | cons _ _ => exact q.elim⟩
theorem dgs_cons (h : DG b X e g ag) (hr : DGs b X es gs ags) (hs : (assignEach (e :: es) X.env).map (·.2) = assign e X.env :: (assignEach es X.env).map (·.2) := by rfl) : DGs b X (e :: es) (gCons g gs) (aGCons ag ags) := ⟨pgs_cons h.pg hr.pg hs, fun Z σ H M sl vs ds Q Qa rp e r q k => by
  cases r with
  | nil => exact q.elim
  | cons r1 r2 => exact ⟨_, _, rfl, h.sim Z σ H M sl _ _ _ _ rp e r1 q fun σ' H' M' sl' rp' e' q' => hr.sim Z σ' H' M' sl' _ _ _ _ rp' (e.trans e') (r2.mono e'.sb) q' fun σ2 H2 M2 sl2 rp2 e2 q2 => k σ2 H2 M2 sl2 rp2 (e'.trans e2) q2⟩⟩
theorem dg_tup {kk n : Nat} (hc : X.calm = true) (h : DGs b X es gs ags) (hn : (assignEach es X.env).length = n := by rfl) (hst : (assignEach es X.env).findIdx? (·.1) = none := by rfl) : DG b X (.Tuple es kk pos) (gTup X.K n gs) (aGTup n ags) := ⟨pg_tup hc h.pg hn hst, fun Z σ H M sl v d Q Qa rp e r q k => by
  cases r <;> first | exact q.elim | skip
  rename_i a vs ds h1 n1 h2
  exact ⟨a, vs, rfl, .inl (rd_mk h1), by rw [h2.length]; exact q.1, h.sim Z σ H M sl vs ds Q Qa rp e h2 q.2 k⟩⟩
/-- a target whose names are among vs -/
def GOn (vs : List Nat) (g : TG) : Prop := ∀ (v : V) (σ : L2.St) (H : Hp) (Q Q' : L2.St → Hp → Prop), (∀ σ' H', wipe σ' vs = wipe σ vs → Q σ' H' → Q' σ' H') → g v σ H Q → g v σ H Q'
def GsOn (vs : List Nat) (g : TGs) : Prop := ∀ (w : List V) (σ : L2.St) (H : Hp) (Q Q' : L2.St → Hp → Prop), (∀ σ' H', wipe σ' vs = wipe σ vs → Q σ' H' → Q' σ' H') → g w σ H Q → g w σ H Q'
theorem wipe_set : ∀ (vs : List Nat) (σ : L2.St) (i : Nat) (x : Option V), i ∈ vs → wipe (σ.set i x) vs = wipe σ vs
  | [], _, _, _, h => by cases h
  | w :: vs, σ, i, x, h => by
    unfold wipe
    by_cases hi : i ∈ vs
    · rw [wipe_set vs σ i x hi]
    · have e : i = w := (List.mem_cons.mp h).resolve_right hi
      subst e
      have : ∀ (vs : List Nat) (σ : L2.St), i ∉ vs → wipe (σ.set i x) vs = (wipe σ vs).set i x := fun vs => by
        induction vs with
        | nil => intro σ _; rfl
        | cons u vs ih =>
          intro σ hu
          unfold wipe
          rw [ih σ (fun z => hu (List.mem_cons_of_mem _ z))]
          exact List.set_comm _ _ (fun z => hu (by rw [z]; exact List.mem_cons_self))
      rw [this vs σ hi, List.set_set]
theorem gon_name {vs : List Nat} {i : Nat} (h : i ∈ vs := by decide) : GOn vs (gName i) := fun v σ H Q Q' i q => i _ _ (wipe_set vs σ _ _ h) q
theorem gson_nil {vs : List Nat} : GsOn vs gNil := fun v σ H Q Q' i q => ⟨q.1, i _ _ rfl q.2⟩
theorem gson_cons {vs : List Nat} (h : GOn vs g) (r : GsOn vs gs) : GsOn vs (gCons g gs) := fun w σ H Q Q' i q => by
  obtain ⟨v, rest, e, q⟩ := q
  exact ⟨v, rest, e, h v σ H _ _ (fun σ1 H1 w1 q1 => r rest σ1 H1 _ _ (fun σ2 H2 w2 q2 => i σ2 H2 (w2.trans w1) q2) q1) q⟩
theorem gon_tup {vs : List Nat} {K : PySem.W.Frag} {n : Nat} (r : GsOn vs gs) : GOn vs (gTup K n gs) := fun v σ H Q Q' i q => by
  obtain ⟨a, xs, h1, h2, h3, q⟩ := q
  exact ⟨a, xs, h1, h2, h3, r xs σ H Q Q' i q⟩
end
end AL
set_option Elab.async false
set_option linter.all false
set_option maxRecDepth 100000
set_option maxHeartbeats 4000000
set_option autoImplicit false
/-! AL5: comprehensions, loops, statements. -/
namespace AL
open PySem PySem.Spec PyProof.Rows L2 LamX

/-! ### list comprehensions -/
@[simp] def wipeD (sl : SL) : List Nat → SL
  | [] => sl
  | v :: vs => setD (wipeD sl vs) v none
theorem Rep.wipe {K : PySem.W.Frag} {T : List (Addr × Str)} {Z : Hid} {H : Hp} {M : Store} {σ : L2.St} {sl : SL} (h : Rep K T Z H M σ sl) : ∀ vs : List Nat, Rep K T Z H M (wipe σ vs) (wipeD sl vs)
  | [] => h
  | v :: vs => (Rep.wipe h vs).forget v
/-- what more is hidden -/
theorem RH.hideO {K : PySem.W.Frag} {T : List (Addr × Str)} {Z : Hid} {H : Hp} {M : Store} {p : Addr} {o : HO} (ho : HidO o) (h : RH K T Z H M) (n : H p = none) : RH K T (fun z => Z z || decide (z = p)) (upd H p o) M ∧ Ext H M (upd H p o) M := by
  obtain ⟨r, e⟩ := h.alloc (o := o) n
  refine ⟨⟨fun a c z => (h.cells a c z).mono (ext_sb (fun w q => ?_) e) ?_, r.tabs, fun w q => ?_, fun a q => ?_⟩, e⟩
  · cases y : Z w with
    | true => exact .inl rfl
    | false =>
      simp only [y, Bool.false_or, decide_eq_true_eq] at q
      rw [q]; exact .inr n
  · obtain ⟨u, z1, _⟩ := (h.cells a c z).at
    rw [upd_ne (ne_of_none z1 n)]
  · cases y : Z w with
    | true => exact r.hid w y
    | false =>
      simp only [y, Bool.false_or, decide_eq_true_eq] at q
      rw [q, upd_same]; exact ⟨o, rfl, ho⟩
  · have : a ≠ p := fun z => q (by rw [z]; exact h.free n)
    simp [h.dis a q, this]
theorem RH.hide {K : PySem.W.Frag} {T : List (Addr × Str)} {Z : Hid} {H : Hp} {M : Store} {p : Addr} {xs : List V} (h : RH K T Z H M) (n : H p = none) : RH K T (fun z => Z z || decide (z = p)) (upd H p (.lst xs)) M ∧ Ext H M (upd H p (.lst xs)) M := h.hideO (o := .lst xs) trivial n
theorem sb_unhide {Z Z' : Hid} {H : Hp} {M : Store} (h : ∀ z, Z z = true → Z' z = true) : Sb (mkH Z' H M) (mkH Z H M) := Sb.of fun b o q hn => by
  obtain ⟨h1, h2⟩ := mk_iff.mp q
  refine mk_iff.mpr ⟨⟨?_, h1.2⟩, h2⟩
  cases y : Z b with
  | false => rfl
  | true => rw [h b y] at h1; cases h1.1
theorem RH.unhide {K : PySem.W.Frag} {T : List (Addr × Str)} {Z Z' : Hid} {H : Hp} {M : Store} (r : RH K T Z' H M) (h : ∀ z, Z z = true → Z' z = true) : RH K T Z H M :=
  ⟨fun a c z => (r.cells a c z).mono (sb_unhide h) rfl, r.tabs, fun z q => r.hid z (h z q), fun a q => by
    cases y : Z a with
    | false => rfl
    | true => have := r.dis a q; rw [h a y] at this; cases this⟩
/-- a hidden thing changes -/
theorem RH.hputO {K : PySem.W.Frag} {T : List (Addr × Str)} {Z : Hid} {H : Hp} {M : Store} {p : Addr} {o o' : HO} (ho : HidO o') (r : RH K T Z H M) (hz : Z p = true) (h : H p = some o) (n1 : ∀ ps, o ≠ .tbl ps) (n2 : ∀ c q, o ≠ LamX.CodeO c q) : RH K T Z (upd H p o') M := by
  have em : mkH Z (upd H p o') M = mkH Z H M := by
    funext b
    by_cases e : b = p
    · subst e; rw [mk_hid hz, mk_hid hz]
    · unfold mkH; rw [upd_ne e]
  refine ⟨fun a c z => ?_, tabs_upd r.tabs h n1 n2, fun z q => ?_, r.dis⟩
  · rw [em]
    have ne : a ≠ p := fun e => by
      have := r.dis a (by rw [z]; exact fun x => by cases x)
      rw [e, hz] at this; cases this
    exact (r.cells a c z).mono (Sb.refl _) (by rw [upd_ne ne])
  · by_cases e : z = p
    · subst e; exact ⟨o', upd_same, ho⟩
    · obtain ⟨ys, y, y2⟩ := r.hid z q
      exact ⟨ys, by rw [upd_ne e]; exact y, y2⟩
theorem RH.hput {K : PySem.W.Frag} {T : List (Addr × Str)} {Z : Hid} {H : Hp} {M : Store} {p : Addr} {o : HO} {xs : List V} (r : RH K T Z H M) (hz : Z p = true) (h : H p = some o) (n1 : ∀ ps, o ≠ .tbl ps) (n2 : ∀ c q, o ≠ LamX.CodeO c q) : RH K T Z (upd H p (.lst xs)) M := r.hputO (o' := .lst xs) trivial hz h n1 n2
abbrev AElt := SL → Store → (D → Store → Prop) → Prop
@[simp] def lcL (chk : Store → Prop) (ag : ATG) (tt : ATT) (te : ATE) (sl : SL) : List D → List D → Store → (List D → Store → Prop) → Prop
  | [], acc, M, Q => chk M ∧ Q acc M
  | d :: r, acc, M, Q => chk M ∧ ag d sl M fun sl1 M1 => tt sl1 M1 fun c M2 => if c = true then te sl1 M2 fun y M3 => lcL chk ag tt te sl r (acc ++ [y]) M3 Q else lcL chk ag tt te sl r acc M2 Q
@[simp] def aLc (ai : ATI) (ag : ATG) (tt : ATT) (te : ATE) (vs : List Nat) : ATE := fun sl M Q => ai sl M fun ds chk M1 => lcL chk ag tt te (wipeD sl vs) ds [] M1 fun acc M2 => Q (.lst acc) M2
/-- .. the list goes into the store -/
@[simp] def aLcC (ai : ATI) (ag : ATG) (tt : ATT) (te : ATE) (vs : List Nat) : ATE := fun sl M Q => ai sl M fun ds chk M1 => lcL chk ag tt te (wipeD sl vs) ds [] M1 fun acc M2 => ∀ a, M2 a = none → Q (.ref a) (updS M2 a (.lst acc))
@[simp] def aYes : ATT := fun _ M Q => Q true M
theorem sim_yes {b : BC} {K : PySem.W.Frag} : SimT b K tYes aYes := fun Z σ H M sl Q Qa rp e q k => k true H M rp.rh (Ext.refl H M) q
theorem wipe_wipe {σ : L2.St} {vs : List Nat} : ∀ us : List Nat, (∀ i ∈ us, i ∈ vs) → wipe (wipe σ us) vs = wipe σ vs
  | [], _ => rfl
  | u :: us, h => by
    show wipe ((wipe σ us).set u none) vs = _
    rw [wipe_set vs _ u none (h u List.mem_cons_self)]
    exact wipe_wipe us fun i hi => h i (List.mem_cons_of_mem _ hi)
theorem Rep.toZ {K : PySem.W.Frag} {T : List (Addr × Str)} {Z Z' : Hid} {H H' : Hp} {M M' : Store} {σ : L2.St} {sl : SL} (h : Rep K T Z H M σ sl) (zx : Zx Z Z' H) (r : RH K T Z' H' M') (e : Ext H M H' M') : Rep K T Z' H' M' σ sl :=
  ⟨r, fun i d z => let ⟨v, h1, h2⟩ := h.slots i d z; ⟨v, h1, h2.mono (ext_sb zx e)⟩, h.len⟩
/-- the loop, up to what is done with the list at D -/
theorem lc_run {b : BC} {K : PySem.W.Frag} {wi : TI} {g : TG} {tt : TT} {te : TE} {ai : ATI} {ag : ATG} {att : ATT} {ate : ATE} {vs : List Nat} (hi : SimI b K wi ai) (hg : SimG b K g ag) (on : GOn vs g) (ht : SimT b K tt att) (he : Sim b K te ate)
    {Z : Hid} {σ : L2.St} {H : Hp} {M : Store} {sl : SL} {Q : VK} {Qa : List D → Store → Prop} (rp : Rep K b.T Z H M σ sl) (e : b.In Z H M) (q : ai sl M fun ds chk M1 => lcL chk ag att ate (wipeD sl vs) ds [] M1 Qa)
    (k : ∀ D H' M' acc vacc, RH K b.T (fun z => Z z || decide (z = D)) H' M' → Ext H M H' M' → (∀ c o, visM (M c) = true → H c = some o → (∀ ps, o ≠ .tbl ps) → c ≠ D) → Z D = false → M' D = none → H' D = some (.lst vacc) → Rs (mkH (fun z => Z z || decide (z = D)) H' M') vacc acc → acc.length ≤ sizeLine → Qa acc M' → Q (.ref D) H') :
    tLc wi g tt te vs σ H Q := by
  refine hi Z σ H M sl _ _ rp e q fun J H1 M1 ds chk r1 e1 it q1 D nD => ?_
  have nZ : Z D = false := r1.vis nD
  obtain ⟨Z', hZ'⟩ : ∃ Z' : Hid, Z' = fun z => Z z || decide (z = D) := ⟨_, rfl⟩
  have zx : Zx Z Z' H1 := fun w y => by
    cases z : Z w with
    | true => exact .inl rfl
    | false =>
      have : w = D := by simpa [hZ', z] using y
      rw [this]; exact .inr nD
  have zD : Z' D = true := by simp [hZ']
  have zsub : ∀ z, Z z = true → Z' z = true := fun z y => by simp [hZ', y]
  have r2e2 := r1.hide (xs := []) nD
  rw [← hZ'] at r2e2
  obtain ⟨r2, e2⟩ := r2e2
  have rpw : Rep K b.T Z H1 M1 (wipe σ vs) (wipeD sl vs) := (rp.to r1 e1).wipe vs
  refine ⟨fun i m H => m = ds.length - i ∧ i ≤ ds.length ∧ ∃ M acc vacc, RH K b.T Z' H M ∧ Ext H1 M1 H M ∧ H D = some (.lst vacc) ∧ Rs (mkH Z' H M) vacc acc ∧ acc.length ≤ i ∧ lcL chk ag att ate (wipeD sl vs) (ds.drop i) acc M Qa,
    ⟨ds.length, rfl, Nat.zero_le _, M1, [], [], r2, e2, upd_same, .nil, Nat.le_refl _, q1⟩, fun i m H2 ⟨hm, hi', M2, acc, vacc, r3, e3, hD, hacc, hl, q2⟩ => ?_⟩
  have nM : ∀ {H : Hp} {M : Store}, RH K b.T Z' H M → M D = none := fun {H M} r => by
    cases y : M D with
    | none => rfl
    | some c => have := r.dis D (by rw [y]; exact fun x => by cases x); rw [zD] at this; cases this
  rcases Nat.lt_or_ge i ds.length with hlt | hge
  · obtain ⟨d, hd⟩ : ∃ d, ds[i]? = some d := ⟨ds[i], List.getElem?_eq_getElem hlt⟩
    have hdrop : ds.drop i = d :: ds.drop (i + 1) := by
      rw [List.drop_eq_getElem_cons hlt]
      have : ds[i] = d := by rw [List.getElem?_eq_getElem hlt] at hd; exact Option.some.inj hd
      rw [this]
    rw [hdrop] at q2
    obtain ⟨hc, q2⟩ := q2
    refine .inr ⟨it.go Z' i H2 M2 zx r3 e3 hc hlt, fun H' => i + 1 ≤ ds.length ∧ ∃ M acc vacc, RH K b.T Z' H' M ∧ Ext H1 M1 H' M ∧ H' D = some (.lst vacc) ∧ Rs (mkH Z' H' M) vacc acc ∧ acc.length ≤ i + 1 ∧ lcL chk ag att ate (wipeD sl vs) (ds.drop (i + 1)) acc M Qa,
      fun H' ⟨h1, M', acc', vacc', h2⟩ => ⟨ds.length - (i + 1), by omega, rfl, h1, M', acc', vacc', h2⟩, fun x H3 y => ?_⟩
    obtain ⟨d', hd', r4, e4, rx⟩ := it.yld Z' i H2 M2 x H3 zx r3 e3 hc hlt y
    rw [hd] at hd'; cases hd'
    have rp3 : Rep K b.T Z' H3 M2 (wipe σ vs) (wipeD sl vs) := rpw.toZ zx r4 (e3.trans e4)
    have e03 : b.In Z' H3 M2 := ⟨((e.trans e1).trans (e3.trans e4)).ext, fun z y => zsub z (e.hid z y)⟩
    refine on x (wipe σ vs) H3 _ _ (fun σ4 H4 hw (q4 : tt σ4 H4 fun c H5 => if c = true then te σ4 H5 _ else _) => ⟨hw.trans (wipe_wipe vs fun _ h => h), q4⟩) ?_
    refine hg Z' (wipe σ vs) H3 M2 _ x d _ _ rp3 e03 rx q2 fun σ4 H4 M4 sl4 rp4 e4' q4 => ?_
    refine ht Z' σ4 H4 M4 sl4 _ _ rp4 (e03.trans e4') q4 fun c H5 M5 r5 e5 q5 => ?_
    have e35 : Ext H2 M2 H5 M5 := e4.trans (e4'.trans e5)
    have keepD : ∀ {H : Hp} {M : Store}, Ext H2 M2 H M → H D = some (.lst vacc) := fun ex => (ex D _ (vis_none (nM r3)) hD (fun ps z => by cases z)).2
    cases c
    · refine ⟨by omega, M5, acc, vacc, r5, e3.trans e35, keepD e35, hacc.mono e35.sb, by omega, q5⟩
    · refine he Z' σ4 H5 M5 sl4 _ _ (rp4.to r5 e5) ((e03.trans e4').trans e5) q5 fun w yd H6 M6 r6 e6 hy q6 => ?_
      have e36 : Ext H2 M2 H6 M6 := e35.trans e6
      have hD6 := keepD e36
      have hacc6 := hacc.mono e36.sb
      have em : ∀ o, mkH Z' (upd H6 D o) M6 = mkH Z' H6 M6 := fun o => by
        funext c
        by_cases hcD : c = D
        · subst hcD; rw [mk_hid zD, mk_hid zD]
        · unfold mkH; rw [upd_ne hcD]
      refine ⟨vacc, hD6, ?_, by omega, M6, acc ++ [yd], vacc ++ [w], r6.hput zD hD6 (fun _ z => by cases z) (fun _ _ z => by cases z), ?_, upd_same, ?_, ?_, q6⟩
      · rw [hacc6.length]; exact Nat.lt_of_le_of_lt hl (Nat.lt_of_lt_of_le hlt it.len)
      · intro c o c1 c2 c3
        obtain ⟨g1, g2⟩ := (e3.trans e36) c o c1 c2 c3
        exact ⟨g1, by rw [upd_ne (ne_of_none c2 nD)]; exact g2⟩
      · rw [em]; exact hacc6.append (.one hy)
      · rw [List.length_append, List.length_singleton]; omega
  · have hi2 : i = ds.length := by omega
    subst hi2
    rw [List.drop_length] at q2
    obtain ⟨hc, q2⟩ := q2
    refine .inl ⟨it.stop Z' H2 M2 zx r3 e3 hc, ?_⟩
    subst hZ'
    exact k D H2 M2 acc vacc r3 (e1.trans e3) (fun c o c1 c2 c3 z => by
      have := (e1 c o c1 c2 c3).2
      rw [z, nD] at this; cases this) nZ (nM r3) hD hacc (Nat.le_trans hl it.len) q2
theorem zz_sub {Z : Hid} {D : Addr} : ∀ z, Z z = true → (fun z => Z z || decide (z = D)) z = true := fun z y => by simp [y]
theorem sim_lc {b : BC} {K : PySem.W.Frag} {wi : TI} {g : TG} {tt : TT} {te : TE} {ai : ATI} {ag : ATG} {att : ATT} {ate : ATE} {vs : List Nat} (hi : SimI b K wi ai) (hg : SimG b K g ag) (on : GOn vs g) (ht : SimT b K tt att) (he : Sim b K te ate) :
    Sim b K (tLc wi g tt te vs) (aLc ai ag att ate vs) := fun Z σ H M sl Q Qa rp e q k =>
  lc_run hi hg on ht he rp e q fun D H' M' acc vacc r1 e1 fr nZ nM hD hacc hl q1 =>
    k _ _ H' M' (r1.unhide zz_sub) e1 (.lst (mk_of nZ nM hD) hl (hacc.mono (sb_unhide zz_sub))) q1
theorem mk_adopt {Z : Hid} {H : Hp} {M : Store} {D : Addr} {c : Cell} (nM : M D = none) (nt : visM (some c) = false := by rfl) : mkH Z H (updS M D c) = mkH (fun z => Z z || decide (z = D)) H M := by
  funext z
  by_cases e : z = D
  · subst e; rw [mk_some updS_same nt, mk_hid (by simp)]
  · unfold mkH; rw [updS_ne e]; simp [e]
theorem RH.adopt {K : PySem.W.Frag} {T : List (Addr × Str)} {Z : Hid} {H : Hp} {M : Store} {D : Addr} {vacc : List V} {acc : List AL.D} (r : RH K T (fun z => Z z || decide (z = D)) H M) (nZ : Z D = false) (nM : M D = none) (hD : H D = some (.lst vacc)) (hacc : Rs (mkH (fun z => Z z || decide (z = D)) H M) vacc acc) (hl : acc.length ≤ sizeLine) :
    RH K T Z H (updS M D (.lst acc)) := by
  refine ⟨fun a c z => ?_, r.tabs, fun z q => r.hid z (zz_sub z q), fun a q => ?_⟩
  · rw [mk_adopt nM]
    by_cases e : a = D
    · subst e; rw [updS_same] at z; cases z; exact ⟨hl, vacc, hD, hacc⟩
    · rw [updS_ne e] at z; exact r.cells a c z
  · by_cases e : a = D
    · subst e; exact nZ
    · rw [updS_ne e] at q
      have := r.dis a q
      simp only [Bool.or_eq_false_iff] at this
      exact this.1
theorem sim_lcC {b : BC} {K : PySem.W.Frag} {wi : TI} {g : TG} {tt : TT} {te : TE} {ai : ATI} {ag : ATG} {att : ATT} {ate : ATE} {vs : List Nat} (hi : SimI b K wi ai) (hg : SimG b K g ag) (on : GOn vs g) (ht : SimT b K tt att) (he : Sim b K te ate) :
    Sim b K (tLc wi g tt te vs) (aLcC ai ag att ate vs) := fun Z σ H M sl Q Qa rp e q k =>
  lc_run hi hg on ht he rp e q fun D H' M' acc vacc r1 e1 fr nZ nM hD hacc hl q1 =>
    k _ _ H' _ (r1.adopt nZ nM hD hacc hl) (fun c o c1 c2 c3 => by
      obtain ⟨g1, g2⟩ := e1 c o c1 c2 c3
      exact ⟨by rw [updS_ne (fr c o c1 c2 c3)]; exact g1, g2⟩) (.ref D) (q1 D nM)
section
variable {b : BC} {X : Cx} {pos : Pos} {elt tg iter : Expr} {ifs : List Expr} {scope : Scope} {own : List (Str × Nat)} {wi : TI} {g : TG} {tt : TT} {te : TE} {ai : ATI} {ag : ATG} {att : ATT} {ate : ATE}
structure DTs (b : BC) (X : Cx) (ifs : List Expr) (tt : TT) (at_ : ATT) : Prop where
  pt : PTs X ifs tt
  sim : SimT b X.K tt at_
theorem dts_nil : DTs b X [] tYes aYes := ⟨pts_nil, sim_yes⟩
theorem dts_one {c : Expr} (h : DT b X c tt att) : DTs b X [c] tt att := ⟨pts_one h.pt, h.sim⟩
theorem de_lc {ttf : Shared → Hp → Addr → List (Str × Addr) → List Addr → TT} {tef : Shared → Hp → Addr → List (Str × Addr) → List Addr → TE} (hc : X.calm = true) (hN : X.N.Nodup) (own : List (Str × Nat)) (hi : DI b X tg iter wi ai) (ok : blkC X.N X.env.scope scope own = true)
    (hg : ∀ (s : Shared) (H : Hp) (C : Addr) (cl : List (Str × Addr)) (fp : List Addr), DG b (X.blk s H scope (compEnvC scope cl C X.env) fp) tg g ag) (on : GOn (own.map (·.2)) g)
    (ht : ∀ (s : Shared) (H : Hp) (C : Addr) (cl : List (Str × Addr)) (fp : List Addr), DTs b (X.blk s H scope (compEnvC scope cl C X.env) fp) ifs (ttf s H C cl fp) att)
    (he : ∀ (s : Shared) (H : Hp) (C : Addr) (cl : List (Str × Addr)) (fp : List Addr), DE b (X.blk s H scope (compEnvC scope cl C X.env) fp) elt (tef s H C cl fp) ate) (hs : ∀ x, foldedSetIterable iter X.env x = pure x := by intro _; rfl) (htt : ∀ (s : Shared) (H : Hp) (C : Addr) (cl : List (Str × Addr)) (fp : List Addr), ttf s H C cl fp = ttf X.s_0 X.H_0 0 [] [] := by intros; rfl) (hte : ∀ (s : Shared) (H : Hp) (C : Addr) (cl : List (Str × Addr)) (fp : List Addr), tef s H C cl fp = tef X.s_0 X.H_0 0 [] [] := by intros; rfl) :
    DE b X (.ListComp elt [⟨tg, iter, ifs, 0⟩] scope pos) (tLc wi g (ttf X.s_0 X.H_0 0 [] []) (tef X.s_0 X.H_0 0 [] []) (own.map (·.2))) (aLc ai ag att ate (own.map (·.2))) :=
  ⟨pe_lc hc hN hi.pi (blkOk_by ok) (fun s H C cl fp => (hg s H C cl fp).pg) (fun s H C cl fp => htt s H C cl fp ▸ (ht s H C cl fp).pt) (fun s H C cl fp => hte s H C cl fp ▸ (he s H C cl fp).pe) hs,
   sim_lc hi.sim (hg X.s_0 X.H_0 0 [] []).sim on (ht X.s_0 X.H_0 0 [] []).sim (he X.s_0 X.H_0 0 [] []).sim⟩
theorem de_lcC {ttf : Shared → Hp → Addr → List (Str × Addr) → List Addr → TT} {tef : Shared → Hp → Addr → List (Str × Addr) → List Addr → TE} (hc : X.calm = true) (hN : X.N.Nodup) (own : List (Str × Nat)) (hi : DI b X tg iter wi ai) (ok : blkC X.N X.env.scope scope own = true)
    (hg : ∀ (s : Shared) (H : Hp) (C : Addr) (cl : List (Str × Addr)) (fp : List Addr), DG b (X.blk s H scope (compEnvC scope cl C X.env) fp) tg g ag) (on : GOn (own.map (·.2)) g)
    (ht : ∀ (s : Shared) (H : Hp) (C : Addr) (cl : List (Str × Addr)) (fp : List Addr), DTs b (X.blk s H scope (compEnvC scope cl C X.env) fp) ifs (ttf s H C cl fp) att)
    (he : ∀ (s : Shared) (H : Hp) (C : Addr) (cl : List (Str × Addr)) (fp : List Addr), DE b (X.blk s H scope (compEnvC scope cl C X.env) fp) elt (tef s H C cl fp) ate) (hs : ∀ x, foldedSetIterable iter X.env x = pure x := by intro _; rfl) (htt : ∀ (s : Shared) (H : Hp) (C : Addr) (cl : List (Str × Addr)) (fp : List Addr), ttf s H C cl fp = ttf X.s_0 X.H_0 0 [] [] := by intros; rfl) (hte : ∀ (s : Shared) (H : Hp) (C : Addr) (cl : List (Str × Addr)) (fp : List Addr), tef s H C cl fp = tef X.s_0 X.H_0 0 [] [] := by intros; rfl) :
    DE b X (.ListComp elt [⟨tg, iter, ifs, 0⟩] scope pos) (tLc wi g (ttf X.s_0 X.H_0 0 [] []) (tef X.s_0 X.H_0 0 [] []) (own.map (·.2))) (aLcC ai ag att ate (own.map (·.2))) :=
  ⟨pe_lc hc hN hi.pi (blkOk_by ok) (fun s H C cl fp => (hg s H C cl fp).pg) (fun s H C cl fp => htt s H C cl fp ▸ (ht s H C cl fp).pt) (fun s H C cl fp => hte s H C cl fp ▸ (he s H C cl fp).pe) hs,
   sim_lcC hi.sim (hg X.s_0 X.H_0 0 [] []).sim on (ht X.s_0 X.H_0 0 [] []).sim (he X.s_0 X.H_0 0 [] []).sim⟩
end
end AL
set_option Elab.async false
set_option linter.all false
set_option maxRecDepth 100000
set_option maxHeartbeats 4000000
set_option autoImplicit false
/-! AL6: statements. -/
namespace AL
open PySem PySem.Spec PyProof.Rows L2 LamX

section
variable {b : BC} {X : Cx} {pos : Pos} {st : Stmt} {sts rest : List Stmt} {e e1 e2 tg iter : Expr} {ts us : TS} {at_ au : ATS} {ta tb : TE} {aa ab : ATE} {tc : TT} {ac : ATT} {t : TA} {ata : ATA} {n : Nat} {g : TG} {ag : ATG} {wi : TI} {ai : ATI}
/-! ### blocks -/
@[simp] def aNext : ATS := fun E sl M => E.nx sl M
@[simp] def aSeq (t u : ATS) : ATS := fun E sl M => t { E with nx := u E } sl M
theorem sim_seq {K : PySem.W.Frag} (h1 : SimS b K ts at_) (h2 : SimS b K us au) : SimS b K (tSeq ts us) (aSeq at_ au) := fun Z σ H M sl E Ea rp e q k =>
  h1 Z σ H M sl _ _ rp e q ⟨fun σ' H' M' sl' r x q' => h2 Z σ' H' M' sl' E Ea r (e.trans x) q' (k.from x), k.rt, k.bk, k.ct⟩
theorem dss_nil : DSs b X [] tNext aNext := ⟨pss_nil, fun Z σ H M sl E Ea rp e q k => k.nx σ H M sl rp (Ext.refl H M) q⟩
theorem dss_cons (h1 : DS b X st ts at_) (h2 : DSs b X rest us au) : DSs b X (st :: rest) (tSeq ts us) (aSeq at_ au) := ⟨pss_cons h1.ps h2.ps, sim_seq h1.sim h2.sim⟩
theorem dss_one (h1 : DS b X st ts at_) : DSs b X [st] ts at_ := ⟨pss_one h1.ps, h1.sim⟩
@[simp] def aBreak : ATS := fun E sl M => E.bk sl M
@[simp] def aCont : ATS := fun E sl M => E.ct sl M
theorem ds_pass : DS b X (.Pass pos) tNext aNext := ⟨ps_pass, fun Z σ H M sl E Ea rp e q k => k.nx σ H M sl rp (Ext.refl H M) q⟩
theorem ds_break : DS b X (.Break pos) tBreak aBreak := ⟨ps_break, fun Z σ H M sl E Ea rp e q k => k.bk σ H M sl rp (Ext.refl H M) q⟩
theorem ds_continue : DS b X (.Continue pos) tCont aCont := ⟨ps_continue, fun Z σ H M sl E Ea rp e q k => k.ct σ H M sl rp (Ext.refl H M) q⟩
@[simp] def aDrop (a : ATE) : ATS := fun E sl M => a sl M fun _ M1 => E.nx sl M1
theorem ds_expr (ha : DE b X e ta aa) (hs : swapsWith e none pos.line X.env = pure false := by rfl) : DS b X (.Expr e pos) (tDrop ta) (aDrop aa) := ⟨ps_expr ha.pe hs, fun Z σ H M sl E Ea rp e q k =>
  ha.sim Z σ H M sl _ _ rp e q fun v d H' M' r x h q' => k.nx σ H' M' sl (rp.to r x) x q'⟩
@[simp] def aRet (a : ATE) : ATS := fun E sl M => a sl M E.rt
theorem ds_ret (ha : DE b X e ta aa) : DS b X (.Return (some e) pos) (tRet ta) (aRet aa) := ⟨ps_ret ha.pe, fun Z σ H M sl E Ea rp e q k =>
  ha.sim Z σ H M sl _ _ rp e q fun v d H' M' r x h q' => k.rt v d H' M' r x h q'⟩
@[simp] def aRetN : ATS := fun E sl M => E.rt .non M
theorem ds_retN : DS b X (.Return none pos) tRetN aRetN := ⟨ps_retN, fun Z σ H M sl E Ea rp e q k => k.rt .non .non H M rp.rh (Ext.refl H M) .non q⟩
@[simp] def aIf (c : ATT) (t u : ATS) : ATS := fun E sl M => c sl M fun x M1 => if x = true then t E sl M1 else u E sl M1
theorem ds_if {l1 l2 : List Stmt} (hc : DT b X e tc ac) (h1 : DSs b X l1 ts at_) (h2 : DSs b X l2 us au) : DS b X (.If e l1 l2 pos) (tIfS tc ts us) (aIf ac at_ au) := ⟨ps_if hc.pt h1.ps h2.ps, fun Z σ H M sl E Ea rp e q k =>
  hc.sim Z σ H M sl _ _ rp e q fun c H1 M1 r1 e1 q1 => by
    cases c
    · exact h2.sim Z σ H1 M1 sl E Ea (rp.to r1 e1) (e.trans e1) q1 (k.from e1)
    · exact h1.sim Z σ H1 M1 sl E Ea (rp.to r1 e1) (e.trans e1) q1 (k.from e1)⟩
@[simp] def aNever : ATS := fun _ _ _ => False
theorem ds_never : DS b X st tNever aNever := ⟨ps_never, fun Z σ H M sl E Ea rp e q k => q⟩
theorem dss_never : DSs b X sts tNever aNever := ⟨pss_never, fun Z σ H M sl E Ea rp e q k => q⟩

/-! ### stores -/
@[simp] def aAsg (a : ATE) (g : ATG) : ATS := fun E sl M => a sl M fun d M1 => g d sl M1 E.nx
theorem sim_asg {K : PySem.W.Frag} (ha : Sim b K ta aa) (hg : SimG b K g ag) : SimS b K (tAsg ta g) (aAsg aa ag) := fun Z σ H M sl E Ea rp e q k =>
  ha Z σ H M sl _ _ rp e q fun v d H1 M1 r1 e1 h1 q1 => hg Z σ H1 M1 sl v d _ _ (rp.to r1 e1) (e.trans e1) h1 q1 fun σ' H' M' sl' r' e' q' => k.nx σ' H' M' sl' r' (e1.trans e') q'
theorem ds_asg (ha : DE b X e ta aa) (hg : DG b X tg g ag) (hs : swapsWithSole [tg] e pos.line X.env = pure false := by rfl) (hw : swappedStores [tg] e X.env = pure none := by rfl) (h1 : (assignEach [tg] X.env).map (·.2) = [assign tg X.env] := by rfl) : DS b X (.Assign [tg] e pos) (tAsg ta g) (aAsg aa ag) := ⟨ps_asg ha.pe hg.pg hs hw h1, sim_asg ha.sim hg.sim⟩
theorem sim_gname {K : PySem.W.Frag} (i : Nat) : SimG b K (gName i) (aGName i) := fun Z σ H M sl v d Q Qa rp e r q k => k _ H M _ (rp.store r i) (Ext.refl H M) q
theorem ds_set (i : Nat) {x : Str} {pos' : Pos} (hN : X.N.Nodup) (ha : DE b X e ta aa) (hi : X.N[i]? = some x := by rfl) (hx : Loc X.env.scope x := by first | exact Or.inl rfl | exact Or.inr rfl) (hs : swapsWith e (some (.Name x pos')) pos.line X.env = pure false := by rfl) (hf : X.fn x = true ∨ X.env.scope.names.lookup x = some .local := by first | exact .inl rfl | exact .inr rfl) :
    DS b X (.Assign [.Name x pos'] e pos) (tAsg ta (gName i)) (aAsg aa (aGName i)) := ⟨ps_set hN hi hx ha.pe hs hf, sim_asg ha.sim (sim_gname i)⟩
theorem ds_setLc (i : Nat) {y : Str} {py : Pos} {elt tg iter : Expr} {ifs : List Expr} {scope : Scope} (own : List (Str × Nat)) {pos spos : Pos} {ttf : Shared → Hp → Addr → List (Str × Addr) → List Addr → TT} {tef : Shared → Hp → Addr → List (Str × Addr) → List Addr → TE} {att : ATT} {ate : ATE} (hc : X.calm = true) (hN : X.N.Nodup)
    (hi : DI b X tg iter wi ai) (ok : blkC X.N X.env.scope scope own = true) (hsw : swapsWith (.ListComp elt [⟨tg, iter, ifs, 0⟩] scope pos) (some (.Name y py)) spos.line X.env = pure true)
    (hg : ∀ (s : Shared) (H : Hp) (C : Addr) (cl : List (Str × Addr)) (fp : List Addr), DG b (X.blk s H scope (compEnvC scope cl C X.env) fp) tg g ag) (on : GOn (own.map (·.2)) g)
    (ht : ∀ (s : Shared) (H : Hp) (C : Addr) (cl : List (Str × Addr)) (fp : List Addr), DTs b (X.blk s H scope (compEnvC scope cl C X.env) fp) ifs (ttf s H C cl fp) att)
    (he : ∀ (s : Shared) (H : Hp) (C : Addr) (cl : List (Str × Addr)) (fp : List Addr), DE b (X.blk s H scope (compEnvC scope cl C X.env) fp) elt (tef s H C cl fp) ate)
    (hy : X.N[i]? = some y := by rfl) (hyl : X.env.scope.names.lookup y = some .local := by rfl) (hs : ∀ x, foldedSetIterable iter X.env x = pure x := by intro _; rfl) (htt : ∀ (s : Shared) (H : Hp) (C : Addr) (cl : List (Str × Addr)) (fp : List Addr), ttf s H C cl fp = ttf X.s_0 X.H_0 0 [] [] := by intros; rfl) (hte : ∀ (s : Shared) (H : Hp) (C : Addr) (cl : List (Str × Addr)) (fp : List Addr), tef s H C cl fp = tef X.s_0 X.H_0 0 [] [] := by intros; rfl) :
    DS b X (.Assign [.Name y py] (.ListComp elt [⟨tg, iter, ifs, 0⟩] scope pos) spos) (tAsg (tLc wi g (ttf X.s_0 X.H_0 0 [] []) (tef X.s_0 X.H_0 0 [] []) (own.map (·.2))) (gName i)) (aAsg (aLc ai ag att ate (own.map (·.2))) (aGName i)) :=
  ⟨ps_setLc hc hN hy hyl hsw hi.pi (blkOk_by ok) (fun s H C cl fp => (hg s H C cl fp).pg) (fun s H C cl fp => htt s H C cl fp ▸ (ht s H C cl fp).pt) (fun s H C cl fp => hte s H C cl fp ▸ (he s H C cl fp).pe) hs,
   sim_asg (sim_lc hi.sim (hg X.s_0 X.H_0 0 [] []).sim on (ht X.s_0 X.H_0 0 [] []).sim (he X.s_0 X.H_0 0 [] []).sim) (sim_gname i)⟩
theorem ds_setLcC (i : Nat) {y : Str} {py : Pos} {elt tg iter : Expr} {ifs : List Expr} {scope : Scope} (own : List (Str × Nat)) {pos spos : Pos} {ttf : Shared → Hp → Addr → List (Str × Addr) → List Addr → TT} {tef : Shared → Hp → Addr → List (Str × Addr) → List Addr → TE} {att : ATT} {ate : ATE} (hc : X.calm = true) (hN : X.N.Nodup)
    (hi : DI b X tg iter wi ai) (ok : blkC X.N X.env.scope scope own = true) (hsw : swapsWith (.ListComp elt [⟨tg, iter, ifs, 0⟩] scope pos) (some (.Name y py)) spos.line X.env = pure true)
    (hg : ∀ (s : Shared) (H : Hp) (C : Addr) (cl : List (Str × Addr)) (fp : List Addr), DG b (X.blk s H scope (compEnvC scope cl C X.env) fp) tg g ag) (on : GOn (own.map (·.2)) g)
    (ht : ∀ (s : Shared) (H : Hp) (C : Addr) (cl : List (Str × Addr)) (fp : List Addr), DTs b (X.blk s H scope (compEnvC scope cl C X.env) fp) ifs (ttf s H C cl fp) att)
    (he : ∀ (s : Shared) (H : Hp) (C : Addr) (cl : List (Str × Addr)) (fp : List Addr), DE b (X.blk s H scope (compEnvC scope cl C X.env) fp) elt (tef s H C cl fp) ate)
    (hy : X.N[i]? = some y := by rfl) (hyl : X.env.scope.names.lookup y = some .local := by rfl) (hs : ∀ x, foldedSetIterable iter X.env x = pure x := by intro _; rfl) (htt : ∀ (s : Shared) (H : Hp) (C : Addr) (cl : List (Str × Addr)) (fp : List Addr), ttf s H C cl fp = ttf X.s_0 X.H_0 0 [] [] := by intros; rfl) (hte : ∀ (s : Shared) (H : Hp) (C : Addr) (cl : List (Str × Addr)) (fp : List Addr), tef s H C cl fp = tef X.s_0 X.H_0 0 [] [] := by intros; rfl) :
    DS b X (.Assign [.Name y py] (.ListComp elt [⟨tg, iter, ifs, 0⟩] scope pos) spos) (tAsg (tLc wi g (ttf X.s_0 X.H_0 0 [] []) (tef X.s_0 X.H_0 0 [] []) (own.map (·.2))) (gName i)) (aAsg (aLcC ai ag att ate (own.map (·.2))) (aGName i)) :=
  ⟨ps_setLc hc hN hy hyl hsw hi.pi (blkOk_by ok) (fun s H C cl fp => (hg s H C cl fp).pg) (fun s H C cl fp => htt s H C cl fp ▸ (ht s H C cl fp).pt) (fun s H C cl fp => hte s H C cl fp ▸ (he s H C cl fp).pe) hs,
   sim_asg (sim_lcC hi.sim (hg X.s_0 X.H_0 0 [] []).sim on (ht X.s_0 X.H_0 0 [] []).sim (he X.s_0 X.H_0 0 [] []).sim) (sim_gname i)⟩
/-- a, b = e1, e2 with plain local names -/
@[simp] def aPar (i j : Nat) (t : ATA) : ATS := fun E sl M => t sl M fun ds M1 => match ds with | [d, e] => E.nx (setD (setD sl i (some d)) j (some e)) M1 | _ => False
theorem ds_par (i j : Nat) {x y : Str} {px py pt : Pos} {kt k2 : Nat} {pt2 : Pos} (hc : X.calm = true) (hN : X.N.Nodup) (ha : DA b X [e1, e2] t ata 2) (hi : X.N[i]? = some x := by rfl) (hj : X.N[j]? = some y := by rfl) (hij : i ≠ j := by decide)
    (hx : X.env.scope.names.lookup x = some .local := by rfl) (hy : X.env.scope.names.lookup y = some .local := by rfl)
    (hw : swappedStores [.Tuple [.Name x px, .Name y py] kt pt] (.Tuple [e1, e2] k2 pt2) X.env = pure (some [x, y]) := by rfl)
    (hs : swapsWithSole [.Tuple [.Name x px, .Name y py] kt pt] (.Tuple [e1, e2] k2 pt2) pos.line X.env = pure false := by rfl) :
    DS b X (.Assign [.Tuple [.Name x px, .Name y py] kt pt] (.Tuple [e1, e2] k2 pt2) pos) (tPar i j t) (aPar i j ata) := ⟨ps_par hc hN hi hj hij hx hy ha.pa hw hs, fun Z σ H M sl E Ea rp e q k =>
  ha.sim Z σ H M sl _ _ rp e q fun vs ds H1 M1 r1 e1 h1 l1 q1 => by
    cases h1 with
    | nil => exact q1.elim
    | cons h r =>
      cases r with
      | nil => cases l1
      | cons h' r' =>
        cases r' with
        | cons _ _ => cases l1
        | nil => exact ⟨_, _, rfl, k.nx _ H1 M1 _ (((rp.to r1 e1).store h i).store h' j) e1 q1⟩⟩
/-- name op= e -/
@[simp] def aAug (i : Nat) (op : R2A) (a : ATE) : ATS := fun E sl M => match slotD sl i with | some x => a sl M fun y M1 => op x y M1 fun z M2 => E.nx (setD sl i (some z)) M2 | none => False
theorem ds_aug (i : Nat) {x : Str} {op : Operator} {r : R2} {ar : R2A} {pos' : Pos} (hN : X.N.Nodup) (ho : OpR X (inplaceOp op) r) (os : OpSim b X.K r ar) (ha : DE b X e ta aa) (hi : X.N[i]? = some x := by rfl) (hx : Loc X.env.scope x := by first | exact Or.inl rfl | exact Or.inr rfl) (hf : X.fn x = true ∨ X.env.scope.names.lookup x = some .local := by first | exact .inl rfl | exact .inr rfl) :
    DS b X (.AugAssign (.Name x pos') op e pos) (tAug i ta r) (aAug i ar aa) := ⟨ps_aug hN hi hx ha.pe ho hf, fun Z σ H M sl E Ea rp e q k => by
  unfold aAug at q
  cases z : slotD sl i with
  | none => rw [z] at q; exact q.elim
  | some d =>
    rw [z] at q
    obtain ⟨v, h1, h2⟩ := rp.slots i d (slotD_get z)
    refine ⟨v, h1, ha.sim Z σ H M sl _ _ rp e q fun u d2 H1 M1 r1 e1 h3 q1 => ?_⟩
    exact os Z H1 M1 v u d d2 _ _ r1 (h2.mono e1.sb) h3 q1 fun w d3 H2 M2 r2 e2 h4 q2 => k.nx _ H2 M2 _ ((rp.to r2 (e1.trans e2)).store h4 i) (e1.trans e2) q2⟩
theorem iop_mulW : OpR X (inplaceOp .Mult) (rI CMulW fun i j => .int (i * j)) := opI fun _ _ _ _ _ _ _ hc q => imul_int q hc.ok
@[simp] def addI : R2A := fun d e M Q => match d, e with | .int i, .int j => Q (.int (i + j)) M | _, _ => False
@[simp] def mulI : R2A := fun d e M Q => match d, e with | .int i, .int j => CMulW i j ∧ Q (.int (i * j)) M | _, _ => False
theorem os_addI {K : PySem.W.Frag} : OpSim b K (rI0 fun i j => .int (i + j)) addI := os_int0 fun i j F => .int _
theorem os_subI {K : PySem.W.Frag} : OpSim b K (rI0 fun i j => .int (i - j)) subD := os_int0 fun i j F => .int _
theorem os_mulI {K : PySem.W.Frag} : OpSim b K (rI CMulW fun i j => .int (i * j)) mulI := os_int fun i j F => .int _
theorem ds_augAdd (i : Nat) {x : Str} {pos' : Pos} (hN : X.N.Nodup) (ha : DE b X e ta aa) (hi : X.N[i]? = some x := by rfl) (hx : Loc X.env.scope x := by first | exact Or.inl rfl | exact Or.inr rfl) (hf : X.fn x = true ∨ X.env.scope.names.lookup x = some .local := by first | exact .inl rfl | exact .inr rfl) :
    DS b X (.AugAssign (.Name x pos') .Add e pos) (tAug i ta (rI0 fun i j => .int (i + j))) (aAug i addI aa) := ds_aug i hN iop_add os_addI ha hi hx hf
theorem ds_augSub (i : Nat) {x : Str} {pos' : Pos} (hN : X.N.Nodup) (ha : DE b X e ta aa) (hi : X.N[i]? = some x := by rfl) (hx : Loc X.env.scope x := by first | exact Or.inl rfl | exact Or.inr rfl) (hf : X.fn x = true ∨ X.env.scope.names.lookup x = some .local := by first | exact .inl rfl | exact .inr rfl) :
    DS b X (.AugAssign (.Name x pos') .Sub e pos) (tAug i ta (rI0 fun i j => .int (i - j))) (aAug i subD aa) := ds_aug i hN iop_sub os_subI ha hi hx hf
theorem ds_augMul (i : Nat) {x : Str} {pos' : Pos} (hN : X.N.Nodup) (ha : DE b X e ta aa) (hi : X.N[i]? = some x := by rfl) (hx : Loc X.env.scope x := by first | exact Or.inl rfl | exact Or.inr rfl) (hf : X.fn x = true ∨ X.env.scope.names.lookup x = some .local := by first | exact .inl rfl | exact .inr rfl) :
    DS b X (.AugAssign (.Name x pos') .Mult e pos) (tAug i ta (rI CMulW fun i j => .int (i * j))) (aAug i mulI aa) := ds_aug i hN iop_mulW os_mulI ha hi hx hf
/-- xs[i] = e for a list of the store -/
@[simp] def aGSubL (ao ai : ATE) : ATG := fun v sl M Q => ao sl M fun o M1 => ai sl M1 fun i M2 => match o, i with
  | .ref a, .int j => (match M2 a with | some (.lst ds) => (match ixN ds.length j with | some k => Q sl (updS M2 a (.lst (ds.set k v))) | none => False) | _ => False)
  | _, _ => False
theorem dg_subL (ho : DE b X e1 ta aa) (hi : DE b X e2 tb ab)
    (ha : ∀ v, assign (.Subscript e1 e2 pos) X.env v = (do
      let ov ← holding [v] (eval e1 X.env)
      let iv ← holding [v, ov] (eval e2 X.env)
      standAt pos
      holding [v, ov, iv] (setItem ov iv v)
      release [v, ov, iv] []) := by intro _; rfl) : DG b X (.Subscript e1 e2 pos) (gSub ta tb rSetL) (aGSubL aa ab) := ⟨pg_sub ho.pe hi.pe set_list ha, fun Z σ H M sl v d Q Qa rp e r q k =>
  ho.sim Z σ H M sl _ _ rp e q fun o do_ H1 M1 r1 e1 h1 q1 => hi.sim Z σ H1 M1 sl _ _ (rp.to r1 e1) (e.trans e1) q1 fun i di H2 M2 r2 e2 h2 q2 => by
    have h1' := h1.mono e2.sb
    cases h1' with
    | ref a =>
      cases h2 with
      | int j =>
        have q2 : (match M2 a with | some (.lst ds) => (match ixN ds.length j with | some k => Qa sl (updS M2 a (.lst (ds.set k d))) | none => False) | _ => False) := q2
        cases z : M2 a with
        | none => rw [z] at q2; exact q2.elim
        | some c =>
          rw [z] at q2
          cases c with
          | lst ds =>
            have q2 : (match ixN ds.length j with | some k => Qa sl (updS M2 a (.lst (ds.set k d))) | none => False) := q2
            cases z2 : ixN ds.length j with
            | none => rw [z2] at q2; exact q2.elim
            | some kk =>
              rw [z2] at q2
              obtain ⟨nl, vs, hv, hr⟩ := r2.cells a _ z
              have hr' := hr.set (r.mono (e1.trans e2).sb) kk
              obtain ⟨r3, e3⟩ := r2.put (o := .lst (vs.set kk v)) (c' := .lst (ds.set kk d)) z ⟨by rw [List.length_set]; exact nl, _, upd_same, hr'⟩
              exact ⟨a, vs, j, kk, rfl, rfl, hv, by rw [hr.length]; exact z2, k σ _ _ sl (rp.to r3 (e1.trans (e2.trans e3))) (e1.trans (e2.trans e3)) q2⟩
          | _ => exact q2.elim
      | _ => exact q2.elim
    | _ => exact q2.elim⟩
/-- xs.append(e) -/
@[simp] def aApp (ao : ATE) (t : ATA) : ATE := fun sl M Q => ao sl M fun o M1 => match o with
  | .ref a => (cellL (M1 a)).isSome = true ∧ t sl M1 fun ds M2 => (match M2 a, ds with | some (.lst xs), [y] => xs.length < sizeLine ∧ Q .non (updS M2 a (.lst (xs ++ [y]))) | _, _ => False)
  | _ => False
theorem cellL_some {c : Option Cell} (h : (cellL c).isSome = true) : ∃ ds, c = some (.lst ds) := by
  cases c with
  | none => cases h
  | some c => cases c with
    | lst ds => exact ⟨ds, rfl⟩
    | _ => cases h
theorem de_append {p1 p2 : Pos} (ho : DE b X e1 ta aa) (ha : DA b X [e2] t ata 1) (hp : PE X (.Call (.Attribute e1 "append" p1) [e2] [] p2) (tBM X.K "list" rAppend ta t)) :
    DE b X (.Call (.Attribute e1 "append" p1) [e2] [] p2) (tBM X.K "list" rAppend ta t) (aApp aa ata) := ⟨hp, fun Z σ H M sl Q Qa rp e q k =>
  ho.sim Z σ H M sl _ _ rp e q fun o do_ H1 M1 r1 e1 h1 q1 => by
    cases h1 with
    | ref a =>
      obtain ⟨h2, q1⟩ := q1
      obtain ⟨ds0, h2⟩ := cellL_some h2
      obtain ⟨n0, vs0, hv0, _⟩ := r1.cells a _ h2
      refine ⟨.inl ⟨rfl, vs0, .of hv0⟩, ha.sim Z σ H1 M1 sl _ _ (rp.to r1 e1) (e.trans e1) q1 fun vs ds H2 M2 r2 e2 h3 l3 q2 => ?_⟩
      cases h3 with
      | nil => cases l3
      | cons h r =>
        cases r with
        | cons _ _ => cases l3
        | nil =>
          rename_i y dy
          have q2 : (match M2 a, [dy] with | some (.lst xs), [y] => xs.length < sizeLine ∧ Qa .non (updS M2 a (.lst (xs ++ [y]))) | _, _ => False) := q2
          cases z : M2 a with
          | none => rw [z] at q2; exact q2.elim
          | some c =>
            rw [z] at q2
            cases c with
            | lst xs =>
              obtain ⟨hl, q2⟩ := q2
              obtain ⟨nl, vs, hv, hr⟩ := r2.cells a _ z
              obtain ⟨r3, e3⟩ := r2.put (o := .lst (vs ++ [y])) (c' := .lst (xs ++ [dy])) z ⟨by rw [List.length_append, List.length_singleton]; exact hl, _, upd_same, hr.append (.one h)⟩
              exact ⟨a, vs, y, rfl, rfl, hv, by rw [hr.length]; exact hl, k _ _ _ _ r3 (e1.trans (e2.trans e3)) .non q2⟩
            | _ => exact q2.elim
    | _ => exact q1.elim⟩

/-! ### things of the store become data -/
@[simp] def aFrz (i : Nat) (u : ATS) : ATS := fun E sl M => match slotD sl i with
  | some (.ref a) => (match M a with | some (.lst ds) => u E (setD sl i (some (.lst ds))) (delS M a) | some (.dic ds) => u E (setD sl i (some (.dic ds))) (delS M a) | some (.tp ds) => u E (setD sl i (some (.tup ds))) (delS M a) | _ => False)
  | _ => False
theorem Rep.putD {K : PySem.W.Frag} {T : List (Addr × Str)} {Z : Hid} {H : Hp} {M : Store} {σ : L2.St} {sl : SL} {v : V} {d : D} (h : Rep K T Z H M σ sl) (i : Nat) (hv : σ[i]? = some (some v)) (r : R (mkH Z H M) v d) : Rep K T Z H M σ (setD sl i (some d)) := by
  have z := h.store r i
  have e : σ.set i (some v) = σ := by
    apply List.ext_getElem?
    intro j
    by_cases hj : i = j
    · subst hj; rw [List.getElem?_set_self (List.getElem?_eq_some_iff.mp hv).1, hv]
    · rw [List.getElem?_set_ne hj]
  rwa [e] at z
theorem sim_frz {K : PySem.W.Frag} (i : Nat) (h : SimS b K us au) : SimS b K us (aFrz i au) := fun Z σ H M sl E Ea rp e q k => by
  unfold aFrz at q
  cases z : slotD sl i with
  | none => rw [z] at q; exact q.elim
  | some d =>
    rw [z] at q
    cases d with
    | ref a =>
      obtain ⟨v, hv, r⟩ := rp.slots i _ (slotD_get z)
      cases r
      have q : (match M a with | some (.lst ds) => au Ea (setD sl i (some (.lst ds))) (delS M a) | some (.dic ds) => au Ea (setD sl i (some (.dic ds))) (delS M a) | some (.tp ds) => au Ea (setD sl i (some (.tup ds))) (delS M a) | _ => False) := q
      cases z2 : M a with
      | none => rw [z2] at q; exact q.elim
      | some c =>
        rw [z2] at q
        have rp1 := rp.to (rp.rh.del (a := a)) Ext.del
        cases c with
        | lst ds => exact h Z σ H _ _ E Ea (rp1.putD i hv (rp.rh.delL z2)) (e.trans Ext.del) q (k.from Ext.del)
        | dic ds => exact h Z σ H _ _ E Ea (rp1.putD i hv (rp.rh.delD z2)) (e.trans Ext.del) q (k.from Ext.del)
        | tp ds => exact h Z σ H _ _ E Ea (rp1.putD i hv (rp.rh.delT z2)) (e.trans Ext.del) q (k.from Ext.del)
        | _ => exact q.elim
    | _ => exact q.elim
theorem dss_frz (i : Nat) (h : DSs b X sts us au) : DSs b X sts us (aFrz i au) := ⟨h.ps, sim_frz i h.sim⟩

/-! ### loops -/
@[simp] def forL (chk : Store → Prop) (ag : ATG) (ab : ATS) : List D → ATS
  | [], E, sl, M => chk M ∧ E.nx sl M
  | d :: r, E, sl, M => chk M ∧ ag d sl M fun sl' M' => ab { E with nx := forL chk ag ab r E, ct := forL chk ag ab r E, bk := E.nx } sl' M'
@[simp] def aFor (ai : ATI) (ag : ATG) (ab : ATS) : ATS := fun E sl M => ai sl M fun ds chk M1 => forL chk ag ab ds E sl M1
theorem sim_for {K : PySem.W.Frag} (hi : SimI b K wi ai) (hg : SimG b K g ag) (hb : SimS b K ts at_) : SimS b K (tFor wi g ts) (aFor ai ag at_) := fun Z σ H M sl E Ea rp e q k => by
  refine hi Z σ H M sl _ _ rp e q fun J H1 M1 ds chk r1 e1 it q1 => ?_
  refine ⟨fun i m σ H => m = ds.length - i ∧ i ≤ ds.length ∧ ∃ M sl, Rep K b.T Z H M σ sl ∧ Ext H1 M1 H M ∧ forL chk ag at_ (ds.drop i) Ea sl M,
    ⟨ds.length, rfl, Nat.zero_le _, M1, sl, rp.to r1 e1, Ext.refl _ _, q1⟩, fun i m σ2 H2 ⟨hm, hi', M2, sl2, rp2, e2, q2⟩ => ?_⟩
  rcases Nat.lt_or_ge i ds.length with hlt | hge
  · obtain ⟨d, hd⟩ : ∃ d, ds[i]? = some d := ⟨ds[i], List.getElem?_eq_getElem hlt⟩
    have hdrop : ds.drop i = d :: ds.drop (i + 1) := by
      rw [List.drop_eq_getElem_cons hlt]
      have : ds[i] = d := by rw [List.getElem?_eq_getElem hlt] at hd; exact Option.some.inj hd
      rw [this]
    rw [hdrop] at q2
    obtain ⟨hc, q2⟩ := q2
    refine .inr ⟨it.go Z i H2 M2 (Zx.refl _ _) rp2.rh e2 hc hlt, fun σ' H' => i + 1 ≤ ds.length ∧ ∃ M sl, Rep K b.T Z H' M σ' sl ∧ Ext H1 M1 H' M ∧ forL chk ag at_ (ds.drop (i + 1)) Ea sl M,
      fun σ' H' ⟨h1, M', sl', h2⟩ => ⟨ds.length - (i + 1), by omega, rfl, h1, M', sl', h2⟩, fun x H3 y => ?_⟩
    obtain ⟨d', hd', r4, e4, rx⟩ := it.yld Z i H2 M2 x H3 (Zx.refl _ _) rp2.rh e2 hc hlt y
    rw [hd] at hd'; cases hd'
    have e03 : Ext H M H3 M2 := e1.trans (e2.trans e4)
    refine hg Z σ2 H3 M2 sl2 x d _ _ (rp2.to r4 e4) (e.trans e03) rx q2 fun σ4 H4 M4 sl4 rp4 e4' q4 => ?_
    have e04 := e03.trans e4'
    have e14 := e2.trans (e4.trans e4')
    refine hb Z σ4 H4 M4 sl4 _ _ rp4 (e.trans e04) q4 ⟨fun σ' H' M' sl' r x q' => ⟨by omega, M', sl', r, e14.trans x, q'⟩, fun v d H' M' r x h q' => k.rt v d H' M' r (e04.trans x) h q',
      fun σ' H' M' sl' r x q' => k.nx σ' H' M' sl' r (e04.trans x) q', fun σ' H' M' sl' r x q' => ⟨by omega, M', sl', r, e14.trans x, q'⟩⟩
  · have hi2 : i = ds.length := by omega
    subst hi2
    rw [List.drop_length] at q2
    obtain ⟨hc, q2⟩ := q2
    exact .inl ⟨it.stop Z H2 M2 (Zx.refl _ _) rp2.rh e2 hc, k.nx σ2 H2 M2 sl2 rp2 (e1.trans e2) q2⟩
theorem ds_for {body : List Stmt} (hp : PassesOwn (model X.prog X.w) X.A X.env X.xe) (hc : X.calm = true) (hi : DI b X tg iter wi ai) (hg : DG b X tg g ag) (hb : DSs b X body ts at_) (hs : ∀ x, foldedSetIterable iter X.env x = pure x := by intro _; rfl) :
    DS b X (.For tg iter body [] pos) (tFor wi g ts) (aFor ai ag at_) := ⟨ps_for hp hc hi.pi hg.pg hb.ps hs, sim_for hi.sim hg.sim hb.sim⟩
/-- while: what holds between the turns, and a number that falls -/
def aWhile (c : ATT) (t : ATS) : ATS := fun E sl M => ∃ I : Nat → SL → Store → Prop, (∃ m, I m sl M) ∧ ∀ m sl M, I m sl M →
  c sl M fun x M1 => if x = true then t { E with nx := fun sl' M' => ∃ m', m' < m ∧ I m' sl' M', ct := fun sl' M' => ∃ m', m' < m ∧ I m' sl' M', bk := E.nx } sl M1 else E.nx sl M1
theorem sim_while {K : PySem.W.Frag} (hc : SimT b K tc ac) (hb : SimS b K ts at_) : SimS b K (tWhile tc ts) (aWhile ac at_) := fun Z σ H M sl E Ea rp e q k => by
  obtain ⟨I, ⟨m0, i0⟩, q⟩ := q
  refine ⟨fun m σ' H' => ∃ M' sl', Rep K b.T Z H' M' σ' sl' ∧ Ext H M H' M' ∧ I m sl' M', ⟨m0, M, sl, rp, Ext.refl _ _, i0⟩, fun m σ1 H1 ⟨M1, sl1, rp1, e1, i1⟩ => ?_⟩
  refine hc Z σ1 H1 M1 sl1 _ _ rp1 (e.trans e1) (q m sl1 M1 i1) fun c H2 M2 r2 e2 q2 => ?_
  cases c
  · exact k.nx σ1 H2 M2 sl1 (rp1.to r2 e2) (e1.trans e2) q2
  · refine ⟨fun σ' H' => ∃ m', m' < m ∧ ∃ M' sl', Rep K b.T Z H' M' σ' sl' ∧ Ext H M H' M' ∧ I m' sl' M', fun σ' H' h => h, ?_⟩
    refine hb Z σ1 H2 M2 sl1 _ _ (rp1.to r2 e2) (e.trans (e1.trans e2)) q2 ⟨fun σ' H' M' sl' r x ⟨m', hm, i'⟩ => ⟨m', hm, M', sl', r, (e1.trans e2).trans x, i'⟩, fun v d H' M' r x h q' => k.rt v d H' M' r ((e1.trans e2).trans x) h q',
      fun σ' H' M' sl' r x q' => k.nx σ' H' M' sl' r ((e1.trans e2).trans x) q', fun σ' H' M' sl' r x ⟨m', hm, i'⟩ => ⟨m', hm, M', sl', r, (e1.trans e2).trans x, i'⟩⟩
theorem ds_while {body : List Stmt} (hp : PassesOwn (model X.prog X.w) X.A X.env X.xe) (hc : DT b X e tc ac) (hb : DSs b X body ts at_) : DS b X (.While e body [] pos) (tWhile tc ts) (aWhile ac at_) := ⟨ps_while hp hc.pt hb.ps, sim_while hc.sim hb.sim⟩
end
end AL
set_option Elab.async false
set_option linter.all false
set_option maxRecDepth 100000
set_option maxHeartbeats 4000000
set_option autoImplicit false
/-! ALX: try with several clauses «except X as n», and a def that calls a lambda within such a try. -/
namespace AL
open PySem PySem.Spec PyProof.Rows L2 LamX
abbrev Clause := Value × (Addr → Value → Option Addr → TS)
/-- what the clauses wish of an exception of the body, one after the other; i: the slot of the name -/
def wManyAs (K : PySem.W.Frag) (i : Nat) (Wout : WX) (D : Ends) : List Clause → WX
  | [] => Wout
  | (c, ts) :: r => fun cls d σ H => ∃ b, PySem.W.exmOne K cls c = some b ∧
    (b = true → ∀ a, H a = none → ts a cls d { nx := fun σ' H' => D.nx (σ'.set i none) H', rt := D.rt, bk := fun σ' H' => D.bk (σ'.set i none) H', ct := fun σ' H' => D.ct (σ'.set i none) H' } (σ.set i (some (.ref a))) H) ∧
    (b = false → wManyAs K i Wout D r cls d σ H)
inductive HdsAs (X : Cx) (n : Str) : List ExceptHandler → List Clause → Prop
  | nil : HdsAs X n [] []
  | cons {x : Str} {c : Value} {ts : Addr → Value → Option Addr → TS} {b₀ : Stmt} {suite : List Stmt} {np pos' : Pos} {hds : List ExceptHandler} {l : List Clause} (hc : Names X x c)
      (hsu : ∀ (a : Addr) (oe : Obj) (cls : Value) (d : Option Addr) (pn : List (Addr × Obj)), Zc cls d oe → (∃ vs, oe.data = .fields vs) → PSs (X.suite a ((a, oe) :: pn)) (b₀ :: suite) (ts a cls d)) (r : HdsAs X n hds l) :
      HdsAs X n (.ExceptHandler (some (.Name x np)) (some n) (b₀ :: suite) pos' :: hds) ((c, ts) :: l)
theorem ps_try_many_as {X : Cx} {body : List Stmt} {h₀ : ExceptHandler} {hds : List ExceptHandler} {l : List Clause} {pos : Pos} {tb : WX → TS} {Wout : WX} {i : Nat} {n : Str}
    (hs : X.stack = X.env :: X.outer) (hf : X.env.frame = some X.env.locals) (hN : X.N.Nodup) (hi : X.N[i]? = some n) (hln : X.env.kindOf n = some .local) (tk : Takes X Wout)
    (hb : ∀ (W : WX) (pn : List (Addr × Obj)) (xe : Value → Shared → Prop), Takes (X.tr pn xe) W → PassesOwn (model X.prog X.w) X.A X.env xe → PSs (X.tr pn xe) body (tb W))
    (hh : HdsAs X n (h₀ :: hds) l) : PS X (.Try body (h₀ :: hds) [] [] pos) (fun D σ H => tb (wManyAs X.K i Wout D l) D σ H) := by
  refine ⟨fun pins s σ H D I h => ?_⟩
  have ok := I.ok
  have hfr : X.A.frames = some (X.env :: X.outer) := by rw [ok.frames, hs]
  have hloc : Loc X.env.scope n := .inl hln
  refine wpAny_Try_except ?_
  refine wpAny_mono ((hb (wManyAs X.K i Wout D l) (X.pn ++ pins) (fun e s₁ => wpAny (model X.prog X.w) X.A (noteFrame e X.env) (fun _ s₂ => wpAny (model X.prog X.w) X.A (setFlight e none) (fun _ s₃ =>
    wpAny (model X.prog X.w) X.A (handleBy e X.env (h₀ :: hds)) (SP X pins D) X.xe s₃) X.xe s₂) X.xe s₁) (fun u s' xx => ?_) PassesOwn.looking).run [] s σ H D (I.toTry _) h) (fun f s1 hsp => ?_) (fun e s1 he => he)
  · -- the catch
    obtain ⟨a, B, sI, pins', σ', H', cls, d, rfl, J', nb, up, sky, na, os, ag, w⟩ := xx
    have J : Inv X pins σ' H' sI := J'.ofTry ok
    have sky' : Sky B (X.env :: X.outer) a (Zc cls d) X.env.locals s'.heap := by rw [← hs]; exact sky
    show wpAny (model X.prog X.w) X.A (noteFrame (.ref a) X.env) _ _ _
    refine Sky.land Zc.steady hfr hf sky' fun h3 fl3 up3 => ?_
    have J3 : Inv X pins σ' H' { s' with heap := h3 } := J.landed nb fl3.1 (up.trans up3) os ag
    obtain ⟨oe3, vs3, he3, hz3, hd3⟩ := fl3.there
    have notFr : ∀ {h : Heap} {o : Obj} {vs : Array Value}, h.FunFrames B (X.env :: X.outer) → h.get? a = some o → o.data = .fields vs → a ∉ frs (X.env :: X.outer) := fun {h o vs} ff e dd hm => by
      obtain ⟨_, o', e', hnf⟩ := ff.mem hm
      rw [e] at e'; cases e'
      exact hnf _ dd
    have nfr := notFr fl3.2.2.1 he3 hd3
    have nL : a ≠ X.env.locals := fun z => nfr (List.mem_filterMap.mpr ⟨X.env, List.mem_cons_self, by rw [hf, z]⟩)
    have nF : a ∉ X.fs := fun hm => by
      obtain ⟨e, he, q⟩ := List.mem_filterMap.mp hm
      exact nfr (List.mem_filterMap.mpr ⟨e, List.mem_cons_of_mem _ he, q⟩)
    have S3 := J3.suite he3 hd3 na nL nF
    have go : ∀ {hds' : List ExceptHandler} {l' : List Clause}, HdsAs X n hds' l' → wManyAs X.K i Wout D l' cls d σ' H' →
        wpAny (model X.prog X.w) X.A (handleBy (.ref a) X.env hds') (SP X pins D) X.xe { s' with heap := h3 } := by
      intro hds' l' hk
      induction hk with
      | nil =>
        intro w
        refine wpAny_handleBy_nil ?_
        obtain ⟨k1, k2, k3, oe, vs, T, oT, ts', he, hz, hd, h1, hr⟩ := id fl3
        unfold PySem.passOn
        refine wpAny_bind (wpAny_field he hd h1 ?_)
        rw [if_neg (show ¬ ((Value.ref T == Value.none) = true) from by simp)]
        have fin : wpAny (model X.prog X.w) X.A (setFlight (.ref a) X.env.frame) (fun _ s4 => wpAny (model X.prog X.w) X.A (throw (.ref a) : Sem Flow) (SP X pins D) X.xe s4) X.xe { s' with heap := h3 } := by
          rw [hf]
          refine HandSPX.setFlight_upZ fl3 fun h4 hh4 up4 => wpAny_throw (tk _ _ ?_)
          exact ⟨a, B, sI, pins, σ', H', cls, d, rfl, J, nb, (up.trans up3).trans up4, .inr (.inr (by rw [hs]; exact hh4)), na, os, ag, w⟩
        first
          | exact wpAny_bind (wpAny_pure (wpAny_bind fin))
          | exact wpAny_bind fin
      | @cons x c ts b₀ suite np pos' hds2 l2 hc hsu r ih =>
        intro w
        obtain ⟨b, hb1, hyes, hno⟩ := w
        refine wpAny_handleBy_cons (codeAny_handlers_test ?_) (by intro q; cases q)
        have LT : PySem.W.Looks (model X.prog X.w) h3 (typeOf (.ref a)) cls := fun A Q E s k q => wpAny_typeOf_ref (k _ _ he3) (by rw [hz3.1]; exact q)
        have LM := PySem.W.exm_one (M := model X.prog X.w) (J3.kIn) LT hb1
        have test : ∀ {Q : Value → Shared → Prop} {E : Value → Shared → Prop}, Q c { s' with heap := h3 } → wpAny (model X.prog X.w) (X.A.mark (some (.ref a))) (eval (.Name x np) X.env) Q E { s' with heap := h3 } := fun {Q E} q => by
          obtain ⟨hg, hdbg, hm | ⟨hm, hv, hnn⟩⟩ := hc
          · exact ld_glob (X := X.suite a ((a, oe3) :: (X.pn ++ pins))) S3 hg hm q hdbg
          · exact ld_blt (X := X.suite a ((a, oe3) :: (X.pn ++ pins))) S3 hg hm hv q hnn hdbg
        refine test (LM.here ?_)
        cases b with
        | true =>
          refine codeAny_handlers_suite_as ?_
          refine HandSPX.lands_againZ fl3 fun h4 fl4 up4 => ?_
          have J4 : Inv X pins σ' H' { s' with heap := h4 } := J.landed nb fl4.1 ((up.trans up3).trans up4) os ag
          obtain ⟨oe4, vs4, he4, hz4, hd4⟩ := fl4.there
          have S4 := J4.suite he4 hd4 na nL nF
          refine store_ok (X := X.suite a ((a, oe4) :: (X.pn ++ pins))) (v := .ref a) S4 hN hi hloc rfl (fun s5 S5 => ?_) (.inr hln)
          refine wpAny_mono ((hsu a oe4 cls d (X.pn ++ pins) hz4 ⟨_, hd4⟩).run [] s5 _ H' _ S5 (hyes rfl a na)) (fun f s6 hsp => ?_) (fun _ _ z => False.elim z)
          have end_ : ∀ {σ6 : L2.St} {H6 : Hp} {Q : Shared → Prop}, Inv (X.suite a ((a, oe4) :: (X.pn ++ pins))) [] σ6 H6 s6 → (∀ s7, Inv X pins (σ6.set i none) H6 s7 → Q s7) →
              wpAny (model X.prog X.w) X.A (do bindName X.env n .none; unbindBehindTheSuite X.env n pos') (fun _ s7 => Q s7) X.xe s6 := fun {σ6 H6 Q} S6 hq => gone_ok (S6.unsuite ok) hN hi hln hq
          cases f with
          | next =>
            obtain ⟨σ6, H6, S6, q6⟩ := hsp
            exact end_ S6 fun s7 J7 => ⟨_, _, J7, q6⟩
          | brk =>
            obtain ⟨σ6, H6, S6, q6⟩ := hsp
            exact end_ S6 fun s7 J7 => ⟨_, _, J7, q6⟩
          | cont =>
            obtain ⟨σ6, H6, S6, q6⟩ := hsp
            exact end_ S6 fun s7 J7 => ⟨_, _, J7, q6⟩
          | ret u =>
            obtain ⟨v6, σ6, H6, S6, r6, q6⟩ := hsp
            exact end_ S6 fun s7 J7 => ⟨_, _, _, J7, r6, q6⟩
        | false =>
          show wpAny _ X.A (handleBy (.ref a) X.env hds2) _ _ _
          exact ih (hno rfl)
    exact go hh w
  · cases f with
    | next =>
      obtain ⟨σ', H', J', q⟩ := hsp
      exact wpAny_execs_nil ⟨σ', H', J'.ofTry ok, q⟩
    | brk =>
      obtain ⟨σ', H', J', q⟩ := hsp
      exact ⟨σ', H', J'.ofTry ok, q⟩
    | cont =>
      obtain ⟨σ', H', J', q⟩ := hsp
      exact ⟨σ', H', J'.ofTry ok, q⟩
    | ret u =>
      obtain ⟨v, σ', H', J', r, q⟩ := hsp
      exact ⟨v, σ', H', J'.ofTry ok, r, q⟩

/-! ### def refused(ask): try: ask() / except X as e: return (word, e.value) .. / return ("", None) -/
def refuse (K : PySem.W.Frag) (Q : VK) (cls : Value) (d : Option Addr) (H' : Hp) : List (Addr × Str) → Prop
  | [] => False
  | (C, w) :: r => ∃ b, PySem.W.exmOne K cls (.ref C) = some b ∧
    (b = true → cls = .ref C ∧ ∃ (dd : Addr) (fs : List (Str × V)) (v : V), d = some dd ∧ H' dd = some (.xd fs) ∧ fs.lookup ("value" : Str) = some v ∧ ∀ p, H' p = none → Q (.ref p) (upd H' p (.tup [.str w, v]))) ∧
    (b = false → refuse K Q cls d H' r)
def TTref (K : PySem.W.Frag) (l : List (Addr × Str)) : (XK → Hp → VK → Prop) → Hp → VK → Prop := fun tl H Q =>
  tl (fun cls d H' => refuse K Q cls d H' l) H (fun _ H' => ∀ p, H' p = none → Q (.ref p) (upd H' p (.tup [.str "", .non])))
inductive RefHds (K : PySem.W.Frag) (mg : Str → Option Value) (sg : Scope) : List ExceptHandler → List (Addr × Str) → Prop
  | nil : RefHds K mg sg [] []
  | cons {x w : Str} {C : Addr} {j k : Nat} {np p5 p6 p7 p8 p9 pos' : Pos} {hds : List ExceptHandler} {l : List (Addr × Str)} (hg : sg.names.lookup x = some .globalImplicit) (hm : mg x = some (.ref C)) (hd : (x == ("__debug__" : Str)) = false) (xf : XfC K C) (nv : PySem.W.findIn K (.ref C) "value" = some none)
      (r : RefHds K mg sg hds l) : RefHds K mg sg (.ExceptHandler (some (.Name x np)) (some "e") [.Return (some (.Tuple [.Constant (.str w) j p5, .Attribute (.Name "e" p6) "value" p7] k p8)) p9] pos' :: hds) ((C, w) :: l)
/-- the clauses' readings -/
def refTs (C : Addr) (w : Str) : Addr → Value → Option Addr → TS := fun a cls d => tRet (tTup (tCons (tC (.str w)) (tCons (tXf a cls d C "value" (tVar 1)) tNil)))
theorem ref_hds {X : Cx} {sg : Scope} (hsc : X.env.scope = sg) (h1 : X.N[1]? = some ("e" : Str)) (hv : Vis X.env.scope "e") : ∀ {hds : List ExceptHandler} {l : List (Addr × Str)}, RefHds X.K X.mg sg hds l → HdsAs X "e" hds (l.map fun p => (Value.ref p.1, refTs p.1 p.2)) := by
  intro hds l r
  induction r with
  | nil => exact .nil
  | cons hg hm hd xf nv r ih =>
    refine .cons ⟨by subst hsc; exact hg, hd, .inl hm⟩ (fun a oe cls d pn hz hf => ?_) ih
    exact pss_one (ps_ret (pe_tup (pa_cons pe_str (pa_cons (pe_xf xf nv hz hf (pe_var h1 hv)) pa_nil))))
theorem ref_wish {X : Cx} {σ : L2.St} {D : Ends} {Q : VK} (hD : D.rt = Q) (h1 : 1 < σ.length) {cls : Value} {d : Option Addr} {H' : Hp} : ∀ {l : List (Addr × Str)}, refuse X.K Q cls d H' l →
    wManyAs X.K 1 (fun _ _ _ _ => False) D (l.map fun p => (Value.ref p.1, refTs p.1 p.2)) cls d σ H' := by
  intro l
  induction l with
  | nil => exact fun h => h
  | cons p l ih =>
    intro h
    obtain ⟨b, e1, e2, e3⟩ := h
    refine ⟨b, e1, fun hb a na => ?_, fun hb => ih (e3 hb)⟩
    obtain ⟨rfl, dd, fs, v, rfl, h3, h4, h5⟩ := e2 hb
    refine ⟨_, ?_, rfl, rfl, dd, fs, v, rfl, h3, h4, ?_⟩
    · rw [List.getElem?_set_self h1]
    · subst hD
      exact ⟨by show 2 ≤ sizeLine; decide, h5⟩
theorem ref_gives {X : Cx} {x q : Str} {sg : Scope} {g : Addr} {cdg : Value} {l : List (Addr × Str)} {p1 p2 p3 p8 p9 q1 q2 q3 : Pos} {h₀ : ExceptHandler} {hds : List ExceptHandler} {j1 j2 k1 : Nat}
    (hke : sg.names.lookup ("e" : Str) = some NameKind.local) (hh : RefHds X.K X.mg sg (h₀ :: hds) l) :
    GivesTo X ["ask", "e"] x sg g cdg [.Try [.Expr (.Call (.Name "ask" p1) [] [] p2) p3] (h₀ :: hds) [] [] p8, .Return (some (.Tuple [.Constant (.str "") j1 q1, .Constant .none j2 q2] k1 q3)) p9] "ask" q (TTref X.K l) := by
  intro f c' s H Q tl act hc h
  have nd : (["ask", "e"] : List Str).Nodup := by decide +kernel
  refine ⟨_, pss_cons (ps_try_many_as (X := (cxOf C8.CX0 X.prog X.w X.K X.mg X.base ["ask", "e"] x sg g cdg X.A X.stack s H C8.E0).nox) (i := 1) (n := "e")
      (tb := fun W D σ H => ∃ Ech : XK, (∀ cls d σ' H', σ'.length = 2 → Ech cls d H' → W cls d σ' H') ∧ σ[0]? = some (some (.ref f)) ∧ H c' = some (CodeO c' q) ∧ tl Ech H (fun _ H1 => D.nx σ H1))
      rfl rfl nd rfl hke L2.takes0 (fun W pn xe tk _ => ?_) (ref_hds rfl rfl (.inl hke) hh)) (pss_one (ps_ret (pe_tup (pa_cons pe_str (pa_cons pe_non pa_nil))))), ?_⟩
  · refine ⟨fun pins s' σ H' D I h' => ?_⟩
    obtain ⟨Ech, hW, h1, h2, h3⟩ := h'
    have tk2 : Takes ((cxOf C8.CX0 X.prog X.w X.K X.mg X.base ["ask", "e"] x sg g cdg X.A X.stack s H C8.E0).tr pn xe) (fun cls d _ H => Ech cls d H) := fun u s2 ⟨a, B, sI, pins2, σ2, H2, cls, d, e1, I2, nb, up, sky, na, os, ag, w⟩ =>
      tk u s2 ⟨a, B, sI, pins2, σ2, H2, cls, d, e1, I2, nb, up, sky, na, os, ag, hW _ _ _ _ I2.len w⟩
    have hp := act (fun cls d _ H => Ech cls d H) pn xe Ech p1 p2 tk2 (fun _ _ _ _ z => z)
    have hq := pss_one (ps_expr (pos := p3) hp)
    exact hq.run pins s' σ H' D I ⟨h1, h2, h3⟩
  · refine ⟨fun cls d H' => refuse X.K Q cls d H' l, fun cls d σ' H' hl hr => ref_wish (X := (cxOf C8.CX0 X.prog X.w X.K X.mg X.base ["ask", "e"] x sg g cdg X.A X.stack s H C8.E0).nox) rfl (by rw [hl]; decide) hr, rfl, hc, ?_⟩
    have e : (fun (_ : V) (H1 : Hp) => ∀ p, H1 p = none → Q (.ref p) (upd H1 p (.tup [.str "", .non]))) = fun _ H1 => (2 ≤ sizeLine ∧ ∀ p, H1 p = none → Q (.ref p) (upd H1 p (.tup [.str "", .non]))) := by
      funext _ H1
      exact propext ⟨fun z => ⟨by decide, z⟩, fun z => z.2⟩
    have h : tl (fun cls d H' => refuse X.K Q cls d H' l) H (fun _ H' => ∀ p, H' p = none → Q (.ref p) (upd H' p (.tup [.str "", .non]))) := h
    rw [e] at h
    exact h
end AL
set_option Elab.async false
set_option linter.all false
set_option maxRecDepth 100000
set_option maxHeartbeats 4000000
set_option autoImplicit false
/-! AL7: defs and their promises, calls, raise, lambdas handed to a def that tries them. -/
namespace AL
open PySem PySem.Spec PyProof.Rows L2 LamX

/-! ### promises -/
abbrev AXK := Addr → D → Store → Prop
/-- a def's promise over data: arguments, store, what is wanted of the answer, of an error -/
abbrev ASp := List D → Store → DK → AXK → Prop
def SpOf (K : PySem.W.Frag) (T : List (Addr × Str)) (fs : ASp) : Sp := fun vs H Q E => ∃ (Z : Hid) (M : Store) (ds : List D) (Qa : DK) (Ea : AXK), RH K T Z H M ∧ Rs (mkH Z H M) vs ds ∧ fs ds M Qa Ea ∧
  (∀ v d H' M', RH K T Z H' M' → Ext H M H' M' → R (mkH Z H' M') v d → Qa d M' → Q v H') ∧
  (∀ C d v dx H' M', RH K T Z H' M' → Ext H M H' M' → H' dx = some (.xd [(("value" : Str), v)]) → R (mkH Z H' M') v d → Ea C d M' → E (.ref C) (some dx) H')
/-- what is wished of errors: the heap's wish W, the data's wish Wa -/
abbrev AWX := Addr → D → SL → Store → Prop
def WL (b : BC) (K : PySem.W.Frag) (W : WX) (Wa : AWX) : Prop := ∀ (Z : Hid) (σ : L2.St) (H : Hp) (M : Store) (sl : SL) (C : Addr) (d : D) (v : V) (dx : Addr), Rep K b.T Z H M σ sl → b.In Z H M →
  H dx = some (.xd [(("value" : Str), v)]) → R (mkH Z H M) v d → Wa C d sl M → W (.ref C) (some dx) σ H
theorem WL.no {b : BC} {K : PySem.W.Frag} : WL b K (fun _ _ _ _ => False) (fun _ _ _ _ => False) := fun _ _ _ _ _ _ _ _ _ _ _ _ _ h => h
/-- a def of the text by its name, with its promise -/
structure FnA (P : Program) (w : World) (K : PySem.W.Frag) (mg : Str → Option Value) (base : Heap) (T : List (Addr × Str)) (x : Str) (k : Nat) (fs : ASp) : Prop where
  ex : ∃ (f : Addr) (fd : FuncData) (ps : List Str), mg x = some (.ref f) ∧ PySem.W.keepIn K (.ref f) = true ∧ Binds K fd ps [] ∧ FnOk P w K mg base (L2.CX P w) k f fd ps (SpOf K T fs)
theorem FnA.mono {P : Program} {w : World} {K : PySem.W.Frag} {mg : Str → Option Value} {base : Heap} {T : List (Addr × Str)} {x : Str} {j k : Nat} {fs : ASp} (F : FnA P w K mg base T x j fs) (h : j ≤ k) : FnA P w K mg base T x k fs :=
  let ⟨f, fd, ps, h1, h2, h3, h4⟩ := F.ex
  ⟨f, fd, ps, h1, h2, h3, h4.mono h⟩
section
variable {b : BC} {X : Cx} {pos : Pos} {e e1 e2 : Expr} {es : List Expr} {ta tb : TE} {aa ab : ATE} {t : TA} {at_ : ATA} {n k : Nat} {x : Str} {p : Pos} {fs : ASp} {W : WX} {Wa : AWX}
@[simp] def aCallX (fs : ASp) (Wa : AWX) (t : ATA) : ATE := fun sl M Q => t sl M fun ds M1 => fs ds M1 Q fun C d M2 => Wa C d sl M2
@[simp] def aCall (fs : ASp) (t : ATA) : ATE := fun sl M Q => t sl M fun ds M1 => fs ds M1 Q fun _ _ _ => False
theorem sim_call {K : PySem.W.Frag} (wl : WL b K W Wa) (ha : SimA b K t at_ n) : Sim b K (tCallS (SpOf K b.T fs) (WE W) t) (aCallX fs Wa at_) := fun Z σ H M sl Q Qa rp e q k =>
  ha Z σ H M sl _ _ rp e q fun vs ds H1 M1 r1 e1 h1 l1 q1 => ⟨Z, M1, ds, Qa, _, r1, h1, q1, fun v d H' M' r' e' h' q' => k v d H' M' r' (e1.trans e') h' q',
    fun C d v dx H' M' r' e' hx h' q' => wl Z σ H' M' sl C d v dx (rp.to r' (e1.trans e')) (e.trans (e1.trans e')) hx h' q'⟩
theorem de_callX (F : FnA X.prog X.w X.K X.mg X.base b.T x k fs) (hr : Room k X.A) (tk : Takes X W) (wl : WL b X.K W Wa) (ha : DA b X (e :: es) t at_ n) (hg : Gl X x := by rfl)
    (hdb : (x == ("__debug__" : Str)) = false := by decide) (he : starEach (e :: es) X.env = (false, eval e X.env) :: starEach es X.env := by rfl) (hpl : (backTo pos (starEach es X.env)).any (·.1) = false := by rfl) :
    DE b X (.Call (.Name x p) (e :: es) [] pos) (tCallS (SpOf X.K b.T fs) (WE W) t) (aCallX fs Wa at_) := by
  obtain ⟨f, fd, ps, h1, h2, h3, h4⟩ := F.ex
  exact ⟨pe_callS h4 hr hg h1 h2 h3 (fun σ => passAt tk σ) ha.pa hdb he hpl, sim_call wl ha.sim⟩
theorem de_call (F : FnA X.prog X.w X.K X.mg X.base b.T x k fs) (hr : Room k X.A) (ha : DA b X (e :: es) t at_ n) (hg : Gl X x := by rfl)
    (hdb : (x == ("__debug__" : Str)) = false := by decide) (he : starEach (e :: es) X.env = (false, eval e X.env) :: starEach es X.env := by rfl) (hpl : (backTo pos (starEach es X.env)).any (·.1) = false := by rfl) :
    DE b X (.Call (.Name x p) (e :: es) [] pos) (tCallS (SpOf X.K b.T fs) (WE fun _ _ _ _ => False) t) (aCall fs at_) := de_callX (Wa := fun _ _ _ _ => False) F hr L2.takes0 WL.no ha hg hdb he hpl

/-! ### raise -/
/-- SpareError.__init__(self, value): self.value = value -/
def spInit (K : PySem.W.Frag) : Sp := fun vs H Q _ => ∃ (a C : Addr) (v : V), vs = [.ref a, v] ∧ H a = some (exo a C none) ∧ OexC K C ∧ PySem.W.findIn K (.ref C) ("value" : Str) = some none ∧
  ∀ dx, H dx = none → dx ≠ a → Q .non (upd (upd H dx (exd dx [(("value" : Str), v)])) a (exo a C (some dx)))
/-- an error class of the program, by its name -/
structure ErrA (P : Program) (w : World) (K : PySem.W.Frag) (mg : Str → Option Value) (base : Heap) (x : Str) (C : Addr) : Prop where
  gC : mg x = some (.ref C)
  oex : OexC K C
  nv : PySem.W.findIn K (.ref C) ("value" : Str) = some none
  ex : ∃ (fI : Addr) (fd : FuncData) (ds : List Value) (dvs : List V), PySem.W.findIn K (.ref C) ("__init__" : Str) = some (some (.ref fI)) ∧ PySem.W.typeIn K (.ref fI) = some (.type "function") ∧ Binds K fd ["self", "value"] [] ∧ FnOk P w K mg base CX0 1 fI fd ["self", "value"] (spInit K)
@[simp] def aRaise (C : Addr) (Wa : AWX) (t : ATA) : ATS := fun E sl M => t sl M fun ds M1 => match ds with | [d] => Wa C d sl M1 | _ => False
theorem sim_raise {K : PySem.W.Frag} {C : Addr} (wl : WL b K W Wa) (oex : OexC K C) (nv : PySem.W.findIn K (.ref C) ("value" : Str) = some none) (ha : SimA b K t at_ 1) :
    SimS b K (fun _ σ H => tMkO C (spInit K) [] t σ H fun cls d H' => W cls d σ H') (aRaise C Wa at_) := fun Z σ H M sl E Ea rp e q k =>
  ha Z σ H M sl _ _ rp e q fun vs ds H1 M1 r1 e1 h1 l1 q1 => by
    cases h1 with
    | nil => cases l1
    | cons h r =>
      cases r with
      | cons _ _ => cases l1
      | nil =>
        rename_i v d
        refine ⟨by show 1 ≤ 1000; decide, fun a na => ⟨a, C, v, rfl, upd_same, oex, nv, fun dx nd ne => ⟨rfl, dx, [(("value" : Str), v)], upd_same, ?_, ?_, ?_⟩⟩⟩
        · rw [upd_ne ne, upd_same]
        · rw [upd_ne ne] at nd; exact nd
        · have nd1 : H1 dx = none := by rw [upd_ne ne] at nd; exact nd
          have eH : upd (del (upd (upd (upd H1 a (exo a C none)) dx (exd dx [(("value" : Str), v)])) a (exo a C (some dx))) a) dx (.xd [(("value" : Str), v)]) = upd H1 dx (.xd [(("value" : Str), v)]) := by
            funext z
            by_cases z1 : z = dx
            · rw [z1, upd_same, upd_same]
            · rw [upd_ne z1, upd_ne z1]
              by_cases z2 : z = a
              · rw [z2, del_same, na]
              · rw [del_ne z2, upd_ne z2, upd_ne z1, upd_ne z2]
          rw [eH]
          obtain ⟨r2, e2⟩ := r1.alloc (o := .xd [(("value" : Str), v)]) nd1
          exact wl Z σ _ M1 sl C d v dx (rp.to r2 (e1.trans e2)) (e.trans (e1.trans e2)) upd_same (h.mono e2.sb) q1
theorem ds_raise {C : Addr} {pos2 : Pos} (EA : ErrA X.prog X.w X.K X.mg X.base x C) (hc : X.calm = true) (hr : Room 2 X.A) (tk : Takes X W) (wl : WL b X.K W Wa) (ha : DA b X [e] t at_ 1) (hg : Gl X x := by rfl)
    (hdb : (x == ("__debug__" : Str)) = false := by decide) (he : starEach (e :: []) X.env = (false, eval e X.env) :: starEach [] X.env := by rfl) (hpl : (backTo pos (starEach [] X.env)).any (·.1) = false := by rfl) :
    DS b X (.Raise (some (.Call (.Name x p) [e] [] pos)) none pos2) (fun _ σ H => tMkO C (spInit X.K) [] t σ H fun cls d H' => W cls d σ H') (aRaise C Wa at_) := by
  obtain ⟨fI, fd, ds, dvs, h1, h2, h3, h4⟩ := EA.ex
  exact ⟨ps_raise hc tk (pmk_oex EA.oex h1 h2 h4 hr h3 .nil pass0 hg EA.gC ha.pa hdb he hpl), sim_raise wl EA.oex EA.nv ha.sim⟩

/-! ### a lambda handed to a def that tries it -/
def aRef (l : List (Addr × Str)) (C : Addr) (d : D) (M : Store) (Q : DK) : Prop := match l with
  | [] => False
  | (C', w) :: r => if C = C' then Q (.tup [.str w, d]) M else aRef r C d M Q
theorem aRef_mem {C : Addr} {d : D} {M : Store} {Q : DK} : ∀ {l : List (Addr × Str)}, aRef l C d M Q → ∃ w, (C, w) ∈ l
  | [], h => h.elim
  | (C', w) :: r, h => by
    unfold aRef at h
    by_cases e : C = C'
    · subst e; exact ⟨w, List.mem_cons_self⟩
    · rw [if_neg e] at h
      obtain ⟨w', h'⟩ := aRef_mem h
      exact ⟨w', List.mem_cons_of_mem _ h'⟩
/-- the clauses tell their classes apart -/
def Apart (K : PySem.W.Frag) (l : List (Addr × Str)) : Prop := ∀ p ∈ l, ∀ q ∈ l, PySem.W.exmOne K (.ref p.1) (.ref q.1) = some (decide (p.1 = q.1))
@[simp] def aTry (l : List (Addr × Str)) (body : AWX → ATE) : ATE := fun sl M Q => body (fun C d _ M1 => aRef l C d M1 Q) sl M fun _ M1 => Q (.tup [.str "", .non]) M1
theorem rh_extN {K : PySem.W.Frag} {T : List (Addr × Str)} {Z : Hid} {H H1 : Hp} {M : Store} (r : RH K T Z H M) (x : ExtN H H1) (t : Tabs T H1) : RH K T Z H1 M ∧ Ext H M H1 M := by
  have e : Ext H M H1 M := fun b o h1 h2 h3 => ⟨h1, x b o h2 h3⟩
  refine ⟨⟨fun a c z => ?_, t, fun z q => ?_, r.dis⟩, e⟩
  · obtain ⟨o, h1, h2, _⟩ := (r.cells a c z).at
    exact (r.cells a c z).mono e.sb (by rw [h1, x a o h1 h2])
  · obtain ⟨xs, y, y2⟩ := r.hid z q
    exact ⟨xs, x z _ y (fun ps w => by subst w; exact y2), y2⟩
theorem ref_ok {K : PySem.W.Frag} {T : List (Addr × Str)} {Z : Hid} {H : Hp} {M : Store} {C dx : Addr} {v : V} {d : D} {Q : VK} {Qa : DK} (rh : RH K T Z H M) (hx : H dx = some (.xd [(("value" : Str), v)])) (hv : R (mkH Z H M) v d)
    (k : ∀ p w, H p = none → Qa (.tup [.str w, d]) M → Q (.ref p) (upd H p (.tup [.str w, v]))) : ∀ (l : List (Addr × Str)), (∀ q ∈ l, PySem.W.exmOne K (.ref C) (.ref q.1) = some (decide (C = q.1))) → aRef l C d M Qa → refuse K Q (.ref C) (some dx) H l
  | [], _, h => h.elim
  | (C', w) :: r, ap, h => by
    refine ⟨_, ap _ List.mem_cons_self, fun hb => ?_, fun hb => ?_⟩
    · have e : C = C' := of_decide_eq_true hb
      unfold aRef at h
      rw [if_pos e] at h
      exact ⟨by rw [e], dx, _, v, rfl, hx, by simp [List.lookup], fun p np => k p w np h⟩
    · have e : ¬ C = C' := of_decide_eq_false hb
      unfold aRef at h
      rw [if_neg e] at h
      exact ref_ok rh hx hv k r (fun q hq => ap q (List.mem_cons_of_mem _ hq)) h
theorem sim_try {K : PySem.W.Frag} {l : List (Addr × Str)} {tl : XK → TE} {body : AWX → ATE} (ap : Apart K l)
    (hs : ∀ (Z0 : Hid) (H0 : Hp) (M0 : Store) (E : XK) (Wa : AWX), WL ⟨b.T, Z0, H0, M0⟩ K (fun cls d _ H => E cls d H) Wa → Sim ⟨b.T, Z0, H0, M0⟩ K (tl E) (body Wa)) : Sim b K (tLam b.T (TTref K l) tl) (aTry l body) := fun Z σ H M sl Q Qa rp e q k => by
  refine ⟨rp.rh.tabs, fun H1 x t1 => ?_⟩
  obtain ⟨r1, e1⟩ := rh_extN rp.rh x t1
  refine hs Z H1 M (fun cls d H' => refuse K Q cls d H' l) (fun C d _ M1 => aRef l C d M1 Qa) (fun Z2 σ2 H2 M2 sl2 C d v dx rp2 i2 hx hv w => ?_) Z σ H1 M sl _ _ (rp.to r1 e1) ⟨Ext.refl _ _, fun z y => y⟩ q fun v d H2 M2 r2 e2 h2 q2 p np => ?_
  · have w : aRef l C d M2 Qa := w
    have r2 : RH K b.T Z H2 M2 := rp2.rh.unhide i2.hid
    have hv2 : R (mkH Z H2 M2) v d := hv.mono (sb_unhide i2.hid)
    obtain ⟨w0, hw⟩ := aRef_mem w
    refine ref_ok r2 hx hv2 (fun p w np qa => ?_) l (fun q hq => ap (C, w0) hw q hq) w
    obtain ⟨r3, e3, z⟩ := new_tup (ds := [.str w, d]) r2 np two_line (.cons (.str _) (.one hv2))
    exact k _ _ _ _ r3 (e1.trans (i2.ext.trans e3)) z qa
  · obtain ⟨r3, e3, z⟩ := new_tup (ds := [.str "", .non]) r2 np two_line (.cons (.str _) (.one .non))
    exact k _ _ _ _ r3 (e1.trans (e2.trans e3)) z q2
/-- the def that tries: what of it stands in the written part -/
structure TryA (K : PySem.W.Frag) (mg : Str → Option Value) (x : Str) (l : List (Addr × Str)) : Prop where
  ex : ∃ (g : Addr) (oc : Value) (od an : Option Addr) (osl : Array (Option Value)) (pg : Arguments) (sg : Scope) (kV doc pm cdv ct : Value) (h₀ : ExceptHandler) (hds : List ExceptHandler) (p1 p2 p3 p8 p9 q1 q2 q3 : Pos) (j1 j2 k1 : Nat),
    mg x = some (.ref g) ∧ PySem.W.keepIn K (.ref g) = true ∧
    K.lookup g = some ⟨oc, od, .func (PySem.W.fnOf x x pg [.Try [.Expr (.Call (.Name "ask" p1) [] [] p2) p3] (h₀ :: hds) [] [] p8, .Return (some (.Tuple [.Constant (.str "") j1 q1, .Constant .none j2 q2] k1 q3)) p9] sg .none kV doc pm an cdv ct), osl⟩ ∧
    PySem.W.codeIn K cdv x = true ∧ L2.Binds K (PySem.W.fnOf x x pg [.Try [.Expr (.Call (.Name "ask" p1) [] [] p2) p3] (h₀ :: hds) [] [] p8, .Return (some (.Tuple [.Constant (.str "") j1 q1, .Constant .none j2 q2] k1 q3)) p9] sg .none kV doc pm an cdv ct) ["ask"] [] ∧
    FnScope ["ask", "e"] ["ask"] sg ∧ Vis sg "ask" ∧ sg.names.lookup ("e" : Str) = some NameKind.local ∧ RefHds K mg sg (h₀ :: hds) l
  ap : Apart K l
theorem de_try {l : List (Addr × Str)} {c Pt : Addr} {params : Arguments} {body : Expr} {scope : Scope} {tlf : Around → List Env → Shared → Hp → XK → Addr → Addr → Hid → Hp → Store → TE} {ab : AWX → ATE} {lpos : Pos} (TA : TryA X.K X.mg x l) (TB : TabB X.base X.mg c Pt) (hcode : X.env.code = .ref c) (hmT : (Pt, X.env.qual ++ "<lambda>") ∈ b.T) (hu : ∀ p ∈ b.T, p.1 = Pt → p.2 = X.env.qual ++ "<lambda>")
    (hr : Room (k + 2) X.A)
    (hbody : ∀ (A : Around) (outer : List Env) (s : Shared) (H : Hp) (E : XK) (f c' : Addr) (Z0 : Hid) (H0 : Hp) (M0 : Store) (Wa : AWX), Room k (A.deeper (lamEnv X scope s.heap.objs.size f c')) → Takes (lamCx X A outer s H E scope f c') (fun cls d _ H => E cls d H) → WL ⟨b.T, Z0, H0, M0⟩ X.K (fun cls d _ H => E cls d H) Wa →
      DE ⟨b.T, Z0, H0, M0⟩ (lamCx X A outer s H E scope f c') body (tlf A outer s H E f c' Z0 H0 M0) (ab Wa))
    (hL : lamSB X.env.scope scope = true) (hg : Gl X x := by rfl) (hdef : defaultsOf params X.env = ([], []) := by rfl)
    (hbind : ∀ (q : Str) (cl : List (Str × Addr)) (pm cv ctv : Value), bindArgs (PySem.W.kla_fn "<lambda>" q params body scope cl pm cv ctv) ⟨[], []⟩ = pure [] := by intros; rfl)
    (hdb : (x == ("__debug__" : Str)) = false := by decide) (htl : ∀ (A : Around) (outer : List Env) (s : Shared) (H : Hp) (E : XK) (f c' : Addr) (Z0 : Hid) (H0 : Hp) (M0 : Store), tlf A outer s H E f c' Z0 H0 M0 = tlf X.A X.stack X.s_0 X.H_0 E 0 0 b.Z0 b.H0 b.M0 := by intros; rfl) :
    DE b X (.Call (.Name x p) [.Lambda params body scope lpos] [] pos) (tLam b.T (TTref X.K l) fun E => tlf X.A X.stack X.s_0 X.H_0 E 0 0 b.Z0 b.H0 b.M0) (aTry l ab) := by
  obtain ⟨g, oc, od, an, osl, pg, sg, kV, doc, pm, cdv, ct, h₀, hds, p1, p2, p3, p8, p9, q1, q2, q3, j1, j2, k1, g1, g2, g3, g4, g5, g6, g7, g8, g9⟩ := TA.ex
  refine ⟨pe_lamcall hg g1 g2 g3 g4 g5 g6 rfl g7 (ref_gives g8 g9) TB hcode hmT hu hr (lamS_by hL) hdef hbind (fun A outer s H E f c' hr' => htl A outer s H E f c' (fun _ => false) H (fun _ => none) ▸ (hbody A outer s H E f c' (fun _ => false) H (fun _ => none) (fun _ _ _ _ => False) hr' (takes_of rfl rfl rfl rfl) (fun _ _ _ _ _ _ _ _ _ _ _ _ _ h => h.elim)).pe) hdb, ?_⟩
  refine sim_try TA.ap fun Z0 H0 M0 E Wa wl => ?_
  have hr0 : Room k (X.A.deeper (lamEnv X scope X.s_0.heap.objs.size 0 0)) := (hr.mono (by omega) : Room (k + 1) X.A).deeper _
  exact htl X.A X.stack X.s_0 H0 E 0 0 Z0 H0 M0 ▸ (hbody X.A X.stack X.s_0 H0 E 0 0 Z0 H0 M0 Wa hr0 (takes_of rfl rfl rfl rfl) wl).sim
end
end AL
set_option Elab.async false
set_option linter.all false
set_option maxRecDepth 100000
set_option maxHeartbeats 4000000
set_option autoImplicit false
/-! AL8: a def keeps its promise; built-in functions. -/
namespace AL
open PySem PySem.Spec PyProof.Rows L2 LamX

/-- things of the store are let go -/
def Drop (M Mf : Store) : Prop := ∀ a, Mf a = M a ∨ Mf a = none
@[simp] theorem drop_refl (M : Store) : Drop M M = True := eq_true fun _ => .inl rfl
theorem Drop.refl (M : Store) : Drop M M := fun _ => .inl rfl
theorem drop_upd {M Mf : Store} {a : Addr} {c : Cell} (h : Drop M Mf) (n : Mf a = none) : Drop (updS M a c) Mf := fun z => by
  by_cases e : z = a
  · subst e; exact .inr n
  · rw [updS_ne e]; exact h z
theorem drop_del {M Mf : Store} {a : Addr} (h : Drop M Mf) (n : Mf a = none) : Drop (delS M a) Mf := fun z => by
  by_cases e : z = a
  · subst e; exact .inr n
  · rw [delS_ne e]; exact h z
theorem RH.dropM {K : PySem.W.Frag} {T : List (Addr × Str)} {Z : Hid} {H : Hp} {M Mf : Store} (r : RH K T Z H M) (d : Drop M Mf) : RH K T Z H Mf ∧ Ext H M H Mf := by
  have e : Ext H M H Mf := fun b o h1 h2 _ => ⟨(d b).elim (fun z => by rw [z]; exact h1) (fun z => vis_none z), h2⟩
  refine ⟨⟨fun a c z => ?_, r.tabs, r.hid, fun a q => ?_⟩, e⟩
  · rcases d a with y | y
    · exact (r.cells a c (y.symm.trans z)).mono e.sb rfl
    · rw [y] at z; cases z
  · rcases d a with y | y
    · exact r.dis a (by rw [← y]; exact q)
    · exact absurd y q
/-- what is wanted at a def's end: the store as at its entry, or what it hands on -/
@[simp] def endP (M0 : Store) (Q : DK) : AEnds := { nx := fun _ M => Drop M M0 ∧ Q .non M0, rt := fun d M => Drop M M0 ∧ Q d M0 }
@[simp] def endPW (M0 : Store) (Ea : AXK) : AWX := fun C d _ M => Drop M M0 ∧ Ea C d M0
@[simp] def endE (Q : DK) : AEnds := { nx := fun _ M => ∃ Mf, Drop M Mf ∧ Q .non Mf, rt := fun d M => ∃ Mf, Drop M Mf ∧ Q d Mf }
@[simp] def endW (Ea : AXK) : AWX := fun C d _ M => ∃ Mf, Drop M Mf ∧ Ea C d Mf
@[simp] def startD (n : Nat) (ds : List D) : SL := ds.map some ++ List.replicate (n - ds.length) none
theorem rep_start {K : PySem.W.Frag} {T : List (Addr × Str)} {Z : Hid} {H : Hp} {M : Store} {vs : List V} {ds : List D} {N : List Str} (rh : RH K T Z H M) (r : Rs (mkH Z H M) vs ds) : Rep K T Z H M (L2.start N vs) (startD N.length ds) := by
  refine ⟨rh, fun i d h => ?_, by simp [L2.start, startD, r.length]⟩
  have hi : i < ds.length := by
    rcases Nat.lt_or_ge i ds.length with c | c
    · exact c
    · unfold startD at h
      rw [List.getElem?_append_right (by rw [List.length_map]; exact c)] at h
      have := List.mem_of_getElem? h
      rw [List.mem_replicate] at this
      cases this.2
  unfold startD at h
  rw [List.getElem?_append_left (by rw [List.length_map]; exact hi), List.getElem?_map] at h
  cases hd : ds[i]? with
  | none => rw [hd] at h; cases h
  | some d' =>
    rw [hd] at h; cases h
    obtain ⟨v, h1, h2⟩ := r.getD hd
    refine ⟨v, ?_, h2⟩
    unfold L2.start
    rw [List.getElem?_append_left (by rw [List.length_map, r.length]; exact hi), List.getElem?_map, h1]; rfl
section
variable {P : Program} {w : World} {K : PySem.W.Frag} {mg : Str → Option Value} {base : Heap} {T : List (Addr × Str)}
theorem fn_core0 (cdv : Value) {x : Str} {st : Stmt} {f : Addr} {fd : FuncData} {N ps : List Str} {k : Nat} {fs : ASp} {E1 : Store → DK → AEnds} {W1 : Store → AXK → AWX} (okX : ∀ sp : Sp, (∀ vs H Q E, sp vs H Q E → vs.length = ps.length) → (∀ (A : Around) (outer : List Env) (s : Shared) (H : Hp) (vs : List V) (Q : VK) (E : XK), Room k (A.deeper (envOfC x (defScope st) s.heap.objs.size f cdv)) → sp vs H Q E →
      ∃ t, PSs (cxOf (L2.CX P w) P w K mg base N x (defScope st) f cdv A outer s H E) (defBody st) t ∧ t { nx := fun _ H' => Q .non H', rt := Q } (L2.start N vs) H) → FnOk P w K mg base (L2.CX P w) (k + 1) f fd ps sp) (len : ∀ ds M Q E, fs ds M Q E → ds.length = ps.length)
    (he : ∀ M0 Q d M, (E1 M0 Q).rt d M → ∃ Mf, Drop M Mf ∧ Q d Mf) (hn : ∀ M0 Q sl M, (E1 M0 Q).nx sl M → ∃ Mf, Drop M Mf ∧ Q .non Mf) (hbk : ∀ M0 Q sl M, ¬ (E1 M0 Q).bk sl M) (hct : ∀ M0 Q sl M, ¬ (E1 M0 Q).ct sl M) (hw : ∀ M0 Ea C d sl M, W1 M0 Ea C d sl M → ∃ Mf, Drop M Mf ∧ Ea C d Mf)
    (body : ∀ (A : Around) (outer : List Env) (s : Shared) (H : Hp) (E : XK) (Z0 : Hid) (M0 : Store) (Ea : AXK), Room k (A.deeper (envOfC x (defScope st) s.heap.objs.size f cdv)) →
      Takes (cxOf (L2.CX P w) P w K mg base N x (defScope st) f cdv A outer s H E) (fun cls d _ H => E cls d H) →
      PassesOwn (model P w) (A.deeper (envOfC x (defScope st) s.heap.objs.size f cdv)) (envOfC x (defScope st) s.heap.objs.size f cdv) (cxOf (L2.CX P w) P w K mg base N x (defScope st) f cdv A outer s H E).xe →
      WL ⟨T, Z0, H, M0⟩ K (fun cls d _ H => E cls d H) (W1 M0 Ea) →
      ∃ ts at_, DSs ⟨T, Z0, H, M0⟩ (cxOf (L2.CX P w) P w K mg base N x (defScope st) f cdv A outer s H E) (defBody st) ts at_ ∧ ∀ ds Q, fs ds M0 Q Ea → at_ (E1 M0 Q) (startD N.length ds) M0) :
    FnOk P w K mg base (L2.CX P w) (k + 1) f fd ps (SpOf K T fs) := by
  refine okX _ (fun vs H Q E h => ?_) fun A outer s H vs Q E hr h => ?_
  · obtain ⟨Z, M, ds, Qa, Ea, rh, r, h, _⟩ := h
    rw [r.length]; exact len _ _ _ _ h
  · obtain ⟨Z, M, ds, Qa, Ea, rh, r, h, kn, kx⟩ := h
    have tk : Takes (cxOf (L2.CX P w) P w K mg base N x (defScope st) f cdv A outer s H E) (fun cls d _ H => E cls d H) := takes_of rfl rfl rfl rfl
    obtain ⟨ts, at_, ds_, hat⟩ := body A outer s H E Z M Ea hr tk (passes_of rfl) (fun Z2 σ H2 M2 sl C d v dx rp i hx hv wa => by
      obtain ⟨Mf, dr, wa⟩ := hw _ _ _ _ _ _ wa
      have r2 := rp.rh.unhide i.hid
      obtain ⟨r3, e3⟩ := r2.dropM dr
      exact kx C d v dx H2 Mf r3 (i.ext.trans e3) hx ((hv.mono (sb_unhide i.hid)).mono e3.sb) wa)
    refine ⟨ts, ds_.ps, ds_.sim Z (L2.start N vs) H M (startD N.length ds) _ _ (rep_start rh r) ⟨Ext.refl _ _, fun _ z => z⟩ (hat ds Qa h) ⟨fun σ' H' M' sl' rp e q => ?_, fun v d H' M' rh' e hv q => ?_, fun _ _ _ _ _ _ q => absurd q (hbk _ _ _ _), fun _ _ _ _ _ _ q => absurd q (hct _ _ _ _)⟩⟩
    · obtain ⟨Mf, dr, q⟩ := hn _ _ _ _ q
      obtain ⟨r3, e3⟩ := rp.rh.dropM dr
      exact kn .non .non H' Mf r3 (e.trans e3) .non q
    · obtain ⟨Mf, dr, q⟩ := he _ _ _ _ q
      obtain ⟨r3, e3⟩ := rh'.dropM dr
      exact kn v d H' Mf r3 (e.trans e3) (hv.mono e3.sb) q
theorem fn_core {x : Str} {st : Stmt} {f : Addr} {fd : FuncData} {N ps : List Str} {k : Nat} {fs : ASp} {E1 : Store → DK → AEnds} {W1 : Store → AXK → AWX} (F : Fun K x x st f fd) (S : FnScope N ps (defScope st)) (hm : mg x = some (.ref f)) (hb : Binds K fd ps []) (len : ∀ ds M Q E, fs ds M Q E → ds.length = ps.length)
    (he : ∀ M0 Q d M, (E1 M0 Q).rt d M → ∃ Mf, Drop M Mf ∧ Q d Mf) (hn : ∀ M0 Q sl M, (E1 M0 Q).nx sl M → ∃ Mf, Drop M Mf ∧ Q .non Mf) (hbk : ∀ M0 Q sl M, ¬ (E1 M0 Q).bk sl M) (hct : ∀ M0 Q sl M, ¬ (E1 M0 Q).ct sl M) (hw : ∀ M0 Ea C d sl M, W1 M0 Ea C d sl M → ∃ Mf, Drop M Mf ∧ Ea C d Mf)
    (body : ∀ (cdv : Value) (A : Around) (outer : List Env) (s : Shared) (H : Hp) (E : XK) (Z0 : Hid) (M0 : Store) (Ea : AXK), Room k (A.deeper (envOfC x (defScope st) s.heap.objs.size f cdv)) →
      Takes (cxOf (L2.CX P w) P w K mg base N x (defScope st) f cdv A outer s H E) (fun cls d _ H => E cls d H) →
      PassesOwn (model P w) (A.deeper (envOfC x (defScope st) s.heap.objs.size f cdv)) (envOfC x (defScope st) s.heap.objs.size f cdv) (cxOf (L2.CX P w) P w K mg base N x (defScope st) f cdv A outer s H E).xe →
      WL ⟨T, Z0, H, M0⟩ K (fun cls d _ H => E cls d H) (W1 M0 Ea) →
      ∃ ts at_, DSs ⟨T, Z0, H, M0⟩ (cxOf (L2.CX P w) P w K mg base N x (defScope st) f cdv A outer s H E) (defBody st) ts at_ ∧ ∀ ds Q, fs ds M0 Q Ea → at_ (E1 M0 Q) (startD N.length ds) M0) :
    FnA P w K mg base T x (k + 1) fs := by
  obtain ⟨oc, od, kV, doc, pm, an, cdv, ct, osl, rfl, lk, hcd⟩ := F.ex
  exact ⟨f, _, ps, hm, F.kp, hb, fn_core0 cdv (fun sp l h => fn_of lk hcd S l h) len he hn hbk hct hw (body cdv)⟩
/-- a def whose code object is known -/
structure FunC (K : PySem.W.Frag) (x : Str) (st : Stmt) (f : Addr) (fd : FuncData) (cdv : Value) : Prop where
  ex : ∃ (oc : Value) (od : Option Addr) (kV doc pm : Value) (an : Option Addr) (ct : Value) (osl : Array (Option Value)),
    fd = PySem.W.fnOf x x (defArgs st) (defBody st) (defScope st) .none kV doc pm an cdv ct ∧ K.lookup f = some ⟨oc, od, .func fd, osl⟩ ∧ PySem.W.codeIn K cdv x = true
  kp : PySem.W.keepIn K (.ref f) = true
/-- a def that leaves the store as it was -/
theorem fnP {x : Str} {st : Stmt} {f : Addr} {fd : FuncData} {N ps : List Str} {k : Nat} {fs : ASp} (F : Fun K x x st f fd) (S : FnScope N ps (defScope st)) (hm : mg x = some (.ref f)) (hb : Binds K fd ps []) (len : ∀ ds M Q E, fs ds M Q E → ds.length = ps.length)
    (body : ∀ (cdv : Value) (A : Around) (outer : List Env) (s : Shared) (H : Hp) (E : XK) (Z0 : Hid) (M0 : Store) (Ea : AXK), Room k (A.deeper (envOfC x (defScope st) s.heap.objs.size f cdv)) →
      Takes (cxOf (L2.CX P w) P w K mg base N x (defScope st) f cdv A outer s H E) (fun cls d _ H => E cls d H) →
      PassesOwn (model P w) (A.deeper (envOfC x (defScope st) s.heap.objs.size f cdv)) (envOfC x (defScope st) s.heap.objs.size f cdv) (cxOf (L2.CX P w) P w K mg base N x (defScope st) f cdv A outer s H E).xe →
      WL ⟨T, Z0, H, M0⟩ K (fun cls d _ H => E cls d H) (endPW M0 Ea) →
      ∃ ts at_, DSs ⟨T, Z0, H, M0⟩ (cxOf (L2.CX P w) P w K mg base N x (defScope st) f cdv A outer s H E) (defBody st) ts at_ ∧ ∀ ds Q, fs ds M0 Q Ea → at_ (endP M0 Q) (startD N.length ds) M0) :
    FnA P w K mg base T x (k + 1) fs := fn_core (E1 := endP) (W1 := endPW) F S hm hb len (fun M0 Q d M h => ⟨M0, h⟩) (fun M0 Q sl M h => ⟨M0, h⟩) (fun _ _ _ _ h => h) (fun _ _ _ _ h => h) (fun M0 Ea C d sl M h => ⟨M0, h⟩) body
/-- .. whose code object is known -/
theorem fnPC {cdv : Value} {x : Str} {st : Stmt} {f : Addr} {fd : FuncData} {N ps : List Str} {k : Nat} {fs : ASp} (F : FunC K x st f fd cdv) (S : FnScope N ps (defScope st)) (hm : mg x = some (.ref f)) (hb : Binds K fd ps []) (len : ∀ ds M Q E, fs ds M Q E → ds.length = ps.length)
    (body : ∀ (A : Around) (outer : List Env) (s : Shared) (H : Hp) (E : XK) (Z0 : Hid) (M0 : Store) (Ea : AXK), Room k (A.deeper (envOfC x (defScope st) s.heap.objs.size f cdv)) →
      Takes (cxOf (L2.CX P w) P w K mg base N x (defScope st) f cdv A outer s H E) (fun cls d _ H => E cls d H) →
      PassesOwn (model P w) (A.deeper (envOfC x (defScope st) s.heap.objs.size f cdv)) (envOfC x (defScope st) s.heap.objs.size f cdv) (cxOf (L2.CX P w) P w K mg base N x (defScope st) f cdv A outer s H E).xe →
      WL ⟨T, Z0, H, M0⟩ K (fun cls d _ H => E cls d H) (endPW M0 Ea) →
      ∃ ts at_, DSs ⟨T, Z0, H, M0⟩ (cxOf (L2.CX P w) P w K mg base N x (defScope st) f cdv A outer s H E) (defBody st) ts at_ ∧ ∀ ds Q, fs ds M0 Q Ea → at_ (endP M0 Q) (startD N.length ds) M0) :
    FnA P w K mg base T x (k + 1) fs := by
  obtain ⟨oc, od, kV, doc, pm, an, ct, osl, rfl, lk, hcd⟩ := F.ex
  exact ⟨f, _, ps, hm, F.kp, hb, fn_core0 (E1 := endP) (W1 := endPW) cdv (fun sp l h => fn_of lk hcd S l h) len (fun M0 Q d M h => ⟨M0, h⟩) (fun M0 Q sl M h => ⟨M0, h⟩) (fun _ _ _ _ h => h) (fun _ _ _ _ h => h) (fun M0 Ea C d sl M h => ⟨M0, h⟩) body⟩
/-- a def that may change what it got by reference -/
theorem fnE {x : Str} {st : Stmt} {f : Addr} {fd : FuncData} {N ps : List Str} {k : Nat} {fs : ASp} (F : Fun K x x st f fd) (S : FnScope N ps (defScope st)) (hm : mg x = some (.ref f)) (hb : Binds K fd ps []) (len : ∀ ds M Q E, fs ds M Q E → ds.length = ps.length)
    (body : ∀ (cdv : Value) (A : Around) (outer : List Env) (s : Shared) (H : Hp) (E : XK) (Z0 : Hid) (M0 : Store) (Ea : AXK), Room k (A.deeper (envOfC x (defScope st) s.heap.objs.size f cdv)) →
      Takes (cxOf (L2.CX P w) P w K mg base N x (defScope st) f cdv A outer s H E) (fun cls d _ H => E cls d H) →
      PassesOwn (model P w) (A.deeper (envOfC x (defScope st) s.heap.objs.size f cdv)) (envOfC x (defScope st) s.heap.objs.size f cdv) (cxOf (L2.CX P w) P w K mg base N x (defScope st) f cdv A outer s H E).xe →
      WL ⟨T, Z0, H, M0⟩ K (fun cls d _ H => E cls d H) (endW Ea) →
      ∃ ts at_, DSs ⟨T, Z0, H, M0⟩ (cxOf (L2.CX P w) P w K mg base N x (defScope st) f cdv A outer s H E) (defBody st) ts at_ ∧ ∀ ds Q, fs ds M0 Q Ea → at_ (endE Q) (startD N.length ds) M0) :
    FnA P w K mg base T x (k + 1) fs := fn_core (E1 := fun _ => endE) (W1 := fun _ => endW) F S hm hb len (fun M0 Q d M h => h) (fun M0 Q sl M h => h) (fun _ _ _ _ h => h) (fun _ _ _ _ h => h) (fun M0 Ea C d sl M h => h) body
/-- the law: its code object is known -/
theorem fnLaw {cdv : Value} {x : Str} {st : Stmt} {f : Addr} {fd : FuncData} {N ps : List Str} {k : Nat} {fs : ASp} (F : FunC K x st f fd cdv) (S : FnScope N ps (defScope st)) (len : ∀ ds M Q E, fs ds M Q E → ds.length = ps.length)
    (body : ∀ (A : Around) (outer : List Env) (s : Shared) (H : Hp) (E : XK) (Z0 : Hid) (M0 : Store) (Ea : AXK), Room k (A.deeper (envOfC x (defScope st) s.heap.objs.size f cdv)) →
      Takes (cxOf (L2.CX P w) P w K mg base N x (defScope st) f cdv A outer s H E) (fun cls d _ H => E cls d H) →
      PassesOwn (model P w) (A.deeper (envOfC x (defScope st) s.heap.objs.size f cdv)) (envOfC x (defScope st) s.heap.objs.size f cdv) (cxOf (L2.CX P w) P w K mg base N x (defScope st) f cdv A outer s H E).xe →
      WL ⟨T, Z0, H, M0⟩ K (fun cls d _ H => E cls d H) (endW Ea) →
      ∃ ts at_, DSs ⟨T, Z0, H, M0⟩ (cxOf (L2.CX P w) P w K mg base N x (defScope st) f cdv A outer s H E) (defBody st) ts at_ ∧ ∀ ds Q, fs ds M0 Q Ea → at_ (endE Q) (startD N.length ds) M0) :
    FnOk P w K mg base (L2.CX P w) (k + 1) f fd ps (SpOf K T fs) := by
  obtain ⟨oc, od, kV, doc, pm, an, ct, osl, rfl, lk, hcd⟩ := F.ex
  exact fn_core0 (E1 := fun _ => endE) (W1 := fun _ => endW) cdv (fun sp l h => fn_of lk hcd S l h) len (fun M0 Q d M h => h) (fun M0 Q sl M h => h) (fun _ _ _ _ h => h) (fun _ _ _ _ h => h) (fun M0 Ea C d sl M h => h) body
end

/-! ### built-in functions -/
abbrev ACall := List D → Store → DK → Prop
def CallSim (b : BC) (K : PySem.W.Frag) (r : List V → Hp → VK → Prop) (ar : ACall) : Prop := ∀ (Z : Hid) (H : Hp) (M : Store) (xs : List V) (ds : List D) (Q : VK) (Qa : DK), RH K b.T Z H M → Rs (mkH Z H M) xs ds → ar ds M Qa →
  (∀ v d' H' M', RH K b.T Z H' M' → Ext H M H' M' → R (mkH Z H' M') v d' → Qa d' M' → Q v H') → r xs H Q
@[simp] def aCB (ar : ACall) (t : ATA) : ATE := fun sl M Q => t sl M fun ds M1 => ar ds M1 Q
section
variable {b : BC} {X : Cx} {pos : Pos} {e e1 e2 : Expr} {es : List Expr} {ta tb : TE} {aa ab : ATE} {t : TA} {at_ : ATA} {n k : Nat} {x : Str} {p : Pos} {r : List V → Hp → VK → Prop} {ar : ACall}
theorem sim_cb {K : PySem.W.Frag} (cs : CallSim b K r ar) (ha : SimA b K t at_ n) : Sim b K (tCB r t) (aCB ar at_) := fun Z σ H M sl Q Qa rp e q k =>
  ha Z σ H M sl _ _ rp e q fun vs ds H1 M1 r1 e1 h1 _ q1 => cs Z H1 M1 vs ds Q Qa r1 h1 q1 fun v d' H' M' r' e' h' q' => k v d' H' M' r' (e1.trans e') h' q'
theorem CallR.or {f : Value} {r r' : List V → Hp → VK → Prop} (h : CallR X f r) (h' : CallR X f r') : CallR X f (fun xs H Q => r xs H Q ∨ r' xs H Q) := fun pins s σ H xs us Q I rx q => q.elim (fun q => h pins s σ H xs us Q I rx q) (fun q => h' pins s σ H xs us Q I rx q)
theorem de_cb {id : String} (hc : CallR X (.builtin id) r) (cs : CallSim b X.K r ar) (hm : X.mg x = none) (ha : DA b X (e :: es) t at_ n) (hv : bootBuiltins x = some (.builtin id) := by decide +kernel) (hg : Gl X x := by rfl) (hn : x ≠ "__name__" := by decide) (hdb : (x == ("__debug__" : Str)) = false := by decide)
    (he : starEach (e :: es) X.env = (false, eval e X.env) :: starEach es X.env := by rfl) (hpl : (backTo pos (starEach es X.env)).any (·.1) = false := by rfl) :
    DE b X (.Call (.Name x p) (e :: es) [] pos) (tCB r t) (aCB ar at_) := ⟨pe_callB hc hg hm hv ha.pa hn hdb he hpl, sim_cb cs ha.sim⟩
theorem de_cty {T : String} (hc : CallR X (.type T) r) (cs : CallSim b X.K r ar) (hm : X.mg x = none) (ha : DA b X (e :: es) t at_ n) (hv : bootBuiltins x = some (.type T) := by decide +kernel) (hg : Gl X x := by rfl) (hn : x ≠ "__name__" := by decide) (hdb : (x == ("__debug__" : Str)) = false := by decide)
    (he : starEach (e :: es) X.env = (false, eval e X.env) :: starEach es X.env := by rfl) (hpl : (backTo pos (starEach es X.env)).any (·.1) = false := by rfl) :
    DE b X (.Call (.Name x p) (e :: es) [] pos) (tCB r t) (aCB ar at_) := ⟨pe_callTy hc hg hm hv ha.pa hn hdb he hpl, sim_cb cs ha.sim⟩
end
end AL
set_option Elab.async false
set_option linter.all false
set_option maxRecDepth 100000
set_option maxHeartbeats 4000000
set_option autoImplicit false
/-! AL9: built-in functions, one by one. -/
namespace AL
open PySem PySem.Spec PyProof.Rows L2 LamX

/-! ### isinstance -/
inductive Ty | bool | int | str | list | tuple | dict
def Ty.nm : Ty → String
  | .bool => "bool" | .int => "int" | .str => "str" | .list => "list" | .tuple => "tuple" | .dict => "dict"
def cellTy : Option Cell → Ty → Option Bool
  | some (.lst _), .list => some true
  | some (.lst _), _ => some false
  | some (.tp _), .tuple => some true
  | some (.tp _), _ => some false
  | some (.dic _), .dict => some true
  | some (.dic _), _ => some false
  | _, _ => none
/-- isinstance(d, T) -/
def isD (M : Store) : D → Ty → Option Bool
  | .non, _ => some false
  | .bl _, .bool => some true
  | .bl _, .int => some true
  | .bl _, _ => some false
  | .int _, .int => some true
  | .int _, _ => some false
  | .str _, .str => some true
  | .str _, _ => some false
  | .lst _, .list => some true
  | .lst _, _ => some false
  | .tup _, .tuple => some true
  | .tup _, _ => some false
  | .dic _, .dict => some true
  | .dic _, _ => some false
  | .ref a, T => cellTy (M a) T
theorem isD_ok {K : PySem.W.Frag} {T : List (Addr × Str)} {Z : Hid} {H : Hp} {M : Store} {v : V} {d : D} {t0 : Ty} {r0 : Bool} (rh : RH K T Z H M) (hr : R (mkH Z H M) v d) (h0 : isD M d t0 = some r0) : ∃ u, TyX K H v u ∧ ∀ t r, isD M d t = some r → PySem.W.kitOne K u (.type t.nm) = some r := by
  cases hr with
  | non => refine ⟨_, .base .non, fun t r h => ?_⟩; cases t <;> (cases h; exact kit_ty (by decide +kernel))
  | bl x => refine ⟨_, .base (.bl x), fun t r h => ?_⟩; cases t <;> (cases h; exact kit_ty (by decide +kernel))
  | int x => refine ⟨_, .base (.int x), fun t r h => ?_⟩; cases t <;> (cases h; exact kit_ty (by decide +kernel))
  | str x => refine ⟨_, .base (.str x), fun t r h => ?_⟩; cases t <;> (cases h; exact kit_ty (by decide +kernel))
  | lst h1 n h2 => refine ⟨_, .base (.lst (mk_iff.mp h1).2), fun t r h => ?_⟩; cases t <;> (cases h; exact kit_ty (by decide +kernel))
  | tup h1 n h2 =>
    rcases h1 with h1 | ⟨o, h1⟩
    · refine ⟨_, .base (.tup (mk_iff.mp h1).2), fun t r h => ?_⟩; cases t <;> (cases h; exact kit_ty (by decide +kernel))
    · refine ⟨_, .fTuple (mk_iff.mp h1).2, fun t r h => ?_⟩; cases t <;> (cases h; exact kit_ty (by decide +kernel))
  | dic h1 n h2 =>
    rcases h1 with h1 | ⟨o, h1⟩
    · refine ⟨_, .base (.dK (mk_iff.mp h1).2), fun t r h => ?_⟩; cases t <;> (cases h; exact kit_ty (by decide +kernel))
    · refine ⟨_, .fDict (mk_iff.mp h1).2, fun t r h => ?_⟩; cases t <;> (cases h; exact kit_ty (by decide +kernel))
  | ref a =>
    have h0 : cellTy (M a) t0 = some r0 := h0
    cases z : M a with
    | none => rw [z] at h0; cases t0 <;> cases h0
    | some c =>
      cases c with
      | lst ds =>
        obtain ⟨n, vs, h1, _⟩ := rh.cells a _ z
        refine ⟨_, .base (.lst h1), fun t r h => ?_⟩
        have h : cellTy (M a) t = some r := h
        rw [z] at h
        cases t <;> (cases h; exact kit_ty (by decide +kernel))
      | dic ds =>
        obtain ⟨n, vs, h1, _⟩ := rh.cells a _ z
        refine ⟨_, .base (.dK h1), fun t r h => ?_⟩
        have h : cellTy (M a) t = some r := h
        rw [z] at h
        cases t <;> (cases h; exact kit_ty (by decide +kernel))
      | tp ds =>
        obtain ⟨n, vs, its, h1, _⟩ := rh.cells a _ z
        refine ⟨_, .fTuple h1, fun t r h => ?_⟩
        have h : cellTy (M a) t = some r := h
        rw [z] at h
        cases t <;> (cases h; exact kit_ty (by decide +kernel))
      | _ => rw [z] at h0; cases t0 <;> cases h0
@[simp] def aIsi (t : Ty) (a : ATE) : ATE := fun sl M Q => a sl M fun d M1 => match isD M1 d t with | some r => Q (.bl r) M1 | none => False
/-- of several types -/
def isDs (M : Store) (d : D) : List Ty → Option Bool
  | [] => some false
  | t :: r => match isD M d t with | some true => some true | some false => isDs M d r | none => none
@[simp] def aIsiT (ts : List Ty) (a : ATE) : ATE := fun sl M Q => a sl M fun d M1 => match isDs M1 d ts with | some r => Q (.bl r) M1 | none => False
theorem isDs_any {K : PySem.W.Frag} {M : Store} {d : D} {u : Value} (hk : ∀ t r, isD M d t = some r → PySem.W.kitOne K u (.type t.nm) = some r) : ∀ {ts : List Ty} {r : Bool}, isDs M d ts = some r → PySem.W.kitAny K u (ts.map fun t => Value.type t.nm) = some r
  | [], r, h => by cases h; exact kitAny_nil
  | t :: rest, r, h => by
    unfold isDs at h
    cases z : isD M d t with
    | none => rw [z] at h; cases h
    | some b =>
      rw [z] at h
      cases b
      · exact kitAny_cons (hk _ _ z) (fun _ => isDs_any hk h) (fun q => by cases q)
      · exact kitAny_cons (hk _ _ z) (fun q => by cases q) (fun _ => (Option.some.inj h).symm)
section
variable {b : BC} {X : Cx} {pos : Pos} {e e1 e2 : Expr} {es : List Expr} {ta tb : TE} {aa ab : ATE} {t : TA} {at_ : ATA} {n k : Nat} {x : Str} {p p2 p3 : Pos}
theorem de_isi (ty : Ty) {tn : Str} (hm : X.mg "isinstance" = none) (hmt : X.mg tn = none) (ha : DE b X e ta aa) (hb : bootBuiltins tn = some (.type ty.nm) := by decide +kernel) (hg : Gl X "isinstance" := by rfl) (hgt : Gl X tn := by rfl) (hn : tn ≠ "__name__" := by decide) (hdb : (tn == ("__debug__" : Str)) = false := by decide)
    (hs : starEach (e :: [.Name tn p2]) X.env = (false, eval e X.env) :: starEach [.Name tn p2] X.env := by rfl) (hs2 : starEach (.Name tn p2 :: []) X.env = (false, eval (.Name tn p2) X.env) :: starEach [] X.env := by rfl) (hpl : (backTo pos (starEach [.Name tn p2] X.env)).any (·.1) = false := by rfl) :
    DE b X (.Call (.Name "isinstance" p) [e, .Name tn p2] [] pos) (tCB (rIsi X.K) (tCons ta (tCons (tC (.ty ty.nm)) tNil))) (aIsi ty aa) := ⟨pe_callB call_isi hg hm (by decide +kernel) (pa_cons ha.pe (pa_cons (pe_bltn hgt hmt hb rfl hn hdb) pa_nil hs2) hs) (by decide) (by decide) hs hpl, fun Z σ H M sl Q Qa rp e q k =>
  ha.sim Z σ H M sl _ _ rp e q fun v d H1 M1 r1 e1 h1 q1 => by
    cases z : isD M1 d ty with
    | none => rw [z] at q1; exact q1.elim
    | some r =>
      rw [z] at q1
      obtain ⟨u, h2, h3⟩ := isD_ok r1 h1 z
      exact ⟨v, _, u, _, r, rfl, .ty ty.nm, h2, h3 _ _ z, k _ _ H1 M1 r1 e1 (.bl _) q1⟩⟩
theorem de_isiT2 (t1 t2 : Ty) {n1 n2 : Str} {kk : Nat} {p4 : Pos} (hm : X.mg "isinstance" = none) (hm1 : X.mg n1 = none) (hm2 : X.mg n2 = none) (ha : DE b X e ta aa) (hb1 : bootBuiltins n1 = some (.type t1.nm) := by decide +kernel) (hb2 : bootBuiltins n2 = some (.type t2.nm) := by decide +kernel)
    (hg : Gl X "isinstance" := by rfl) (hg1 : Gl X n1 := by rfl) (hg2 : Gl X n2 := by rfl) (hn1 : n1 ≠ "__name__" := by decide) (hn2 : n2 ≠ "__name__" := by decide) (hd1 : (n1 == ("__debug__" : Str)) = false := by decide) (hd2 : (n2 == ("__debug__" : Str)) = false := by decide)
    (hs : starEach (e :: [.Tuple [.Name n1 p2, .Name n2 p3] kk p4]) X.env = (false, eval e X.env) :: starEach [.Tuple [.Name n1 p2, .Name n2 p3] kk p4] X.env := by rfl)
    (hs2 : starEach (.Tuple [.Name n1 p2, .Name n2 p3] kk p4 :: []) X.env = (false, eval (.Tuple [.Name n1 p2, .Name n2 p3] kk p4) X.env) :: starEach [] X.env := by rfl)
    (hs3 : starEach (.Name n1 p2 :: [.Name n2 p3]) X.env = (false, eval (.Name n1 p2) X.env) :: starEach [.Name n2 p3] X.env := by rfl) (hs4 : starEach (.Name n2 p3 :: []) X.env = (false, eval (.Name n2 p3) X.env) :: starEach [] X.env := by rfl)
    (hpl : (backTo pos (starEach [.Tuple [.Name n1 p2, .Name n2 p3] kk p4] X.env)).any (·.1) = false := by rfl) :
    DE b X (.Call (.Name "isinstance" p) [e, .Tuple [.Name n1 p2, .Name n2 p3] kk p4] [] pos) (tCB (rIsiT X.K) (tCons ta (tCons (tTup (tCons (tC (.ty t1.nm)) (tCons (tC (.ty t2.nm)) tNil))) tNil))) (aIsiT [t1, t2] aa) :=
  ⟨pe_callB call_isiT hg hm (by decide +kernel) (pa_cons ha.pe (pa_cons (pe_tup (pa_cons (pe_bltn hg1 hm1 hb1 rfl hn1 hd1) (pa_cons (pe_bltn hg2 hm2 hb2 rfl hn2 hd2) pa_nil hs4) hs3)) pa_nil hs2) hs) (by decide) (by decide) hs hpl, fun Z σ H M sl Q Qa rp e q k =>
  ha.sim Z σ H M sl _ _ rp e q fun v d H1 M1 r1 e1 h1 q1 => by
    refine ⟨two_line, fun tp np => ?_⟩
    cases z : isDs M1 d [t1, t2] with
    | none => rw [z] at q1; exact q1.elim
    | some r =>
      rw [z] at q1
      obtain ⟨r2, e2⟩ := r1.alloc (o := .tup [.ty t1.nm, .ty t2.nm]) np
      obtain ⟨t0, r0, z0⟩ : ∃ t0 r0, isD M1 d t0 = some r0 := by
        unfold isDs at z
        cases y : isD M1 d t1 with
        | none => rw [y] at z; cases z
        | some b => exact ⟨_, _, y⟩
      obtain ⟨u, h2, h3⟩ := isD_ok r2 (h1.mono e2.sb) z0
      exact ⟨v, tp, _, u, _, r, rfl, upd_same, .cons (.ty _) (.cons (.ty _) .nil), h2, isDs_any h3 z, k _ _ _ M1 r2 (e1.trans e2) (.bl _) q1⟩⟩

/-! ### len, int, sum, min, max, abs, tuple, list, gcd, all, any -/
@[simp] def lenD : ACall := fun ds M Q => match ds with
  | [.str z] => z.length ≤ sizeLine ∧ Q (.int (z.length : Nat)) M
  | [d] => (match seqA M d with | some es => es.length ≤ sizeLine → Q (.int (es.length : Nat)) M | none => False)
  | _ => False
theorem cs_len {K : PySem.W.Frag} : CallSim b K (fun xs H Q => ∃ x n, xs = [x] ∧ LenV K x H n ∧ Q (.int n) H) lenD := by
  intro Z H M xs ds Q Qa rh r q k
  cases r with
  | nil => exact q.elim
  | cons h r =>
    cases r with
    | cons _ _ => revert q; cases h <;> exact fun q => q.elim
    | nil =>
      rename_i v d
      have sq : ∀ {es : List D}, seqA M d = some es → (es.length ≤ sizeLine → Qa (.int (es.length : Nat)) M) → ∃ x n, [v] = [x] ∧ LenV K x H n ∧ Q (.int n) H := fun {es} z q => by
        obtain ⟨a, vs, rfl, ha, hr, hn⟩ := seqA_ok rh h z
        have q := q hn
        refine ⟨_, vs.length, rfl, ?_, ?_⟩
        · rcases ha with ha | ha
          · exact .inl ⟨vs, .of ha, rfl⟩
          · exact .inr ⟨vs, .inl ha, rfl⟩
        · rw [hr.length]; exact k _ _ H M rh (Ext.refl H M) (.int _) q
      cases d with
      | str z => cases h; exact ⟨_, z.length, rfl, ⟨q.1, rfl⟩, k _ _ H M rh (Ext.refl H M) (.int _) q.2⟩
      | lst es => exact sq rfl q
      | tup es => exact sq rfl q
      | ref a =>
        have q : (match seqA M (.ref a) with | some es => es.length ≤ sizeLine → Qa (.int (es.length : Nat)) M | none => False) := q
        cases z : seqA M (.ref a) with
        | none => rw [z] at q; exact q.elim
        | some es => rw [z] at q; exact sq z q
      | _ => exact q.elim
theorem de_len (hm : X.mg "len" = none) (ha : DA b X [e] t at_ 1) (hg : Gl X "len" := by rfl) (he : starEach (e :: []) X.env = (false, eval e X.env) :: starEach [] X.env := by rfl) (hpl : (backTo pos (starEach [] X.env)).any (·.1) = false := by rfl) :
    DE b X (.Call (.Name "len" p) [e] [] pos) (tCB (fun xs H Q => ∃ x n, xs = [x] ∧ LenV X.K x H n ∧ Q (.int n) H) t) (aCB lenD at_) := de_cb call_len cs_len hm ha PySem.boot_len hg (by decide) (by decide) he hpl
@[simp] def intD : ACall := fun ds M Q => match ds with | [.int i] => Q (.int i) M | [.bl c] => Q (.int (if c then 1 else 0)) M | _ => False
def rIntR : List V → Hp → VK → Prop := fun xs H Q => (∃ i, xs = [.int i] ∧ Q (.int i) H) ∨ ∃ k, xs = [.bl k] ∧ Q (.int (if k then 1 else 0)) H
theorem cs_int {K : PySem.W.Frag} : CallSim b K rIntR intD := by
  intro Z H M xs ds Q Qa rh r q k
  cases r with
  | nil => exact q.elim
  | cons h r =>
    cases r with
    | cons _ _ => revert q; cases h <;> exact fun q => q.elim
    | nil =>
      cases h with
      | int i => exact .inl ⟨_, rfl, k _ _ H M rh (Ext.refl H M) (.int _) q⟩
      | bl c => exact .inr ⟨_, rfl, k _ _ H M rh (Ext.refl H M) (.int _) q⟩
      | _ => exact q.elim
theorem de_intc (hm : X.mg "int" = none) (ha : DA b X [e] t at_ 1) (hg : Gl X "int" := by rfl) (he : starEach (e :: []) X.env = (false, eval e X.env) :: starEach [] X.env := by rfl) (hpl : (backTo pos (starEach [] X.env)).any (·.1) = false := by rfl) :
    DE b X (.Call (.Name "int" p) [e] [] pos) (tCB rIntR t) (aCB intD at_) := de_cty call_int1 cs_int hm ha (by decide +kernel) hg (by decide) (by decide) he hpl
/-- ints -/
def intsOf : List D → Option (List Int)
  | [] => some []
  | .int i :: r => (intsOf r).map (i :: ·)
  | _ :: _ => none
@[simp] theorem intsOf_nil : intsOf [] = some [] := rfl
@[simp] theorem intsOf_cons {i : Int} {r : List D} : intsOf (.int i :: r) = (intsOf r).map (i :: ·) := rfl
@[simp] theorem intsOf_map (ns : List Int) : intsOf (ns.map D.int) = some ns := by
  induction ns with
  | nil => rfl
  | cons n r ih => simp [ih]
theorem intsOf_some : ∀ {ds : List D} {ns : List Int}, intsOf ds = some ns → ds = ns.map D.int
  | [], _, h => by cases h; rfl
  | .int i :: r, ns, h => by
    simp only [intsOf_cons] at h
    cases z : intsOf r with
    | none => rw [z] at h; cases h
    | some ms => rw [z] at h; cases h; rw [intsOf_some z]; rfl
  | .non :: _, _, h => by cases h
  | .bl _ :: _, _, h => by cases h
  | .str _ :: _, _, h => by cases h
  | .lst _ :: _, _, h => by cases h
  | .tup _ :: _, _, h => by cases h
  | .dic _ :: _, _, h => by cases h
  | .ref _ :: _, _, h => by cases h
theorem ints_rs {F : Hp} : ∀ {ns : List Int} {vs : List V}, Rs F vs (ns.map D.int) → vs = ns.map V.int
  | [], _, .nil => rfl
  | n :: ns, _, .cons h r => by cases h; rw [ints_rs r]; rfl
@[simp] def sumD : ACall := fun ds M Q => match ds with
  | [d] => (match (seqL M d).bind intsOf with | some ns => Q (.int ns.sum) M | none => False)
  | _ => False
theorem ints_at {T : List (Addr × Str)} {K : PySem.W.Frag} {Z : Hid} {H : Hp} {M : Store} {v : V} {d : D} {ns : List Int} (rh : RH K T Z H M) (h : R (mkH Z H M) v d) (z : (seqL M d).bind intsOf = some ns) : ∃ a, v = .ref a ∧ H a = some (.lst (ns.map V.int)) := by
  cases y : seqL M d with
  | none => rw [y] at z; cases z
  | some es =>
    rw [y] at z
    have e := intsOf_some (show intsOf es = some ns from z)
    subst e
    obtain ⟨a, vs, rfl, ha, hr, _⟩ := seqL_ok rh h y
    exact ⟨a, rfl, by rw [ha, ints_rs hr]⟩
theorem cs_sum {K : PySem.W.Frag} : CallSim b K (rSum K) sumD := by
  intro Z H M xs ds Q Qa rh r q k
  cases r with
  | nil => exact q.elim
  | cons h r =>
    cases r with
    | cons _ _ => exact q.elim
    | nil =>
      rename_i v d
      have q : (match (seqL M d).bind intsOf with | some ns => Qa (.int ns.sum) M | none => False) := q
      cases z : (seqL M d).bind intsOf with
      | none => rw [z] at q; exact q.elim
      | some ns =>
        rw [z] at q
        obtain ⟨a, rfl, ha⟩ := ints_at rh h z
        exact ⟨a, ns, rfl, .of ha, k _ _ H M rh (Ext.refl H M) (.int _) q⟩
theorem de_sum (hc : X.calm = true) (hm : X.mg "sum" = none) (ha : DA b X [e] t at_ 1) (hg : Gl X "sum" := by rfl) (he : starEach (e :: []) X.env = (false, eval e X.env) :: starEach [] X.env := by rfl) (hpl : (backTo pos (starEach [] X.env)).any (·.1) = false := by rfl) :
    DE b X (.Call (.Name "sum" p) [e] [] pos) (tCB (rSum X.K) t) (aCB sumD at_) := de_cb (cr_sum hc) cs_sum hm ha (by decide +kernel) hg (by decide) (by decide) he hpl
/-- of two ints -/
@[simp] def int2 (g : Int → Int → Int) : ACall := fun ds M Q => match ds with | [.int i, .int j] => Q (.int (g i j)) M | _ => False
def rI2 (g' : Int → Int → Int) : List V → Hp → VK → Prop := fun xs H Q => ∃ i j, xs = [.int i, .int j] ∧ Q (.int (g' i j)) H
theorem cs_int2 {K : PySem.W.Frag} {g g' : Int → Int → Int} (hg : ∀ i j, g' i j = g i j) : CallSim b K (rI2 g') (int2 g) := by
  intro Z H M xs ds Q Qa rh r q k
  cases r with
  | nil => exact q.elim
  | cons h r =>
    cases r with
    | nil => revert q; cases h <;> exact fun q => q.elim
    | cons h2 r =>
      cases r with
      | cons _ _ => revert q; cases h <;> cases h2 <;> exact fun q => q.elim
      | nil =>
        cases h with
        | int i =>
          cases h2 with
          | int j => exact ⟨_, _, rfl, by rw [hg]; exact k _ _ H M rh (Ext.refl H M) (.int _) q⟩
          | _ => exact q.elim
        | _ => revert q; cases h2 <;> exact fun q => q.elim
theorem de_min2 (hc : X.calm = true) (hm : X.mg "min" = none) (ha : DA b X [e1, e2] t at_ 2) (hg : Gl X "min" := by rfl) (he : starEach (e1 :: [e2]) X.env = (false, eval e1 X.env) :: starEach [e2] X.env := by rfl) (hpl : (backTo pos (starEach [e2] X.env)).any (·.1) = false := by rfl) :
    DE b X (.Call (.Name "min" p) [e1, e2] [] pos) (tCB (rI2 fun i j => if j < i then j else i) t) (aCB (int2 fun i j => min i j) at_) := de_cb (call_min2 hc) (cs_int2 (g := fun i j => min i j) (g' := fun i j => if j < i then j else i) fun i j => by split <;> omega) hm ha (by decide +kernel) hg (by decide) (by decide) he hpl
theorem de_max2 (hc : X.calm = true) (hm : X.mg "max" = none) (ha : DA b X [e1, e2] t at_ 2) (hg : Gl X "max" := by rfl) (he : starEach (e1 :: [e2]) X.env = (false, eval e1 X.env) :: starEach [e2] X.env := by rfl) (hpl : (backTo pos (starEach [e2] X.env)).any (·.1) = false := by rfl) :
    DE b X (.Call (.Name "max" p) [e1, e2] [] pos) (tCB (rI2 fun i j => if j > i then j else i) t) (aCB (int2 fun i j => max i j) at_) := de_cb (call_max2 hc) (cs_int2 (g := fun i j => max i j) (g' := fun i j => if j > i then j else i) fun i j => by split <;> omega) hm ha (by decide +kernel) hg (by decide) (by decide) he hpl
theorem de_gcd (hm : X.mg x = some (.builtin "math.gcd")) (ha : DA b X (e1 :: es) t at_ n) (hg : Gl X x := by rfl) (hdb : (x == ("__debug__" : Str)) = false := by decide) (he : starEach (e1 :: es) X.env = (false, eval e1 X.env) :: starEach es X.env := by rfl) (hpl : (backTo pos (starEach es X.env)).any (·.1) = false := by rfl) :
    DE b X (.Call (.Name x p) (e1 :: es) [] pos) (tCB rGcd t) (aCB (int2 fun i j => ((Nat.gcd i.natAbs j.natAbs : Nat) : Int)) at_) :=
  ⟨pe_callBfun cr_gcd hg hm ha.pa hdb he hpl, sim_cb (cs_int2 (g := fun i j => ((Nat.gcd i.natAbs j.natAbs : Nat) : Int)) (g' := fun i j => ((Nat.gcd i.natAbs j.natAbs : Nat) : Int)) fun _ _ => rfl) ha.sim⟩
@[simp] def absD : ACall := fun ds M Q => match ds with | [.int i] => Q (.int (if i < 0 then -i else i)) M | _ => False
def rAbsR : List V → Hp → VK → Prop := fun xs H Q => ∃ i, xs = [.int i] ∧ Q (.int (if i < 0 then -i else i)) H
theorem cs_abs {K : PySem.W.Frag} : CallSim b K rAbsR absD := by
  intro Z H M xs ds Q Qa rh r q k
  cases r with
  | nil => exact q.elim
  | cons h r =>
    cases r with
    | cons _ _ => revert q; cases h <;> exact fun q => q.elim
    | nil =>
      cases h with
      | int i => exact ⟨_, rfl, k _ _ H M rh (Ext.refl H M) (.int _) q⟩
      | _ => exact q.elim
theorem de_abs (hm : X.mg "abs" = none) (ha : DA b X [e] t at_ 1) (hg : Gl X "abs" := by rfl) (he : starEach (e :: []) X.env = (false, eval e X.env) :: starEach [] X.env := by rfl) (hpl : (backTo pos (starEach [] X.env)).any (·.1) = false := by rfl) :
    DE b X (.Call (.Name "abs" p) [e] [] pos) (tCB rAbsR t) (aCB absD at_) := de_cb call_abs cs_abs hm ha (by decide +kernel) hg (by decide) (by decide) he hpl
/-- tuple(x) -/
@[simp] def tupD : ACall := fun ds M Q => match ds with | [d] => (match seqB M d with | some es => Q (.tup es) M | none => False) | _ => False
def rTupR (K : PySem.W.Frag) : List V → Hp → VK → Prop := fun xs H Q => ∃ p ys, xs = [.ref p] ∧ ((SqL K H p ys ∧ ∀ l, H l = none → Q (.ref l) (upd H l (.tup ys))) ∨ (SqT K H p ys ∧ Q (.ref p) H))
theorem cs_tup {K : PySem.W.Frag} : CallSim b K (rTupR K) tupD := by
  intro Z H M xs ds Q Qa rh r q k
  cases r with
  | nil => exact q.elim
  | cons h r =>
    cases r with
    | cons _ _ => exact q.elim
    | nil =>
      rename_i v d
      cases z : seqB M d with
      | none => simp only [tupD, z] at q
      | some es =>
        replace q : Qa (.tup es) M := by simpa only [tupD, z] using q
        cases d with
        | tup es' =>
          cases z
          have q : Qa (.tup es) M := q
          cases h with
          | tup h1 n h2 => exact ⟨_, _, rfl, .inr ⟨.inl (rd_mk h1), k _ _ H M rh (Ext.refl H M) (.tup h1 n h2) q⟩⟩
        | _ =>
          first
            | (obtain ⟨a, vs, rfl, ha, hr, hn⟩ := seqL_ok rh h z
               refine ⟨a, vs, rfl, .inl ⟨.of ha, fun l nl => ?_⟩⟩
               obtain ⟨r2, e2, z2⟩ := new_tup rh nl hn hr
               exact k _ _ _ _ r2 e2 z2 q)
theorem de_tupc (hm : X.mg "tuple" = none) (ha : DA b X [e] t at_ 1) (hg : Gl X "tuple" := by rfl) (he : starEach (e :: []) X.env = (false, eval e X.env) :: starEach [] X.env := by rfl) (hpl : (backTo pos (starEach [] X.env)).any (·.1) = false := by rfl) :
    DE b X (.Call (.Name "tuple" p) [e] [] pos) (tCB (rTupR X.K) t) (aCB tupD at_) := de_cty call_tuple_of cs_tup hm ha (by decide +kernel) hg (by decide) (by decide) he hpl
/-- list(x), as data, or into the store -/
@[simp] def lstD : ACall := fun ds M Q => match ds with | [d] => (match seqA M d with | some es => Q (.lst es) M | none => False) | _ => False
@[simp] def lstDC : ACall := fun ds M Q => match ds with | [d] => (match seqA M d with | some es => ∀ a, M a = none → Q (.ref a) (updS M a (.lst es)) | none => False) | _ => False
def rLstR (K : PySem.W.Frag) : List V → Hp → VK → Prop := fun xs H Q => ∃ p ys, xs = [.ref p] ∧ (SqL K H p ys ∨ SqT K H p ys) ∧ ∀ l, H l = none → Q (.ref l) (upd H l (.lst ys))
theorem cs_lst {K : PySem.W.Frag} : CallSim b K (rLstR K) lstD := by
  intro Z H M xs ds Q Qa rh r q k
  cases r with
  | nil => exact q.elim
  | cons h r =>
    cases r with
    | cons _ _ => exact q.elim
    | nil =>
      rename_i v d
      have q : (match seqA M d with | some es => Qa (.lst es) M | none => False) := q
      cases z : seqA M d with
      | none => rw [z] at q; exact q.elim
      | some es =>
        rw [z] at q
        obtain ⟨a, vs, rfl, ha, hr, hn⟩ := seqA_ok rh h z
        refine ⟨a, vs, rfl, ha.elim (fun h => .inl (.of h)) (fun h => .inr (.inl h)), fun l nl => ?_⟩
        obtain ⟨r2, e2, z2⟩ := new_lst rh nl hn hr
        exact k _ _ _ _ r2 e2 z2 q
theorem cs_lstC {K : PySem.W.Frag} : CallSim b K (rLstR K) lstDC := by
  intro Z H M xs ds Q Qa rh r q k
  cases r with
  | nil => exact q.elim
  | cons h r =>
    cases r with
    | cons _ _ => exact q.elim
    | nil =>
      rename_i v d
      have q : (match seqA M d with | some es => ∀ a, M a = none → Qa (.ref a) (updS M a (.lst es)) | none => False) := q
      cases z : seqA M d with
      | none => rw [z] at q; exact q.elim
      | some es =>
        rw [z] at q
        obtain ⟨a, vs, rfl, ha, hr, hn⟩ := seqA_ok rh h z
        refine ⟨a, vs, rfl, ha.elim (fun h => .inl (.of h)) (fun h => .inr (.inl h)), fun l nl => ?_⟩
        obtain ⟨r2, e2⟩ := new_cell rh nl hn hr
        exact k _ _ _ _ r2 e2 (.ref l) (q l (rh.free nl))
theorem de_lstc (hm : X.mg "list" = none) (ha : DA b X [e] t at_ 1) (hg : Gl X "list" := by rfl) (he : starEach (e :: []) X.env = (false, eval e X.env) :: starEach [] X.env := by rfl) (hpl : (backTo pos (starEach [] X.env)).any (·.1) = false := by rfl) :
    DE b X (.Call (.Name "list" p) [e] [] pos) (tCB (rLstR X.K) t) (aCB lstD at_) := de_cty call_list_of cs_lst hm ha (by decide +kernel) hg (by decide) (by decide) he hpl
theorem de_lstcC (hm : X.mg "list" = none) (ha : DA b X [e] t at_ 1) (hg : Gl X "list" := by rfl) (he : starEach (e :: []) X.env = (false, eval e X.env) :: starEach [] X.env := by rfl) (hpl : (backTo pos (starEach [] X.env)).any (·.1) = false := by rfl) :
    DE b X (.Call (.Name "list" p) [e] [] pos) (tCB (rLstR X.K) t) (aCB lstDC at_) := de_cty call_list_of cs_lstC hm ha (by decide +kernel) hg (by decide) (by decide) he hpl
/-- bools -/
def blsOf : List D → Option (List Bool)
  | [] => some []
  | .bl i :: r => (blsOf r).map (i :: ·)
  | _ :: _ => none
@[simp] theorem blsOf_nil : blsOf [] = some [] := rfl
@[simp] theorem blsOf_cons {i : Bool} {r : List D} : blsOf (.bl i :: r) = (blsOf r).map (i :: ·) := rfl
@[simp] theorem blsOf_map (ns : List Bool) : blsOf (ns.map D.bl) = some ns := by
  induction ns with
  | nil => rfl
  | cons n r ih => simp [ih]
theorem blsOf_some : ∀ {ds : List D} {ns : List Bool}, blsOf ds = some ns → ds = ns.map D.bl
  | [], _, h => by cases h; rfl
  | .bl i :: r, ns, h => by
    simp only [blsOf_cons] at h
    cases z : blsOf r with
    | none => rw [z] at h; cases h
    | some ms => rw [z] at h; cases h; rw [blsOf_some z]; rfl
  | .non :: _, _, h => by cases h
  | .int _ :: _, _, h => by cases h
  | .str _ :: _, _, h => by cases h
  | .lst _ :: _, _, h => by cases h
  | .tup _ :: _, _, h => by cases h
  | .dic _ :: _, _, h => by cases h
  | .ref _ :: _, _, h => by cases h
theorem bls_rs {F : Hp} : ∀ {ns : List Bool} {vs : List V}, Rs F vs (ns.map D.bl) → vs = ns.map V.bl
  | [], _, .nil => rfl
  | n :: ns, _, .cons h r => by cases h; rw [bls_rs r]; rfl
@[simp] def allD (g : List Bool → Bool) : ACall := fun ds M Q => match ds with
  | [d] => (match (seqL M d).bind blsOf with | some ns => Q (.bl (g ns)) M | none => False)
  | _ => False
theorem cs_all {K : PySem.W.Frag} (g : List Bool → Bool) : CallSim b K (fun vs H Q => ∃ (a : Addr) (bs : List Bool), vs = [V.ref a] ∧ SqL K H a (bs.map V.bl) ∧ Q (.bl (g bs)) H) (allD g) := by
  intro Z H M xs ds Q Qa rh r q k
  cases r with
  | nil => exact q.elim
  | cons h r =>
    cases r with
    | cons _ _ => exact q.elim
    | nil =>
      rename_i v d
      have q : (match (seqL M d).bind blsOf with | some ns => Qa (.bl (g ns)) M | none => False) := q
      cases z : (seqL M d).bind blsOf with
      | none => rw [z] at q; exact q.elim
      | some ns =>
        rw [z] at q
        cases y : seqL M d with
        | none => rw [y] at z; cases z
        | some es =>
          rw [y] at z
          have e := blsOf_some (show blsOf es = some ns from z)
          subst e
          obtain ⟨a, vs, rfl, ha, hr, _⟩ := seqL_ok rh h y
          exact ⟨a, ns, rfl, .of (by rw [ha, bls_rs hr]), k _ _ H M rh (Ext.refl H M) (.bl _) q⟩
theorem de_all (hc : X.calm = true) (hm : X.mg "all" = none) (ha : DA b X [e] t at_ 1) (hg : Gl X "all" := by rfl) (he : starEach (e :: []) X.env = (false, eval e X.env) :: starEach [] X.env := by rfl) (hpl : (backTo pos (starEach [] X.env)).any (·.1) = false := by rfl) :
    DE b X (.Call (.Name "all" p) [e] [] pos) (tCB (rAll X.K) t) (aCB (allD fun bs => bs.all id) at_) := de_cb (cr_all hc) (cs_all fun bs => bs.all id) hm ha (by decide +kernel) hg (by decide) (by decide) he hpl
theorem de_any (hc : X.calm = true) (hm : X.mg "any" = none) (ha : DA b X [e] t at_ 1) (hg : Gl X "any" := by rfl) (he : starEach (e :: []) X.env = (false, eval e X.env) :: starEach [] X.env := by rfl) (hpl : (backTo pos (starEach [] X.env)).any (·.1) = false := by rfl) :
    DE b X (.Call (.Name "any" p) [e] [] pos) (tCB (rAny X.K) t) (aCB (allD fun bs => bs.any id) at_) := de_cb (cr_any hc) (cs_all fun bs => bs.any id) hm ha (by decide +kernel) hg (by decide) (by decide) he hpl
end
end AL
set_option Elab.async false
set_option linter.all false
set_option maxRecDepth 100000
set_option maxHeartbeats 4000000
set_option autoImplicit false
/-! AL10: plain data. -/
namespace AL
open PySem PySem.Spec PyProof.Rows L2 LamX

mutual
/-- data without things by reference, without dicts -/
def puD : D → Bool
  | .non => true
  | .bl _ => true
  | .int _ => true
  | .str _ => true
  | .lst xs => puDs xs
  | .tup xs => puDs xs
  | .dic _ => false
  | .ref _ => false
def puDs : List D → Bool
  | [] => true
  | x :: r => puD x && puDs r
end
@[simp] theorem puD_non : puD .non = true := by simp [puD]
@[simp] theorem puD_bl {x} : puD (.bl x) = true := by simp [puD]
@[simp] theorem puD_int {x} : puD (.int x) = true := by simp [puD]
@[simp] theorem puD_str {x} : puD (.str x) = true := by simp [puD]
@[simp] theorem puD_lst {x} : puD (.lst x) = puDs x := by simp [puD]
@[simp] theorem puD_tup {x} : puD (.tup x) = puDs x := by simp [puD]
@[simp] theorem puD_dic {x} : puD (.dic x) = false := by simp [puD]
@[simp] theorem puD_ref {x} : puD (.ref x) = false := by simp [puD]
@[simp] theorem puDs_nil : puDs [] = true := by simp [puDs]
@[simp] theorem puDs_cons {x : D} {r : List D} : puDs (x :: r) = (puD x && puDs r) := by simp [puDs]
theorem puDs_mem : ∀ {ds : List D} {d : D}, puDs ds = true → d ∈ ds → puD d = true
  | x :: r, d, h, m => by
    rw [puDs_cons, Bool.and_eq_true] at h
    cases m with
    | head => exact h.1
    | tail _ m => exact puDs_mem h.2 m
theorem puDs_of : ∀ {ds : List D}, (∀ d ∈ ds, puD d = true) → puDs ds = true
  | [], _ => by simp
  | x :: r, h => by rw [puDs_cons, h x List.mem_cons_self, puDs_of fun d m => h d (List.mem_cons_of_mem _ m)]; rfl
theorem puDs_get {ds : List D} {i : Nat} {d : D} (h : puDs ds = true) (g : ds[i]? = some d) : puD d = true := puDs_mem h (List.mem_of_getElem? g)
/-- the type of plain data -/
def isT : D → Ty → Bool
  | .bl _, .bool => true
  | .bl _, .int => true
  | .int _, .int => true
  | .str _, .str => true
  | .lst _, .list => true
  | .tup _, .tuple => true
  | .dic _, .dict => true
  | _, _ => false
@[simp] theorem isT_non {t : Ty} : isT .non t = false := by cases t <;> rfl
@[simp] theorem isT_bl {x : Bool} {t : Ty} : isT (.bl x) t = (match t with | .bool => true | .int => true | _ => false) := by cases t <;> rfl
@[simp] theorem isT_int {x : Int} {t : Ty} : isT (.int x) t = (match t with | .int => true | _ => false) := by cases t <;> rfl
@[simp] theorem isT_str {x : Str} {t : Ty} : isT (.str x) t = (match t with | .str => true | _ => false) := by cases t <;> rfl
@[simp] theorem isT_lst {x : List D} {t : Ty} : isT (.lst x) t = (match t with | .list => true | _ => false) := by cases t <;> rfl
@[simp] theorem isT_tup {x : List D} {t : Ty} : isT (.tup x) t = (match t with | .tuple => true | _ => false) := by cases t <;> rfl
@[simp] theorem isT_dic {x : List (Key × D)} {t : Ty} : isT (.dic x) t = (match t with | .dict => true | _ => false) := by cases t <;> rfl
@[simp] def isInt : D → Bool | .int _ => true | _ => false
@[simp] def isSeq : D → Bool | .lst _ => true | .tup _ => true | _ => false
theorem isD_pu {M : Store} {d : D} {t : Ty} (h : puD d = true) : isD M d t = some (isT d t) := by
  cases d <;> first | (simp at h; done) | (cases t <;> rfl)
@[simp] theorem isD_non {M : Store} {t : Ty} : isD M .non t = some false := by cases t <;> rfl
@[simp] theorem isD_bl {M : Store} {x : Bool} {t : Ty} : isD M (.bl x) t = some (isT (.bl x) t) := by cases t <;> rfl
@[simp] theorem isD_int {M : Store} {x : Int} {t : Ty} : isD M (.int x) t = some (isT (.int x) t) := by cases t <;> rfl
@[simp] theorem isD_str {M : Store} {x : Str} {t : Ty} : isD M (.str x) t = some (isT (.str x) t) := by cases t <;> rfl
@[simp] theorem isD_lst {M : Store} {x : List D} {t : Ty} : isD M (.lst x) t = some (isT (.lst x) t) := by cases t <;> rfl
@[simp] theorem isD_tup {M : Store} {x : List D} {t : Ty} : isD M (.tup x) t = some (isT (.tup x) t) := by cases t <;> rfl
@[simp] theorem isD_dic {M : Store} {x : List (Key × D)} {t : Ty} : isD M (.dic x) t = some (isT (.dic x) t) := by cases t <;> rfl
@[simp] theorem isDs_nil {M : Store} {d : D} : isDs M d [] = some false := rfl
theorem isDs_pu {M : Store} {d : D} (h : puD d = true) : ∀ {ts : List Ty}, isDs M d ts = some (ts.any fun t => isT d t)
  | [] => rfl
  | t :: r => by
    unfold isDs
    rw [isD_pu h, isDs_pu h]
    cases z : isT d t <;> simp [z]
theorem isDs_of {M : Store} {d : D} (h : ∀ t, isD M d t = some (isT d t)) : ∀ {ts : List Ty}, isDs M d ts = some (ts.any fun t => isT d t)
  | [] => rfl
  | t :: r => by
    unfold isDs
    rw [h t, isDs_of h]
    cases z : isT d t <;> simp [z]
@[simp] theorem isDs_non {M : Store} {ts : List Ty} : isDs M .non ts = some (ts.any fun t => isT .non t) := isDs_of fun t => by cases t <;> rfl
@[simp] theorem isDs_bl {M : Store} {x : Bool} {ts : List Ty} : isDs M (.bl x) ts = some (ts.any fun t => isT (.bl x) t) := isDs_of fun t => by cases t <;> rfl
@[simp] theorem isDs_int {M : Store} {x : Int} {ts : List Ty} : isDs M (.int x) ts = some (ts.any fun t => isT (.int x) t) := isDs_of fun t => by cases t <;> rfl
@[simp] theorem isDs_str {M : Store} {x : Str} {ts : List Ty} : isDs M (.str x) ts = some (ts.any fun t => isT (.str x) t) := isDs_of fun t => by cases t <;> rfl
@[simp] theorem isDs_lst {M : Store} {x : List D} {ts : List Ty} : isDs M (.lst x) ts = some (ts.any fun t => isT (.lst x) t) := isDs_of fun t => by cases t <;> rfl
@[simp] theorem isDs_tup {M : Store} {x : List D} {ts : List Ty} : isDs M (.tup x) ts = some (ts.any fun t => isT (.tup x) t) := isDs_of fun t => by cases t <;> rfl
mutual
theorem okD_pu : ∀ {n : Nat} {d : D}, okD n d = true → puD d = true
  | _, .non, _ => by simp
  | _, .bl _, _ => by simp
  | _, .int _, _ => by simp
  | _, .str _, _ => by simp
  | n, .lst xs, h => by rw [puD_lst]; exact okDs_pu (bsplit (by simpa only [okD] using h)).2
  | n, .tup xs, h => by rw [puD_tup]; exact okDs_pu (bsplit (by simpa only [okD] using h)).2
  | _, .dic _, h => by simp [okD] at h
  | _, .ref _, h => by simp [okD] at h
theorem okDs_pu : ∀ {n : Nat} {ds : List D}, okDs n ds = true → puDs ds = true
  | _, [], _ => by simp
  | n, x :: r, h => by
    have h' := bsplit (by simpa only [okDs] using h)
    rw [puDs_cons, okD_pu h'.1, okDs_pu h'.2]; rfl
end
@[simp] theorem okD_non {n : Nat} : okD n .non = true := by unfold okD; rfl
@[simp] theorem okD_bl {n : Nat} {x : Bool} : okD n (.bl x) = true := by unfold okD; rfl
@[simp] theorem okD_int {n : Nat} {x : Int} : okD n (.int x) = true := by unfold okD; rfl
@[simp] theorem okD_str {n : Nat} {x : Str} : okD n (.str x) = PyData.strOk x := by unfold okD; rfl
@[simp] theorem okD_lst {n : Nat} {xs : List D} : okD (n + 1) (.lst xs) = okDs n xs := by simp [okD]
@[simp] theorem okD_tup {n : Nat} {xs : List D} : okD (n + 1) (.tup xs) = okDs n xs := by simp [okD]
@[simp] theorem okDs_nil {n : Nat} : okDs n [] = true := by unfold okDs; rfl
@[simp] theorem okDs_cons {n : Nat} {x : D} {r : List D} : okDs n (x :: r) = (okD n x && okDs n r) := by simp [okDs]
theorem okDs_mem {n : Nat} : ∀ {ds : List D} {d : D}, okDs n ds = true → d ∈ ds → okD n d = true
  | x :: r, d, h, m => by
    rw [okDs_cons, Bool.and_eq_true] at h
    cases m with
    | head => exact h.1
    | tail _ m => exact okDs_mem h.2 m
theorem okDs_of {n : Nat} : ∀ {ds : List D}, (∀ d ∈ ds, okD n d = true) → okDs n ds = true
  | [], _ => by simp
  | x :: r, h => by rw [okDs_cons, h x List.mem_cons_self, okDs_of fun d m => h d (List.mem_cons_of_mem _ m)]; rfl
@[simp] theorem okDs_ints {n : Nat} (l : List Int) : okDs n (l.map D.int) = true := okDs_of fun d m => by obtain ⟨i, _, rfl⟩ := List.mem_map.mp m; simp
@[simp] theorem eqD_int {i j : Int} : eqD (.int i) (.int j) = decide (i = j) := by simp [eqD]
@[simp] theorem eqD_str {i j : Str} : eqD (.str i) (.str j) = decide (i = j) := by simp [eqD]
@[simp] theorem eqD_lst {i j : List D} : eqD (.lst i) (.lst j) = eqDs i j := by simp [eqD]
@[simp] theorem eqD_tup {i j : List D} : eqD (.tup i) (.tup j) = eqDs i j := by simp [eqD]
@[simp] theorem eqD_non : eqD .non .non = true := by simp [eqD]
@[simp] theorem eqD_bl {i j : Bool} : eqD (.bl i) (.bl j) = (i == j) := by simp [eqD]
@[simp] theorem eqDs_nil : eqDs [] [] = true := by simp [eqDs]
@[simp] theorem eqDs_cons {x y : D} {r s : List D} : eqDs (x :: r) (y :: s) = (eqD x y && eqDs r s) := by simp [eqDs]
@[simp] theorem eqDs_nc {y : D} {s : List D} : eqDs [] (y :: s) = false := by simp [eqDs]
@[simp] theorem eqDs_cn {y : D} {s : List D} : eqDs (y :: s) [] = false := by simp [eqDs]
@[simp] theorem eqDs_ints : ∀ {l m : List Int}, eqDs (l.map D.int) (m.map D.int) = decide (l = m)
  | [], [] => by simp
  | [], _ :: _ => by simp
  | _ :: _, [] => by simp
  | x :: r, y :: s => by
    rw [List.map_cons, List.map_cons, eqDs_cons, eqD_int, eqDs_ints]
    by_cases h1 : x = y <;> by_cases h2 : r = s <;> simp [h1, h2]
/-- what has an index -/
theorem atI_ofNat {α : Type} {ds : List α} {i : Nat} : atI ds (i : Int) = ds[i]? := by
  unfold atI ixN
  rw [if_pos (by omega)]
  by_cases h : i < ds.length
  · rw [if_pos (by omega)]; rfl
  · rw [if_neg (by omega), List.getElem?_eq_none (by omega)]; rfl
@[simp] theorem atI_0 {α : Type} {x : α} {r : List α} : atI (x :: r) 0 = some x := atI_ofNat (i := 0)
@[simp] theorem atI_1 {α : Type} {x y : α} {r : List α} : atI (x :: y :: r) 1 = some y := atI_ofNat (i := 1)
@[simp] theorem atI_2 {α : Type} {x y z : α} {r : List α} : atI (x :: y :: z :: r) 2 = some z := atI_ofNat (i := 2)
@[simp] theorem atI_3 {α : Type} {x y z u : α} {r : List α} : atI (x :: y :: z :: u :: r) 3 = some u := atI_ofNat (i := 3)
@[simp] theorem ixD_t0 {d : D} {r : List D} {M : Store} {Q : DK} : ixD (.tup (d :: r)) (.int 0) M Q = Q d M := by rw [ixD_tup, atI_0]
@[simp] theorem ixD_t1 {d e : D} {r : List D} {M : Store} {Q : DK} : ixD (.tup (d :: e :: r)) (.int 1) M Q = Q e M := by rw [ixD_tup, atI_1]
@[simp] theorem ixD_t2 {d e f : D} {r : List D} {M : Store} {Q : DK} : ixD (.tup (d :: e :: f :: r)) (.int 2) M Q = Q f M := by rw [ixD_tup, atI_2]
theorem ixD_at {ds : List D} {i : Nat} {d : D} {M : Store} {Q : DK} (h : ds[i]? = some d) (q : Q d M) : ixD (.lst ds) (.int (i : Nat)) M Q := by rw [ixD_lst, atI_ofNat, h]; exact q
theorem ixD_atT {ds : List D} {i : Nat} {d : D} {M : Store} {Q : DK} (h : ds[i]? = some d) (q : Q d M) : ixD (.tup ds) (.int (i : Nat)) M Q := by rw [ixD_tup, atI_ofNat, h]; exact q
/-! ### slots, stores, loops -/
@[simp] theorem slotD_z {d : Option D} {r : List (Option D)} : slotD (d :: r) 0 = d := rfl
@[simp] theorem slotD_s {d : Option D} {r : List (Option D)} {i : Nat} : slotD (d :: r) (i + 1) = slotD r i := rfl
@[simp] theorem setD_z {d e : Option D} {r : List (Option D)} : setD (d :: r) 0 e = e :: r := rfl
@[simp] theorem setD_s {d e : Option D} {r : List (Option D)} {i : Nat} : setD (d :: r) (i + 1) e = d :: setD r i e := rfl
@[simp] theorem updS_at {M : Store} {a : Addr} {c : Cell} : updS M a c a = some c := updS_same
/-- M0's things all stand in M -/
def Kp (M0 M : Store) : Prop := ∀ z c, M0 z = some c → M z = some c
theorem Kp.refl (M : Store) : Kp M M := fun _ _ h => h
theorem Kp.trans {M M1 M2 : Store} (h : Kp M M1) (h' : Kp M1 M2) : Kp M M2 := fun z c e => h' z c (h z c e)
theorem Kp.free {M0 M : Store} {a : Addr} (h : Kp M0 M) (n : M a = none) : M0 a = none := by
  cases z : M0 a with
  | none => rfl
  | some c => rw [h a c z] at n; cases n
theorem Kp.upd {M0 M : Store} {a : Addr} {c : Cell} (h : Kp M0 M) (n : M0 a = none) : Kp M0 (updS M a c) := fun z d e => by
  have : z ≠ a := fun q => by rw [q, n] at e; cases e
  rw [updS_ne this]; exact h z d e
theorem Kp.new {M0 M : Store} {a : Addr} {c : Cell} (h : Kp M0 M) (n : M a = none) : Kp M0 (updS M a c) := h.upd (h.free n)
theorem Kp.del {M0 M : Store} {a : Addr} (h : Kp M0 M) (n : M0 a = none) : Kp M0 (delS M a) := fun z d e => by
  have : z ≠ a := fun q => by rw [q, n] at e; cases e
  rw [delS_ne this]; exact h z d e
theorem Kp.drop {M0 M : Store} (h : Kp M0 M) : Drop M M0 := fun z => by
  cases e : M0 z with
  | none => exact .inr rfl
  | some c => exact .inl (h z c e).symm
theorem Kp.dropU {M0 M : Store} {r : Addr} {c : Cell} (h : Kp M0 M) (hr : M r = some c) : Drop M (updS M0 r c) := fun z => by
  by_cases q : z = r
  · subst q; exact .inl (by rw [updS_same, hr])
  · rw [updS_ne q]; exact h.drop z
theorem ne_cell {M : Store} {a b : Addr} {c : Cell} (h : M a = some c) (n : M b = none) : a ≠ b := fun q => by rw [q, n] at h; cases h
theorem forL_inv {α : Type} {chk : Store → Prop} {ag : ATG} {ab : ATS} {E : AEnds} (pr : α → D) (I : List α → SL → Store → Prop) (h0 : ∀ sl M, I [] sl M → chk M ∧ E.nx sl M)
    (hs : ∀ x r sl M (k : SL → Store → Prop), I (x :: r) sl M → (∀ sl' M', I r sl' M' → k sl' M') → chk M ∧ ag (pr x) sl M fun sl' M' => ab { E with nx := k, ct := k, bk := E.nx } sl' M') : ∀ (xs : List α) (sl : SL) (M : Store), I xs sl M → forL chk ag ab (xs.map pr) E sl M
  | [], sl, M, i => h0 sl M i
  | x :: r, sl, M, i => hs x r sl M _ i fun sl' M' i' => forL_inv pr I h0 hs r sl' M' i'
theorem lcL_map {α : Type} {chk : Store → Prop} {ag : ATG} {tt : ATT} {te : ATE} {sl : SL} {Q : List D → Store → Prop} {M : Store} (pr g : α → D) (hc : chk M) : ∀ (xs : List α) (acc : List D),
    (∀ x ∈ xs, ∀ (k : D → Store → Prop) (k2 : Store → Prop), k (g x) M → ag (pr x) sl M fun sl1 M1 => tt sl1 M1 fun c M2 => if c = true then te sl1 M2 k else k2 M2) → Q (acc ++ xs.map g) M → lcL chk ag tt te sl (xs.map pr) acc M Q
  | [], acc, _, q => ⟨hc, by simpa using q⟩
  | x :: r, acc, h, q => ⟨hc, h x List.mem_cons_self _ _ (lcL_map pr g hc r _ (fun y m => h y (List.mem_cons_of_mem _ m)) (by simpa using q))⟩
theorem lcL_fil {α : Type} {chk : Store → Prop} {ag : ATG} {tt : ATT} {te : ATE} {sl : SL} {Q : List D → Store → Prop} {M : Store} (pr : α → D) (g : α → Option D) (hc : chk M) : ∀ (xs : List α) (acc : List D),
    (∀ x ∈ xs, ∀ (k : D → Store → Prop) (k2 : Store → Prop), (match g x with | some y => k y M | none => k2 M) → ag (pr x) sl M fun sl1 M1 => tt sl1 M1 fun c M2 => if c = true then te sl1 M2 k else k2 M2) → Q (acc ++ xs.filterMap g) M → lcL chk ag tt te sl (xs.map pr) acc M Q
  | [], acc, _, q => ⟨hc, by simpa using q⟩
  | x :: r, acc, h, q => ⟨hc, h x List.mem_cons_self _ _ (by
      cases z : g x with
      | none => exact lcL_fil pr g hc r _ (fun y m => h y (List.mem_cons_of_mem _ m)) (by simpa [List.filterMap_cons, z] using q)
      | some y => exact lcL_fil pr g hc r _ (fun y m => h y (List.mem_cons_of_mem _ m)) (by simpa [List.filterMap_cons, z] using q))⟩
/-! ### comparisons as tests -/
section
variable {b : BC} {X : Cx} {pos : Pos} {e e1 e2 e3 : Expr} {ta tb tc : TE} {aa ab ac : ATE} {k : Nat}
theorem dt_lt (ha : DE b X e1 ta aa) (hb : DE b X e2 tb ab) : DT b X (.Compare e1 [.Lt] [e2] pos) (tB (tOp (rI0 fun i j => .bl (decide (i < j))) ta tb)) (aBool (aOp (cmpD fun i j => decide (i < j)) aa ab)) := ⟨pt_cmpR op_lt ha.pe hb.pe (nomark _), sim_bool (de_lt (pos := pos) ha hb).sim⟩
theorem dt_le (ha : DE b X e1 ta aa) (hb : DE b X e2 tb ab) : DT b X (.Compare e1 [.LtE] [e2] pos) (tB (tOp (rI0 fun i j => .bl (decide (i ≤ j))) ta tb)) (aBool (aOp (cmpD fun i j => decide (i ≤ j)) aa ab)) := ⟨pt_cmpR op_le ha.pe hb.pe (nomark _), sim_bool (de_le (pos := pos) ha hb).sim⟩
theorem dt_gt (ha : DE b X e1 ta aa) (hb : DE b X e2 tb ab) : DT b X (.Compare e1 [.Gt] [e2] pos) (tB (tOp (rI0 fun i j => .bl (decide (i > j))) ta tb)) (aBool (aOp (cmpD fun i j => decide (j < i)) aa ab)) := ⟨pt_cmpR op_gt ha.pe hb.pe (nomark _), sim_bool (de_gt (pos := pos) ha hb).sim⟩
theorem dt_ge (ha : DE b X e1 ta aa) (hb : DE b X e2 tb ab) : DT b X (.Compare e1 [.GtE] [e2] pos) (tB (tOp (rI0 fun i j => .bl (decide (i ≥ j))) ta tb)) (aBool (aOp (cmpD fun i j => decide (j ≤ i)) aa ab)) := ⟨pt_cmpR op_ge ha.pe hb.pe (nomark _), sim_bool (de_ge (pos := pos) ha hb).sim⟩
theorem dt_eq (hr : Room k X.A) (ha : DE b X e1 ta aa) (hb : DE b X e2 tb ab) : DT b X (.Compare e1 [.Eq] [e2] pos) (tB (tOp (rEqD X.K) ta tb)) (aBool (aOp (eqA false) aa ab)) := ⟨pt_cmpR (op_eqD hr.units) ha.pe hb.pe (nomark _), sim_bool (de_eq (pos := pos) hr ha hb).sim⟩
theorem dt_ne (hr : Room k X.A) (ha : DE b X e1 ta aa) (hb : DE b X e2 tb ab) : DT b X (.Compare e1 [.NotEq] [e2] pos) (tB (tOp (rNeD X.K) ta tb)) (aBool (aOp (eqA true) aa ab)) := ⟨pt_cmpR (op_neD hr.units) ha.pe hb.pe (nomark _), sim_bool (de_ne (pos := pos) hr ha hb).sim⟩
theorem dt_isN {j : Nat} {p : Pos} (ha : DE b X e1 ta aa) : DT b X (.Compare e1 [.Is] [.Constant .none j p] pos) (tB (tIsN ta)) (aBool (aIsN aa)) := ⟨pt_cmp (pc_isN ha.pe), sim_bool (de_isN (pos := pos) (j := j) (p := p) ha).sim⟩
theorem dt_notN {j : Nat} {p : Pos} (ha : DE b X e1 ta aa) : DT b X (.Compare e1 [.IsNot] [.Constant .none j p] pos) (tB (tNotN ta)) (aBool (aNotN aa)) := ⟨pt_cmp (pc_notN ha.pe), sim_bool (de_notN (pos := pos) (j := j) (p := p) ha).sim⟩
theorem dt_lele (ha : DE b X e1 ta aa) (hb : DE b X e2 tb ab) (hc : DE b X e3 tc ac) (hm : lastMarks [.LtE, .LtE] [e2, e3] = false := by with_unfolding_all rfl) :
    DT b X (.Compare e1 [.LtE, .LtE] [e2, e3] pos) (tB (tChain (rI0 fun i j => .bl (decide (i ≤ j))) (rI0 fun i j => .bl (decide (i ≤ j))) ta tb tc)) (aBool (aChain (fun i j => decide (i ≤ j)) (fun i j => decide (i ≤ j)) aa ab ac)) := ⟨pt_chain op_le op_le ha.pe hb.pe hc.pe hm, sim_bool (sim_chain _ _ ha.sim hb.sim hc.sim)⟩
theorem dt_lelt (ha : DE b X e1 ta aa) (hb : DE b X e2 tb ab) (hc : DE b X e3 tc ac) (hm : lastMarks [.LtE, .Lt] [e2, e3] = false := by with_unfolding_all rfl) :
    DT b X (.Compare e1 [.LtE, .Lt] [e2, e3] pos) (tB (tChain (rI0 fun i j => .bl (decide (i ≤ j))) (rI0 fun i j => .bl (decide (i < j))) ta tb tc)) (aBool (aChain (fun i j => decide (i ≤ j)) (fun i j => decide (i < j)) aa ab ac)) := ⟨pt_chain op_le op_lt ha.pe hb.pe hc.pe hm, sim_bool (sim_chain _ _ ha.sim hb.sim hc.sim)⟩
end
theorem qb {Q : DK} {M : Store} {x y : Bool} (q : Q (.bl x) M) (e : x = y) : Q (.bl y) M := e ▸ q
theorem qi {Q : DK} {M : Store} {x y : Int} (q : Q (.int x) M) (e : x = y) : Q (.int y) M := e ▸ q
theorem forL_enum {chk : Store → Prop} {ag : ATG} {ab : ATS} {E : AEnds} (I : Nat → List D → SL → Store → Prop) (h0 : ∀ i sl M, I i [] sl M → chk M ∧ E.nx sl M)
    (hs : ∀ i x r sl M (k : SL → Store → Prop), I i (x :: r) sl M → (∀ sl' M', I (i + 1) r sl' M' → k sl' M') → chk M ∧ ag (.tup [.int (i : Nat), x]) sl M fun sl' M' => ab { E with nx := k, ct := k, bk := E.nx } sl' M') : ∀ (ds : List D) (i : Nat) (sl : SL) (M : Store), I i ds sl M → forL chk ag ab (enumD i ds) E sl M
  | [], i, sl, M, j => h0 i sl M j
  | x :: r, i, sl, M, j => hs i x r sl M _ j fun sl' M' j' => forL_enum I h0 hs r (i + 1) sl' M' j'
theorem Kp.seqX {M0 M : Store} {d : D} {es : List D} (h : Kp M0 M) (e : AL.seqX M0 d = some es) : AL.seqX M d = some es := by
  cases d with
  | ref a =>
    have e : cellL (M0 a) = some es := e
    show cellL (M a) = some es
    cases z : M0 a with
    | none => rw [z] at e; cases e
    | some c => rw [z] at e; rw [h a c z]; exact e
  | _ => exact e
/-- the items of a list, a tuple -/
@[simp] def seqs : D → Option (List D) | .lst xs => some xs | .tup xs => some xs | _ => none
theorem seqs_X {M : Store} {d : D} {es : List D} (h : seqs d = some es) : AL.seqX M d = some es := by cases d <;> first | (cases h; done) | exact h
theorem seqs_fit {d : D} {es : List D} (h : seqs d = some es) : fitX d := by cases d <;> first | (cases h; done) | exact trivial
section
variable {b : BC} {X : Cx} {e1 e2 : Expr} {ta : TE} {aa : ATE} {t : TA} {at_ : ATA} {p1 p2 : Pos}
theorem de_app (ho : DE b X e1 ta aa) (ha : DA b X [e2] t at_ 1) (hbase : attributeBase e1 ("append" : Str) X.env (eval e1 X.env) = eval e1 X.env := by rfl)
    (hfew : ((backTo p2 (starEach [e2] X.env)).all (fun x => !x.1) && (backToKw p2 (keywordEach [] X.env)).all (fun x => x.1.isSome) && decide ([e2].length + ([] : List Keyword).length + (if ([] : List Keyword).isEmpty then 0 else 1) < 30)) = true := by rfl)
    (hline : (p1.endLine == p2.line) = true := by rfl) (hs : starEach [e2] X.env = (false, eval e2 X.env) :: starEach [] X.env := by rfl) (hplain : (backTo p2 (starEach [] X.env)).any (·.1) = false := by rfl) :
    DE b X (.Call (.Attribute e1 "append" p1) [e2] [] p2) (tBM X.K "list" rAppend ta t) (aApp aa at_) := de_append ho ha (pe_bm PySem.F.plainAttrs_list PySem.F.slot_list_append PySem.F.type_list_append mt_append ho.pe ha.pa hbase hfew hline hs hplain)
end
@[simp] theorem cellL_lst {ds : List D} : cellL (some (.lst ds)) = some ds := rfl
@[simp] theorem intsOf_mapF {α : Type} (g : α → Int) (l : List α) : intsOf (l.map fun y => D.int (g y)) = some (l.map g) := by
  have : (l.map fun y => D.int (g y)) = (l.map g).map D.int := by rw [List.map_map]; rfl
  rw [this, intsOf_map]
/-! ### the law's draws -/
/-- a draw: something below n, the store as it was -/
@[simp] def fsDraw : ASp := fun ds M Q _ => match ds with | [.ref r, .int n] => M r = some .row ∧ 0 < n ∧ n < 2 ^ 64 ∧ ∀ x, 0 ≤ x → x < n → Q (.int x) M | _ => False
theorem sb_mk (Z : Hid) (H : Hp) (M : Store) : Sb (mkH Z H M) H := Sb.of fun b o h _ => (mk_iff.mp h).2
theorem ix_row {K : PySem.W.Frag} {σ : L2.St} {H : Hp} {r : Addr} {l : List V} {u : V} {Q : VK} (hσ : σ[0]? = some (some (.ref r))) (hr : H r = some (.lst l)) {j : Int} (hj : atI l j = some u) (q : Q u H) : tOp (rIx K) (tVar 0) (tC (.int j)) σ H Q :=
  ⟨.ref r, hσ, .inl ⟨r, l, j, u, rfl, rfl, .of hr, hj, q⟩⟩
theorem set_row {σ : L2.St} {H : Hp} {r : Addr} {l : List V} {v : V} {Q : L2.St → Hp → Prop} (hσ : σ[0]? = some (some (.ref r))) (hr : H r = some (.lst l)) {j : Int} {kk : Nat} (hj : ixN l.length j = some kk) (q : Q σ (upd H r (.lst (l.set kk v)))) : gSub (tVar 0) (tC (.int j)) rSetL v σ H Q :=
  ⟨.ref r, hσ, r, l, j, kk, rfl, rfl, hr, hj, q⟩
/-- what a call of the draws finds -/
theorem row_open {K : PySem.W.Frag} {T : List (Addr × Str)} {vs : List V} {H : Hp} {Q : VK} {E : XK} (h : SpOf K T fsDraw vs H Q E) : ∃ (r sc : Addr) (n : Int) (ns : List Int) (i s t : Int), vs = [.ref r, .int n] ∧ 0 < n ∧ n < 2 ^ 64 ∧ H r = some (.lst [.ref sc, .int i, .int s, .int t]) ∧ 0 ≤ i ∧ 0 ≤ s ∧ s < 2147483648 ∧ SqL K H sc (ns.map V.int) ∧
    (∀ i' s' t' : Int, 0 ≤ i' → 0 ≤ s' → s' < 2147483648 → SqL K (upd H r (.lst [.ref sc, .int i', .int s', .int t'])) sc (ns.map V.int)) ∧
    (∀ x i' s' t' : Int, 0 ≤ x → x < n → 0 ≤ i' → 0 ≤ s' → s' < 2147483648 → Q (.int x) (upd H r (.lst [.ref sc, .int i', .int s', .int t']))) := by
  obtain ⟨Z1, M, ds, Qa, Ea, rh, rs, h, kn, kx⟩ := h
  unfold fsDraw at h
  split at h <;> try exact h.elim
  rename_i r n
  obtain ⟨hM, n0, n1, q⟩ := h
  cases rs with
  | cons h1 rs =>
    cases rs with
    | cons h2 rs =>
      cases rs with
      | nil =>
        cases h1
        cases h2
        obtain ⟨sc, ns, i, s0, t, hr0, ⟨i0, sl, su⟩, hS⟩ := rh.cells r _ hM
        refine ⟨r, sc, n, ns, i, s0, t, rfl, n0, n1, hr0, i0, sl, su, SqL.monoS (sb_mk Z1 H M) hS, fun i' s' t' a3 a4 a5 => ?_, fun x i' s' t' a1 a2 a3 a4 a5 => ?_⟩
        · obtain ⟨r2, e2⟩ := rh.put' (o := .lst [.ref sc, .int i', .int s', .int t']) hM ⟨sc, ns, i', s', t', upd_same, ⟨a3, a4, a5⟩, hS⟩
          exact SqL.monoS (sb_mk Z1 _ M) (SqL.monoS e2.sb hS)
        · obtain ⟨r2, e2⟩ := rh.put' (o := .lst [.ref sc, .int i', .int s', .int t']) hM ⟨sc, ns, i', s', t', upd_same, ⟨a3, a4, a5⟩, hS⟩
          exact kn (.int x) (.int x) _ M r2 e2 (.int x) (q x a1 a2)
theorem ixr {K : PySem.W.Frag} {H : Hp} {r : Addr} {l : List V} {u : V} {Q : VK} {j : Int} (hr : H r = some (.lst l)) (hj : atI l j = some u) (q : Q u H) : rIx K (.ref r) (.int j) H Q := .inl ⟨r, l, j, u, rfl, rfl, .of hr, hj, q⟩
theorem ixs {K : PySem.W.Frag} {H : Hp} {r : Addr} {l : List V} {u : V} {Q : VK} {j : Int} (hr : SqL K H r l) (hj : atI l j = some u) (q : Q u H) : rIx K (.ref r) (.int j) H Q := .inl ⟨r, l, j, u, rfl, rfl, hr, hj, q⟩
theorem addr' {K : PySem.W.Frag} {H : Hp} {Q : VK} {i j : Int} (q : Q (.int (i + j)) H) : AL.rAdd K (.int i) (.int j) H Q := .inl ⟨_, _, rfl, rfl, q⟩
theorem mulr {H : Hp} {Q : VK} {i j : Int} (h : CMulW i j) (q : Q (.int (i * j)) H) : AL.rMul (.int i) (.int j) H Q := .inl ⟨_, _, rfl, rfl, h, q⟩
theorem intr' {H : Hp} {Q : VK} {i : Int} (q : Q (.int i) H) : rIntR [.int i] H Q := .inl ⟨_, rfl, q⟩
theorem setr {H : Hp} {r : Addr} {l : List V} {v : V} {Q : Hp → Prop} (hr : H r = some (.lst l)) {j : Int} {kk : Nat} (hj : ixN l.length j = some kk) (q : Q (upd H r (.lst (l.set kk v)))) : rSetL (.ref r) (.int j) v H Q := ⟨r, l, j, kk, rfl, rfl, hr, hj, q⟩
end AL
set_option Elab.async false
set_option linter.all false
set_option maxRecDepth 100000
set_option maxHeartbeats 4000000
set_option autoImplicit false
/-! AL11: calls of defs held by a local, the row of the draws. -/
namespace AL
open PySem PySem.Spec PyProof.Rows L2 LamX

/-- the def at f keeps a promise over data -/
structure FnAt (P : Program) (w : World) (K : PySem.W.Frag) (mg : Str → Option Value) (base : Heap) (T : List (Addr × Str)) (f : Addr) (k : Nat) (fs : ASp) : Prop where
  ex : ∃ (fd : FuncData) (ps : List Str), PySem.W.keepIn K (.ref f) = true ∧ Binds K fd ps [] ∧ FnOk P w K mg base (L2.CX P w) k f fd ps (SpOf K T fs)
theorem FnA.held {P : Program} {w : World} {K : PySem.W.Frag} {mg : Str → Option Value} {base : Heap} {T : List (Addr × Str)} {x : Str} {k : Nat} {fs : ASp} {f : Addr} (F : FnA P w K mg base T x k fs) (hm : mg x = some (.ref f)) : FnAt P w K mg base T f k fs := by
  obtain ⟨f', fd, ps, h1, h2, h3, h4⟩ := F.ex
  rw [hm] at h1
  cases h1
  exact ⟨fd, ps, h2, h3, h4⟩
/-- what the slot may hold, each with its promise -/
abbrev Tbl := Addr → Option ASp
def tCallH (i : Nat) (S : Addr → Option Sp) (E : L2.St → XK) (t : TA) : TE := fun σ H Q => ∃ (f : Addr) (sp : Sp), σ[i]? = some (some (.ref f)) ∧ S f = some sp ∧ t σ H fun vs H1 => sp vs H1 Q (E σ)
@[simp] def aCallH (i : Nat) (fl : Tbl) (Wa : AWX) (t : ATA) : ATE := fun sl M Q => match slotD sl i with
  | some (.ref f) => (match fl f with | some fs => t sl M fun ds M1 => fs ds M1 Q fun C d M2 => Wa C d sl M2 | none => False)
  | _ => False
section
variable {b : BC} {X : Cx} {pos : Pos} {e : Expr} {es : List Expr} {t : TA} {at_ : ATA} {n k : Nat} {x : Str} {p : Pos} {W : WX} {Wa : AWX}
theorem pe_held {S : Addr → Option Sp} (i : Nat) (A : ∀ f sp, S f = some sp → ∃ (fd : FuncData) (ps : List Str), PySem.W.keepIn X.K (.ref f) = true ∧ Binds X.K fd ps [] ∧ FnOk X.prog X.w X.K X.mg X.base (L2.CX X.prog X.w) k f fd ps sp) (hr : Room k X.A) (tk : Takes X W) (hN : X.N[i]? = some x) (hv : Vis X.env.scope x) (ha : PA X (e :: es) t)
    (hdb : (x == ("__debug__" : Str)) = false := by decide) (hcd : (x == ("__classdict__" : Str)) = false := by decide)
    (he : starEach (e :: es) X.env = (false, eval e X.env) :: starEach es X.env := by rfl) (hpl : (backTo pos (starEach es X.env)).any (·.1) = false := by rfl) : PE X (.Call (.Name x p) (e :: es) [] pos) (tCallH i S (WE W) t) := by
  refine ⟨fun pins s σ H Q I ⟨f, sp, h1, h2, h3⟩ => ?_⟩
  obtain ⟨fd, ps, kp, hb, F⟩ := A f sp h2
  have rd := (pe_var (pos := p) hN hv hdb hcd).run pins s σ H (fun v H1 => v = .ref f ∧ H1 = H) I ⟨_, h1, rfl, rfl⟩
  refine wpAny_Call_Name_kw (thn rd fun u s1 ⟨v, H1, I1, r1, e1, e2⟩ => ?_)
  subst e1
  subst e2
  cases r1
  exact PySem.W.callWith_K (h₀ := X.base) I.ok.mod.kin kp (thn (ha.run pos pins s1 σ _ _ I1 h3) fun us s2 ⟨vs, H2, I2, r2, q2⟩ => ⟨I2.kIn, run_fnS F hr hb (passAt tk σ) I2 r2 q2⟩) he hpl
theorem de_callH (i : Nat) {fl : Tbl} (A : ∀ f fs, fl f = some fs → FnAt X.prog X.w X.K X.mg X.base b.T f k fs) (hr : Room k X.A) (tk : Takes X W) (wl : WL b X.K W Wa) (ha : DA b X (e :: es) t at_ n) (hN : X.N[i]? = some x := by rfl) (hv : Vis X.env.scope x := by first | exact Or.inl rfl | exact Or.inr (Or.inl rfl) | exact Or.inr (Or.inr rfl))
    (hdb : (x == ("__debug__" : Str)) = false := by decide) (hcd : (x == ("__classdict__" : Str)) = false := by decide)
    (he : starEach (e :: es) X.env = (false, eval e X.env) :: starEach es X.env := by rfl) (hpl : (backTo pos (starEach es X.env)).any (·.1) = false := by rfl) :
    DE b X (.Call (.Name x p) (e :: es) [] pos) (tCallH i (fun f => (fl f).map (SpOf X.K b.T)) (WE W) t) (aCallH i fl Wa at_) := by
  refine ⟨pe_held i (fun f sp h => ?_) hr tk hN hv ha.pa hdb hcd he hpl, fun Z σ H M sl Q Qa rp ei q kk => ?_⟩
  · cases z : fl f with
    | none => rw [z] at h; cases h
    | some fs => rw [z] at h; cases h; exact (A f fs z).ex
  · have q : (match slotD sl i with | some (.ref f) => (match fl f with | some fs => at_ sl M fun ds M1 => fs ds M1 Qa fun C d M2 => Wa C d sl M2 | none => False) | _ => False) := q
    cases z : slotD sl i with
    | none => rw [z] at q; exact q.elim
    | some d =>
      rw [z] at q
      cases d with
      | ref f =>
        have q : (match fl f with | some fs => at_ sl M fun ds M1 => fs ds M1 Qa fun C d M2 => Wa C d sl M2 | none => False) := q
        obtain ⟨v, h1, h2⟩ := rp.slots i _ (slotD_get z)
        cases h2
        cases z2 : fl f with
        | none => rw [z2] at q; exact q.elim
        | some fs =>
          rw [z2] at q
          exact ⟨f, _, h1, by show Option.map (SpOf X.K b.T) (fl f) = some (SpOf X.K b.T fs); rw [z2]; rfl, sim_call wl ha.sim Z σ H M sl Q Qa rp ei q kk⟩
      | _ => exact q.elim
/-! ### the row of the draws -/
/-- the script as it stands: an object of its own in the store, or a list of the written part -/
def ScrIn (K : PySem.W.Frag) (M : Store) (a : Addr) : Prop := ∃ ns : List Int, (∃ o, M a = some (.raw o) ∧ (o = .lst (ns.map V.int) ∨ ∃ ob, o = .frz ob (.lst (ns.map V.int)))) ∨ (M a = none ∧ SqL K (fun _ => none) a (ns.map V.int))
@[simp] def aRow (K : PySem.W.Frag) (t : ATA) : ATE := fun sl M Q => t sl M fun ds M1 => match ds with
  | [.ref a, .int i, .int s, .int t] => (0 ≤ i ∧ 0 ≤ s ∧ s < 2147483648) ∧ ScrIn K M1 a ∧ ∀ r, M1 r = none → Q (.ref r) (updS (delS M1 a) r .row)
  | _ => False
theorem SqL.none {K : PySem.W.Frag} {a : Addr} {vs : List V} {F : Hp} (h : SqL K (fun _ => none) a vs) : SqL K F a vs := by
  rcases h with (h | ⟨_, h⟩) | h
  · cases h
  · cases h
  · exact .inr h
theorem del_none {M : Store} {a : Addr} (h : M a = none) : delS M a = M := by
  funext b
  unfold delS
  split
  · rename_i e; rw [e, h]
  · rfl
theorem four_line : 4 ≤ sizeLine := by decide
theorem de_row (h : DA b X es t at_ n) (hn : n ≤ sizeLine := by decide) : DE b X (.List es pos) (tLst t) (aRow X.K at_) := ⟨pe_lst h.pa, fun Z σ H M sl Q Qa rp e q k =>
  h.sim Z σ H M sl _ _ rp e q fun vs ds H1 M1 r1 e1 h1 l1 q1 => ⟨by rw [h1.length, l1]; exact hn, fun p np => by
    split at q1 <;> try exact q1.elim
    rename_i a i s t
    obtain ⟨hb, ⟨ns, hs⟩, q1⟩ := q1
    have evs : vs = [.ref a, .int i, .int s, .int t] := by
      cases h1 with
      | cons h1 h1' => cases h1' with
        | cons h2 h2' => cases h2' with
          | cons h3 h3' => cases h3' with
            | cons h4 h4' => cases h4'; cases h1; cases h2; cases h3; cases h4; rfl
    subst evs
    have nM := r1.free np
    have r2 := r1.del (a := a)
    have ex := Ext.del (H := H1) (M := M1) (a := a)
    have hS : SqL X.K (mkH Z H1 (delS M1 a)) a (ns.map V.int) := by
      rcases hs with ⟨o, hM, ho⟩ | ⟨hM, hK⟩
      · have hc := r1.cells a _ hM
        have hH : H1 a = some o := hc.1
        have vis : mkH Z H1 (delS M1 a) a = some o := mk_of (r1.dis a (by rw [hM]; intro z; cases z)) delS_same hH
        rcases ho with rfl | ⟨ob, rfl⟩
        · exact .inl (.inl vis)
        · exact .inl (.inr ⟨ob, vis⟩)
      · exact SqL.none hK
    obtain ⟨r3, e3⟩ := r2.cell (o := .lst [.ref a, .int i, .int s, .int t]) (c := .row) np ⟨a, ns, i, s, t, upd_same, hb, hS⟩
    exact k _ _ _ _ r3 (e1.trans (ex.trans e3)) (.ref p) (q1 p nM)⟩⟩
end
end AL
set_option Elab.async false
set_option linter.all false
set_option maxRecDepth 100000
set_option maxHeartbeats 4000000
set_option autoImplicit false
/-! AL12: the program's error classes, the def that tries, the law's end. -/
namespace AL
open PySem PySem.Spec PyProof.Rows L2 LamX
section
variable {P : Program} {w : World} {K : PySem.W.Frag} {mg : Str → Option Value} {base : Heap}
theorem err_init {q : Str} {fI : Addr} {oc : Value} {od an : Option Addr} {params : Arguments} {scope : Scope} {dV kV doc pm cdv ct : Value} {osl : Array (Option Value)} {p1 p2 p3 p4 : Pos}
    (lk : K.lookup fI = some ⟨oc, od, .func (PySem.W.fnOf "__init__" q params [.Assign [.Attribute (.Name "self" p1) "value" p2] (.Name "value" p3) p4] scope dV kV doc pm an cdv ct), osl⟩) (hcd : PySem.W.codeIn K cdv q = true) (S : FnScope ["self", "value"] ["self", "value"] scope) (v0 : Vis scope "self") (v1 : Vis scope "value") :
    FnOk P w K mg base CX0 1 fI (PySem.W.fnOf "__init__" q params [.Assign [.Attribute (.Name "self" p1) "value" p2] (.Name "value" p3) p4] scope dV kV doc pm an cdv ct) ["self", "value"] (spInit K) := by
  refine fn_of lk hcd S (fun vs H Q E h => ?_) fun A outer s H vs Q E hr h => ?_
  · obtain ⟨a, C, v, rfl, _⟩ := h; rfl
  · obtain ⟨a, C, v, rfl, h1, h2, h3, h4⟩ := h
    exact ⟨_, pss_one (ps_ost (pe_var (i := 0) rfl v0) (pe_var (i := 1) rfl v1)), _, rfl, _, rfl, a, C, rfl, h2, h3, .inl ⟨h1, h4⟩⟩
/-- __init__(self, value=None), with both given -/
theorem init_binds {q : Str} {fI T : Addr} {oc : Value} {od an : Option Addr} {params : Arguments} {body : List Stmt} {scope : Scope} {kV doc pm cdv ct : Value} {osl : Array (Option Value)} {u : Value} {v : V} {o : Obj} {n : Nat}
    (lk : K.lookup fI = some ⟨oc, od, .func (PySem.W.fnOf "__init__" q params body scope (.ref T) kV doc pm an cdv ct), osl⟩) (hcd : PySem.W.codeIn K cdv q = true) (kp : PySem.W.keepIn K (.ref fI) = true) (lT : K.lookup T = some o) (oT : o.data = .seq (#[u] : Array Value) n) (ru : RelV v u)
    (h : ∀ (kV doc pm : Value) (an : Option Addr) (cdv ct : Value) (a b d : Value), ∃ k, bindArgs (PySem.W.fnOf "__init__" q params body scope (.ref T) kV doc pm an cdv ct) ⟨[a, b], []⟩ = seqItems? (.ref T) >>= k ∧ k (some #[d]) = pure [(("self" : Str), a), (("value" : Str), b)]) :
    Binds K (PySem.W.fnOf "__init__" q params body scope (.ref T) kV doc pm an cdv ct) ["self", "value"] [] := by
  intro s us X hl
  rw [List.append_nil] at hl ⊢
  match us, hl with
  | [a, b], _ =>
    refine BindsTo.of_looks fun M => ?_
    obtain ⟨k, e1, e2⟩ := h kV doc pm an cdv ct a b u
    rw [e1]
    exact looks_items X lT oT (.of_pure e2)
/-- the def that tries, from its text -/
theorem try_mk {x : Str} {st : Stmt} {g : Addr} {fd : FuncData} {l : List (Addr × Str)} {h₀ : ExceptHandler} {hds : List ExceptHandler} {p1 p2 p3 p8 p9 q1 q2 q3 : Pos} {j1 j2 k1 : Nat} (F : Fun K x x st g fd) (hm : mg x = some (.ref g)) (hb : Binds K fd ["ask"] [])
    (body : defBody st = [.Try [.Expr (.Call (.Name "ask" p1) [] [] p2) p3] (h₀ :: hds) [] [] p8, .Return (some (.Tuple [.Constant (.str "") j1 q1, .Constant .none j2 q2] k1 q3)) p9])
    (S : FnScope ["ask", "e"] ["ask"] (defScope st)) (v0 : Vis (defScope st) "ask") (v1 : (defScope st).names.lookup ("e" : Str) = some NameKind.local) (rh : RefHds K mg (defScope st) (h₀ :: hds) l) (ap : Apart K l) : TryA K mg x l := by
  obtain ⟨oc, od, kV, doc, pm, an, cdv, ct, osl, rfl, lk, hcd⟩ := F.ex
  rw [body] at lk hb
  exact ⟨⟨g, oc, od, an, osl, defArgs st, defScope st, kV, doc, pm, cdv, ct, h₀, hds, p1, p2, p3, p8, p9, q1, q2, q3, j1, j2, k1, hm, F.kp, lk, hcd, hb, S, v0, v1, rh⟩, ap⟩
end
/-- the law's own promise: a script of ints, not too long, and the answer is True -/
@[simp] def fsLaw (K : PySem.W.Frag) : ASp := fun ds M Q _ => match ds with | [.ref a] => ScrIn K M a ∧ (∀ b, b ≠ a → M b = none) ∧ ∀ M', Q (.bl true) M' | _ => False
/-- the end: a promise over data is the law's -/
theorem law_sp {K : PySem.W.Frag} {T : List (Addr × Str)} {H : Hp} {a : Addr} {ns : List Int} (hT : Tabs T H) (hS : SqL K H a (ns.map V.int)) : SpOf K T (fsLaw K) [.ref a] H (fun v _ => v = .bl true) fun _ _ _ => False := by
  have cases' : (∃ o, H a = some o ∧ (o = .lst (ns.map V.int) ∨ ∃ ob, o = .frz ob (.lst (ns.map V.int)))) ∨ SqL K (fun _ => none) a (ns.map V.int) := by
    rcases hS with (h | ⟨ob, h⟩) | h
    · exact .inl ⟨_, h, .inl rfl⟩
    · exact .inl ⟨_, h, .inr ⟨ob, rfl⟩⟩
    · exact .inr (.inr h)
  rcases cases' with ⟨o, ho, hk⟩ | hk
  · refine ⟨fun _ => false, fun b => if b = a then some (.raw o) else none, [.ref a], fun d _ => d = .bl true, fun _ _ _ => False, ⟨fun b c z => ?_, hT, fun z h => (by cases h), fun b h => rfl⟩, .one (.ref a), ⟨⟨ns, .inl ⟨o, if_pos rfl, hk⟩⟩, fun b h => if_neg h, fun _ => rfl⟩, fun v d H' M' _ _ r q => ?_, fun _ _ _ _ _ _ _ _ _ _ h => h⟩
    · by_cases e : b = a
      · subst e
        have z : (if b = b then some (Cell.raw o) else none) = some c := z
        rw [if_pos rfl] at z
        cases z
        rcases hk with rfl | ⟨ob, rfl⟩
        · exact ⟨ho, (fun _ z => by cases z), fun _ _ z => by cases z⟩
        · exact ⟨ho, (fun _ z => by cases z), fun _ _ z => by cases z⟩
      · have z : (if b = a then some (Cell.raw o) else none) = some c := z
        rw [if_neg e] at z
        cases z
    · subst q; cases r; rfl
  · refine ⟨fun _ => false, fun _ => none, [.ref a], fun d _ => d = .bl true, fun _ _ _ => False, ⟨fun b c z => (by cases z), hT, fun z h => (by cases h), fun b h => rfl⟩, .one (.ref a), ⟨⟨ns, .inr ⟨rfl, hk⟩⟩, fun b h => rfl, fun _ => rfl⟩, fun v d H' M' _ _ r q => ?_, fun _ _ _ _ _ _ _ _ _ _ h => h⟩
    subst q; cases r; rfl
/-- a whole number that the top leaves to the row -/
theorem loose_int {p : Program} {lv : List (Str × PySem.W.WData)} {mg : Str → Option Value} {h : Heap} (X : PySem.W.XL p lv mg h) {x : Str} {i : Int} (m : (x, PySem.W.WData.int i) ∈ lv) : ∃ t, mg x = some (.int i t) := by
  obtain ⟨v, e, r⟩ := X.2.val _ m
  cases r with
  | int _ t => exact ⟨t, e⟩
/-- the law's end, by tables; what the top leaves loose is known too -/
theorem walk_end {l : PySem.W.OpenLaw} {n k : Nat} {q : Program} {loose : List Str} {XP : (Str → Option Value) → Heap → Prop} {YP : World → Heap → Prop} {d : DefRec} {K : Params → PySem.W.Frag} {x : Str}
    (hn : l.most = some n) (hn2 : n ≤ sizeLine) (hdf : d.params.defaults = []) (hr : Room k callerA) (hY : ∀ (w : World) (h : Heap), YP w h → (K w.params).In h)
    (F : ∀ (w : World) (mg : Str → Option Value) (fa : Addr) (h : Heap), XP mg h → YP w h → (K w.params).In h → h.Ns mainGlobals mg → mg d.name = some (.ref fa) → LawAtS l w (K w.params) (L2.CX l.prog w) k n x mg fa h) :
    PySem.W.WalkO q loose XP YP l.row.toRowW d [] (fun f vs => PySem.call f vs) := by
  refine Att.attach_callB hn hdf ?_
  intro w s₀ s₁ mg mb fa o pm cd doc a vs ns gr yp ho hd hcd hmg hobj hints hlen hbits hg
  have kx := hY w _ yp
  obtain ⟨fd, cs, sp, tabs, free, codes, binds, hsp, hF⟩ := F w mg fa _ gr.X yp kx gr.T.g hmg
  have none_flies : ∀ H e s', ¬ L2.CX l.prog w [] H s₁ (fun _ _ _ => False) e s' := fun H e s' z => by
    obtain ⟨_, _, _, _, _, _, _, _, _, _, _, _, z⟩ := z
    exact z
  exact law_callTs kx gr.T.g gr.T.b gr.T.builtins gr.T.nolimit hg tabs free codes gr.T.bmain hobj hints (Nat.le_trans hlen hn2) hr hF binds (fun H hH hS => hsp H a ns hlen hbits hH hS) none_flies
end AL
set_option Elab.async false
set_option linter.all false
set_option maxRecDepth 100000
set_option maxHeartbeats 4000000
set_option autoImplicit false
/-! AL13: promises of the laws' own helpers, and what they rest on. -/
namespace AL
open PySem PySem.Spec PyProof.Rows L2 LamX
/-- one of several -/
@[simp] def fsPick : ASp := fun ds M Q _ => match ds with | [.ref r, d] => M r = some .row ∧ ∃ es, seqA M d = some es ∧ 0 < es.length ∧ ∀ x ∈ es, Q x M | _ => False
theorem lenD_seq {M : Store} {d : D} {es : List D} {Q : DK} (h : seqA M d = some es) (q : es.length ≤ sizeLine → Q (.int (es.length : Nat)) M) : lenD [d] M Q := by
  cases d with
  | lst xs => cases h; exact q
  | tup xs => cases h; exact q
  | ref a => show (match seqA M (.ref a) with | some es => es.length ≤ sizeLine → Q (.int (es.length : Nat)) M | none => False); rw [h]; exact q
  | _ => cases h
theorem ixD_seq {M : Store} {d : D} {es : List D} {Q : DK} {i : Int} (h : seqA M d = some es) (i0 : 0 ≤ i) (i1 : i < es.length) (q : ∀ x ∈ es, Q x M) : ixD d (.int i) M Q := by
  have hi : i.toNat < es.length := by omega
  have e0 : atI es ((i.toNat : Nat) : Int) = some es[i.toNat] := by
    rw [atI_ofNat]
    exact List.getElem?_eq_getElem hi
  have e : atI es i = some es[i.toNat] := by rw [← e0, show ((i.toNat : Nat) : Int) = i from by omega]
  unfold ixD
  simp only [h, e]
  exact q _ (List.getElem_mem hi)
theorem line64 {n : Nat} (h : n ≤ sizeLine) : (n : Int) < 2 ^ 64 := by
  have : (sizeLine : Nat) = 16777216 := sizeLine_eq
  omega
theorem line62 {n : Nat} (h : n ≤ sizeLine) : -(2 ^ 62) ≤ (n : Int) := by omega
/-- alike: of the same thing twice -/
@[simp] def fsAlike (n : Nat) : ASp := fun ds M Q _ => match ds with | [x, y] => x = y ∧ okD n x = true ∧ Q (.bl true) M | _ => False
@[simp] def fsNone : ASp := fun _ _ _ _ => False
def lowF (a b : Int) : Int × Int := (a / (Nat.gcd a.natAbs b.natAbs : Nat), b / (Nat.gcd a.natAbs b.natAbs : Nat))
theorem lowF_ok {a b G : Int} (ha : 0 ≤ a) (hb : 0 < b) (h : a ≤ G * b) : 0 < (lowF a b).2 ∧ (lowF a b).2 ≤ b ∧ 0 ≤ (lowF a b).1 ∧ (lowF a b).1 ≤ G * (lowF a b).2 := by
  unfold lowF
  generalize hg : (Nat.gcd a.natAbs b.natAbs) = g
  have g0 : 0 < g := by rw [← hg]; exact Nat.gcd_pos_of_pos_right _ (by omega)
  obtain ⟨a', ea⟩ : (g : Int) ∣ a := by rw [← hg]; exact Int.ofNat_dvd_left.mpr (Nat.gcd_dvd_left _ _)
  obtain ⟨b', eb⟩ : (g : Int) ∣ b := by rw [← hg]; exact Int.ofNat_dvd_left.mpr (Nat.gcd_dvd_right _ _)
  have g1 : (0 : Int) < g := by omega
  have e1 : a / g = a' := by rw [ea]; exact Int.mul_ediv_cancel_left _ (by omega)
  have e2 : b / g = b' := by rw [eb]; exact Int.mul_ediv_cancel_left _ (by omega)
  simp only [e1, e2]
  have b0 : 0 < b' := by rw [eb] at hb; exact Int.pos_of_mul_pos_left (by rw [Int.mul_comm]; exact hb) g1
  refine ⟨b0, ?_, ?_, ?_⟩
  · have z := Int.mul_le_mul_of_nonneg_right (show (1 : Int) ≤ g by omega) (show 0 ≤ b' by omega)
    rw [Int.one_mul] at z
    rw [eb]; exact z
  · rw [ea] at ha; exact Int.nonneg_of_mul_nonneg_right ha g1
  · rw [ea, eb] at h
    have : (g : Int) * a' ≤ g * (G * b') := by rw [Int.mul_left_comm] at h; exact h
    exact Int.le_of_mul_le_mul_left this g1
/-- Euclid: what is left of the turns is enough -/
def Eu (a b n : Nat) : Prop := (b ≤ a ∧ a * b < 2 ^ n) ∨ (a < b ∧ 0 < n ∧ a * b < 2 ^ (n - 1))
theorem Eu.step {a b n : Nat} (h : Eu a b (n + 1)) (hb : 0 < b) : Eu b (a % b) n := by
  rcases h with ⟨h1, h2⟩ | ⟨h1, h2, h3⟩
  · refine .inl ⟨Nat.le_of_lt (Nat.mod_lt _ hb), ?_⟩
    have e : b + a % b ≤ a := by
      have := Nat.div_add_mod a b
      have q : 1 ≤ a / b := (Nat.le_div_iff_mul_le hb).mpr (by omega)
      have : b * 1 ≤ b * (a / b) := Nat.mul_le_mul_left b q
      omega
    have lt := Nat.mod_lt a hb
    have m : b * (2 * (a % b)) ≤ b * a := Nat.mul_le_mul_left b (by omega)
    have e2 : b * (2 * (a % b)) = 2 * (b * (a % b)) := Nat.mul_left_comm _ _ _
    have e3 : (2 : Nat) ^ (n + 1) = 2 * 2 ^ n := by rw [Nat.pow_succ, Nat.mul_comm]
    have e4 : b * a = a * b := Nat.mul_comm _ _
    omega
  · refine .inl ⟨?_, ?_⟩
    · rw [Nat.mod_eq_of_lt h1]; omega
    · rw [Nat.mod_eq_of_lt h1, Nat.mul_comm]
      simpa using h3
theorem Eu.end_ {a b : Nat} (h : Eu a b 0) : b = 0 := by
  rcases h with ⟨h1, h2⟩ | ⟨_, h2, _⟩
  · rw [Nat.pow_zero] at h2
    have : a * b = 0 := by omega
    rcases Nat.mul_eq_zero.mp this with z | z <;> omega
  · omega
theorem Eu.of {a b n : Nat} (h : a * b < 2 ^ n) : Eu a b (n + 1) := by
  rcases Nat.lt_or_ge a b with c | c
  · exact .inr ⟨c, by omega, by simpa using h⟩
  · refine .inl ⟨c, ?_⟩
    rw [Nat.pow_succ]; omega
theorem gcd_step (a b : Nat) : Nat.gcd b (a % b) = Nat.gcd a b := by rw [Nat.gcd_comm a b, Nat.gcd_rec b a, Nat.gcd_comm]
@[simp] def fsGcd : ASp := fun ds M Q _ => match ds with | [.int a, .int b] => 0 ≤ a ∧ 0 ≤ b ∧ a.natAbs * b.natAbs < 2 ^ 1999 ∧ Q (.int (Nat.gcd a.natAbs b.natAbs : Nat)) M | _ => False
@[simp] def fsLawLow : ASp := fun ds M Q _ => match ds with | [.int a, .int b] => 0 ≤ a ∧ 0 < b ∧ b.natAbs < 2 ^ 9000 ∧ a.natAbs * b.natAbs < 2 ^ 1999 ∧ Q (.tup [.int (lowF a b).1, .int (lowF a b).2]) M | _ => False
/-! ### stages of a body -/
theorem seq_mid {t u : ATS} {E : AEnds} {sl : SL} {M : Store} (J : SL → Store → Prop) (h1 : ∀ E' : AEnds, (∀ sl' M', J sl' M' → E'.nx sl' M') → E'.rt = E.rt → t E' sl M) (h2 : ∀ sl' M', J sl' M' → u E sl' M') : aSeq t u E sl M := h1 { E with nx := u E } h2 rfl
theorem frz_mid {i : Nat} {u : ATS} {E : AEnds} {sl : SL} {M : Store} {a : Addr} {ds : List D} (h1 : slotD sl i = some (.ref a)) (h2 : M a = some (.lst ds)) (h3 : u E (setD sl i (some (.lst ds))) (delS M a)) : aFrz i u E sl M := by
  unfold aFrz
  rw [h1]
  show (match M a with | some (.lst ds) => u E (setD sl i (some (.lst ds))) (delS M a) | some (.dic ds) => u E (setD sl i (some (.dic ds))) (delS M a) | some (.tp ds) => u E (setD sl i (some (.tup ds))) (delS M a) | _ => False)
  rw [h2]
  exact h3
theorem frz_midT {i : Nat} {u : ATS} {E : AEnds} {sl : SL} {M : Store} {a : Addr} {ds : List D} (h1 : slotD sl i = some (.ref a)) (h2 : M a = some (.tp ds)) (h3 : u E (setD sl i (some (.tup ds))) (delS M a)) : aFrz i u E sl M := by
  unfold aFrz
  rw [h1]
  show (match M a with | some (.lst ds) => u E (setD sl i (some (.lst ds))) (delS M a) | some (.dic ds) => u E (setD sl i (some (.dic ds))) (delS M a) | some (.tp ds) => u E (setD sl i (some (.tup ds))) (delS M a) | _ => False)
  rw [h2]
  exact h3
theorem frz_midD {i : Nat} {u : ATS} {E : AEnds} {sl : SL} {M : Store} {a : Addr} {ds : List (Key × D)} (h1 : slotD sl i = some (.ref a)) (h2 : M a = some (.dic ds)) (h3 : u E (setD sl i (some (.dic ds))) (delS M a)) : aFrz i u E sl M := by
  unfold aFrz
  rw [h1]
  show (match M a with | some (.lst ds) => u E (setD sl i (some (.lst ds))) (delS M a) | some (.dic ds) => u E (setD sl i (some (.dic ds))) (delS M a) | some (.tp ds) => u E (setD sl i (some (.tup ds))) (delS M a) | _ => False)
  rw [h2]
  exact h3
/-- slices -/
def cutL {α : Type} (xs : List α) (lo hi : Option Int) : List α := (xs.drop (HT.sIx xs.length 0 lo)).take (HT.sIx xs.length xs.length hi - HT.sIx xs.length 0 lo)
theorem cutD_map {α : Type} (f : α → D) (xs : List α) (lo hi : Option Int) : cutD (xs.map f) lo hi = (cutL xs lo hi).map f := by
  unfold cutD cutL
  rw [List.length_map, ← List.map_drop, ← List.map_take]
theorem cutL_to {α : Type} (xs : List α) {n : Int} (h : 0 ≤ n) : cutL xs none (some n) = xs.take n.toNat := by
  unfold cutL
  have e : HT.sIx xs.length xs.length (some n) = min n.toNat xs.length := by
    show (if n < 0 then _ else _) = _
    rw [if_neg (by omega)]
  rw [e]
  show (xs.drop 0).take (min n.toNat xs.length - 0) = _
  rw [List.drop_zero, Nat.sub_zero]
  rcases Nat.le_total n.toNat xs.length with c | c
  · rw [Nat.min_eq_left c]
  · rw [Nat.min_eq_right c, List.take_length, List.take_of_length_le c]
theorem cutL_from {α : Type} (xs : List α) {n : Int} (h : 0 ≤ n) : cutL xs (some n) none = xs.drop n.toNat := by
  unfold cutL
  have e : HT.sIx xs.length 0 (some n) = min n.toNat xs.length := by
    show (if n < 0 then _ else _) = _
    rw [if_neg (by omega)]
  rw [e]
  show (xs.drop (min n.toNat xs.length)).take (xs.length - min n.toNat xs.length) = _
  rw [List.take_of_length_le (by rw [List.length_drop]; omega)]
  rcases Nat.le_total n.toNat xs.length with c | c
  · rw [Nat.min_eq_left c]
  · rw [Nat.min_eq_right c, List.drop_length, List.drop_of_length_le c]
theorem for_rng1 {at_ : ATE} {ag : ATG} {ab : ATS} {E : AEnds} {sl : SL} {M : Store} (N : Nat) (h : ∀ Q : DK, (∀ n : Int, 0 ≤ n → n ≤ N → Q (.int n) M) → at_ sl M Q) (hN : N ≤ 1000000) (k : ∀ n : Nat, n ≤ N → forL (fun _ => True) ag ab (rngD 0 n) E sl M) : aFor (aRng1 (aCons at_ aNil)) ag ab E sl M :=
  h _ fun n n0 n1 => ⟨by omega, by have : (sizeLine : Nat) = 16777216 := sizeLine_eq; omega, k n.toNat (by omega)⟩
theorem for_seq {at_ : ATE} {ag : ATG} {ab : ATS} {E : AEnds} {sl : SL} {M : Store} {d : D} {ds : List D} (h : ∀ Q : DK, Q d M → at_ sl M Q) (hf : fitX d) (hs : seqX M d = some ds) (k : forL (fun M' => seqX M' d = some ds) ag ab ds E sl M) : aFor (aSeqI at_) ag ab E sl M := by
  refine h _ ⟨hf, ?_⟩
  rw [hs]
  exact k
end AL
set_option Elab.async false
set_option linter.all false
set_option maxRecDepth 100000
set_option maxHeartbeats 4000000
set_option autoImplicit false
/-! AL14: the law at its caller's own place (what stands around it is known: no guard of repr is set), and repr of data. -/
namespace AL
open PySem PySem.Spec PyProof.Rows L2 LamX
/-- a promise kept at one place A, with no frames of ours outside -/
def RunAt (A : Around) (P : Program) (w : World) (K : PySem.W.Frag) (mg : Str → Option Value) (base : Heap) (CX : CXT) (f : Addr) (fd : FuncData) (ps : List Str) (sp : Sp) : Prop :=
  ∀ (s : Shared) (H : Hp) (args : Args) (us : List Value) (vs : List V) (Q : VK) (E : XK), Env0 P w K mg base A [] s H → BindsTo s fd args (ps.zip us) → Vals vs us → sp vs H Q E → codeAny (model P w) A (.call (.ref f) args) (CR CX [] P w H s Q E) s
theorem run_at {A : Around} {CX : CXT} {P : Program} {w : World} {K : PySem.W.Frag} {mg : Str → Option Value} {base : Heap} {k : Nat} {f : Addr} {x q : Str} {params : Arguments} {body : List Stmt} {scope : Scope} {dV kV doc pm cdv ct oc : Value} {an od : Option Addr} {osl : Array (Option Value)} {N ps : List Str} {sp : Sp}
    (room : Room (k + 1) A) (lk : K.lookup f = some ⟨oc, od, .func (PySem.W.fnOf x q params body scope dV kV doc pm an cdv ct), osl⟩) (hcd : PySem.W.codeIn K cdv q = true) (S : FnScope N ps scope) (len : ∀ vs H Q E, sp vs H Q E → vs.length = ps.length)
    (hbody : ∀ (s : Shared) (H : Hp) (vs : List V) (Q : VK) (E : XK), Room k (A.deeper (envOfC q scope s.heap.objs.size f cdv)) → sp vs H Q E → ∃ t, PSs (cxOf CX P w K mg base N q scope f cdv A [] s H E) body t ∧ t { nx := fun _ H' => Q .non H', rt := Q } (L2.start N vs) H) :
    RunAt A P w K mg base CX f (PySem.W.fnOf x q params body scope dV kV doc pm an cdv ct) ps sp := by
  intro s H args us vs Q E e0 hb rv hsp
  have stays : ∀ b o, base.get? b = some o → s.heap.get? b = some o := fun b o z => (e0.bs b o z).1
  have kin : K.In s.heap := e0.mod.kin.keeps stays
  have kinds : ∀ y ∈ ps.zip us, scope.names.lookup y.1 = some .local ∨ (scope.names.lookup y.1 = some .cell ∧ ((cellsFrom (s.heap.objs.size + 1) scope.names []).lookup y.1).isSome = true) := by
    rintro ⟨n, v⟩ hy
    exact (S.par n (List.of_mem_zip hy).1).imp id fun z => ⟨z, PySem.W.cellsFrom_some _ _ _ (.inl z)⟩
  refine codeAny_call_function room.depth (kin _ _ lk) rfl S.co S.gen rfl (PySem.W.codeRec_of kin hcd) (hb _ _ _ _ (wpAny_newFunctionEnv_cells S.kind kinds ?_))
  rintro env rfl s1 x1
  refine ⟨(e0.mod.nolimit.keeps stays).keeps x1.toInCall.keep, codeAny_func ?_⟩
  obtain ⟨t, ht, hq⟩ := hbody s H vs Q E (room.deeper _) hsp
  have start := inv_start (CX := CX) (E := E) S room.hd e0 (len _ _ _ _ hsp) rv x1
  refine wpAny_mono (ht.run [] s1 (L2.start N vs) H _ start hq) (fun fl s' hs => ?_) fun _ _ z => z
  match fl, hs with
  | .next, ⟨_, H', J, q'⟩ => exact ⟨.non, H', J.os, J.bare, J.base, J.hok, rfl, q'⟩
  | .ret u, ⟨v, _, H', J, r', q'⟩ => exact ⟨v, H', J.os, J.bare, J.base, J.hok, r', q'⟩
  | .brk, ⟨_, _, _, z⟩ => exact z.elim
  | .cont, ⟨_, _, _, z⟩ => exact z.elim
/-- the heap as the law's call finds it: the tables, the script unless it is of the written part -/
def H1 (cs : List (Addr × Addr)) (fz : Bool) (a : Addr) (o : Obj) (ns : List Int) : Hp := fun b => if b ∈ cs.map (·.2) then some (.tbl #[]) else if fz = true ∧ b = a then some (.frz o (.lst (ns.map V.int))) else none
theorem H1_cases {cs : List (Addr × Addr)} {fz : Bool} {a : Addr} {o : Obj} {ns : List Int} (b : Addr) : (b ∈ cs.map (·.2) ∧ H1 cs fz a o ns b = some (.tbl #[])) ∨ (fz = true ∧ b = a ∧ b ∉ cs.map (·.2) ∧ H1 cs fz a o ns b = some (.frz o (.lst (ns.map V.int)))) ∨ (b ∉ cs.map (·.2) ∧ H1 cs fz a o ns b = none) := by
  unfold H1
  by_cases h : b ∈ cs.map (·.2)
  · exact .inl ⟨h, if_pos h⟩
  · rw [if_neg h]
    by_cases h2 : fz = true ∧ b = a
    · exact .inr (.inl ⟨h2.1, h2.2, h, if_pos h2⟩)
    · exact .inr (.inr ⟨h, if_neg h2⟩)
section
variable {P : Program} {w : World} {K : PySem.W.Frag} {mg mb : Str → Option Value} {CX : CXT} {fa a : Addr} {cs : List (Addr × Addr)} {fd : FuncData} {x : Str} {sp : Sp} {s₁ : Shared} {vs : List Value} {ns : List Int}
theorem law_run (kx : K.In s₁.heap) (gl : s₁.heap.Ns mainGlobals mg) (bl : s₁.heap.Ns builtinsNs mb) (bt : ∀ x : Str, x ≠ "__name__" → mb x = bootBuiltins x) (lim : s₁.heap.NoLimit) (gens : s₁.gens = #[])
    (tabs : ∀ p ∈ cs, s₁.heap.get? p.2 = some { cls := .none, data := .fields #[] }) (free : ∀ p ∈ cs, K.lookup p.2 = none) (codes : ∀ p ∈ cs, PySem.W.CodeHd s₁.heap p.1 p.2)
    (bmod : ∃ (bm : Addr) (ob : Obj), mg "__builtins__" = some (.ref bm) ∧ bm ≠ builtinsNs ∧ s₁.heap.get? bm = some ob ∧ ob.cls = .type "module" ∧ ob.dict = some builtinsNs ∧ ob.data = .plain)
    (scr : s₁.heap.get? a = some { cls := .type "list", data := .seq vs.toArray }) (hin : IntsAre vs ns) (hl : ns.length ≤ sizeLine)
    (F : ∀ base : Heap, K.In base → base.Ns mainGlobals mg → (∀ p ∈ cs, TabB base mg p.1 p.2) → RunAt callerA P w K mg base CX fa fd [x] sp) (binds : ∀ (s : Shared) (u : Value), BindsTo s fd ⟨[u], []⟩ [(x, u)])
    (hsp : ∀ H : Hp, (∀ p ∈ cs, H p.2 = some (.tbl #[])) → SqL K H a (ns.map V.int) → sp [.ref a] H (fun v _ => v = .bl true) fun _ _ _ => False) (quiet : ∀ H e s', CX [] H s₁ (fun _ _ _ => False) e s' → False) :
    codeAny (model P w) callerA (.call (.ref fa) ⟨[.ref a], []⟩) (fun r s' => r = .ok (.ret (.bool true)) ∧ OldK s₁.heap s'.heap ∧ s'.os = s₁.os ∧ AllBare s'.gens) s₁ := by
  have mem : ∀ {b : Addr}, b ∈ cs.map (·.2) → ∃ c, (c, b) ∈ cs := fun {b} hb => by
    obtain ⟨⟨c, b'⟩, hp, rfl⟩ := List.mem_map.mp hb
    exact ⟨c, hp⟩
  have tabs' : ∀ {b : Addr}, b ∈ cs.map (·.2) → s₁.heap.get? b = some { cls := .none, data := .fields #[] } := fun {b} hb => (mem hb).elim fun c hp => tabs _ hp
  have scr_not : a ∉ cs.map (·.2) := fun z => by
    have q := tabs' z
    rw [scr] at q
    have q := congrArg Obj.data (Option.some.inj q)
    cases q
  obtain ⟨fz, hfz⟩ : ∃ fz : Bool, fz = (K.lookup a).isNone := ⟨_, rfl⟩
  obtain ⟨H, eH⟩ : ∃ H, H = H1 cs fz a { cls := .type "list", data := .seq vs.toArray } ns := ⟨_, rfl⟩
  have cas := fun b => H1_cases (cs := cs) (fz := fz) (a := a) (o := { cls := .type "list", data := .seq vs.toArray }) (ns := ns) b
  rw [← eH] at cas
  have hT : ∀ p ∈ cs, H p.2 = some (.tbl #[]) := fun p hp => by
    have m : p.2 ∈ cs.map (·.2) := List.mem_map.mpr ⟨p, hp, rfl⟩
    rcases cas p.2 with ⟨_, z⟩ | ⟨_, _, z, _⟩ | ⟨z, _⟩
    · exact z
    · exact absurd m z
    · exact absurd m z
  -- what is neither a table nor the script is untracked
  have plain : ∀ {b : Addr} {o : Obj}, s₁.heap.get? b = some o → (∀ us n, o.data ≠ .seq us n) → o.data ≠ .fields #[] → H b = none := fun {b o} e h1 h2 => by
    rcases cas b with ⟨m, _⟩ | ⟨_, rfl, _, _⟩ | ⟨_, z⟩
    · rw [tabs' m] at e
      cases e
      exact absurd rfl h2
    · rw [scr] at e
      cases e
      exact absurd rfl (h1 _ _)
    · exact z
  have seen : ∀ {b : Addr} {o : Obj}, s₁.heap.get? b = some o → H b = none → (hidT s₁.heap H).get? b = some o := fun e n => hidT_get e n
  have dicts : ∀ {b : Addr} {m : Str → Option Value}, s₁.heap.Ns b m → (hidT s₁.heap H).Ns b m := by
    rintro b m ⟨o, es, ep, e, d, r⟩
    refine ⟨o, es, ep, seen e (plain e (fun us n z => ?_) fun z => ?_), d, r⟩
    · rw [d] at z; cases z
    · rw [d] at z; cases z
  have kin : K.In (hidT s₁.heap H) := fun b o e => by
    refine seen (kx b o e) ?_
    rcases cas b with ⟨m, _⟩ | ⟨f1, rfl, _, _⟩ | ⟨_, z⟩
    · obtain ⟨c, hp⟩ := mem m
      rw [free _ hp] at e
      cases e
    · rw [hfz] at f1
      rw [e] at f1
      cases f1
    · exact z
  have modl : L2.Mod K mg (hidT s₁.heap H) := ⟨kin, dicts gl, ⟨mb, dicts bl, bt⟩, lim.elim fun mc h => ⟨mc, dicts h.1, h.2⟩⟩
  have tabB : ∀ p ∈ cs, TabB (hidT s₁.heap H) mg p.1 p.2 := fun p hp => by
    refine ⟨?_, ?_, fun z => ?_⟩
    · obtain ⟨o, us, file, tf, flags, tg, inF, text, tt, e1, r1, r2, r3, rest⟩ := codes p hp
      refine ⟨o, us, file, tf, flags, tg, inF, text, tt, seen e1 (plain e1 (fun _ _ z => ?_) fun z => ?_), r1, r2, r3, rest⟩
      · rw [r2] at z; cases z
      · rw [r2] at z
        cases z
        simp at r3
    · obtain ⟨bm, ob, b1, b2, b3, b4, b5, b6⟩ := bmod
      refine ⟨bm, ob, b1, b2, fun q => ?_, fun q => ?_, seen b3 (plain b3 (fun _ _ z => ?_) fun z => ?_), b4, b5, b6⟩
      · obtain ⟨o, es, ep, e, hd, _⟩ := gl
        rw [q, e] at b3
        cases b3
        rw [hd] at b6
        cases b6
      · rw [q, tabs p hp] at b3
        cases b3
        cases b6
      · rw [b6] at z; cases z
      · rw [b6] at z; cases z
    · obtain ⟨o, es, ep, e, hd, _⟩ := gl
      rw [z, tabs p hp] at e
      cases e
      cases hd
  have lenV : vs.length = ns.length := hin.length
  have hok : HOk P w H s₁.heap := fun b u z => by
    rcases cas b with ⟨m, z'⟩ | ⟨_, rfl, _, z'⟩ | ⟨_, z'⟩
    · rw [z'] at z
      cases z
      exact tabs' m
    · rw [z'] at z
      cases z
      exact ⟨scr, by rw [List.length_map]; exact hl, vs, _, vals_ints hin, scr⟩
    · rw [z'] at z; cases z
  have scrH : SqL K H a (ns.map V.int) := by
    cases hk : K.lookup a with
    | some o =>
      have e := kx a o hk
      rw [scr] at e
      cases e
      exact .inr ⟨_, vs.toArray, _, hk, rfl, rfl, rfl, by rw [List.size_toArray, lenV]; exact hl, by simpa using vals_ints hin⟩
    | none =>
      rcases cas a with ⟨m, _⟩ | ⟨_, _, _, z⟩ | ⟨_, z⟩
      · exact absurd m scr_not
      · exact .inl (.inr ⟨_, z⟩)
      · rw [eH] at z
        unfold H1 at z
        rw [if_neg scr_not, if_pos ⟨by rw [hfz, hk]; rfl, rfl⟩] at z
        cases z
  have e0 : Env0 P w K mg (hidT s₁.heap H) callerA [] s₁ H := ⟨rfl, modl, fun b o e => of_hidT e, Nat.le_of_eq (hidT_size _ _), trivial, fun b hb => absurd hb List.not_mem_nil, hok, .of_eq gens⟩
  refine codeAny_mono (F _ kin (dicts gl) tabB s₁ H ⟨[.ref a], []⟩ [.ref a] [.ref a] _ _ e0 (binds s₁ (.ref a)) (.cons rfl .nil) (hsp H hT scrH)) fun r s' h => ?_
  match r, h with
  | .error e, h => exact (quiet H e s' h).elim
  | .ok .next, h => exact False.elim h
  | .ok .brk, h => exact False.elim h
  | .ok .cont, h => exact False.elim h
  | .ok (.ret u), ⟨v, H', os, bare, un, hok', r', q⟩ =>
    have q : v = .bl true := q
    subst q
    obtain rfl : u = Value.bool true := r'
    have grown : ∀ {b : Addr}, b ∈ cs.map (·.2) → ∃ more : Array Value, s'.heap.get? b = some { cls := .none, data := .fields more } := fun {b} hb => by
      obtain ⟨c, hp⟩ := mem hb
      obtain ⟨more, z⟩ := un.tbls b #[] (hT _ hp)
      exact ⟨_, hok' b _ z⟩
    have same : ∀ b o, b ∉ cs.map (·.2) → s₁.heap.get? b = some o → s'.heap.get? b = some o := fun b o nb e => by
      rcases cas b with ⟨m, _⟩ | ⟨_, _, _, z⟩ | ⟨_, z⟩
      · exact absurd m nb
      · obtain ⟨e1, _⟩ := hok b _ z
        obtain ⟨e2, _⟩ := hok' b _ (un.frzs b _ _ z)
        rw [e] at e1
        cases e1
        exact e2
      · exact un.keep b o e z (fun m => absurd (show b ∈ ([] : List Addr) from m) (by simp)) (by simp)
    refine ⟨rfl, ⟨fun b o e => ?_, fun b o e => ?_⟩, os, bare⟩
    · by_cases hb : b ∈ cs.map (·.2)
      · obtain ⟨more, hm⟩ := grown hb
        obtain ⟨c, hp⟩ := mem hb
        rw [tabs' hb] at e
        cases e
        exact .inr (.inl ⟨((codes _ hp).tab (tabs _ hp)).isCodeTable, rfl, #[], more, rfl, by rw [Array.empty_append]; exact hm⟩)
      · exact .inl (same b o hb e)
    · by_cases hb : b ∈ cs.map (·.2)
      · obtain ⟨more, hm⟩ := grown hb
        exact ⟨_, hm⟩
      · exact ⟨o, same b o hb e⟩
end
/-! ### the law as a promise over data, kept at its caller's place -/
theorem fnLawG {P : Program} {w : World} {K : PySem.W.Frag} {mg : Str → Option Value} {base : Heap} {T : List (Addr × Str)} {cdv : Value} {x : Str} {st : Stmt} {f : Addr} {fd : FuncData} {N ps : List Str} {k : Nat} {fs : ASp} (F : FunC K x st f fd cdv) (S : FnScope N ps (defScope st)) (room : Room (k + 1) callerA) (len : ∀ ds M Q E, fs ds M Q E → ds.length = ps.length)
    (body : ∀ (s : Shared) (H : Hp) (E : XK) (Z0 : Hid) (M0 : Store) (Ea : AXK), Room k (callerA.deeper (envOfC x (defScope st) s.heap.objs.size f cdv)) → (callerA.deeper (envOfC x (defScope st) s.heap.objs.size f cdv)).guards = some [] →
      Takes (cxOf (L2.CX P w) P w K mg base N x (defScope st) f cdv callerA [] s H E) (fun cls d _ H => E cls d H) →
      PassesOwn (model P w) (callerA.deeper (envOfC x (defScope st) s.heap.objs.size f cdv)) (envOfC x (defScope st) s.heap.objs.size f cdv) (cxOf (L2.CX P w) P w K mg base N x (defScope st) f cdv callerA [] s H E).xe →
      WL ⟨T, Z0, H, M0⟩ K (fun cls d _ H => E cls d H) (endW Ea) →
      ∃ ts at_, DSs ⟨T, Z0, H, M0⟩ (cxOf (L2.CX P w) P w K mg base N x (defScope st) f cdv callerA [] s H E) (defBody st) ts at_ ∧ ∀ ds Q, fs ds M0 Q Ea → at_ (endE Q) (startD N.length ds) M0) :
    RunAt callerA P w K mg base (L2.CX P w) f fd ps (SpOf K T fs) := by
  obtain ⟨oc, od, kV, doc, pm, an, ct, osl, rfl, lk, hcd⟩ := F.ex
  refine run_at room lk hcd S (fun vs H Q E h => ?_) fun s H vs Q E hr h => ?_
  · obtain ⟨Z, M, ds, Qa, Ea, rh, r, h, _⟩ := h
    rw [r.length]; exact len _ _ _ _ h
  · obtain ⟨Z, M, ds, Qa, Ea, rh, r, h, kn, kx⟩ := h
    obtain ⟨ts, at_, d1, d2⟩ := body s H E Z M Ea hr rfl (takes_of rfl rfl rfl rfl) (passes_of rfl) (by
      rintro Z2 σ H2 M2 sl C d v dx rp i hx hv ⟨Mf, dr, wa⟩
      have r2 := rp.rh.unhide i.hid
      obtain ⟨r3, e3⟩ := r2.dropM dr
      exact kx C d v dx H2 Mf r3 (i.ext.trans e3) hx ((hv.mono (sb_unhide i.hid)).mono e3.sb) wa)
    refine ⟨ts, d1.ps, d1.sim Z (L2.start N vs) H M (startD N.length ds) _ _ (rep_start rh r) ⟨Ext.refl _ _, fun _ z => z⟩ (d2 ds Qa h) ⟨?_, ?_, fun _ _ _ _ _ _ q => absurd q id, fun _ _ _ _ _ _ q => absurd q id⟩⟩
    · rintro σ' H' M' sl' rp e ⟨Mf, dr, q⟩
      obtain ⟨r3, e3⟩ := rp.rh.dropM dr
      exact kn .non .non H' Mf r3 (e.trans e3) .non q
    · rintro v d H' M' rh' e hv ⟨Mf, dr, q⟩
      obtain ⟨r3, e3⟩ := rh'.dropM dr
      exact kn v d H' Mf r3 (e.trans e3) (hv.mono e3.sb) q
/-- what is known of the law at the head's heap -/
def LawG (l : PySem.W.OpenLaw) (w : World) (K : PySem.W.Frag) (n : Nat) (x : Str) (mg : Str → Option Value) (fa : Addr) (h : Heap) : Prop :=
  ∃ (fd : FuncData) (cs : List (Addr × Addr)) (sp : Sp), (∀ p ∈ cs, h.get? p.2 = some { cls := .none, data := .fields #[] }) ∧ (∀ p ∈ cs, K.lookup p.2 = none) ∧ (∀ p ∈ cs, PySem.W.CodeHd h p.1 p.2) ∧ (∀ (s : Shared) (u : Value), BindsTo s fd ⟨[u], []⟩ [(x, u)]) ∧
    (∀ (H : Hp) (a : Addr) (ns : List Int), ns.length ≤ n → (∀ p ∈ cs, H p.2 = some (.tbl #[])) → SqL K H a (ns.map V.int) → sp [.ref a] H (fun v _ => v = .bl true) fun _ _ _ => False) ∧
    ∀ base : Heap, K.In base → base.Ns mainGlobals mg → (∀ p ∈ cs, TabB base mg p.1 p.2) → RunAt callerA l.prog w K mg base (L2.CX l.prog w) fa fd [x] sp
theorem walk_endG {l : PySem.W.OpenLaw} {n : Nat} {q : Program} {loose : List Str} {XP : (Str → Option Value) → Heap → Prop} {YP : World → Heap → Prop} {d : DefRec} {K : Params → PySem.W.Frag} {x : Str}
    (hn : l.most = some n) (hn2 : n ≤ sizeLine) (hdf : d.params.defaults = []) (hY : ∀ (w : World) (h : Heap), YP w h → (K w.params).In h)
    (F : ∀ (w : World) (mg : Str → Option Value) (fa : Addr) (h : Heap), XP mg h → YP w h → (K w.params).In h → h.Ns mainGlobals mg → mg d.name = some (.ref fa) → LawG l w (K w.params) n x mg fa h) :
    PySem.W.WalkO q loose XP YP l.row.toRowW d [] (fun f vs => PySem.call f vs) := by
  refine Att.attach_callB hn hdf ?_
  intro w s₀ s₁ mg mb fa o pm cd doc a vs ns gr yp ho hd hcd hmg hobj hints hlen hbits hg
  have kx := hY w _ yp
  obtain ⟨fd, cs, sp, tabs, free, codes, binds, hsp, hF⟩ := F w mg fa _ gr.X yp kx gr.T.g hmg
  refine law_run kx gr.T.g gr.T.b gr.T.builtins gr.T.nolimit hg tabs free codes gr.T.bmain hobj hints (Nat.le_trans hlen hn2) hF binds (fun H hH hS => hsp H a ns hlen hH hS) ?_
  rintro H e s' ⟨_, _, _, _, _, _, _, _, _, _, _, _, z⟩
  exact z
/-! ### repr of data, == of texts -/
mutual
/-- the ints are not too long to be shown -/
def shD : D → Bool
  | .int i => decide (i.natAbs.log2 < 1920)
  | .lst xs => shDs xs
  | .tup xs => shDs xs
  | _ => true
def shDs : List D → Bool
  | [] => true
  | x :: r => shD x && shDs r
end
@[simp] theorem shD_int {i : Int} : shD (.int i) = decide (i.natAbs.log2 < 1920) := by simp [shD]
@[simp] theorem shD_lst {xs : List D} : shD (.lst xs) = shDs xs := by simp [shD]
@[simp] theorem shD_tup {xs : List D} : shD (.tup xs) = shDs xs := by simp [shD]
@[simp] theorem shD_non : shD .non = true := by simp [shD]
@[simp] theorem shD_bl {b : Bool} : shD (.bl b) = true := by simp [shD]
@[simp] theorem shD_str {x : Str} : shD (.str x) = true := by simp [shD]
@[simp] theorem shDs_nil : shDs [] = true := by simp [shDs]
@[simp] theorem shDs_cons {x : D} {r : List D} : shDs (x :: r) = (shD x && shDs r) := by simp [shDs]
mutual
theorem sh_py : ∀ {n : Nat} {d : D}, okD n d = true → shD d = true → (toPy d).showable = true ∧ (toPy d).hasDict = false
  | _, .non, _, _ => by simp [toPy, PyData.showable, PyData.hasDict]
  | _, .bl _, _, _ => by simp [toPy, PyData.showable, PyData.hasDict]
  | _, .int i, _, h => by simpa [toPy, PyData.showable, PyData.hasDict] using h
  | _, .str _, _, _ => by simp [toPy, PyData.showable, PyData.hasDict]
  | n, .lst xs, o, h => by
    have := shs_py (bsplit (by simpa only [okD] using o)).2 (by simpa using h)
    simpa [toPy, PyData.showable, PyData.hasDict] using this
  | n, .tup xs, o, h => by
    have := shs_py (bsplit (by simpa only [okD] using o)).2 (by simpa using h)
    simpa [toPy, PyData.showable, PyData.hasDict] using this
  | _, .dic _, o, _ => by simp [okD] at o
  | _, .ref _, o, _ => by simp [okD] at o
theorem shs_py : ∀ {n : Nat} {ds : List D}, okDs n ds = true → shDs ds = true → PyData.showableAll (toPys ds) = true ∧ PyData.hasDictAll (toPys ds) = false
  | _, [], _, _ => by simp [toPys, PyData.showableAll, PyData.hasDictAll]
  | n, x :: r, o, h => by
    have o' := bsplit (by simpa only [okDs] using o)
    have h' := bsplit (by simpa only [shDs_cons] using h)
    have h1 := sh_py o'.1 h'.1
    have h2 := shs_py o'.2 h'.2
    simp [toPys, PyData.showableAll, PyData.hasDictAll, h1, h2]
end
/-- what repr of it is -/
def reprD (d : D) : Str := (toPy d).shown
def rReprD (K : PySem.W.Frag) : List V → Hp → VK → Prop := fun xs H Q => ∃ (a : Addr) (d : PyData), xs = [.ref a] ∧ Dp K H (.ref a) d ∧ d.showable = true ∧ d.hasDict = false ∧ d.depth ≤ 60 ∧ d.shown.length ≤ sizeLine ∧ Q (.str d.shown) H
def reprA : ACall := fun ds M Q => match ds with
  | [.tup xs] => okD 60 (.tup xs) = true ∧ shD (.tup xs) = true ∧ (reprD (.tup xs)).length ≤ sizeLine ∧ Q (.str (reprD (.tup xs))) M
  | [.lst xs] => okD 60 (.lst xs) = true ∧ shD (.lst xs) = true ∧ (reprD (.lst xs)).length ≤ sizeLine ∧ Q (.str (reprD (.lst xs))) M
  | _ => False
section
variable {b : BC} {X : Cx} {pos : Pos} {e e1 e2 : Expr} {es : List Expr} {ta tb : TE} {aa ab : ATE} {t : TA} {at_ : ATA} {n k : Nat} {p : Pos}
theorem call_reprD (hg : X.A.guards = some []) (hu : X.A.units + 64 < cLine) : CallR X (.builtin "repr") (rReprD X.K) := by
  rintro pins s σ H xs us Q I r ⟨a, d, rfl, hd, h1, h2, h3, h4, q⟩
  cases r with
  | cons r1 r2 =>
    cases r2
    cases r1
    obtain ⟨as, rd⟩ := Dp.reads I d _ _ hd rfl
    exact PySem.repr_of_reads' rd h1 (PyData.noDict_hsm h2) hg (by omega) (fun _ _ z => z) (fun h' u tk hk => ⟨.str _, H, I.kept hk, ⟨_, rfl⟩, q⟩) h4
theorem cs_repr {K : PySem.W.Frag} : CallSim b K (rReprD K) reprA := by
  intro Z H M xs ds Q Qa rh r q k
  have go : ∀ {v : V} {d : D}, (∃ a, v = .ref a) → R (mkH Z H M) v d → okD 60 d = true → shD d = true → (reprD d).length ≤ sizeLine → Qa (.str (reprD d)) M → rReprD K [v] H Q := by
    rintro v d ⟨a, rfl⟩ hv o s hl q
    have hs := sh_py o s
    exact ⟨a, _, rfl, hv.dp 60 o, hs.1, hs.2, (okD_lay 60 d o).2, hl, k _ _ H M rh (Ext.refl H M) (.str _) q⟩
  unfold reprA at q
  split at q <;> try exact q.elim
  · cases r with
    | cons h r =>
      cases r
      obtain ⟨q1, q2, q3, q4⟩ := q
      exact go (by cases h with | tup h1 _ _ => exact ⟨_, rfl⟩) h q1 q2 q3 q4
  · cases r with
    | cons h r =>
      cases r
      obtain ⟨q1, q2, q3, q4⟩ := q
      exact go (by cases h with | lst h1 _ _ => exact ⟨_, rfl⟩) h q1 q2 q3 q4
theorem de_repr (hgd : X.A.guards = some []) (hr : Room k X.A) (hm : X.mg "repr" = none) (ha : DA b X [e] t at_ 1) (hg : Gl X "repr" := by rfl) (he : starEach (e :: []) X.env = (false, eval e X.env) :: starEach [] X.env := by rfl) (hpl : (backTo pos (starEach [] X.env)).any (·.1) = false := by rfl) :
    DE b X (.Call (.Name "repr" p) [e] [] pos) (tCB (rReprD X.K) t) (aCB reprA at_) := de_cb (call_reprD hgd hr.units) cs_repr hm ha (by decide +kernel) hg (by decide) (by decide) he hpl
@[simp] def eqS (neg : Bool) : R2A := fun d e M Q => match d, e with | .str x, .str y => Q (.bl (if neg then !decide (x = y) else decide (x = y))) M | _, _ => False
theorem os_eqS {K : PySem.W.Frag} : OpSim b K rEq (eqS false) := by
  intro Z H M x y d e Q Qa rh hx hy q k
  cases hx <;> first | exact q.elim | skip
  cases hy <;> first | exact q.elim | skip
  rename_i i j
  refine ⟨rfl, ?_⟩
  have e : decide (V.str i = V.str j) = decide (i = j) := decide_eq_decide.mpr ⟨fun z => by cases z; rfl, fun z => by rw [z]⟩
  rw [e]
  exact k _ _ H M rh (Ext.refl H M) (.bl _) q
theorem os_neS {K : PySem.W.Frag} : OpSim b K rNe (eqS true) := by
  intro Z H M x y d e Q Qa rh hx hy q k
  cases hx <;> first | exact q.elim | skip
  cases hy <;> first | exact q.elim | skip
  rename_i i j
  refine ⟨rfl, ?_⟩
  have e : decide (V.str i = V.str j) = decide (i = j) := decide_eq_decide.mpr ⟨fun z => by cases z; rfl, fun z => by rw [z]⟩
  rw [e]
  exact k _ _ H M rh (Ext.refl H M) (.bl _) q
theorem de_eqS (ha : DE b X e1 ta aa) (hb : DE b X e2 tb ab) : DE b X (.Compare e1 [.Eq] [e2] pos) (tOp rEq ta tb) (aOp (eqS false) aa ab) := ⟨pe_cmpR op_eq ha.pe hb.pe (nomark _), sim_op os_eqS ha.sim hb.sim⟩
theorem de_neS (ha : DE b X e1 ta aa) (hb : DE b X e2 tb ab) : DE b X (.Compare e1 [.NotEq] [e2] pos) (tOp rNe ta tb) (aOp (eqS true) aa ab) := ⟨pe_cmpR op_ne ha.pe hb.pe (nomark _), sim_op os_neS ha.sim hb.sim⟩
theorem dt_eqS (ha : DE b X e1 ta aa) (hb : DE b X e2 tb ab) : DT b X (.Compare e1 [.Eq] [e2] pos) (tB (tOp rEq ta tb)) (aBool (aOp (eqS false) aa ab)) := ⟨pt_cmpR op_eq ha.pe hb.pe (nomark _), sim_bool (de_eqS (pos := pos) ha hb).sim⟩
theorem dt_neS (ha : DE b X e1 ta aa) (hb : DE b X e2 tb ab) : DT b X (.Compare e1 [.NotEq] [e2] pos) (tB (tOp rNe ta tb)) (aBool (aOp (eqS true) aa ab)) := ⟨pt_cmpR op_ne ha.pe hb.pe (nomark _), sim_bool (de_neS (pos := pos) ha hb).sim⟩
end
end AL
set_option Elab.async false
set_option linter.all false
set_option maxRecDepth 100000
set_option maxHeartbeats 4000000
set_option autoImplicit false
/-! AL15: sorted, min, max of data. -/
namespace AL
open PySem PySem.Spec PyProof.Rows L2 LamX
open PySem.W (EachIs AllAlike Sortable dataLe AlikeAll minD maxD alike)
def rSortD (K : PySem.W.Frag) : List V → Hp → VK → Prop := fun vs H Q => ∃ (a : Addr) (T : List (V × PyData)), vs = [.ref a] ∧ SqL K H a (T.map Prod.fst) ∧ (∀ t ∈ T, Dp K H t.1 t.2 ∧ t.2.depth ≤ 60) ∧ AllAlike (T.map Prod.snd) ∧ Sortable (T.map Prod.snd) ∧
  ∀ p, H p = none → Q (.ref p) (upd H p (.lst ((T.mergeSort (dataLe false Prod.snd)).map Prod.fst)))
theorem each_vals {T : List (V × PyData)} : ∀ {us : List Value}, Vals (T.map Prod.fst) us → EachIs (fun u (t : V × PyData) => RelV t.1 u) us T := by
  induction T with
  | nil => intro us h; cases h; exact .nil
  | cons t T ih =>
    intro us h
    cases h with
    | cons h1 h2 => exact .cons h1 (ih h2)
theorem vals_each {T : List (V × PyData)} : ∀ {us : List Value}, EachIs (fun u (t : V × PyData) => RelV t.1 u) us T → Vals (T.map Prod.fst) us := by
  induction T with
  | nil => intro us h; cases h; exact .nil
  | cons t T ih =>
    intro us h
    cases h with
    | cons h1 h2 => exact .cons h1 (ih h2)
theorem each_all {α β : Type} {R S : α → β → Prop} : ∀ {us : List α} {T : List β}, (∀ t ∈ T, ∀ u, R u t → S u t) → EachIs R us T → EachIs S us T
  | _, [], _, .nil => .nil
  | _, t :: T, h, .cons h1 h2 => .cons (h t List.mem_cons_self _ h1) (each_all (fun t m => h t (List.mem_cons_of_mem _ m)) h2)
section
variable {X : Cx}
theorem cr_sortD (hu : X.A.units + 100 < cLine) : CallR X (.builtin "sorted") (rSortD X.K) := by
  rintro pins s σ H vs us Q I r ⟨a, T, rfl, hs, hd, h1, h2, q⟩
  obtain ⟨its, rv, hl, hz⟩ := I.list hs
  rw [Vals.ref1 r]
  rw [List.length_map] at hz
  have e := each_vals rv
  have er : EachIs (fun u (t : V × PyData) => ∃ as, Reads s.heap u t.2 as) its T := each_all (fun t m u ru => Dp.reads I t.2 t.1 u (hd t m).1 ru) e
  refine PySem.W.sorted_data (enc := Prod.snd) hl.isList e er h1 h2 hz (fun t m => by have := (hd t m).2; omega) fun out ho eo => ?_
  obtain ⟨ep, he'⟩ := PyProof.Rows.sortedAll_at s.heap its out.toArray
  exact ⟨.ref _, upd H (s.heap.objs.size + 1) (.lst ((T.mergeSort (dataLe false Prod.snd)).map Prod.fst)), I.laid (t' := s.toks) (fun _ _ => PyProof.Rows.sortedAll_old) (Nat.le_succ _) ⟨by rw [List.length_map, List.length_mergeSort]; exact hz, out, ep, vals_each eo, he'⟩, rfl, q _ (I.hok.fresh (Nat.le_succ _))⟩
def rBestD (K : PySem.W.Frag) (best : PyData → List PyData → PyData) : List V → Hp → VK → Prop := fun vs H Q => ∃ (a : Addr) (xs : List V) (d : PyData) (ds : List PyData), vs = [.ref a] ∧ (SqL K H a xs ∨ SqT K H a xs) ∧ DpAll K H xs (d :: ds) ∧ AlikeAll (d :: ds) ∧ PyData.depthAll (d :: ds) ≤ 60 ∧
  ∀ (i : Nat) (x : V) (e : PyData), xs[i]? = some x → (d :: ds)[i]? = some e → e = best d ds → Q x H
theorem dpAll_get {K : PySem.W.Frag} {H : Hp} : ∀ {xs : List V} {ds : List PyData} {i : Nat} {x : V}, DpAll K H xs ds → xs[i]? = some x → ∃ e, ds[i]? = some e ∧ Dp K H x e
  | _, _, 0, _, .cons h _, e => by simp at e; subst e; exact ⟨_, rfl, h⟩
  | _, _, i + 1, _, .cons _ r, e => by simpa using dpAll_get (i := i) r (by simpa using e)
theorem vals_get' {xs : List V} {us : List Value} (r : Vals xs us) : ∀ {i : Nat} {u : Value}, us[i]? = some u → ∃ x, xs[i]? = some x ∧ RelV x u := by
  induction r with
  | nil => intro i u e; simp at e
  | cons h _ ih =>
    intro i u e
    cases i with
    | zero => simp at e; subst e; exact ⟨_, rfl, h⟩
    | succ i => simpa using ih (by simpa using e)
theorem best_end {pins : List (Addr × Obj)} {s : Shared} {σ : L2.St} {H : Hp} {Q : VK} {xs : List V} {d : PyData} {ds : List PyData} {best : PyData → List PyData → PyData} {its : List Value} (I : Inv X pins σ H s) (rv : Vals xs its) (hd : DpAll X.K H xs (d :: ds))
    (q : ∀ (i : Nat) (x : V) (e : PyData), xs[i]? = some x → (d :: ds)[i]? = some e → e = best d ds → Q x H) (i : Nat) (v : Value) (h' : Heap) (tk : Nat) (bs : List Addr) (g : its.toArray[i]? = some v) (rd : Reads h' v (best d ds) bs) (hk : ∀ b o, s.heap.get? b = some o → h'.get? b = some o) : EP X pins σ Q v { s with heap := h', toks := tk } := by
  have g' : its[i]? = some v := by simpa using g
  obtain ⟨x, gx, rx⟩ := vals_get' rv g'
  obtain ⟨e, ge, de⟩ := dpAll_get hd gx
  obtain ⟨as, re⟩ := Dp.reads I e x v de rx
  have re' := PyProof.Rows.Reads.keeps hk re
  have eq := (re'.unique _ _ rd).1
  exact ⟨x, H, I.kept hk, rx, q i x e gx ge eq⟩
theorem cr_minD (hc : X.calm = true) (hu : X.A.units + 100 < cLine) : CallR X (.builtin "min") (rBestD X.K minD) := by
  rintro pins s σ H vs us Q I r ⟨a, xs, d, ds, rfl, hs, hd, h1, h2, q⟩
  rw [Vals.ref1 r]
  rcases hs with hs | hs
  · obtain ⟨its, rv, hl, hz⟩ := I.list hs
    obtain ⟨as, rd⟩ := Dp.readsAll I _ _ _ hd rv
    exact PySem.W.min_list_data (I.ok.hd hc) hl.isList (by simpa using rd) h1 (by omega) fun i v h' tk bs g r' hk => best_end (best := minD) I rv hd q i v h' tk bs g r' hk
  · obtain ⟨its, rv, hl, hz⟩ := I.tuple hs
    obtain ⟨as, rd⟩ := Dp.readsAll I _ _ _ hd rv
    exact PySem.W.min_tuple_data (I.ok.hd hc) (show s.heap.IsTuple a its.toArray from hl) (by simpa using rd) h1 (by omega) fun i v h' tk bs g r' hk => best_end (best := minD) I rv hd q i v h' tk bs g r' hk
theorem cr_maxD (hc : X.calm = true) (hu : X.A.units + 100 < cLine) : CallR X (.builtin "max") (rBestD X.K maxD) := by
  rintro pins s σ H vs us Q I r ⟨a, xs, d, ds, rfl, hs, hd, h1, h2, q⟩
  rw [Vals.ref1 r]
  rcases hs with hs | hs
  · obtain ⟨its, rv, hl, hz⟩ := I.list hs
    obtain ⟨as, rd⟩ := Dp.readsAll I _ _ _ hd rv
    exact PySem.W.max_list_data (I.ok.hd hc) hl.isList (by simpa using rd) h1 (by omega) fun i v h' tk bs g r' hk => best_end (best := maxD) I rv hd q i v h' tk bs g r' hk
  · obtain ⟨its, rv, hl, hz⟩ := I.tuple hs
    obtain ⟨as, rd⟩ := Dp.readsAll I _ _ _ hd rv
    exact PySem.W.max_tuple_data (I.ok.hd hc) (show s.heap.IsTuple a its.toArray from hl) (by simpa using rd) h1 (by omega) fun i v h' tk bs g r' hk => best_end (best := maxD) I rv hd q i v h' tk bs g r' hk
end
theorem toPys_map : ∀ ds : List D, toPys ds = ds.map toPy
  | [] => by simp [toPys]
  | d :: ds => by simp [toPys, toPys_map ds]
/-- sorted data -/
def sortD (es : List D) : List D := es.mergeSort (dataLe false toPy)
def sortA : ACall := fun ds M Q => match ds with
  | [d] => (match seqL M d with | some es => okDs 59 es = true ∧ AllAlike (es.map toPy) ∧ Sortable (es.map toPy) ∧ Q (.lst (sortD es)) M | none => False)
  | _ => False
def sortAC : ACall := fun ds M Q => match ds with
  | [d] => (match seqL M d with | some es => okDs 59 es = true ∧ AllAlike (es.map toPy) ∧ Sortable (es.map toPy) ∧ ∀ a, M a = none → Q (.ref a) (updS M a (.lst (sortD es))) | none => False)
  | _ => False
theorem rs_of {F : Hp} : ∀ {U : List (V × D)}, (∀ t ∈ U, R F t.1 t.2) → Rs F (U.map Prod.fst) (U.map Prod.snd)
  | [], _ => .nil
  | t :: U, h => .cons (h t List.mem_cons_self) (rs_of fun t m => h t (List.mem_cons_of_mem _ m))
theorem rs_zip {F : Hp} : ∀ {vs : List V} {es : List D}, Rs F vs es → (vs.zip es).map Prod.fst = vs ∧ (vs.zip es).map Prod.snd = es ∧ ∀ t ∈ vs.zip es, R F t.1 t.2
  | _, _, .nil => ⟨rfl, rfl, fun t m => by cases m⟩
  | v :: vs, d :: es, .cons h r => by
    obtain ⟨h1, h2, h3⟩ := rs_zip r
    refine ⟨by rw [List.zip_cons_cons, List.map_cons, h1], by rw [List.zip_cons_cons, List.map_cons, h2], fun t m => ?_⟩
    rw [List.zip_cons_cons] at m
    rcases List.mem_cons.mp m with rfl | m
    · exact h
    · exact h3 t m
section
variable {b : BC}
theorem sort_parts {K : PySem.W.Frag} {T : List (Addr × Str)} {Z : Hid} {H : Hp} {M : Store} {vs : List V} {es : List D} (hr : Rs (mkH Z H M) vs es) (ok : okDs 59 es = true) :
    ∃ U : List (V × PyData), U.map Prod.fst = vs ∧ U.map Prod.snd = es.map toPy ∧ (∀ t ∈ U, Dp K H t.1 t.2 ∧ t.2.depth ≤ 60) ∧ Rs (mkH Z H M) ((U.mergeSort (dataLe false Prod.snd)).map Prod.fst) (sortD es) := by
  obtain ⟨h1, h2, h3⟩ := rs_zip hr
  let g : V × D → V × PyData := fun t => (t.1, toPy t.2)
  have em : ((vs.zip es).map g).mergeSort (dataLe false Prod.snd) = ((vs.zip es).mergeSort (dataLe false fun t : V × D => toPy t.2)).map g := (List.map_mergeSort (r := dataLe false fun t : V × D => toPy t.2) (s := dataLe false Prod.snd) (f := g) (fun a _ b _ => rfl)).symm
  have es2 : sortD es = ((vs.zip es).mergeSort (dataLe false fun t : V × D => toPy t.2)).map Prod.snd := by
    have := List.map_mergeSort (r := dataLe false fun t : V × D => toPy t.2) (s := dataLe false toPy) (f := Prod.snd) (l := vs.zip es) (fun a _ b _ => rfl)
    rw [this, h2]; rfl
  refine ⟨(vs.zip es).map g, by rw [List.map_map]; exact h1, ?_, fun t m => ?_, ?_⟩
  · rw [List.map_map]
    have : Prod.snd ∘ g = toPy ∘ (Prod.snd : V × D → D) := rfl
    rw [this, ← List.map_map, h2]
  · obtain ⟨u, mu, rfl⟩ := List.mem_map.mp m
    have hR := h3 u mu
    have mo : u.2 ∈ es := by rw [← h2]; exact List.mem_map.mpr ⟨u, mu, rfl⟩
    have ou := okDs_mem ok mo
    exact ⟨hR.dp 59 ou, Nat.le_trans (okD_lay 59 u.2 ou).2 (by decide)⟩
  · rw [em, es2, List.map_map]
    refine rs_of fun t m => h3 t ?_
    exact (List.mergeSort_perm _ _).mem_iff.mp m
theorem sortD_length (es : List D) : (sortD es).length = es.length := by unfold sortD; rw [List.length_mergeSort]
theorem cs_sort {K : PySem.W.Frag} : CallSim b K (rSortD K) sortA := by
  intro Z H M xs ds Q Qa rh r q k
  cases r with
  | nil => exact q.elim
  | cons h r =>
    cases r with
    | cons _ _ => exact q.elim
    | nil =>
      rename_i v d
      have q : (match seqL M d with | some es => okDs 59 es = true ∧ AllAlike (es.map toPy) ∧ Sortable (es.map toPy) ∧ Qa (.lst (sortD es)) M | none => False) := q
      cases z : seqL M d with
      | none => rw [z] at q; exact q.elim
      | some es =>
        rw [z] at q
        obtain ⟨ok, al, so, q⟩ := q
        obtain ⟨a, vs, rfl, ha, hr, hn⟩ := seqL_ok rh h z
        obtain ⟨U, u1, u2, u3, u4⟩ := sort_parts (K := K) (T := b.T) hr ok
        refine ⟨a, U, rfl, by rw [u1]; exact .of ha, u3, by rw [u2]; exact al, by rw [u2]; exact so, fun p np => ?_⟩
        obtain ⟨r2, e2, z2⟩ := new_lst rh np (by rw [sortD_length]; exact hn) u4
        exact k _ _ _ _ r2 e2 z2 q
theorem cs_sortC {K : PySem.W.Frag} : CallSim b K (rSortD K) sortAC := by
  intro Z H M xs ds Q Qa rh r q k
  cases r with
  | nil => exact q.elim
  | cons h r =>
    cases r with
    | cons _ _ => exact q.elim
    | nil =>
      rename_i v d
      have q : (match seqL M d with | some es => okDs 59 es = true ∧ AllAlike (es.map toPy) ∧ Sortable (es.map toPy) ∧ ∀ a, M a = none → Qa (.ref a) (updS M a (.lst (sortD es))) | none => False) := q
      cases z : seqL M d with
      | none => rw [z] at q; exact q.elim
      | some es =>
        rw [z] at q
        obtain ⟨ok, al, so, q⟩ := q
        obtain ⟨a, vs, rfl, ha, hr, hn⟩ := seqL_ok rh h z
        obtain ⟨U, u1, u2, u3, u4⟩ := sort_parts (K := K) (T := b.T) hr ok
        refine ⟨a, U, rfl, by rw [u1]; exact .of ha, u3, by rw [u2]; exact al, by rw [u2]; exact so, fun p np => ?_⟩
        obtain ⟨r2, e2⟩ := new_cell rh np (by rw [sortD_length]; exact hn) u4
        exact k _ _ _ _ r2 e2 (.ref p) (q p (rh.free np))
/-- the least, the greatest (the first of them) -/
def bestA (best : PyData → List PyData → PyData) : ACall := fun ds M Q => match ds with
  | [d] => (match seqA M d with | some (e :: es) => okDs 59 (e :: es) = true ∧ AlikeAll ((e :: es).map toPy) ∧ ∀ x ∈ e :: es, toPy x = best (toPy e) (es.map toPy) → Q x M | _ => False)
  | _ => False
theorem cs_best {K : PySem.W.Frag} (best : PyData → List PyData → PyData) : CallSim b K (rBestD K best) (bestA best) := by
  intro Z H M xs ds Q Qa rh r q k
  cases r with
  | nil => exact q.elim
  | cons h r =>
    cases r with
    | cons _ _ => exact q.elim
    | nil =>
      rename_i v d
      have q : (match seqA M d with | some (e :: es) => okDs 59 (e :: es) = true ∧ AlikeAll ((e :: es).map toPy) ∧ ∀ x ∈ e :: es, toPy x = best (toPy e) (es.map toPy) → Qa x M | _ => False) := q
      cases z : seqA M d with
      | none => rw [z] at q; exact q.elim
      | some l =>
        rw [z] at q
        cases l with
        | nil => exact q.elim
        | cons e es =>
          obtain ⟨ok, al, q⟩ := q
          obtain ⟨a, vs, rfl, ha, hr, hn⟩ := seqA_ok rh h z
          have hd := Rs.dp (K := K) 59 hr ok
          rw [toPys_map, List.map_cons] at hd
          have dep : PyData.depthAll (toPy e :: es.map toPy) ≤ 60 := by
            have := (okDs_lay 59 (e :: es) ok).2
            rw [toPys_map, List.map_cons] at this
            omega
          refine ⟨a, vs, _, _, rfl, ha.elim (fun h => .inl (.of h)) (fun h => .inr (.inl h)), hd, by simpa using al, dep, fun i x y gx gy hy => ?_⟩
          obtain ⟨w, gw, rw_⟩ := hr.get gx
          have gy' : ((e :: es).map toPy)[i]? = some y := by simpa using gy
          rw [List.getElem?_map, gw] at gy'
          cases gy'
          exact k _ _ H M rh (Ext.refl H M) rw_ (q w (List.mem_of_getElem? gw) hy)
variable {X : Cx} {pos : Pos} {e : Expr} {t : TA} {at_ : ATA} {k : Nat} {p : Pos}
theorem room100 {k : Nat} {A : Around} (r : Room k A) : A.units + 100 < cLine := by have := r.un; omega
theorem de_sorted (hr : Room k X.A) (hm : X.mg "sorted" = none) (ha : DA b X [e] t at_ 1) (hg : Gl X "sorted" := by rfl) (he : starEach (e :: []) X.env = (false, eval e X.env) :: starEach [] X.env := by rfl) (hpl : (backTo pos (starEach [] X.env)).any (·.1) = false := by rfl) :
    DE b X (.Call (.Name "sorted" p) [e] [] pos) (tCB (rSortD X.K) t) (aCB sortA at_) := de_cb (cr_sortD (room100 hr)) cs_sort hm ha (by decide +kernel) hg (by decide) (by decide) he hpl
theorem de_sortedC (hr : Room k X.A) (hm : X.mg "sorted" = none) (ha : DA b X [e] t at_ 1) (hg : Gl X "sorted" := by rfl) (he : starEach (e :: []) X.env = (false, eval e X.env) :: starEach [] X.env := by rfl) (hpl : (backTo pos (starEach [] X.env)).any (·.1) = false := by rfl) :
    DE b X (.Call (.Name "sorted" p) [e] [] pos) (tCB (rSortD X.K) t) (aCB sortAC at_) := de_cb (cr_sortD (room100 hr)) cs_sortC hm ha (by decide +kernel) hg (by decide) (by decide) he hpl
theorem de_minD (hc : X.calm = true) (hr : Room k X.A) (hm : X.mg "min" = none) (ha : DA b X [e] t at_ 1) (hg : Gl X "min" := by rfl) (he : starEach (e :: []) X.env = (false, eval e X.env) :: starEach [] X.env := by rfl) (hpl : (backTo pos (starEach [] X.env)).any (·.1) = false := by rfl) :
    DE b X (.Call (.Name "min" p) [e] [] pos) (tCB (rBestD X.K minD) t) (aCB (bestA minD) at_) := de_cb (cr_minD hc (room100 hr)) (cs_best minD) hm ha (by decide +kernel) hg (by decide) (by decide) he hpl
theorem de_maxD (hc : X.calm = true) (hr : Room k X.A) (hm : X.mg "max" = none) (ha : DA b X [e] t at_ 1) (hg : Gl X "max" := by rfl) (he : starEach (e :: []) X.env = (false, eval e X.env) :: starEach [] X.env := by rfl) (hpl : (backTo pos (starEach [] X.env)).any (·.1) = false := by rfl) :
    DE b X (.Call (.Name "max" p) [e] [] pos) (tCB (rBestD X.K maxD) t) (aCB (bestA maxD) at_) := de_cb (cr_maxD hc (room100 hr)) (cs_best maxD) hm ha (by decide +kernel) hg (by decide) (by decide) he hpl
end
/-! pairs of ints -/
def prD (x : Int × Int) : D := .tup [.int x.1, .int x.2]
theorem pr_py (x : Int × Int) : toPy (prD x) = .tuple [.int x.1, .int x.2] := by simp [prD, toPy, toPys]
theorem pr_alike (x y : Int × Int) : alike (toPy (prD x)) (toPy (prD y)) = true := by rw [pr_py, pr_py]; simp [alike, PySem.W.alikeAll]
theorem prs_alike (l : List (Int × Int)) : AlikeAll ((l.map prD).map toPy) := by
  refine ⟨fun x hx y hy => ?_, fun x hx => ?_⟩
  · obtain ⟨d, hd, rfl⟩ := List.mem_map.mp hx
    obtain ⟨p, _, rfl⟩ := List.mem_map.mp hd
    obtain ⟨d', hd', rfl⟩ := List.mem_map.mp hy
    obtain ⟨p', _, rfl⟩ := List.mem_map.mp hd'
    exact pr_alike p p'
  · obtain ⟨d, hd, rfl⟩ := List.mem_map.mp hx
    obtain ⟨p, _, rfl⟩ := List.mem_map.mp hd
    rw [pr_py]; simp
theorem pr_inj {x y : Int × Int} (h : toPy (prD x) = toPy (prD y)) : x = y := by
  rw [pr_py, pr_py] at h
  injection h with h
  injection h with h1 h2
  injection h1 with h1
  injection h2 with h2 _
  injection h2 with h2
  exact Prod.ext h1 h2
/-- the first of the least pairs -/
def minP (x : Int × Int) (l : List (Int × Int)) : Int × Int := l.foldl (fun a y => if y.1 < a.1 ∨ (y.1 = a.1 ∧ y.2 < a.2) then y else a) x
theorem minD_prs (x : Int × Int) : ∀ l : List (Int × Int), minD (toPy (prD x)) ((l.map prD).map toPy) = toPy (prD (minP x l)) := by
  intro l
  unfold minD minP
  induction l generalizing x with
  | nil => rfl
  | cons y l ih =>
    rw [List.map_cons, List.map_cons, List.foldl_cons, List.foldl_cons, ← ih]
    congr 1
    rw [pr_py, pr_py, PySem.W.dataLt_ii]
    by_cases c : y.1 < x.1 ∨ (y.1 = x.1 ∧ y.2 < x.2)
    · rw [if_pos c, if_pos (decide_eq_true c), pr_py]
    · rw [if_neg c, if_neg (by rw [decide_eq_false c]; decide), pr_py]
theorem pr_ok {n : Nat} (x : Int × Int) : okD (n + 1) (prD x) = true := by simp [prD]
theorem prs_ok {n : Nat} (l : List (Int × Int)) : okDs (n + 1) (l.map prD) = true := okDs_of fun d m => by obtain ⟨x, _, rfl⟩ := List.mem_map.mp m; exact pr_ok x
theorem best_prs {M : Store} {d : D} {x : Int × Int} {l : List (Int × Int)} {Q : DK} (h : seqA M d = some ((x :: l).map prD)) (q : Q (prD (minP x l)) M) : bestA minD [d] M Q := by
  show (match seqA M d with | some (e :: es) => okDs 59 (e :: es) = true ∧ AlikeAll ((e :: es).map toPy) ∧ ∀ x ∈ e :: es, toPy x = minD (toPy e) (es.map toPy) → Q x M | _ => False)
  rw [h]
  refine ⟨prs_ok (n := 58) (x :: l), prs_alike (x :: l), fun y hy e => ?_⟩
  rw [minD_prs] at e
  obtain ⟨z, _, rfl⟩ := List.mem_map.mp (show y ∈ (x :: l).map prD from hy)
  rw [pr_inj e]
  exact q
/-! ### sum of a list, a tuple -/
def rSumA (K : PySem.W.Frag) : List V → Hp → VK → Prop := fun vs H Q => ∃ (a : Addr) (ns : List Int), vs = [V.ref a] ∧ (SqL K H a (ns.map V.int) ∨ SqT K H a (ns.map V.int)) ∧ Q (.int ns.sum) H
theorem cr_sumA {X : Cx} (hc : X.calm = true) : CallR X (.builtin "sum") (rSumA X.K) := by
  rintro pins s σ H vs us Q I r ⟨a, ns, rfl, hs | hs, q⟩
  · exact cr_sum hc pins s σ H _ _ Q I r ⟨a, ns, rfl, hs, q⟩
  · rw [Vals.ref1 r]
    obtain ⟨its, rv, hl, _⟩ := I.tuple hs
    have hi := rv.ints
    obtain ⟨xs, ex⟩ := hi.allInts.items
    have hl' : s.heap.IsTuple a (intItems xs) := ex ▸ hl
    refine PySem.W.ktm_sumG (I.ok.hd hc) hl' fun h' tk t' hk => ?_
    have en : ns = xs.toList.map (·.1) := by
      have := hi.numsOf
      rw [show its = (its.toArray).toList from rfl, ex, nums_intItems] at this
      exact this.symm
    have es : preSum (numAt xs) xs.size = ns.sum := by rw [preSum_eq, List.take_of_length_le (by simp), en]
    exact ⟨.int _, H, I.kept hk, ⟨_, by rw [es]⟩, q⟩
@[simp] def sumAD : ACall := fun ds M Q => match ds with
  | [d] => (match (seqA M d).bind intsOf with | some ns => Q (.int ns.sum) M | none => False)
  | _ => False
section
variable {b : BC} {X : Cx} {pos : Pos} {e : Expr} {t : TA} {at_ : ATA} {p : Pos}
theorem cs_sumA {K : PySem.W.Frag} : CallSim b K (rSumA K) sumAD := by
  intro Z H M xs ds Q Qa rh r q k
  cases r with
  | nil => exact q.elim
  | cons h r =>
    cases r with
    | cons _ _ => exact q.elim
    | nil =>
      rename_i v d
      replace q : (match (seqA M d).bind intsOf with | some ns => Qa (.int ns.sum) M | none => False) := q
      cases y : seqA M d with
      | none => rw [y] at q; exact q.elim
      | some es =>
        rw [y] at q
        replace q : (match intsOf es with | some ns => Qa (.int ns.sum) M | none => False) := q
        cases z : intsOf es with
        | none => rw [z] at q; exact q.elim
        | some ns =>
          replace q : Qa (.int ns.sum) M := by rw [z] at q; exact q
          have e := intsOf_some z
          subst e
          obtain ⟨a, vs, rfl, ha, hr, _⟩ := seqA_ok rh h y
          have ev := ints_rs hr
          subst ev
          exact ⟨a, ns, rfl, ha.elim (fun h => .inl (.of h)) (fun h => .inr (.inl h)), k _ _ H M rh (Ext.refl H M) (.int _) q⟩
theorem de_sumA (hc : X.calm = true) (hm : X.mg "sum" = none) (ha : DA b X [e] t at_ 1) (hg : Gl X "sum" := by rfl) (he : starEach (e :: []) X.env = (false, eval e X.env) :: starEach [] X.env := by rfl) (hpl : (backTo pos (starEach [] X.env)).any (·.1) = false := by rfl) :
    DE b X (.Call (.Name "sum" p) [e] [] pos) (tCB (rSumA X.K) t) (aCB sumAD at_) := de_cb (cr_sumA hc) cs_sumA hm ha (by decide +kernel) hg (by decide) (by decide) he hpl
end
/-! ### enumerate of a map -/
def enumL {α : Type} : Nat → List α → List (Nat × α)
  | _, [] => []
  | i, x :: r => (i, x) :: enumL (i + 1) r
theorem enum_map {α : Type} (pr : α → D) : ∀ (i : Nat) (l : List α), enumD i (l.map pr) = (enumL i l).map fun x => .tup [.int (x.1 : Nat), pr x.2]
  | _, [] => rfl
  | i, x :: r => by rw [List.map_cons, enumD, enum_map pr (i + 1) r]; rfl
theorem forL_enumM {α : Type} {chk : Store → Prop} {ag : ATG} {ab : ATS} {E : AEnds} (pr : α → D) (I : Nat → List α → SL → Store → Prop) (h0 : ∀ i sl M, I i [] sl M → chk M ∧ E.nx sl M)
    (hs : ∀ i x r sl M (k : SL → Store → Prop), I i (x :: r) sl M → (∀ sl' M', I (i + 1) r sl' M' → k sl' M') → chk M ∧ ag (.tup [.int (i : Nat), pr x]) sl M fun sl' M' => ab { E with nx := k, ct := k, bk := E.nx } sl' M') : ∀ (l : List α) (i : Nat) (sl : SL) (M : Store), I i l sl M → forL chk ag ab (enumD i (l.map pr)) E sl M
  | [], i, sl, M, j => h0 i sl M j
  | x :: r, i, sl, M, j => hs i x r sl M _ j fun sl' M' j' => forL_enumM pr I h0 hs r (i + 1) sl' M' j'
/-! ### lists of the store, looked through -/
theorem deref_cell {M : Store} {a : Addr} (h : puD (derefD M (.ref a)) = true) : ∃ ds, M a = some (.lst ds) ∧ derefD M (.ref a) = .lst ds := by
  cases z : cellL (M a) with
  | none =>
    have : derefD M (.ref a) = .ref a := by unfold derefD; simp only [z]
    rw [this] at h
    simp at h
  | some ds =>
    obtain ⟨ds', e⟩ := cellL_some (c := M a) (by rw [z]; rfl)
    have : ds' = ds := by rw [e] at z; exact Option.some.inj z
    subst this
    exact ⟨ds', e, derefD_ref e⟩
theorem deref_id {M : Store} {d : D} (h : puD d = true) : derefD M d = d := by cases d <;> first | rfl | (simp at h; done)
theorem deref_X {M : Store} {d : D} {es : List D} (hp : puD (derefD M d) = true) (h : seqs (derefD M d) = some es) : AL.seqX M d = some es ∧ AL.seqA M d = some es ∧ fitX d := by
  cases d with
  | ref a =>
    obtain ⟨ds, e, e2⟩ := deref_cell hp
    rw [e2] at h
    cases h
    exact ⟨seqX_ref e, seqA_ref e, trivial⟩
  | lst xs => cases h; exact ⟨rfl, rfl, trivial⟩
  | tup xs => cases h; exact ⟨rfl, rfl, trivial⟩
  | _ => cases h
theorem isDs_of' {M : Store} {d e : D} (h : ∀ t, isD M d t = some (isT e t)) : ∀ {ts : List Ty}, isDs M d ts = some (ts.any fun t => isT e t)
  | [] => rfl
  | t :: r => by
    unfold isDs
    rw [h t, isDs_of' h]
    cases z : isT e t <;> simp [z]
theorem isDs_deref {M : Store} {d : D} {ts : List Ty} (hp : puD (derefD M d) = true) : isDs M d ts = some (ts.any fun t => isT (derefD M d) t) := by
  cases d with
  | ref a =>
    obtain ⟨ds, e, e2⟩ := deref_cell hp
    rw [e2]
    refine isDs_of' fun t => ?_
    show cellTy (M a) t = _
    rw [e]
    cases t <;> rfl
  | _ => exact isDs_pu hp
theorem lcL_inv {α : Type} {chk : Store → Prop} {ag : ATG} {tt : ATT} {te : ATE} {sl : SL} {Q : List D → Store → Prop} (pr : α → D) (I : List α → List D → Store → Prop) (h0 : ∀ acc M, I [] acc M → chk M ∧ Q acc M)
    (hs : ∀ x r acc M (k : List D → Store → Prop), I (x :: r) acc M → (∀ acc' M', I r acc' M' → k acc' M') → chk M ∧ ag (pr x) sl M fun sl1 M1 => tt sl1 M1 fun c M2 => if c = true then te sl1 M2 fun y M3 => k (acc ++ [y]) M3 else k acc M2) : ∀ (xs : List α) (acc : List D) (M : Store), I xs acc M → lcL chk ag tt te sl (xs.map pr) acc M Q
  | [], acc, M, i => h0 acc M i
  | x :: r, acc, M, i => hs x r acc M _ i fun acc' M' i' => lcL_inv pr I h0 hs r acc' M' i'
end AL
set_option Elab.async false
set_option linter.all false
set_option maxRecDepth 100000
set_option maxHeartbeats 4000000
set_option autoImplicit false
/-! AL16: dicts. -/
namespace AL
open PySem PySem.Spec PyProof.Rows L2 LamX
/-- the key that a thing is -/
def keyD : D → Option Key
  | .int i => some (.inl i)
  | .str x => some (.inr x)
  | _ => none
@[simp] theorem keyD_int {i : Int} : keyD (.int i) = some (.inl i) := rfl
@[simp] theorem keyD_str {x : Str} : keyD (.str x) = some (.inr x) := rfl
theorem keyD_R {F : Hp} {v : V} {d : D} {k : Key} (r : R F v d) (h : keyD d = some k) : v = kV k := by
  cases r with
  | int i => cases h; rfl
  | str x => cases h; rfl
  | _ => cases h
def valK (ds : List (Key × D)) (k : Key) : Option D := (ds.find? fun kv => decide (kv.1 = k)).map (·.2)
def putD (ds : List (Key × D)) (k : Key) (d : D) : List (Key × D) :=
  if (ds.any fun kv => decide (kv.1 = k)) = true then ds.map (fun kv => if kv.1 = k then (kv.1, d) else kv) else ds ++ [(k, d)]
theorem Rks.val {F : Hp} {k : Key} : ∀ {vs : List (Key × V)} {ds : List (Key × D)}, Rks F vs ds → (valV vs k = none ∧ valK ds k = none) ∨ ∃ v d, valV vs k = some v ∧ valK ds k = some d ∧ R F v d
  | _, _, .nil => .inl ⟨rfl, rfl⟩
  | _, _, .cons (k := k') h r => by
    by_cases c : k' = k
    · exact .inr ⟨_, _, by simp [valV, c], by simp [valK, c], h⟩
    · rcases Rks.val (k := k) r with ⟨h1, h2⟩ | ⟨v, d, h1, h2, h3⟩
      · exact .inl ⟨by rw [valV_neg (by exact c)]; exact h1, by simp only [valK, List.find?_cons, decide_eq_false c]; exact h2⟩
      · exact .inr ⟨v, d, by rw [valV_neg (by exact c)]; exact h1, by simp only [valK, List.find?_cons, decide_eq_false c]; exact h2, h3⟩
theorem Rks.any {F : Hp} {k : Key} : ∀ {vs : List (Key × V)} {ds : List (Key × D)}, Rks F vs ds → (vs.any fun kv => decide (kv.1 = k)) = ds.any fun kv => decide (kv.1 = k)
  | _, _, .nil => rfl
  | _, _, .cons (k := k') h r => by rw [List.any_cons, List.any_cons, Rks.any r]
theorem Rks.repl {F : Hp} {k : Key} {v : V} {d : D} (hv : R F v d) : ∀ {vs : List (Key × V)} {ds : List (Key × D)}, Rks F vs ds → Rks F (vs.map fun kv => if kv.1 = k then (kv.1, v) else kv) (ds.map fun kv => if kv.1 = k then (kv.1, d) else kv)
  | _, _, .nil => .nil
  | _, _, .cons (k := k') h r => by
    rw [List.map_cons, List.map_cons]
    by_cases c : k' = k
    · rw [if_pos c, if_pos c]; exact .cons hv (Rks.repl hv r)
    · rw [if_neg c, if_neg c]; exact .cons h (Rks.repl hv r)
theorem Rks.snoc {F : Hp} {k : Key} {v : V} {d : D} (hv : R F v d) : ∀ {vs : List (Key × V)} {ds : List (Key × D)}, Rks F vs ds → Rks F (vs ++ [(k, v)]) (ds ++ [(k, d)])
  | _, _, .nil => .cons hv .nil
  | _, _, .cons h r => .cons h (Rks.snoc hv r)
theorem Rks.put {F : Hp} {k : Key} {v : V} {d : D} (hv : R F v d) {vs : List (Key × V)} {ds : List (Key × D)} (r : Rks F vs ds) : Rks F (putK vs k v) (putD ds k d) := by
  unfold putK putD
  rw [r.any]
  split
  · exact r.repl hv
  · exact r.snoc hv
theorem putD_len (ds : List (Key × D)) (k : Key) (d : D) : (putD ds k d).length ≤ ds.length + 1 := by
  unfold putD
  split
  · rw [List.length_map]; omega
  · simp
theorem valK_any (k : Key) : ∀ ds : List (Key × D), (valK ds k).isSome = ds.any fun kv => decide (kv.1 = k)
  | [] => rfl
  | x :: r => by
    by_cases c : x.1 = k
    · simp [valK, c]
    · have := valK_any k r
      simp only [valK, List.find?_cons, decide_eq_false c, List.any_cons, Bool.false_or] at this ⊢
      exact this
theorem any_repl (k j : Key) (d : D) : ∀ ds : List (Key × D), ((ds.map fun kv => if kv.1 = k then (kv.1, d) else kv).any fun kv => decide (kv.1 = j)) = ds.any fun kv => decide (kv.1 = j)
  | [] => rfl
  | x :: r => by
    rw [List.map_cons, List.any_cons, List.any_cons, any_repl k j d r]
    by_cases c : x.1 = k
    · rw [if_pos c]
    · rw [if_neg c]
theorem isSome_put (ds : List (Key × D)) (k j : Key) (d : D) : (valK (putD ds k d) j).isSome = (decide (j = k) || (valK ds j).isSome) := by
  rw [valK_any, valK_any]
  unfold putD
  split
  · rename_i h
    rw [any_repl]
    by_cases c : j = k
    · subst c; rw [h]; simp
    · simp [c]
  · rw [List.any_append]
    by_cases c : j = k
    · subst c; simp
    · have c' : ¬ k = j := fun z => c z.symm
      simp [c, c']
/-- a dict: of the store, or by value -/
def dicA (M : Store) : D → Option (List (Key × D))
  | .dic ds => some ds
  | .ref a => (match M a with | some (.dic ds) => some ds | _ => none)
  | _ => none
theorem dicA_ref {M : Store} {a : Addr} {ds : List (Key × D)} (h : M a = some (.dic ds)) : dicA M (.ref a) = some ds := by simp only [dicA, h]
theorem dic_at {K : PySem.W.Frag} {T : List (Addr × Str)} {Z : Hid} {H : Hp} {M : Store} {v : V} {d : D} {ds : List (Key × D)} (rh : RH K T Z H M) (r : R (mkH Z H M) v d) (h : dicA M d = some ds) : ∃ a vs, v = .ref a ∧ Rd H a (.dK vs) ∧ Rks (mkH Z H M) vs ds := by
  cases r with
  | dic hh n r =>
    cases h
    refine ⟨_, _, rfl, ?_, r⟩
    rcases hh with hh | ⟨o, hh⟩
    · exact .inl (mk_iff.mp hh).2
    · exact .inr ⟨o, (mk_iff.mp hh).2⟩
  | ref a =>
    have h : (match M a with | some (.dic ds) => some ds | _ => none) = some ds := h
    cases z : M a with
    | none => rw [z] at h; cases h
    | some c =>
      rw [z] at h
      cases c with
      | dic ds' => cases h; obtain ⟨_, vs, h1, h2⟩ := rh.cells a _ z; exact ⟨a, vs, rfl, .inl h1, h2⟩
      | _ => cases h
  | _ => cases h
section
variable {b : BC} {X : Cx} {pos : Pos} {e1 e2 e3 : Expr} {ta tb tc : TE} {aa ab ac : ATE} {k : Nat}
/-- {} -/
@[simp] def aDNew : ATE := fun _ M Q => ∀ a, M a = none → Q (.ref a) (updS M a (.dic []))
theorem de_dnew : DE b X (.Dict [] [] pos) tDNewK aDNew := ⟨pe_dnewK, fun Z σ H M sl Q Qa rp e q k => fun p np => by
  obtain ⟨r2, e2⟩ := rp.rh.cell np (c := .dic []) (o := .dK []) ⟨Nat.zero_le _, [], upd_same, .nil⟩
  exact k _ _ _ _ r2 e2 (.ref p) (q p (rp.rh.free np))⟩
/-- k in d -/
@[simp] def aDIn (neg : Bool) (ai ao : ATE) : ATE := fun sl M Q => ai sl M fun i M1 => ao sl M1 fun o M2 => match keyD i, dicA M2 o with
  | some k, some ds => Q (.bl (neg != (valK ds k).isSome)) M2
  | _, _ => False
theorem sim_din {K : PySem.W.Frag} (ha : Sim b K ta aa) (hb : Sim b K tb ab) : Sim b K (tDIn ta tb) (aDIn false aa ab) := fun Z σ H M sl Q Qa rp e q kk =>
  ha Z σ H M sl _ _ rp e q fun i di H1 M1 r1 e1 h1 q1 => hb Z σ H1 M1 sl _ _ (rp.to r1 e1) (e.trans e1) q1 fun o do_ H2 M2 r2 e2 h2 q2 => by
    cases hk : keyD di with
    | none => rw [hk] at q2; exact q2.elim
    | some k =>
      cases hd : dicA M2 do_ with
      | none => rw [hk, hd] at q2; exact q2.elim
      | some ds =>
        rw [hk, hd] at q2
        obtain ⟨a, vs, rfl, h3, h4⟩ := dic_at r2 h2 hd
        have ek := keyD_R h1 hk
        refine ⟨a, valV vs k, rfl, .inl ⟨vs, k, h3, ek, rfl⟩, ?_⟩
        have ev : (valV vs k).isSome = (valK ds k).isSome := by
          rcases h4.val (k := k) with ⟨x, y⟩ | ⟨v, d, x, y, _⟩
          · rw [x, y]; rfl
          · rw [x, y]; rfl
        rw [ev]
        have q2 : Qa (.bl (false != (valK ds k).isSome)) M2 := q2
        rw [Bool.false_bne] at q2
        exact kk _ _ H2 M2 r2 (e1.trans e2) (.bl _) q2
theorem sim_dnotin {K : PySem.W.Frag} (ha : Sim b K ta aa) (hb : Sim b K tb ab) : Sim b K (tDNotIn ta tb) (aDIn true aa ab) := fun Z σ H M sl Q Qa rp e q kk =>
  ha Z σ H M sl _ _ rp e q fun i di H1 M1 r1 e1 h1 q1 => hb Z σ H1 M1 sl _ _ (rp.to r1 e1) (e.trans e1) q1 fun o do_ H2 M2 r2 e2 h2 q2 => by
    cases hk : keyD di with
    | none => rw [hk] at q2; exact q2.elim
    | some k =>
      cases hd : dicA M2 do_ with
      | none => rw [hk, hd] at q2; exact q2.elim
      | some ds =>
        rw [hk, hd] at q2
        obtain ⟨a, vs, rfl, h3, h4⟩ := dic_at r2 h2 hd
        have ek := keyD_R h1 hk
        refine ⟨a, valV vs k, rfl, .inl ⟨vs, k, h3, ek, rfl⟩, ?_⟩
        have ev : (valV vs k).isSome = (valK ds k).isSome := by
          rcases h4.val (k := k) with ⟨x, y⟩ | ⟨v, d, x, y, _⟩
          · rw [x, y]; rfl
          · rw [x, y]; rfl
        rw [ev]
        have q2 : Qa (.bl (true != (valK ds k).isSome)) M2 := q2
        rw [Bool.true_bne] at q2
        exact kk _ _ H2 M2 r2 (e1.trans e2) (.bl _) q2
theorem de_din (hr : Room k X.A) (ha : DE b X e1 ta aa) (hb : DE b X e2 tb ab) (hm : behindInMarks .In e2 = false := by rfl) : DE b X (.Compare e1 [.In] [e2] pos) (tDIn ta tb) (aDIn false aa ab) := ⟨pe_cmp (pc_din (by have := hr.un; omega) ha.pe hb.pe) hm, sim_din ha.sim hb.sim⟩
theorem de_dnotin (hr : Room k X.A) (ha : DE b X e1 ta aa) (hb : DE b X e2 tb ab) (hm : behindInMarks .NotIn e2 = false := by rfl) : DE b X (.Compare e1 [.NotIn] [e2] pos) (tDNotIn ta tb) (aDIn true aa ab) := ⟨pe_cmp (pc_dnotin (by have := hr.un; omega) ha.pe hb.pe) hm, sim_dnotin ha.sim hb.sim⟩
theorem dt_din (hr : Room k X.A) (ha : DE b X e1 ta aa) (hb : DE b X e2 tb ab) (hm : behindInMarks .In e2 = false := by rfl) : DT b X (.Compare e1 [.In] [e2] pos) (tB (tDIn ta tb)) (aBool (aDIn false aa ab)) := ⟨pt_cmp (pc_din (by have := hr.un; omega) ha.pe hb.pe) hm, sim_bool (sim_din ha.sim hb.sim)⟩
theorem dt_dnotin (hr : Room k X.A) (ha : DE b X e1 ta aa) (hb : DE b X e2 tb ab) (hm : behindInMarks .NotIn e2 = false := by rfl) : DT b X (.Compare e1 [.NotIn] [e2] pos) (tB (tDNotIn ta tb)) (aBool (aDIn true aa ab)) := ⟨pt_cmp (pc_dnotin (by have := hr.un; omega) ha.pe hb.pe) hm, sim_bool (sim_dnotin ha.sim hb.sim)⟩
/-- d[k] -/
@[simp] def aDGet (ao ai : ATE) : ATE := fun sl M Q => ao sl M fun o M1 => ai sl M1 fun i M2 => match keyD i, dicA M2 o with
  | some k, some ds => (match valK ds k with | some d => Q d M2 | none => False)
  | _, _ => False
theorem de_dget (hr : Room k X.A) (ha : DE b X e1 ta aa) (hb : DE b X e2 tb ab) (hs : NoSl e2 := by intro _ _; rfl) : DE b X (.Subscript e1 e2 pos) (tDGet ta tb) (aDGet aa ab) := ⟨pe_dget (by have := hr.un; omega) ha.pe hb.pe hs, fun Z σ H M sl Q Qa rp e q kk =>
  ha.sim Z σ H M sl _ _ rp e q fun o do_ H1 M1 r1 e1 h1 q1 => hb.sim Z σ H1 M1 sl _ _ (rp.to r1 e1) (e.trans e1) q1 fun i di H2 M2 r2 e2 h2 q2 => by
    cases hk : keyD di with
    | none => rw [hk] at q2; exact q2.elim
    | some k =>
      cases hd : dicA M2 do_ with
      | none => rw [hk, hd] at q2; exact q2.elim
      | some ds =>
        rw [hk, hd] at q2
        have q2 : (match valK ds k with | some d => Qa d M2 | none => False) := q2
        obtain ⟨a, vs, rfl, h3, h4⟩ := dic_at r2 (h1.mono e2.sb) hd
        have ek := keyD_R h2 hk
        rcases h4.val (k := k) with ⟨x, y⟩ | ⟨v, d, x, y, z⟩
        · rw [y] at q2; exact q2.elim
        · rw [y] at q2
          exact ⟨a, v, rfl, .inl ⟨vs, k, h3, ek, x.symm⟩, kk _ _ H2 M2 r2 (e1.trans e2) z q2⟩⟩
/-- d[k] = e -/
@[simp] def aDPut (ao ai ae : ATE) : ATS := fun E sl M => ae sl M fun d M1 => ao sl M1 fun o M2 => ai sl M2 fun i M3 => match o, keyD i with
  | .ref a, some k => (match M3 a with | some (.dic ds) => ds.length < sizeLine ∧ E.nx sl (updS M3 a (.dic (putD ds k d))) | _ => False)
  | _, _ => False
theorem ds_dput {pos' : Pos} (hr : Room k X.A) (ho : DE b X e1 ta aa) (hi : DE b X e2 tb ab) (hv : DE b X e3 tc ac) (hs : swapsWith e3 (some (.Subscript e1 e2 pos')) pos.line X.env = pure false := by rfl) :
    DS b X (.Assign [.Subscript e1 e2 pos'] e3 pos) (sDPut ta tb tc) (aDPut aa ab ac) := ⟨ps_dput (by have := hr.un; omega) ho.pe hi.pe hv.pe hs, fun Z σ H M sl E Ea rp e q kk =>
  hv.sim Z σ H M sl _ _ rp e q fun v d H1 M1 r1 e1 h1 q1 => ho.sim Z σ H1 M1 sl _ _ (rp.to r1 e1) (e.trans e1) q1 fun o do_ H2 M2 r2 e2 h2 q2 => hi.sim Z σ H2 M2 sl _ _ (rp.to r2 (e1.trans e2)) (e.trans (e1.trans e2)) q2 fun i di H3 M3 r3 e3 h3 q3 => by
    have h2' := h2.mono e3.sb
    cases h2' with
    | ref a =>
      cases hk : keyD di with
      | none => rw [hk] at q3; exact q3.elim
      | some k =>
        rw [hk] at q3
        have q3 : (match M3 a with | some (.dic ds) => ds.length < sizeLine ∧ Ea.nx sl (updS M3 a (.dic (putD ds k d))) | _ => False) := q3
        cases z : M3 a with
        | none => rw [z] at q3; exact q3.elim
        | some c =>
          rw [z] at q3
          cases c with
          | dic ds =>
            obtain ⟨ll, q3⟩ := q3
            obtain ⟨nl, vs, hv', hr'⟩ := r3.cells a _ z
            have hd := h1.mono (e2.trans e3).sb
            obtain ⟨r4, e4⟩ := r3.put (o := .dK (putK vs k v)) (c' := .dic (putD ds k d)) z ⟨Nat.le_trans (putD_len ds k d) ll, _, upd_same, hr'.put hd⟩
            refine ⟨a, _, rfl, .inl ⟨vs, k, hv', keyD_R h3 hk, by rw [Rks.length hr']; exact ll, rfl⟩, ?_⟩
            exact kk.nx σ _ _ sl (rp.to r4 (e1.trans (e2.trans (e3.trans e4)))) (e1.trans (e2.trans (e3.trans e4))) q3
          | _ => exact q3.elim
    | _ => exact q3.elim⟩
end
end AL
set_option Elab.async false
set_option linter.all false
set_option maxRecDepth 100000
set_option maxHeartbeats 4000000
set_option autoImplicit false
/-! AL17: in, not in; least and greatest of ints; weaker promises. -/
namespace AL
open PySem PySem.Spec PyProof.Rows L2 LamX PySem.W
/-! ### flat things -/
def flatD : D → Bool
  | .non => true
  | .bl _ => true
  | .int _ => true
  | .str _ => true
  | _ => false
@[simp] theorem flatD_non : flatD .non = true := rfl
@[simp] theorem flatD_bl {x : Bool} : flatD (.bl x) = true := rfl
@[simp] theorem flatD_int {x : Int} : flatD (.int x) = true := rfl
@[simp] theorem flatD_str {x : Str} : flatD (.str x) = true := rfl
theorem flat_R {F : Hp} {v : V} {d : D} (r : R F v d) : flatV v = flatD d := by cases r <;> rfl
theorem flat_eq {F : Hp} {v u : V} {d e : D} (r : R F v d) (s : R F u e) (h : flatD d = true) (h' : flatD e = true) : eqV v u = eqD d e := by
  cases r <;> first | (cases h; done) | skip
  all_goals (cases s <;> first | (cases h'; done) | (simp [eqV, eqD]; done) | (simp [eqV, eqD]; rfl))
theorem flat_all {F : Hp} : ∀ {vs : List V} {ds : List D}, Rs F vs ds → vs.all flatV = ds.all flatD
  | _, _, .nil => rfl
  | _, _, .cons h r => by rw [List.all_cons, List.all_cons, flat_R h, flat_all r]
/-- one of them -/
def memD (d : D) (es : List D) : Bool := es.any fun z => eqD z d
@[simp] theorem memD_nil {d : D} : memD d [] = false := rfl
@[simp] theorem memD_cons {d e : D} {r : List D} : memD d (e :: r) = (eqD e d || memD d r) := rfl
theorem flat_in {F : Hp} {x : V} {d : D} (hx : R F x d) (fx : flatD d = true) : ∀ {vs : List V} {ds : List D}, Rs F vs ds → ds.all flatD = true → inV x vs = memD d ds
  | _, _, .nil, _ => rfl
  | _, _, .cons h r, fs => by
    rw [List.all_cons, Bool.and_eq_true] at fs
    have := flat_in hx fx r fs.2
    unfold inV at this ⊢
    rw [List.any_cons, memD_cons, this, flat_eq h hx fs.1 fx]
/-- x in xs, of flat things -/
def inA (neg : Bool) : R2A := fun d e M Q => match seqA M e with | some es => flatD d = true ∧ es.all flatD = true ∧ Q (.bl (neg != memD d es)) M | none => False
@[simp] theorem inA_lst {neg : Bool} {d : D} {es : List D} {M : Store} {Q : DK} : inA neg d (.lst es) M Q = (flatD d = true ∧ es.all flatD = true ∧ Q (.bl (neg != memD d es)) M) := rfl
@[simp] theorem inA_tup {neg : Bool} {d : D} {es : List D} {M : Store} {Q : DK} : inA neg d (.tup es) M Q = (flatD d = true ∧ es.all flatD = true ∧ Q (.bl (neg != memD d es)) M) := rfl
theorem inA_ref {neg : Bool} {d : D} {a : Addr} {es : List D} {M : Store} {Q : DK} (h : M a = some (.lst es)) : inA neg d (.ref a) M Q = (flatD d = true ∧ es.all flatD = true ∧ Q (.bl (neg != memD d es)) M) := by unfold inA; rw [seqA_ref h]
@[simp] theorem flat_ints (l : List Int) : (l.map D.int).all flatD = true := by simp [List.all_eq_true]
@[simp] theorem any_ints (l : List Int) (i : Int) : memD (.int i) (l.map D.int) = decide (i ∈ l) := by
  induction l with
  | nil => simp
  | cons x l ih =>
    rw [List.map_cons, memD_cons, ih, eqD_int]
    by_cases c : x = i
    · subst c; simp
    · have c' : ¬ i = x := fun z => c z.symm
      simp [c, c']
theorem os_in {b : BC} {K : PySem.W.Frag} (neg : Bool) : OpSim b K (rIn K neg) (inA neg) := by
  intro Z H M x y d e Q Qa rh hx hy q k
  unfold inA at q
  cases z : seqA M e with
  | none => rw [z] at q; exact q.elim
  | some es =>
    rw [z] at q
    obtain ⟨fd, fs, q⟩ := q
    obtain ⟨a, vs, rfl, h1, h2, _⟩ := seqA_ok rh hy z
    refine ⟨a, vs, rfl, h1.elim (fun h => .inl (.of h)) (fun h => .inr (.inl h)), (flat_R hx).trans fd, (flat_all h2).trans fs, ?_⟩
    rw [flat_in hx fd h2 fs]
    refine k _ _ H M rh (Ext.refl H M) (.bl _) ?_
    cases neg
    · simpa using q
    · simpa using q
section
variable {b : BC} {X : Cx} {pos : Pos} {e1 e2 : Expr} {ta tb : TE} {aa ab : ATE} {k : Nat}
theorem de_in (ha : DE b X e1 ta aa) (hb : DE b X e2 tb ab) (hm : behindInMarks .In e2 = false := by with_unfolding_all rfl) : DE b X (.Compare e1 [.In] [e2] pos) (tOp (rIn X.K false) ta tb) (aOp (inA false) aa ab) := ⟨pe_cmpR op_in_seq ha.pe hb.pe hm, sim_op (os_in false) ha.sim hb.sim⟩
theorem de_nin (ha : DE b X e1 ta aa) (hb : DE b X e2 tb ab) (hm : behindInMarks .NotIn e2 = false := by with_unfolding_all rfl) : DE b X (.Compare e1 [.NotIn] [e2] pos) (tOp (rIn X.K true) ta tb) (aOp (inA true) aa ab) := ⟨pe_cmpR op_notIn_seq ha.pe hb.pe hm, sim_op (os_in true) ha.sim hb.sim⟩
theorem dt_in (ha : DE b X e1 ta aa) (hb : DE b X e2 tb ab) (hm : behindInMarks .In e2 = false := by with_unfolding_all rfl) : DT b X (.Compare e1 [.In] [e2] pos) (tB (tOp (rIn X.K false) ta tb)) (aBool (aOp (inA false) aa ab)) := ⟨pt_cmpR op_in_seq ha.pe hb.pe hm, sim_bool (de_in (pos := pos) ha hb hm).sim⟩
theorem dt_nin (ha : DE b X e1 ta aa) (hb : DE b X e2 tb ab) (hm : behindInMarks .NotIn e2 = false := by with_unfolding_all rfl) : DT b X (.Compare e1 [.NotIn] [e2] pos) (tB (tOp (rIn X.K true) ta tb)) (aBool (aOp (inA true) aa ab)) := ⟨pt_cmpR op_notIn_seq ha.pe hb.pe hm, sim_bool (de_nin (pos := pos) ha hb hm).sim⟩
end
/-! ### data of any depth in a list -/
def inDA (neg : Bool) : R2A := fun d e M Q => match seqL M e with | some es => okD 50 d = true ∧ okDs 50 es = true ∧ Q (.bl (neg != memD d es)) M | none => False
@[simp] theorem inDA_lst {neg : Bool} {d : D} {es : List D} {M : Store} {Q : DK} : inDA neg d (.lst es) M Q = (okD 50 d = true ∧ okDs 50 es = true ∧ Q (.bl (neg != memD d es)) M) := rfl
theorem inDA_ref {neg : Bool} {d : D} {a : Addr} {es : List D} {M : Store} {Q : DK} (h : M a = some (.lst es)) : inDA neg d (.ref a) M Q = (okD 50 d = true ∧ okDs 50 es = true ∧ Q (.bl (neg != memD d es)) M) := by unfold inDA; rw [seqL_ref h]
theorem any_py {d : D} (hd : okD 50 d = true) : ∀ {es : List D}, okDs 50 es = true → (toPys es).any (fun z => PyData.eqv z (toPy d)) = memD d es
  | [], _ => by simp [toPys]
  | x :: r, h => by
    rw [okDs_cons, Bool.and_eq_true] at h
    rw [toPys, List.any_cons, memD_cons, any_py hd h.2, eqD_py 50 50 x d h.1 hd]
theorem os_inD {b : BC} {K : PySem.W.Frag} : OpSim b K (rInD K) (inDA false) := by
  intro Z H M x y d e Q Qa rh hx hy q k
  unfold inDA at q
  cases z : seqL M e with
  | none => rw [z] at q; exact q.elim
  | some es =>
    rw [z] at q
    obtain ⟨fd, fs, q⟩ := q
    obtain ⟨a, vs, rfl, h1, h2, _⟩ := seqL_ok rh hy z
    have ok : okD 51 (.lst es) = true := by rw [okD_lst]; exact fs
    refine ⟨toPy d, toPys es, hx.dp 50 fd, .lst (.of h1) (h2.dp 50 fs), okD_shaped (by decide) fd, by have := okD_shaped (n := 51) (by decide) ok; rwa [toPy] at this, ?_⟩
    rw [any_py fd fs]
    exact k _ _ H M rh (Ext.refl H M) (.bl _) (by simpa using q)
theorem os_ninD {b : BC} {K : PySem.W.Frag} : OpSim b K (rNotInD K) (inDA true) := by
  intro Z H M x y d e Q Qa rh hx hy q k
  unfold inDA at q
  cases z : seqL M e with
  | none => rw [z] at q; exact q.elim
  | some es =>
    rw [z] at q
    obtain ⟨fd, fs, q⟩ := q
    obtain ⟨a, vs, rfl, h1, h2, _⟩ := seqL_ok rh hy z
    have ok : okD 51 (.lst es) = true := by rw [okD_lst]; exact fs
    refine ⟨toPy d, toPys es, hx.dp 50 fd, .lst (.of h1) (h2.dp 50 fs), okD_shaped (by decide) fd, by have := okD_shaped (n := 51) (by decide) ok; rwa [toPy] at this, ?_⟩
    rw [any_py fd fs]
    exact k _ _ H M rh (Ext.refl H M) (.bl _) (by simpa using q)
section
variable {b : BC} {X : Cx} {pos : Pos} {e1 e2 : Expr} {ta tb : TE} {aa ab : ATE} {k : Nat}
theorem room65 {A : Around} (r : Room k A) : A.units + 65 < cLine := by have := room100 r; omega
theorem de_inD (hr : Room k X.A) (ha : DE b X e1 ta aa) (hb : DE b X e2 tb ab) (hm : behindInMarks .In e2 = false := by with_unfolding_all rfl) : DE b X (.Compare e1 [.In] [e2] pos) (tOp (rInD X.K) ta tb) (aOp (inDA false) aa ab) := ⟨pe_cmpR (op_inD (room65 hr)) ha.pe hb.pe hm, sim_op os_inD ha.sim hb.sim⟩
theorem de_ninD (hr : Room k X.A) (ha : DE b X e1 ta aa) (hb : DE b X e2 tb ab) (hm : behindInMarks .NotIn e2 = false := by with_unfolding_all rfl) : DE b X (.Compare e1 [.NotIn] [e2] pos) (tOp (rNotInD X.K) ta tb) (aOp (inDA true) aa ab) := ⟨pe_cmpR (op_notInD (room65 hr)) ha.pe hb.pe hm, sim_op os_ninD ha.sim hb.sim⟩
theorem dt_inD (hr : Room k X.A) (ha : DE b X e1 ta aa) (hb : DE b X e2 tb ab) (hm : behindInMarks .In e2 = false := by with_unfolding_all rfl) : DT b X (.Compare e1 [.In] [e2] pos) (tB (tOp (rInD X.K) ta tb)) (aBool (aOp (inDA false) aa ab)) := ⟨pt_cmpR (op_inD (room65 hr)) ha.pe hb.pe hm, sim_bool (de_inD (pos := pos) hr ha hb hm).sim⟩
theorem dt_ninD (hr : Room k X.A) (ha : DE b X e1 ta aa) (hb : DE b X e2 tb ab) (hm : behindInMarks .NotIn e2 = false := by with_unfolding_all rfl) : DT b X (.Compare e1 [.NotIn] [e2] pos) (tB (tOp (rNotInD X.K) ta tb)) (aBool (aOp (inDA true) aa ab)) := ⟨pt_cmpR (op_notInD (room65 hr)) ha.pe hb.pe hm, sim_bool (de_ninD (pos := pos) hr ha hb hm).sim⟩
end
/-! ### least, greatest of ints -/
theorem int_alike (l : List Int) : AlikeAll ((l.map D.int).map toPy) := by
  refine ⟨fun x hx y hy => ?_, fun x hx z => ?_⟩
  · obtain ⟨d, hd, rfl⟩ := List.mem_map.mp hx
    obtain ⟨i, _, rfl⟩ := List.mem_map.mp hd
    obtain ⟨e, he, rfl⟩ := List.mem_map.mp hy
    obtain ⟨j, _, rfl⟩ := List.mem_map.mp he
    simp [toPy, alike]
  · obtain ⟨d, hd, rfl⟩ := List.mem_map.mp hx
    obtain ⟨i, _, rfl⟩ := List.mem_map.mp hd
    rw [toPy] at z; cases z
theorem minD_ints : ∀ (l : List Int) (x : Int), ∃ m, minD (toPy (.int x)) ((l.map D.int).map toPy) = toPy (.int m) ∧ m ∈ x :: l ∧ ∀ y ∈ x :: l, m ≤ y
  | [], x => ⟨x, rfl, List.mem_singleton.mpr rfl, fun y m => by obtain rfl := List.mem_singleton.mp m; exact Int.le_refl _⟩
  | y :: l, x => by
    have e : minD (toPy (.int x)) (((y :: l).map D.int).map toPy) = minD (toPy (.int (if y < x then y else x))) ((l.map D.int).map toPy) := by
      unfold minD
      rw [List.map_cons, List.map_cons, List.foldl_cons]
      congr 1
      rw [toPy, toPy, dataLt_int]
      by_cases c : y < x
      · simp [c, toPy]
      · simp [c, toPy]
    obtain ⟨m, h1, h2, h3⟩ := minD_ints l (if y < x then y else x)
    refine ⟨m, e.trans h1, ?_, fun z hz => ?_⟩
    · rcases List.mem_cons.mp h2 with e2 | h2
      · split at e2 <;> simp [e2]
      · simp [h2]
    · have h0 := h3 _ List.mem_cons_self
      rcases List.mem_cons.mp hz with rfl | hz
      · split at h0 <;> omega
      · rcases List.mem_cons.mp hz with rfl | hz
        · split at h0 <;> omega
        · exact h3 z (List.mem_cons_of_mem _ hz)
theorem maxD_ints : ∀ (l : List Int) (x : Int), ∃ m, maxD (toPy (.int x)) ((l.map D.int).map toPy) = toPy (.int m) ∧ m ∈ x :: l ∧ ∀ y ∈ x :: l, y ≤ m
  | [], x => ⟨x, rfl, List.mem_singleton.mpr rfl, fun y m => by obtain rfl := List.mem_singleton.mp m; exact Int.le_refl _⟩
  | y :: l, x => by
    have e : maxD (toPy (.int x)) (((y :: l).map D.int).map toPy) = maxD (toPy (.int (if x < y then y else x))) ((l.map D.int).map toPy) := by
      unfold maxD
      rw [List.map_cons, List.map_cons, List.foldl_cons]
      congr 1
      rw [toPy, toPy, dataLt_int]
      by_cases c : x < y
      · simp [c, toPy]
      · simp [c, toPy]
    obtain ⟨m, h1, h2, h3⟩ := maxD_ints l (if x < y then y else x)
    refine ⟨m, e.trans h1, ?_, fun z hz => ?_⟩
    · rcases List.mem_cons.mp h2 with e2 | h2
      · split at e2 <;> simp [e2]
      · simp [h2]
    · have h0 := h3 _ List.mem_cons_self
      rcases List.mem_cons.mp hz with rfl | hz
      · split at h0 <;> omega
      · rcases List.mem_cons.mp hz with rfl | hz
        · split at h0 <;> omega
        · exact h3 z (List.mem_cons_of_mem _ hz)
theorem toPy_int {d : D} {i : Int} (h : toPy d = .int i) : d = .int i := by
  cases d <;> simp [toPy] at h
  rw [h]
theorem min_ints {M : Store} {d : D} {ns : List Int} {Q : DK} (h : seqA M d = some (ns.map D.int)) (h0 : ns ≠ []) (q : ∀ m ∈ ns, (∀ x ∈ ns, m ≤ x) → Q (.int m) M) : bestA minD [d] M Q := by
  cases ns with
  | nil => exact absurd rfl h0
  | cons x l =>
    unfold bestA
    simp only [h, List.map_cons]
    obtain ⟨m, h1, h2, h3⟩ := minD_ints l x
    refine ⟨by have := okDs_ints (n := 59) (x :: l); simpa using this, by have := int_alike (x :: l); simpa using this, fun y hy e => ?_⟩
    rw [h1] at e
    rw [toPy] at e
    rw [toPy_int e]
    exact q m h2 h3
theorem max_ints {M : Store} {d : D} {ns : List Int} {Q : DK} (h : seqA M d = some (ns.map D.int)) (h0 : ns ≠ []) (q : ∀ m ∈ ns, (∀ x ∈ ns, x ≤ m) → Q (.int m) M) : bestA maxD [d] M Q := by
  cases ns with
  | nil => exact absurd rfl h0
  | cons x l =>
    unfold bestA
    simp only [h, List.map_cons]
    obtain ⟨m, h1, h2, h3⟩ := maxD_ints l x
    refine ⟨by have := okDs_ints (n := 59) (x :: l); simpa using this, by have := int_alike (x :: l); simpa using this, fun y hy e => ?_⟩
    rw [h1] at e
    rw [toPy] at e
    rw [toPy_int e]
    exact q m h2 h3
/-! ### weaker promises -/
theorem SpOf.imp {K : PySem.W.Frag} {T : List (Addr × Str)} {fs fs' : ASp} (h : ∀ ds M Q E, fs' ds M Q E → fs ds M Q E) {vs : List V} {H : Hp} {Q : VK} {E : XK} (s : SpOf K T fs' vs H Q E) : SpOf K T fs vs H Q E :=
  let ⟨Z, M, ds, Qa, Ea, h1, h2, h3, h4⟩ := s
  ⟨Z, M, ds, Qa, Ea, h1, h2, h _ _ _ _ h3, h4⟩
theorem FnAt.imp {P : Program} {w : World} {K : PySem.W.Frag} {mg : Str → Option Value} {base : Heap} {T : List (Addr × Str)} {f : Addr} {k : Nat} {fs fs' : ASp} (F : FnAt P w K mg base T f k fs) (h : ∀ ds M Q E, fs' ds M Q E → fs ds M Q E) : FnAt P w K mg base T f k fs' :=
  let ⟨fd, ps, h1, h2, h3⟩ := F.ex
  ⟨fd, ps, h1, h2, h3.imp fun _ _ _ _ s => SpOf.imp h s⟩
theorem FnAt.mono {P : Program} {w : World} {K : PySem.W.Frag} {mg : Str → Option Value} {base : Heap} {T : List (Addr × Str)} {f : Addr} {j k : Nat} {fs : ASp} (F : FnAt P w K mg base T f j fs) (h : j ≤ k) : FnAt P w K mg base T f k fs :=
  let ⟨fd, ps, h1, h2, h3⟩ := F.ex
  ⟨fd, ps, h1, h2, h3.mono h⟩
theorem FnA.imp {P : Program} {w : World} {K : PySem.W.Frag} {mg : Str → Option Value} {base : Heap} {T : List (Addr × Str)} {x : Str} {k : Nat} {fs fs' : ASp} (F : FnA P w K mg base T x k fs) (h : ∀ ds M Q E, fs' ds M Q E → fs ds M Q E) : FnA P w K mg base T x k fs' :=
  let ⟨f, fd, ps, h0, h1, h2, h3⟩ := F.ex
  ⟨f, fd, ps, h0, h1, h2, h3.imp fun _ _ _ _ s => SpOf.imp h s⟩
end AL
set_option Elab.async false
set_option linter.all false
set_option maxRecDepth 100000
set_option maxHeartbeats 4000000
set_option autoImplicit false
/-! AL18: all parts of a row of numbers. -/
namespace AL
open PySem PySem.Spec PyProof.Rows L2 LamX
def rowD (l : List Int) : D := .tup (l.map D.int)
/-! ### all parts -/
def subR : Nat → List (List Int)
  | 0 => [[]]
  | n + 1 => subR n ++ (subR n).map fun p => p ++ [((n : Nat) : Int)]
def spD (l : List Int) : D := .tup [.int (l.length : Nat), rowD l]
def leS (a b : List Int) : Bool := PySem.W.dataLe false toPy (spD a) (spD b)
def subL (n : Nat) : List (List Int) := (subR n).mergeSort leS
theorem sub_sort (n : Nat) : sortD ((subR n).map spD) = (subL n).map spD := by
  unfold sortD subL
  rw [List.map_mergeSort]
  intro a _ b _
  rfl
theorem mem_subL {n : Nat} {p : List Int} : p ∈ subL n ↔ p ∈ subR n := (List.mergeSort_perm _ _).mem_iff
theorem subR_len : ∀ n : Nat, (subR n).length = 2 ^ n
  | 0 => rfl
  | n + 1 => by
    show (subR n ++ (subR n).map _).length = _
    rw [List.length_append, List.length_map, subR_len n, Nat.pow_succ]; omega
def keepI (n : Nat) (p : List Int) : List Nat := (List.range n).filter fun i => decide (((i : Nat) : Int) ∉ p)
theorem subR_prop : ∀ (n : Nat) (p : List Int), p ∈ subR n → (keepI n p).length + p.length = n ∧ ∀ x ∈ p, 0 ≤ x ∧ x < n
  | 0, p, h => by
    obtain rfl := List.mem_singleton.mp h
    exact ⟨rfl, fun x m => by cases m⟩
  | n + 1, p, h => by
    rcases List.mem_append.mp h with h | h
    · obtain ⟨h1, h2⟩ := subR_prop n p h
      have hn : ((n : Nat) : Int) ∉ p := fun m => by have := (h2 _ m).2; omega
      refine ⟨?_, fun x m => by have := h2 x m; omega⟩
      unfold keepI at h1 ⊢
      rw [List.range_succ, List.filter_append, List.length_append, List.filter_cons_of_pos (by simpa using hn)]
      simp only [List.filter_nil, List.length_cons, List.length_nil]
      omega
    · obtain ⟨q, hq, rfl⟩ := List.mem_map.mp h
      obtain ⟨h1, h2⟩ := subR_prop n q hq
      refine ⟨?_, fun x m => ?_⟩
      · unfold keepI at h1 ⊢
        rw [List.range_succ, List.filter_append, List.length_append, List.filter_cons_of_neg (by simp)]
        rw [List.filter_congr (q := fun i => decide (((i : Nat) : Int) ∉ q)) (fun i hi => ?_)]
        · simp only [List.filter_nil, List.length_nil, List.length_append, List.length_cons]
          omega
        · have : i < n := List.mem_range.mp hi
          have e : ((i : Nat) : Int) ≠ ((n : Nat) : Int) := by omega
          simp [e]
      · rcases List.mem_append.mp m with m | m
        · have := h2 x m; omega
        · obtain rfl := List.mem_singleton.mp m
          omega
@[simp] def fsSubs : ASp := fun ds M Q _ => match ds with | [.int n] => 0 ≤ n ∧ n ≤ 12 ∧ Q (.lst ((subL n.toNat).map rowD)) M | _ => False
theorem spD_py (l : List Int) : toPy (spD l) = .tuple [.int (l.length : Nat), .tuple ((l.map D.int).map toPy)] := by simp [spD, rowD, toPy, toPys, toPys_map]
theorem alike_ints : ∀ (l m : List Int), PySem.W.alikeAll ((l.map D.int).map toPy) ((m.map D.int).map toPy) = true
  | [], _ => by simp [PySem.W.alikeAll]
  | _ :: _, [] => by simp [PySem.W.alikeAll]
  | x :: l, y :: m => by
    have := alike_ints l m
    simp only [List.map_cons, PySem.W.alikeAll, toPy, PySem.W.alike, Bool.true_and]
    simpa using this
theorem spD_all (L : List (List Int)) : PySem.W.AllAlike ((L.map spD).map toPy) := by
  intro x hx y hy
  obtain ⟨d, hd, rfl⟩ := List.mem_map.mp hx
  obtain ⟨l, _, rfl⟩ := List.mem_map.mp hd
  obtain ⟨e, he, rfl⟩ := List.mem_map.mp hy
  obtain ⟨m, _, rfl⟩ := List.mem_map.mp he
  rw [spD_py, spD_py]
  have := alike_ints l m
  simp [PySem.W.alike, PySem.W.alikeAll] at this ⊢
  exact this
theorem spD_sortable (L : List (List Int)) : PySem.W.Sortable ((L.map spD).map toPy) := .inl fun x hx => by
  obtain ⟨d, hd, rfl⟩ := List.mem_map.mp hx
  obtain ⟨l, _, rfl⟩ := List.mem_map.mp hd
  exact ⟨_, _, spD_py l⟩
theorem spD_ok (L : List (List Int)) : okDs 59 (L.map spD) = true := okDs_of fun d m => by
  obtain ⟨l, _, rfl⟩ := List.mem_map.mp m
  simp [spD, rowD]
end AL
set_option Elab.async false
set_option linter.all false
set_option maxRecDepth 100000
set_option maxHeartbeats 4000000
set_option autoImplicit false
/-! AL19: list(range), tuple(range). -/
namespace AL
open PySem PySem.Spec PyProof.Rows L2 LamX
theorem rg_rs {F : Hp} {a b : Int} : Rs F (rgV a b) (rngD a (b - a).toNat) := by
  unfold rgV rngD
  generalize List.range (b - a).toNat = l
  induction l with
  | nil => exact .nil
  | cons i l ih => exact .cons (.int _) ih
section
variable {b : BC} {X : Cx} {pos p p2 pos2 : Pos} {e e1 e2 : Expr} {ta tb : TE} {aa ab : ATE}
/-- the ends of a range -/
abbrev ARg := SL → Store → (Int → Int → Store → Prop) → Prop
def SimRg (b : BC) (K : PySem.W.Frag) (te : L2.St → Hp → (Int → Int → Hp → Prop) → Prop) (at_ : ARg) : Prop :=
  ∀ (Z : Hid) (σ : L2.St) (H : Hp) (M : Store) (sl : SL) (Q : Int → Int → Hp → Prop) (Qa : Int → Int → Store → Prop), Rep K b.T Z H M σ sl → b.In Z H M → at_ sl M Qa →
    (∀ i j H' M', RH K b.T Z H' M' → Ext H M H' M' → Qa i j M' → Q i j H') → te σ H Q
structure DRg (b : BC) (X : Cx) (e : Expr) (te : L2.St → Hp → (Int → Int → Hp → Prop) → Prop) (at_ : ARg) : Prop where
  pr : PRg X e te
  sim : SimRg b X.K te at_
@[simp] def aRgE1 (a : ATE) : ARg := fun sl M Q => a sl M fun d M1 => match d with | .int n => Q 0 n M1 | _ => False
@[simp] def aRgE2 (a c : ATE) : ARg := fun sl M Q => a sl M fun d M1 => c sl M1 fun e M2 => match d, e with | .int m, .int n => Q m n M2 | _, _ => False
theorem dr_1 (hm : X.mg "range" = none) (ha : DE b X e ta aa) (hg : Gl X "range" := by rfl) (na : starEach [e] X.env = (false, eval e X.env) :: starEach [] X.env := by rfl) : DRg b X (.Call (.Name "range" p) [e] [] pos) (tRg1 ta) (aRgE1 aa) :=
  ⟨prg_1 hg hm ha.pe na, fun Z σ H M sl Q Qa rp i q k => ha.sim Z σ H M sl _ _ rp i q fun v d H1 M1 r1 e1 h1 q1 => by
    cases h1 <;> first | exact q1.elim | skip
    exact ⟨_, rfl, k _ _ _ _ r1 e1 q1⟩⟩
theorem dr_2 (hm : X.mg "range" = none) (ha : DE b X e1 ta aa) (hb : DE b X e2 tb ab) (hg : Gl X "range" := by rfl) (na : starEach [e1, e2] X.env = (false, eval e1 X.env) :: starEach [e2] X.env := by rfl)
    (nb : starEach [e2] X.env = (false, eval e2 X.env) :: starEach [] X.env := by rfl) (hp : (backTo pos (starEach [e2] X.env)).any (·.1) = false := by rfl) : DRg b X (.Call (.Name "range" p) [e1, e2] [] pos) (tRg2 ta tb) (aRgE2 aa ab) :=
  ⟨prg_2 hg hm ha.pe hb.pe na nb hp, fun Z σ H M sl Q Qa rp i q k => ha.sim Z σ H M sl _ _ rp i q fun v d H1 M1 r1 e1 h1 q1 => hb.sim Z σ H1 M1 sl _ _ (rp.to r1 e1) (i.trans e1) q1 fun u d2 H2 M2 r2 e2 h2 q2 => by
    cases h1 <;> first | exact q2.elim | skip
    cases h2 <;> first | exact q2.elim | skip
    exact ⟨_, _, rfl, rfl, k _ _ _ _ r2 (e1.trans e2) q2⟩⟩
variable {te : L2.St → Hp → (Int → Int → Hp → Prop) → Prop} {at_ : ARg}
def rgFit (i j : Int) : Prop := (0 ≤ i ∧ i ≤ 16777216) ∧ 0 ≤ j ∧ j ≤ 16777216
theorem rgFit_ok {i j : Int} (h : rgFit i j) : RgOk i j := RgOk.of_le h.1.1 h.2.2 h.1.2 h.2.1
theorem rgFit_len {i j : Int} (h : rgFit i j) : (rngD i (j - i).toNat).length ≤ sizeLine := by
  rw [rngD_length, sizeLine_eq]
  unfold rgFit at h
  omega
@[simp] theorem rgFit_iff {i j : Int} : rgFit i j = ((0 ≤ i ∧ i ≤ 16777216) ∧ 0 ≤ j ∧ j ≤ 16777216) := rfl
@[simp] def aLstRg (a : ARg) : ATE := fun sl M Q => a sl M fun i j M1 => rgFit i j ∧ Q (.lst (rngD i (j - i).toNat)) M1
@[simp] def aTupRg (a : ARg) : ATE := fun sl M Q => a sl M fun i j M1 => rgFit i j ∧ Q (.tup (rngD i (j - i).toNat)) M1
@[simp] def aLstRgC (a : ARg) : ATE := fun sl M Q => a sl M fun i j M1 => rgFit i j ∧ ∀ c, M1 c = none → Q (.ref c) (updS M1 c (.lst (rngD i (j - i).toNat)))
theorem de_lstRg (hc : X.calm = true) (hm : X.mg "list" = none) (he : DRg b X e te at_) (hg : Gl X "list" := by rfl) (na : starEach [e] X.env = (false, eval e X.env) :: starEach [] X.env := by rfl) : DE b X (.Call (.Name "list" p) [e] [] pos) (tLstRg te) (aLstRg at_) :=
  ⟨pe_listRg hc hg hm he.pr na, fun Z σ H M sl Q Qa rp i q k => he.sim Z σ H M sl _ _ rp i q fun i j H1 M1 r1 e1 q1 => ⟨rgFit_ok q1.1, fun c nc => by
    obtain ⟨r2, e2, z⟩ := new_lst r1 nc (rgFit_len q1.1) rg_rs
    exact k _ _ _ _ r2 (e1.trans e2) z q1.2⟩⟩
theorem de_lstRgC (hc : X.calm = true) (hm : X.mg "list" = none) (he : DRg b X e te at_) (hg : Gl X "list" := by rfl) (na : starEach [e] X.env = (false, eval e X.env) :: starEach [] X.env := by rfl) : DE b X (.Call (.Name "list" p) [e] [] pos) (tLstRg te) (aLstRgC at_) :=
  ⟨pe_listRg hc hg hm he.pr na, fun Z σ H M sl Q Qa rp i q k => he.sim Z σ H M sl _ _ rp i q fun i j H1 M1 r1 e1 q1 => ⟨rgFit_ok q1.1, fun c nc => by
    obtain ⟨r2, e2⟩ := new_cell r1 nc (rgFit_len q1.1) rg_rs
    exact k _ _ _ _ r2 (e1.trans e2) (.ref c) (q1.2 c (r1.free nc))⟩⟩
theorem de_tupRg (hc : X.calm = true) (hm : X.mg "tuple" = none) (he : DRg b X e te at_) (hg : Gl X "tuple" := by rfl) (na : starEach [e] X.env = (false, eval e X.env) :: starEach [] X.env := by rfl) : DE b X (.Call (.Name "tuple" p) [e] [] pos) (tTupRg te) (aTupRg at_) :=
  ⟨pe_tupRg hc hg hm he.pr na, fun Z σ H M sl Q Qa rp i q k => he.sim Z σ H M sl _ _ rp i q fun i j H1 M1 r1 e1 q1 => ⟨rgFit_ok q1.1, fun c nc => by
    obtain ⟨r2, e2, z⟩ := new_tup r1 nc (rgFit_len q1.1) rg_rs
    exact k _ _ _ _ r2 (e1.trans e2) z q1.2⟩⟩
theorem rngD_ints (n : Nat) : rngD 0 n = ((List.range n).map fun i => ((i : Nat) : Int)).map D.int := by
  unfold rngD
  rw [List.map_map]
  refine List.map_congr_left fun i _ => ?_
  simp
end
/-- a row of draws -/
theorem lc_ints {k : Nat} {te : ATE} {sl : SL} {M : Store} {Q : List D → Store → Prop} (hi : Int) (n : Nat) (hte : ∀ (i : Int) (Q2 : DK), (∀ x : Int, 0 ≤ x → x < hi → Q2 (.int x) M) → te (setD sl k (some (.int i))) M Q2)
    (hQ : ∀ ws : List Int, ws.length = n → (∀ x ∈ ws, 0 ≤ x ∧ x < hi) → Q (ws.map D.int) M) : lcL (fun _ => True) (aGName k) aYes te sl (rngD 0 n) [] M Q := by
  refine lcL_inv (fun i : Nat => D.int (0 + (i : Nat))) (fun l acc M' => ∃ ws : List Int, acc = ws.map D.int ∧ M = M' ∧ (∀ x ∈ ws, 0 ≤ x ∧ x < hi) ∧ ws.length + l.length = n) ?_ ?_ (List.range n) _ _ ⟨[], rfl, rfl, fun x m => by (cases m), by simp⟩
  · rintro acc M' ⟨ws, rfl, rfl, hw, hl⟩
    exact ⟨trivial, hQ ws (by simpa using hl) hw⟩
  · rintro i l acc M' k ⟨ws, rfl, rfl, hw, hl⟩ hk
    simp only [List.length_cons] at hl
    refine ⟨trivial, hte _ _ fun x x0 x1 => hk _ _ ⟨ws ++ [x], by rw [List.map_append]; rfl, rfl, fun y my => ?_, by simp; omega⟩⟩
    rcases List.mem_append.mp my with my | my
    · exact hw y my
    · rw [List.mem_singleton] at my; rw [my]; exact ⟨x0, x1⟩
theorem range_rest {i : Nat} {l : List Nat} {j n : Nat} (h : i :: l = List.range' j (n - j)) : i = j ∧ j < n ∧ l = List.range' (j + 1) (n - (j + 1)) := by
  rcases Nat.lt_or_ge j n with c | c
  · obtain ⟨m, hm⟩ : ∃ m, n - j = m + 1 := ⟨n - j - 1, by omega⟩
    rw [hm, List.range'_succ] at h
    injection h with h1 h2
    exact ⟨h1, c, by rw [h2, show n - (j + 1) = m from by omega]⟩
  · rw [show n - j = 0 from by omega] at h; cases h
theorem range_end {j n : Nat} (h : [] = List.range' j (n - j)) (hj : j ≤ n) : j = n := by
  have := congrArg List.length h
  simp at this
  omega
theorem fm_if {α β : Type} (p : α → Prop) [DecidablePred p] (g : α → β) : ∀ l : List α, l.filterMap (fun x => if p x then some (g x) else none) = (l.filter fun x => decide (p x)).map g
  | [] => rfl
  | x :: l => by
    by_cases c : p x
    · rw [List.filterMap_cons, if_pos c, List.filter_cons_of_pos (by simpa using c), List.map_cons, fm_if p g l]
    · rw [List.filterMap_cons, if_neg c, List.filter_cons_of_neg (by simpa using c), fm_if p g l]
/-- a comprehension with a test -/
theorem lcL_if {α : Type} {chk : Store → Prop} {ag : ATG} {tt : ATT} {te : ATE} {sl : SL} {Q : List D → Store → Prop} {M : Store} (pr : α → D) (p : α → Prop) [DecidablePred p] (g : α → D) (hc : chk M) (xs : List α)
    (h : ∀ x ∈ xs, ∀ (k : D → Store → Prop) (k2 : Store → Prop), (if p x then k (g x) M else k2 M) → ag (pr x) sl M fun sl1 M1 => tt sl1 M1 fun c M2 => if c = true then te sl1 M2 k else k2 M2) (q : Q ((xs.filter fun x => decide (p x)).map g) M) : lcL chk ag tt te sl (xs.map pr) [] M Q := by
  refine lcL_fil pr (fun x => if p x then some (g x) else none) hc xs [] (fun x hx k k2 hk => ?_) (by rw [List.nil_append, fm_if]; exact q)
  refine h x hx k k2 ?_
  by_cases c : p x
  · rw [if_pos c] at hk ⊢; exact hk
  · rw [if_neg c] at hk ⊢; exact hk
theorem lcL_all {α : Type} {chk : Store → Prop} {ag : ATG} {tt : ATT} {te : ATE} {sl : SL} {Q : List D → Store → Prop} {M : Store} (pr g : α → D) (hc : chk M) (xs : List α)
    (h : ∀ x ∈ xs, ∀ (k : D → Store → Prop) (k2 : Store → Prop), k (g x) M → ag (pr x) sl M fun sl1 M1 => tt sl1 M1 fun c M2 => if c = true then te sl1 M2 k else k2 M2) (q : Q (xs.map g) M) : lcL chk ag tt te sl (xs.map pr) [] M Q := lcL_map pr g hc xs [] h (by rw [List.nil_append]; exact q)
theorem atI_map {α : Type} {f : α → D} {l : List α} {i : Nat} {x : α} (h : l[i]? = some x) : atI (l.map f) ((i : Nat) : Int) = some (f x) := by rw [atI_ofNat, List.getElem?_map, h]; rfl
theorem atI_ints {ws : List Int} {x : Int} (x0 : 0 ≤ x) (x1 : x < ws.length) : atI (ws.map D.int) x = some (.int (ws.getD x.toNat 0)) := by
  have h2 : x.toNat < ws.length := by omega
  have e : atI (ws.map D.int) ((x.toNat : Nat) : Int) = some (.int (ws.getD x.toNat 0)) := atI_map (by rw [List.getElem?_eq_getElem h2]; simp [List.getElem?_eq_getElem h2])
  rwa [show ((x.toNat : Nat) : Int) = x from by omega] at e
end AL
set_option Elab.async false
set_option linter.all false
set_option maxRecDepth 100000
set_option maxHeartbeats 4000000
set_option autoImplicit false
/-! AL20: dict comprehensions, dicts as arguments, counts, tuples whose own object is known. -/
namespace AL
open PySem PySem.Spec PyProof.Rows L2 LamX
theorem Rks.keys {F : Hp} : ∀ {vs : List (Key × V)} {ds : List (Key × D)}, Rks F vs ds → vs.map (·.1) = ds.map (·.1)
  | _, _, .nil => rfl
  | _, _, .cons h r => by rw [List.map_cons, List.map_cons, Rks.keys r]
/-! ### {k: v for ..} -/
@[simp] def dcL (chk : Store → Prop) (ag : ATG) (tt : ATT) (tk tv : ATE) (sl : SL) : List D → List (Key × D) → Store → (List (Key × D) → Store → Prop) → Prop
  | [], acc, M, Q => chk M ∧ Q acc M
  | d :: r, acc, M, Q => chk M ∧ ag d sl M fun sl1 M1 => tt sl1 M1 fun c M2 => if c = true then tk sl1 M2 fun y M3 => tv sl1 M3 fun z M4 => (match keyD y with | some k => dcL chk ag tt tk tv sl r (putD acc k z) M4 Q | none => False) else dcL chk ag tt tk tv sl r acc M2 Q
@[simp] def aDc (ai : ATI) (ag : ATG) (tt : ATT) (tk tv : ATE) (vs : List Nat) : ATE := fun sl M Q => ai sl M fun ds chk M1 => dcL chk ag tt tk tv (wipeD sl vs) ds [] M1 fun acc M2 => Q (.dic acc) M2
@[simp] def aDcC (ai : ATI) (ag : ATG) (tt : ATT) (tk tv : ATE) (vs : List Nat) : ATE := fun sl M Q => ai sl M fun ds chk M1 => dcL chk ag tt tk tv (wipeD sl vs) ds [] M1 fun acc M2 => ∀ a, M2 a = none → Q (.ref a) (updS M2 a (.dic acc))
theorem dc_run {b : BC} {K : PySem.W.Frag} {wi : TI} {g : TG} {tt : TT} {tk tv : TE} {ai : ATI} {ag : ATG} {att : ATT} {atk atv : ATE} {vs : List Nat} (hi : SimI b K wi ai) (hg : SimG b K g ag) (on : GOn vs g) (ht : SimT b K tt att) (hk : Sim b K tk atk) (hv : Sim b K tv atv)
    {Z : Hid} {σ : L2.St} {H : Hp} {M : Store} {sl : SL} {Q : VK} {Qa : List (Key × D) → Store → Prop} (rp : Rep K b.T Z H M σ sl) (e : b.In Z H M) (q : ai sl M fun ds chk M1 => dcL chk ag att atk atv (wipeD sl vs) ds [] M1 Qa)
    (k : ∀ D H' M' acc vacc, RH K b.T (fun z => Z z || decide (z = D)) H' M' → Ext H M H' M' → (∀ c o, visM (M c) = true → H c = some o → (∀ ps, o ≠ .tbl ps) → c ≠ D) → Z D = false → M' D = none → H' D = some (.dK vacc) → Rks (mkH (fun z => Z z || decide (z = D)) H' M') vacc acc → acc.length ≤ sizeLine → Qa acc M' → Q (.ref D) H') :
    tDc wi g tt tk tv vs σ H Q := by
  refine hi Z σ H M sl _ _ rp e q fun J H1 M1 ds chk r1 e1 it q1 D nD => ?_
  have nZ : Z D = false := r1.vis nD
  obtain ⟨Z', hZ'⟩ : ∃ Z' : Hid, Z' = fun z => Z z || decide (z = D) := ⟨_, rfl⟩
  have zx : Zx Z Z' H1 := fun w y => by
    cases z : Z w with
    | true => exact .inl rfl
    | false =>
      have : w = D := by simpa [hZ', z] using y
      rw [this]; exact .inr nD
  have zD : Z' D = true := by simp [hZ']
  have zsub : ∀ z, Z z = true → Z' z = true := fun z y => by simp [hZ', y]
  have r2e2 := r1.hideO (o := .dK []) trivial nD
  rw [← hZ'] at r2e2
  obtain ⟨r2, e2⟩ := r2e2
  have rpw : Rep K b.T Z H1 M1 (wipe σ vs) (wipeD sl vs) := (rp.to r1 e1).wipe vs
  refine ⟨fun i m H => m = ds.length - i ∧ i ≤ ds.length ∧ ∃ M acc vacc, RH K b.T Z' H M ∧ Ext H1 M1 H M ∧ H D = some (.dK vacc) ∧ Rks (mkH Z' H M) vacc acc ∧ acc.length ≤ i ∧ dcL chk ag att atk atv (wipeD sl vs) (ds.drop i) acc M Qa,
    ⟨ds.length, rfl, Nat.zero_le _, M1, [], [], r2, e2, upd_same, .nil, Nat.le_refl _, q1⟩, fun i m H2 ⟨hm, hi', M2, acc, vacc, r3, e3, hD, hacc, hl, q2⟩ => ?_⟩
  have nM : ∀ {H : Hp} {M : Store}, RH K b.T Z' H M → M D = none := fun {H M} r => by
    cases y : M D with
    | none => rfl
    | some c => have := r.dis D (by rw [y]; exact fun x => by cases x); rw [zD] at this; cases this
  rcases Nat.lt_or_ge i ds.length with hlt | hge
  · obtain ⟨d, hd⟩ : ∃ d, ds[i]? = some d := ⟨ds[i], List.getElem?_eq_getElem hlt⟩
    have hdrop : ds.drop i = d :: ds.drop (i + 1) := by
      rw [List.drop_eq_getElem_cons hlt]
      have : ds[i] = d := by rw [List.getElem?_eq_getElem hlt] at hd; exact Option.some.inj hd
      rw [this]
    rw [hdrop] at q2
    obtain ⟨hc, q2⟩ := q2
    refine .inr ⟨it.go Z' i H2 M2 zx r3 e3 hc hlt, fun H' => i + 1 ≤ ds.length ∧ ∃ M acc vacc, RH K b.T Z' H' M ∧ Ext H1 M1 H' M ∧ H' D = some (.dK vacc) ∧ Rks (mkH Z' H' M) vacc acc ∧ acc.length ≤ i + 1 ∧ dcL chk ag att atk atv (wipeD sl vs) (ds.drop (i + 1)) acc M Qa,
      fun H' ⟨h1, M', acc', vacc', h2⟩ => ⟨ds.length - (i + 1), by omega, rfl, h1, M', acc', vacc', h2⟩, fun x H3 y => ?_⟩
    obtain ⟨d', hd', r4, e4, rx⟩ := it.yld Z' i H2 M2 x H3 zx r3 e3 hc hlt y
    rw [hd] at hd'; cases hd'
    have rp3 : Rep K b.T Z' H3 M2 (wipe σ vs) (wipeD sl vs) := rpw.toZ zx r4 (e3.trans e4)
    have e03 : b.In Z' H3 M2 := ⟨((e.trans e1).trans (e3.trans e4)).ext, fun z y => zsub z (e.hid z y)⟩
    refine on x (wipe σ vs) H3 _ _ (fun σ4 H4 hw (q4 : tt σ4 H4 fun c H5 => if c = true then tk σ4 H5 _ else _) => ⟨hw.trans (wipe_wipe vs fun _ h => h), q4⟩) ?_
    refine hg Z' (wipe σ vs) H3 M2 _ x d _ _ rp3 e03 rx q2 fun σ4 H4 M4 sl4 rp4 e4' q4 => ?_
    refine ht Z' σ4 H4 M4 sl4 _ _ rp4 (e03.trans e4') q4 fun c H5 M5 r5 e5 q5 => ?_
    have e35 : Ext H2 M2 H5 M5 := e4.trans (e4'.trans e5)
    have keepD : ∀ {H : Hp} {M : Store}, Ext H2 M2 H M → H D = some (.dK vacc) := fun ex => (ex D _ (vis_none (nM r3)) hD (fun ps z => by cases z)).2
    cases c
    · exact ⟨by omega, M5, acc, vacc, r5, e3.trans e35, keepD e35, hacc.mono e35.sb, by omega, q5⟩
    · refine hk Z' σ4 H5 M5 sl4 _ _ (rp4.to r5 e5) ((e03.trans e4').trans e5) q5 fun kx kd H6 M6 r6 e6 hkx q6 => ?_
      refine hv Z' σ4 H6 M6 sl4 _ _ (rp4.to r6 (e5.trans e6)) ((e03.trans e4').trans (e5.trans e6)) q6 fun w yd H7 M7 r7 e7 hy q7 => ?_
      have e37 : Ext H2 M2 H7 M7 := e35.trans (e6.trans e7)
      have hD7 := keepD e37
      have hacc7 := hacc.mono e37.sb
      have em : ∀ o, mkH Z' (upd H7 D o) M7 = mkH Z' H7 M7 := fun o => by
        funext c
        by_cases hcD : c = D
        · subst hcD; rw [mk_hid zD, mk_hid zD]
        · unfold mkH; rw [upd_ne hcD]
      cases hkey : keyD kd with
      | none => rw [hkey] at q7; exact q7.elim
      | some key =>
        rw [hkey] at q7
        have pl := putD_len acc key yd
        refine ⟨vacc, key, keyD_R hkx hkey, hD7, ?_, by omega, M7, putD acc key yd, putK vacc key w, r7.hputO (o' := .dK (putK vacc key w)) trivial zD hD7 (fun _ z => by cases z) (fun _ _ z => by cases z), ?_, upd_same, ?_, by omega, q7⟩
        · rw [hacc7.length]; exact Nat.lt_of_le_of_lt hl (Nat.lt_of_lt_of_le hlt it.len)
        · intro c o c1 c2 c3
          obtain ⟨g1, g2⟩ := (e3.trans e37) c o c1 c2 c3
          exact ⟨g1, by rw [upd_ne (ne_of_none c2 nD)]; exact g2⟩
        · rw [em]; exact hacc7.put hy
  · have hi2 : i = ds.length := by omega
    subst hi2
    rw [List.drop_length] at q2
    obtain ⟨hc, q2⟩ := q2
    refine .inl ⟨it.stop Z' H2 M2 zx r3 e3 hc, ?_⟩
    subst hZ'
    exact k D H2 M2 acc vacc r3 (e1.trans e3) (fun c o c1 c2 c3 z => by
      have := (e1 c o c1 c2 c3).2
      rw [z, nD] at this; cases this) nZ (nM r3) hD hacc (Nat.le_trans hl it.len) q2
theorem sim_dc {b : BC} {K : PySem.W.Frag} {wi : TI} {g : TG} {tt : TT} {tk tv : TE} {ai : ATI} {ag : ATG} {att : ATT} {atk atv : ATE} {vs : List Nat} (hi : SimI b K wi ai) (hg : SimG b K g ag) (on : GOn vs g) (ht : SimT b K tt att) (hk : Sim b K tk atk) (hv : Sim b K tv atv) :
    Sim b K (tDc wi g tt tk tv vs) (aDc ai ag att atk atv vs) := fun Z σ H M sl Q Qa rp e q k =>
  dc_run hi hg on ht hk hv rp e q fun D H' M' acc vacc r1 e1 fr nZ nM hD hacc hl q1 =>
    k _ _ H' M' (r1.unhide zz_sub) e1 (.dic (.inl (mk_of nZ nM hD)) hl (hacc.mono (sb_unhide zz_sub))) q1
theorem RH.adoptD {K : PySem.W.Frag} {T : List (Addr × Str)} {Z : Hid} {H : Hp} {M : Store} {D : Addr} {vacc : List (Key × V)} {acc : List (Key × AL.D)} (r : RH K T (fun z => Z z || decide (z = D)) H M) (nZ : Z D = false) (nM : M D = none) (hD : H D = some (.dK vacc)) (hacc : Rks (mkH (fun z => Z z || decide (z = D)) H M) vacc acc) (hl : acc.length ≤ sizeLine) :
    RH K T Z H (updS M D (.dic acc)) := by
  refine ⟨fun a c z => ?_, r.tabs, fun z q => r.hid z (zz_sub z q), fun a q => ?_⟩
  · rw [mk_adopt nM]
    by_cases e : a = D
    · subst e; rw [updS_same] at z; cases z; exact ⟨hl, vacc, hD, hacc⟩
    · rw [updS_ne e] at z; exact r.cells a c z
  · by_cases e : a = D
    · subst e; exact nZ
    · rw [updS_ne e] at q
      have := r.dis a q
      simp only [Bool.or_eq_false_iff] at this
      exact this.1
theorem sim_dcC {b : BC} {K : PySem.W.Frag} {wi : TI} {g : TG} {tt : TT} {tk tv : TE} {ai : ATI} {ag : ATG} {att : ATT} {atk atv : ATE} {vs : List Nat} (hi : SimI b K wi ai) (hg : SimG b K g ag) (on : GOn vs g) (ht : SimT b K tt att) (hk : Sim b K tk atk) (hv : Sim b K tv atv) :
    Sim b K (tDc wi g tt tk tv vs) (aDcC ai ag att atk atv vs) := fun Z σ H M sl Q Qa rp e q k =>
  dc_run hi hg on ht hk hv rp e q fun D H' M' acc vacc r1 e1 fr nZ nM hD hacc hl q1 =>
    k _ _ H' _ (r1.adoptD nZ nM hD hacc hl) (fun c o c1 c2 c3 => by
      obtain ⟨g1, g2⟩ := e1 c o c1 c2 c3
      exact ⟨by rw [updS_ne (fr c o c1 c2 c3)]; exact g1, g2⟩) (.ref D) (q1 D nM)
section
variable {b : BC} {X : Cx} {pos : Pos} {kx vx tg iter : Expr} {ifs : List Expr} {scope : Scope} {own : List (Str × Nat)} {wi : TI} {g : TG} {tt : TT} {tk tv : TE} {ai : ATI} {ag : ATG} {att : ATT} {atk atv : ATE}
theorem de_dc {ttf : Shared → Hp → Addr → List (Str × Addr) → List Addr → TT} {tkf tvf : Shared → Hp → Addr → List (Str × Addr) → List Addr → TE} (hc : X.calm = true) (hN : X.N.Nodup) (own : List (Str × Nat)) (hi : DI b X tg iter wi ai) (ok : blkC X.N X.env.scope scope own = true)
    (hg : ∀ (s : Shared) (H : Hp) (C : Addr) (cl : List (Str × Addr)) (fp : List Addr), DG b (X.blk s H scope (compEnvC scope cl C X.env) fp) tg g ag) (on : GOn (own.map (·.2)) g)
    (ht : ∀ (s : Shared) (H : Hp) (C : Addr) (cl : List (Str × Addr)) (fp : List Addr), DTs b (X.blk s H scope (compEnvC scope cl C X.env) fp) ifs (ttf s H C cl fp) att)
    (hk : ∀ (s : Shared) (H : Hp) (C : Addr) (cl : List (Str × Addr)) (fp : List Addr), DE b (X.blk s H scope (compEnvC scope cl C X.env) fp) kx (tkf s H C cl fp) atk)
    (he : ∀ (s : Shared) (H : Hp) (C : Addr) (cl : List (Str × Addr)) (fp : List Addr), DE b (X.blk s H scope (compEnvC scope cl C X.env) fp) vx (tvf s H C cl fp) atv) (hs : ∀ x, foldedSetIterable iter X.env x = pure x := by intro _; rfl) (htt : ∀ (s : Shared) (H : Hp) (C : Addr) (cl : List (Str × Addr)) (fp : List Addr), ttf s H C cl fp = ttf X.s_0 X.H_0 0 [] [] := by intros; rfl)
    (htk : ∀ (s : Shared) (H : Hp) (C : Addr) (cl : List (Str × Addr)) (fp : List Addr), tkf s H C cl fp = tkf X.s_0 X.H_0 0 [] [] := by intros; rfl) (htv : ∀ (s : Shared) (H : Hp) (C : Addr) (cl : List (Str × Addr)) (fp : List Addr), tvf s H C cl fp = tvf X.s_0 X.H_0 0 [] [] := by intros; rfl) :
    DE b X (.DictComp kx vx [⟨tg, iter, ifs, 0⟩] scope pos) (tDc wi g (ttf X.s_0 X.H_0 0 [] []) (tkf X.s_0 X.H_0 0 [] []) (tvf X.s_0 X.H_0 0 [] []) (own.map (·.2))) (aDc ai ag att atk atv (own.map (·.2))) :=
  ⟨pe_dc hc hN hi.pi (blkOk_by ok) (fun s H C cl fp => (hg s H C cl fp).pg) (fun s H C cl fp => htt s H C cl fp ▸ (ht s H C cl fp).pt) (fun s H C cl fp => htk s H C cl fp ▸ (hk s H C cl fp).pe) (fun s H C cl fp => htv s H C cl fp ▸ (he s H C cl fp).pe) hs,
   sim_dc hi.sim (hg X.s_0 X.H_0 0 [] []).sim on (ht X.s_0 X.H_0 0 [] []).sim (hk X.s_0 X.H_0 0 [] []).sim (he X.s_0 X.H_0 0 [] []).sim⟩
theorem de_dcC {ttf : Shared → Hp → Addr → List (Str × Addr) → List Addr → TT} {tkf tvf : Shared → Hp → Addr → List (Str × Addr) → List Addr → TE} (hc : X.calm = true) (hN : X.N.Nodup) (own : List (Str × Nat)) (hi : DI b X tg iter wi ai) (ok : blkC X.N X.env.scope scope own = true)
    (hg : ∀ (s : Shared) (H : Hp) (C : Addr) (cl : List (Str × Addr)) (fp : List Addr), DG b (X.blk s H scope (compEnvC scope cl C X.env) fp) tg g ag) (on : GOn (own.map (·.2)) g)
    (ht : ∀ (s : Shared) (H : Hp) (C : Addr) (cl : List (Str × Addr)) (fp : List Addr), DTs b (X.blk s H scope (compEnvC scope cl C X.env) fp) ifs (ttf s H C cl fp) att)
    (hk : ∀ (s : Shared) (H : Hp) (C : Addr) (cl : List (Str × Addr)) (fp : List Addr), DE b (X.blk s H scope (compEnvC scope cl C X.env) fp) kx (tkf s H C cl fp) atk)
    (he : ∀ (s : Shared) (H : Hp) (C : Addr) (cl : List (Str × Addr)) (fp : List Addr), DE b (X.blk s H scope (compEnvC scope cl C X.env) fp) vx (tvf s H C cl fp) atv) (hs : ∀ x, foldedSetIterable iter X.env x = pure x := by intro _; rfl) (htt : ∀ (s : Shared) (H : Hp) (C : Addr) (cl : List (Str × Addr)) (fp : List Addr), ttf s H C cl fp = ttf X.s_0 X.H_0 0 [] [] := by intros; rfl)
    (htk : ∀ (s : Shared) (H : Hp) (C : Addr) (cl : List (Str × Addr)) (fp : List Addr), tkf s H C cl fp = tkf X.s_0 X.H_0 0 [] [] := by intros; rfl) (htv : ∀ (s : Shared) (H : Hp) (C : Addr) (cl : List (Str × Addr)) (fp : List Addr), tvf s H C cl fp = tvf X.s_0 X.H_0 0 [] [] := by intros; rfl) :
    DE b X (.DictComp kx vx [⟨tg, iter, ifs, 0⟩] scope pos) (tDc wi g (ttf X.s_0 X.H_0 0 [] []) (tkf X.s_0 X.H_0 0 [] []) (tvf X.s_0 X.H_0 0 [] []) (own.map (·.2))) (aDcC ai ag att atk atv (own.map (·.2))) :=
  ⟨pe_dc hc hN hi.pi (blkOk_by ok) (fun s H C cl fp => (hg s H C cl fp).pg) (fun s H C cl fp => htt s H C cl fp ▸ (ht s H C cl fp).pt) (fun s H C cl fp => htk s H C cl fp ▸ (hk s H C cl fp).pe) (fun s H C cl fp => htv s H C cl fp ▸ (he s H C cl fp).pe) hs,
   sim_dcC hi.sim (hg X.s_0 X.H_0 0 [] []).sim on (ht X.s_0 X.H_0 0 [] []).sim (hk X.s_0 X.H_0 0 [] []).sim (he X.s_0 X.H_0 0 [] []).sim⟩
end
end AL
set_option Elab.async false
set_option linter.all false
set_option maxRecDepth 100000
set_option maxHeartbeats 4000000
set_option autoImplicit false
/-! AL21: dicts as arguments, counts, tuples whose own object is known. -/
namespace AL
open PySem PySem.Spec PyProof.Rows L2 LamX
section
variable {b : BC} {K : PySem.W.Frag}
/-- sorted(d), keys of ints -/
def rSortDI : List V → Hp → VK → Prop := fun xs H Q => ∃ (a : Addr) (kvs : List (Key × V)) (ks : List Int), xs = [.ref a] ∧ Rd H a (.dK kvs) ∧ kvs.map (·.1) = ks.map Sum.inl ∧ ks.length < 64 ∧ ∀ (ys : List Int) (p : Addr), ys.Perm ks → ys.Pairwise (· ≤ ·) → H p = none → Q (.ref p) (upd H p (.lst (ys.map V.int)))
theorem ints_Rs {F : Hp} : ∀ ys : List Int, Rs F (ys.map V.int) (ys.map D.int)
  | [] => .nil
  | y :: ys => .cons (.int y) (ints_Rs ys)
theorem strs_Rs {F : Hp} : ∀ ys : List Str, Rs F (ys.map V.str) (ys.map D.str)
  | [] => .nil
  | y :: ys => .cons (.str y) (strs_Rs ys)
theorem small_line {n : Nat} (h : n < 64) : n ≤ sizeLine := by rw [sizeLine_eq]; omega
def sortDI : ACall := fun ds M Q => match ds with
  | [d] => ∃ (kv : List (Key × D)) (ks : List Int), dicA M d = some kv ∧ kv.map (·.1) = ks.map Sum.inl ∧ ks.length < 64 ∧ ∀ ys : List Int, ys.Perm ks → ys.Pairwise (· ≤ ·) → Q (.lst (ys.map D.int)) M
  | _ => False
theorem cs_sortDI : CallSim b K rSortDI sortDI := by
  intro Z H M xs ds Q Qa rh r q k
  cases r with
  | nil => exact q.elim
  | cons h r =>
    cases r with
    | cons _ _ => exact q.elim
    | nil =>
      obtain ⟨kv, ks, h1, h2, h3, q⟩ := q
      obtain ⟨a, vs, rfl, ha, hr⟩ := dic_at rh h h1
      refine ⟨a, vs, ks, rfl, ha, by rw [hr.keys, h2], h3, fun ys p hp hs np => ?_⟩
      obtain ⟨r2, e2, z⟩ := new_lst rh np (ds := ys.map D.int) (vs := ys.map V.int) (by rw [List.length_map, hp.length_eq]; exact small_line h3) (ints_Rs ys)
      exact k _ _ _ _ r2 e2 z (q ys hp hs)
/-- .. of texts -/
def rSortDS : List V → Hp → VK → Prop := fun xs H Q => ∃ (a : Addr) (kvs : List (Key × V)) (ks : List Str), xs = [.ref a] ∧ Rd H a (.dK kvs) ∧ kvs.map (·.1) = ks.map Sum.inr ∧ ks.length < 64 ∧ ∀ (ys : List Str) (p : Addr), ys.Perm ks → sortedS ys = true → H p = none → Q (.ref p) (upd H p (.lst (ys.map V.str)))
def sortDS : ACall := fun ds M Q => match ds with
  | [d] => ∃ (kv : List (Key × D)) (ks : List Str), dicA M d = some kv ∧ kv.map (·.1) = ks.map Sum.inr ∧ ks.length < 64 ∧ ∀ ys : List Str, ys.Perm ks → sortedS ys = true → Q (.lst (ys.map D.str)) M
  | _ => False
theorem cs_sortDS : CallSim b K rSortDS sortDS := by
  intro Z H M xs ds Q Qa rh r q k
  cases r with
  | nil => exact q.elim
  | cons h r =>
    cases r with
    | cons _ _ => exact q.elim
    | nil =>
      obtain ⟨kv, ks, h1, h2, h3, q⟩ := q
      obtain ⟨a, vs, rfl, ha, hr⟩ := dic_at rh h h1
      refine ⟨a, vs, ks, rfl, ha, by rw [hr.keys, h2], h3, fun ys p hp hs np => ?_⟩
      obtain ⟨r2, e2, z⟩ := new_lst rh np (ds := ys.map D.str) (vs := ys.map V.str) (by rw [List.length_map, hp.length_eq]; exact small_line h3) (strs_Rs ys)
      exact k _ _ _ _ r2 e2 z (q ys hp hs)
/-- list(d) -/
def kD : Key → D
  | .inl i => .int i
  | .inr x => .str x
@[simp] theorem kD_l {i : Int} : kD (.inl i) = .int i := rfl
@[simp] theorem kD_r {i : Str} : kD (.inr i) = .str i := rfl
theorem kD_R {F : Hp} (k : Key) : R F (kV k) (kD k) := by cases k with | inl i => exact .int i | inr x => exact .str x
theorem keys_Rs {F : Hp} : ∀ {vs : List (Key × V)} {ds : List (Key × D)}, Rks F vs ds → Rs F (vs.map fun kv => kV kv.1) (ds.map fun kv => kD kv.1)
  | _, _, .nil => .nil
  | _, _, .cons (k := k) h r => .cons (kD_R k) (keys_Rs r)
def rListDK : List V → Hp → VK → Prop := fun xs H Q => ∃ (a : Addr) (kvs : List (Key × V)), xs = [.ref a] ∧ Rd H a (.dK kvs) ∧ ∀ p, H p = none → Q (.ref p) (upd H p (.lst (kvs.map fun kv => kV kv.1)))
theorem dic_len {T : List (Addr × Str)} {Z : Hid} {H : Hp} {M : Store} {v : V} {d : D} {ds : List (Key × D)} (rh : RH K T Z H M) (r : R (mkH Z H M) v d) (h : dicA M d = some ds) : ds.length ≤ sizeLine := by
  cases r with
  | dic hh n r => cases h; exact n
  | ref a =>
    have h : (match M a with | some (.dic ds) => some ds | _ => none) = some ds := h
    cases z : M a with
    | none => rw [z] at h; cases h
    | some c =>
      rw [z] at h
      cases c with
      | dic ds' => cases h; exact (rh.cells a _ z).1
      | _ => cases h
  | _ => cases h
def listDK : ACall := fun ds M Q => match ds with
  | [d] => (match dicA M d with | some kv => Q (.lst (kv.map fun kv => kD kv.1)) M | none => False)
  | _ => False
theorem cs_listDK : CallSim b K rListDK listDK := by
  intro Z H M xs ds Q Qa rh r q k
  cases r with
  | nil => exact q.elim
  | cons h r =>
    cases r with
    | cons _ _ => exact q.elim
    | nil =>
      rename_i v d
      have q : (match dicA M d with | some kv => Qa (.lst (kv.map fun kv => kD kv.1)) M | none => False) := q
      cases h1 : dicA M d with
      | none => rw [h1] at q; exact q.elim
      | some kv =>
        rw [h1] at q
        obtain ⟨a, vs, rfl, ha, hr⟩ := dic_at rh h h1
        refine ⟨a, vs, rfl, ha, fun p np => ?_⟩
        obtain ⟨r2, e2, z⟩ := new_lst rh np (ds := kv.map fun kv => kD kv.1) (vs := vs.map fun kv => kV kv.1) (by rw [List.length_map]; exact dic_len rh h h1) (keys_Rs hr)
        exact k _ _ _ _ r2 e2 z q
end
section
variable {b : BC} {X : Cx} {pos p : Pos} {e : Expr} {t : TA} {at_ : ATA} {k : Nat}
theorem de_sortedDI (hc : X.calm = true) (hm : X.mg "sorted" = none) (ha : DA b X [e] t at_ 1) (hg : Gl X "sorted" := by rfl) (he : starEach (e :: []) X.env = (false, eval e X.env) :: starEach [] X.env := by rfl) (hpl : (backTo pos (starEach [] X.env)).any (·.1) = false := by rfl) :
    DE b X (.Call (.Name "sorted" p) [e] [] pos) (tCB rSortDI t) (aCB sortDI at_) := de_cb (call_sortedDI hc) cs_sortDI hm ha (by decide +kernel) hg (by decide) (by decide) he hpl
theorem de_sortedDS (hc : X.calm = true) (hm : X.mg "sorted" = none) (ha : DA b X [e] t at_ 1) (hg : Gl X "sorted" := by rfl) (he : starEach (e :: []) X.env = (false, eval e X.env) :: starEach [] X.env := by rfl) (hpl : (backTo pos (starEach [] X.env)).any (·.1) = false := by rfl) :
    DE b X (.Call (.Name "sorted" p) [e] [] pos) (tCB rSortDS t) (aCB sortDS at_) := de_cb (call_sortedD hc) cs_sortDS hm ha (by decide +kernel) hg (by decide) (by decide) he hpl
theorem de_listDK (hc : X.calm = true) (hm : X.mg "list" = none) (ha : DA b X [e] t at_ 1) (hg : Gl X "list" := by rfl) (he : starEach (e :: []) X.env = (false, eval e X.env) :: starEach [] X.env := by rfl) (hpl : (backTo pos (starEach [] X.env)).any (·.1) = false := by rfl) :
    DE b X (.Call (.Name "list" p) [e] [] pos) (tCB rListDK t) (aCB listDK at_) := de_cty (call_listD hc) cs_listDK hm ha (by decide +kernel) hg (by decide) (by decide) he hpl
end
/-! ### xs.count(k), ints -/
@[simp] def aCnt (ao : ATE) (t : ATA) : ATE := fun sl M Q => ao sl M fun o M1 => (seqL M1 o).isSome = true ∧ t sl M1 fun ds M2 => match (seqL M2 o).bind intsOf, ds with | some ns, [.int k] => Q (.int (ns.count k : Nat)) M2 | _, _ => False
section
variable {b : BC} {X : Cx} {pos : Pos} {e1 e2 : Expr} {ta : TE} {aa : ATE} {t : TA} {at_ : ATA} {p1 p2 : Pos}
theorem de_count (ho : DE b X e1 ta aa) (ha : DA b X [e2] t at_ 1) (hbase : attributeBase e1 ("count" : Str) X.env (eval e1 X.env) = eval e1 X.env := by rfl)
    (hfew : ((backTo p2 (starEach [e2] X.env)).all (fun x => !x.1) && (backToKw p2 (keywordEach [] X.env)).all (fun x => x.1.isSome) && decide ([e2].length + ([] : List Keyword).length + (if ([] : List Keyword).isEmpty then 0 else 1) < 30)) = true := by rfl)
    (hline : (p1.endLine == p2.line) = true := by rfl) (hs : starEach [e2] X.env = (false, eval e2 X.env) :: starEach [] X.env := by rfl) (hplain : (backTo p2 (starEach [] X.env)).any (·.1) = false := by rfl) :
    DE b X (.Call (.Attribute e1 "count" p1) [e2] [] p2) (tBM X.K "list" (rCntI X.K) ta t) (aCnt aa at_) := ⟨pe_bm PySem.F.plainAttrs_list PySem.F.slot_list_count PySem.F.type_list_count mt_lcount ho.pe ha.pa hbase hfew hline hs hplain, fun Z σ H M sl Q Qa rp e q k =>
  ho.sim Z σ H M sl _ _ rp e q fun o do_ H1 M1 r1 e1 h1 q1 => by
    obtain ⟨h2, q1⟩ := q1
    obtain ⟨es, hes⟩ := Option.isSome_iff_exists.mp h2
    obtain ⟨a, vs, rfl, hv, _, _⟩ := seqL_ok r1 h1 hes
    refine ⟨.inl ⟨rfl, vs, .of hv⟩, ha.sim Z σ H1 M1 sl _ _ (rp.to r1 e1) (e.trans e1) q1 fun xs ds H2 M2 r2 e2 h3 l3 q2 => ?_⟩
    cases h3 with
    | nil => cases l3
    | cons h r =>
      cases r with
      | cons _ _ => cases l3
      | nil =>
        rename_i y dy
        cases z : (seqL M2 do_).bind intsOf with
        | none => rw [z] at q2; exact q2.elim
        | some ns =>
          rw [z] at q2
          cases h <;> first | exact q2.elim | skip
          rename_i kk
          obtain ⟨a', h4, h5⟩ := ints_at r2 (h1.mono e2.sb) z
          cases h4
          exact ⟨a, ns, kk, rfl, rfl, .of h5, k _ _ _ _ r2 (e1.trans e2) (.int _) q2⟩⟩
end
/-! ### tuples whose own object is known -/
def rTupP (K : PySem.W.Frag) : List V → Hp → VK → Prop := fun xs H Q => ∃ p ys, xs = [.ref p] ∧ SqL K H p ys ∧ ∀ l its, H l = none → Q (.ref l) (upd H l (.frz (plainT its) (.tup ys)))
theorem cr_tupP {X : Cx} : CallR X (.type "tuple") (rTupP X.K) := by
  intro pins s σ H xs us Q I r h
  obtain ⟨p, ys, rfl, hq, q⟩ := h
  obtain ⟨u, rfl, rx⟩ := vals1 r
  cases rx
  obtain ⟨its, r', pl, hz⟩ := I.list hq
  have hlen := r'.length
  refine call_tuple_list pl.isList (fun h' kp => ?_) (by simp only [List.size_toArray] <;> omega)
  have I1 : Inv X pins σ H { s with heap := h' } := I.kept (t' := s.toks) kp
  have I2 : Inv X pins σ (upd H h'.objs.size (.frz (plainT its.toArray) (.tup ys))) { s with heap := h'.push { cls := .type "tuple", data := .seq its.toArray } } :=
    I1.laid (t' := s.toks) (fun b o e => Heap.get?_push_of_some _ e) (Nat.le_refl _) (show ObjOk X.prog X.w _ _ _ (.frz (plainT its.toArray) (.tup ys)) from ⟨Heap.get?_push_size _ rfl, hz, its, r', IsTup.new _ _⟩)
  exact ⟨.ref h'.objs.size, _, I2, rfl, q _ _ (I1.hok.fresh (Nat.le_refl _))⟩
@[simp] def tupPD : ACall := fun ds M Q => match ds with | [d] => (match seqL M d with | some es => ∀ a, M a = none → Q (.ref a) (updS M a (.tp es)) | none => False) | _ => False
theorem new_tp {K : PySem.W.Frag} {T : List (Addr × Str)} {Z : Hid} {H : Hp} {M : Store} {ds : List D} {p : Addr} {vs : List V} {its : Array Value} (rh : RH K T Z H M) (np : H p = none) (n : ds.length ≤ sizeLine) (r : Rs (mkH Z H M) vs ds) :
    RH K T Z (upd H p (.frz (plainT its) (.tup vs))) (updS M p (.tp ds)) ∧ Ext H M (upd H p (.frz (plainT its) (.tup vs))) (updS M p (.tp ds)) := rh.cell np ⟨n, vs, its, upd_same, r⟩
theorem cs_tupP {b : BC} {K : PySem.W.Frag} : CallSim b K (rTupP K) tupPD := by
  intro Z H M xs ds Q Qa rh r q k
  cases r with
  | nil => exact q.elim
  | cons h r =>
    cases r with
    | cons _ _ => exact q.elim
    | nil =>
      rename_i v d
      have q : (match seqL M d with | some es => ∀ a, M a = none → Qa (.ref a) (updS M a (.tp es)) | none => False) := q
      cases z : seqL M d with
      | none => rw [z] at q; exact q.elim
      | some es =>
        rw [z] at q
        obtain ⟨a, vs, rfl, ha, hr, hn⟩ := seqL_ok rh h z
        refine ⟨a, vs, rfl, .of ha, fun l its nl => ?_⟩
        obtain ⟨r2, e2⟩ := new_tp (its := its) rh nl hn hr
        exact k _ _ _ _ r2 e2 (.ref l) (q l (rh.free nl))
section
variable {b : BC} {X : Cx} {pos p : Pos} {e : Expr} {t : TA} {at_ : ATA}
theorem de_tupP (hm : X.mg "tuple" = none) (ha : DA b X [e] t at_ 1) (hg : Gl X "tuple" := by rfl) (he : starEach (e :: []) X.env = (false, eval e X.env) :: starEach [] X.env := by rfl) (hpl : (backTo pos (starEach [] X.env)).any (·.1) = false := by rfl) :
    DE b X (.Call (.Name "tuple" p) [e] [] pos) (tCB (rTupP X.K) t) (aCB tupPD at_) := de_cty cr_tupP cs_tupP hm ha (by decide +kernel) hg (by decide) (by decide) he hpl
end
/-- walked -/
@[simp] def aSeqP (a : ATE) : ATI := fun sl M Q => a sl M fun d M1 => match d with | .ref c => (match M1 c with | some (.tp ds) => Q ds (fun M' => M' c = some (.tp ds)) M1 | _ => False) | _ => False
theorem di_seqP {b : BC} {X : Cx} {tg e : Expr} {ta : TE} {aa : ATE} (ha : DE b X e ta aa) : DI b X tg e (iAny X.K ta) (aSeqP aa) := ⟨pi_any ha.pe, fun Z σ H M sl Rc Ra rp e q k =>
  ha.sim Z σ H M sl _ _ rp e q fun v d H1 M1 r1 e1 h1 q1 => by
    cases h1 <;> first | exact q1.elim | skip
    rename_i c
    have q1 : (match M1 c with | some (.tp ds) => Ra ds (fun M' => M' c = some (.tp ds)) M1 | _ => False) := q1
    cases z : M1 c with
    | none => rw [z] at q1; exact q1.elim
    | some cl =>
      rw [z] at q1
      cases cl with
      | tp ds =>
        obtain ⟨n, vs, its, hv, hr⟩ := r1.cells c _ z
        refine ⟨.seq c true, vs, rfl, .inl (.inr ⟨_, hv⟩), k _ H1 M1 ds _ r1 e1 ⟨fun Z' i H M zx rh ex cc hi => ?_, fun Z' H M zx rh ex cc => ?_, fun Z' i H M x H' zx rh ex cc hi y => ?_, n⟩ q1⟩
        · obtain ⟨n', vs', its', hv', hr'⟩ := rh.cells c _ cc
          exact itof_go (sc := .seq c true) (xs := vs') (.inl (.inr ⟨_, hv'⟩)) (by rw [hr'.length]; exact hi)
        · obtain ⟨n', vs', its', hv', hr'⟩ := rh.cells c _ cc
          rw [← hr'.length]
          exact itof_stop (sc := .seq c true) (xs := vs') (.inl (.inr ⟨_, hv'⟩))
        · obtain ⟨n', vs', its', hv', hr'⟩ := rh.cells c _ cc
          obtain ⟨rfl, hx⟩ := itof_yld (sc := .seq c true) (xs := vs') (.inl (.inr ⟨_, hv'⟩)) y
          obtain ⟨d', h2, h3⟩ := hr'.get hx
          exact ⟨d', h2, rh, Ext.refl _ _, h3⟩
      | _ => exact q1.elim⟩
/-! its methods -/
def tBMP (r : V → List V → Hp → VK → Prop) (to : TE) (t : TA) : TE := fun σ H Q => to σ H fun x H1 => (∃ p its xs, x = .ref p ∧ H1 p = some (.frz (plainT its) (.tup xs))) ∧ t σ H1 fun vs H2 => r x vs H2 Q
theorem pe_bmP {X : Cx} {o e : Expr} {es : List Expr} {to : TE} {t : TA} {name : Str} {apos cpos : Pos} {id : String} {r : V → List V → Hp → VK → Prop} (slot : Slot "tuple" name id) (hty : typeOf (.builtin id) = pure (.type "method_descriptor")) (hm : MtR X id r) (ho : PE X o to) (ha : PA X (e :: es) t)
    (hbase : attributeBase o name X.env (eval o X.env) = eval o X.env := by rfl)
    (hfew : ((backTo cpos (starEach (e :: es) X.env)).all (fun x => !x.1) && (backToKw cpos (keywordEach [] X.env)).all (fun x => x.1.isSome)
      && decide ((e :: es).length + ([] : List Keyword).length + (if ([] : List Keyword).isEmpty then 0 else 1) < 30)) = true := by rfl)
    (hline : (apos.endLine == cpos.line) = true := by rfl) (hs : starEach (e :: es) X.env = (false, eval e X.env) :: starEach es X.env := by rfl) (hplain : (backTo cpos (starEach es X.env)).any (·.1) = false := by rfl) :
    PE X (.Call (.Attribute o name apos) (e :: es) [] cpos) (tBMP r to t) := by
  refine ⟨fun pins s σ H Q I h => ?_⟩
  refine wpAny_Call_method_late hbase hfew hline rfl (thn (ho.run pins s σ H _ I h) fun v s1 ⟨x, H1, I1, r1, ty, q1⟩ => ?_)
  obtain ⟨p, its, xs, rfl, hp⟩ := ty
  cases r1
  have hk : s1.heap.get? p = some (plainT its) := (I1.hok p _ hp).1
  refine ⟨"tuple", id, PySem.F.plainAttrs_tuple, slot, hty, ⟨_, hk, rfl⟩, (fun a e => by cases e; exact ⟨_, hk, rfl⟩), ?_⟩
  have hA := ha.run cpos pins s1 σ H1 _ I1 q1
  rw [hs] at hA ⊢
  refine Calls.callWith_builtin (by show (false || (backTo cpos (starEach es X.env)).any (·.1)) = false; rw [hplain] <;> rfl) (Calls.evalArgs_plain ?_)
  exact thn hA fun us s2 ⟨vs, H2, I2, r2, q2⟩ => hm pins s2 σ H2 (.ref p) vs (.ref p) us Q I2 rfl r2 q2
def rCntT (K : PySem.W.Frag) : V → List V → Hp → VK → Prop := fun x xs H Q => ∃ (p : Addr) (ns : List Int) (k : Int), x = .ref p ∧ xs = [.int k] ∧ SqT K H p (ns.map V.int) ∧ Q (.int (ns.count k : Nat)) H
theorem mt_tcount {X : Cx} : MtR X "tuple.count" (rCntT X.K) := by
  intro pins s σ H x xs v us Q I rx rxs h
  obtain ⟨p, ns, k, rfl, rfl, hs, q⟩ := h
  cases rx
  obtain ⟨u, rfl, ru⟩ := rxs.one
  obtain ⟨t, rfl⟩ := ru
  obtain ⟨its, rv, ⟨⟨cls, dd, data, sl⟩, ho, hc, n, hd⟩, hlen⟩ := I.tuple hs
  simp only at hc hd
  subst hc hd
  have hi := ints_of_vals rv
  refine call_meets PySem.F.slot_tuple_count ⟨_, ho, rfl⟩ PySem.F.entry_tuple_count (PySem.F.args_tuple_count_2 _ _)
    (SeqAt.tuple_countAt p its.toArray n dd sl (.int k t) (eqk k)) ⟨ho, fun y hy => (eqk_gives hi y (by simpa using hy)).at _ _, ?_⟩
  have ec : its.toArray.toList.countP (eqk k) = ns.count k := eqk_count hi
  refine ⟨.int (ns.count k : Nat), H, I.tok _, ⟨s.toks, ?_⟩, q⟩
  show Value.int ((its.toArray.toList.countP (eqk k) : Nat) : Int) s.toks = Value.int ((ns.count k : Nat) : Int) s.toks
  rw [ec]
/-- the items of a tuple of the store -/
def tpOf : Option Cell → Option (List D)
  | some (.tp ds) => some ds
  | _ => none
@[simp] def aCntT (ao : ATE) (t : ATA) : ATE := fun sl M Q => ao sl M fun o M1 => match o with
  | .ref a => (tpOf (M1 a)).isSome = true ∧ t sl M1 fun ds M2 => match (tpOf (M2 a)).bind intsOf, ds with | some ns, [.int k] => Q (.int (ns.count k : Nat)) M2 | _, _ => False
  | _ => False
theorem tpOf_some {c : Option Cell} {ds : List D} (h : tpOf c = some ds) : c = some (.tp ds) := by
  cases c with
  | none => cases h
  | some c => cases c <;> cases h; rfl
section
variable {b : BC} {X : Cx} {pos : Pos} {e1 e2 : Expr} {ta : TE} {aa : ATE} {t : TA} {at_ : ATA} {p1 p2 : Pos}
theorem de_tcount (ho : DE b X e1 ta aa) (ha : DA b X [e2] t at_ 1) (hbase : attributeBase e1 ("count" : Str) X.env (eval e1 X.env) = eval e1 X.env := by rfl)
    (hfew : ((backTo p2 (starEach [e2] X.env)).all (fun x => !x.1) && (backToKw p2 (keywordEach [] X.env)).all (fun x => x.1.isSome) && decide ([e2].length + ([] : List Keyword).length + (if ([] : List Keyword).isEmpty then 0 else 1) < 30)) = true := by rfl)
    (hline : (p1.endLine == p2.line) = true := by rfl) (hs : starEach [e2] X.env = (false, eval e2 X.env) :: starEach [] X.env := by rfl) (hplain : (backTo p2 (starEach [] X.env)).any (·.1) = false := by rfl) :
    DE b X (.Call (.Attribute e1 "count" p1) [e2] [] p2) (tBMP (rCntT X.K) ta t) (aCntT aa at_) := ⟨pe_bmP PySem.F.slot_tuple_count PySem.F.type_tuple_count mt_tcount ho.pe ha.pa hbase hfew hline hs hplain, fun Z σ H M sl Q Qa rp e q k =>
  ho.sim Z σ H M sl _ _ rp e q fun o do_ H1 M1 r1 e1 h1 q1 => by
    cases h1 <;> first | exact q1.elim | skip
    rename_i a
    obtain ⟨h2, q1⟩ := q1
    obtain ⟨es, hes⟩ := Option.isSome_iff_exists.mp h2
    obtain ⟨n, vs, its, hv, hr⟩ := r1.cells a _ (tpOf_some hes)
    refine ⟨⟨a, its, vs, rfl, hv⟩, ha.sim Z σ H1 M1 sl _ _ (rp.to r1 e1) (e.trans e1) q1 fun xs ds H2 M2 r2 e2 h3 l3 q2 => ?_⟩
    cases h3 with
    | nil => cases l3
    | cons h r =>
      cases r with
      | cons _ _ => cases l3
      | nil =>
        rename_i y dy
        cases z : (tpOf (M2 a)).bind intsOf with
        | none => rw [z] at q2; exact q2.elim
        | some ns =>
          rw [z] at q2
          cases h <;> first | exact q2.elim | skip
          rename_i kk
          cases z2 : tpOf (M2 a) with
          | none => rw [z2] at z; cases z
          | some es2 =>
            rw [z2] at z
            have e3 := intsOf_some (show intsOf es2 = some ns from z)
            subst e3
            obtain ⟨n', vs', its', hv', hr'⟩ := r2.cells a _ (tpOf_some z2)
            rw [ints_rs hr'] at hv'
            exact ⟨a, ns, kk, rfl, rfl, .inl (.inr ⟨_, hv'⟩), k _ _ _ _ r2 (e1.trans e2) (.int _) q2⟩⟩
end
end AL
set_option Elab.async false
set_option linter.all false
set_option maxRecDepth 100000
set_option maxHeartbeats 4000000
set_option autoImplicit false
/-! AL22: sorted pairs, sorted ints, ascending lists without doubles. -/
namespace AL
open PySem PySem.Spec PyProof.Rows L2 LamX
/-! ### sorted pairs -/
def leP (x y : Int × Int) : Bool := !decide (y.1 < x.1 ∨ (y.1 = x.1 ∧ y.2 < x.2))
def sortP (l : List (Int × Int)) : List (Int × Int) := l.mergeSort leP
theorem sortD_prs (l : List (Int × Int)) : sortD (l.map AL.prD) = (sortP l).map AL.prD := by
  unfold sortD sortP
  rw [List.map_mergeSort]
  intro a _ b _
  rw [PySem.W.dataLe_eq]
  show leP a b = !PySem.W.dataLt (toPy (AL.prD b)) (toPy (AL.prD a))
  rw [pr_py, pr_py, PySem.W.dataLt_ii]
  rfl
theorem prs_all (l : List (Int × Int)) : PySem.W.AllAlike ((l.map AL.prD).map toPy) := fun x hx y hy => (prs_alike l).1 x hx y hy
theorem prs_sortable (l : List (Int × Int)) : PySem.W.Sortable ((l.map AL.prD).map toPy) := .inl fun x hx => by
  obtain ⟨d, hd, rfl⟩ := List.mem_map.mp hx
  obtain ⟨p, _, rfl⟩ := List.mem_map.mp hd
  exact ⟨_, _, pr_py p⟩
theorem leP_iff {x y : Int × Int} : leP x y = true ↔ x.1 < y.1 ∨ (x.1 = y.1 ∧ x.2 ≤ y.2) := by
  unfold leP
  simp only [Bool.not_eq_true', decide_eq_false_iff_not]
  omega
theorem leP_trans (x y z : Int × Int) (h : leP x y = true) (h' : leP y z = true) : leP x z = true := by
  rw [leP_iff] at *; omega
theorem leP_total (x y : Int × Int) : (leP x y || leP y x) = true := by
  rw [Bool.or_eq_true, leP_iff, leP_iff]; omega
abbrev SrtP (l : List (Int × Int)) : Prop := l.Pairwise fun a b => leP a b = true
theorem sortP_perm (l : List (Int × Int)) : (sortP l).Perm l := List.mergeSort_perm l leP
theorem sortP_srt (l : List (Int × Int)) : SrtP (sortP l) := List.pairwise_mergeSort leP_trans leP_total l
theorem sort_prs {M : Store} {d : D} {l : List (Int × Int)} {Q : DK} (h : seqL M d = some (l.map AL.prD)) (q : Q (.lst ((sortP l).map AL.prD)) M) : sortA [d] M Q := by
  unfold sortA
  simp only [h]
  refine ⟨prs_ok (n := 58) _, prs_all _, prs_sortable _, ?_⟩
  rw [sortD_prs]
  exact q
/-! ### sorted ints -/
def sortI (l : List Int) : List Int := l.mergeSort fun a b => decide (a ≤ b)
theorem sortI_perm (l : List Int) : (sortI l).Perm l := List.mergeSort_perm l _
theorem sortI_srt (l : List Int) : (sortI l).Pairwise (· ≤ ·) := (List.pairwise_mergeSort (le := fun a b : Int => decide (a ≤ b)) (fun a b c h h' => by rw [decide_eq_true_iff] at *; omega) (fun a b => by rw [Bool.or_eq_true, decide_eq_true_iff, decide_eq_true_iff]; omega) l).imp fun h => by simpa using h
theorem sortD_ints (l : List Int) : sortD (l.map D.int) = (sortI l).map D.int := by
  unfold sortD sortI
  rw [List.map_mergeSort]
  intro a _ b _
  rw [PySem.W.dataLe_eq]
  show decide (a ≤ b) = !PySem.W.dataLt (toPy (D.int b)) (toPy (D.int a))
  rw [toPy, toPy, PySem.W.dataLt_int]
  by_cases c : a ≤ b
  · simp [c]
  · simp [c]
    omega
theorem sort_ints {M : Store} {d : D} {l : List Int} {Q : DK} (h : seqL M d = some (l.map D.int)) (q : Q (.lst ((sortI l).map D.int)) M) : sortA [d] M Q := by
  unfold sortA
  simp only [h]
  refine ⟨okDs_ints l, fun x hx y hy => (int_alike l).1 x hx y hy, .inr fun x hx => ?_, ?_⟩
  · obtain ⟨d, hd, rfl⟩ := List.mem_map.mp hx
    obtain ⟨i, _, rfl⟩ := List.mem_map.mp hd
    exact ⟨(fun z => by rw [toPy] at z; cases z), (fun xs z => by rw [toPy] at z; cases z)⟩
  · rw [sortD_ints]
    exact q
/-! ### ascending, without doubles -/
abbrev Asc (l : List Int) : Prop := l.Pairwise (· < ·)
def insU (x : Int) : List Int → List Int
  | [] => [x]
  | y :: r => if x < y then x :: y :: r else if x = y then y :: r else y :: insU x r
def uni (l : List Int) : List Int := l.foldr insU []
theorem mem_insU {x z : Int} : ∀ {l : List Int}, z ∈ insU x l ↔ z = x ∨ z ∈ l
  | [] => by simp [insU]
  | y :: r => by
    unfold insU
    split
    · simp
    · split
      · rename_i h; subst h; simp
      · rw [List.mem_cons, mem_insU, List.mem_cons]
        constructor
        · rintro (h | h | h) <;> simp [h]
        · rintro (h | h | h) <;> simp [h]
theorem insU_asc {x : Int} : ∀ {l : List Int}, Asc l → Asc (insU x l)
  | [], _ => List.pairwise_singleton _ _
  | y :: r, h => by
    have h' := List.pairwise_cons.mp h
    unfold insU
    split
    · rename_i c
      exact List.pairwise_cons.mpr ⟨fun z hz => by
        rcases List.mem_cons.mp hz with rfl | hz
        · exact c
        · have := h'.1 z hz; omega, h⟩
    · split
      · exact h
      · refine List.pairwise_cons.mpr ⟨fun z hz => ?_, insU_asc h'.2⟩
        rcases mem_insU.mp hz with rfl | hz
        · omega
        · exact h'.1 z hz
theorem mem_uni {z : Int} : ∀ {l : List Int}, z ∈ uni l ↔ z ∈ l
  | [] => by simp [uni]
  | x :: l => by
    show z ∈ insU x (uni l) ↔ _
    rw [mem_insU, mem_uni, List.mem_cons]
theorem uni_asc : ∀ l : List Int, Asc (uni l)
  | [] => List.Pairwise.nil
  | x :: l => insU_asc (uni_asc l)
theorem asc_eq : ∀ {l m : List Int}, Asc l → Asc m → (∀ z, z ∈ l ↔ z ∈ m) → l = m
  | [], [], _, _, _ => rfl
  | [], y :: m, _, _, h => by have := (h y).mpr List.mem_cons_self; cases this
  | x :: l, [], _, _, h => by have := (h x).mp List.mem_cons_self; cases this
  | x :: l, y :: m, hl, hm, h => by
    have h1 := List.pairwise_cons.mp hl
    have h2 := List.pairwise_cons.mp hm
    have e : x = y := by
      rcases List.mem_cons.mp ((h x).mp List.mem_cons_self) with e | m1
      · exact e
      · rcases List.mem_cons.mp ((h y).mpr List.mem_cons_self) with e | m2
        · exact e.symm
        · have := h2.1 x m1; have := h1.1 y m2; omega
    subst e
    congr 1
    refine asc_eq h1.2 h2.2 fun z => ⟨fun hz => ?_, fun hz => ?_⟩
    · rcases List.mem_cons.mp ((h z).mp (List.mem_cons_of_mem _ hz)) with e | m1
      · have := h1.1 z hz; omega
      · exact m1
    · rcases List.mem_cons.mp ((h z).mpr (List.mem_cons_of_mem _ hz)) with e | m1
      · have := h2.1 z hz; omega
      · exact m1
theorem uni_of {l m : List Int} (h : Asc m) (e : ∀ z, z ∈ m ↔ z ∈ l) : m = uni l := asc_eq h (uni_asc l) fun z => by rw [e z, mem_uni]
/-- ascending and without doubles -/
theorem asc_of {l : List Int} (h : l.Pairwise (· ≤ ·)) (n : l.Nodup) : Asc l := (List.pairwise_and_iff.mpr ⟨h, n⟩).imp fun ⟨h1, h2⟩ => by omega
/-! ### the keys of a dict that is filled -/
theorem any_key (k : Key) : ∀ ds : List (Key × D), (ds.any fun kv => decide (kv.1 = k)) = true ↔ k ∈ ds.map (·.1)
  | [] => by simp
  | x :: r => by
    rw [List.any_cons, Bool.or_eq_true, any_key k r, List.map_cons, List.mem_cons, decide_eq_true_iff]
    exact ⟨fun h => h.imp (fun e => e.symm) id, fun h => h.imp (fun e => e.symm) id⟩
theorem keys_put (ds : List (Key × D)) (k : Key) (d : D) : (k ∈ ds.map (·.1) ∧ (putD ds k d).map (·.1) = ds.map (·.1)) ∨ (k ∉ ds.map (·.1) ∧ (putD ds k d).map (·.1) = ds.map (·.1) ++ [k]) := by
  unfold putD
  by_cases c : (ds.any fun kv => decide (kv.1 = k)) = true
  · rw [if_pos c, List.map_map]
    refine .inl ⟨(any_key k ds).mp c, List.map_congr_left fun x _ => ?_⟩
    simp only [Function.comp]
    split <;> rfl
  · rw [if_neg c, List.map_append]
    exact .inr ⟨fun z => c ((any_key k ds).mpr z), rfl⟩
theorem nodup_put {ds : List (Key × D)} (h : (ds.map (·.1)).Nodup) (k : Key) (d : D) : ((putD ds k d).map (·.1)).Nodup := by
  rcases keys_put ds k d with ⟨c, e⟩ | ⟨c, e⟩
  · rw [e]; exact h
  · rw [e]
    exact List.nodup_append.mpr ⟨h, List.pairwise_singleton _ _, fun a ha b hb => by
      obtain rfl := List.mem_singleton.mp hb
      exact fun z => c (z ▸ ha)⟩
theorem mem_put {ds : List (Key × D)} {k j : Key} {d : D} : j ∈ (putD ds k d).map (·.1) ↔ j = k ∨ j ∈ ds.map (·.1) := by
  rcases keys_put ds k d with ⟨c, e⟩ | ⟨c, e⟩
  · rw [e]
    exact ⟨.inr, fun h => h.elim (fun e => by rw [e]; exact c) id⟩
  · rw [e, List.mem_append, List.mem_singleton]
    exact Or.comm
theorem valK_cons (x : Key × D) (r : List (Key × D)) (j : Key) : valK (x :: r) j = if x.1 = j then some x.2 else valK r j := by
  unfold valK
  rw [List.find?_cons]
  by_cases c : x.1 = j
  · simp [c]
  · simp [c]
theorem valK_repl (k : Key) (d : D) (j : Key) : ∀ ds : List (Key × D), valK (ds.map fun kv => if kv.1 = k then (kv.1, d) else kv) j = if j = k then (if (ds.any fun kv => decide (kv.1 = k)) = true then some d else none) else valK ds j
  | [] => by simp [valK]
  | x :: r => by
    rw [List.map_cons, valK_cons, valK_repl k d j r, valK_cons, List.any_cons]
    by_cases c1 : x.1 = k
    · by_cases c2 : j = k
      · subst c2; simp [c1]
      · have c3 : ¬ k = j := fun z => c2 z.symm
        simp [c1, c2, c3]
    · by_cases c2 : j = k
      · subst c2
        rw [if_neg c1, if_neg c1, if_pos rfl, if_pos rfl, decide_eq_false c1, Bool.false_or]
      · simp [c1, c2]
theorem valK_snoc (k : Key) (d : D) (j : Key) : ∀ ds : List (Key × D), (ds.any fun kv => decide (kv.1 = k)) = false → valK (ds ++ [(k, d)]) j = if j = k then some d else valK ds j
  | [], _ => by
    rw [List.nil_append, valK_cons]
    by_cases c : j = k
    · subst c; simp
    · have c' : ¬ k = j := fun z => c z.symm
      simp [c, c', valK]
  | x :: r, h => by
    rw [List.any_cons, Bool.or_eq_false_iff] at h
    have h1 := of_decide_eq_false h.1
    rw [List.cons_append, valK_cons, valK_snoc k d j r h.2, valK_cons]
    by_cases c : j = k
    · subst c; simp [h1]
    · simp [c]
theorem valK_put (ds : List (Key × D)) (k j : Key) (d : D) : valK (putD ds k d) j = if j = k then some d else valK ds j := by
  unfold putD
  split
  · rename_i h
    rw [valK_repl, h]
    simp
  · rename_i h
    exact valK_snoc k d j ds (Bool.eq_false_iff.mpr h)
/-- {key: value for x in xs}: what its keys are -/
theorem dcL_ints {α : Type} {chk : Store → Prop} {ag : ATG} {tt : ATT} {tk tv : ATE} {sl : SL} {Q : List (Key × D) → Store → Prop} {M : Store} (pr : α → D) (g : α → Int) (hc : chk M)
    (h : ∀ (x : α) (k : List (Key × D) → Store → Prop) (acc : List (Key × D)), (∀ d, k (putD acc (.inl (g x)) d) M) → ag (pr x) sl M fun sl1 M1 => tt sl1 M1 fun c M2 => if c = true then tk sl1 M2 fun y M3 => tv sl1 M3 fun z M4 => (match keyD y with | some key => k (putD acc key z) M4 | none => False) else k acc M2) :
    ∀ (xs : List α) (acc : List (Key × D)), (acc.map (·.1)).Nodup → (∀ j ∈ acc.map (·.1), ∃ i, j = Sum.inl i) → (∀ (kv : List (Key × D)) (ks : List Int), kv.map (·.1) = ks.map Sum.inl → ks.Nodup → kv.length ≤ acc.length + xs.length → (∀ i : Int, i ∈ ks ↔ Sum.inl i ∈ acc.map (·.1) ∨ i ∈ xs.map g) → Q kv M) → dcL chk ag tt tk tv sl (xs.map pr) acc M Q
  | [], acc, nd, hk, q => by
    refine ⟨hc, ?_⟩
    obtain ⟨ks, e⟩ : ∃ ks : List Int, acc.map (·.1) = ks.map Sum.inl := by
      clear q nd
      generalize acc.map (·.1) = l at hk
      induction l with
      | nil => exact ⟨[], rfl⟩
      | cons x r ih =>
        obtain ⟨i, rfl⟩ := hk x List.mem_cons_self
        obtain ⟨ks, e⟩ := ih fun j m => hk j (List.mem_cons_of_mem _ m)
        exact ⟨i :: ks, by rw [e]; rfl⟩
    refine q acc ks e ?_ (by simp) fun i => ?_
    · rw [e] at nd
      exact (List.pairwise_map.mp nd).imp fun h z => h (congrArg Sum.inl z)
    · rw [e]
      simp
  | x :: xs, acc, nd, hk, q => by
    refine ⟨hc, ?_⟩
    refine h x (fun acc' M' => dcL chk ag tt tk tv sl (xs.map pr) acc' M' Q) acc fun d => ?_
    refine dcL_ints pr g hc h xs _ (nodup_put nd _ _) (fun j hj => ?_) fun kv ks e n l m => q kv ks e n ?_ fun i => ?_
    · rcases mem_put.mp hj with e | m
      · exact ⟨_, e⟩
      · exact hk j m
    · have := putD_len acc (.inl (g x)) d
      rw [List.length_cons]; omega
    · rw [m i, mem_put, List.map_cons, List.mem_cons]
      have : (Sum.inl i : Key) = Sum.inl (g x) ↔ i = g x := ⟨fun h => Sum.inl.inj h, fun h => congrArg _ h⟩
      rw [this]
      constructor
      · rintro ((h | h) | h) <;> simp [h]
      · rintro (h | h | h) <;> simp [h]
/-! ### numbers below one -/
def idxs (n : Nat) : List Int := (List.range n).map fun i => ((i : Nat) : Int)
theorem idxs_nodup (n : Nat) : (idxs n).Nodup := List.Pairwise.map _ (fun a b ne e => ne (by omega)) List.nodup_range
theorem idxs_len (n : Nat) : (idxs n).length = n := by simp [idxs]
theorem mem_idxs {n : Nat} {x : Int} : x ∈ idxs n ↔ 0 ≤ x ∧ x < n := by
  unfold idxs
  rw [List.mem_map]
  constructor
  · rintro ⟨j, hj, rfl⟩
    have := List.mem_range.mp hj
    omega
  · exact fun h => ⟨x.toNat, List.mem_range.mpr (by omega), by omega⟩
theorem sub_len : ∀ {l m : List Int}, l.Nodup → (∀ x ∈ l, x ∈ m) → l.length ≤ m.length
  | [], _, _, _ => Nat.zero_le _
  | x :: l, m, n, h => by
    rw [List.nodup_cons] at n
    have hx := h x List.mem_cons_self
    have := sub_len (l := l) (m := m.erase x) n.2 fun y hy => (List.mem_erase_of_ne (fun e => n.1 (by rw [← e]; exact hy))).mpr (h y (List.mem_cons_of_mem _ hy))
    rw [List.length_erase_of_mem hx] at this
    have := List.length_pos_of_mem hx
    rw [List.length_cons]; omega
end AL
set_option Elab.async false
set_option linter.all false
set_option maxRecDepth 100000
set_option maxHeartbeats 4000000
set_option autoImplicit false
/-! AL23: a if t else b as a test. -/
namespace AL
open PySem PySem.Spec PyProof.Rows L2 LamX
section
variable {b : BC} {X : Cx} {pos : Pos} {e1 e2 e3 : Expr} {tA tB' tC' : TT} {aA aB aC' : ATT}
def tIfT (t ta tb : TT) : TT := fun σ H Q => t σ H fun c H1 => if c = true then ta σ H1 Q else tb σ H1 Q
theorem pt_ifExp (hc : PT X e1 tA) (ha : PT X e2 tB') (hb : PT X e3 tC') : PT X (.IfExp e1 e2 e3 pos) (tIfT tA tB' tC') := by
  refine ⟨fun pins s σ H Q I h => ?_⟩
  refine PyProof.Rows.isTrue_IfExp (thn (hc.run pins s σ H _ I h) fun d s1 ⟨H1, I1, q1⟩ => ?_)
  cases d with
  | true => exact ha.run pins s1 σ H1 Q I1 q1
  | false => exact hb.run pins s1 σ H1 Q I1 q1
@[simp] def aIfT (c a d : ATT) : ATT := fun sl M Q => c sl M fun x M1 => if x = true then a sl M1 Q else d sl M1 Q
theorem dt_ifexp (hc : DT b X e1 tA aA) (ha : DT b X e2 tB' aB) (hb : DT b X e3 tC' aC') : DT b X (.IfExp e1 e2 e3 pos) (tIfT tA tB' tC') (aIfT aA aB aC') := ⟨pt_ifExp hc.pt ha.pt hb.pt, fun Z σ H M sl Q Qa rp e q k =>
  hc.sim Z σ H M sl _ _ rp e q fun c H1 M1 r1 e1 q1 => by
    cases c
    · exact hb.sim Z σ H1 M1 sl _ _ (rp.to r1 e1) (e.trans e1) q1 fun x H2 M2 r2 e2 q2 => k x H2 M2 r2 (e1.trans e2) q2
    · exact ha.sim Z σ H1 M1 sl _ _ (rp.to r1 e1) (e.trans e1) q1 fun x H2 M2 r2 e2 q2 => k x H2 M2 r2 (e1.trans e2) q2⟩
end
end AL
set_option Elab.async false
set_option linter.all false
set_option maxRecDepth 100000
set_option maxHeartbeats 4000000
set_option autoImplicit false
/-! AL24: texts: signs in a text, turned round, glued, told apart, read as ints; a dict walked by its keys. -/
namespace AL
open PySem PySem.Spec PyProof.Rows L2 LamX
/-! ### x is True -/
@[simp] def isB (neg : Bool) : R2A := fun d e M Q => match d, e with | .bl x, .bl y => Q (.bl (neg != decide (x = y))) M | _, _ => False
section
variable {b : BC} {X : Cx} {pos : Pos} {e1 e2 : Expr} {ta tb : TE} {aa ab : ATE} {k : Nat}
theorem os_isB {b : BC} {K : PySem.W.Frag} : OpSim b K (fun x y H Q => ∃ a b, x = .bl a ∧ y = .bl b ∧ Q (.bl (decide (a = b))) H) (isB false) := by
  intro Z H M x y d e Q Qa rh hx hy q k
  cases hx <;> first | exact q.elim | skip
  cases hy <;> first | exact q.elim | skip
  exact ⟨_, _, rfl, rfl, k _ _ H M rh (Ext.refl H M) (.bl _) (by simpa using q)⟩
theorem os_isnB {b : BC} {K : PySem.W.Frag} : OpSim b K (fun x y H Q => ∃ a b, x = .bl a ∧ y = .bl b ∧ Q (.bl (!decide (a = b))) H) (isB true) := by
  intro Z H M x y d e Q Qa rh hx hy q k
  cases hx <;> first | exact q.elim | skip
  cases hy <;> first | exact q.elim | skip
  exact ⟨_, _, rfl, rfl, k _ _ H M rh (Ext.refl H M) (.bl _) (by simpa using q)⟩
abbrev rIsB : R2 := fun x y H Q => ∃ a b, x = .bl a ∧ y = .bl b ∧ Q (.bl (decide (a = b))) H
abbrev rIsnB : R2 := fun x y H Q => ∃ a b, x = .bl a ∧ y = .bl b ∧ Q (.bl (!decide (a = b))) H
theorem de_isB (ha : DE b X e1 ta aa) (hb : DE b X e2 tb ab) (hm : behindInMarks .Is e2 = false := by with_unfolding_all rfl) : DE b X (.Compare e1 [.Is] [e2] pos) (tOp rIsB ta tb) (aOp (isB false) aa ab) := ⟨pe_cmpR op_is_bl ha.pe hb.pe hm, sim_op os_isB ha.sim hb.sim⟩
theorem de_isnB (ha : DE b X e1 ta aa) (hb : DE b X e2 tb ab) (hm : behindInMarks .IsNot e2 = false := by with_unfolding_all rfl) : DE b X (.Compare e1 [.IsNot] [e2] pos) (tOp rIsnB ta tb) (aOp (isB true) aa ab) := ⟨pe_cmpR op_isnot_bl ha.pe hb.pe hm, sim_op os_isnB ha.sim hb.sim⟩
theorem dt_isB (ha : DE b X e1 ta aa) (hb : DE b X e2 tb ab) (hm : behindInMarks .Is e2 = false := by with_unfolding_all rfl) : DT b X (.Compare e1 [.Is] [e2] pos) (tB (tOp rIsB ta tb)) (aBool (aOp (isB false) aa ab)) := ⟨pt_cmpR op_is_bl ha.pe hb.pe hm, sim_bool (de_isB (pos := pos) ha hb hm).sim⟩
theorem dt_isnB (ha : DE b X e1 ta aa) (hb : DE b X e2 tb ab) (hm : behindInMarks .IsNot e2 = false := by with_unfolding_all rfl) : DT b X (.Compare e1 [.IsNot] [e2] pos) (tB (tOp rIsnB ta tb)) (aBool (aOp (isB true) aa ab)) := ⟨pt_cmpR op_isnot_bl ha.pe hb.pe hm, sim_bool (de_isnB (pos := pos) ha hb hm).sim⟩
end
/-! ### a sign in a text -/
def oneS (z : Str) : Option Nat := match z.cps.toList with | [c] => some c | _ => none
theorem oneS_some {z : Str} {c : Nat} (h : oneS z = some c) : z = ⟨#[c]⟩ := by
  unfold oneS at h
  split at h
  · rename_i d e
    cases h
    exact Str.ext' (Array.toList_inj.mp e)
  · cases h
def inS (neg : Bool) : R2A := fun d e M Q => match d, e with | .str x, .str y => (match oneS x with | some c => Q (.bl (neg != decide (c ∈ y.cps.toList))) M | none => False) | _, _ => False
section
variable {b : BC} {X : Cx} {pos : Pos} {e1 e2 : Expr} {ta tb : TE} {aa ab : ATE} {k : Nat}
abbrev rInS : R2 := fun x y H Q => ∃ (c : Nat) (z : Str), x = .str ⟨#[c]⟩ ∧ y = .str z ∧ Q (.bl (decide (c ∈ z.cps.toList))) H
abbrev rNinS : R2 := fun x y H Q => ∃ (c : Nat) (z : Str), x = .str ⟨#[c]⟩ ∧ y = .str z ∧ Q (.bl (!decide (c ∈ z.cps.toList))) H
theorem os_inS {b : BC} {K : PySem.W.Frag} : OpSim b K rInS (inS false) := by
  intro Z H M x y d e Q Qa rh hx hy q k
  cases hx <;> first | exact q.elim | skip
  cases hy <;> first | exact q.elim | skip
  rename_i i j
  have q : (match oneS i with | some c => Qa (.bl (false != decide (c ∈ j.cps.toList))) M | none => False) := q
  cases z : oneS i with
  | none => rw [z] at q; exact q.elim
  | some c =>
    rw [z] at q
    rw [oneS_some z]
    exact ⟨c, j, rfl, rfl, k _ _ H M rh (Ext.refl H M) (.bl _) (by simpa using q)⟩
theorem os_ninS {b : BC} {K : PySem.W.Frag} : OpSim b K rNinS (inS true) := by
  intro Z H M x y d e Q Qa rh hx hy q k
  cases hx <;> first | exact q.elim | skip
  cases hy <;> first | exact q.elim | skip
  rename_i i j
  have q : (match oneS i with | some c => Qa (.bl (true != decide (c ∈ j.cps.toList))) M | none => False) := q
  cases z : oneS i with
  | none => rw [z] at q; exact q.elim
  | some c =>
    rw [z] at q
    rw [oneS_some z]
    exact ⟨c, j, rfl, rfl, k _ _ H M rh (Ext.refl H M) (.bl _) (by simpa using q)⟩
theorem de_inS (ha : DE b X e1 ta aa) (hb : DE b X e2 tb ab) (hm : behindInMarks .In e2 = false := by with_unfolding_all rfl) : DE b X (.Compare e1 [.In] [e2] pos) (tOp rInS ta tb) (aOp (inS false) aa ab) := ⟨pe_cmpR op_in_sign ha.pe hb.pe hm, sim_op os_inS ha.sim hb.sim⟩
theorem de_ninS (ha : DE b X e1 ta aa) (hb : DE b X e2 tb ab) (hm : behindInMarks .NotIn e2 = false := by with_unfolding_all rfl) : DE b X (.Compare e1 [.NotIn] [e2] pos) (tOp rNinS ta tb) (aOp (inS true) aa ab) := ⟨pe_cmpR op_notIn_sign ha.pe hb.pe hm, sim_op os_ninS ha.sim hb.sim⟩
theorem dt_inS (ha : DE b X e1 ta aa) (hb : DE b X e2 tb ab) (hm : behindInMarks .In e2 = false := by with_unfolding_all rfl) : DT b X (.Compare e1 [.In] [e2] pos) (tB (tOp rInS ta tb)) (aBool (aOp (inS false) aa ab)) := ⟨pt_cmpR op_in_sign ha.pe hb.pe hm, sim_bool (de_inS (pos := pos) ha hb hm).sim⟩
theorem dt_ninS (ha : DE b X e1 ta aa) (hb : DE b X e2 tb ab) (hm : behindInMarks .NotIn e2 = false := by with_unfolding_all rfl) : DT b X (.Compare e1 [.NotIn] [e2] pos) (tB (tOp rNinS ta tb)) (aBool (aOp (inS true) aa ab)) := ⟨pt_cmpR op_notIn_sign ha.pe hb.pe hm, sim_bool (de_ninS (pos := pos) ha hb hm).sim⟩
end
/-! ### a dict that nobody else holds, walked by its keys -/
def iKeysF (td : TE) : TI := fun σ H R => td σ H fun x H1 => ∃ d kvs, x = .ref d ∧ H1 d = some (.dK kvs) ∧ ∀ o, R (Itk d o kvs) (upd H1 d (.frz o (.dK kvs)))
theorem pi_keysF {X : Cx} {tg e : Expr} {td : TE} (he : PE X e td) : PI X tg e (iKeysF td) := by
  refine ⟨fun pins s σ H R I h => ?_⟩
  refine thn (he.run pins s σ H _ I h) fun u s1 ⟨x, H1, I1, rx, d, kvs, ex, hd, q⟩ => ?_
  subst ex
  obtain rfl : u = Value.ref d := rx
  obtain ⟨o, I2⟩ := I1.lock hd trivial
  obtain ⟨hs, hgd, hx, es, ep, vs, hdt, hsz, kv, hm⟩ := I2.frzK upd_same
  refine iter_keys hs hgd hx hdt (pi_one (tk := s1.toks) I2 _ (turn_keys _ hdt) ⟨_, Heap.get?_push_size _ rfl, rfl, ?_⟩ (q o))
  rw [hsz] <;> rfl
@[simp] def aKeysF (a : ATE) : ATI := fun sl M Q => a sl M fun d M1 => match d with | .ref c => (match M1 c with | some (.dic kvs) => Q (kvs.map fun kv => kD kv.1) (fun _ => True) (delS M1 c) | _ => False) | _ => False
theorem frz_dic {K : PySem.W.Frag} {T : List (Addr × Str)} {Z : Hid} {H : Hp} {M : Store} {c : Addr} {ds : List (Key × D)} {vs : List (Key × V)} {o : Obj} (rh : RH K T Z H M) (z : M c = some (.dic ds)) (hv : H c = some (.dK vs)) :
    RH K T Z (upd H c (.frz o (.dK vs))) (delS M c) ∧ Ext H M (upd H c (.frz o (.dK vs))) (delS M c) := by
  have zc : Z c = false := rh.dis c (by rw [z]; exact fun x => by cases x)
  have ne : ∀ b, visM (M b) = true → b ≠ c := fun b e x => by rw [x, z] at e; cases e
  have ex : Ext H M (upd H c (.frz o (.dK vs))) (delS M c) := fun b u h1 h2 _ => ⟨by rw [delS_ne (ne b h1)]; exact h1, by rw [upd_ne (ne b h1)]; exact h2⟩
  refine ⟨⟨fun b cl e => ?_, tabs_upd rh.tabs hv (fun ps x => by cases x) (fun _ _ x => by cases x), fun y hy => ?_, fun b hb => ?_⟩, ex⟩
  · have nb : b ≠ c := fun x => by rw [x, delS_same] at e; cases e
    rw [delS_ne nb] at e
    exact (rh.cells b cl e).mono ex.sb (by rw [upd_ne nb])
  · have ny : y ≠ c := fun x => by rw [x, zc] at hy; cases hy
    obtain ⟨u, h1, h2⟩ := rh.hid y hy
    exact ⟨u, by rw [upd_ne ny]; exact h1, h2⟩
  · refine rh.dis b fun x => hb ?_
    unfold delS
    split
    · rfl
    · exact x
theorem di_keysF {b : BC} {X : Cx} {tg e : Expr} {ta : TE} {aa : ATE} (ha : DE b X e ta aa) : DI b X tg e (iKeysF ta) (aKeysF aa) := ⟨pi_keysF ha.pe, fun Z σ H M sl Rc Ra rp e q k =>
  ha.sim Z σ H M sl _ _ rp e q fun v d H1 M1 r1 e1 h1 q1 => by
    cases h1 <;> first | exact q1.elim | skip
    rename_i c
    have q1 : (match M1 c with | some (.dic kvs) => Ra (kvs.map fun kv => kD kv.1) (fun _ => True) (delS M1 c) | _ => False) := q1
    cases z : M1 c with
    | none => rw [z] at q1; exact q1.elim
    | some cl =>
      rw [z] at q1
      cases cl with
      | dic ds =>
        obtain ⟨n, vs, hv, hr⟩ := r1.cells c _ z
        refine ⟨c, vs, rfl, hv, fun o => ?_⟩
        obtain ⟨r2, e2⟩ := frz_dic (o := o) r1 z hv
        have at_ : ∀ {H : Hp} {M : Store}, Ext (upd H1 c (.frz o (.dK vs))) (delS M1 c) H M → H c = some (.frz o (.dK vs)) := fun ex => (ex c _ (vis_none delS_same) upd_same (fun ps x => by cases x)).2
        have lk : vs.map (·.1) = ds.map (·.1) := hr.keys
        have ln : vs.length = ds.length := by simpa using congrArg List.length lk
        refine k _ _ _ (ds.map fun kv => kD kv.1) _ r2 (e1.trans e2) ⟨fun Z' i H M zx rh ex cc hi => ?_, fun Z' H M zx rh ex cc => ?_, fun Z' i H M x H' zx rh ex cc hi y => ?_, ?_⟩ q1
        · rw [List.length_map] at hi
          exact ⟨at_ ex, by rw [ln]; exact hi⟩
        · rw [List.length_map]
          exact ⟨at_ ex, by rw [ln]; exact Nat.le_refl _⟩
        · obtain ⟨rfl, kk, v, h2, rfl⟩ := y
          have e3 : (ds.map (·.1))[i]? = some kk := by rw [← lk, List.getElem?_map, h2]; rfl
          have e4 : (ds.map fun kv => kD kv.1)[i]? = some (kD kk) := by
            have : (ds.map fun kv => kD kv.1) = (ds.map (·.1)).map kD := by rw [List.map_map]; rfl
            rw [this, List.getElem?_map, e3]; rfl
          exact ⟨kD kk, e4, rh, Ext.refl _ _, kD_R kk⟩
        · rw [List.length_map]; exact n
      | _ => exact q1.elim⟩
/-! ### turned round -/
def revS (z : Str) : Str := ⟨z.cps.toList.reverse.toArray⟩
theorem revS_pick (z : Str) (u : Tok) : (⟨((PySem.slicePicked z none none (some (-1, u))).filterMap (z.cps[·]?)).toArray⟩ : Str) = revS z := by
  have e := step_rev_list z u
  unfold Txt.sliceBy at e
  have h1 : ¬ (((((some ((-1 : Int), u)).map (·.1)).getD 1 == 1) && ((slicePicked z none none (some (-1, u))).length == z.length)) = true) := by
    have : ((((some ((-1 : Int), u)).map (·.1)).getD 1 == 1)) = false := rfl
    rw [this]; simp
  rw [if_neg h1] at e
  refine Str.ext' (Array.toList_inj.mp (e.trans ?_))
  show _ = z.cps.toList.reverse
  refine List.ext_getElem? fun i => ?_
  rcases Nat.lt_or_ge i z.length with c | c
  · have c' : i < z.cps.toList.length := by simpa [Str.length] using c
    rw [List.getElem?_map, List.getElem?_range c, List.getElem?_reverse c']
    have c2 : z.cps.toList.length - 1 - i < z.cps.toList.length := by omega
    rw [List.getElem?_eq_getElem c2]
    have c3 : z.length - 1 - i < z.cps.size := by show _ < z.length; omega
    have c4 : z.cps.size - 1 - i < z.cps.size := c3
    simp [Array.getD, c4, Str.length]
  · have c' : z.cps.toList.length ≤ i := by simpa [Str.length] using c
    rw [List.getElem?_eq_none (by simpa using c), List.getElem?_eq_none (by simpa using c')]
def rRevX (K : PySem.W.Frag) : V → Hp → VK → Prop := fun x H Q => (∃ a xs, x = .ref a ∧ SqL K H a xs ∧ ∀ p, H p = none → Q (.ref p) (upd H p (.lst xs.reverse))) ∨ (∃ z, x = .str z ∧ z.length ≤ sizeLine ∧ Q (.str (revS z)) H)
theorem pe_revX {X : Cx} {e : Expr} {te : TE} {k : Nat} {p1 p2 p3 pos : Pos} (he : PE X e te) : PE X (.Subscript e (.Slice none none (some (.UnaryOp .USub (.Constant (.int 1) k p1) p2)) p3) pos) (fun σ H Q => te σ H fun x H1 => rRevX X.K x H1 Q) := by
  refine ⟨fun pins s σ H Q I h => ?_⟩
  refine Subscript_ (thn (he.run pins s σ H _ I h) fun v s1 ⟨x, H1, I1, r1, q1⟩ => ?_)
  have hst : PO X (some (.UnaryOp .USub (.Constant (.int 1) k p1) p2)) (tPart (tUn (rU fun i => .int (-i)) (tC (.int 1)))) := po_some (pe_un un_neg pe_int)
  refine wpAny_Slice (thn (po_none.run pins s1 σ H1 (fun o H2 => o = none ∧ H2 = H1) I1 ⟨rfl, rfl⟩) fun vl s2 ⟨l, H2, I2, pl, el, e2⟩ => ?_)
  subst el e2
  refine thn (po_none.run pins s2 σ H2 (fun o H3 => o = none ∧ H3 = H2) I2 ⟨rfl, rfl⟩) fun vu s3 ⟨u, H3, I3, pu, eu, e3⟩ => ?_
  subst eu e3
  refine thn (hst.run pins s3 σ H3 (fun o H4 => o = some (-1) ∧ H4 = H3) I3 ⟨1, rfl, -1, rfl, rfl, rfl⟩) fun vs s4 ⟨o, H4, I4, ps, eo, e4⟩ => ?_
  subst eo e4
  have I5 : Inv X pins σ H4 { s4 with heap := s4.heap.push { cls := .type "slice", data := .fields #[vl, vu, vs] } } := I4.kept (t' := s4.toks) fun b ob q => Heap.get?_push_of_some _ q
  rcases q1 with ⟨a, xs, ex, hx, q⟩ | ⟨z, ex, hz, q⟩
  · subst ex
    cases r1
    obtain ⟨its, r, ht, hz⟩ := I5.list hx
    have hlen := r.length
    show wpAny (model X.prog X.w) X.A (subscriptTail e (.Slice none none (some (.UnaryOp .USub (.Constant (.int 1) k p1) p2)) p3) (.ref a) (.ref s4.heap.objs.size)) (EP X pins σ Q) X.xe { s4 with heap := s4.heap.push { cls := .type "slice", data := .fields #[vl, vu, vs] } }
    refine tail_any (ops := [.ref a, .ref s4.heap.objs.size]) ht.isList.typeIs (PySem.slot_list_getitem.lookup) ?_ (by with_unfolding_all rfl)
    refine wpAny_getItem_list_slice ht.isList (Heap.IsSliceOf.new _ vl vu vs) pl pu ps (by decide) ?_ (by rw [List.size_toArray]; omega)
    rw [PySem.W.krv_pick]
    refine ⟨.ref _, _, I5.laid (t' := s4.toks) (o := .lst xs.reverse) (fun b ob q => Heap.get?_push_of_some _ q) (Nat.le_refl _) ?_, rfl, q _ (I5.hok.fresh (Nat.le_refl _))⟩
    exact ⟨by rw [List.length_reverse]; exact hz, _, 0, r.reverse, Heap.get?_push_size _ rfl⟩
  · subst ex
    obtain ⟨t, rfl⟩ := r1
    show wpAny (model X.prog X.w) X.A (subscriptTail e (.Slice none none (some (.UnaryOp .USub (.Constant (.int 1) k p1) p2)) p3) (.str z t) (.ref s4.heap.objs.size)) (EP X pins σ Q) X.xe { s4 with heap := s4.heap.push { cls := .type "slice", data := .fields #[vl, vu, vs] } }
    refine tail_any (T := "str") (ops := [.ref s4.heap.objs.size]) (typeIs_str _ _ _) F.slot_str_getitem.lookup ?_ (by with_unfolding_all rfl)
    obtain ⟨l, rfl, hl⟩ := IsPart.raw pl
    obtain ⟨u, rfl, hu⟩ := IsPart.raw pu
    obtain ⟨st, rfl, hst⟩ := IsPart.raw ps
    cases l with
    | some _ => cases hl
    | none =>
      cases u with
      | some _ => cases hu
      | none =>
        cases st with
        | none => cases hst
        | some st =>
          obtain ⟨i, tk⟩ := st
          have : i = -1 := by simpa using hst
          subst this
          refine wpAny_getItem_str_slice (l := none) (u := none) (st := some (-1, tk)) ⟨_, Heap.get?_push_size _ rfl, rfl, rfl⟩ rfl ?_
          show Made.post (sliceMade z t none none (some (-1, tk))) (EP X pins σ Q) _
          unfold sliceMade
          have h1 : ¬ ((((some ((-1 : Int), tk)).map (·.1)).getD 1 == 1 && (slicePicked z none none (some (-1, tk))).length == z.length) = true) := by
            have : ((((some ((-1 : Int), tk)).map (·.1)).getD 1 == 1)) = false := rfl
            rw [this]; simp
          rw [if_neg h1, revS_pick]
          refine ⟨?_, .str _, _, I5.tok _, ⟨_, rfl⟩, q⟩
          have : (revS z).length = z.length := by simp [revS, Str.length]
          rw [this]; exact hz
def revD : R1A := fun d M Q => match d with
  | .str z => z.length ≤ sizeLine ∧ Q (.str (revS z)) M
  | d => (match seqL M d with | some es => Q (.lst es.reverse) M | none => False)
@[simp] theorem revD_str {z : Str} {M : Store} {Q : DK} : revD (.str z) M Q = (z.length ≤ sizeLine ∧ Q (.str (revS z)) M) := rfl
@[simp] theorem revD_lst {es : List D} {M : Store} {Q : DK} : revD (.lst es) M Q = Q (.lst es.reverse) M := rfl
theorem revD_ref {a : Addr} {es : List D} {M : Store} {Q : DK} (h : M a = some (.lst es)) : revD (.ref a) M Q = Q (.lst es.reverse) M := by
  have : seqL M (.ref a) = some es := seqL_ref h
  unfold revD
  simp only [this]
theorem rs_rev {F : Hp} : ∀ {vs : List V} {ds : List D}, Rs F vs ds → Rs F vs.reverse ds.reverse
  | _, _, .nil => .nil
  | _, _, .cons h r => by rw [List.reverse_cons, List.reverse_cons]; exact (rs_rev r).append (.cons h .nil)
section
variable {b : BC} {X : Cx} {pos : Pos} {e : Expr} {ta : TE} {aa : ATE} {k : Nat} {p1 p2 p3 : Pos}
theorem de_rev (ha : DE b X e ta aa) : DE b X (.Subscript e (.Slice none none (some (.UnaryOp .USub (.Constant (.int 1) k p1) p2)) p3) pos) (fun σ H Q => ta σ H fun x H1 => rRevX X.K x H1 Q) (aUn revD aa) := ⟨pe_revX ha.pe, fun Z σ H M sl Q Qa rp e q k =>
  ha.sim Z σ H M sl _ _ rp e q fun v d H1 M1 r1 e1 h1 q1 => by
    have list : (match seqL M1 d with | some es => Qa (.lst es.reverse) M1 | none => False) → rRevX X.K v H1 Q := fun q1 => by
      cases z : seqL M1 d with
      | none => rw [z] at q1; exact q1.elim
      | some es =>
        rw [z] at q1
        obtain ⟨a, vs, rfl, ha, hr, hn⟩ := seqL_ok r1 h1 z
        refine .inl ⟨a, vs, rfl, .of ha, fun p np => ?_⟩
        obtain ⟨r2, e2, z⟩ := new_lst r1 np (ds := es.reverse) (vs := vs.reverse) (by rw [List.length_reverse]; exact hn) (rs_rev hr)
        exact k _ _ _ _ r2 (e1.trans e2) z q1
    cases d with
    | str z =>
      cases h1
      exact .inr ⟨z, rfl, q1.1, k _ _ H1 M1 r1 e1 (.str _) q1.2⟩
    | _ => exact list q1⟩
end
/-! ### glued -/
def strsOf : List D → Option (List Str)
  | [] => some []
  | .str x :: r => (strsOf r).map (x :: ·)
  | _ => none
@[simp] theorem strsOf_map (ns : List Str) : strsOf (ns.map D.str) = some ns := by
  induction ns with
  | nil => rfl
  | cons n ns ih => show (strsOf (ns.map D.str)).map (n :: ·) = _; rw [ih]; rfl
theorem strsOf_some : ∀ {ds : List D} {ns : List Str}, strsOf ds = some ns → ds = ns.map D.str
  | [], ns, h => by cases h; rfl
  | .str x :: r, ns, h => by
    have h : (strsOf r).map (x :: ·) = some ns := h
    cases z : strsOf r with
    | none => rw [z] at h; cases h
    | some m =>
      rw [z] at h
      cases h
      rw [strsOf_some z]; rfl
  | .int _ :: _, _, h => by cases h
  | .bl _ :: _, _, h => by cases h
  | .non :: _, _, h => by cases h
  | .lst _ :: _, _, h => by cases h
  | .tup _ :: _, _, h => by cases h
  | .dic _ :: _, _, h => by cases h
  | .ref _ :: _, _, h => by cases h
theorem strs_rs {F : Hp} : ∀ {ns : List Str} {vs : List V}, Rs F vs (ns.map D.str) → vs = ns.map V.str
  | [], _, .nil => rfl
  | n :: ns, _, .cons h r => by cases h; rw [strs_rs r]; rfl
theorem strs_at {T : List (Addr × Str)} {K : PySem.W.Frag} {Z : Hid} {H : Hp} {M : Store} {v : V} {d : D} {ns : List Str} (rh : RH K T Z H M) (h : R (mkH Z H M) v d) (z : (seqL M d).bind strsOf = some ns) : ∃ a, v = .ref a ∧ H a = some (.lst (ns.map V.str)) := by
  cases y : seqL M d with
  | none => rw [y] at z; cases z
  | some es =>
    rw [y] at z
    have e := strsOf_some (show strsOf es = some ns from z)
    subst e
    obtain ⟨a, vs, rfl, ha, hr, _⟩ := seqL_ok rh h y
    exact ⟨a, rfl, by rw [ha, strs_rs hr]⟩
@[simp] def aJoin (ao : ATE) (t : ATA) : ATE := fun sl M Q => ao sl M fun o M1 => match o with
  | .str a => t sl M1 fun ds M2 => match ds with | [d] => (match (seqL M2 d).bind strsOf with | some ys => (ys.map (·.length)).sum + ys.length * a.length ≤ 16777216 ∧ Q (.str (Txt.join a ys)) M2 | none => False) | _ => False
  | _ => False
def rJoin (K : PySem.W.Frag) : V → List V → Hp → VK → Prop := fun x xs H Q => ∃ a p, ∃ ys : List Str, x = .str a ∧ xs = [.ref p] ∧ (SqL K H p (ys.map V.str) ∨ SqT K H p (ys.map V.str)) ∧ (ys.map (·.length)).sum + ys.length * a.length ≤ 16777216 ∧ Q (.str (Txt.join a ys)) H
section
variable {b : BC} {X : Cx} {pos : Pos} {e1 e2 : Expr} {ta : TE} {aa : ATE} {t : TA} {at_ : ATA} {p1 p2 : Pos}
theorem de_join (ho : DE b X e1 ta aa) (ha : DA b X [e2] t at_ 1) (hbase : attributeBase e1 ("join" : Str) X.env (eval e1 X.env) = eval e1 X.env := by rfl)
    (hfew : ((backTo p2 (starEach [e2] X.env)).all (fun x => !x.1) && (backToKw p2 (keywordEach [] X.env)).all (fun x => x.1.isSome) && decide ([e2].length + ([] : List Keyword).length + (if ([] : List Keyword).isEmpty then 0 else 1) < 30)) = true := by rfl)
    (hline : (p1.endLine == p2.line) = true := by rfl) (hs : starEach [e2] X.env = (false, eval e2 X.env) :: starEach [] X.env := by rfl) (hplain : (backTo p2 (starEach [] X.env)).any (·.1) = false := by rfl) :
    DE b X (.Call (.Attribute e1 "join" p1) [e2] [] p2) (tBM X.K "str" (rJoin X.K) ta t) (aJoin aa at_) := ⟨pe_bm PySem.F.plainAttrs_str PySem.F.slot_str_join PySem.F.type_str_join mt_join ho.pe ha.pa hbase hfew hline hs hplain, fun Z σ H M sl Q Qa rp e q k =>
  ho.sim Z σ H M sl _ _ rp e q fun o do_ H1 M1 r1 e1 h1 q1 => by
    cases h1 <;> first | exact q1.elim | skip
    rename_i a
    refine ⟨rfl, ha.sim Z σ H1 M1 sl _ _ (rp.to r1 e1) (e.trans e1) q1 fun xs ds H2 M2 r2 e2 h3 l3 q2 => ?_⟩
    cases h3 with
    | nil => cases l3
    | cons h r =>
      cases r with
      | cons _ _ => cases l3
      | nil =>
        rename_i y dy
        have q2 : (match (seqL M2 dy).bind strsOf with | some ys => (ys.map (·.length)).sum + ys.length * a.length ≤ 16777216 ∧ Qa (.str (Txt.join a ys)) M2 | none => False) := q2
        cases z : (seqL M2 dy).bind strsOf with
        | none => rw [z] at q2; exact q2.elim
        | some ys =>
          rw [z] at q2
          obtain ⟨p, rfl, h4⟩ := strs_at r2 h z
          exact ⟨a, p, ys, rfl, rfl, .inl (.of h4), q2.1, k _ _ _ _ r2 (e1.trans e2) (.str _) q2.2⟩⟩
end
/-! ### list(text) -/
def chrs (z : Str) : List D := z.cps.toList.map fun c => D.str ⟨#[c]⟩
def rLstT : List V → Hp → VK → Prop := fun xs H Q => ∃ z, xs = [.str z] ∧ z.length ≤ sizeLine ∧ ∀ p, H p = none → Q (.ref p) (upd H p (.lst (z.cps.toList.map fun c => V.str ⟨#[c]⟩)))
theorem call_listT {X : Cx} (hc : X.calm = true) : CallR X (.type "list") rLstT := by
  intro pins s σ H xs us Q I r h
  obtain ⟨z, rfl, hz, q⟩ := h
  obtain ⟨u, rfl, rx⟩ := vals1 r
  obtain ⟨t, rfl⟩ := rx
  refine call_list_str (I.ok.hd hc) z t (fun h' tk acc' c' hk hS hacc => ?_) hz
  refine ⟨.ref s.heap.objs.size, upd H s.heap.objs.size (.lst (z.cps.toList.map fun c => V.str ⟨#[c]⟩)), I.laid hk (Nat.le_refl _) (show ObjOk X.prog X.w _ _ _ (.lst (z.cps.toList.map fun c => V.str ⟨#[c]⟩)) from ⟨?_, acc'.toList, c', ?_, ?_⟩), rfl, q _ (I.hok.fresh (Nat.le_refl _))⟩
  · rw [List.length_map]; exact hz
  · have el : acc'.toList.length = acc'.size := by simp
    refine vals_of_at (by rw [List.length_map, el, hacc.1]; rfl) fun j x w h1 h2 => ?_
    obtain ⟨c, tk', h3, rfl⟩ := hacc.2 j w (by rw [← Array.getElem?_toList]; exact h2)
    rw [List.getElem?_map] at h1
    have h4 : z.cps.toList[j]? = some c := by simpa using h3
    rw [h4] at h1
    cases h1
    exact ⟨_, rfl⟩
  · rw [Array.toArray_toList]; exact hS
theorem chrs_rs {F : Hp} : ∀ l : List Nat, Rs F (l.map fun c => V.str ⟨#[c]⟩) (l.map fun c => D.str ⟨#[c]⟩)
  | [] => .nil
  | c :: l => .cons (.str _) (chrs_rs l)
@[simp] def listT : ACall := fun ds M Q => match ds with
  | [.str z] => z.length ≤ sizeLine ∧ Q (.lst (chrs z)) M
  | _ => False
theorem cs_listT {b : BC} {K : PySem.W.Frag} : CallSim b K rLstT listT := by
  intro Z H M xs ds Q Qa rh r q k
  cases r with
  | nil => exact q.elim
  | cons h r =>
    cases r with
    | cons _ _ => revert q; cases h <;> exact fun q => q.elim
    | nil =>
      cases h <;> first | exact q.elim | skip
      rename_i z
      refine ⟨z, rfl, q.1, fun p np => ?_⟩
      obtain ⟨r2, e2, y⟩ := new_lst rh np (ds := chrs z) (vs := z.cps.toList.map fun c => V.str ⟨#[c]⟩) (by unfold chrs; rw [List.length_map]; exact q.1) (chrs_rs _)
      exact k _ _ _ _ r2 e2 y q.2
/-! ### int(text) -/
abbrev rIntT : List V → Hp → VK → Prop := fun xs H Q => ∃ a n, xs = [.str a] ∧ PySem.intText? a = some n ∧ a.length ≤ 640 ∧ Q (.int n) H
def intT : ACall := fun ds M Q => match ds with
  | [.str z] => (match PySem.intText? z with | some n => z.length ≤ 640 ∧ Q (.int n) M | none => False)
  | _ => False
theorem intT_at {z : Str} {n : Int} {M : Store} {Q : DK} (h : PySem.intText? z = some n) (l : z.length ≤ 640) (q : Q (.int n) M) : intT [.str z] M Q := by
  unfold intT
  simp only [h]
  exact ⟨l, q⟩
theorem cs_intT {b : BC} {K : PySem.W.Frag} : CallSim b K rIntT intT := by
  intro Z H M xs ds Q Qa rh r q k
  cases r with
  | nil => exact q.elim
  | cons h r =>
    cases r with
    | cons _ _ => revert q; cases h <;> exact fun q => q.elim
    | nil =>
      cases h <;> first | exact q.elim | skip
      rename_i z
      have q : (match PySem.intText? z with | some n => z.length ≤ 640 ∧ Qa (.int n) M | none => False) := q
      cases y : PySem.intText? z with
      | none => rw [y] at q; exact q.elim
      | some n =>
        rw [y] at q
        exact ⟨z, n, rfl, y, q.1, k _ _ H M rh (Ext.refl H M) (.int _) q.2⟩
section
variable {b : BC} {X : Cx} {pos p : Pos} {e : Expr} {t : TA} {at_ : ATA} {k : Nat}
theorem de_listT (hc : X.calm = true) (hm : X.mg "list" = none) (ha : DA b X [e] t at_ 1) (hg : Gl X "list" := by rfl) (he : starEach (e :: []) X.env = (false, eval e X.env) :: starEach [] X.env := by rfl) (hpl : (backTo pos (starEach [] X.env)).any (·.1) = false := by rfl) :
    DE b X (.Call (.Name "list" p) [e] [] pos) (tCB rLstT t) (aCB listT at_) := de_cty (call_listT hc) cs_listT hm ha (by decide +kernel) hg (by decide) (by decide) he hpl
theorem de_intT (hm : X.mg "int" = none) (ha : DA b X [e] t at_ 1) (hg : Gl X "int" := by rfl) (he : starEach (e :: []) X.env = (false, eval e X.env) :: starEach [] X.env := by rfl) (hpl : (backTo pos (starEach [] X.env)).any (·.1) = false := by rfl) :
    DE b X (.Call (.Name "int" p) [e] [] pos) (tCB rIntT t) (aCB intT at_) := de_cty call_int_str cs_intT hm ha (by decide +kernel) hg (by decide) (by decide) he hpl
end
/-! ### text * int -/
def repS (x : Str) (n : Int) : Str := ⟨(List.replicate n.toNat x.cps).foldl (· ++ ·) #[]⟩
def rMulS : R2 := fun x y H Q => ∃ (z : Str) (n : Int), x = .str z ∧ y = .int n ∧ 2 ≤ n ∧ n ≤ 1000 ∧ 1 ≤ z.length ∧ z.length ≤ 1000 ∧ (repS z n).length ≤ sizeLine ∧ Q (.str (repS z n)) H
theorem op_mulS {X : Cx} : OpR X (binaryOp .Mult) rMulS := by
  intro pins s σ H x y v u Q I rx ry h
  obtain ⟨z, n, rfl, rfl, h1, h2, h3, h4, h5, q⟩ := h
  obtain ⟨t, rfl⟩ := rx
  obtain ⟨t', rfl⟩ := ry
  have c1 : ¬ n < 1 := by omega
  have c2 : ¬ ((n == 1 || z.length == 0) = true) := by simp; omega
  refine PySem.P.mul_str (by simp; omega) (fun _ _ => ?_) (fun _ _ => ?_) ?_
  · have : (1000 : Int) ≤ (2 ^ 63 - 1) / n := by
      rw [Int.le_ediv_iff_mul_le (by omega)]; omega
    omega
  · have : z.length * n.toNat ≤ 1000 * 1000 := Nat.mul_le_mul h4 (by omega)
    show decide (z.length * n.toNat > sizeLine) = false
    rw [sizeLine_eq]
    exact decide_eq_false (by omega)
  · rw [if_neg c1, if_neg c2]
    exact ⟨h5, .str _, H, I.tok _, ⟨_, rfl⟩, q⟩
@[simp] def mulS : R2A := fun d e M Q => match d, e with | .str z, .int n => 2 ≤ n ∧ n ≤ 1000 ∧ 1 ≤ z.length ∧ z.length ≤ 1000 ∧ (repS z n).length ≤ sizeLine ∧ Q (.str (repS z n)) M | _, _ => False
theorem os_mulS {b : BC} {K : PySem.W.Frag} : OpSim b K rMulS mulS := by
  intro Z H M x y d e Q Qa rh hx hy q k
  cases hx <;> first | exact q.elim | skip
  cases hy <;> first | exact q.elim | skip
  obtain ⟨h1, h2, h3, h4, h5, q⟩ := q
  exact ⟨_, _, rfl, rfl, h1, h2, h3, h4, h5, k _ _ H M rh (Ext.refl H M) (.str _) q⟩
section
variable {b : BC} {X : Cx} {pos : Pos} {e1 e2 : Expr} {ta tb : TE} {aa ab : ATE} {k : Nat}
theorem de_mulS (ha : DE b X e1 ta aa) (hb : DE b X e2 tb ab) : DE b X (.BinOp e1 .Mult e2 pos) (tOp rMulS ta tb) (aOp mulS aa ab) := ⟨pe_op op_mulS ha.pe hb.pe, sim_op os_mulS ha.sim hb.sim⟩
end
end AL
set_option Elab.async false
set_option linter.all false
set_option maxRecDepth 100000
set_option maxHeartbeats 4000000
set_option autoImplicit false
/-! AL25: texts as lists of signs; their order; ascending lists without doubles, any order. -/
namespace AL
open PySem PySem.Spec PyProof.Rows L2 LamX PySem.W
/-! ### texts -/
abbrev Tx := List Nat
def tx (l : Tx) : Str := ⟨l.toArray⟩
@[simp] theorem tx_cps {l : Tx} : (tx l).cps.toList = l := by simp [tx]
@[simp] theorem tx_len {l : Tx} : (tx l).length = l.length := by simp [tx, Str.length]
theorem tx_of (z : Str) : ∃ l, z = tx l := ⟨z.cps.toList, Str.ext' (by simp [tx])⟩
theorem tx_inj {a b : Tx} (h : tx a = tx b) : a = b := by have := congrArg (fun z : Str => z.cps.toList) h; simpa using this
@[simp] theorem tx_eq {a b : Tx} : (tx a = tx b) = (a = b) := propext ⟨tx_inj, fun h => by rw [h]⟩
@[simp] theorem one_tx {c : Nat} : (⟨#[c]⟩ : Str) = tx [c] := rfl
@[simp] theorem tx_add {a b : Tx} : tx a ++ tx b = tx (a ++ b) := Str.ext' (by show (tx a).cps ++ (tx b).cps = _; simp [tx])
@[simp] theorem cutS_tx {l : Tx} {lo hi : Option Int} : cutS (tx l) lo hi = tx (cutL l lo hi) := by
  unfold cutS cutL
  rw [tx_cps, tx_len]; rfl
@[simp] theorem revS_tx {l : Tx} : revS (tx l) = tx l.reverse := by unfold revS; rw [tx_cps]; rfl
@[simp] theorem chrs_tx {l : Tx} : chrs (tx l) = l.map fun c => D.str (tx [c]) := by unfold chrs; rw [tx_cps]; rfl
@[simp] theorem oneS_tx {c : Nat} : oneS (tx [c]) = some c := by simp [oneS]
@[simp] theorem inS_tx {neg : Bool} {c : Nat} {l : Tx} {M : Store} {Q : DK} : inS neg (.str (tx [c])) (.str (tx l)) M Q = Q (.bl (neg != decide (c ∈ l))) M := by
  unfold inS
  simp
theorem join_ones : ∀ l : Tx, Str.join (tx []) (l.map fun c => tx [c]) = tx l
  | [] => rfl
  | [c] => rfl
  | c :: d :: r => by
    show tx [c] ++ tx [] ++ Str.join (tx []) ((d :: r).map fun c => tx [c]) = _
    rw [join_ones (d :: r), tx_add, tx_add]; rfl
@[simp] theorem join_tx {l : Tx} : Txt.join (tx []) (l.map fun c => tx [c]) = tx l := by rw [TL.join_eq]; exact join_ones l
/-- data that is a text -/
abbrev txD (l : Tx) : D := .str (tx l)
theorem strs_tx (ls : List Tx) : ls.map txD = (ls.map tx).map D.str := by rw [List.map_map]; rfl
@[simp] theorem strsOf_tx (ls : List Tx) : strsOf (ls.map txD) = some (ls.map tx) := by rw [strs_tx, strsOf_map]
@[simp] theorem flat_txs (l : List Tx) : (l.map txD).all flatD = true := by simp [List.all_eq_true]
@[simp] theorem any_txs (l : List Tx) (i : Tx) : memD (txD i) (l.map txD) = decide (i ∈ l) := by
  induction l with
  | nil => simp
  | cons x l ih =>
    rw [List.map_cons, memD_cons, ih, eqD_str]
    by_cases c : x = i
    · subst c; simp
    · have c' : ¬ i = x := fun z => c z.symm
      simp [c, c']
theorem okDs_txs {n : Nat} : ∀ {l : List Tx}, (∀ x ∈ l, PyData.strOk (tx x) = true) → okDs n (l.map txD) = true
  | [], _ => by simp
  | x :: l, h => by rw [List.map_cons, okDs_cons, okDs_txs fun y m => h y (List.mem_cons_of_mem _ m), okD_str, h x List.mem_cons_self]; rfl
/-! ### their order -/
def sortT (l : List Tx) : List Tx := l.mergeSort fun a b => decide (a ≤ b)
theorem ltx_tri (a b : Tx) : a < b ∨ a = b ∨ b < a := by
  by_cases h : a < b
  · exact .inl h
  · by_cases h2 : b < a
    · exact .inr (.inr h2)
    · exact .inr (.inl (List.le_antisymm (List.not_lt.mp h2) (List.not_lt.mp h)))
theorem sortT_perm (l : List Tx) : (sortT l).Perm l := List.mergeSort_perm l _
theorem sortT_srt (l : List Tx) : (sortT l).Pairwise (· ≤ ·) := (List.pairwise_mergeSort (le := fun a b : Tx => decide (a ≤ b)) (fun a b c h h' => by rw [decide_eq_true_iff] at *; exact List.le_trans h h') (fun a b => by rw [Bool.or_eq_true, decide_eq_true_iff, decide_eq_true_iff]; exact List.le_total a b) l).imp fun h => by simpa using h
theorem sortD_txs (l : List Tx) : sortD (l.map txD) = (sortT l).map txD := by
  unfold sortD sortT
  rw [List.map_mergeSort]
  intro a _ b _
  rw [PySem.W.dataLe_eq]
  show decide (a ≤ b) = !PySem.W.dataLt (toPy (txD b)) (toPy (txD a))
  rw [toPy, toPy, PySem.W.dataLt_str, tx_cps, tx_cps, PySem.W.not_lt_str]
theorem txs_alike (l : List Tx) : AllAlike ((l.map txD).map toPy) := fun x hx y hy => by
  obtain ⟨d, hd, rfl⟩ := List.mem_map.mp hx
  obtain ⟨i, _, rfl⟩ := List.mem_map.mp hd
  obtain ⟨e, he, rfl⟩ := List.mem_map.mp hy
  obtain ⟨j, _, rfl⟩ := List.mem_map.mp he
  simp [toPy, alike]
theorem txs_sortable (l : List Tx) : Sortable ((l.map txD).map toPy) := .inr fun x hx => by
  obtain ⟨d, hd, rfl⟩ := List.mem_map.mp hx
  obtain ⟨i, _, rfl⟩ := List.mem_map.mp hd
  exact ⟨(fun z => by rw [toPy] at z; cases z), (fun xs z => by rw [toPy] at z; cases z)⟩
theorem sort_txs {M : Store} {d : D} {l : List Tx} {Q : DK} (ok : ∀ x ∈ l, PyData.strOk (tx x) = true) (h : seqL M d = some (l.map txD)) (q : Q (.lst ((sortT l).map txD)) M) : sortA [d] M Q := by
  unfold sortA
  simp only [h]
  refine ⟨okDs_txs ok, txs_alike l, txs_sortable l, ?_⟩
  rw [sortD_txs]
  exact q
/-! ### ascending, without doubles -/
structure StrictLin {α : Type} (lt : α → α → Prop) : Prop where
  irr : ∀ a, ¬ lt a a
  trans : ∀ a b c, lt a b → lt b c → lt a c
  tri : ∀ a b, lt a b ∨ a = b ∨ lt b a
theorem lin_tx : StrictLin (fun a b : Tx => a < b) := ⟨fun a => List.lt_irrefl a, fun a b c => List.lt_trans, ltx_tri⟩
section
variable {α : Type} {lt : α → α → Prop} [DecidableEq α] [DecidableRel lt]
variable (lt)
def insG (x : α) : List α → List α
  | [] => [x]
  | y :: r => if lt x y then x :: y :: r else if x = y then y :: r else y :: insG x r
def uniG (l : List α) : List α := l.foldr (insG lt) []
variable {lt}
theorem mem_insG {x z : α} : ∀ {l : List α}, z ∈ insG lt x l ↔ z = x ∨ z ∈ l
  | [] => by simp [insG]
  | y :: r => by
    unfold insG
    split
    · simp
    · split
      · rename_i h; subst h; simp
      · rw [List.mem_cons, mem_insG, List.mem_cons]
        constructor
        · rintro (h | h | h) <;> simp [h]
        · rintro (h | h | h) <;> simp [h]
theorem insG_asc (L : StrictLin lt) {x : α} : ∀ {l : List α}, l.Pairwise lt → (insG lt x l).Pairwise lt
  | [], _ => List.pairwise_singleton _ _
  | y :: r, h => by
    have h' := List.pairwise_cons.mp h
    unfold insG
    split
    · rename_i c
      exact List.pairwise_cons.mpr ⟨fun z hz => by
        rcases List.mem_cons.mp hz with rfl | hz
        · exact c
        · exact L.trans _ _ _ c (h'.1 z hz), h⟩
    · split
      · exact h
      · rename_i c1 c2
        refine List.pairwise_cons.mpr ⟨fun z hz => ?_, insG_asc L h'.2⟩
        rcases mem_insG.mp hz with rfl | hz
        · rcases L.tri z y with t | t | t
          · exact absurd t c1
          · exact absurd t c2
          · exact t
        · exact h'.1 z hz
theorem mem_uniG {z : α} : ∀ {l : List α}, z ∈ uniG lt l ↔ z ∈ l
  | [] => by simp [uniG]
  | x :: l => by
    show z ∈ insG lt x (uniG lt l) ↔ _
    rw [mem_insG, mem_uniG, List.mem_cons]
theorem uniG_asc (L : StrictLin lt) : ∀ l : List α, (uniG lt l).Pairwise lt
  | [] => List.Pairwise.nil
  | x :: l => insG_asc L (uniG_asc L l)
theorem ascG_eq (L : StrictLin lt) : ∀ {l m : List α}, l.Pairwise lt → m.Pairwise lt → (∀ z, z ∈ l ↔ z ∈ m) → l = m
  | [], [], _, _, _ => rfl
  | [], y :: m, _, _, h => by have := (h y).mpr List.mem_cons_self; cases this
  | x :: l, [], _, _, h => by have := (h x).mp List.mem_cons_self; cases this
  | x :: l, y :: m, hl, hm, h => by
    have h1 := List.pairwise_cons.mp hl
    have h2 := List.pairwise_cons.mp hm
    have e : x = y := by
      rcases List.mem_cons.mp ((h x).mp List.mem_cons_self) with e | m1
      · exact e
      · rcases List.mem_cons.mp ((h y).mpr List.mem_cons_self) with e | m2
        · exact e.symm
        · exact absurd (L.trans _ _ _ (h2.1 x m1) (h1.1 y m2)) (L.irr _)
    subst e
    congr 1
    refine ascG_eq L h1.2 h2.2 fun z => ⟨fun hz => ?_, fun hz => ?_⟩
    · rcases List.mem_cons.mp ((h z).mp (List.mem_cons_of_mem _ hz)) with e | m1
      · exact absurd (e ▸ h1.1 z hz) (L.irr _)
      · exact m1
    · rcases List.mem_cons.mp ((h z).mpr (List.mem_cons_of_mem _ hz)) with e | m1
      · exact absurd (e ▸ h2.1 z hz) (L.irr _)
      · exact m1
theorem uniG_of (L : StrictLin lt) {l m : List α} (h : m.Pairwise lt) (e : ∀ z, z ∈ m ↔ z ∈ l) : m = uniG lt l := ascG_eq L h (uniG_asc L l) fun z => by rw [e z, mem_uniG]
end
def enumI {α : Type} : Nat → List α → List (Nat × α)
  | _, [] => []
  | i, x :: r => (i, x) :: enumI (i + 1) r
theorem enumD_map {α : Type} (f : α → D) : ∀ (k : Nat) (xs : List α), enumD k (xs.map f) = (enumI k xs).map fun p => D.tup [.int (p.1 : Nat), f p.2]
  | _, [] => rfl
  | k, x :: r => by rw [List.map_cons, enumD, enumD_map f (k + 1) r]; rfl
theorem enumI_mem {α : Type} {x : Nat × α} : ∀ {k : Nat} {xs : List α}, x ∈ enumI k xs → ∃ i, x.1 = k + i ∧ xs[i]? = some x.2
  | k, y :: r, h => by
    rcases List.mem_cons.mp h with rfl | h
    · exact ⟨0, rfl, rfl⟩
    · obtain ⟨i, h1, h2⟩ := enumI_mem h
      exact ⟨i + 1, by omega, by simpa using h2⟩
theorem enumI_length {α : Type} : ∀ (k : Nat) (xs : List α), (enumI k xs).length = xs.length
  | _, [] => rfl
  | k, x :: r => congrArg (· + 1) (enumI_length (k + 1) r)
abbrev uniT (l : List Tx) : List Tx := uniG (fun a b : Tx => a < b) l
theorem ascT_of {l : List Tx} (h : l.Pairwise (· ≤ ·)) (n : l.Nodup) : l.Pairwise (· < ·) := (List.pairwise_and_iff.mpr ⟨h, n⟩).imp fun {a b} ⟨h1, h2⟩ => by
  rcases ltx_tri a b with t | t | t
  · exact t
  · exact absurd t h2
  · exact absurd (List.not_lt.mpr h1) (fun z => z t)
theorem sortT_uni {l : List Tx} (n : l.Nodup) : sortT l = uniT l := uniG_of lin_tx (ascT_of (sortT_srt l) ((sortT_perm l).nodup_iff.mpr n)) fun z => (sortT_perm l).mem_iff
end AL
set_option Elab.async false
set_option linter.all false
set_option maxRecDepth 100000
set_option maxHeartbeats 4000000
set_option autoImplicit false
/-! AL26: lists put together into the store; rows of draws of any kind. -/
namespace AL
open PySem PySem.Spec PyProof.Rows L2 LamX PySem.W
section
variable {b : BC} {X : Cx} {pos : Pos} {e1 e2 : Expr} {ta tb : TE} {aa ab : ATE}
def addC : R2A := fun d e M Q => match seqL M d, seqL M e with
  | some ds, some es => ds.length + es.length ≤ sizeLine ∧ ∀ a, M a = none → Q (.ref a) (updS M a (.lst (ds ++ es)))
  | _, _ => False
theorem addC_at {d e : D} {ds es : List D} {M : Store} {Q : DK} (h1 : seqL M d = some ds) (h2 : seqL M e = some es) : addC d e M Q = (ds.length + es.length ≤ sizeLine ∧ ∀ a, M a = none → Q (.ref a) (updS M a (.lst (ds ++ es)))) := by
  unfold addC
  simp only [h1, h2]
theorem os_catC {K : PySem.W.Frag} : OpSim b K rCat addC := by
  intro Z H M x y d e Q Qa rh hx hy q k
  unfold addC at q
  cases h1 : seqL M d with
  | none => rw [h1] at q; exact q.elim
  | some ds =>
    cases h2 : seqL M e with
    | none => rw [h1, h2] at q; exact q.elim
    | some es =>
      rw [h1, h2] at q
      obtain ⟨h3, q⟩ := q
      obtain ⟨a, vs, rfl, ha, hr, _⟩ := seqL_ok rh hx h1
      obtain ⟨c, ws, rfl, hc, hs, _⟩ := seqL_ok rh hy h2
      refine ⟨a, c, vs, ws, rfl, rfl, ha, hc, by rw [hr.length, hs.length]; exact h3, fun p np => ?_⟩
      obtain ⟨r1, e1⟩ := new_cell rh np (by rw [List.length_append]; exact h3) (hr.append hs)
      exact k _ _ _ _ r1 e1 (.ref p) (q p (rh.free np))
theorem de_addC (ha : DE b X e1 ta aa) (hb : DE b X e2 tb ab) : DE b X (.BinOp e1 .Add e2 pos) (tOp rCat ta tb) (aOp addC aa ab) := ⟨pe_op op_cat ha.pe hb.pe, sim_op os_catC ha.sim hb.sim⟩
end
/-- a row of draws -/
theorem lc_draws {α : Type} {k : Nat} {te : ATE} {sl : SL} {M : Store} {Q : List D → Store → Prop} (f : α → D) (P : α → Prop) (n : Nat) (hte : ∀ (i : Int) (Q2 : DK), (∀ x, P x → Q2 (f x) M) → te (setD sl k (some (.int i))) M Q2)
    (hQ : ∀ ws : List α, ws.length = n → (∀ x ∈ ws, P x) → Q (ws.map f) M) : lcL (fun _ => True) (aGName k) aYes te sl (rngD 0 n) [] M Q := by
  refine lcL_inv (fun i : Nat => D.int (0 + (i : Nat))) (fun l acc M' => ∃ ws : List α, acc = ws.map f ∧ M = M' ∧ (∀ x ∈ ws, P x) ∧ ws.length + l.length = n) ?_ ?_ (List.range n) _ _ ⟨[], rfl, rfl, fun x m => by (cases m), by simp⟩
  · rintro acc M' ⟨ws, rfl, rfl, hw, hl⟩
    exact ⟨trivial, hQ ws (by simpa using hl) hw⟩
  · rintro x r acc M' kk ⟨ws, rfl, rfl, hw, hl⟩ hk
    refine ⟨trivial, ?_⟩
    simp
    refine hte _ _ fun y py => ?_
    refine hk _ _ ⟨ws ++ [y], by simp, rfl, fun z m => (List.mem_append.mp m).elim (hw z) (fun e => by obtain rfl := List.mem_singleton.mp e; exact py), by simp at hl ⊢; omega⟩
end AL
set_option Elab.async false
set_option linter.all false
set_option maxRecDepth 100000
set_option maxHeartbeats 4000000
set_option autoImplicit false
/-! AL27: tuples of the store seen as data, index, remove, sorted of tuples and turned round, dicts with keys of their own kind. -/
namespace AL
open PySem PySem.Spec PyProof.Rows L2 LamX PySem.W
/-! ### seen as data -/
def viewC (c : Addr) : Option Cell → D
  | some (.tp ds) => .tup ds
  | _ => .ref c
def viewD (M : Store) : D → D
  | .ref c => viewC c (M c)
  | d => d
@[simp] theorem viewD_non {M : Store} : viewD M .non = .non := rfl
@[simp] theorem viewD_bl {M : Store} {b : Bool} : viewD M (.bl b) = .bl b := rfl
@[simp] theorem viewD_int {M : Store} {i : Int} : viewD M (.int i) = .int i := rfl
@[simp] theorem viewD_str {M : Store} {x : Str} : viewD M (.str x) = .str x := rfl
@[simp] theorem viewD_lst {M : Store} {ds : List D} : viewD M (.lst ds) = .lst ds := rfl
@[simp] theorem viewD_tup {M : Store} {ds : List D} : viewD M (.tup ds) = .tup ds := rfl
theorem viewD_tp {M : Store} {c : Addr} {ds : List D} (h : M c = some (.tp ds)) : viewD M (.ref c) = .tup ds := by show viewC c (M c) = _; rw [h]; rfl
theorem view_R {K : PySem.W.Frag} {T : List (Addr × Str)} {Z : Hid} {H : Hp} {M : Store} {v : V} {d : D} (rh : RH K T Z H M) (r : R (mkH Z H M) v d) : R (mkH Z H M) v (viewD M d) := by
  cases r with
  | ref a =>
    show R _ _ (viewC a (M a))
    cases z : M a with
    | none => exact .ref a
    | some c =>
      cases c with
      | tp ds => exact rh.tpR z
      | _ => exact .ref a
  | non => exact .non
  | bl b => exact .bl b
  | int i => exact .int i
  | str x => exact .str x
  | lst h n r => exact .lst h n r
  | tup h n r => exact .tup h n r
  | dic h n r => exact .dic h n r
@[simp] def aView (a : ATE) : ATE := fun sl M Q => a sl M fun d M1 => Q (viewD M1 d) M1
theorem de_view {b : BC} {X : Cx} {e : Expr} {ta : TE} {aa : ATE} (ha : DE b X e ta aa) : DE b X e ta (aView aa) := ⟨ha.pe, fun Z σ H M sl Q Qa rp e q k =>
  ha.sim Z σ H M sl _ _ rp e q fun v d H1 M1 r1 e1 h1 q1 => k v _ H1 M1 r1 e1 (view_R r1 h1) q1⟩
/-! ### t.index(k), ints -/
def rIdxT (K : PySem.W.Frag) : V → List V → Hp → VK → Prop := fun x xs H Q => ∃ (p : Addr) (ns : List Int) (k : Int) (j : Nat), x = .ref p ∧ xs = [.int k] ∧ SqT K H p (ns.map V.int) ∧ ns[j]? = some k ∧ (∀ m : Nat, m < j → ns[m]? ≠ some k) ∧ Q (.int (j : Nat)) H
theorem mt_tindex {X : Cx} : MtR X "tuple.index" (rIdxT X.K) := by
  intro pins s σ H x xs v us Q I rx rxs h
  obtain ⟨p, ns, k, j, rfl, rfl, hs, hj, hno, q⟩ := h
  cases rx
  obtain ⟨u, rfl, ru⟩ := rxs.one
  obtain ⟨t, rfl⟩ := ru
  obtain ⟨its, rv, ⟨⟨cls, dd, data, sl⟩, ho, hc, n, hd⟩, hlen⟩ := I.tuple hs
  simp only at hc hd
  subst hc hd
  have hi := ints_of_vals rv
  have hln : ns.length = its.length := by have := rv.length; rw [List.length_map] at this; exact this
  have hjn : j < ns.length := (List.getElem?_eq_some_iff.mp hj).1
  have hjl : j < its.toArray.size := by rw [List.size_toArray]; omega
  refine call_meets PySem.F.slot_tuple_index ⟨_, ho, rfl⟩ PySem.F.entry_tuple_index (PySem.F.args_tuple_index_2 _ _)
    (TI.tuple_indexAt p its.toArray n dd sl (.int k t) (eqk k) j hjl ?_ ?_) ⟨ho, fun y hy => (eqk_gives hi y (by simpa using hy)).at _ _, ⟨.int (j : Nat), H, I.tok _, ⟨_, rfl⟩, q⟩⟩
  · obtain ⟨tj, hjt⟩ := hi.get j k hj
    obtain ⟨h1, h2⟩ := List.getElem?_eq_some_iff.mp hjt
    have e1 : its.toArray[j] = .int k tj := by simpa using h2
    rw [e1]
    exact beq_self_eq_true k
  · intro m hm hmj
    have hmn : m < ns.length := by rw [List.size_toArray] at hm; omega
    obtain ⟨tm, hmt⟩ := hi.get m _ (List.getElem?_eq_getElem hmn)
    obtain ⟨h1, h2⟩ := List.getElem?_eq_some_iff.mp hmt
    have e1 : its.toArray[m] = .int ns[m] tm := by simpa using h2
    rw [e1]
    refine beq_eq_false_iff_ne.mpr fun e2 => hno m hmj ?_
    rw [List.getElem?_eq_getElem hmn, e2]
@[simp] def aIdxT (ao : ATE) (t : ATA) : ATE := fun sl M Q => ao sl M fun o M1 => match o with
  | .ref a => (tpOf (M1 a)).isSome = true ∧ t sl M1 fun ds M2 => match (tpOf (M2 a)).bind intsOf, ds with | some ns, [.int k] => k ∈ ns ∧ Q (.int (ns.idxOf k : Nat)) M2 | _, _ => False
  | _ => False
section
variable {b : BC} {X : Cx} {pos : Pos} {e1 e2 : Expr} {ta : TE} {aa : ATE} {t : TA} {at_ : ATA} {p1 p2 : Pos}
theorem de_tindex (ho : DE b X e1 ta aa) (ha : DA b X [e2] t at_ 1) (hbase : attributeBase e1 ("index" : Str) X.env (eval e1 X.env) = eval e1 X.env := by rfl)
    (hfew : ((backTo p2 (starEach [e2] X.env)).all (fun x => !x.1) && (backToKw p2 (keywordEach [] X.env)).all (fun x => x.1.isSome) && decide ([e2].length + ([] : List Keyword).length + (if ([] : List Keyword).isEmpty then 0 else 1) < 30)) = true := by rfl)
    (hline : (p1.endLine == p2.line) = true := by rfl) (hs : starEach [e2] X.env = (false, eval e2 X.env) :: starEach [] X.env := by rfl) (hplain : (backTo p2 (starEach [] X.env)).any (·.1) = false := by rfl) :
    DE b X (.Call (.Attribute e1 "index" p1) [e2] [] p2) (tBMP (rIdxT X.K) ta t) (aIdxT aa at_) := ⟨pe_bmP PySem.F.slot_tuple_index PySem.F.type_tuple_index mt_tindex ho.pe ha.pa hbase hfew hline hs hplain, fun Z σ H M sl Q Qa rp e q k =>
  ho.sim Z σ H M sl _ _ rp e q fun o do_ H1 M1 r1 e1 h1 q1 => by
    cases h1 <;> first | exact q1.elim | skip
    rename_i a
    obtain ⟨h2, q1⟩ := q1
    obtain ⟨es, hes⟩ := Option.isSome_iff_exists.mp h2
    obtain ⟨n, vs, its, hv, hr⟩ := r1.cells a _ (tpOf_some hes)
    refine ⟨⟨a, its, vs, rfl, hv⟩, ha.sim Z σ H1 M1 sl _ _ (rp.to r1 e1) (e.trans e1) q1 fun xs ds H2 M2 r2 e2 h3 l3 q2 => ?_⟩
    cases h3 with
    | nil => cases l3
    | cons h r =>
      cases r with
      | cons _ _ => cases l3
      | nil =>
        rename_i y dy
        cases z : (tpOf (M2 a)).bind intsOf with
        | none => rw [z] at q2; exact q2.elim
        | some ns =>
          rw [z] at q2
          cases h <;> first | exact q2.elim | skip
          rename_i kk
          obtain ⟨hk, q2⟩ := q2
          cases z2 : tpOf (M2 a) with
          | none => rw [z2] at z; cases z
          | some es2 =>
            rw [z2] at z
            have e3 := intsOf_some (show intsOf es2 = some ns from z)
            subst e3
            obtain ⟨n', vs', its', hv', hr'⟩ := r2.cells a _ (tpOf_some z2)
            rw [ints_rs hr'] at hv'
            have lt := List.idxOf_lt_length_of_mem hk
            refine ⟨a, ns, kk, ns.idxOf kk, rfl, rfl, .inl (.inr ⟨_, hv'⟩), by rw [List.getElem?_eq_getElem lt, List.getElem_idxOf lt], fun m hm hmk => ?_, k _ _ _ _ r2 (e1.trans e2) (.int _) q2⟩
            obtain ⟨hl, hx⟩ := List.getElem?_eq_some_iff.mp hmk
            exact absurd hx (fun e => by
              have := List.not_of_lt_findIdx (p := fun x => x == kk) (xs := ns) (i := m) hm
              simp [e] at this)⟩
end
/-! ### xs.remove(k), ints -/
@[simp] def aRem (ao ae : ATE) : ATE := fun sl M Q => ao sl M fun o M1 => (seqL M1 o).isSome = true ∧ ae sl M1 fun d M2 => match o, d with
  | .ref a, .int k => (match M2 a with | some (.lst ds) => (match intsOf ds with | some ns => k ∈ ns ∧ Q .non (updS M2 a (.lst ((ns.erase k).map D.int))) | none => False) | _ => False)
  | _, _ => False
section
variable {b : BC} {X : Cx} {pos : Pos} {e1 e2 : Expr} {ta tb : TE} {aa ab : ATE} {p1 p2 : Pos}
theorem de_remove (hc : X.calm = true) (ho : DE b X e1 ta aa) (ha : DE b X e2 tb ab) (hbase : attributeBase e1 ("remove" : Str) X.env (eval e1 X.env) = eval e1 X.env := by rfl)
    (hfew : ((backTo p2 (starEach [e2] X.env)).all (fun x => !x.1) && (backToKw p2 (keywordEach [] X.env)).all (fun x => x.1.isSome) && decide ([e2].length + ([] : List Keyword).length + (if ([] : List Keyword).isEmpty then 0 else 1) < 30)) = true := by rfl)
    (hline : (p1.endLine == p2.line) = true := by rfl) (hs : starEach [e2] X.env = (false, eval e2 X.env) :: starEach [] X.env := by rfl) (hplain : (backTo p2 (starEach [] X.env)).any (·.1) = false := by rfl) :
    DE b X (.Call (.Attribute e1 "remove" p1) [e2] [] p2) (tRemX X.K (fun _ _ _ _ => False) ta tb) (aRem aa ab) := ⟨pe_remX hc L2.takes0 ho.pe ha.pe hbase hfew hline hs hplain, fun Z σ H M sl Q Qa rp e q k =>
  ho.sim Z σ H M sl _ _ rp e q fun o do_ H1 M1 r1 e1 h1 q1 => by
    obtain ⟨h2, q1⟩ := q1
    obtain ⟨es, hes⟩ := Option.isSome_iff_exists.mp h2
    obtain ⟨a, vs, rfl, hv, _, _⟩ := seqL_ok r1 h1 hes
    refine ⟨.inl ⟨rfl, vs, .of hv⟩, ha.sim Z σ H1 M1 sl _ _ (rp.to r1 e1) (e.trans e1) q1 fun y dy H2 M2 r2 e2 h3 q2 => ?_⟩
    cases h1 <;> first | exact q2.elim | skip
    cases h3 <;> first | exact q2.elim | skip
    rename_i kk
    have q2 : (match M2 a with | some (.lst ds) => (match intsOf ds with | some ns => kk ∈ ns ∧ Qa .non (updS M2 a (.lst ((ns.erase kk).map D.int))) | none => False) | _ => False) := q2
    cases z : M2 a with
    | none => rw [z] at q2; exact q2.elim
    | some c =>
      rw [z] at q2
      cases c with
      | lst ds =>
        have q2 : (match intsOf ds with | some ns => kk ∈ ns ∧ Qa .non (updS M2 a (.lst ((ns.erase kk).map D.int))) | none => False) := q2
        cases y : intsOf ds with
        | none => rw [y] at q2; exact q2.elim
        | some ns =>
          rw [y] at q2
          obtain ⟨hk2, q3⟩ := q2
          have e3 := intsOf_some y
          subst e3
          obtain ⟨n2, vs2, hv2, hr2⟩ := r2.cells a _ z
          have hv3 := hv2
          rw [ints_rs hr2] at hv3
          refine ⟨a, ns, kk, rfl, rfl, hv3, fun hk => ?_, fun hk => absurd hk2 hk⟩
          have l := List.length_erase_le (a := kk) (l := ns)
          obtain ⟨r4, e4⟩ := r2.put (o := .lst ((ns.erase kk).map V.int)) (c' := .lst ((ns.erase kk).map D.int)) z ⟨by rw [List.length_map] at n2 ⊢; omega, _, upd_same, ints_Rs _⟩
          exact k _ _ _ _ r4 (e1.trans (e2.trans e4)) .non q3
      | _ => exact q2.elim⟩
end
end AL
/-! ### sorted of a tuple -/
namespace AL.Srt
open PySem PySem.Spec PyProof.Rows L2 PySem.W
section
variable {prog : Program} {w : World} {A : Around} {E : Value → Shared → Prop} {s : Shared}
theorem collect_tup {l : Addr} {vs : List Value} {Q : List Value → Shared → Prop} (hl : IsTup s.heap l vs.toArray)
    (h : Q vs { s with heap := (s.heap.push (seqObj "list" #[] 0)).update s.heap.objs.size (Obj.mapSeq (· ++ vs.toArray)) }) (hsz : vs.length ≤ sizeLine := by size_fits) :
    wpAny (model prog w) A (collect (.ref l)) Q E s := by
  obtain ⟨o, ho, hc, n, hd⟩ := id hl
  unfold collect
  refine wpAny_bind (wpAny_runValue (codeAny_builtin entry_proto_collect' ?_))
  show wpAny _ _ (do again (.builtin "list.__iadd__" ⟨[← newList [], .ref l], []⟩)) _ _ s
  refine wpAny_bind (wpAny_newList (wpAny_pure ⟨Code.quiet_builtin _ (by decide +kernel), codeAny_builtin entry_list_iadd' ?_⟩))
  show wpAny _ _ (Builtin.List.listExtendWith (.ref s.heap.objs.size) (.ref l) (.ref s.heap.objs.size)) _ _ { s with heap := s.heap.push (seqObj "list" #[] 0) }
  unfold Builtin.List.listExtendWith
  have ho' : (s.heap.push (seqObj "list" #[] 0)).get? l = some o := Heap.get?_push_of_some _ ho
  refine wpAny_bind (wpAny_typeOf (T := "tuple") ⟨o, ho', hc⟩ ?_)
  have ht : (Value.type "tuple" == Value.type "tuple") = true := by rfl
  rw [if_pos (by rw [ht]; simp)]
  refine wpAny_bind (listItems_at ho' hd ?_)
  refine wpAny_bind (listItems_at (xs := #[]) (n := 0) (Heap.get?_push_size _ rfl) rfl ?_)
  rw [if_neg (by simp)]
  refine wpAny_bind (listUpdate_at (xs := #[]) (n := 0) (Heap.get?_push_size _ rfl) rfl ?_ (Nat.zero_le _) (by show (#[] ++ vs.toArray).size ≤ sizeLine + 1; simp only [Array.size_append, List.size_toArray, List.length_nil]; omega))
  refine wpAny_pure ?_
  show wpAny (model prog w) A (do
      let o ← load s.heap.objs.size
      match o.data with
      | .seq xs _ => pure xs.toList
      | _ => unsupported "internal:collect") Q E { s with heap := (s.heap.push (seqObj "list" #[] 0)).update s.heap.objs.size (Obj.mapSeq (· ++ vs.toArray)) }
  refine wpAny_bind (wpAny_load (get?_update_seq (Heap.get?_push_size _ rfl) _) ?_)
  show wpAny _ _ (pure ((#[] : Array Value) ++ vs.toArray).toList) Q E _
  rw [show ((#[] : Array Value) ++ vs.toArray).toList = vs by simp]
  exact wpAny_pure h
theorem sorted_of_sortT {l : Addr} {vs : List Value} {kw : List (Str × Value)} {Q : Value → Shared → Prop} (hl : IsTup s.heap l vs.toArray) (hL : vs.length ≤ sizeLine) (ha1 : argsOk "sorted" ⟨[.ref l], kw⟩) (ha2 : ∀ x, argsOk "list.sort" ⟨[.ref x], kw⟩)
    (body : ∀ E' : Value → Shared → Prop, wpAny (model prog w) A.in1.in1 (Builtin.«list.sort» ⟨[.ref (s.heap.objs.size + 1)], kw⟩) (fun f s' => f = .done (.ret .none) ∧ Q (.ref (s.heap.objs.size + 1)) s') E' { s with heap := copyHeap s.heap vs }) :
    wpAny (model prog w) A (call (.builtin "sorted") [.ref l] kw) Q E s := by
  refine call_function_entry_kw kind_sorted plain_sorted entry_sorted ha1 ?_
  unfold Builtin.«sorted»
  refine wpAny_bind (m := checkCount "sorted" 1 1 _) (wpAny_pure ?_)
  refine wpAny_bind (collect_tup hl ?_ hL)
  refine wpAny_bind (wpAny_newList ?_ hL)
  have hsz : ((s.heap.push (seqObj "list" #[] 0)).update s.heap.objs.size (Obj.mapSeq (· ++ vs.toArray))).objs.size = s.heap.objs.size + 1 := by
    rw [Heap.size_update, size_push']
  show wpAny _ _ _ _ _ { s with heap := copyHeap s.heap vs }
  rw [hsz]
  refine wpAny_bind (wpAny_holding (wpAny_call_entry_kw slot_list_sort ⟨_, copyHeap_at s.heap vs, rfl⟩ entry_list_sort ?body (ha2 _)))
  case body =>
    show wpAny (model prog w) A.in1.in1 (Builtin.«list.sort» ⟨[.ref (s.heap.objs.size + 1)], kw⟩) _ _ _
    refine wpAny_mono (body _) (fun f s' hf => ?_) fun _ _ e => e
    obtain ⟨rfl, hq⟩ := hf
    exact ⟨_, rfl, wpAny_pure ⟨_, rfl, hq⟩⟩
theorem sorted_revT {l : Addr} {vs : List Value} {b : Bool} {κ : PyProof.Rows.KeyKind} {Q : Value → Shared → Prop} (hl : IsTup s.heap l vs.toArray) (S : SortsAt prog w A.in1.in1 { s with heap := sortingHeap (copyHeap s.heap vs) (s.heap.objs.size + 1) vs } κ vs) (hL : vs.length ≤ sizeLine)
    (h : Q (.ref (s.heap.objs.size + 1)) { s with heap := sortedAll s.heap vs (sortVals κ b vs vs).toArray }) : wpAny (model prog w) A (call (.builtin "sorted") [.ref l] [(Str.ofString "reverse", .bool b)]) Q E s :=
  sorted_of_sortT hl hL (args_sorted_rev _ _) (fun _ => args_list_sort_rev _ _) fun _ => list_sort_rev_vals (s := { s with heap := copyHeap s.heap vs }) (copyHeap_at s.heap vs) S hL ⟨rfl, h⟩
theorem sorted_valsT {l : Addr} {vs : List Value} {κ : PyProof.Rows.KeyKind} {Q : Value → Shared → Prop} (hl : IsTup s.heap l vs.toArray) (S : SortsAt prog w A.in1.in1 { s with heap := sortingHeap (copyHeap s.heap vs) (s.heap.objs.size + 1) vs } κ vs) (hL : vs.length ≤ sizeLine)
    (h : Q (.ref (s.heap.objs.size + 1)) { s with heap := sortedAll s.heap vs (sortVals κ false vs vs).toArray }) : wpAny (model prog w) A (call (.builtin "sorted") [.ref l]) Q E s :=
  sorted_of_sortT hl hL (args_sorted1 _) (fun _ => args_list_sort _) fun _ => list_sort_vals (s := { s with heap := copyHeap s.heap vs }) (copyHeap_at s.heap vs) S hL ⟨rfl, h⟩
end
end AL.Srt
set_option Elab.async false
set_option linter.all false
set_option maxRecDepth 100000
set_option maxHeartbeats 4000000
set_option autoImplicit false
/-! AL28: sorted of lists and tuples, turned round. -/
namespace AL.Srt
open PySem PySem.Spec PyProof.Rows L2 PySem.W
section
variable {prog : Program} {w : World} {A : Around} {E : Value → Shared → Prop} {s : Shared} {β : Type} {R : Value → β → Prop} {enc : β → PyData} {vs : List Value} {bs : List β}
theorem sorted_rev_dataT {l : Addr} {b : Bool} {Q : Value → Shared → Prop} (hl : IsTup s.heap l vs.toArray) (e : EachIs R vs bs) (er : EachIs (fun v b => ∃ as, Reads s.heap v (enc b) as) vs bs) (hal : AllAlike (bs.map enc)) (hk : PySem.W.Sortable (bs.map enc)) (hL : bs.length ≤ sizeLine)
    (hu : ∀ b, b ∈ bs → A.units + 2 + (enc b).depth < cLine) (h : ∀ out, out.length = bs.length → EachIs R out (bs.mergeSort (dataLe b enc)) → Q (.ref (s.heap.objs.size + 1)) { s with heap := sortedAll s.heap vs (List.toArray out) }) :
    wpAny (model prog w) A (call (.builtin "sorted") [.ref l] [(Str.ofString "reverse", .bool b)]) Q E s := by
  have er' : EachIs (fun v b => ∃ as, Reads (sortingHeap (copyHeap s.heap vs) (s.heap.objs.size + 1) vs) v (enc b) as) vs bs := er.mono fun _ _ ⟨as, r⟩ => ⟨as, PyProof.Rows.Reads.keeps (fun _ _ => sorting_copy_old) r⟩
  exact sorted_revT hl (SortsAt.data (s := { s with heap := sortingHeap (copyHeap s.heap vs) (s.heap.objs.size + 1) vs }) (each_map (R := fun v d => ∃ as, Reads (sortingHeap (copyHeap s.heap vs) (s.heap.objs.size + 1) vs) v d as) enc er') hal hk (bound_map hu)) (by rw [e.length]; exact hL)
    (h _ (by rw [sortVals_length b rfl]; exact e.length) (sortVals_data b e er' hal))
theorem sorted_dataT {l : Addr} {Q : Value → Shared → Prop} (hl : IsTup s.heap l vs.toArray) (e : EachIs R vs bs) (er : EachIs (fun v b => ∃ as, Reads s.heap v (enc b) as) vs bs) (hal : AllAlike (bs.map enc)) (hk : PySem.W.Sortable (bs.map enc)) (hL : bs.length ≤ sizeLine)
    (hu : ∀ b, b ∈ bs → A.units + 2 + (enc b).depth < cLine) (h : ∀ out, out.length = bs.length → EachIs R out (bs.mergeSort (dataLe false enc)) → Q (.ref (s.heap.objs.size + 1)) { s with heap := sortedAll s.heap vs (List.toArray out) }) :
    wpAny (model prog w) A (call (.builtin "sorted") [.ref l]) Q E s := by
  have er' : EachIs (fun v b => ∃ as, Reads (sortingHeap (copyHeap s.heap vs) (s.heap.objs.size + 1) vs) v (enc b) as) vs bs := er.mono fun _ _ ⟨as, r⟩ => ⟨as, PyProof.Rows.Reads.keeps (fun _ _ => sorting_copy_old) r⟩
  exact sorted_valsT hl (SortsAt.data (s := { s with heap := sortingHeap (copyHeap s.heap vs) (s.heap.objs.size + 1) vs }) (each_map (R := fun v d => ∃ as, Reads (sortingHeap (copyHeap s.heap vs) (s.heap.objs.size + 1) vs) v d as) enc er') hal hk (bound_map hu)) (by rw [e.length]; exact hL)
    (h _ (by rw [sortVals_length false rfl]; exact e.length) (sortVals_data false e er' hal))
end
end AL.Srt
namespace AL
open PySem PySem.Spec PyProof.Rows L2 LamX PySem.W
def rSortG (K : PySem.W.Frag) (b : Bool) (vs : List V) (H : Hp) (Q : VK) : Prop := ∃ (a : Addr) (T : List (V × PyData)), vs = [.ref a] ∧ (SqL K H a (T.map Prod.fst) ∨ SqT K H a (T.map Prod.fst)) ∧ (∀ t ∈ T, Dp K H t.1 t.2 ∧ t.2.depth ≤ 60) ∧ AllAlike (T.map Prod.snd) ∧ Sortable (T.map Prod.snd) ∧
  ∀ p, H p = none → Q (.ref p) (upd H p (.lst ((T.mergeSort (dataLe b Prod.snd)).map Prod.fst)))
def rSortR (K : PySem.W.Frag) (b : Bool) : List V → List V → Hp → VK → Prop := fun vs zs H Q => zs = [.bl b] ∧ rSortG K b vs H Q
section
variable {X : Cx}
theorem cr_sortG (hu : X.A.units + 100 < cLine) : CallR X (.builtin "sorted") (rSortG X.K false) := by
  rintro pins s σ H vs us Q I r ⟨a, T, rfl, hs, hd, h1, h2, q⟩
  rw [Vals.ref1 r]
  rcases hs with hs | hs
  · obtain ⟨its, rv, hl, hz⟩ := I.list hs
    rw [List.length_map] at hz
    have e := each_vals rv
    have er : EachIs (fun u (t : V × PyData) => ∃ as, Reads s.heap u t.2 as) its T := each_all (fun t m u ru => Dp.reads I t.2 t.1 u (hd t m).1 ru) e
    refine PySem.W.sorted_data (enc := Prod.snd) hl.isList e er h1 h2 hz (fun t m => by have := (hd t m).2; omega) fun out ho eo => ?_
    obtain ⟨ep, he'⟩ := PyProof.Rows.sortedAll_at s.heap its out.toArray
    exact ⟨.ref _, upd H (s.heap.objs.size + 1) (.lst ((T.mergeSort (dataLe false Prod.snd)).map Prod.fst)), I.laid (t' := s.toks) (fun _ _ => PyProof.Rows.sortedAll_old) (Nat.le_succ _) ⟨by rw [List.length_map, List.length_mergeSort]; exact hz, out, ep, vals_each eo, he'⟩, rfl, q _ (I.hok.fresh (Nat.le_succ _))⟩
  · obtain ⟨its, rv, hl, hz⟩ := I.tuple hs
    rw [List.length_map] at hz
    have e := each_vals rv
    have er : EachIs (fun u (t : V × PyData) => ∃ as, Reads s.heap u t.2 as) its T := each_all (fun t m u ru => Dp.reads I t.2 t.1 u (hd t m).1 ru) e
    refine Srt.sorted_dataT (enc := Prod.snd) hl e er h1 h2 hz (fun t m => by have := (hd t m).2; omega) fun out ho eo => ?_
    obtain ⟨ep, he'⟩ := PyProof.Rows.sortedAll_at s.heap its out.toArray
    exact ⟨.ref _, upd H (s.heap.objs.size + 1) (.lst ((T.mergeSort (dataLe false Prod.snd)).map Prod.fst)), I.laid (t' := s.toks) (fun _ _ => PyProof.Rows.sortedAll_old) (Nat.le_succ _) ⟨by rw [List.length_map, List.length_mergeSort]; exact hz, out, ep, vals_each eo, he'⟩, rfl, q _ (I.hok.fresh (Nat.le_succ _))⟩
theorem cr_sortR {b : Bool} (hu : X.A.units + 100 < cLine) : CallRK X (.builtin "sorted") [Str.ofString "reverse"] (rSortR X.K b) := by
  rintro pins s σ H vs zs us ws Q I r rz ⟨rfl, a, T, rfl, hs, hd, h1, h2, q⟩
  rw [Vals.ref1 r]
  obtain ⟨w1, rfl, e1⟩ := vals1 rz
  obtain rfl : w1 = Value.bool b := e1
  rcases hs with hs | hs
  · obtain ⟨its, rv, hl, hz⟩ := I.list hs
    rw [List.length_map] at hz
    have e := each_vals rv
    have er : EachIs (fun u (t : V × PyData) => ∃ as, Reads s.heap u t.2 as) its T := each_all (fun t m u ru => Dp.reads I t.2 t.1 u (hd t m).1 ru) e
    refine PySem.W.sorted_rev_data (enc := Prod.snd) hl.isList e er h1 h2 hz (fun t m => by have := (hd t m).2; omega) fun out ho eo => ?_
    obtain ⟨ep, he'⟩ := PyProof.Rows.sortedAll_at s.heap its out.toArray
    exact ⟨.ref _, upd H (s.heap.objs.size + 1) (.lst ((T.mergeSort (dataLe b Prod.snd)).map Prod.fst)), I.laid (t' := s.toks) (fun _ _ => PyProof.Rows.sortedAll_old) (Nat.le_succ _) ⟨by rw [List.length_map, List.length_mergeSort]; exact hz, out, ep, vals_each eo, he'⟩, rfl, q _ (I.hok.fresh (Nat.le_succ _))⟩
  · obtain ⟨its, rv, hl, hz⟩ := I.tuple hs
    rw [List.length_map] at hz
    have e := each_vals rv
    have er : EachIs (fun u (t : V × PyData) => ∃ as, Reads s.heap u t.2 as) its T := each_all (fun t m u ru => Dp.reads I t.2 t.1 u (hd t m).1 ru) e
    refine Srt.sorted_rev_dataT (enc := Prod.snd) hl e er h1 h2 hz (fun t m => by have := (hd t m).2; omega) fun out ho eo => ?_
    obtain ⟨ep, he'⟩ := PyProof.Rows.sortedAll_at s.heap its out.toArray
    exact ⟨.ref _, upd H (s.heap.objs.size + 1) (.lst ((T.mergeSort (dataLe b Prod.snd)).map Prod.fst)), I.laid (t' := s.toks) (fun _ _ => PyProof.Rows.sortedAll_old) (Nat.le_succ _) ⟨by rw [List.length_map, List.length_mergeSort]; exact hz, out, ep, vals_each eo, he'⟩, rfl, q _ (I.hok.fresh (Nat.le_succ _))⟩
end
end AL
set_option Elab.async false
set_option linter.all false
set_option maxRecDepth 100000
set_option maxHeartbeats 4000000
set_option autoImplicit false
/-! AL29: sorted of lists and tuples, the readings; one item. -/
namespace AL
open PySem PySem.Spec PyProof.Rows L2 LamX PySem.W
def sortB (b : Bool) (es : List D) : List D := es.mergeSort (dataLe b toPy)
theorem sortB_length (b : Bool) (es : List D) : (sortB b es).length = es.length := by unfold sortB; rw [List.length_mergeSort]
theorem sort_partsB {K : PySem.W.Frag} {T : List (Addr × Str)} {Z : Hid} {H : Hp} {M : Store} {vs : List V} {es : List D} (b : Bool) (hr : Rs (mkH Z H M) vs es) (ok : okDs 59 es = true) :
    ∃ U : List (V × PyData), U.map Prod.fst = vs ∧ U.map Prod.snd = es.map toPy ∧ (∀ t ∈ U, Dp K H t.1 t.2 ∧ t.2.depth ≤ 60) ∧ Rs (mkH Z H M) ((U.mergeSort (dataLe b Prod.snd)).map Prod.fst) (sortB b es) := by
  obtain ⟨h1, h2, h3⟩ := rs_zip hr
  let g : V × D → V × PyData := fun t => (t.1, toPy t.2)
  have em : ((vs.zip es).map g).mergeSort (dataLe b Prod.snd) = ((vs.zip es).mergeSort (dataLe b fun t : V × D => toPy t.2)).map g := (List.map_mergeSort (r := dataLe b fun t : V × D => toPy t.2) (s := dataLe b Prod.snd) (f := g) (fun a _ c _ => by cases b <;> rfl)).symm
  have es2 : sortB b es = ((vs.zip es).mergeSort (dataLe b fun t : V × D => toPy t.2)).map Prod.snd := by
    have := List.map_mergeSort (r := dataLe b fun t : V × D => toPy t.2) (s := dataLe b toPy) (f := Prod.snd) (l := vs.zip es) (fun a _ c _ => by cases b <;> rfl)
    rw [this, h2]; rfl
  refine ⟨(vs.zip es).map g, by rw [List.map_map]; exact h1, ?_, fun t m => ?_, ?_⟩
  · rw [List.map_map]
    have : Prod.snd ∘ g = toPy ∘ (Prod.snd : V × D → D) := rfl
    rw [this, ← List.map_map, h2]
  · obtain ⟨u, mu, rfl⟩ := List.mem_map.mp m
    have hR := h3 u mu
    have mo : u.2 ∈ es := by rw [← h2]; exact List.mem_map.mpr ⟨u, mu, rfl⟩
    have ou := okDs_mem ok mo
    exact ⟨hR.dp 59 ou, Nat.le_trans (okD_lay 59 u.2 ou).2 (by decide)⟩
  · rw [em, es2, List.map_map]
    refine rs_of fun t m => h3 t ?_
    exact (List.mergeSort_perm _ _).mem_iff.mp m
/-- sorted of the data, turned round if b; few items need not be comparable -/
def SortOk (es : List D) : Prop := okDs 59 es = true ∧ AllAlike (es.map toPy) ∧ Sortable (es.map toPy)
def sortGA (b : Bool) : ACall := fun ds M Q => match ds with
  | [d] => (match seqA M d with | some es => SortOk es ∧ Q (.lst (sortB b es)) M | none => False)
  | _ => False
theorem sortGA_at {b : Bool} {M : Store} {d : D} {es : List D} {Q : DK} (h : seqA M d = some es) (ok : SortOk es) (q : Q (.lst (sortB b es)) M) : sortGA b [d] M Q := by
  unfold sortGA
  simp only [h]
  exact ⟨ok, q⟩
theorem cs_sortG {bb : BC} {K : PySem.W.Frag} {b : Bool} : CallSim bb K (rSortG K b) (sortGA b) := by
  intro Z H M xs ds Q Qa rh r q k
  cases r with
  | nil => exact q.elim
  | cons h r =>
    cases r with
    | cons _ _ => exact q.elim
    | nil =>
      rename_i v d
      have q : (match seqA M d with | some es => SortOk es ∧ Qa (.lst (sortB b es)) M | none => False) := q
      cases z : seqA M d with
      | none => rw [z] at q; exact q.elim
      | some es =>
        rw [z] at q
        obtain ⟨⟨ok, al, so⟩, q⟩ := q
        obtain ⟨a, vs, rfl, ha, hr, hn⟩ := seqA_ok rh h z
        obtain ⟨U, u1, u2, u3, u4⟩ := sort_partsB (K := K) (T := bb.T) b hr ok
        refine ⟨a, U, rfl, by rw [u1]; exact ha.elim (fun h => .inl (.of h)) (fun h => .inr (.inl h)), u3, by rw [u2]; exact al, by rw [u2]; exact so, fun p np => ?_⟩
        obtain ⟨r2, e2, z2⟩ := new_lst rh np (by rw [sortB_length]; exact hn) u4
        exact k _ _ _ _ r2 e2 z2 q
section
variable {b : BC} {X : Cx} {pos p q kpos : Pos} {e : Expr} {t : TA} {at_ : ATA} {k j : Nat} {v : Bool}
theorem de_sortedG (hr : Room k X.A) (hm : X.mg "sorted" = none) (ha : DA b X [e] t at_ 1) (hg : Gl X "sorted" := by rfl) (he : starEach (e :: []) X.env = (false, eval e X.env) :: starEach [] X.env := by rfl) (hpl : (backTo pos (starEach [] X.env)).any (·.1) = false := by rfl) :
    DE b X (.Call (.Name "sorted" p) [e] [] pos) (tCB (rSortG X.K false) t) (aCB (sortGA false) at_) := de_cb (cr_sortG (room100 hr)) cs_sortG hm ha (by decide +kernel) hg (by decide) (by decide) he hpl
theorem de_sortedR (hr : Room k X.A) (hm : X.mg "sorted" = none) (ha : DA b X [e] t at_ 1) (hg : Gl X "sorted" := by rfl)
    (he : backTo pos (starEach (e :: []) X.env) = (false, eval e X.env) :: backTo pos (starEach [] X.env) := by rfl) (hpl : (backTo pos (starEach (e :: []) X.env)).any (·.1) = false := by rfl)
    (hall : (backToKw pos (keywordEach [⟨some "reverse", .Constant (.bool v) j q, kpos⟩] X.env)).all (·.1.isSome) = true := by rfl) (hnone : (backToKw pos (keywordEach [⟨some "reverse", .Constant (.bool v) j q, kpos⟩] X.env)).any (·.1.isNone) = false := by rfl)
    (hks : (backToKw pos (keywordEach [⟨some "reverse", .Constant (.bool v) j q, kpos⟩] X.env)).filterMap (·.1) = [Str.ofString "reverse"] := by rfl) :
    DE b X (.Call (.Name "sorted" p) [e] [⟨some "reverse", .Constant (.bool v) j q, kpos⟩] pos) (tCKw (rSortR X.K v) t (tCons (tC (.bl v)) tNil)) (aCB (sortGA v) at_) :=
  ⟨pe_callBK (cr_sortR (b := v) (room100 hr)) hg hm (by decide +kernel) ha.pa (pk_cons pe_bl pk_nil) (by decide) (by decide) he hpl hall hnone hks, fun Z σ H M sl Q Qa rp e q k =>
    ha.sim Z σ H M sl _ _ rp e q fun xs ds H1 M1 r1 e1 h1 l1 q1 => ⟨rfl, cs_sortG (bb := b) (b := v) Z H1 M1 xs ds Q Qa r1 h1 q1 fun w d' H' M' r' e' h' q' => k w d' H' M' r' (e1.trans e') h' q'⟩⟩
end
/-! ### ints -/
theorem sortB_ints (l : List Int) : sortB false (l.map D.int) = (sortI l).map D.int := sortD_ints l
theorem okS_ints (l : List Int) : SortOk (l.map D.int) := ⟨okDs_ints l, fun x hx y hy => (int_alike l).1 x hx y hy, .inr fun x hx => by
  obtain ⟨d, hd, rfl⟩ := List.mem_map.mp hx
  obtain ⟨i, _, rfl⟩ := List.mem_map.mp hd
  exact ⟨(fun z => by rw [toPy] at z; cases z), (fun xs z => by rw [toPy] at z; cases z)⟩⟩
theorem up_eq : ∀ {l m : List Int}, l.Perm m → l.Pairwise (· ≤ ·) → m.Pairwise (· ≤ ·) → l = m := fun h1 h2 h3 => List.Perm.eq_of_pairwise (le := (· ≤ ·)) (fun a b _ _ h h' => Int.le_antisymm h h') h2 h3 h1
theorem sortB_rev (l : List Int) : sortB true (l.map D.int) = (sortI l).reverse.map D.int := by
  have e : sortB true (l.map D.int) = (l.mergeSort fun a b => decide (b ≤ a)).map D.int := by
    unfold sortB
    rw [List.map_mergeSort]
    intro a _ b _
    rw [PySem.W.dataLe_eq]
    show decide (b ≤ a) = !PySem.W.dataLt (toPy (D.int a)) (toPy (D.int b))
    rw [toPy, toPy, PySem.W.dataLt_int, PySem.W.not_lt_int]
  rw [e]
  congr 1
  have h1 : (l.mergeSort fun a b => decide (b ≤ a)).Pairwise (· ≥ ·) := (List.pairwise_mergeSort (le := fun a b : Int => decide (b ≤ a)) (fun a b c h h' => by rw [decide_eq_true_iff] at *; omega) (fun a b => by rw [Bool.or_eq_true, decide_eq_true_iff, decide_eq_true_iff]; omega) l).imp fun h => by simpa using h
  have h2 : (l.mergeSort fun a b => decide (b ≤ a)).reverse = sortI l := up_eq ((List.reverse_perm _).trans ((List.mergeSort_perm l _).trans (sortI_perm l).symm)) (List.pairwise_reverse.mpr h1) (sortI_srt l)
  rw [← h2, List.reverse_reverse]
theorem sortG_ints {M : Store} {d : D} {l : List Int} {Q : DK} (h : seqA M d = some (l.map D.int)) (q : Q (.lst ((sortI l).map D.int)) M) : sortGA false [d] M Q := sortGA_at h (okS_ints l) (by rw [sortB_ints]; exact q)
theorem sortG_revs {M : Store} {d : D} {l : List Int} {Q : DK} (h : seqA M d = some (l.map D.int)) (q : Q (.lst ((sortI l).reverse.map D.int)) M) : sortGA true [d] M Q := sortGA_at h (okS_ints l) (by rw [sortB_rev]; exact q)
end AL
set_option Elab.async false
set_option linter.all false
set_option maxRecDepth 100000
set_option maxHeartbeats 4000000
set_option autoImplicit false
/-! AL30: sorted of one item; dicts whose keys are tuples of ints. -/
namespace AL
open PySem PySem.Spec PyProof.Rows L2 LamX PySem.W
def rSort1 (K : PySem.W.Frag) : List V → Hp → VK → Prop := fun vs H Q => ∃ (a : Addr) (v : V), vs = [.ref a] ∧ SqL K H a [v] ∧ ∀ p, H p = none → Q (.ref p) (upd H p (.lst [v]))
theorem cr_sort1 {X : Cx} : CallR X (.builtin "sorted") (rSort1 X.K) := by
  rintro pins s σ H vs us Q I r ⟨a, v, rfl, hs, q⟩
  rw [Vals.ref1 r]
  obtain ⟨its, rv, hl, hz⟩ := I.list hs
  obtain ⟨u, rfl, ru⟩ := vals1 rv
  refine PySem.W.sorted_of_sort hl.isList (by show 1 ≤ sizeLine; decide) (args_sorted1 _) (fun _ => args_list_sort _) fun E' => ?_
  refine _root_.Srt.list_sort_any (s := { s with heap := PySem.W.copyHeap s.heap [u] }) (PySem.W.copyHeap_at s.heap [u]) (by show 1 ≤ sizeLine; decide) (fun h2 => absurd h2 (by simp)) fun out hp => ⟨rfl, ?_⟩
  have : out = [u] := List.perm_singleton.mp hp
  subst this
  obtain ⟨ep, he'⟩ := PyProof.Rows.sortedAll_at s.heap [u] [u].toArray
  exact ⟨.ref _, upd H (s.heap.objs.size + 1) (.lst [v]), I.laid (t' := s.toks) (fun _ _ => PyProof.Rows.sortedAll_old) (Nat.le_succ _) ⟨by show 1 ≤ sizeLine; decide, [u], ep, .cons ru .nil, he'⟩, rfl, q _ (I.hok.fresh (Nat.le_succ _))⟩
/-- sorted(xs), one item of any kind too -/
def sortXA : ACall := fun ds M Q => match ds with
  | [d] => (match seqL M d with | some es => (SortOk es ∨ es.length = 1) ∧ Q (.lst (sortB false es)) M | none => False)
  | _ => False
theorem sortXA_at {M : Store} {d : D} {es : List D} {Q : DK} (h : seqL M d = some es) (ok : SortOk es ∨ es.length = 1) (q : Q (.lst (sortB false es)) M) : sortXA [d] M Q := by
  unfold sortXA
  simp only [h]
  exact ⟨ok, q⟩
theorem cs_sortX {bb : BC} {K : PySem.W.Frag} : CallSim bb K (fun xs H Q => rSortG K false xs H Q ∨ rSort1 K xs H Q) sortXA := by
  intro Z H M xs ds Q Qa rh r q k
  cases r with
  | nil => exact q.elim
  | cons h r =>
    cases r with
    | cons _ _ => exact q.elim
    | nil =>
      rename_i v d
      have q : (match seqL M d with | some es => (SortOk es ∨ es.length = 1) ∧ Qa (.lst (sortB false es)) M | none => False) := q
      cases z : seqL M d with
      | none => rw [z] at q; exact q.elim
      | some es =>
        rw [z] at q
        obtain ⟨a, vs, rfl, ha, hr, hn⟩ := seqL_ok rh h z
        obtain ⟨ok | one, q⟩ := q
        · obtain ⟨ok, al, so⟩ := ok
          obtain ⟨U, u1, u2, u3, u4⟩ := sort_partsB (K := K) (T := bb.T) false hr ok
          refine .inl ⟨a, U, rfl, by rw [u1]; exact .inl (.of ha), u3, by rw [u2]; exact al, by rw [u2]; exact so, fun p np => ?_⟩
          obtain ⟨r2, e2, z2⟩ := new_lst rh np (by rw [sortB_length]; exact hn) u4
          exact k _ _ _ _ r2 e2 z2 q
        · match es, one with
          | [x], _ =>
            cases hr with
            | cons h1 h2 =>
              cases h2
              rename_i u
              refine .inr ⟨a, u, rfl, .of ha, fun p np => ?_⟩
              have e : sortB false [x] = [x] := by simp [sortB]
              rw [e] at q
              obtain ⟨r2, e2, z2⟩ := new_lst rh np hn (Rs.one h1)
              exact k _ _ _ _ r2 e2 z2 q
section
variable {b : BC} {X : Cx} {pos p : Pos} {e : Expr} {t : TA} {at_ : ATA} {k : Nat}
theorem de_sortedX (hr : Room k X.A) (hm : X.mg "sorted" = none) (ha : DA b X [e] t at_ 1) (hg : Gl X "sorted" := by rfl) (he : starEach (e :: []) X.env = (false, eval e X.env) :: starEach [] X.env := by rfl) (hpl : (backTo pos (starEach [] X.env)).any (·.1) = false := by rfl) :
    DE b X (.Call (.Name "sorted" p) [e] [] pos) (tCB (fun xs H Q => rSortG X.K false xs H Q ∨ rSort1 X.K xs H Q) t) (aCB sortXA at_) := de_cb ((cr_sortG (room100 hr)).or cr_sort1) cs_sortX hm ha (by decide +kernel) hg (by decide) (by decide) he hpl
end
/-! ### dicts with keys that are things of the heap -/
/-- the dict at d: keys of the kind knd with their own things and values -/
def TDO {P : Program} {w : World} {κ : Type} [DecidableEq κ] (knd : HeapKind P w κ) (d : Addr) (kvs : List (κ × Addr × V)) : HO := .ext fun h => ((d == sysModules) = false ∧ kvs.length ≤ sizeLine) ∧ ∃ xs : List (κ × Addr × Value),
  Paired (fun (p : κ × Addr × V) (q : κ × Addr × Value) => p.1 = q.1 ∧ p.2.1 = q.2.1 ∧ RelV p.2.2 q.2.2) kvs xs ∧
  ∃ o es ep, h.get? d = some o ∧ o.ExactDict ∧ o.data = .dict es ep ∧ es.toList = xs.map (entryOfKey knd) ∧ (xs.map (·.1)).Nodup
section
variable {P : Program} {w : World} {κ : Type} [DecidableEq κ] {knd : HeapKind P w κ} {d : Addr} {kvs : List (κ × Addr × V)}
theorem tdo_tbl : ∀ ps, TDO knd d kvs ≠ .tbl ps := fun ps z => by cases z
theorem tdo_code : ∀ c q, TDO knd d kvs ≠ CodeO c q := fun c q z => by
  injection z with z
  let ob : Obj := { cls := .none, data := .fields #[.none, .str q 0] }
  let h0 : Heap := { objs := Array.replicate (c + 1) ob }
  have at0 : ∀ b, h0.get? b = if b < c + 1 then some ob else none := fun b => by
    unfold Heap.get?
    show (match (Array.replicate (c + 1) ob)[b]? with | some ⟨_, _, .freed, _⟩ => none | o => o) = _
    rw [Array.getElem?_replicate]
    by_cases e : b < c + 1
    · rw [if_pos e]
    · rw [if_neg e]
  have hc : h0.get? c = some ob := by rw [at0, if_pos (Nat.lt_succ_self c)]
  have := (congrFun z h0).mpr ⟨ob, _, 0, hc, rfl, rfl⟩
  obtain ⟨_, xs, _, o, es, ep, ho, _, hd, _⟩ := this
  rw [at0] at ho
  split at ho
  · cases ho; cases hd
  · cases ho
theorem tdo_ok {H : Hp} {h : Heap} (x : (fun h : Heap => ((d == sysModules) = false ∧ kvs.length ≤ sizeLine) ∧ ∃ xs : List (κ × Addr × Value),
  Paired (fun (p : κ × Addr × V) (q : κ × Addr × Value) => p.1 = q.1 ∧ p.2.1 = q.2.1 ∧ RelV p.2.2 q.2.2) kvs xs ∧
  ∃ o es ep, h.get? d = some o ∧ o.ExactDict ∧ o.data = .dict es ep ∧ es.toList = xs.map (entryOfKey knd) ∧ (xs.map (·.1)).Nodup) h) : ObjOk P w H h d (TDO knd d kvs) := by
  obtain ⟨hz, xs, r, o, es, ep, ho, rest⟩ := x
  exact ⟨⟨hz, xs, r, o, es, ep, ho, rest⟩, ⟨o, ho⟩, fun h1 h2 ⟨hz, xs, r, o, es, ep, ho, rest⟩ k => ⟨hz, xs, r, o, es, ep, k o ho, rest⟩⟩
end
end AL
set_option Elab.async false
set_option linter.all false
set_option maxRecDepth 100000
set_option maxHeartbeats 4000000
set_option autoImplicit false
/-! AL31: dicts whose keys are tuples of ints. -/
namespace AL
open PySem PySem.Spec PyProof.Rows L2 LamX PySem.W
abbrev TK (P : Program) (w : World) : HeapKind P w (List Key) := tupleKind (mixKind P w)
theorem key_rd {P : Program} {w : World} {H : Hp} {h : Heap} {a : Addr} {ks : List Key} (ok : HOk P w H h) (e : Rd H a (.tup (ks.map kV))) : (TK P w).is h ks a := by
  obtain ⟨_, its, r, o, h1, h2, n, h3⟩ := (show ObjOk P w H h a (.tup (ks.map kV)) from rd_of ok e)
  exact ⟨o, its.toArray, n, h1, h2, h3, by simpa using items_are r⟩
abbrev fK (kvs : List (List Key × Addr × V)) : List (List Key) := kvs.map fun p => p.1
abbrev fX (xs : List (List Key × Addr × Value)) : List (List Key) := xs.map fun p => p.1
def hasK (k : List Key) (l : List (List Key)) : Bool := l.any fun x => decide (x = k)
abbrev PV (kvs : List (List Key × Addr × V)) (xs : List (List Key × Addr × Value)) : Prop := Paired (fun (p : List Key × Addr × V) (q : List Key × Addr × Value) => p.1 = q.1 ∧ p.2.1 = q.2.1 ∧ RelV p.2.2 q.2.2) kvs xs
theorem pv_keys : ∀ {kvs : List (List Key × Addr × V)} {xs : List (List Key × Addr × Value)}, PV kvs xs → fX xs = fK kvs ∧ xs.length = kvs.length ∧ ∀ x ∈ xs, ∃ p ∈ kvs, p.1 = x.1 ∧ p.2.1 = x.2.1
  | _, _, .nil => ⟨rfl, rfl, fun x m => by cases m⟩
  | p :: _, q :: _, .cons h r => by
    obtain ⟨h1, h2, h3⟩ := pv_keys r
    refine ⟨by show q.1 :: fX _ = p.1 :: fK _; rw [h1, h.1], by simp [h2], fun x m => ?_⟩
    rcases List.mem_cons.mp m with rfl | m
    · exact ⟨p, List.mem_cons_self, h.1, h.2.1⟩
    · obtain ⟨p', m', e⟩ := h3 x m
      exact ⟨p', List.mem_cons_of_mem _ m', e⟩
theorem tdo_get {X : Cx} {pins : List (Addr × Obj)} {σ : L2.St} {H : Hp} {s : Shared} {d : Addr} {kvs : List (List Key × Addr × V)} (I : Inv X pins σ H s) (e : H d = some (TDO (TK X.prog X.w) d kvs)) (hk : ∀ p ∈ kvs, Rd H p.2.1 (.tup (p.1.map kV))) :
    ((d == sysModules) = false ∧ kvs.length ≤ sizeLine) ∧ ∃ xs, PV kvs xs ∧ s.heap.DictOfH (TK X.prog X.w) d xs := by
  obtain ⟨hz, xs, r, o, es, ep, h1, h2, h3, h4, h5⟩ := (show ObjOk X.prog X.w H s.heap d (TDO (TK X.prog X.w) d kvs) from I.hok d _ e).1
  refine ⟨hz, xs, r, o, es, ep, h1, h2, h3, h4, fun x hx => ?_, h5⟩
  obtain ⟨p, hp, e1, e2⟩ := (pv_keys r).2.2 x hx
  rw [← e1, ← e2]
  exact key_rd I.hok (hk p hp)
theorem at_some {xs : List (List Key × Addr × Value)} {k : List Key} : (atKey xs k).isSome = hasK k (fX xs) := by
  unfold atKey hasK
  rw [Option.isSome_map]
  induction xs with
  | nil => rfl
  | cons x r ih =>
    rw [List.find?_cons]
    show _ = (decide (x.1 = k) || _)
    by_cases c : x.1 = k
    · simp [c]
    · simp only [c, decide_false, Bool.false_or]
      exact ih
def rInT (P : Program) (w : World) (neg : Bool) : R2 := fun x y H Q => ∃ (b d : Addr) (k : List Key) (kvs : List (List Key × Addr × V)), x = .ref b ∧ y = .ref d ∧ Rd H b (.tup (k.map kV)) ∧ H d = some (TDO (TK P w) d kvs) ∧ (∀ p ∈ kvs, Rd H p.2.1 (.tup (p.1.map kV))) ∧ Q (.bl (neg != hasK k (fK kvs))) H
theorem op_inT {X : Cx} (hu : X.A.units + 1 < cLine) : OpR X (compareOp .In) (rInT X.prog X.w false) := by
  intro pins s σ H x y v u Q I rx ry h
  obtain ⟨b, d, k, kvs, rfl, rfl, hb, hd, hk, q⟩ := h
  cases rx
  cases ry
  obtain ⟨hz, xs, r, dd⟩ := tdo_get I hd hk
  refine wpAny_in_heap (tupleKind_room_in1 hu) (key_rd I.hok hb) hz.1 dd ?_
  rw [at_some, (pv_keys r).1]
  exact ⟨.bl (hasK k (fK kvs)), H, I.tok _, rfl, by simpa using q⟩
theorem op_ninT {X : Cx} (hu : X.A.units + 1 < cLine) : OpR X (compareOp .NotIn) (rInT X.prog X.w true) := by
  intro pins s σ H x y v u Q I rx ry h
  obtain ⟨b, d, k, kvs, rfl, rfl, hb, hd, hk, q⟩ := h
  cases rx
  cases ry
  obtain ⟨hz, xs, r, dd⟩ := tdo_get I hd hk
  refine wpAny_notIn_heap (tupleKind_room_in1 hu) (key_rd I.hok hb) hz.1 dd ?_
  rw [at_some, (pv_keys r).1]
  exact ⟨.bl (!hasK k (fK kvs)), H, I.tok _, rfl, by simpa using q⟩
/-- d[t] = v, a new key -/
theorem pv_snoc {kvs : List (List Key × Addr × V)} {xs : List (List Key × Addr × Value)} (r : PV kvs xs) {k : List Key} {b : Addr} {v : V} {u : Value} (ru : RelV v u) : PV (kvs ++ [(k, b, v)]) (xs ++ [(k, b, u)]) := by
  induction r with
  | nil => exact .cons ⟨rfl, rfl, ru⟩ .nil
  | cons h _ ih => exact .cons h ih
def sTPut (P : Program) (w : World) (td ty tv : TE) : TS := fun D σ H => tv σ H fun v H1 => td σ H1 fun x H2 => ty σ H2 fun y H3 => ∃ (b d : Addr) (k : List Key) (kvs : List (List Key × Addr × V)), x = .ref d ∧ y = .ref b ∧ Rd H3 b (.tup (k.map kV)) ∧ H3 d = some (TDO (TK P w) d kvs) ∧ (∀ p ∈ kvs, Rd H3 p.2.1 (.tup (p.1.map kV))) ∧ hasK k (fK kvs) = false ∧ kvs.length < sizeLine ∧ D.nx σ (upd H3 d (TDO (TK P w) d (kvs ++ [(k, b, v)])))
theorem ps_tput {X : Cx} {o i value : Expr} {td ty tv : TE} {pos pos' : Pos} (hu : X.A.units + 1 < cLine) (ho : PE X o td) (hi : PE X i ty) (hv : PE X value tv) (hs : swapsWith value (some (.Subscript o i pos')) pos.line X.env = pure false) :
    PS X (.Assign [.Subscript o i pos'] value pos) (sTPut X.prog X.w td ty tv) := by
  refine ⟨fun pins s σ H D I h => ?_⟩
  refine wpAny_Assign_Subscript (thn (hv.run pins s σ H _ I h) fun r s1 ⟨v, H1, I1, rv, q1⟩ => thn (ho.run pins s1 σ H1 _ I1 q1) fun u s2 ⟨x, H2, I2, rx, q2⟩ => thn (hi.run pins s2 σ H2 _ I2 q2) fun iv s3 ⟨y, H3, I3, ry, q3⟩ => ?_) hs
  obtain ⟨b, d, k, kvs, rfl, rfl, hb, hd, hk, hn, hl, q⟩ := q3
  cases rx
  cases ry
  obtain ⟨hz, xs, rr, dd⟩ := tdo_get I3 hd hk
  have hx : atKey xs k = none := by
    have := at_some (xs := xs) (k := k)
    rw [(pv_keys rr).1, hn] at this
    exact Option.isSome_eq_false_iff.mp this |> Option.isNone_iff_eq_none.mp
  refine wpAny_setItem_heap (hsz := by rw [(pv_keys rr).2.1]; exact hz.2) (tupleKind_room_in1 hu) (key_rd I3.hok hb) dd fun h' dd' hsb => ⟨σ, _, ?_, q⟩
  rw [storedH_new hx] at dd'
  obtain ⟨ob, es, ep, hq, h2, h3, h4, h5, h6⟩ := dd'
  exact d_write I3 (by rw [hd]; exact True.intro) hsb ⟨ob, hq⟩ (tdo_ok ⟨⟨hz.1, by simp; omega⟩, _, pv_snoc rr rv, ob, es, ep, hq, h2, h3, h4, h6⟩)
/-- {t: v} -/
def tT1 (P : Program) (w : World) (tk tv : TE) : TE := fun σ H Q => ∀ d, H d = none → tk σ (upd H d (TDO (TK P w) d [])) fun x H1 => tv σ H1 fun v H2 => ∃ (b : Addr) (k : List Key), x = .ref b ∧ Rd H2 b (.tup (k.map kV)) ∧ H2 d = some (TDO (TK P w) d []) ∧ Q (.ref d) (upd H2 d (TDO (TK P w) d [(k, b, v)]))
theorem pe_T1 {X : Cx} {ke ve : Expr} {tk tv : TE} {pos : Pos} (hu : X.A.units + 1 < cLine) (hk : PE X ke tk) (hv : PE X ve tv) : PE X (.Dict [some ke] [ve] pos) (tT1 X.prog X.w tk tv) := by
  refine ⟨fun pins s σ H Q I h => ?_⟩
  have hn := I.hok.fresh (Nat.le_refl s.heap.objs.size)
  have hb : (s.heap.objs.size == sysModules) = false := by
    have := I.big
    simpa using (Nat.ne_of_gt this)
  have I1 : Inv X pins σ (upd H s.heap.objs.size (TDO (TK X.prog X.w) s.heap.objs.size [])) { s with heap := s.heap.push { cls := .type "dict", data := .dict #[] } } :=
    I.laid (a := s.heap.objs.size) (t' := s.toks) (fun _ _ q => Heap.get?_push_of_some _ q) (Nat.le_refl _) (tdo_ok ⟨⟨hb, Nat.zero_le _⟩, [], .nil, _, #[], 0, Heap.get?_push_size _ rfl, ⟨rfl, rfl, rfl⟩, rfl, rfl, List.nodup_nil⟩)
  rw [arm_eval_Dict, zip_pairTrees [some ke] [ve] X.env pos rfl rfl, dictDisplay_pairs (pairTrees [some ke] [ve] X.env pos) (by simp [pairTrees]) (by simp [pairTrees])]
  refine wpAny_bind (wpAny_standAt (wpAny_bind (wpAny_subDictH (knd := TK X.prog X.w) (Q := fun d s' => wpAny (model X.prog X.w) X.A (pure (Value.ref d)) (EP X pins σ Q) X.xe s') (Nat.lt_of_succ_lt hu) (by simp [pairTrees]) ?_)))
  refine pairTrees_cons_walk (thn (hk.run pins _ σ _ _ I1 (h _ hn)) fun u s1 ⟨x, H1, I2, rx, q1⟩ => thn (hv.run pins s1 σ H1 _ I2 q1) fun w2 s2 ⟨v, H2, I3, rv, q2⟩ => pairTrees_nil_walk ?_)
  obtain ⟨b, k, rfl, hb2, hd, q⟩ := q2
  cases rx
  obtain ⟨hz, xs, rr, dd⟩ := tdo_get I3 hd (fun p m => by cases m)
  cases rr
  refine ⟨[(k, b, w2)], ⟨rfl, rfl, key_rd I3.hok hb2, trivial⟩, dd, fun h' tk' dd' hsb => wpAny_pure ⟨.ref s.heap.objs.size, _, ?_, rfl, q⟩⟩
  obtain ⟨ob, es, ep, hq, h2, h3, h4, h5, h6⟩ := dd'
  exact d_write I3 (by rw [hd]; exact True.intro) hsb ⟨ob, hq⟩ (tdo_ok ⟨⟨hz.1, by show 1 ≤ sizeLine; decide⟩, _, .cons ⟨rfl, rfl, rv⟩ .nil, ob, es, ep, hq, h2, h3, h4, h6⟩)
end AL
set_option Elab.async false
set_option linter.all false
set_option maxRecDepth 100000
set_option maxHeartbeats 4000000
set_option autoImplicit false
/-! AL32: dicts whose keys are tuples of ints: the readings. -/
namespace AL
open PySem PySem.Spec PyProof.Rows L2 LamX PySem.W
def intsT (k : List Int) : D := .tup (k.map D.int)
def refOf : V → Addr | .ref b => b | _ => 0
def keysT (k : List Int) : List Key := k.map Sum.inl
def kvT : List (List Int) → List V → List (List Key × Addr × V)
  | k :: ks, v :: vs => (keysT k, refOf v, .bl true) :: kvT ks vs
  | _, _ => []
def mkT (P : Program) (w : World) (d : Addr) (ks : List (List Int)) : List V → HO := fun vs => TDO (TK P w) d (kvT ks vs)
def tdC (P : Program) (w : World) (d : Addr) (ks : List (List Int)) : Cell := .ob (mkT P w d ks) (ks.map intsT)
theorem keysT_kV (k : List Int) : (keysT k).map kV = k.map V.int := by unfold keysT; rw [List.map_map]; rfl
theorem intsT_R {F : Hp} {v : V} {k : List Int} (r : R F v (intsT k)) : ∃ b, v = .ref b ∧ Rd F b (.tup ((keysT k).map kV)) := by
  unfold intsT at r
  cases r with
  | tup h n r => rw [ints_rs r] at h; exact ⟨_, rfl, by rw [keysT_kV]; exact h⟩
theorem kvT_ok {F : Hp} : ∀ {ks : List (List Int)} {vs : List V}, Rs F vs (ks.map intsT) → (∀ p ∈ kvT ks vs, Rd F p.2.1 (.tup (p.1.map kV))) ∧ fK (kvT ks vs) = ks.map keysT ∧ (kvT ks vs).length = ks.length
  | [], _, .nil => ⟨fun p m => (by cases m), rfl, rfl⟩
  | k :: ks, _, .cons (v := v) h r => by
    obtain ⟨h1, h2, h3⟩ := kvT_ok r
    obtain ⟨b, rfl, hb⟩ := intsT_R h
    refine ⟨fun p m => ?_, by show keysT k :: fK (kvT ks _) = _; rw [h2]; rfl, by show (kvT ks _).length + 1 = _; rw [h3]; rfl⟩
    rcases List.mem_cons.mp m with rfl | m
    · exact hb
    · exact h1 p m
theorem keysT_inj {a b : List Int} (h : keysT a = keysT b) : a = b := (List.map_inj_right fun x y e => Sum.inl.inj e).mp h
theorem hasK_ks (k : List Int) : ∀ ks : List (List Int), hasK (keysT k) (ks.map keysT) = decide (k ∈ ks)
  | [] => by simp [hasK]
  | x :: r => by
    show (decide (keysT x = keysT k) || hasK (keysT k) (r.map keysT)) = _
    rw [hasK_ks k r]
    by_cases c : x = k
    · subst c; simp
    · have c1 : ¬ keysT x = keysT k := fun z => c (keysT_inj z)
      have c2 : ¬ k = x := fun z => c z.symm
      simp [c1, c2]
theorem kvT_snoc : ∀ {ks : List (List Int)} {vs : List V} (k : List Int) (b : Addr), vs.length = ks.length → kvT (ks ++ [k]) (vs ++ [.ref b]) = kvT ks vs ++ [(keysT k, b, .bl true)]
  | [], [], k, b, _ => rfl
  | x :: ks, v :: vs, k, b, h => by
    show (keysT x, refOf v, V.bl true) :: kvT (ks ++ [k]) (vs ++ [.ref b]) = _
    rw [kvT_snoc k b (by simpa using h)]; rfl
  | [], _ :: _, _, _, h => by simp at h
  | _ :: _, [], _, _, h => by simp at h
/-- t in d, t not in d -/
def inTA (P : Program) (w : World) (neg : Bool) : R2A := fun d e M Q => ∃ (c : Addr) (ks : List (List Int)) (k : List Int), e = .ref c ∧ M c = some (tdC P w c ks) ∧ d = intsT k ∧ Q (.bl (neg != decide (k ∈ ks))) M
theorem os_inT {b : BC} {K : PySem.W.Frag} {P : Program} {w : World} {neg : Bool} : OpSim b K (rInT P w neg) (inTA P w neg) := by
  rintro Z H M x y d e Q Qa rh hx hy ⟨c, ks, k, rfl, hc, rfl, q⟩ kk
  obtain ⟨bb, rfl, hb⟩ := intsT_R hx
  cases hy
  obtain ⟨vs, h1, _, h3⟩ := rh.cells c _ hc
  obtain ⟨g1, g2, g3⟩ := kvT_ok h3
  refine ⟨bb, c, keysT k, kvT ks vs, rfl, rfl, rd_mk hb, h1, fun p m => rd_mk (g1 p m), ?_⟩
  rw [g2, hasK_ks]
  exact kk _ _ H M rh (Ext.refl H M) (.bl _) q
section
variable {b : BC} {X : Cx} {pos : Pos} {e1 e2 : Expr} {ta tb : TE} {aa ab : ATE} {k : Nat}
theorem room1 {k : Nat} {A : Around} (r : Room k A) : A.units + 1 < cLine := by have := r.un; omega
theorem de_inT (hr : Room k X.A) (ha : DE b X e1 ta aa) (hb : DE b X e2 tb ab) (hm : behindInMarks .In e2 = false := by with_unfolding_all rfl) : DE b X (.Compare e1 [.In] [e2] pos) (tOp (rInT X.prog X.w false) ta tb) (aOp (inTA X.prog X.w false) aa ab) := ⟨pe_cmpR (op_inT (room1 hr)) ha.pe hb.pe hm, sim_op os_inT ha.sim hb.sim⟩
theorem de_ninT (hr : Room k X.A) (ha : DE b X e1 ta aa) (hb : DE b X e2 tb ab) (hm : behindInMarks .NotIn e2 = false := by with_unfolding_all rfl) : DE b X (.Compare e1 [.NotIn] [e2] pos) (tOp (rInT X.prog X.w true) ta tb) (aOp (inTA X.prog X.w true) aa ab) := ⟨pe_cmpR (op_ninT (room1 hr)) ha.pe hb.pe hm, sim_op os_inT ha.sim hb.sim⟩
theorem dt_ninT (hr : Room k X.A) (ha : DE b X e1 ta aa) (hb : DE b X e2 tb ab) (hm : behindInMarks .NotIn e2 = false := by with_unfolding_all rfl) : DT b X (.Compare e1 [.NotIn] [e2] pos) (tB (tOp (rInT X.prog X.w true) ta tb)) (aBool (aOp (inTA X.prog X.w true) aa ab)) := ⟨pt_cmpR (op_ninT (room1 hr)) ha.pe hb.pe hm, sim_bool (de_ninT (pos := pos) hr ha hb hm).sim⟩
end
theorem cell_T {K : PySem.W.Frag} {F H : Hp} {P : Program} {w : World} {d : Addr} {ks : List (List Int)} {vs : List V} (h : H d = some (TDO (TK P w) d (kvT ks vs))) (r : Rs F vs (ks.map intsT)) : CellOk K F H d (tdC P w d ks) := ⟨vs, h, ⟨tdo_tbl, tdo_code⟩, r⟩
/-- d[t] = True, a new key -/
@[simp] def aTPut (P : Program) (w : World) (ao ai : ATE) : ATS := fun E sl M => ao sl M fun o M2 => ai sl M2 fun i M3 => ∃ (c : Addr) (ks : List (List Int)) (k : List Int), o = .ref c ∧ M3 c = some (tdC P w c ks) ∧ i = intsT k ∧ k ∉ ks ∧ ks.length < sizeLine ∧ E.nx sl (updS M3 c (tdC P w c (ks ++ [k])))
section
variable {b : BC} {X : Cx} {pos pos' q : Pos} {e1 e2 : Expr} {ta tb : TE} {aa ab : ATE} {k j : Nat}
theorem ds_tput (hr : Room k X.A) (ho : DE b X e1 ta aa) (hi : DE b X e2 tb ab) (hs : swapsWith (.Constant (.bool true) j q) (some (.Subscript e1 e2 pos')) pos.line X.env = pure false := by rfl) :
    DS b X (.Assign [.Subscript e1 e2 pos'] (.Constant (.bool true) j q) pos) (sTPut X.prog X.w ta tb (tC (.bl true))) (aTPut X.prog X.w aa ab) := ⟨ps_tput (room1 hr) ho.pe hi.pe pe_bl hs, fun Z σ H M sl E Ea rp e q kk =>
  ho.sim Z σ H M sl _ _ rp e q fun o do_ H2 M2 r2 e2 h2 q2 => hi.sim Z σ H2 M2 sl _ _ (rp.to r2 e2) (e.trans e2) q2 fun i di H3 M3 r3 e3 h3 q3 => by
    obtain ⟨c, ks, kx, rfl, hc, rfl, hn, hl, q3⟩ := q3
    obtain ⟨bb, rfl, hb⟩ := intsT_R h3
    cases h2
    obtain ⟨vs, h1, _, hr3⟩ := r3.cells c _ hc
    obtain ⟨g1, g2, g3⟩ := kvT_ok hr3
    have lv : vs.length = ks.length := by have := hr3.length; rw [List.length_map] at this; exact this
    obtain ⟨r4, e4⟩ := r3.put (o := TDO (TK X.prog X.w) c (kvT (ks ++ [kx]) (vs ++ [.ref bb]))) (c' := tdC X.prog X.w c (ks ++ [kx])) hc (cell_T (vs := vs ++ [.ref bb]) upd_same (by rw [List.map_append]; exact hr3.append (.one h3)))
    refine ⟨bb, c, keysT kx, kvT ks vs, rfl, rfl, rd_mk hb, h1, fun p m => rd_mk (g1 p m), by rw [g2, hasK_ks]; exact decide_eq_false hn, by rw [g3]; exact hl, ?_⟩
    rw [← kvT_snoc kx bb lv]
    exact kk.nx _ _ _ _ ((rp.to r2 e2).to r3 e3 |>.to r4 e4) (e2.trans (e3.trans e4)) q3⟩
/-- {x: True} -/
@[simp] def aT1 (P : Program) (w : World) (i : Nat) : ATE := fun sl M Q => ∃ (dd : D) (kx : List Int), slotD sl i = some dd ∧ viewD M dd = intsT kx ∧ ∀ d, M d = none → Q (.ref d) (updS M d (tdC P w d [kx]))
theorem de_T1 {x : Str} {p : Pos} (i : Nat) (hr : Room k X.A) (hN : X.N[i]? = some x := by rfl) (hv : Vis X.env.scope x := by first | exact Or.inl rfl | exact Or.inr (Or.inl rfl) | exact Or.inr (Or.inr rfl))
    (hd : (x == ("__debug__" : Str)) = false := by decide) (hcd : (x == ("__classdict__" : Str)) = false := by decide) :
    DE b X (.Dict [some (.Name x p)] [.Constant (.bool true) j q] pos) (tT1 X.prog X.w (tVar i) (tC (.bl true))) (aT1 X.prog X.w i) := ⟨pe_T1 (room1 hr) (pe_var hN hv hd hcd) pe_bl, fun Z σ H M sl Q Qa rp e q k => by
    obtain ⟨dd, kx, h1, h2, q⟩ := q
    intro d nd
    obtain ⟨v, hv, r⟩ := rp.slots i dd (slotD_get h1)
    have r := view_R rp.rh r
    rw [h2] at r
    obtain ⟨bb, rfl, hb⟩ := intsT_R r
    have nb : Rd (upd H d (TDO (TK X.prog X.w) d [])) bb (.tup ((keysT kx).map kV)) := by
      have := rd_mk hb
      rcases this with h | ⟨o, h⟩
      · exact .inl (by rw [upd_ne (ne_of_none h nd)]; exact h)
      · exact .inr ⟨o, by rw [upd_ne (ne_of_none h nd)]; exact h⟩
    refine ⟨.ref bb, hv, bb, keysT kx, rfl, nb, upd_same, ?_⟩
    rw [upd_upd]
    obtain ⟨r2, e2⟩ := rp.rh.cell (o := TDO (TK X.prog X.w) d (kvT [kx] [.ref bb])) (c := tdC X.prog X.w d [kx]) nd (cell_T (vs := [.ref bb]) upd_same (.one r))
    exact k _ _ _ _ r2 e2 (.ref d) (q d (rp.rh.free nd))⟩
end
end AL
set_option Elab.async false
set_option linter.all false
set_option maxRecDepth 100000
set_option maxHeartbeats 4000000
set_option autoImplicit false
/-! AL33: len of a dict. -/
namespace AL
open PySem PySem.Spec PyProof.Rows L2 LamX PySem.W
def rLenK : List V → Hp → VK → Prop := fun xs H Q => ∃ (a : Addr) (kvs : List (Key × V)), xs = [.ref a] ∧ Rd H a (.dK kvs) ∧ Q (.int kvs.length) H
theorem cr_lenK {X : Cx} : CallR X (.builtin "len") rLenK := by
  rintro pins s σ H xs us Q I r ⟨a, kvs, rfl, hd, q⟩
  rw [Vals.ref1 r]
  exact d_len I hd fun t s' I' => ⟨.int kvs.length, H, I', ⟨t, rfl⟩, q⟩
def lenK : ACall := fun ds M Q => match ds with
  | [d] => (match dicA M d with | some kv => Q (.int (kv.length : Nat)) M | none => False)
  | _ => False
@[simp] theorem lenK_dic {kv : List (Key × D)} {M : Store} {Q : DK} : lenK [.dic kv] M Q = Q (.int (kv.length : Nat)) M := rfl
theorem cs_lenK {b : BC} {K : PySem.W.Frag} : CallSim b K rLenK lenK := by
  intro Z H M xs ds Q Qa rh r q k
  cases r with
  | nil => exact q.elim
  | cons h r =>
    cases r with
    | cons _ _ => exact q.elim
    | nil =>
      rename_i v d
      have q : (match dicA M d with | some kv => Qa (.int (kv.length : Nat)) M | none => False) := q
      cases h1 : dicA M d with
      | none => rw [h1] at q; exact q.elim
      | some kv =>
        rw [h1] at q
        obtain ⟨a, vs, rfl, ha, hr⟩ := dic_at rh h h1
        have hl : vs.length = kv.length := by have := congrArg List.length hr.keys; simpa using this
        refine ⟨a, vs, rfl, ha, ?_⟩
        rw [hl]
        exact k _ _ H M rh (Ext.refl H M) (.int _) q
section
variable {b : BC} {X : Cx} {pos p : Pos} {e : Expr} {t : TA} {at_ : ATA}
theorem de_lenK (hm : X.mg "len" = none) (ha : DA b X [e] t at_ 1) (hg : Gl X "len" := by rfl) (he : starEach (e :: []) X.env = (false, eval e X.env) :: starEach [] X.env := by rfl) (hpl : (backTo pos (starEach [] X.env)).any (·.1) = false := by rfl) :
    DE b X (.Call (.Name "len" p) [e] [] pos) (tCB rLenK t) (aCB lenK at_) := de_cb cr_lenK cs_lenK hm ha (by decide +kernel) hg (by decide) (by decide) he hpl
end
end AL
set_option Elab.async false
set_option linter.all false
set_option maxRecDepth 100000
set_option maxHeartbeats 4000000
set_option autoImplicit false
/-! AL34: tuples turned round; tuples joined, turned round into a cell of their own. -/
namespace AL
open PySem PySem.Spec PyProof.Rows L2 LamX PySem.W
section
variable {prog : Program} {w : World} {A : Around} {E : Value → Shared → Prop} {s : Shared}
theorem adjust_rev (n : Nat) : Builtin.Slice.sliceAdjust none none (-1) (n : Int) = ((n : Int) - 1, -1) := by
  unfold Builtin.Slice.sliceAdjust
  have h1 : ((-1 : Int) < 0) := by omega
  simp only [h1, if_true]
theorem places_rev (n : Nat) : Builtin.Slice.slicePlaces ((n : Int) - 1) (-1) (-1) = n := by
  unfold Builtin.Slice.slicePlaces
  have h1 : ¬ ((-1 : Int) > 0) := by omega
  have h2 : (- -1 : Int) = 1 := by omega
  simp only [h1, if_false, h2, Int.ediv_one]
  split <;> omega
theorem pick_rev (xs : List Value) : ((List.range xs.length).filterMap fun (m : Nat) => xs.toArray[(((xs.length : Int) - 1) + (m : Int) * (-1)).toNat]?).toArray = xs.reverse.toArray := by
  congr 1
  have h : ∀ m, xs.toArray[(((xs.length : Int) - 1) + (m : Int) * (-1)).toNat]? = xs[(((xs.length : Int) - 1) + (m : Int) * (-1)).toNat]? := fun m => by simp
  simp only [h]
  refine List.ext_getElem? fun i => ?_
  have key : ∀ k, k ≤ xs.length → (List.range k).filterMap (fun m : Nat => xs[(((xs.length : Int) - 1) + (m : Int) * (-1)).toNat]?) = (List.range k).map (fun m => xs.getD (xs.length - 1 - m) .none) := by
    intro k
    induction k with
    | zero => intro _; rfl
    | succ k ih =>
      intro hk
      rw [List.range_succ, List.filterMap_append, List.map_append, ih (by omega)]
      congr 1
      have e : (((xs.length : Int) - 1) + (k : Int) * (-1)).toNat = xs.length - 1 - k := by omega
      have lt : xs.length - 1 - k < xs.length := by omega
      simp only [List.filterMap_cons, List.filterMap_nil, e, List.getElem?_eq_getElem lt, List.map_cons, List.map_nil]
      simp [List.getElem?_eq_getElem lt]
  rw [key xs.length (Nat.le_refl _), List.getElem?_map]
  by_cases c : i < xs.length
  · rw [List.getElem?_range c, List.getElem?_reverse c]
    have lt : xs.length - 1 - i < xs.length := by omega
    simp [List.getElem?_eq_getElem lt]
  · rw [List.getElem?_eq_none (by simpa using c), List.getElem?_eq_none (by simpa using c)]; rfl
theorem sliceApplied_rev {sl : Addr} {vl vu vs : Value} {n : Nat} {Q : Int × Int × Nat → Shared → Prop} (hs : s.heap.IsSliceOf sl vl vu vs) (pl : IsPart vl none) (pu : IsPart vu none) (ps : IsPart vs (some (-1)))
    (h : Q ((n : Int) - 1, -1, n) s) : wpAny (model prog w) A (Builtin.Slice.sliceApplied (.ref sl) (pure (n : Int))) Q E s := by
  obtain ⟨os, hos, hcs, hds⟩ := id hs
  unfold Builtin.Slice.sliceApplied Builtin.Slice.sliceFields
  refine wpAny_bind (wpAny_bind (wpAny_field hos hds (x := vl) rfl (wpAny_bind (wpAny_field hos hds (x := vu) rfl (wpAny_bind (wpAny_field hos hds (x := vs) rfl (wpAny_pure ?_)))))))
  refine wpAny_bind (HT.slicePart_ ps ?_)
  show wpAny _ _ (if ((-1 : Int) == 0) = true then _ else _) _ _ s
  rw [if_neg (by decide)]
  refine wpAny_bind (HT.slicePart_ pl (wpAny_bind (HT.slicePart_ pu (wpAny_bind (wpAny_pure ?_)))))
  show wpAny _ _ (match Builtin.Slice.sliceAdjust none none (-1) (n : Int) with | (lo, hi) => pure (lo, (-1 : Int), Builtin.Slice.slicePlaces lo hi (-1))) _ _ s
  rw [adjust_rev n]
  show wpAny _ _ (pure (((n : Int) - 1), (-1 : Int), Builtin.Slice.slicePlaces ((n : Int) - 1) (-1) (-1))) _ _ s
  rw [places_rev]
  exact wpAny_pure h
theorem getItem_tuple_rev {t sl : Addr} {items : List Value} {vl vu vs : Value} {Q : Value → Shared → Prop} (ht : IsTup s.heap t items.toArray) (hs : s.heap.IsSliceOf sl vl vu vs) (pl : IsPart vl none) (pu : IsPart vu none) (ps : IsPart vs (some (-1)))
    (h : Q (.ref s.heap.objs.size) { s with heap := s.heap.push { cls := .type "tuple", data := .seq items.reverse.toArray } })
    (hsz : items.length ≤ sizeLine) : wpAny (model prog w) A (getItem (.ref t) (.ref sl)) Q E s := by
  have htake : sizeOk (.seq items.reverse.toArray) := by
    show items.reverse.toArray.size ≤ sizeLine
    rw [List.size_toArray, List.length_reverse]
    exact hsz
  obtain ⟨os, hos, hcs, hds⟩ := id hs
  have hTs : s.TypeIs (.ref sl) "slice" := ⟨os, hos, hcs⟩
  unfold getItem
  try with_reducible refine wpAny_holding ?_
  first | refine wpAny_bind (wpAny_pure ?_) | skip
  refine wpAny_bind (wpAny_sequenceKey ht.typeIs (by decide) ?_)
  refine wpAny_bind (wpAny_callSpecial?_slot (name := Str.ofString "__getitem__") ht.typeIs PyProof.Rows.slot_tuple_getitem
    (wpAny_call_entry PyProof.Rows.slot_tuple_getitem ht.typeIs entry_tuple_getitem ?_ (args_tuple_getitem _ _)))
  show wpAny _ _ (Builtin.Tuple.tupleItemsOf (.ref t) >>= _) _ _ s
  refine wpAny_bind (tupleItemsOf_ ht ?_)
  refine wpAny_bind (wpAny_typeOf hTs ?_)
  rw [if_pos (by decide)]
  have hsz2 : items.toArray.size = items.length := List.size_toArray
  rw [hsz2]
  refine wpAny_bind (sliceApplied_rev hs pl pu ps ?_)
  have hno : ¬ ((((items.length : Int) - 1) == 0 && (-1 : Int) == 1 && items.length == items.length) = true) := by
    intro q
    rw [Bool.and_eq_true, Bool.and_eq_true] at q
    have q1 : (-1 : Int) = 1 := eq_of_beq q.1.2
    omega
  show wpAny _ _ (if (((items.length : Int) - 1) == 0 && (-1 : Int) == 1 && items.length == items.length) = true then _ else _) _ _ s
  rw [if_neg hno, pick_rev]
  first
    | exact wpAny_bind (m := Builtin.Tuple.tupleExact _) (wpAny_newObj_type (wpAny_pure ⟨_, rfl, wpAny_pure h⟩) htake)
    | exact wpAny_bind (m := Builtin.Tuple.tupleExact _) (wpAny_newObj_type (wpAny_bind (wpAny_pure (wpAny_pure ⟨_, rfl, wpAny_pure h⟩))) htake)
    | exact wpAny_bind (wpAny_bind (m := Builtin.Tuple.tupleExact _) (wpAny_newObj_type (wpAny_pure (wpAny_pure ⟨_, rfl, wpAny_pure h⟩)) htake))
    | exact wpAny_bind (wpAny_bind (m := Builtin.Tuple.tupleExact _) (wpAny_newObj_type (wpAny_pure ⟨_, rfl, wpAny_pure h⟩) htake))
end
/-- t[::-1]: made as data (p = false) or with its own object told -/
def rRevT (K : PySem.W.Frag) : V → Hp → VK → Prop := fun x H Q => ∃ a xs, x = .ref a ∧ SqT K H a xs ∧ ((∀ p, H p = none → Q (.ref p) (upd H p (.tup xs.reverse))) ∨ (∀ p its, H p = none → Q (.ref p) (upd H p (.frz (plainT its) (.tup xs.reverse)))))
theorem pe_revT {X : Cx} {e : Expr} {te : TE} {k : Nat} {p1 p2 p3 pos : Pos} (he : PE X e te) : PE X (.Subscript e (.Slice none none (some (.UnaryOp .USub (.Constant (.int 1) k p1) p2)) p3) pos) (fun σ H Q => te σ H fun x H1 => rRevT X.K x H1 Q) := by
  refine ⟨fun pins s σ H Q I h => ?_⟩
  refine Subscript_ (thn (he.run pins s σ H _ I h) fun v s1 ⟨x, H1, I1, r1, q1⟩ => ?_)
  have hst : PO X (some (.UnaryOp .USub (.Constant (.int 1) k p1) p2)) (tPart (tUn (rU fun i => .int (-i)) (tC (.int 1)))) := po_some (pe_un un_neg pe_int)
  refine wpAny_Slice (thn (po_none.run pins s1 σ H1 (fun o H2 => o = none ∧ H2 = H1) I1 ⟨rfl, rfl⟩) fun vl s2 ⟨l, H2, I2, pl, el, e2⟩ => ?_)
  subst el e2
  refine thn (po_none.run pins s2 σ H2 (fun o H3 => o = none ∧ H3 = H2) I2 ⟨rfl, rfl⟩) fun vu s3 ⟨u, H3, I3, pu, eu, e3⟩ => ?_
  subst eu e3
  refine thn (hst.run pins s3 σ H3 (fun o H4 => o = some (-1) ∧ H4 = H3) I3 ⟨1, rfl, -1, rfl, rfl, rfl⟩) fun vs s4 ⟨o, H4, I4, ps, eo, e4⟩ => ?_
  subst eo e4
  have I5 : Inv X pins σ H4 { s4 with heap := s4.heap.push { cls := .type "slice", data := .fields #[vl, vu, vs] } } := I4.kept (t' := s4.toks) fun b ob q => Heap.get?_push_of_some _ q
  obtain ⟨a, xs, ex, hx, q⟩ := q1
  subst ex
  cases r1
  obtain ⟨its, r, ht, hz⟩ := I5.tuple hx
  have hlen := r.length
  show wpAny (model X.prog X.w) X.A (subscriptTail e (.Slice none none (some (.UnaryOp .USub (.Constant (.int 1) k p1) p2)) p3) (.ref a) (.ref s4.heap.objs.size)) (EP X pins σ Q) X.xe { s4 with heap := s4.heap.push { cls := .type "slice", data := .fields #[vl, vu, vs] } }
  refine tail_any (ops := [.ref a, .ref s4.heap.objs.size]) ht.typeIs (PyProof.Rows.slot_tuple_getitem.lookup) ?_ (by with_unfolding_all rfl)
  refine getItem_tuple_rev ht (Heap.IsSliceOf.new _ vl vu vs) pl pu ps ?_ (by rw [← hlen]; exact hz)
  rcases q with q | q
  · refine ⟨.ref _, _, I5.laid (t' := s4.toks) (o := .tup xs.reverse) (fun b ob q => Heap.get?_push_of_some _ q) (Nat.le_refl _) ?_, rfl, q _ (I5.hok.fresh (Nat.le_refl _))⟩
    exact ⟨by rw [List.length_reverse]; exact hz, _, r.reverse, IsTup.new _ _⟩
  · refine ⟨.ref _, _, I5.laid (t' := s4.toks) (o := .frz (plainT its.reverse.toArray) (.tup xs.reverse)) (fun b ob q => Heap.get?_push_of_some _ q) (Nat.le_refl _) ?_, rfl, q _ _ (I5.hok.fresh (Nat.le_refl _))⟩
    exact ⟨Heap.get?_push_size _ rfl, by rw [List.length_reverse]; exact hz, _, r.reverse, IsTup.new _ _⟩
def revTD : R1A := fun d M Q => match seqT d with | some es => Q (.tup es.reverse) M | none => False
@[simp] theorem revTD_tup {es : List D} {M : Store} {Q : DK} : revTD (.tup es) M Q = Q (.tup es.reverse) M := rfl
def revTP : R1A := fun d M Q => match seqT d with | some es => ∀ a, M a = none → Q (.ref a) (updS M a (.tp es.reverse)) | none => False
@[simp] theorem revTP_tup {es : List D} {M : Store} {Q : DK} : revTP (.tup es) M Q = ∀ a, M a = none → Q (.ref a) (updS M a (.tp es.reverse)) := rfl
section
variable {b : BC} {X : Cx} {pos : Pos} {e : Expr} {ta : TE} {aa : ATE} {k : Nat} {p1 p2 p3 : Pos}
theorem de_revT (ha : DE b X e ta aa) : DE b X (.Subscript e (.Slice none none (some (.UnaryOp .USub (.Constant (.int 1) k p1) p2)) p3) pos) (fun σ H Q => ta σ H fun x H1 => rRevT X.K x H1 Q) (aUn revTD aa) := ⟨pe_revT ha.pe, fun Z σ H M sl Q Qa rp e q k =>
  ha.sim Z σ H M sl _ _ rp e q fun v d H1 M1 r1 e1 h1 q1 => by
    have q1 : (match seqT d with | some es => Qa (.tup es.reverse) M1 | none => False) := q1
    cases z : seqT d with
    | none => rw [z] at q1; exact q1.elim
    | some es =>
      rw [z] at q1
      obtain ⟨a, vs, rfl, ha, hr, hn⟩ := seqT_ok h1 z
      refine ⟨a, vs, rfl, .inl ha, .inl fun p np => ?_⟩
      obtain ⟨r2, e2, z⟩ := new_tup r1 np (ds := es.reverse) (vs := vs.reverse) (by rw [List.length_reverse]; exact hn) (rs_rev hr)
      exact k _ _ _ _ r2 (e1.trans e2) z q1⟩
theorem de_revP (ha : DE b X e ta aa) : DE b X (.Subscript e (.Slice none none (some (.UnaryOp .USub (.Constant (.int 1) k p1) p2)) p3) pos) (fun σ H Q => ta σ H fun x H1 => rRevT X.K x H1 Q) (aUn revTP aa) := ⟨pe_revT ha.pe, fun Z σ H M sl Q Qa rp e q k =>
  ha.sim Z σ H M sl _ _ rp e q fun v d H1 M1 r1 e1 h1 q1 => by
    have q1 : (match seqT d with | some es => ∀ a, M1 a = none → Qa (.ref a) (updS M1 a (.tp es.reverse)) | none => False) := q1
    cases z : seqT d with
    | none => rw [z] at q1; exact q1.elim
    | some es =>
      rw [z] at q1
      obtain ⟨a, vs, rfl, ha, hr, hn⟩ := seqT_ok h1 z
      refine ⟨a, vs, rfl, .inl ha, .inr fun p its np => ?_⟩
      obtain ⟨r2, e2⟩ := new_tp (its := its) r1 np (ds := es.reverse) (vs := vs.reverse) (by rw [List.length_reverse]; exact hn) (rs_rev hr)
      exact k _ _ _ _ r2 (e1.trans e2) (.ref p) (q1 p (r1.free np))⟩
end
/-! ### t + u, both not empty, into a cell of its own -/
def rCatP (K : PySem.W.Frag) : R2 := fun x y H Q => ∃ a b xs ys, x = .ref a ∧ y = .ref b ∧ SqT K H a xs ∧ SqT K H b ys ∧ xs ≠ [] ∧ ys ≠ [] ∧ xs.length + ys.length ≤ sizeLine ∧ ∀ p its, H p = none → Q (.ref p) (upd H p (.frz (plainT its) (.tup (xs ++ ys))))
theorem op_catP {X : Cx} : OpR X (binaryOp .Add) (rCatP X.K) := by
  intro pins s σ H x y v u Q I rx ry h
  obtain ⟨a, b, xs, ys, rfl, rfl, ha, hb, hx, hy, hz, q2⟩ := h
  cases rx
  cases ry
  obtain ⟨its, r1, p1, _⟩ := I.tuple ha
  obtain ⟨its2, r2, p2, _⟩ := I.tuple hb
  refine HT.cat_tup p1 p2 (fun z => hx (r1.nil_iff.mp z)) (fun z => absurd (r2.nil_iff.mp z) hy) (fun z => ?_) (by rw [← r1.length, ← r2.length]; exact hz)
  refine ⟨.ref s.heap.objs.size, _, I.laid (t' := s.toks) (o := .frz (plainT (its ++ its2).toArray) (.tup (xs ++ ys))) (fun b ob q => Heap.get?_push_of_some _ q) (Nat.le_refl _) ?_, rfl, q2 _ _ (I.hok.fresh (Nat.le_refl _))⟩
  exact ⟨Heap.get?_push_size _ rfl, by rw [List.length_append]; exact hz, _, r1.append r2, IsTup.new _ _⟩
def catPD : R2A := fun d e M Q => match seqT d, seqT e with
  | some ds, some es => ds ≠ [] ∧ es ≠ [] ∧ ds.length + es.length ≤ sizeLine ∧ ∀ a, M a = none → Q (.ref a) (updS M a (.tp (ds ++ es)))
  | _, _ => False
@[simp] theorem catPD_tup {ds es : List D} {M : Store} {Q : DK} : catPD (.tup ds) (.tup es) M Q = (ds ≠ [] ∧ es ≠ [] ∧ ds.length + es.length ≤ sizeLine ∧ ∀ a, M a = none → Q (.ref a) (updS M a (.tp (ds ++ es)))) := rfl
theorem os_catP {b : BC} {K : PySem.W.Frag} : OpSim b K (rCatP K) catPD := by
  intro Z H M x y d e Q Qa rh hx hy q k
  unfold catPD at q
  cases h1 : seqT d with
  | none => rw [h1] at q; exact q.elim
  | some ds =>
    cases h2 : seqT e with
    | none => rw [h1, h2] at q; exact q.elim
    | some es =>
      rw [h1, h2] at q
      obtain ⟨n1, n2, h3, q⟩ := q
      obtain ⟨a, vs, rfl, ha, hr, _⟩ := seqT_ok hx h1
      obtain ⟨c, ws, rfl, hc, hs, _⟩ := seqT_ok hy h2
      have l1 := hr.length
      have l2 := hs.length
      refine ⟨a, c, vs, ws, rfl, rfl, .inl ha, .inl hc, (fun z => n1 (by subst z; exact List.eq_nil_of_length_eq_zero (by rw [← l1]; rfl))), (fun z => n2 (by subst z; exact List.eq_nil_of_length_eq_zero (by rw [← l2]; rfl))), by rw [hr.length, hs.length]; exact h3, fun p its np => ?_⟩
      obtain ⟨r1, e1⟩ := new_tp (its := its) rh np (by rw [List.length_append]; exact h3) (hr.append hs)
      exact k _ _ _ _ r1 e1 (.ref p) (q p (rh.free np))
theorem de_addP {b : BC} {X : Cx} {pos : Pos} {e1 e2 : Expr} {ta tb : TE} {aa ab : ATE} (ha : DE b X e1 ta aa) (hb : DE b X e2 tb ab) : DE b X (.BinOp e1 .Add e2 pos) (tOp (rCatP X.K) ta tb) (aOp catPD aa ab) := ⟨pe_op op_catP ha.pe hb.pe, sim_op os_catP ha.sim hb.sim⟩
end AL
set_option Elab.async false
set_option linter.all false
set_option maxRecDepth 100000
set_option maxHeartbeats 4000000
set_option autoImplicit false
/-! AL35: the least of things with an order of their own; pairs of an int and a row of ints. -/
namespace AL
open PySem PySem.Spec PyProof.Rows L2 LamX PySem.W
section
variable {α : Type} (f : α → D) (lt : α → α → Prop) [DecidableRel lt]
theorem minD_G (hd : ∀ a b, dataLt (toPy (f a)) (toPy (f b)) = decide (lt a b)) (tr : ∀ a b c, lt a b → lt b c → lt a c) (nt : ∀ a b c, lt a c → lt a b ∨ lt b c) : ∀ (l : List α) (x : α), ∃ m, minD (toPy (f x)) ((l.map f).map toPy) = toPy (f m) ∧ m ∈ x :: l ∧ ∀ y ∈ x :: l, ¬ lt y m
  | [], x => ⟨x, rfl, List.mem_singleton.mpr rfl, fun y m h => by
    obtain rfl := List.mem_singleton.mp m
    have := hd y y
    rw [show dataLt (toPy (f y)) (toPy (f y)) = false from lex_irrefl _, decide_eq_true h] at this; cases this⟩
  | y :: l, x => by
    have e : minD (toPy (f x)) (((y :: l).map f).map toPy) = minD (toPy (f (if lt y x then y else x))) ((l.map f).map toPy) := by
      unfold minD
      rw [List.map_cons, List.map_cons, List.foldl_cons]
      congr 1
      rw [hd]
      by_cases c : lt y x
      · rw [if_pos c, if_pos (decide_eq_true c)]
      · rw [if_neg c, if_neg (by rw [decide_eq_false c]; decide)]
    obtain ⟨m, h1, h2, h3⟩ := minD_G hd tr nt l (if lt y x then y else x)
    refine ⟨m, e.trans h1, ?_, fun z hz => ?_⟩
    · rcases List.mem_cons.mp h2 with e2 | h2
      · split at e2 <;> simp [e2]
      · simp [h2]
    · have h0 := h3 _ List.mem_cons_self
      rcases List.mem_cons.mp hz with rfl | hz
      · split at h0
        · rename_i c; exact fun q => h0 (tr _ _ _ c q)
        · exact h0
      · rcases List.mem_cons.mp hz with rfl | hz
        · split at h0
          · exact h0
          · rename_i c
            intro q
            rcases nt _ x _ q with q | q
            · exact c q
            · exact h0 q
        · exact h3 z (List.mem_cons_of_mem _ hz)
theorem min_G {M : Store} {d : D} {xs : List α} {Q : DK} (hd : ∀ a b, dataLt (toPy (f a)) (toPy (f b)) = decide (lt a b)) (tr : ∀ a b c, lt a b → lt b c → lt a c) (nt : ∀ a b c, lt a c → lt a b ∨ lt b c) (hj : ∀ a b, toPy (f a) = toPy (f b) → f a = f b) (hok : ∀ a, okD 59 (f a) = true)
    (hal : AlikeAll ((xs.map f).map toPy)) (h : seqA M d = some (xs.map f)) (h0 : xs ≠ []) (q : ∀ m ∈ xs, (∀ x ∈ xs, ¬ lt x m) → Q (f m) M) : bestA minD [d] M Q := by
  cases xs with
  | nil => exact absurd rfl h0
  | cons x l =>
    unfold bestA
    simp only [h, List.map_cons]
    obtain ⟨m, h1, h2, h3⟩ := minD_G f lt hd tr nt l x
    refine ⟨?_, by simpa using hal, fun y hy e => ?_⟩
    · have : okDs 59 ((x :: l).map f) = true := okDs_of fun d m => by
        obtain ⟨z, _, rfl⟩ := List.mem_map.mp m
        exact hok z
      simpa using this
    · rw [h1] at e
      obtain ⟨z, hz, rfl⟩ := List.mem_map.mp (show y ∈ (x :: l).map f from hy)
      rw [hj _ _ e]
      exact q m h2 h3
end
/-! ### (v, row) -/
def vrD (p : Int × List Int) : D := .tup [.int p.1, .tup (p.2.map D.int)]
def vrLt (a b : Int × List Int) : Prop := a.1 < b.1 ∨ (a.1 = b.1 ∧ a.2 < b.2)
instance : DecidableRel vrLt := fun a b => by unfold vrLt; infer_instance
theorem ints_py : ∀ l : List Int, (l.map D.int).map toPy = l.map PyData.int
  | [] => rfl
  | x :: l => by rw [List.map_cons, List.map_cons, List.map_cons, ints_py l]; simp [toPy]
theorem vr_py (p : Int × List Int) : toPy (vrD p) = .tuple [.int p.1, .tuple (p.2.map PyData.int)] := by
  unfold vrD
  rw [toPy, toPys_map]
  simp [toPy, toPys_map]
theorem alike_row : ∀ l m : List Int, alikeAll (l.map PyData.int) (m.map PyData.int) = true
  | [], _ => by simp [alikeAll]
  | _ :: _, [] => by simp [alikeAll]
  | x :: l, y :: m => by
    have := alike_row l m
    simp only [List.map_cons, alikeAll, alike, Bool.true_and]
    simpa using this
theorem eqv_row : ∀ l m : List Int, PyData.eqvAll (l.map PyData.int) (m.map PyData.int) = decide (l = m)
  | [], [] => by simp [PyData.eqvAll]
  | [], _ :: _ => by simp [PyData.eqvAll]
  | _ :: _, [] => by simp [PyData.eqvAll]
  | x :: l, y :: m => by
    simp only [List.map_cons, PyData.eqvAll, PyData.eqv, eqv_row l m]
    by_cases c : x = y <;> by_cases d : l = m <;> simp [c, d]
theorem vr_lt (a b : Int × List Int) : dataLt (toPy (vrD a)) (toPy (vrD b)) = decide (vrLt a b) := by
  rw [vr_py, vr_py, dataLt_pair (by simp [alike]) (by simp [alike]; exact alike_row _ _), dataLt_int, dataLt_tuple]
  have h2 : PyProof.Rows.lexLt itemOrd (keyToksAll (a.2.map PyData.int)) (keyToksAll (b.2.map PyData.int)) = decide (a.2 < b.2) := dataLt_ints a.2 b.2
  rw [h2]
  simp only [PyData.eqv, beq_iff_eq, eqv_row]
  unfold vrLt
  by_cases h1 : a.1 = b.1
  · by_cases h3 : a.2 = b.2
    · simp [h1, h3]
    · simp [h1, h3]
  · simp [h1]
theorem lt_tr : ∀ {a b c : List Int}, a < b → b < c → a < c := fun h h' => List.lt_trans h h'
theorem lt_nt {a b c : List Int} (h : a < c) : a < b ∨ b < c := by
  by_cases h1 : a < b
  · exact .inl h1
  · refine .inr ?_
    have h1 : b ≤ a := List.not_lt.mp h1
    exact List.lt_of_le_of_lt h1 h
theorem vr_tr (a b c : Int × List Int) (h : vrLt a b) (h' : vrLt b c) : vrLt a c := by
  unfold vrLt at *
  rcases h with h | ⟨e, h⟩ <;> rcases h' with h' | ⟨e', h'⟩
  · exact .inl (by omega)
  · exact .inl (by omega)
  · exact .inl (by omega)
  · exact .inr ⟨e.trans e', lt_tr h h'⟩
theorem vr_nt (a b c : Int × List Int) (h : vrLt a c) : vrLt a b ∨ vrLt b c := by
  unfold vrLt at *
  rcases Int.lt_trichotomy a.1 b.1 with c1 | c1 | c1
  · exact .inl (.inl c1)
  · rcases h with h | ⟨e, h⟩
    · exact .inr (.inl (by omega))
    · rcases lt_nt (b := b.2) h with h | h
      · exact .inl (.inr ⟨c1, h⟩)
      · exact .inr (.inr ⟨by omega, h⟩)
  · rcases h with h | ⟨e, h⟩
    · exact .inr (.inl (by omega))
    · exact .inr (.inl (by omega))
theorem vr_inj (a b : Int × List Int) (h : toPy (vrD a) = toPy (vrD b)) : vrD a = vrD b := by
  rw [vr_py, vr_py] at h
  injection h with h
  injection h with h1 h2
  injection h1 with h1
  injection h2 with h2 h3
  injection h2 with h2
  have h2 : a.2 = b.2 := (List.map_inj_right fun x y e => by injection e).mp h2
  unfold vrD
  rw [h1, h2]
theorem vr_alike (xs : List (Int × List Int)) : AlikeAll ((xs.map vrD).map toPy) := by
  refine ⟨fun x hx y hy => ?_, fun x hx z => ?_⟩
  · obtain ⟨d, hd, rfl⟩ := List.mem_map.mp hx
    obtain ⟨i, _, rfl⟩ := List.mem_map.mp hd
    obtain ⟨e, he, rfl⟩ := List.mem_map.mp hy
    obtain ⟨j, _, rfl⟩ := List.mem_map.mp he
    rw [vr_py, vr_py]
    have := alike_row i.2 j.2
    simp [alike, alikeAll] at this ⊢
    exact this
  · obtain ⟨d, hd, rfl⟩ := List.mem_map.mp hx
    obtain ⟨i, _, rfl⟩ := List.mem_map.mp hd
    rw [vr_py] at z; cases z
theorem min_vr {M : Store} {d : D} {xs : List (Int × List Int)} {Q : DK} (h : seqA M d = some (xs.map vrD)) (h0 : xs ≠ []) (q : ∀ m ∈ xs, (∀ x ∈ xs, ¬ vrLt x m) → Q (vrD m) M) : bestA minD [d] M Q :=
  min_G vrD vrLt vr_lt vr_tr vr_nt vr_inj (fun a => by simp [vrD]) (vr_alike xs) h h0 q
end AL
set_option Elab.async false
set_option linter.all false
set_option maxRecDepth 100000
set_option maxHeartbeats 4000000
set_option autoImplicit false
/-! AL36: a tuple several times. -/
namespace AL
open PySem PySem.Spec PyProof.Rows L2 LamX PySem.W
def mulTD : R2A := fun d e M Q => match seqT d, e with
  | some ds, .int k => ds ≠ [] ∧ 2 ≤ k ∧ k ≤ 1000 ∧ ds.length ≤ 1000 ∧ Q (.tup (List.replicate k.toNat ds).flatten) M
  | _, _ => False
@[simp] theorem mulTD_tup {ds : List D} {k : Int} {M : Store} {Q : DK} : mulTD (.tup ds) (.int k) M Q = (ds ≠ [] ∧ 2 ≤ k ∧ k ≤ 1000 ∧ ds.length ≤ 1000 ∧ Q (.tup (List.replicate k.toNat ds).flatten) M) := rfl
theorem rs_rep {F : Hp} {vs : List V} {ds : List D} (h : Rs F vs ds) : ∀ n : Nat, Rs F (List.replicate n vs).flatten (List.replicate n ds).flatten
  | 0 => .nil
  | n + 1 => by
    rw [List.replicate_succ, List.replicate_succ, List.flatten_cons, List.flatten_cons]
    exact h.append (rs_rep h n)
theorem os_mulT {b : BC} {K : PySem.W.Frag} : OpSim b K (rRepT K) mulTD := by
  intro Z H M x y d e Q Qa rh hx hy q k
  unfold mulTD at q
  cases h1 : seqT d with
  | none => rw [h1] at q; exact q.elim
  | some ds =>
    rw [h1] at q
    cases hy <;> first | exact q.elim | skip
    rename_i j
    obtain ⟨n1, k2, k3, l1, q⟩ := q
    obtain ⟨a, vs, rfl, ha, hr, _⟩ := seqT_ok hx h1
    have l2 := hr.length
    refine ⟨a, j, vs, rfl, rfl, .inl ha, (fun z => n1 (by subst z; exact List.eq_nil_of_length_eq_zero (by rw [← l2]; rfl))), k2, k3, by rw [l2]; exact l1, fun p np => ?_⟩
    have sz : (sizeLine : Nat) = 16777216 := sizeLine_eq
    have hlen : (List.replicate j.toNat ds).flatten.length = j.toNat * ds.length := by simp
    have hb : j.toNat * ds.length ≤ 1000 * 1000 := Nat.mul_le_mul (by omega) l1
    obtain ⟨r1, e1, z⟩ := new_tup rh np (ds := (List.replicate j.toNat ds).flatten) (vs := (List.replicate j.toNat vs).flatten) (by omega) (rs_rep hr _)
    exact k _ _ _ _ r1 e1 z q
theorem de_mulT {b : BC} {X : Cx} {pos : Pos} {e1 e2 : Expr} {ta tb : TE} {aa ab : ATE} (ha : DE b X e1 ta aa) (hb : DE b X e2 tb ab) : DE b X (.BinOp e1 .Mult e2 pos) (tOp (rRepT X.K) ta tb) (aOp mulTD aa ab) := ⟨pe_op op_repT ha.pe hb.pe, sim_op os_mulT ha.sim hb.sim⟩
end AL
set_option Elab.async false
set_option linter.all false
set_option maxRecDepth 100000
set_option maxHeartbeats 4000000
set_option autoImplicit false
/-! AL37: min with a default, tuples with a starred end, less of data. -/
namespace AL
open PySem PySem.Spec PyProof.Rows L2 LamX PySem.W
/-! ### min(xs, default=d) -/
def rMinDef (K : PySem.W.Frag) : List V → List V → Hp → VK → Prop := fun vs zs H Q => ∃ (a : Addr) (xs : List V) (ds : List PyData) (v : V), vs = [.ref a] ∧ zs = [v] ∧ SqL K H a xs ∧ DpAll K H xs ds ∧ AlikeAll ds ∧ PyData.depthAll ds ≤ 60 ∧
  (ds = [] → Q v H) ∧ ∀ y ys, ds = y :: ys → ∀ (i : Nat) (x : V) (e : PyData), xs[i]? = some x → ds[i]? = some e → e = minD y ys → Q x H
theorem cr_minDef {X : Cx} (hc : X.calm = true) (hu : X.A.units + 100 < cLine) : CallRK X (.builtin "min") [Str.ofString "default"] (rMinDef X.K) := by
  rintro pins s σ H vs zs us ws Q I r rz ⟨a, xs, ds, v, rfl, rfl, hs, hd, h1, h2, q0, q⟩
  rw [Vals.ref1 r]
  obtain ⟨w1, rfl, e1⟩ := vals1 rz
  obtain ⟨its, rv, hl, hz⟩ := I.list hs
  obtain ⟨as, rd⟩ := Dp.readsAll I _ _ _ hd rv
  refine min_list_default (I.ok.hd hc) hl.isList (by simpa using rd) h1 (by omega) (fun e0 h' tk hk => ?_) fun y ys i u h' tk bs e0 g r' hk => ?_
  · exact ⟨v, H, I.kept hk, e1, q0 e0⟩
  · subst e0
    exact best_end (best := minD) I rv hd (fun i x e g1 g2 g3 => q y ys rfl i x e g1 g2 g3) i u h' tk bs g r' hk
def minDefA : List D → List D → Store → DK → Prop := fun ds es M Q => match ds, es with
  | [d], [f] => (match seqL M d with | some xs => okDs 59 xs = true ∧ AlikeAll (xs.map toPy) ∧ (xs = [] → Q f M) ∧ (∀ e es, xs = e :: es → ∀ x ∈ xs, toPy x = minD (toPy e) (es.map toPy) → Q x M) | none => False)
  | _, _ => False
@[simp] def aMinDef (t td : ATA) : ATE := fun sl M Q => t sl M fun ds M1 => td sl M1 fun es M2 => minDefA ds es M2 Q
section
variable {b : BC} {X : Cx} {pos p kpos : Pos} {e f : Expr} {t : TA} {at_ : ATA} {td : TE} {ad : ATE} {k : Nat}
theorem de_minDef (hc : X.calm = true) (hr : Room k X.A) (hm : X.mg "min" = none) (ha : DA b X [e] t at_ 1) (hd : DE b X f td ad) (hg : Gl X "min" := by rfl)
    (he : backTo pos (starEach (e :: []) X.env) = (false, eval e X.env) :: backTo pos (starEach [] X.env) := by rfl) (hpl : (backTo pos (starEach (e :: []) X.env)).any (·.1) = false := by rfl)
    (hall : (backToKw pos (keywordEach [⟨some "default", f, kpos⟩] X.env)).all (·.1.isSome) = true := by rfl) (hnone : (backToKw pos (keywordEach [⟨some "default", f, kpos⟩] X.env)).any (·.1.isNone) = false := by rfl)
    (hks : (backToKw pos (keywordEach [⟨some "default", f, kpos⟩] X.env)).filterMap (·.1) = [Str.ofString "default"] := by rfl) :
    DE b X (.Call (.Name "min" p) [e] [⟨some "default", f, kpos⟩] pos) (tCKw (rMinDef X.K) t (tCons td tNil)) (aMinDef at_ (aCons ad aNil)) :=
  ⟨pe_callBK (cr_minDef hc (room100 hr)) hg hm (by decide +kernel) ha.pa (pk_cons hd.pe pk_nil) (by decide) (by decide) he hpl hall hnone hks, fun Z σ H M sl Q Qa rp e0 q kk =>
    ha.sim Z σ H M sl _ _ rp e0 q fun xs ds H1 M1 r1 e1 h1 l1 q1 => hd.sim Z σ H1 M1 sl _ _ (rp.to r1 e1) (e0.trans e1) q1 fun v f' H2 M2 r2 e2 h2 q2 => by
      have h1 := h1.mono e2.sb
      have q2 : minDefA ds [f'] M2 Qa := q2
      cases h1 with
      | nil => cases l1
      | cons hx hr =>
        cases hr with
        | cons _ _ => cases l1
        | nil =>
          rename_i u d _
          have q2 : (match seqL M2 d with | some xs => okDs 59 xs = true ∧ AlikeAll (xs.map toPy) ∧ (xs = [] → Qa f' M2) ∧ (∀ e es, xs = e :: es → ∀ x ∈ xs, toPy x = minD (toPy e) (es.map toPy) → Qa x M2) | none => False) := q2
          cases z : seqL M2 d with
          | none => rw [z] at q2; exact q2.elim
          | some es =>
            rw [z] at q2
            obtain ⟨ok, al, q0, q3⟩ := q2
            obtain ⟨a, vs, rfl, ha, hrs, hn⟩ := seqL_ok r2 hx z
            have hd := Rs.dp (K := X.K) 59 hrs ok
            rw [toPys_map] at hd
            have dep : PyData.depthAll (es.map toPy) ≤ 60 := by
              have := (okDs_lay 59 es ok).2
              rw [toPys_map] at this
              omega
            refine ⟨a, vs, _, v, rfl, rfl, .of ha, hd, al, dep, fun e => ?_, fun y ys ey i x e gx ge hy => ?_⟩
            · exact kk _ _ H2 M2 r2 (e1.trans e2) h2 (q0 (List.map_eq_nil_iff.mp e))
            · obtain ⟨w, gw, rw_⟩ := hrs.get gx
              rw [List.getElem?_map, gw] at ge
              cases ge
              cases es with
              | nil => cases ey
              | cons e0 es0 =>
                obtain ⟨rfl, rfl⟩ := List.cons.inj ey
                exact kk _ _ H2 M2 r2 (e1.trans e2) rw_ (q3 e0 es0 rfl w (List.mem_of_getElem? gw) hy)⟩
end
/-! ### (a, *t) -/
@[simp] def aTupS (aa ab : ATE) : ATE := fun sl M Q => aa sl M fun d M1 => ab sl M1 fun e M2 => match seqA M2 e with | some es => es.length + 1 ≤ sizeLine ∧ Q (.tup (d :: es)) M2 | none => False
section
variable {b : BC} {X : Cx} {pos p : Pos} {e1 e2 : Expr} {ta tb : TE} {aa ab : ATE}
theorem de_tupS {x1 : Nat} (ha : DE b X e1 ta aa) (hb : DE b X e2 tb ab) (hs : starEach (e1 :: [.Starred e2 p]) X.env = (false, eval e1 X.env) :: starEach [.Starred e2 p] X.env := by rfl) :
    DE b X (.Tuple [e1, .Starred e2 p] x1 pos) (tTup (tCons ta (StX.tStar X.K tb tNil))) (aTupS aa ab) :=
  ⟨pe_tup (pa_cons ha.pe (StX.pa_star hb.pe pa_nil) hs), fun Z σ H M sl Q Qa rp e q k =>
    ha.sim Z σ H M sl _ _ rp e q fun v d H1 M1 r1 e1 h1 q1 => hb.sim Z σ H1 M1 sl _ _ (rp.to r1 e1) (e.trans e1) q1 fun w f H2 M2 r2 e2 h2 q2 => by
      cases z : seqA M2 f with
      | none => rw [z] at q2; exact q2.elim
      | some es =>
        rw [z] at q2
        obtain ⟨hl, q2⟩ := q2
        obtain ⟨a, vs, rfl, ha, hr, hn⟩ := seqA_ok r2 h2 z
        refine ⟨a, vs, rfl, ha.elim (fun h => .inr (.of h)) (fun h => .inl (.inl h)), ?_⟩
        show (v :: (vs ++ [])).length ≤ sizeLine ∧ _
        rw [List.append_nil]
        have l2 := hr.length
        refine ⟨by rw [List.length_cons, l2]; exact hl, fun p np => ?_⟩
        obtain ⟨r3, e3, z3⟩ := new_tup r2 np (ds := d :: es) (vs := v :: vs) (by rw [List.length_cons]; exact hl) (.cons (h1.mono e2.sb) hr)
        exact k _ _ _ _ r3 (e1.trans (e2.trans e3)) z3 q2⟩
end
/-! ### one < other, of data -/
def rLtD (K : PySem.W.Frag) : R2 := fun x y H Q => ∃ d e : PyData, Dp K H x d ∧ Dp K H y e ∧ alike d e = true ∧ d ≠ .none ∧ d.depth ≤ 60 ∧ Q (.bl (dataLt d e)) H
theorem op_ltD {X : Cx} (hu : X.A.units + 100 < cLine) : OpR X (compareOp .Lt) (rLtD X.K) := by
  rintro pins s σ H x y v u Q I rx ry ⟨d, e, hd, he, h1, h2, h3, q⟩
  obtain ⟨as, ra⟩ := Dp.reads I d x v hd rx
  obtain ⟨bs, rb⟩ := Dp.reads I e y u he ry
  refine lt_data ra rb h1 h2 (by omega) ⟨.bl _, H, I, rfl, q⟩
@[simp] def ltDD : R2A := fun d e M Q => okD 59 d = true ∧ okD 59 e = true ∧ alike (toPy d) (toPy e) = true ∧ toPy d ≠ .none ∧ Q (.bl (dataLt (toPy d) (toPy e))) M
section
variable {b : BC} {X : Cx} {pos : Pos} {e1 e2 : Expr} {ta tb : TE} {aa ab : ATE} {k : Nat}
theorem os_ltD {K : PySem.W.Frag} : OpSim b K (rLtD K) ltDD := by
  intro Z H M x y d e Q Qa rh hx hy q k
  obtain ⟨o1, o2, h1, h2, q⟩ := q
  exact ⟨toPy d, toPy e, hx.dp 59 o1, hy.dp 59 o2, h1, h2, by have := (okD_lay 59 d o1).2; omega, k _ _ H M rh (Ext.refl H M) (.bl _) q⟩
theorem de_ltD (hr : Room k X.A) (ha : DE b X e1 ta aa) (hb : DE b X e2 tb ab) (hm : behindInMarks .Lt e2 = false := by with_unfolding_all rfl) : DE b X (.Compare e1 [.Lt] [e2] pos) (tOp (rLtD X.K) ta tb) (aOp ltDD aa ab) := ⟨pe_cmpR (op_ltD (room100 hr)) ha.pe hb.pe hm, sim_op os_ltD ha.sim hb.sim⟩
theorem dt_ltD (hr : Room k X.A) (ha : DE b X e1 ta aa) (hb : DE b X e2 tb ab) (hm : behindInMarks .Lt e2 = false := by with_unfolding_all rfl) : DT b X (.Compare e1 [.Lt] [e2] pos) (tB (tOp (rLtD X.K) ta tb)) (aBool (aOp ltDD aa ab)) := ⟨pt_cmpR (op_ltD (room100 hr)) ha.pe hb.pe hm, sim_bool (de_ltD (pos := pos) hr ha hb hm).sim⟩
end
end AL
set_option Elab.async false
set_option linter.all false
set_option maxRecDepth 100000
set_option maxHeartbeats 4000000
set_option autoImplicit false
/-! AL38: instances: fields, methods, made anew. -/
namespace AL
open PySem PySem.Spec PyProof.Rows L2 LamX PySem.W
theorem Rfs.look {F : Hp} : ∀ {vs : List (Str × V)} {ds : List (Str × D)}, Rfs F vs ds → ∀ f : Str, (∀ d, ds.lookup f = some d → ∃ v, vs.lookup f = some v ∧ R F v d) ∧ (ds.lookup f = none → vs.lookup f = none)
  | _, _, .nil, f => ⟨(fun d h => by cases h), fun _ => rfl⟩
  | _, _, .cons (k := k) h r, f => by
    have ih := Rfs.look r f
    by_cases e : f == k
    · simp only [List.lookup, e]
      exact ⟨(fun d hd => by cases hd; exact ⟨_, rfl, h⟩), (fun z => by cases z)⟩
    · simp only [List.lookup, e]
      exact ih
def putFD (f : Str) (v : D) : List (Str × D) → List (Str × D)
  | [] => [(f, v)]
  | (g, x) :: r => if g = f then (g, v) :: r else (g, x) :: putFD f v r
theorem Rfs.put {F : Hp} {v : V} {d : D} (h : R F v d) (f : Str) : ∀ {vs : List (Str × V)} {ds : List (Str × D)}, Rfs F vs ds → Rfs F (putF f v vs) (putFD f d ds)
  | _, _, .nil => .cons h .nil
  | _, _, .cons (k := k) g r => by
    unfold putF putFD
    by_cases e : k = f
    · rw [if_pos e, if_pos e]; exact .cons h r
    · rw [if_neg e, if_neg e]; exact .cons g (Rfs.put h f r)
theorem Rfs.length {F : Hp} : ∀ {vs : List (Str × V)} {ds : List (Str × D)}, Rfs F vs ds → vs.length = ds.length
  | _, _, .nil => rfl
  | _, _, .cons _ r => congrArg (· + 1) r.length
/-! ### o.f -/
@[simp] def aFld (C : Addr) (aa : ATE) (f : Str) : ATE := fun sl M Q => aa sl M fun d M1 => match d with
  | .ref a => ∃ fs d', M1 a = some (.ins C fs) ∧ fs.lookup f = some d' ∧ Q d' M1
  | _ => False
section
variable {b : BC} {X : Cx} {pos pos' p apos : Pos} {e o value : Expr} {es : List Expr} {ta tv : TE} {aa av : ATE} {t : TA} {at_ : ATA} {n k : Nat} {C fa : Addr} {f x m : Str} {fs : ASp} {W : WX} {Wa : AWX}
theorem de_fld (c : Cls X.K C) (na : NoAttr X.K C f) (he : DE b X e ta aa) (hb : attributeBase e f X.env (eval e X.env) = eval e X.env := by rfl) : DE b X (.Attribute e f pos) (tFld X.K ta f) (aFld C aa f) := ⟨pe_fld he.pe hb, fun Z σ H M sl Q Qa rp e0 q k =>
  he.sim Z σ H M sl _ _ rp e0 q fun v d H1 M1 r1 e1 h1 q1 => by
    cases h1 <;> first | exact q1.elim | skip
    rename_i a
    obtain ⟨fs, d', hM, hl, q1⟩ := q1
    obtain ⟨dx, vs, hH, hr⟩ := r1.cells a _ hM
    obtain ⟨u, hu, ru⟩ := (hr.look f).1 d' hl
    exact ⟨a, C, dx, vs, u, rfl, hH, c, na, hu, k _ _ _ _ r1 e1 ru q1⟩⟩
/-! ### o.f = v -/
@[simp] def aSetF (C : Addr) (ao av : ATE) (f : Str) : ATS := fun E sl M => av sl M fun y M1 => ao sl M1 fun d M2 => match d with
  | .ref a => ∃ fs, M2 a = some (.ins C fs) ∧ fs.length < 1000 ∧ E.nx sl (updS M2 a (.ins C (putFD f y fs)))
  | _ => False
theorem ds_fld (c : Cls X.K C) (na : NoAttr X.K C f) (ho : DE b X o ta aa) (hv : DE b X value tv av) (hs : swapsWith value (some (.Attribute o f pos')) pos.line X.env = pure false := by rfl) : DS b X (.Assign [.Attribute o f pos'] value pos) (sFld X.K ta tv f) (aSetF C aa av f) :=
  ⟨ps_fld ho.pe hv.pe hs, fun Z σ H M sl E Ea rp e0 q k =>
    hv.sim Z σ H M sl _ _ rp e0 q fun v y H1 M1 r1 e1 h1 q1 => ho.sim Z σ H1 M1 sl _ _ (rp.to r1 e1) (e0.trans e1) q1 fun w d H2 M2 r2 e2 h2 q2 => by
      cases h2 <;> first | exact q2.elim | skip
      rename_i a
      obtain ⟨fs, hM, hl, q2⟩ := q2
      obtain ⟨dx, vs, hH, hr⟩ := r2.cells a _ hM
      refine ⟨a, C, dx, vs, rfl, hH, c, na, by rw [hr.length]; exact hl, ?_⟩
      obtain ⟨r3, e3⟩ := r2.put (o := .ins C dx (putF f v vs)) (c' := .ins C (putFD f y fs)) hM ⟨dx, _, upd_same, hr.put (h1.mono e2.sb) f⟩
      exact k.nx _ _ _ _ (((rp.to r1 e1).to r2 e2).to r3 e3) (e1.trans (e2.trans e3)) q2⟩
/-! ### o.m(e, ..) -/
def tMethS (C : Addr) (m : Str) (sp : Sp) (E : L2.St → XK) (ta : TE) (t : TA) : TE := fun σ H Q => ta σ H fun x H1 => ∃ a dx fs, x = .ref a ∧ H1 a = some (.ins C dx fs) ∧ fs.lookup m = none ∧ t σ H1 fun vs H2 => sp (x :: vs) H2 Q (E σ)
theorem pe_methS {CX : CXT} {fd : FuncData} {ps : List Str} {sp : Sp} {E : L2.St → XK} {pl : Sem Bool} (he : PE X o ta) (c : Cls X.K C) (hm : Meth X.K C m fa) (F : FnOk X.prog X.w X.K X.mg X.base CX k fa fd ps sp) (hr : Room k X.A) (hb : Binds X.K fd ps []) (hx : ∀ σ, PassesAt CX X σ (E σ)) (ha : PA X (e :: es) t)
    (hst : starEach (e :: es) X.env = (false, eval e X.env) :: starEach es X.env := by rfl) (hpl : (backTo pos (starEach es X.env)).any (·.1) = false := by rfl)
    (ht : eval (.Call (.Attribute o m apos) (e :: es) [] pos) X.env = (do
      let ov ← eval o X.env
      standAt apos.atName
      let (f, first) ← holding [ov] (getMethod ov m pl)
      callWith pos f first (backTo pos (starEach (e :: es) X.env)) (backToKw pos (keywordEach [] X.env))) := by rfl) :
    PE X (.Call (.Attribute o m apos) (e :: es) [] pos) (tMethS C m sp E ta t) := by
  refine ⟨fun pins s σ H Q I h => ?_⟩
  refine PySem.W.methodCall_KW (pl := pl) (thn (he.run pins s σ H _ I h) fun u s1 ⟨x, H1, I1, rx, a, dx, fs, ex, ea, l, q⟩ => ?_) ht
  subst ex
  obtain rfl : u = Value.ref a := rx
  refine getmeth_ok I1 ea c hm l ?_
  refine PySem.W.callWith_K (first := [.ref a]) (h₀ := X.base) I.ok.mod.kin hm.kp (thn (ha.run pos pins s1 σ H1 _ I1 q) fun us s2 ⟨vs, H2, I2, r, q2⟩ => ⟨I2.kIn, ?_⟩) hst hpl
  exact run_fnS (us := .ref a :: us) (vs := .ref a :: vs) F hr hb (hx σ) I2 (.cons rfl r) q2
theorem pe_methS0 {CX : CXT} {fd : FuncData} {ps : List Str} {sp : Sp} {E : L2.St → XK} {pl : Sem Bool} (he : PE X o ta) (c : Cls X.K C) (hm : Meth X.K C m fa) (F : FnOk X.prog X.w X.K X.mg X.base CX k fa fd ps sp) (hr : Room k X.A) (hb : Binds X.K fd ps []) (hx : ∀ σ, PassesAt CX X σ (E σ))
    (ht : eval (.Call (.Attribute o m apos) [] [] pos) X.env = (do
      let ov ← eval o X.env
      standAt apos.atName
      let (f, first) ← holding [ov] (getMethod ov m pl)
      callWith pos f first (backTo pos (starEach [] X.env)) (backToKw pos (keywordEach [] X.env))) := by rfl) :
    PE X (.Call (.Attribute o m apos) [] [] pos) (tMethS C m sp E ta tNil) := by
  refine ⟨fun pins s σ H Q I h => ?_⟩
  refine PySem.W.methodCall_KW (pl := pl) (thn (he.run pins s σ H _ I h) fun u s1 ⟨x, H1, I1, rx, a, dx, fs, ex, ea, l, q⟩ => ?_) ht
  subst ex
  obtain rfl : u = Value.ref a := rx
  refine getmeth_ok I1 ea c hm l ?_
  exact PySem.W.callWith_K0 (first := [.ref a]) I1.kIn hm.kp (run_fnS (us := [.ref a]) (vs := [.ref a]) F hr hb (hx σ) I1 (.cons rfl .nil) q)
@[simp] def aMethX (C : Addr) (m : Str) (fs : ASp) (Wa : AWX) (ao : ATE) (t : ATA) : ATE := fun sl M Q => ao sl M fun d M1 => match d with
  | .ref a => ∃ gs, M1 a = some (.ins C gs) ∧ gs.lookup m = none ∧ t sl M1 fun ds M2 => fs (.ref a :: ds) M2 Q fun C' d' M3 => Wa C' d' sl M3
  | _ => False
theorem sim_meth {K : PySem.W.Frag} (wl : WL b K W Wa) (ho : Sim b K ta aa) (ha : SimA b K t at_ n) : Sim b K (tMethS C m (SpOf K b.T fs) (WE W) ta t) (aMethX C m fs Wa aa at_) := fun Z σ H M sl Q Qa rp e q k =>
  ho Z σ H M sl _ _ rp e q fun v d H0 M0 r0 e0 h0 q0 => by
    cases h0 <;> first | exact q0.elim | skip
    rename_i a
    obtain ⟨gs, hM, hl, q0⟩ := q0
    obtain ⟨dx, vs0, hH, hr0⟩ := r0.cells a _ hM
    refine ⟨a, dx, vs0, rfl, hH, (hr0.look m).2 hl, ?_⟩
    exact ha Z σ H0 M0 sl _ _ (rp.to r0 e0) (e.trans e0) q0 fun vs ds H1 M1 r1 e1 h1 l1 q1 => ⟨Z, M1, .ref a :: ds, Qa, _, r1, .cons (.ref a) h1, q1, fun v d H' M' r' e' h' q' => k v d H' M' r' (e0.trans (e1.trans e')) h' q',
      fun C d v dx H' M' r' e' hx h' q' => wl Z σ H' M' sl C d v dx (rp.to r' (e0.trans (e1.trans e'))) (e.trans (e0.trans (e1.trans e'))) hx h' q'⟩
theorem de_methX {pl : Sem Bool} (c : Cls X.K C) (hm : Meth X.K C m fa) (F : FnAt X.prog X.w X.K X.mg X.base b.T fa k fs) (hr : Room k X.A) (tk : Takes X W) (wl : WL b X.K W Wa) (ho : DE b X o ta aa) (ha : DA b X (e :: es) t at_ n)
    (hst : starEach (e :: es) X.env = (false, eval e X.env) :: starEach es X.env := by rfl) (hpl : (backTo pos (starEach es X.env)).any (·.1) = false := by rfl)
    (ht : eval (.Call (.Attribute o m apos) (e :: es) [] pos) X.env = (do
      let ov ← eval o X.env
      standAt apos.atName
      let (f, first) ← holding [ov] (getMethod ov m pl)
      callWith pos f first (backTo pos (starEach (e :: es) X.env)) (backToKw pos (keywordEach [] X.env))) := by rfl) :
    DE b X (.Call (.Attribute o m apos) (e :: es) [] pos) (tMethS C m (SpOf X.K b.T fs) (WE W) ta t) (aMethX C m fs Wa aa at_) := by
  obtain ⟨fd, ps, h2, h3, h4⟩ := F.ex
  exact ⟨pe_methS ho.pe c hm h4 hr h3 (fun σ => passAt tk σ) ha.pa hst hpl ht, sim_meth wl ho.sim ha.sim⟩
theorem de_methX0 {pl : Sem Bool} (c : Cls X.K C) (hm : Meth X.K C m fa) (F : FnAt X.prog X.w X.K X.mg X.base b.T fa k fs) (hr : Room k X.A) (tk : Takes X W) (wl : WL b X.K W Wa) (ho : DE b X o ta aa)
    (ht : eval (.Call (.Attribute o m apos) [] [] pos) X.env = (do
      let ov ← eval o X.env
      standAt apos.atName
      let (f, first) ← holding [ov] (getMethod ov m pl)
      callWith pos f first (backTo pos (starEach [] X.env)) (backToKw pos (keywordEach [] X.env))) := by rfl) :
    DE b X (.Call (.Attribute o m apos) [] [] pos) (tMethS C m (SpOf X.K b.T fs) (WE W) ta tNil) (aMethX C m fs Wa aa aNil) := by
  obtain ⟨fd, ps, h2, h3, h4⟩ := F.ex
  exact ⟨pe_methS0 ho.pe c hm h4 hr h3 (fun σ => passAt tk σ) ht, sim_meth wl ho.sim da_nil.sim⟩
/-! ### C(e, ..) -/
def tMakeS (C : Addr) (sp : Sp) (E : L2.St → XK) (t : TA) : TE := fun σ H Q => t σ H fun vs H1 => ∀ x dx, H1 x = none → H1 dx = none → dx ≠ x →
  sp (.ref x :: vs) (upd (upd H1 dx (.own x)) x (.ins C dx [])) (fun v H2 => v = .non ∧ Q (.ref x) H2) (E σ)
/-- what passes out of the making: the new instance stands by then -/
def PassesMk (CX : CXT) (X : Cx) (E : L2.St → XK) : Prop := ∀ (σ : L2.St) (pins : List (Addr × Obj)) (H : Hp) (s : Shared) (e : Value) (s' : Shared), Inv X pins σ H s → CX X.stack H s (E σ) e s' → X.xe e s'
theorem run_makeS {CX : CXT} {fd : FuncData} {ps : List Str} {sp : Sp} {E : L2.St → XK} {pins : List (Addr × Obj)} {σ : L2.St} {H : Hp} {s : Shared} {Q : VK} {us : List Value} {vs : List V} (M : Mk X.K C fa) (F : FnOk X.prog X.w X.K X.mg X.base CX k fa fd ps sp) (hr : Room (k + 1) X.A) (hb : Binds X.K fd ps [])
    (hx : PassesAt CX X σ (E σ)) (I : Inv X pins σ H s) (r : Vals vs us)
    (h : ∀ x dx, H x = none → H dx = none → dx ≠ x → sp (.ref x :: vs) (upd (upd H dx (.own x)) x (.ins C dx [])) (fun v H2 => v = .non ∧ Q (.ref x) H2) (E σ)) :
    wpAny (model X.prog X.w) X.A (call (.ref C) us) (EP X pins σ Q) X.xe s := by
  have hq := h (s.heap.objs.size + 1) s.heap.objs.size (I.hok.fresh (Nat.le_succ _)) (I.hok.fresh (Nat.le_refl _)) (Nat.ne_of_lt (Nat.lt_succ_self _))
  have I2 := Inv.made (C := C) I
  have r2 : Vals (V.ref (s.heap.objs.size + 1) :: vs) (Value.ref (s.heap.objs.size + 1) :: us) := .cons rfl r
  have hl : (Value.ref (s.heap.objs.size + 1) :: us ++ []).length = ps.length := by
    have e := r2.length
    rw [F.len _ _ _ _ hq] at e
    rw [List.append_nil]
    exact e.symm
  have hb2 := hb _ (Value.ref (s.heap.objs.size + 1) :: us) I2.kIn hl
  rw [List.append_nil] at hb2
  refine wpAny_call (make_map (f := fa) I.kIn M.makes M.init (beq_iff_eq.mp M.fn) (codeAny_mono (F.run _ X.stack _ _ ⟨Value.ref (s.heap.objs.size + 1) :: us, []⟩ (Value.ref (s.heap.objs.size + 1) :: us) _ _ (E σ) (hr.make C us [])
    (I2.env0.make C us []) hb2 r2 hq) fun r s' hq' => ?_))
  cases r with
  | error e => exact hx pins _ _ e s' I2 hq'
  | ok fl =>
    cases fl with
    | ret u =>
      obtain ⟨v, H', I3, rv, ev, q3⟩ := I2.after hq'
      subst ev
      exact ⟨rv, ⟨V.ref (s.heap.objs.size + 1), H', I3, rfl, q3⟩⟩
    | next => exact False.elim hq'
    | brk => exact False.elim hq'
    | cont => exact False.elim hq'
theorem pe_makeS {CX : CXT} {fd : FuncData} {ps : List Str} {sp : Sp} {E : L2.St → XK} (M : Mk X.K C fa) (F : FnOk X.prog X.w X.K X.mg X.base CX k fa fd ps sp) (hr : Room (k + 1) X.A) (hg : Gl X x) (hm : X.mg x = some (.ref C)) (hb : Binds X.K fd ps []) (hx : ∀ σ, PassesAt CX X σ (E σ))
    (ha : PA X (e :: es) t) (hdb : (x == ("__debug__" : Str)) = false := by decide) (he : starEach (e :: es) X.env = (false, eval e X.env) :: starEach es X.env := by rfl) (hpl : (backTo pos (starEach es X.env)).any (·.1) = false := by rfl) :
    PE X (.Call (.Name x p) (e :: es) [] pos) (tMakeS C sp E t) := by
  refine ⟨fun pins s σ H Q I h => ?_⟩
  refine wpAny_Call_Name_kw (ld_glob I hg hm ?_ hdb)
  refine PySem.W.callWith_K (h₀ := X.base) I.ok.mod.kin M.kp (thn (ha.run pos pins s σ H _ I h) fun us s1 ⟨vs, H1, I1, r, q⟩ => ⟨I1.kIn, ?_⟩) he hpl
  exact run_makeS M F hr hb (hx σ) I1 r q
@[simp] def aMakeX (C : Addr) (fs : ASp) (Wa : AWX) (t : ATA) : ATE := fun sl M Q => t sl M fun ds M1 => ∀ x, M1 x = none → fs (.ref x :: ds) (updS M1 x (.ins C [])) (fun d M2 => d = .non ∧ Q (.ref x) M2) fun C' d' M3 => Wa C' d' sl M3
theorem sim_make {K : PySem.W.Frag} (wl : WL b K W Wa) (ha : SimA b K t at_ n) : Sim b K (tMakeS C (SpOf K b.T fs) (WE W) t) (aMakeX C fs Wa at_) := fun Z σ H M sl Q Qa rp e q k =>
  ha Z σ H M sl _ _ rp e q fun vs ds H1 M1 r1 e1 h1 l1 q1 x dx nx ndx ne => by
    obtain ⟨r2, e2⟩ := r1.alloc (o := .own x) ndx
    have nx2 : upd H1 dx (.own x) x = none := by rw [upd_ne ne.symm]; exact nx
    obtain ⟨r3, e3⟩ := r2.cell (o := .ins C dx []) (c := .ins C []) nx2 ⟨dx, [], upd_same, .nil⟩
    have e13 := e1.trans (e2.trans e3)
    refine ⟨Z, _, .ref x :: ds, _, _, r3, .cons (.ref x) (h1.mono (e2.trans e3).sb), q1 x (r1.free nx), fun v d H' M' r' e' h' q' => ?_, fun C d v dx H' M' r' e' hx h' q' => wl Z σ H' M' sl C d v dx (rp.to r' (e13.trans e')) (e.trans (e13.trans e')) hx h' q'⟩
    obtain ⟨rfl, q'⟩ := q'
    cases h'
    exact ⟨rfl, k (.ref x) (.ref x) H' M' r' (e13.trans e') (.ref x) q'⟩
theorem de_makeX (Mk_ : Mk X.K C fa) (F : FnAt X.prog X.w X.K X.mg X.base b.T fa k fs) (hr : Room (k + 1) X.A) (hm : X.mg x = some (.ref C)) (tk : Takes X W) (wl : WL b X.K W Wa) (ha : DA b X (e :: es) t at_ n) (hg : Gl X x := by rfl)
    (hdb : (x == ("__debug__" : Str)) = false := by decide) (he : starEach (e :: es) X.env = (false, eval e X.env) :: starEach es X.env := by rfl) (hpl : (backTo pos (starEach es X.env)).any (·.1) = false := by rfl) :
    DE b X (.Call (.Name x p) (e :: es) [] pos) (tMakeS C (SpOf X.K b.T fs) (WE W) t) (aMakeX C fs Wa at_) := by
  obtain ⟨fd, ps, h2, h3, h4⟩ := F.ex
  exact ⟨pe_makeS Mk_ h4 hr hg hm h3 (fun σ => passAt tk σ) ha.pa hdb he hpl, sim_make wl ha.sim⟩
end
end AL
set_option Elab.async false
set_option linter.all false
set_option maxRecDepth 100000
set_option maxHeartbeats 4000000
set_option autoImplicit false
/-! AL39: dicts whose keys are tuples of any data (ints, texts, None, such tuples), with values of any kind. -/
namespace AL
open PySem PySem.Spec PyProof.Rows L2 LamX PySem.W
abbrev NK (P : Program) (w : World) : HeapKind P w NestedKey := nestedKind P w
mutual
def keyN : D → NestedKey
  | .non => .none
  | .bl b => .num (if b = true then 1 else 0)
  | .int i => .num i
  | .str x => .text x
  | .tup ds => .tup (keyNs ds)
  | _ => .none
def keyNs : List D → List NestedKey
  | [] => []
  | d :: ds => keyN d :: keyNs ds
end
mutual
def okK : D → Bool
  | .non => true
  | .bl _ => true
  | .int _ => true
  | .str _ => true
  | .tup ds => okKs ds
  | _ => false
def okKs : List D → Bool
  | [] => true
  | d :: ds => okK d && okKs ds
end
mutual
theorem nest_R {P : Program} {w : World} {H : Hp} {h : Heap} (ok : HOk P w H h) : ∀ {d : D} {v : V} {u : Value}, R H v d → RelV v u → okK d = true → NestedIs h (keyN d) u
  | .non, _, _, .non, e, _ => by cases e; exact .none
  | .bl b, _, _, .bl _, e, _ => by cases e; exact .bool rfl
  | .int i, _, _, .int _, e, _ => by obtain ⟨t, rfl⟩ := e; exact .int i t
  | .str x, _, _, .str _, e, _ => by obtain ⟨t, rfl⟩ := e; exact .text x t
  | .tup ds, _, u, .tup hd n r, e, k => by
    cases e
    obtain ⟨_, its, rv, o, h1, h2, nn, h3⟩ := (show ObjOk P w H h _ (.tup _) from rd_of ok hd)
    exact .tup h1 h2 h3 (by have := nest_Rs ok r rv (by simpa [okK] using k); simpa using this)
  | .lst _, _, _, _, _, k => by simp [okK] at k
  | .dic _, _, _, _, _, k => by simp [okK] at k
  | .ref _, _, _, _, _, k => by simp [okK] at k
theorem nest_Rs {P : Program} {w : World} {H : Hp} {h : Heap} (ok : HOk P w H h) : ∀ {ds : List D} {vs : List V} {us : List Value}, Rs H vs ds → Vals vs us → okKs ds = true → NestedAll h (keyNs ds) us
  | [], _, _, .nil, rv, _ => by cases rv; exact .nil
  | d :: ds, _, _, .cons hx r, rv, k => by
    cases rv with
    | cons e rv =>
      rw [okKs, Bool.and_eq_true] at k
      exact .cons (nest_R ok hx e k.1) (nest_Rs ok r rv k.2)
end
/-- what may be a key -/
def KeyD (d : D) : Prop := (∃ ds, d = .tup ds) ∧ okK d = true ∧ (keyN d).depth ≤ 8
theorem KeyD.is {P : Program} {w : World} {H : Hp} {h : Heap} {d : D} {a : Addr} (k : KeyD d) (ok : HOk P w H h) (r : R H (.ref a) d) : (NK P w).is h (keyN d) a := ⟨nest_R ok r rfl k.2.1, k.2.2⟩
theorem KeyD.ref {F : Hp} {d : D} {v : V} (k : KeyD d) (r : R F v d) : ∃ a, v = .ref a := by
  obtain ⟨⟨ds, rfl⟩, _⟩ := k
  cases r
  exact ⟨_, rfl⟩
abbrev KV := NestedKey × Addr × V
abbrev PVN (kvs : List KV) (xs : List (NestedKey × Addr × Value)) : Prop := Paired (fun (p : KV) (q : NestedKey × Addr × Value) => p.1 = q.1 ∧ p.2.1 = q.2.1 ∧ RelV p.2.2 q.2.2) kvs xs
def findN (kvs : List KV) (k : NestedKey) : Option V := (kvs.find? fun p => decide (p.1 = k)).map (·.2.2)
theorem pvn_len : ∀ {kvs : List KV} {xs : List (NestedKey × Addr × Value)}, PVN kvs xs → xs.length = kvs.length
  | _, _, .nil => rfl
  | _, _, .cons _ r => congrArg (· + 1) (pvn_len r)
theorem pvn_mem : ∀ {kvs : List KV} {xs : List (NestedKey × Addr × Value)}, PVN kvs xs → ∀ x ∈ xs, ∃ p ∈ kvs, p.1 = x.1 ∧ p.2.1 = x.2.1
  | _, _, .nil, x, m => by cases m
  | p :: _, _, .cons h r, x, m => by
    rcases List.mem_cons.mp m with rfl | m
    · exact ⟨p, List.mem_cons_self, h.1, h.2.1⟩
    · obtain ⟨p', m', e⟩ := pvn_mem r x m
      exact ⟨p', List.mem_cons_of_mem _ m', e⟩
theorem pvn_at : ∀ {kvs : List KV} {xs : List (NestedKey × Addr × Value)} (k : NestedKey), PVN kvs xs → (findN kvs k = none → atKey xs k = none) ∧ ∀ v, findN kvs k = some v → ∃ a u, atKey xs k = some (a, u) ∧ RelV v u
  | _, _, k, .nil => ⟨(fun _ => rfl), (fun v h => by cases h)⟩
  | p :: kvs, q :: xs, k, .cons h r => by
    have ih := pvn_at k r
    unfold findN atKey at ih ⊢
    rw [List.find?_cons, List.find?_cons]
    by_cases c : p.1 = k
    · have c' : q.1 = k := h.1.symm.trans c
      simp only [c, c', decide_true]
      exact ⟨(fun z => by cases z), (fun v z => by cases z; exact ⟨q.2.1, q.2.2, rfl, h.2.2⟩)⟩
    · have c' : ¬ q.1 = k := fun z => c (h.1.trans z)
      simp only [c, c', decide_false]
      exact ih
/-- its keys stand as data -/
def CKN (H : Hp) (kvs : List KV) : Prop := ∀ p ∈ kvs, ∃ d, R H (.ref p.2.1) d ∧ KeyD d ∧ keyN d = p.1
theorem tdn_get {X : Cx} {pins : List (Addr × Obj)} {σ : L2.St} {H : Hp} {s : Shared} {d : Addr} {kvs : List KV} (I : Inv X pins σ H s) (e : H d = some (TDO (NK X.prog X.w) d kvs)) (hk : CKN H kvs) :
    ((d == sysModules) = false ∧ kvs.length ≤ sizeLine) ∧ ∃ xs, PVN kvs xs ∧ s.heap.DictOfH (NK X.prog X.w) d xs := by
  obtain ⟨hz, xs, r, o, es, ep, h1, h2, h3, h4, h5⟩ := (show ObjOk X.prog X.w H s.heap d (TDO (NK X.prog X.w) d kvs) from I.hok d _ e).1
  refine ⟨hz, xs, r, o, es, ep, h1, h2, h3, h4, fun x hx => ?_, h5⟩
  obtain ⟨p, hp, e1, e2⟩ := pvn_mem r x hx
  obtain ⟨dd, hr, kd, ek⟩ := hk p hp
  rw [← e1, ← e2, ← ek]
  exact kd.is I.hok hr
def rNinN (P : Program) (w : World) : R2 := fun x y H Q => ∃ (b d : Addr) (kd : D) (kvs : List KV), x = .ref b ∧ y = .ref d ∧ R H (.ref b) kd ∧ KeyD kd ∧ H d = some (TDO (NK P w) d kvs) ∧ CKN H kvs ∧ Q (.bl (!(findN kvs (keyN kd)).isSome)) H
theorem op_ninN {X : Cx} (hu : X.A.units + 100 < cLine) : OpR X (compareOp .NotIn) (rNinN X.prog X.w) := by
  intro pins s σ H x y v u Q I rx ry h
  obtain ⟨b, d, kd, kvs, rfl, rfl, hb, kk, hd, hk, q⟩ := h
  cases rx
  cases ry
  obtain ⟨hz, xs, r, dd⟩ := tdn_get I hd hk
  refine wpAny_notIn_heap (knd := NK X.prog X.w) (show X.A.in1.units + 8 < cLine from by show X.A.units + 1 + 8 < cLine; omega) (kk.is I.hok hb) hz.1 dd ?_
  obtain ⟨h1, h2⟩ := pvn_at (keyN kd) r
  cases z : findN kvs (keyN kd) with
  | none => rw [h1 z]; rw [z] at q; exact ⟨.bl true, H, I.tok _, rfl, q⟩
  | some v =>
    obtain ⟨a, u, e, _⟩ := h2 v z
    rw [e]; rw [z] at q; exact ⟨.bl false, H, I.tok _, rfl, q⟩
def rGetN (P : Program) (w : World) : R2 := fun y x H Q => ∃ (b d : Addr) (kd : D) (kvs : List KV) (v : V), x = .ref b ∧ y = .ref d ∧ R H (.ref b) kd ∧ KeyD kd ∧ H d = some (TDO (NK P w) d kvs) ∧ CKN H kvs ∧ findN kvs (keyN kd) = some v ∧ Q v H
theorem ix_N {X : Cx} (hu : X.A.units + 100 < cLine) : IxR X (rGetN X.prog X.w) := by
  intro value slice pins s σ H y x v u Q I ry rx h hs
  obtain ⟨b, d, kd, kvs, z, rfl, rfl, hb, kk, hd, hk, hf, q⟩ := h
  cases rx
  cases ry
  obtain ⟨hz, xs, r, dd⟩ := tdn_get I hd hk
  obtain ⟨a, u, e, ru⟩ := (pvn_at (keyN kd) r).2 z hf
  have key := wpAny_getItem_heap (knd := NK X.prog X.w) (E := X.xe) (A := X.A) (Q := fun r s' => r = u ∧ EP X pins σ Q r s') (show X.A.in1.units + 8 < cLine from by show X.A.units + 1 + 8 < cLine; omega) (kk.is I.hok hb) dd e ⟨rfl, z, H, I.tok _, ru, q⟩
  exact subscriptTail_builtinR (x := u) dd.typeIs slot_dict_getitem.lookup key hs
/-- d[t] = v, a new key -/
def sNPut (P : Program) (w : World) (td ty tv : TE) : TS := fun D σ H => tv σ H fun v H1 => td σ H1 fun x H2 => ty σ H2 fun y H3 => ∃ (b d : Addr) (kd : AL.D) (kvs : List KV), x = .ref d ∧ y = .ref b ∧ R H3 (.ref b) kd ∧ KeyD kd ∧ H3 d = some (TDO (NK P w) d kvs) ∧ CKN H3 kvs ∧ findN kvs (keyN kd) = none ∧ kvs.length < sizeLine ∧
  D.nx σ (upd H3 d (TDO (NK P w) d (kvs ++ [(keyN kd, b, v)])))
theorem pvn_snoc {kvs : List KV} {xs : List (NestedKey × Addr × Value)} (r : PVN kvs xs) {k : NestedKey} {b : Addr} {v : V} {u : Value} (ru : RelV v u) : PVN (kvs ++ [(k, b, v)]) (xs ++ [(k, b, u)]) := by
  induction r with
  | nil => exact .cons ⟨rfl, rfl, ru⟩ .nil
  | cons h _ ih => exact .cons h ih
theorem ps_nput {X : Cx} {o i value : Expr} {td ty tv : TE} {pos pos' : Pos} (hu : X.A.units + 100 < cLine) (ho : PE X o td) (hi : PE X i ty) (hv : PE X value tv) (hs : swapsWith value (some (.Subscript o i pos')) pos.line X.env = pure false) :
    PS X (.Assign [.Subscript o i pos'] value pos) (sNPut X.prog X.w td ty tv) := by
  refine ⟨fun pins s σ H D I h => ?_⟩
  refine wpAny_Assign_Subscript (thn (hv.run pins s σ H _ I h) fun r s1 ⟨v, H1, I1, rv, q1⟩ => thn (ho.run pins s1 σ H1 _ I1 q1) fun u s2 ⟨x, H2, I2, rx, q2⟩ => thn (hi.run pins s2 σ H2 _ I2 q2) fun iv s3 ⟨y, H3, I3, ry, q3⟩ => ?_) hs
  obtain ⟨b, d, kd, kvs, rfl, rfl, hb, kk, hd, hk, hn, hl, q⟩ := q3
  cases rx
  cases ry
  obtain ⟨hz, xs, rr, dd⟩ := tdn_get I3 hd hk
  have hx : atKey xs (keyN kd) = none := (pvn_at (keyN kd) rr).1 hn
  refine wpAny_setItem_heap (knd := NK X.prog X.w) (hsz := by rw [pvn_len rr]; exact hz.2) (show X.A.in1.units + 8 < cLine from by show X.A.units + 1 + 8 < cLine; omega) (kk.is I3.hok hb) dd fun h' dd' hsb => ⟨σ, _, ?_, q⟩
  rw [storedH_new hx] at dd'
  obtain ⟨ob, es, ep, hq, h2, h3, h4, h5, h6⟩ := dd'
  exact d_write I3 (by rw [hd]; exact True.intro) hsb ⟨ob, hq⟩ (tdo_ok ⟨⟨hz.1, by simp; omega⟩, _, pvn_snoc rr rv, ob, es, ep, hq, h2, h3, h4, h6⟩)
/-- {} -/
def tN0 (P : Program) (w : World) : TE := fun _ H Q => ∀ d, H d = none → Q (.ref d) (upd H d (TDO (NK P w) d []))
theorem pe_N0 {X : Cx} {pos : Pos} : PE X (.Dict [] [] pos) (tN0 X.prog X.w) := ⟨fun pins s σ H Q I h =>
  have hb : (s.heap.objs.size == sysModules) = false := by
    have := I.big
    simpa using (Nat.ne_of_gt this)
  wpAny_Dict_empty ⟨.ref s.heap.objs.size, _, I.laid (a := s.heap.objs.size) (o := TDO (NK X.prog X.w) s.heap.objs.size []) (t' := s.toks) (fun _ _ q => Heap.get?_push_of_some _ q) (Nat.le_refl _)
    (tdo_ok ⟨⟨hb, Nat.zero_le _⟩, [], .nil, _, #[], 0, Heap.get?_push_size _ rfl, ⟨rfl, rfl, rfl⟩, rfl, rfl, List.nodup_nil⟩), rfl, h _ (I.hok.fresh (Nat.le_refl _))⟩⟩
/-! ### in the store -/
def flatN : List (D × D) → List D
  | [] => []
  | e :: r => e.1 :: e.2 :: flatN r
def kvN : List NestedKey → List V → List KV
  | k :: ks, a :: v :: vs => (k, refOf a, v) :: kvN ks vs
  | _, _ => []
def mkN (P : Program) (w : World) (d : Addr) (ks : List NestedKey) : List V → HO := fun vs => TDO (NK P w) d (kvN ks vs)
def keysN (es : List (D × D)) : List NestedKey := es.map fun e => keyN e.1
def tnC (P : Program) (w : World) (d : Addr) (es : List (D × D)) : Cell := .ob (mkN P w d (keysN es)) (flatN es)
def OkE (es : List (D × D)) : Prop := ∀ e ∈ es, KeyD e.1
def lookN (es : List (D × D)) (d : D) : Option D := (es.find? fun e => decide (keyN e.1 = keyN d)).map (·.2)
theorem kvN_ok {F : Hp} : ∀ {es : List (D × D)} {vs : List V}, Rs F vs (flatN es) → OkE es → (∀ p ∈ kvN (keysN es) vs, ∃ d, R F (.ref p.2.1) d ∧ KeyD d ∧ keyN d = p.1) ∧ (kvN (keysN es) vs).length = es.length ∧
    ∀ d, (lookN es d = none → findN (kvN (keysN es) vs) (keyN d) = none) ∧ ∀ x, lookN es d = some x → ∃ v, findN (kvN (keysN es) vs) (keyN d) = some v ∧ R F v x
  | [], _, _, _ => ⟨(fun p m => by simp [keysN, kvN] at m), rfl, fun d => ⟨(fun _ => rfl), (fun x z => by cases z)⟩⟩
  | e :: es, _, .cons hk (.cons hv r), ok => by
    obtain ⟨g1, g2, g3⟩ := kvN_ok r fun x m => ok x (List.mem_cons_of_mem _ m)
    have ke := ok e List.mem_cons_self
    obtain ⟨a, rfl⟩ := ke.ref hk
    refine ⟨fun p m => ?_, ?_, fun d => ?_⟩
    · rcases List.mem_cons.mp m with rfl | m
      · exact ⟨e.1, hk, ke, rfl⟩
      · exact g1 p m
    · show (kvN (keysN es) _).length + 1 = es.length + 1
      rw [g2]
    · have ih := g3 d
      unfold lookN findN at ih ⊢
      show (_ → Option.map _ (List.find? _ ((keyN e.1, a, _) :: kvN (keysN es) _)) = none) ∧ _
      have e1 : ∀ v vs', List.find? (fun p : KV => decide (p.1 = keyN d)) ((keyN e.1, a, v) :: vs') = if keyN e.1 = keyN d then some (keyN e.1, a, v) else List.find? (fun p : KV => decide (p.1 = keyN d)) vs' := fun v vs' => by
        rw [List.find?_cons]
        by_cases c : keyN e.1 = keyN d <;> simp [c]
      have e2 : List.find? (fun x : D × D => decide (keyN x.1 = keyN d)) (e :: es) = if keyN e.1 = keyN d then some e else List.find? (fun x : D × D => decide (keyN x.1 = keyN d)) es := by
        rw [List.find?_cons]
        by_cases c : keyN e.1 = keyN d <;> simp [c]
      rw [e2, e1]
      by_cases c : keyN e.1 = keyN d
      · rw [if_pos c, if_pos c]
        refine ⟨(fun z => by cases z), (fun x z => ?_)⟩
        cases z
        refine ⟨_, ?_, hv⟩
        show Option.map _ (List.find? _ ((keyN e.1, a, _) :: kvN (keysN es) _)) = _
        rw [e1, if_pos c]; rfl
      · rw [if_neg c, if_neg c]
        refine ⟨ih.1, (fun x z => ?_)⟩
        obtain ⟨v, h1, h2⟩ := ih.2 x z
        refine ⟨v, ?_, h2⟩
        show Option.map _ (List.find? _ ((keyN e.1, a, _) :: kvN (keysN es) _)) = _
        rw [e1, if_neg c]; exact h1
theorem flat_snoc : ∀ (es : List (D × D)) (k v : D), flatN (es ++ [(k, v)]) = flatN es ++ [k, v]
  | [], _, _ => rfl
  | e :: es, k, v => by
    show e.1 :: e.2 :: flatN (es ++ [(k, v)]) = _
    rw [flat_snoc es k v]; rfl
theorem kvN_snoc {F : Hp} : ∀ {es : List (D × D)} {vs : List V} (k d : D) (a : Addr) (v : V), Rs F vs (flatN es) → kvN (keysN (es ++ [(k, d)])) (vs ++ [.ref a, v]) = kvN (keysN es) vs ++ [(keyN k, a, v)]
  | [], _, k, d, a, v, .nil => rfl
  | e :: es, _, k, d, a, v, .cons hk (.cons hv r) => by
    show (keyN e.1, _, _) :: kvN (keysN (es ++ [(k, d)])) (_ ++ [V.ref a, v]) = _
    rw [kvN_snoc k d a v r]; rfl
theorem CKN.of {Z : Hid} {H : Hp} {M : Store} {kvs : List KV} (h : ∀ p ∈ kvs, ∃ d, R (mkH Z H M) (.ref p.2.1) d ∧ KeyD d ∧ keyN d = p.1) : CKN H kvs := fun p m => by
  obtain ⟨d, h1, h2, h3⟩ := h p m
  exact ⟨d, h1.mono (Sb.of fun b o e _ => (mk_iff.mp e).2), h2, h3⟩
theorem R.up {Z : Hid} {H : Hp} {M : Store} {v : V} {d : D} (h : R (mkH Z H M) v d) : R H v d := h.mono (Sb.of fun b o e _ => (mk_iff.mp e).2)
def ninNA (P : Program) (w : World) : R2A := fun d e M Q => ∃ (c : Addr) (es : List (D × D)), e = .ref c ∧ M c = some (tnC P w c es) ∧ OkE es ∧ KeyD d ∧ Q (.bl (!(lookN es d).isSome)) M
def getNA (P : Program) (w : World) : R2A := fun e d M Q => ∃ (c : Addr) (es : List (D × D)) (x : D), e = .ref c ∧ M c = some (tnC P w c es) ∧ OkE es ∧ KeyD d ∧ lookN es d = some x ∧ Q x M
theorem os_ninN {b : BC} {K : PySem.W.Frag} {P : Program} {w : World} : OpSim b K (rNinN P w) (ninNA P w) := by
  rintro Z H M x y d e Q Qa rh hx hy ⟨c, es, rfl, hc, ok, kd, q⟩ kk
  obtain ⟨a, rfl⟩ := kd.ref hx
  cases hy
  obtain ⟨vs, h1, _, h3⟩ := rh.cells c _ hc
  obtain ⟨g1, g2, g3⟩ := kvN_ok h3 ok
  refine ⟨a, c, d, kvN (keysN es) vs, rfl, rfl, hx.up, kd, h1, .of g1, ?_⟩
  have e : (findN (kvN (keysN es) vs) (keyN d)).isSome = (lookN es d).isSome := by
    cases z : lookN es d with
    | none => rw [(g3 d).1 z]; rfl
    | some x => obtain ⟨v, e, _⟩ := (g3 d).2 x z; rw [e]; rfl
  rw [e]
  exact kk _ _ H M rh (Ext.refl H M) (.bl _) q
theorem os_getN {b : BC} {K : PySem.W.Frag} {P : Program} {w : World} : OpSim b K (rGetN P w) (getNA P w) := by
  rintro Z H M y x e d Q Qa rh hy hx ⟨c, es, z, rfl, hc, ok, kd, hl, q⟩ kk
  obtain ⟨a, rfl⟩ := kd.ref hx
  cases hy
  obtain ⟨vs, h1, _, h3⟩ := rh.cells c _ hc
  obtain ⟨g1, g2, g3⟩ := kvN_ok h3 ok
  obtain ⟨v, e, rv⟩ := (g3 d).2 z hl
  exact ⟨a, c, d, kvN (keysN es) vs, v, rfl, rfl, hx.up, kd, h1, .of g1, e, kk _ _ H M rh (Ext.refl H M) rv q⟩
section
variable {b : BC} {X : Cx} {pos pos' : Pos} {e1 e2 value : Expr} {ta tb tv : TE} {aa ab av : ATE} {k : Nat}
theorem de_ninN (hr : Room k X.A) (ha : DE b X e1 ta aa) (hb : DE b X e2 tb ab) (hm : behindInMarks .NotIn e2 = false := by with_unfolding_all rfl) : DE b X (.Compare e1 [.NotIn] [e2] pos) (tOp (rNinN X.prog X.w) ta tb) (aOp (ninNA X.prog X.w) aa ab) := ⟨pe_cmpR (op_ninN (room100 hr)) ha.pe hb.pe hm, sim_op os_ninN ha.sim hb.sim⟩
theorem dt_ninN (hr : Room k X.A) (ha : DE b X e1 ta aa) (hb : DE b X e2 tb ab) (hm : behindInMarks .NotIn e2 = false := by with_unfolding_all rfl) : DT b X (.Compare e1 [.NotIn] [e2] pos) (tB (tOp (rNinN X.prog X.w) ta tb)) (aBool (aOp (ninNA X.prog X.w) aa ab)) := ⟨pt_cmpR (op_ninN (room100 hr)) ha.pe hb.pe hm, sim_bool (de_ninN (pos := pos) hr ha hb hm).sim⟩
theorem de_getN (hr : Room k X.A) (ha : DE b X e1 ta aa) (hb : DE b X e2 tb ab) (hs : PlainIx e2 := by exact fun _ _ => rfl) : DE b X (.Subscript e1 e2 pos) (tOp (rGetN X.prog X.w) ta tb) (aOp (getNA X.prog X.w) aa ab) := ⟨pe_ix (ix_N (room100 hr)) ha.pe hb.pe hs, sim_op os_getN ha.sim hb.sim⟩
@[simp] def aN0 (P : Program) (w : World) : ATE := fun sl M Q => ∀ d, M d = none → Q (.ref d) (updS M d (tnC P w d []))
theorem cell_N {K : PySem.W.Frag} {F H : Hp} {P : Program} {w : World} {d : Addr} {es : List (D × D)} {vs : List V} (h : H d = some (TDO (NK P w) d (kvN (keysN es) vs))) (r : Rs F vs (flatN es)) : CellOk K F H d (tnC P w d es) := ⟨vs, h, ⟨tdo_tbl, tdo_code⟩, r⟩
theorem de_N0 : DE b X (.Dict [] [] pos) (tN0 X.prog X.w) (aN0 X.prog X.w) := ⟨pe_N0, fun Z σ H M sl Q Qa rp e q k d nd => by
  obtain ⟨r2, e2⟩ := rp.rh.cell (o := TDO (NK X.prog X.w) d []) (c := tnC X.prog X.w d []) nd (cell_N (vs := []) upd_same .nil)
  exact k (.ref d) (.ref d) _ _ r2 e2 (.ref d) (q d (rp.rh.free nd))⟩
@[simp] def aNPut (P : Program) (w : World) (ao ai av : ATE) : ATS := fun E sl M => av sl M fun v M1 => ao sl M1 fun o M2 => ai sl M2 fun i M3 => ∃ (c : Addr) (es : List (D × D)), o = .ref c ∧ M3 c = some (tnC P w c es) ∧ OkE es ∧ KeyD i ∧ lookN es i = none ∧ es.length < sizeLine ∧ E.nx sl (updS M3 c (tnC P w c (es ++ [(i, v)])))
theorem ds_nput (hr : Room k X.A) (ho : DE b X e1 ta aa) (hi : DE b X e2 tb ab) (hv : DE b X value tv av) (hs : swapsWith value (some (.Subscript e1 e2 pos')) pos.line X.env = pure false := by rfl) :
    DS b X (.Assign [.Subscript e1 e2 pos'] value pos) (sNPut X.prog X.w ta tb tv) (aNPut X.prog X.w aa ab av) := ⟨ps_nput (room100 hr) ho.pe hi.pe hv.pe hs, fun Z σ H M sl E Ea rp e q kk =>
  hv.sim Z σ H M sl _ _ rp e q fun v dv H1 M1 r1 e1 h1 q1 => ho.sim Z σ H1 M1 sl _ _ (rp.to r1 e1) (e.trans e1) q1 fun o do_ H2 M2 r2 e2 h2 q2 => hi.sim Z σ H2 M2 sl _ _ ((rp.to r1 e1).to r2 e2) (e.trans (e1.trans e2)) q2 fun i di H3 M3 r3 e3 h3 q3 => by
    obtain ⟨c, es, rfl, hc, ok, kd, hn, hl, q3⟩ := q3
    obtain ⟨a, rfl⟩ := kd.ref h3
    cases h2
    obtain ⟨vs, g1, _, hr3⟩ := r3.cells c _ hc
    obtain ⟨g2, g3, g4⟩ := kvN_ok hr3 ok
    have h13 := h1.mono (e2.trans e3).sb
    have rr : Rs (mkH Z H3 M3) (vs ++ [.ref a, v]) (flatN (es ++ [(di, dv)])) := by
      rw [flat_snoc]
      exact hr3.append (.cons h3 (.one h13))
    obtain ⟨r4, e4⟩ := r3.put (o := TDO (NK X.prog X.w) c (kvN (keysN (es ++ [(di, dv)])) (vs ++ [.ref a, v]))) (c' := tnC X.prog X.w c (es ++ [(di, dv)])) hc (cell_N upd_same rr)
    refine ⟨a, c, di, kvN (keysN es) vs, rfl, rfl, h3.up, kd, g1, .of g2, (g4 di).1 hn, by rw [g3]; exact hl, ?_⟩
    rw [← kvN_snoc di dv a v hr3]
    exact kk.nx _ _ _ _ ((((rp.to r1 e1).to r2 e2).to r3 e3).to r4 e4) (e1.trans (e2.trans (e3.trans e4))) q3⟩
end
end AL
set_option Elab.async false
set_option linter.all false
set_option maxRecDepth 100000
set_option maxHeartbeats 4000000
set_option autoImplicit false
/-! AL40: methods as promises at their own address; a tuple once or more. -/
namespace AL
open PySem PySem.Spec PyProof.Rows L2 LamX PySem.W
section
variable {P : Program} {w : World} {K : PySem.W.Frag} {mg : Str → Option Value} {base : Heap} {T : List (Addr × Str)}
/-- a method that leaves the store as it was -/
theorem fnPM {x q : Str} {st : Stmt} {f : Addr} {fd : FuncData} {N ps : List Str} {k : Nat} {fs : ASp} (F : Fun K x q st f fd) (S : FnScope N ps (defScope st)) (hb : Binds K fd ps []) (len : ∀ ds M Q E, fs ds M Q E → ds.length = ps.length)
    (body : ∀ (cdv : Value) (A : Around) (outer : List Env) (s : Shared) (H : Hp) (E : XK) (Z0 : Hid) (M0 : Store) (Ea : AXK), Room k (A.deeper (envOfC q (defScope st) s.heap.objs.size f cdv)) →
      Takes (cxOf (L2.CX P w) P w K mg base N q (defScope st) f cdv A outer s H E) (fun cls d _ H => E cls d H) →
      PassesOwn (model P w) (A.deeper (envOfC q (defScope st) s.heap.objs.size f cdv)) (envOfC q (defScope st) s.heap.objs.size f cdv) (cxOf (L2.CX P w) P w K mg base N q (defScope st) f cdv A outer s H E).xe →
      WL ⟨T, Z0, H, M0⟩ K (fun cls d _ H => E cls d H) (endPW M0 Ea) →
      ∃ ts at_, DSs ⟨T, Z0, H, M0⟩ (cxOf (L2.CX P w) P w K mg base N q (defScope st) f cdv A outer s H E) (defBody st) ts at_ ∧ ∀ ds Q, fs ds M0 Q Ea → at_ (endP M0 Q) (startD N.length ds) M0) :
    FnAt P w K mg base T f (k + 1) fs := by
  obtain ⟨oc, od, kV, doc, pm, an, cdv, ct, osl, rfl, lk, hcd⟩ := F.ex
  exact ⟨_, ps, F.kp, hb, fn_core0 (x := q) (E1 := endP) (W1 := endPW) cdv (fun sp l h => fn_of lk hcd S l h) len (fun M0 Q d M h => ⟨M0, h⟩) (fun M0 Q sl M h => ⟨M0, h⟩) (fun _ _ _ _ h => h) (fun _ _ _ _ h => h) (fun M0 Ea C d sl M h => ⟨M0, h⟩) (body cdv)⟩
/-- a method that may change what it got by reference -/
theorem fnEM {x q : Str} {st : Stmt} {f : Addr} {fd : FuncData} {N ps : List Str} {k : Nat} {fs : ASp} (F : Fun K x q st f fd) (S : FnScope N ps (defScope st)) (hb : Binds K fd ps []) (len : ∀ ds M Q E, fs ds M Q E → ds.length = ps.length)
    (body : ∀ (cdv : Value) (A : Around) (outer : List Env) (s : Shared) (H : Hp) (E : XK) (Z0 : Hid) (M0 : Store) (Ea : AXK), Room k (A.deeper (envOfC q (defScope st) s.heap.objs.size f cdv)) →
      Takes (cxOf (L2.CX P w) P w K mg base N q (defScope st) f cdv A outer s H E) (fun cls d _ H => E cls d H) →
      PassesOwn (model P w) (A.deeper (envOfC q (defScope st) s.heap.objs.size f cdv)) (envOfC q (defScope st) s.heap.objs.size f cdv) (cxOf (L2.CX P w) P w K mg base N q (defScope st) f cdv A outer s H E).xe →
      WL ⟨T, Z0, H, M0⟩ K (fun cls d _ H => E cls d H) (endW Ea) →
      ∃ ts at_, DSs ⟨T, Z0, H, M0⟩ (cxOf (L2.CX P w) P w K mg base N q (defScope st) f cdv A outer s H E) (defBody st) ts at_ ∧ ∀ ds Q, fs ds M0 Q Ea → at_ (endE Q) (startD N.length ds) M0) :
    FnAt P w K mg base T f (k + 1) fs := by
  obtain ⟨oc, od, kV, doc, pm, an, cdv, ct, osl, rfl, lk, hcd⟩ := F.ex
  exact ⟨_, ps, F.kp, hb, fn_core0 (x := q) (E1 := fun _ => endE) (W1 := fun _ => endW) cdv (fun sp l h => fn_of lk hcd S l h) len (fun M0 Q d M h => h) (fun M0 Q sl M h => h) (fun _ _ _ _ h => h) (fun _ _ _ _ h => h) (fun M0 Ea C d sl M h => h) (body cdv)⟩
end
/-! ### t * 1 -/
theorem tuple_mul1 (l : Addr) (items : Array Value) (n : Nat) (dd : Option Addr) (sl : Array (Option Value)) (u : Tok) :
    Meets (Builtin.«tuple.__mul__» ⟨[.ref l, .int 1 u], []⟩) (fun _ R s => s.heap.get? l = some { cls := .type "tuple", dict := dd, data := .seq items n, slots := sl } ∧ R (.ok (.ret (Value.ref l))) s) :=
  .of_wp fun prog w A R s h => by
    obtain ⟨hp, g, d, tk, os⟩ := s
    obtain ⟨hl, h⟩ := h
    have f1 := AutoSeq1.idx_int
    wp_walk using wpAny_loadPart' hl
    have c1 : (items.isEmpty || ((1 : Int) == 1)) = true := by rw [show ((1 : Int) == 1) = true from rfl, Bool.or_true]
    repeat (first
      | (refine wpAny_ite_false (by decide) ?_; wp_walk using wpAny_loadPart' hl)
      | (refine wpAny_ite_true (by rw [c1]; exact decide_eq_true rfl) ?_; wp_walk using wpAny_loadPart' hl)
      | (refine wpAny_ite_true c1 ?_; wp_walk using wpAny_loadPart' hl))
    exact ⟨_, rfl, h⟩
def rRep1 (K : PySem.W.Frag) : R2 := fun x y H Q => ∃ l xs, x = .ref l ∧ y = .int 1 ∧ SqT K H l xs ∧ Q x H
theorem op_rep1 {X : Cx} : OpR X (binaryOp .Mult) (rRep1 X.K) := by
  intro pins s σ H x y v u Q I rx ry h
  obtain ⟨l, xs, rfl, rfl, hT, q⟩ := h
  cases rx
  obtain ⟨t, rfl⟩ := ry
  obtain ⟨its, r, ⟨⟨cls, dd, data, sl⟩, ho, hc, n, hd⟩, hs⟩ := I.tuple hT
  simp only at hc hd
  subst hc hd
  exact wpAny_binaryOp_repeat_ref (T := "tuple") (U := "int") (by decide) ⟨_, ho, rfl⟩ (fun s' => typeIs_int s' 1 t) noFill_tuple_mul F.fills_int_mul F.slot_int_rmul repeat_tuple F.slot_int_index.lookup
    (call_meets F.slot_int_rmul (typeIs_int s 1 t) F.entry_int_rmul (F.args_int_rmul_2 _ _) (int_rmul_tuple 1 t l its.toArray n dd sl)
      ⟨ho, rfl, ⟨_, ho, rfl⟩, call_meets F.slot_tuple_mul ⟨_, ho, rfl⟩ F.entry_tuple_mul (F.args_tuple_mul_2 _ _) (tuple_mul1 l its.toArray n dd sl t) ⟨ho, .ref l, H, I, rfl, q⟩⟩)
def mulT1D : R2A := fun d e M Q => match seqT d, e with
  | some ds, .int k => ds ≠ [] ∧ 1 ≤ k ∧ k ≤ 1000 ∧ ds.length ≤ 1000 ∧ Q (.tup (List.replicate k.toNat ds).flatten) M
  | _, _ => False
@[simp] theorem mulT1D_tup {ds : List D} {k : Int} {M : Store} {Q : DK} : mulT1D (.tup ds) (.int k) M Q = (ds ≠ [] ∧ 1 ≤ k ∧ k ≤ 1000 ∧ ds.length ≤ 1000 ∧ Q (.tup (List.replicate k.toNat ds).flatten) M) := rfl
theorem os_mulT1 {b : BC} {K : PySem.W.Frag} : OpSim b K (fun x y H Q => rRepT K x y H Q ∨ rRep1 K x y H Q) mulT1D := by
  intro Z H M x y d e Q Qa rh hx hy q k
  unfold mulT1D at q
  cases h1 : seqT d with
  | none => rw [h1] at q; exact q.elim
  | some ds =>
    rw [h1] at q
    cases e with
    | int j =>
      have q : ds ≠ [] ∧ 1 ≤ j ∧ j ≤ 1000 ∧ ds.length ≤ 1000 ∧ Qa (.tup (List.replicate j.toNat ds).flatten) M := q
      obtain ⟨n1, k2, k3, l1, q⟩ := q
      by_cases c : j = 1
      · subst c
        obtain ⟨a, vs, rfl, ha, hr, _⟩ := seqT_ok hx h1
        cases hy
        refine .inr ⟨a, vs, rfl, rfl, .inl ha, ?_⟩
        have e1 : (List.replicate (1 : Int).toNat ds).flatten = ds := by simp
        rw [e1] at q
        have ed : d = .tup ds := by cases d <;> first | (cases h1; done) | (cases h1; rfl)
        subst ed
        exact k _ _ H M rh (Ext.refl H M) hx q
      · exact .inl (os_mulT Z H M x y d (.int j) Q Qa rh hx hy (by
          unfold mulTD
          rw [h1]
          exact ⟨n1, by omega, k3, l1, q⟩) k)
    | _ => exact q.elim
theorem de_mulT1 {b : BC} {X : Cx} {pos : Pos} {e1 e2 : Expr} {ta tb : TE} {aa ab : ATE} (ha : DE b X e1 ta aa) (hb : DE b X e2 tb ab) : DE b X (.BinOp e1 .Mult e2 pos) (tOp (fun x y H Q => rRepT X.K x y H Q ∨ rRep1 X.K x y H Q) ta tb) (aOp mulT1D aa ab) := ⟨pe_op (op_repT.or op_rep1) ha.pe hb.pe, sim_op os_mulT1 ha.sim hb.sim⟩
end AL
set_option Elab.async false
set_option linter.all false
set_option maxRecDepth 100000
set_option maxHeartbeats 4000000
set_option autoImplicit false
/-! M37: the plain law: the least choice of lots. -/
namespace K37
open AL
abbrev Lot := Int × List Int
abbrev Ans := Option (Int × List Int)
/-- what is still wanted -/
def less (w m : List Int) : List Int := (w.zip m).map fun p => max 0 (p.1 - p.2)
def two (a b : Ans) : Ans := match a, b with
  | some x, some y => if vrLt y x then some y else some x
  | some x, none => some x
  | none, b => b
def bestS : List Lot → Int → List Int → Ans
  | [], _, w => if w.sum = 0 then some (0, []) else none
  | l :: r, i, w => two ((bestS r (i + 1) (less w l.2)).map fun p => (l.1 + p.1, i :: p.2)) (bestS r (i + 1) w)
/-- the lots that are chosen: their places, from i on -/
def sel (lots : List Lot) (i : Int) (p : List Int) : List Lot := p.map fun k => lots.getD (k - i).toNat (0, [])
def cost (lots : List Lot) (i : Int) (p : List Int) : Int := ((sel lots i p).map (·.1)).sum
def got (lots : List Lot) (i : Int) (p : List Int) (k : Nat) : Int := ((sel lots i p).map fun l => l.2.getD k 0).sum
/-- ascending places of lots, from i on -/
def Plc (n : Nat) (i : Int) (p : List Int) : Prop := Asc p ∧ ∀ k ∈ p, i ≤ k ∧ k < i + n
def Enough (lots : List Lot) (i : Int) (w p : List Int) : Prop := ∀ k : Nat, k < w.length → w.getD k 0 ≤ got lots i p k
/-- the least good choice -/
structure Least (lots : List Lot) (i : Int) (w : List Int) (a : Ans) : Prop where
  yes : ∀ x, a = some x → Plc lots.length i x.2 ∧ Enough lots i w x.2 ∧ x.1 = cost lots i x.2 ∧ ∀ p, Plc lots.length i p → Enough lots i w p → ¬ vrLt (cost lots i p, p) x
  no : a = none → ∀ p, Plc lots.length i p → ¬ Enough lots i w p
theorem getD_zip {a b : List Int} {k : Nat} (ha : k < a.length) (hb : k < b.length) (f : Int × Int → Int) : ((a.zip b).map f).getD k 0 = f (a.getD k 0, b.getD k 0) := by
  have hz : k < (a.zip b).length := by rw [List.length_zip]; omega
  simp [List.getElem?_eq_getElem ha, List.getElem?_eq_getElem hb, List.getElem?_eq_getElem hz]
theorem less_len {w m : List Int} (h : w.length = m.length) : (less w m).length = w.length := by simp [less, h]
theorem sum_nn : ∀ {l : List Int}, (∀ x ∈ l, 0 ≤ x) → 0 ≤ l.sum
  | [], _ => Int.le_refl _
  | x :: l, h => by
    have := h x List.mem_cons_self
    have := sum_nn fun y m => h y (List.mem_cons_of_mem _ m)
    simp; omega
theorem sum_zero : ∀ {l : List Int}, (∀ x ∈ l, 0 ≤ x) → l.sum = 0 → ∀ x ∈ l, x = 0
  | [], _, _, x, m => by cases m
  | y :: l, h, e, x, m => by
    have h1 := h y List.mem_cons_self
    have h2 := sum_nn fun z m => h z (List.mem_cons_of_mem _ m)
    simp at e
    rcases List.mem_cons.mp m with rfl | m
    · omega
    · exact sum_zero (fun z m => h z (List.mem_cons_of_mem _ m)) (by omega) x m
theorem sum_0 : ∀ {l : List Int}, (∀ x ∈ l, x = 0) → l.sum = 0
  | [], _ => rfl
  | x :: l, h => by rw [List.sum_cons, h x List.mem_cons_self, sum_0 fun y m => h y (List.mem_cons_of_mem _ m)]; rfl
theorem sel_skip {l : Lot} {r : List Lot} {i : Int} {p : List Int} (h : ∀ k ∈ p, i + 1 ≤ k) : sel (l :: r) i p = sel r (i + 1) p := by
  unfold sel
  refine List.map_congr_left fun k hk => ?_
  have := h k hk
  obtain ⟨n, e⟩ : ∃ n : Nat, (k - i).toNat = n + 1 := ⟨(k - i).toNat - 1, by omega⟩
  have e2 : (k - (i + 1)).toNat = n := by omega
  rw [e, e2]; rfl
theorem sel_take {l : Lot} {r : List Lot} {i : Int} {p : List Int} (h : ∀ k ∈ p, i + 1 ≤ k) : sel (l :: r) i (i :: p) = l :: sel r (i + 1) p := by
  show (l :: r).getD (i - i).toNat (0, []) :: sel (l :: r) i p = _
  rw [sel_skip h, Int.sub_self]; rfl
theorem plc_split {n : Nat} {i : Int} {p : List Int} (h : Plc (n + 1) i p) : (∃ q, p = i :: q ∧ Plc n (i + 1) q) ∨ Plc n (i + 1) p := by
  obtain ⟨h1, h2⟩ := h
  cases p with
  | nil => exact .inr ⟨h1, fun k m => by cases m⟩
  | cons x q =>
    have hq := List.pairwise_cons.mp h1
    have hx := h2 x List.mem_cons_self
    by_cases c : x = i
    · subst c
      refine .inl ⟨q, rfl, hq.2, fun k m => ?_⟩
      have := hq.1 k m
      have := h2 k (List.mem_cons_of_mem _ m)
      omega
    · refine .inr ⟨h1, fun k m => ?_⟩
      have := h2 k m
      rcases List.mem_cons.mp m with rfl | m
      · omega
      · have := hq.1 k m; omega
theorem plc_take {n : Nat} {i : Int} {p : List Int} (h : Plc n (i + 1) p) : Plc (n + 1) i (i :: p) := ⟨List.pairwise_cons.mpr ⟨fun k m => by have := h.2 k m; omega, h.1⟩, fun k m => by
  rcases List.mem_cons.mp m with rfl | m
  · omega
  · have := h.2 k m; omega⟩
theorem plc_skip {n : Nat} {i : Int} {p : List Int} (h : Plc n (i + 1) p) : Plc (n + 1) i p := ⟨h.1, fun k m => by have := h.2 k m; omega⟩
theorem got_nn {lots : List Lot} (hn : ∀ l ∈ lots, ∀ x ∈ l.2, 0 ≤ x) (i : Int) (p : List Int) (k : Nat) : 0 ≤ got lots i p k := by
  refine sum_nn fun x hx => ?_
  obtain ⟨l, hl, rfl⟩ := List.mem_map.mp hx
  obtain ⟨j, _, rfl⟩ := List.mem_map.mp hl
  generalize (j - i).toNat = m
  by_cases c : m < lots.length
  · have e : lots.getD m (0, []) = lots[m] := by simp [List.getElem?_eq_getElem c]
    rw [e]
    have hl := hn _ (List.getElem_mem c)
    by_cases d : k < lots[m].2.length
    · have e2 : lots[m].2.getD k 0 = lots[m].2[k] := by simp [List.getElem?_eq_getElem d]
      rw [e2]; exact hl _ (List.getElem_mem d)
    · simp [List.getElem?_eq_none (show lots[m].2.length ≤ k by omega)]
  · simp [List.getElem?_eq_none (show lots.length ≤ m by omega)]
theorem bestS_ok : ∀ {lots : List Lot} {i : Int} {w : List Int}, (∀ l ∈ lots, l.2.length = w.length ∧ ∀ x ∈ l.2, 0 ≤ x) → (∀ x ∈ w, 0 ≤ x) → Least lots i w (bestS lots i w)
  | [], i, w, _, hw => by
    unfold bestS
    have key : Enough [] i w [] ↔ w.sum = 0 := by
      constructor
      · intro h
        refine sum_0 fun x hx => ?_
        obtain ⟨k, hk, rfl⟩ := List.getElem_of_mem hx
        have h1 := h k hk
        have e : w.getD k 0 = w[k] := by simp [List.getElem?_eq_getElem hk]
        rw [e] at h1
        have h1 : w[k] ≤ 0 := h1
        have := hw _ hx
        omega
      · intro h k hk
        have e : w.getD k 0 = w[k] := by simp [List.getElem?_eq_getElem hk]
        rw [e, sum_zero hw h _ (List.getElem_mem hk)]
        exact Int.le_refl _
    have emp : ∀ p, Plc 0 i p → p = [] := fun p h => by
      cases p with
      | nil => rfl
      | cons x q => have := h.2 x List.mem_cons_self; omega
    by_cases c : w.sum = 0
    · rw [if_pos c]
      refine ⟨fun x e => ?_, fun e => by cases e⟩
      cases e
      refine ⟨⟨List.Pairwise.nil, fun k m => by cases m⟩, key.mpr c, rfl, fun p hp _ => ?_⟩
      rw [emp p hp]
      unfold vrLt
      show ¬ ((0 : Int) < 0 ∨ (0 : Int) = 0 ∧ ([] : List Int) < [])
      simp
    · rw [if_neg c]
      refine ⟨(fun x e => by cases e), fun _ p hp => ?_⟩
      rw [emp p hp, key]
      exact c
  | l :: r, i, w, hl, hw => by
    have hll := hl l List.mem_cons_self
    have hr : ∀ l ∈ r, l.2.length = w.length ∧ ∀ x ∈ l.2, 0 ≤ x := fun x m => hl x (List.mem_cons_of_mem _ m)
    have lz : (less w l.2).length = w.length := less_len hll.1.symm
    have nz : ∀ x ∈ less w l.2, 0 ≤ x := fun x hx => by
      obtain ⟨p, _, rfl⟩ := List.mem_map.mp hx
      exact Int.le_max_left _ _
    have A := bestS_ok (lots := r) (i := i + 1) (w := less w l.2) (fun x m => by rw [lz]; exact hr x m) nz
    have B := bestS_ok (lots := r) (i := i + 1) (w := w) hr hw
    have ge : ∀ {n : Nat} {p : List Int}, Plc n (i + 1) p → ∀ k ∈ p, i + 1 ≤ k := fun h k m => (h.2 k m).1
    have tk : ∀ p, Plc r.length (i + 1) p → (Enough (l :: r) i w (i :: p) ↔ Enough r (i + 1) (less w l.2) p) := fun p hp => by
      unfold Enough
      rw [lz]
      refine forall_congr' fun k => forall_congr' fun hk => ?_
      have e : (less w l.2).getD k 0 = max 0 (w.getD k 0 - l.2.getD k 0) := getD_zip hk (by omega) fun p => max 0 (p.1 - p.2)
      have g : got (l :: r) i (i :: p) k = l.2.getD k 0 + got r (i + 1) p k := by
        unfold got
        rw [sel_take (ge hp)]; rfl
      have nn := got_nn (lots := r) (fun l m => (hr l m).2) (i + 1) p k
      rw [e, g]
      omega
    have sk : ∀ p, Plc r.length (i + 1) p → (Enough (l :: r) i w p ↔ Enough r (i + 1) w p) := fun p hp => by
      unfold Enough got
      rw [sel_skip (ge hp)]
    have ct : ∀ p, Plc r.length (i + 1) p → cost (l :: r) i (i :: p) = l.1 + cost r (i + 1) p := fun p hp => by
      unfold cost
      rw [sel_take (ge hp)]; rfl
    have cs : ∀ p, Plc r.length (i + 1) p → cost (l :: r) i p = cost r (i + 1) p := fun p hp => by
      unfold cost
      rw [sel_skip (ge hp)]
    have lift : ∀ (x : Int × List Int) (p : List Int), ¬ vrLt (cost r (i + 1) p, p) x → ¬ vrLt (l.1 + cost r (i + 1) p, i :: p) (l.1 + x.1, i :: x.2) := fun x p h z => h (by
      unfold vrLt at z ⊢
      rcases z with z | ⟨z, z2⟩
      · exact .inl (by have : l.1 + cost r (i + 1) p < l.1 + x.1 := z; show cost r (i + 1) p < x.1; omega)
      · refine .inr ⟨by have : l.1 + cost r (i + 1) p = l.1 + x.1 := z; show cost r (i + 1) p = x.1; omega, ?_⟩
        have z2 : i :: p < i :: x.2 := z2
        rw [List.cons_lt_cons_iff] at z2
        rcases z2 with z2 | z2
        · omega
        · exact z2.2)
    unfold bestS
    generalize ha : bestS r (i + 1) (less w l.2) = a at A
    generalize hb : bestS r (i + 1) w = b at B
    show Least (l :: r) i w (two (a.map fun p => (l.1 + p.1, i :: p.2)) b)
    cases a with
    | none =>
      show Least (l :: r) i w b
      refine ⟨fun x e => ?_, fun e p hp => ?_⟩
      · obtain ⟨h1, h2, h3, h4⟩ := B.yes x e
        refine ⟨plc_skip h1, (sk _ h1).mpr h2, by rw [cs _ h1]; exact h3, fun p hp he => ?_⟩
        rcases plc_split hp with ⟨q, rfl, hq⟩ | hq
        · exact absurd ((tk q hq).mp he) (A.no rfl q hq)
        · rw [cs _ hq]; exact h4 p hq ((sk p hq).mp he)
      · rcases plc_split hp with ⟨q, rfl, hq⟩ | hq
        · exact fun z => A.no rfl q hq ((tk q hq).mp z)
        · exact fun z => B.no e p hq ((sk p hq).mp z)
    | some x =>
      obtain ⟨h1, h2, h3, h4⟩ := A.yes x rfl
      have hx : Plc (r.length + 1) i (i :: x.2) ∧ Enough (l :: r) i w (i :: x.2) ∧ l.1 + x.1 = cost (l :: r) i (i :: x.2) := ⟨plc_take h1, (tk _ h1).mpr h2, by rw [ct _ h1, ← h3]⟩
      cases b with
      | none =>
        show Least (l :: r) i w (some (l.1 + x.1, i :: x.2))
        refine ⟨fun y e => ?_, fun e => by cases e⟩
        cases e
        refine ⟨hx.1, hx.2.1, hx.2.2, fun p hp he => ?_⟩
        rcases plc_split hp with ⟨q, rfl, hq⟩ | hq
        · rw [ct _ hq]; exact lift x q (h4 q hq ((tk q hq).mp he))
        · exact absurd ((sk p hq).mp he) (B.no rfl p hq)
      | some y =>
        obtain ⟨g1, g2, g3, g4⟩ := B.yes y rfl
        show Least (l :: r) i w (if vrLt y (l.1 + x.1, i :: x.2) then some y else some (l.1 + x.1, i :: x.2))
        by_cases c : vrLt y (l.1 + x.1, i :: x.2)
        · rw [if_pos c]
          refine ⟨fun z e => ?_, fun e => by cases e⟩
          cases e
          refine ⟨plc_skip g1, (sk _ g1).mpr g2, by rw [cs _ g1]; exact g3, fun p hp he => ?_⟩
          rcases plc_split hp with ⟨q, rfl, hq⟩ | hq
          · rw [ct _ hq]
            exact fun z => lift x q (h4 q hq ((tk q hq).mp he)) (vr_tr _ _ _ z c)
          · rw [cs _ hq]; exact g4 p hq ((sk p hq).mp he)
        · rw [if_neg c]
          refine ⟨fun z e => ?_, fun e => by cases e⟩
          cases e
          refine ⟨hx.1, hx.2.1, hx.2.2, fun p hp he => ?_⟩
          rcases plc_split hp with ⟨q, rfl, hq⟩ | hq
          · rw [ct _ hq]; exact lift x q (h4 q hq ((tk q hq).mp he))
          · rw [cs _ hq]
            intro z
            rcases vr_nt _ y _ z with z | z
            · exact g4 p hq ((sk p hq).mp he) z
            · exact c z
/-- the least one is one alone -/
theorem least_one {lots : List Lot} {i : Int} {w : List Int} {a b : Ans} (ha : Least lots i w a) (hb : Least lots i w b) : a = b := by
  cases a with
  | none =>
    cases b with
    | none => rfl
    | some y => exact absurd (hb.yes y rfl).2.1 (ha.no rfl _ (hb.yes y rfl).1)
  | some x =>
    cases b with
    | none => exact absurd (ha.yes x rfl).2.1 (hb.no rfl _ (ha.yes x rfl).1)
    | some y =>
      obtain ⟨h1, h2, h3, h4⟩ := ha.yes x rfl
      obtain ⟨g1, g2, g3, g4⟩ := hb.yes y rfl
      have n1 := h4 _ g1 g2
      have n2 := g4 _ h1 h2
      rw [← g3] at n1
      rw [← h3] at n2
      unfold vrLt at n1 n2
      simp only [not_or, not_and] at n1 n2
      have e1 : x.1 = y.1 := by omega
      have l1 := n1.2 e1.symm
      have l2 := n2.2 e1
      have : x.2 = y.2 := List.le_antisymm (List.not_lt.mp l1) (List.not_lt.mp l2)
      rw [show x = y from Prod.ext e1 this]
theorem bestS_len : ∀ {lots : List Lot} {i : Int} {w : List Int} {x : Int × List Int}, bestS lots i w = some x → x.2.length ≤ lots.length
  | [], i, w, x, h => by
    unfold bestS at h
    split at h
    · cases h; exact Nat.le_refl _
    · cases h
  | l :: r, i, w, x, h => by
    unfold bestS at h
    have ih1 := fun x => bestS_len (lots := r) (i := i + 1) (w := less w l.2) (x := x)
    have ih2 := fun x => bestS_len (lots := r) (i := i + 1) (w := w) (x := x)
    generalize bestS r (i + 1) (less w l.2) = a at h ih1
    generalize bestS r (i + 1) w = b at h ih2
    rw [List.length_cons]
    cases a with
    | none =>
      have h : b = some x := h
      have := ih2 x h; omega
    | some u =>
      have := ih1 u rfl
      cases b with
      | none =>
        have h : some (l.1 + u.1, i :: u.2) = some x := h
        cases h
        rw [List.length_cons]; omega
      | some v =>
        have := ih2 v rfl
        have h : (if vrLt v (l.1 + u.1, i :: u.2) then some v else some (l.1 + u.1, i :: u.2)) = some x := h
        split at h
        · cases h; omega
        · cases h; rw [List.length_cons]; omega
end K37
set_option Elab.async false
set_option linter.all false
set_option maxRecDepth 100000
set_option maxHeartbeats 4000000
set_option autoImplicit false
/-! P37: the program's defs. -/
namespace K37
open PySem PySem.Spec PyProof.Rows L2 LamX AL
def top (i : Nat) : Stmt := PySem.Challenge.pw_oldspares_k37_whole_lots.main.body.getD i (.Pass ⟨0, 0, 0, 0⟩)
abbrev s_check_lots : Stmt := (top 16)
abbrev s_is_lot : Stmt := (top 17)
abbrev s_binit : Stmt := (inClass (top 18) 0)
abbrev s_best : Stmt := (inClass (top 18) 1)
abbrev s_cheapest_lots : Stmt := (top 19)
abbrev s_lots_over : Stmt := (top 20)
/-- names -/
structure Nm (mg : Str → Option Value) : Prop where
  z_all : mg "all" = none
  z_any : mg "any" = none
  z_bool : mg "bool" = none
  z_dict : mg "dict" = none
  z_enumerate : mg "enumerate" = none
  z_int : mg "int" = none
  z_isinstance : mg "isinstance" = none
  z_len : mg "len" = none
  z_list : mg "list" = none
  z_max : mg "max" = none
  z_min : mg "min" = none
  z_range : mg "range" = none
  z_repr : mg "repr" = none
  z_sorted : mg "sorted" = none
  z_str : mg "str" = none
  z_sum : mg "sum" = none
  z_tuple : mg "tuple" = none
  z_zip : mg "zip" = none
  g_MOST_LOTS : ∃ t, mg "MOST_LOTS" = some (.int (12) t)
  g_MOST_KINDS : ∃ t, mg "MOST_KINDS" = some (.int (4) t)
  g_MOST_PRICE : ∃ t, mg "MOST_PRICE" = some (.int (1000) t)
  g_MOST_IN : ∃ t, mg "MOST_IN" = some (.int (9) t)
  g_MOST_WANTED : ∃ t, mg "MOST_WANTED" = some (.int (12) t)
section
variable {P : Program} {w : World} {K : PySem.W.Frag} {mg : Str → Option Value} {base : Heap} {T : List (Addr × Str)} {f : Addr} {fd : FuncData}
abbrev s_is_integer : Stmt := (top 1)
@[simp] def fsIsInteger : ASp := fun ds M Q _ => match ds with | [d] => puD d = true ∧ Q (.bl (AL.isInt d)) M | _ => False
theorem scInt : FnScope ["thing"] ["thing"] (defScope s_is_integer) := ⟨rfl, rfl, rfl, by decide +kernel, rfl, by decide +kernel, by decide +kernel⟩
theorem is_integer (Z : Nm mg) (F : Fun K "is_integer" "is_integer" s_is_integer f fd) (hm : mg "is_integer" = some (.ref f)) (hb : Binds K fd ["thing"] []) : FnA P w K mg base T "is_integer" 1 fsIsInteger := by
  refine fnP F scInt hm hb (fun ds M Q E h => by unfold fsIsInteger at h; split at h <;> first | rfl | exact h.elim) fun cdv A outer s H E Z0 M0 Ea hr tk hp wl => ⟨_, _, (dss_one (ds_ret (de_and (de_isi .int Z.z_isinstance Z.z_int (de_var 0)) (de_one (de_not (de_isi .bool Z.z_isinstance Z.z_bool (de_var 0))))))), ?_⟩
  intro ds Q h
  unfold fsIsInteger at h
  split at h <;> try exact h.elim
  rename_i d
  obtain ⟨hd, q⟩ := h
  simp [isD_pu hd]
  cases d <;> simp_all

abbrev s_is_within : Stmt := (top 2)
/-- within -/
def wiD (d : D) (l m : Int) : Bool := match d with | .int i => decide (l ≤ i) && decide (i ≤ m) | _ => false
@[simp] def fsIsWithin : ASp := fun ds M Q _ => match ds with | [d, .int l, .int m] => puD d = true ∧ Q (.bl (wiD d l m)) M | _ => False
theorem scWi : FnScope ["thing", "least", "most"] ["thing", "least", "most"] (defScope s_is_within) := ⟨rfl, rfl, rfl, by decide +kernel, rfl, by decide +kernel, by decide +kernel⟩
theorem is_within (F_is_integer : FnA P w K mg base T "is_integer" 1 fsIsInteger) (F : Fun K "is_within" "is_within" s_is_within f fd) (hm : mg "is_within" = some (.ref f)) (hb : Binds K fd ["thing", "least", "most"] []) : FnA P w K mg base T "is_within" 2 fsIsWithin := by
  refine fnP F scWi hm hb (fun ds M Q E h => by unfold fsIsWithin at h; split at h <;> first | rfl | exact h.elim) fun cdv A outer s H E Z0 M0 Ea hr tk hp wl => ⟨_, _, (dss_one (ds_ret (de_and (de_call (F_is_integer.mono (by omega)) hr (da_cons (de_var 0) da_nil)) (de_one (de_lele (de_var 1) (de_var 0) (de_var 2)))))), ?_⟩
  intro ds Q h
  unfold fsIsWithin at h
  split at h <;> try exact h.elim
  rename_i d l m
  obtain ⟨hd, q⟩ := h
  simp [hd]
  cases d <;> simp_all [wiD]
  split
  · rename_i h; rw [decide_eq_true h, Bool.true_and] at q; exact q
  · rename_i h; rw [decide_eq_false h, Bool.false_and] at q; exact q

abbrev s_is_row : Stmt := (top 3)
@[simp] def fsIsRow : ASp := fun ds M Q _ => match ds with | [d] => puD (derefD M d) = true ∧ Q (.bl (isSeq (derefD M d))) M | _ => False
theorem scRow : FnScope ["thing"] ["thing"] (defScope s_is_row) := ⟨rfl, rfl, rfl, by decide +kernel, rfl, by decide +kernel, by decide +kernel⟩
theorem is_row (Z : Nm mg) (F : Fun K "is_row" "is_row" s_is_row f fd) (hm : mg "is_row" = some (.ref f)) (hb : Binds K fd ["thing"] []) : FnA P w K mg base T "is_row" 1 fsIsRow := by
  refine fnP F scRow hm hb (fun ds M Q E h => by unfold fsIsRow at h; split at h <;> first | rfl | exact h.elim) fun cdv A outer s H E Z0 M0 Ea hr tk hp wl => ⟨_, _, (dss_one (ds_ret (de_isiT2 .list .tuple Z.z_isinstance Z.z_list Z.z_tuple (de_var 0)))), ?_⟩
  intro ds Q h
  unfold fsIsRow at h
  split at h <;> try exact h.elim
  rename_i d
  obtain ⟨hd, q⟩ := h
  simp [isDs_deref hd]
  generalize derefD M0 d = e at hd q ⊢
  cases e <;> simp_all

abbrev s_is_tuple_of : Stmt := (top 4)
def tupN (d : D) (n : Int) : Bool := match d with | .tup es => decide ((es.length : Int) = n) | _ => false
@[simp] def fsIsTup : ASp := fun ds M Q _ => match ds with | [d, .int n] => puD d = true ∧ Q (.bl (tupN d n)) M | _ => False
theorem scTup : FnScope ["thing", "many"] ["thing", "many"] (defScope s_is_tuple_of) := ⟨rfl, rfl, rfl, by decide +kernel, rfl, by decide +kernel, by decide +kernel⟩
theorem is_tuple_of (Z : Nm mg) (F : Fun K "is_tuple_of" "is_tuple_of" s_is_tuple_of f fd) (hm : mg "is_tuple_of" = some (.ref f)) (hb : Binds K fd ["thing", "many"] []) : FnA P w K mg base T "is_tuple_of" 1 fsIsTup := by
  refine fnP F scTup hm hb (fun ds M Q E h => by unfold fsIsTup at h; split at h <;> first | rfl | exact h.elim) fun cdv A outer s H E Z0 M0 Ea hr tk hp wl => ⟨_, _, (dss_one (ds_ret (de_and (de_isi .tuple Z.z_isinstance Z.z_tuple (de_var 0)) (de_one (de_eq hr (de_len Z.z_len (da_cons (de_var 0) da_nil)) (de_var 1)))))), ?_⟩
  intro ds Q h
  unfold fsIsTup at h
  split at h <;> try exact h.elim
  rename_i d n
  obtain ⟨hd, q⟩ := h
  simp [isD_pu hd]
  cases d <;> simp_all [tupN]

/-! ### lots -/
abbrev lotD (l : Lot) : D := .tup [.int l.1, intsT l.2]
/-- ints between 0 and hi -/
def rowOf (hi : Int) (ds : List D) : Option (List Int) := match intsOf ds with
  | some ns => if ∀ x ∈ ns, 0 ≤ x ∧ x ≤ hi then some ns else none
  | none => none
theorem rowOf_some {hi : Int} {ds : List D} {ns : List Int} (h : rowOf hi ds = some ns) : ds = ns.map D.int ∧ ∀ x ∈ ns, 0 ≤ x ∧ x ≤ hi := by
  unfold rowOf at h
  cases z : intsOf ds with
  | none => rw [z] at h; cases h
  | some ms =>
    rw [z] at h
    simp only at h
    by_cases c : ∀ x ∈ ms, 0 ≤ x ∧ x ≤ hi
    · rw [if_pos c] at h
      have h := Option.some.inj h
      subst h
      exact ⟨intsOf_some z, c⟩
    · rw [if_neg c] at h; cases h
theorem rowOf_ints {hi : Int} {ns : List Int} (h : ∀ x ∈ ns, 0 ≤ x ∧ x ≤ hi) : rowOf hi (ns.map D.int) = some ns := by
  unfold rowOf
  rw [intsOf_map]
  simp only [if_pos h]
theorem wiD_is {d : D} {l m : Int} (h : wiD d l m = true) : ∃ i, d = .int i ∧ l ≤ i ∧ i ≤ m := by
  unfold wiD at h
  split at h
  · rw [Bool.and_eq_true] at h
    exact ⟨_, rfl, of_decide_eq_true h.1, of_decide_eq_true h.2⟩
  · cases h
theorem rowOf_all {hi : Int} : ∀ {ds : List D}, (∀ d ∈ ds, wiD d 0 hi = true) → ∃ ns : List Int, ds = ns.map D.int ∧ ∀ x ∈ ns, 0 ≤ x ∧ x ≤ hi
  | [], _ => ⟨[], rfl, fun x m => by cases m⟩
  | d :: ds, h => by
    obtain ⟨i, rfl, h1, h2⟩ := wiD_is (h d List.mem_cons_self)
    obtain ⟨ns, rfl, h3⟩ := rowOf_all fun x m => h x (List.mem_cons_of_mem _ m)
    refine ⟨i :: ns, rfl, fun x m => ?_⟩
    rcases List.mem_cons.mp m with rfl | m
    · exact ⟨h1, h2⟩
    · exact h3 x m
theorem rowOf_iff {hi : Int} {ds : List D} : (rowOf hi ds).isSome = ds.all fun d => wiD d 0 hi := by
  cases z : (ds.all fun d => wiD d 0 hi) with
  | true =>
    obtain ⟨ns, rfl, h⟩ := rowOf_all (List.all_eq_true.mp z)
    rw [rowOf_ints h]; rfl
  | false =>
    cases y : rowOf hi ds with
    | none => rfl
    | some ns =>
      obtain ⟨rfl, h⟩ := rowOf_some y
      have : ((ns.map D.int).all fun d => wiD d 0 hi) = true := List.all_eq_true.mpr fun d m => by
        obtain ⟨x, hx, rfl⟩ := List.mem_map.mp m
        simp [wiD, h x hx]
      rw [this] at z; cases z
def manyOf : D → Option (List Int)
  | .tup ks => if 1 ≤ ks.length ∧ ks.length ≤ 4 then (match rowOf 9 ks with | some ns => if ∃ x ∈ ns, 0 < x then some ns else none | none => none) else none
  | _ => none
def lotOf : D → Option Lot
  | .tup [p, m] => if wiD p 0 1000 = true then (match p, manyOf m with | .int i, some ns => some (i, ns) | _, _ => none) else none
  | _ => none
/-- what a lot is -/
structure LotOk (l : Lot) : Prop where
  p : 0 ≤ l.1 ∧ l.1 ≤ 1000
  n : 1 ≤ l.2.length ∧ l.2.length ≤ 4
  m : ∀ x ∈ l.2, 0 ≤ x ∧ x ≤ 9
  s : ∃ x ∈ l.2, 0 < x
theorem manyOf_some {d : D} {ns : List Int} (h : manyOf d = some ns) : d = intsT ns ∧ (1 ≤ ns.length ∧ ns.length ≤ 4) ∧ (∀ x ∈ ns, 0 ≤ x ∧ x ≤ 9) ∧ ∃ x ∈ ns, 0 < x := by
  cases d with
  | tup ks =>
    unfold manyOf at h
    simp only at h
    split at h
    · rename_i c
      cases z : rowOf 9 ks with
      | none => rw [z] at h; cases h
      | some ms =>
        rw [z] at h
        simp only at h
        obtain ⟨rfl, hm⟩ := rowOf_some z
        split at h
        · rename_i c2
          cases h
          exact ⟨rfl, by simpa using c, hm, c2⟩
        · cases h
    · cases h
  | _ => cases h
theorem lotOf_some {d : D} {l : Lot} (h : lotOf d = some l) : d = lotD l ∧ LotOk l := by
  unfold lotOf at h
  split at h
  · rename_i p m
    split at h
    · rename_i c
      obtain ⟨i, rfl, h1, h2⟩ := wiD_is c
      cases z : manyOf m with
      | none => rw [z] at h; cases h
      | some ns =>
        rw [z] at h
        cases h
        obtain ⟨rfl, g1, g2, g3⟩ := manyOf_some z
        exact ⟨rfl, ⟨h1, h2⟩, g1, g2, g3⟩
    · cases h
  · cases h
theorem lotOf_ok {l : Lot} (h : LotOk l) : lotOf (lotD l) = some l := by
  unfold lotOf
  simp only [intsT]
  rw [if_pos (by simp [wiD, h.p])]
  unfold manyOf
  simp only [List.length_map]
  rw [if_pos h.n, rowOf_ints h.m]
  simp only
  rw [if_pos h.s]
@[simp] def fsIsLot : ASp := fun ds M Q _ => match ds with | [d] => puD d = true ∧ Q (.bl (lotOf d).isSome) M | _ => False
theorem scIsLot : FnScope ["thing", "one"] ["thing"] (defScope s_is_lot) := ⟨rfl, rfl, rfl, by decide +kernel, rfl, by decide +kernel, by decide +kernel⟩
theorem is_lot (Z : Nm mg) (F_is_within : FnA P w K mg base T "is_within" 2 fsIsWithin) (F_is_tuple_of : FnA P w K mg base T "is_tuple_of" 1 fsIsTup) (F : Fun K "is_lot" "is_lot" s_is_lot f fd) (hm : mg "is_lot" = some (.ref f)) (hb : Binds K fd ["thing"] []) : FnA P w K mg base T "is_lot" 3 fsIsLot := by
  refine fnP F scIsLot hm hb (fun ds M Q E h => by unfold fsIsLot at h; split at h <;> first | rfl | exact h.elim) fun cdv A outer s H E Z0 M0 Ea hr tk hp wl => ⟨_, _, (dss_cons (ds_if (dw_or (dt_not (dt_val (de_call (F_is_tuple_of.mono (by omega)) hr (da_cons (de_var 0) (da_cons de_int da_nil))))) (dw_or (dt_not (dt_val (de_call (F_is_within.mono (by omega)) hr (da_cons (de_ix (de_var 0) de_int) (da_cons de_int (da_cons (de_gint Z.g_MOST_PRICE.choose_spec) da_nil)))))) (dw_or1 (dt_not (dt_val (de_isi .tuple Z.z_isinstance Z.z_tuple (de_ix (de_var 0) de_int))))))).dt (dss_one (ds_ret de_bl)) dss_nil)
      (dss_cons (ds_if (dw_or (dt_not (dt_lele de_int (de_len Z.z_len (da_cons (de_ix (de_var 0) de_int) da_nil)) (de_gint Z.g_MOST_KINDS.choose_spec))) (dw_or1 (dt_not (dt_val (de_all rfl Z.z_all (da_cons (de_lc rfl scIsLot.nd [("one", 1)] (di_seq (de_ix (de_var 0) de_int)) (by rfl) (fun _ _ _ _ _ => (dg_name 1 scIsLot.nd)) gon_name (fun _ _ _ _ _ => dts_nil) (fun _ _ _ _ _ => (de_call (F_is_within.mono (by omega)) hr (da_cons (de_var 1) (da_cons de_int (da_cons (de_gint Z.g_MOST_IN.choose_spec) da_nil)))))) da_nil)))))).dt (dss_one (ds_ret de_bl)) dss_nil)
      (dss_one (ds_ret (de_any rfl Z.z_any (da_cons (de_lc rfl scIsLot.nd [("one", 1)] (di_seq (de_ix (de_var 0) de_int)) (by rfl) (fun _ _ _ _ _ => (dg_name 1 scIsLot.nd)) gon_name (fun _ _ _ _ _ => dts_nil) (fun _ _ _ _ _ => (de_gt (de_var 1) de_int))) da_nil)))))), ?_⟩
  intro ds Q h
  unfold fsIsLot at h
  split at h <;> try exact h.elim
  rename_i d
  obtain ⟨pd, q⟩ := h
  cases d with
  | tup es =>
    match es, pd, q with
    | [p, m], pd, q =>
      rw [puD_tup, puDs_cons, Bool.and_eq_true, puDs_cons, Bool.and_eq_true] at pd
      obtain ⟨pp, pm, _⟩ := pd
      have none_m : manyOf m = none → lotOf (.tup [p, m]) = none := fun e => by
        unfold lotOf
        simp only
        split
        · rw [e]; cases p <;> rfl
        · rfl
      simp [tupN, pp, pm, -lenD]
      by_cases c1 : wiD p 0 1000 = true
      · rw [if_pos c1]
        cases m with
        | tup ks =>
          show if true = true then _ else _
          rw [if_pos rfl]
          refine lenD_seq rfl fun _ => ?_
          simp only
          by_cases c2 : 1 ≤ ks.length ∧ ks.length ≤ 4
          · rw [if_pos (by omega), if_neg (by omega)]
            refine ⟨trivial, ?_⟩
            have pks : puDs ks = true := by simpa using pm
            have hl := fun (Q : List D → Store → Prop) q => lcL_all (chk := fun M' => seqX M' (.tup ks) = some ks) (ag := aGName 1) (tt := aYes) (te := aCall fsIsWithin (aCons (aVar 1) (aCons (aC (D.int 0)) (aCons (aC (D.int 9)) aNil)))) (sl := [some (D.tup [p, .tup ks]), none]) (Q := Q) (M := M0) id (fun d => D.bl (wiD d 0 9)) rfl ks (fun x hx k k2 hk => by simp; exact ⟨puDs_mem pks hx, hk⟩) q
            rw [List.map_id] at hl
            refine hl _ ?_
            have eb : blsOf (ks.map fun d => D.bl (wiD d 0 9)) = some (ks.map fun d => wiD d 0 9) := by
              rw [show (ks.map fun d => D.bl (wiD d 0 9)) = (ks.map fun d => wiD d 0 9).map D.bl by rw [List.map_map]; rfl, blsOf_map]
            simp only [eb]
            cases hr : rowOf 9 ks with
            | none =>
              have e : manyOf (.tup ks) = none := by unfold manyOf; simp only [if_pos c2, hr]
              rw [none_m e] at q
              have : false ∈ ks.map fun d => wiD d 0 9 := by
                have h1 := rowOf_iff (hi := 9) (ds := ks)
                rw [hr] at h1
                have h1 : (ks.all fun d => wiD d 0 9) = false := h1.symm
                rw [List.all_eq_false] at h1
                obtain ⟨x, hx, h2⟩ := h1
                exact List.mem_map.mpr ⟨x, hx, by simpa using h2⟩
              rw [if_pos this]
              exact ⟨Drop.refl _, q⟩
            | some ns =>
              obtain ⟨rfl, hn⟩ := rowOf_some hr
              have : ¬ false ∈ (ns.map D.int).map fun d => wiD d 0 9 := fun z => by
                obtain ⟨x, hx, h2⟩ := List.mem_map.mp z
                obtain ⟨y, hy, rfl⟩ := List.mem_map.mp hx
                simp [wiD, hn y hy] at h2
              rw [if_neg this]
              refine ⟨trivial, ?_⟩
              show lcL _ _ _ _ _ (ns.map D.int) [] M0 _
              refine lcL_all (chk := fun M' => seqX M' (D.tup (ns.map D.int)) = some (ns.map D.int)) (ag := aGName 1) (tt := aYes) (te := aOp (cmpD fun i j => decide (j < i)) (aVar 1) (aC (D.int 0))) (sl := [some (D.tup [p, D.tup (ns.map D.int)]), none]) D.int (fun x => D.bl (decide (0 < x))) rfl ns (fun x hx k k2 hk => by simp; exact hk) ?_
              have eb2 : blsOf (ns.map fun x => D.bl (decide (0 < x))) = some (ns.map fun x => decide (0 < x)) := by
                rw [show (ns.map fun x => D.bl (decide (0 < x))) = (ns.map fun x => decide (0 < x)).map D.bl by rw [List.map_map]; rfl, blsOf_map]
              simp only [eb2]
              refine ⟨Drop.refl _, ?_⟩
              obtain ⟨i, rfl, _, _⟩ := wiD_is c1
              have e : (lotOf (.tup [.int i, .tup (ns.map D.int)])).isSome = (ns.map fun x => decide (0 < x)).any id := by
                unfold lotOf manyOf
                simp only [if_pos c1, if_pos c2, hr]
                by_cases c3 : ∃ x ∈ ns, 0 < x
                · rw [if_pos c3]
                  obtain ⟨x, hx, h0⟩ := c3
                  exact (List.any_eq_true.mpr ⟨true, List.mem_map.mpr ⟨x, hx, decide_eq_true h0⟩, rfl⟩).symm
                · rw [if_neg c3]
                  symm
                  rw [Option.isSome_none, List.any_eq_false]
                  intro x hx
                  obtain ⟨y, hy, rfl⟩ := List.mem_map.mp hx
                  simp only [id, decide_eq_true_eq]
                  exact fun z => c3 ⟨y, hy, z⟩
              rw [e] at q
              exact q
          · have e : manyOf (.tup ks) = none := by unfold manyOf; simp only [if_neg c2]
            rw [none_m e] at q
            by_cases c3 : 1 ≤ ks.length
            · rw [if_pos (by omega), if_pos (by omega)]; exact ⟨Drop.refl _, q⟩
            · rw [if_neg (by omega)]; exact ⟨Drop.refl _, q⟩
        | dic _ => cases pm
        | ref _ => cases pm
        | _ =>
          rw [none_m rfl] at q
          exact q
      · rw [if_neg c1]
        have e : lotOf (.tup [p, m]) = none := by unfold lotOf; simp only [if_neg c1]
        rw [e] at q
        exact q
    | [], _, q => simp [tupN]; exact q
    | [_], pd, q => simp [tupN, pd]; exact q
    | a :: b :: c :: r, pd, q =>
      have e : lotOf (.tup (a :: b :: c :: r)) = none := rfl
      rw [e] at q
      simp [tupN, pd, -lenD]
      rw [if_neg (by omega)]
      exact q
  | _ => simp [tupN, pd]; exact q
/-! ### what is checked -/
def lkLots : List D → Nat → Option Nat → Sum Int (Option Nat)
  | [], _, n => .inr n
  | d :: r, i, n => match lotOf d with
    | none => .inl i
    | some l => if n = none ∨ n = some l.2.length then lkLots r (i + 1) (some l.2.length) else .inl i
theorem lkLots_inr : ∀ {ds : List D} {i : Nat} {n m : Option Nat}, lkLots ds i n = .inr m → ∃ ls : List Lot, ds = ls.map lotD ∧ (∀ l ∈ ls, LotOk l ∧ m = some l.2.length) ∧ (∀ k, n = some k → m = some k)
  | [], i, n, m, h => by cases h; exact ⟨[], rfl, (fun l m => by cases m), fun k e => e⟩
  | d :: r, i, n, m, h => by
    unfold lkLots at h
    cases z : lotOf d with
    | none => rw [z] at h; cases h
    | some l =>
      rw [z] at h
      simp only at h
      obtain ⟨rfl, hl⟩ := lotOf_some z
      by_cases c : n = none ∨ n = some l.2.length
      · rw [if_pos c] at h
        obtain ⟨ls, rfl, h1, h2⟩ := lkLots_inr h
        have e := h2 _ rfl
        refine ⟨l :: ls, rfl, fun x hx => ?_, fun k hk => ?_⟩
        · rcases List.mem_cons.mp hx with rfl | hx
          · exact ⟨hl, e⟩
          · exact h1 x hx
        · rcases c with c | c
          · rw [c] at hk; cases hk
          · rw [e, ← c, hk]
      · rw [if_neg c] at h; cases h
structure LotsOk (ls : List Lot) (n : Nat) : Prop where
  len : 1 ≤ ls.length ∧ ls.length ≤ 12
  ok : ∀ l ∈ ls, LotOk l ∧ l.2.length = n
def ckL (d : D) : Sum Int (Option Nat) := match seqs d with
  | none => .inl (-1)
  | some ds => if 1 ≤ ds.length ∧ ds.length ≤ 12 then lkLots ds 0 none else .inl (-1)
theorem ckL_inr {d : D} {m : Option Nat} (h : ckL d = .inr m) : ∃ (ls : List Lot) (n : Nat), seqs d = some (ls.map lotD) ∧ m = some n ∧ LotsOk ls n := by
  unfold ckL at h
  cases z : seqs d with
  | none => rw [z] at h; cases h
  | some ds =>
    rw [z] at h
    simp only at h
    by_cases c : 1 ≤ ds.length ∧ ds.length ≤ 12
    · rw [if_pos c] at h
      obtain ⟨ls, rfl, h1, _⟩ := lkLots_inr h
      cases ls with
      | nil => simp at c
      | cons l ls =>
        have hl := h1 l List.mem_cons_self
        refine ⟨l :: ls, l.2.length, rfl, hl.2, by simpa using c, fun x hx => ⟨(h1 x hx).1, ?_⟩⟩
        have := (h1 x hx).2
        rw [hl.2] at this
        exact (Option.some.inj this).symm
    · rw [if_neg c] at h; cases h
def wantOf (n : Nat) (d : D) : Option (List Int) := match d with
  | .tup ks => if ks.length = n then rowOf 12 ks else none
  | _ => none
theorem wantOf_some {n : Nat} {d : D} {ws : List Int} (h : wantOf n d = some ws) : d = intsT ws ∧ ws.length = n ∧ ∀ x ∈ ws, 0 ≤ x ∧ x ≤ 12 := by
  unfold wantOf at h
  split at h
  · rename_i ks
    by_cases c : ks.length = n
    · rw [if_pos c] at h
      obtain ⟨rfl, h2⟩ := rowOf_some h
      exact ⟨rfl, by simpa using c, h2⟩
    · rw [if_neg c] at h; cases h
  · cases h
def fsCheck (CL CW : Addr) : ASp := fun ds M Q E => match ds with | [d, p] => puD d = true ∧ puD p = true ∧ (match ckL d with | .inl v => E CL (.int v) M | .inr n => (match wantOf (n.getD 0) p with | none => E CW p M | some _ => Q .non M)) | _ => False
theorem scChk : FnScope ["lots", "wanted", "length", "index", "lot", "one"] ["lots", "wanted"] (defScope s_check_lots) := ⟨rfl, rfl, rfl, by decide +kernel, rfl, by decide +kernel, by decide +kernel⟩
theorem check_lots {CL CW : Addr} (Z : Nm mg) (F_is_row : FnA P w K mg base T "is_row" 1 fsIsRow) (F_is_lot : FnA P w K mg base T "is_lot" 3 fsIsLot) (F_is_within : FnA P w K mg base T "is_within" 2 fsIsWithin) (F_is_tuple_of : FnA P w K mg base T "is_tuple_of" 1 fsIsTup) (E_BadLots : ErrA P w K mg base "BadLots" CL) (E_BadWanted : ErrA P w K mg base "BadWanted" CW) (F : Fun K "check_lots" "check_lots" s_check_lots f fd) (hm : mg "check_lots" = some (.ref f)) (hb : Binds K fd ["lots", "wanted"] []) : FnA P w K mg base T "check_lots" 4 (fsCheck CL CW) := by
  refine fnP F scChk hm hb (fun ds M Q E h => by unfold fsCheck at h; split at h <;> first | rfl | exact h.elim) fun cdv A outer s H E Z0 M0 Ea hr tk hp wl => ⟨_, _, (dss_cons (ds_if (dw_or (dt_not (dt_val (de_call (F_is_row.mono (by omega)) hr (da_cons (de_var 0) da_nil)))) (dw_or1 (dt_not (dt_lele de_int (de_len Z.z_len (da_cons (de_var 0) da_nil)) (de_gint Z.g_MOST_LOTS.choose_spec))))).dt (dss_one (ds_raise E_BadLots rfl (hr.mono (by omega)) tk wl (da_cons (de_neg de_int) da_nil))) dss_nil)
      (dss_cons (ds_set 2 scChk.nd de_non)
      (dss_cons (ds_for hp rfl (di_enum Z.z_enumerate (da_cons (de_var 0) da_nil)) (dg_tup (n := 2) rfl (dgs_cons (dg_name 3 scChk.nd) (dgs_cons (dg_name 4 scChk.nd) dgs_nil))) (dss_cons (ds_if (dw_or (dt_not (dt_val (de_call (F_is_lot.mono (by omega)) hr (da_cons (de_var 4) da_nil)))) (dw_or1 (dw_and (dt_notN (de_var 2)) (dw_and1 (dt_ne hr (de_len Z.z_len (da_cons (de_ix (de_var 4) de_int) da_nil)) (de_var 2)))).dt)).dt (dss_one (ds_raise E_BadLots rfl (hr.mono (by omega)) tk wl (da_cons (de_var 3) da_nil))) dss_nil)
      (dss_one (ds_set 2 scChk.nd (de_len Z.z_len (da_cons (de_ix (de_var 4) de_int) da_nil))))))
      (dss_one (ds_if (dw_or (dt_not (dt_val (de_call (F_is_tuple_of.mono (by omega)) hr (da_cons (de_var 1) (da_cons (de_var 2) da_nil))))) (dw_or1 (dt_not (dt_val (de_all rfl Z.z_all (da_cons (de_lc rfl scChk.nd [("one", 5)] (di_seq (de_var 1)) (by rfl) (fun _ _ _ _ _ => (dg_name 5 scChk.nd)) gon_name (fun _ _ _ _ _ => dts_nil) (fun _ _ _ _ _ => (de_call (F_is_within.mono (by omega)) hr (da_cons (de_var 5) (da_cons de_int (da_cons (de_gint Z.g_MOST_WANTED.choose_spec) da_nil)))))) da_nil)))))).dt (dss_one (ds_raise E_BadWanted rfl (hr.mono (by omega)) tk wl (da_cons (de_var 1) da_nil))) dss_nil))))), ?_⟩
  intro ds Q h
  unfold fsCheck at h
  split at h <;> try exact h.elim
  rename_i d p
  obtain ⟨hd, hp', q⟩ := h
  refine seq_mid (fun sl M => ∃ ds, seqs d = some ds ∧ puDs ds = true ∧ (1 ≤ ds.length ∧ ds.length ≤ 12) ∧ sl = [some (d), some (p), none, none, none, none] ∧ M0 = M) (fun E' hn hrt => ?_) ?_
  · have bad : ∀ es, seqs d = some es → ¬ (1 ≤ es.length ∧ es.length ≤ 12) → Ea CL (.int (-1)) M0 := fun es hs c => by
      unfold ckL at q
      simp only [hs, if_neg c] at q
      exact q
    have none' : seqs d = none → Ea CL (.int (-1)) M0 := fun hs => by
      unfold ckL at q
      simp only [hs] at q
      exact q
    simp [-lenD, -isSeq, hd, deref_id hd]
    cases hs : seqs d with
    | none =>
      have e : isSeq d = false := by cases z : d <;> rw [z] at hs <;> first | rfl | cases hs
      rw [e, if_neg (by decide)]
      exact none' hs
    | some es =>
      have e : isSeq d = true := by cases z : d <;> rw [z] at hs <;> first | rfl | cases hs
      have hpu : puDs es = true := by cases z : d <;> rw [z] at hs hd <;> first | (cases hs; done) | (cases hs; simpa using hd)
      rw [e, if_pos rfl]
      refine lenD_seq (deref_X (M := M0) (by rw [deref_id hd]; exact hd) (by rw [deref_id hd]; exact hs)).2.1 fun _ => ?_
      simp
      by_cases c1 : 1 ≤ es.length
      · rw [if_pos (by omega)]
        by_cases c2 : 12 < es.length
        · rw [if_pos (by omega)]; exact bad es hs (by omega)
        · rw [if_neg (by omega)]; exact hn _ _ ⟨es, hs, hpu, ⟨c1, by omega⟩, rfl, rfl⟩
      · rw [if_neg (by omega)]; exact bad es hs (by omega)
  rintro _ _ ⟨ds, hs, hpu, l1, rfl, rfl⟩
  have q0 := q
  unfold ckL at q
  simp only [hs, if_pos l1] at q
  have hX := deref_X (M := M0) (by rw [deref_id hd]; exact hd) (by rw [deref_id hd]; exact hs)
  let lenO : Option Nat → D := fun n => match n with | none => .non | some k => .int (k : Nat)
  refine seq_mid (fun sl M => sl = [some (d), some (p), some (.non), none, none, none] ∧ M0 = M) (fun E' hn hrt => ?_) ?_
  · simp
    exact hn _ _ ⟨rfl, rfl⟩
  rintro _ _ ⟨rfl, rfl⟩
  refine seq_mid (fun sl M => ∃ (n : Option Nat) (x y : Option D), lkLots ds 0 none = .inr n ∧ sl = [some (d), some (p), some (lenO n), x, y, none] ∧ M0 = M) (fun E' hn hrt => ?_) ?_
  · simp
    refine ⟨hX.2.2, ?_⟩
    rw [hX.1]
    refine forL_enum (fun i r sl M => ∃ (n : Option Nat) (x y : Option D), lkLots r i n = lkLots ds 0 none ∧ puDs r = true ∧ sl = [some (d), some (p), some (lenO n), x, y, none] ∧ M0 = M) ?_ ?_ _ _ _ _ ⟨none, _, _, rfl, hpu, rfl, rfl⟩
    · rintro i sl M ⟨n, x, y, e, _, rfl, rfl⟩
      exact ⟨hX.1, hn _ _ ⟨n, _, _, e.symm, rfl, rfl⟩⟩
    · rintro i d' r sl M k ⟨n, x, y, e, hp2, rfl, rfl⟩ hk
      rw [puDs_cons, Bool.and_eq_true] at hp2
      refine ⟨hX.1, ?_⟩
      simp [hp2.1, -lenD]
      have el : lkLots (d' :: r) i n = (match lotOf d' with
        | none => .inl i
        | some l => if n = none ∨ n = some l.2.length then lkLots r (i + 1) (some l.2.length) else .inl i) := rfl
      rw [el] at e
      cases z : lotOf d' with
      | none =>
        rw [z] at e
        rw [if_pos rfl]
        rw [← e] at q
        exact q
      | some l =>
        rw [z] at e
        simp only at e
        rw [if_neg (by simp)]
        obtain ⟨rfl, hl⟩ := lotOf_some z
        have hk := fun (h : lkLots r (i + 1) (some l.2.length) = lkLots ds 0 none) => hk [some (d), some (p), some (.int (l.2.length : Nat)), some (.int (i : Nat)), some (lotD l), none] M0 ⟨some l.2.length, _, _, h, hp2.2, rfl, rfl⟩
        have lz : ∀ (M : Store) (Q : DK), Q (.int (l.2.length : Nat)) M → lenD [intsT l.2] M Q := fun M Q q => by
          refine lenD_seq (es := l.2.map D.int) rfl fun _ => ?_
          rw [List.length_map]; exact q
        cases n with
        | none =>
          rw [if_pos (.inl rfl)] at e
          show if true = true then _ else _
          rw [if_pos rfl]
          simp [-lenD]
          exact lz _ _ (hk e)
        | some m =>
          show if false = true then _ else _
          rw [if_neg Bool.false_ne_true]
          simp [-lenD]
          refine lz _ _ ?_
          show okD 60 (derefD M0 (.int (l.2.length : Nat))) = true ∧ okD 60 (derefD M0 (.int (m : Nat))) = true ∧ _
          refine ⟨rfl, rfl, ?_⟩
          show if eqD (.int (l.2.length : Nat)) (.int (m : Nat)) = true then _ else _
          rw [eqD_int]
          by_cases c : m = l.2.length
          · rw [if_pos (decide_eq_true (by omega))]
            rw [if_pos (.inr (by rw [c]))] at e
            exact lz _ _ (hk e)
          · rw [if_neg (by rw [decide_eq_false (by omega)]; exact Bool.false_ne_true)]
            rw [if_neg (by simp [c])] at e
            rw [← e] at q
            exact ⟨Drop.refl _, q⟩
  rintro _ _ ⟨n, x, y, hbad, rfl, rfl⟩
  rw [hbad] at q
  obtain ⟨ls, rfl, h1, _⟩ := lkLots_inr hbad
  cases ls with
  | nil => simp at l1
  | cons l ls =>
    obtain ⟨hl, en⟩ := h1 l List.mem_cons_self
    subst en
    simp only [Option.getD_some] at q
    simp [hp', lenO]
    cases p with
    | tup ks =>
      have hpk : puDs ks = true := by simpa using hp'
      by_cases c : ks.length = l.2.length
      · have e1 : tupN (.tup ks) (l.2.length : Nat) = true := decide_eq_true (by omega)
        rw [if_pos e1]
        have hl := fun (Q : List D → Store → Prop) q => lcL_all (chk := fun M' => seqX M' (.tup ks) = some ks) (ag := aGName 5) (tt := aYes) (te := aCall fsIsWithin (aCons (aVar 5) (aCons (aC (D.int 0)) (aCons (aC (D.int 12)) aNil)))) (sl := [some d, some (.tup ks), some (.int (l.2.length : Nat)), x, y, none]) (Q := Q) (M := M0) id (fun d => D.bl (wiD d 0 12)) rfl ks (fun x hx k k2 hk => by simp; exact ⟨puDs_mem hpk hx, hk⟩) q
        rw [List.map_id] at hl
        refine ⟨trivial, hl _ ?_⟩
        have eb : blsOf (ks.map fun d => D.bl (wiD d 0 12)) = some (ks.map fun d => wiD d 0 12) := by
          rw [show (ks.map fun d => D.bl (wiD d 0 12)) = (ks.map fun d => wiD d 0 12).map D.bl by rw [List.map_map]; rfl, blsOf_map]
        simp only [eb]
        unfold wantOf at q
        simp only [if_pos c] at q
        have h1 := rowOf_iff (hi := 12) (ds := ks)
        cases hr : rowOf 12 ks with
        | none =>
          rw [hr] at q h1
          have h1 : (ks.all fun d => wiD d 0 12) = false := h1.symm
          rw [List.all_eq_false] at h1
          obtain ⟨x, hx, h2⟩ := h1
          rw [if_pos (List.mem_map.mpr ⟨x, hx, by simpa using h2⟩)]
          exact ⟨Drop.refl _, q⟩
        | some ns =>
          rw [hr] at q h1
          have h1 : (ks.all fun d => wiD d 0 12) = true := h1.symm
          rw [List.all_eq_true] at h1
          rw [if_neg (fun z => by
            obtain ⟨x, hx, h2⟩ := List.mem_map.mp z
            rw [h1 x hx] at h2; cases h2)]
          exact ⟨Drop.refl _, q⟩
      · have e1 : ¬ tupN (.tup ks) (l.2.length : Nat) = true := fun z => c (by have := of_decide_eq_true z; omega)
        rw [if_neg e1]
        unfold wantOf at q
        simp only [if_neg c] at q
        exact q
    | _ => exact q
/-! ### a buyer -/
@[simp] theorem cx_prog {N : List Str} {n : Str} {sc : Scope} {f : Addr} {c : Value} {A : Around} {o : List Env} {s : Shared} {H : Hp} {E : XK} : (cxOf (CX P w) P w K mg base N n sc f c A o s H E).prog = P := rfl
@[simp] theorem cx_w {N : List Str} {n : Str} {sc : Scope} {f : Addr} {c : Value} {A : Around} {o : List Env} {s : Shared} {H : Hp} {E : XK} : (cxOf (CX P w) P w K mg base N n sc f c A o s H E).w = w := rfl
abbrev buyF (d : D) (k : Addr) : List (Str × D) := [("lots", d), ("known", .ref k)]
theorem buy1 (d : D) : putFD "lots" d [] = [(("lots" : Str), d)] := rfl
theorem buy2 (d : D) (k : Addr) : putFD "known" (.ref k) [(("lots" : Str), d)] = buyF d k := by
  show (if ("lots" : Str) = "known" then _ else _) = _
  rw [if_neg (by decide)]; rfl
theorem buy_l (d : D) (k : Addr) : (buyF d k).lookup ("lots" : Str) = some d := rfl
theorem buy_k (d : D) (k : Addr) : (buyF d k).lookup ("known" : Str) = some (.ref k) := by
  have e1 : (("known" : Str) == ("lots" : Str)) = false := by decide
  have e2 : (("known" : Str) == ("known" : Str)) = true := by decide
  simp only [List.lookup, e1, e2]
theorem buy_b (d : D) (k : Addr) : (buyF d k).lookup ("best" : Str) = none := by
  have e1 : (("best" : Str) == ("lots" : Str)) = false := by decide
  have e2 : (("best" : Str) == ("known" : Str)) = false := by decide
  simp only [List.lookup, e1, e2]
structure BuyerC (K : PySem.W.Frag) (C : Addr) : Prop where
  cl : Cls K C
  nl : NoAttr K C "lots"
  nk : NoAttr K C "known"
def fsBInit (P : Program) (w : World) (CB : Addr) : ASp := fun ds M Q _ => match ds with
  | [.ref s, d] => M s = some (.ins CB []) ∧ ∀ k M', M k = none → M' s = some (.ins CB [("lots", d), ("known", .ref k)]) → M' k = some (tnC P w k []) → (∀ b, b ≠ s → b ≠ k → M' b = M b) → Q .non M'
  | _ => False
theorem scBI : FnScope ["self", "lots"] ["self", "lots"] (defScope s_binit) := ⟨rfl, rfl, rfl, by decide +kernel, rfl, by decide +kernel, by decide +kernel⟩
theorem buyer_init {CB : Addr} (B : BuyerC K CB) (F : Fun K "__init__" "Buyer.__init__" s_binit f fd) (hb : Binds K fd ["self", "lots"] []) : FnAt P w K mg base T f 1 (fsBInit P w CB) := by
  have C_Buyer := B.cl
  have N_Buyer_lots := B.nl
  have N_Buyer_known := B.nk
  refine fnEM F scBI hb (fun ds M Q E h => by unfold fsBInit at h; split at h <;> first | rfl | exact h.elim) fun cdv A outer s H E Z0 M0 Ea hr tk hp wl => ⟨_, _, (dss_cons (ds_fld C_Buyer N_Buyer_lots (de_var 0) (de_var 1))
      (dss_one (ds_fld C_Buyer N_Buyer_known (de_var 0) de_N0))), ?_⟩
  intro ds Q h
  unfold fsBInit at h
  split at h <;> try exact h.elim
  rename_i s d
  obtain ⟨hs, q⟩ := h
  simp [hs, buy1]
  intro k hk
  have nks : k ≠ s := fun z => by rw [z, updS_at] at hk; cases hk
  refine ⟨[("lots", d)], by rw [updS_ne nks.symm, updS_at], by show 1 < 1000; decide, _, Drop.refl _, q k _ (by rw [updS_ne nks] at hk; exact hk) ?_ ?_ fun b h1 h2 => ?_⟩
  · rw [updS_at, buy2]
  · rw [updS_ne nks, updS_at]
  · rw [updS_ne h1, updS_ne h2, updS_ne h1]
/-! ### best -/
def ansD : Ans → D
  | none => .non
  | some x => vrD x
def keyP (i : Int) (ws : List Int) : D := .tup [.int i, intsT ws]
theorem keyN_ints : ∀ ws : List Int, keyNs (ws.map D.int) = ws.map NestedKey.num
  | [] => rfl
  | x :: ws => by rw [List.map_cons, List.map_cons, keyNs, keyN_ints ws]; rfl
theorem keyN_P (i : Int) (ws : List Int) : keyN (keyP i ws) = .tup [.num i, .tup (ws.map .num)] := by
  show NestedKey.tup (keyNs [.int i, intsT ws]) = _
  rw [keyNs, keyNs, keyNs]
  show NestedKey.tup [.num i, .tup (keyNs (ws.map D.int))] = _
  rw [keyN_ints]
theorem okK_ints : ∀ ws : List Int, okKs (ws.map D.int) = true
  | [] => rfl
  | x :: ws => by rw [List.map_cons, okKs, okK_ints ws]; rfl
theorem depth_nums : ∀ ws : List Int, NestedKey.depthAll (ws.map NestedKey.num) = 0
  | [] => rfl
  | x :: ws => by rw [List.map_cons, NestedKey.depthAll, depth_nums ws]; rfl
theorem keyP_ok (i : Int) (ws : List Int) : KeyD (keyP i ws) := ⟨⟨_, rfl⟩, by
  show okKs [.int i, .tup (ws.map D.int)] = true
  rw [okKs, okKs, okKs]
  show (true && (okKs (ws.map D.int) && true)) = true
  rw [okK_ints]; rfl, by
  rw [keyN_P]
  show NestedKey.depthAll [.num i, .tup (ws.map .num)] + 1 ≤ 8
  rw [NestedKey.depthAll, NestedKey.depthAll, NestedKey.depthAll]
  show max 0 (max (NestedKey.depthAll (ws.map .num) + 1) 0) + 1 ≤ 8
  rw [depth_nums]; decide⟩
theorem keyP_inj {i j : Int} {ws vs : List Int} (h : keyN (keyP i ws) = keyN (keyP j vs)) : i = j ∧ ws = vs := by
  rw [keyN_P, keyN_P] at h
  injection h with h
  injection h with h1 h2
  injection h1 with h1
  injection h2 with h2 _
  injection h2 with h2
  exact ⟨h1, (List.map_inj_right fun x y e => by injection e).mp h2⟩
/-- what is noted is right -/
def Memo (ls : List Lot) (es : List (D × D)) : Prop := ∀ e ∈ es, ∃ (j : Nat) (vs : List Int), e = (keyP j vs, ansD (bestS (ls.drop j) j vs))
theorem Memo.keys {ls : List Lot} {es : List (D × D)} (h : Memo ls es) : OkE es := fun e m => by
  obtain ⟨j, vs, rfl⟩ := h e m
  exact keyP_ok j vs
theorem Memo.look {ls : List Lot} {es : List (D × D)} (h : Memo ls es) {i : Nat} {ws : List Int} {x : D} (e : lookN es (keyP i ws) = some x) : x = ansD (bestS (ls.drop i) i ws) := by
  unfold lookN at e
  cases z : es.find? (fun e => decide (keyN e.1 = keyN (keyP i ws))) with
  | none => rw [z] at e; cases e
  | some y =>
    rw [z] at e
    cases e
    obtain ⟨j, vs, rfl⟩ := h y (List.mem_of_find?_eq_some z)
    have := List.find?_some z
    obtain ⟨h1, h2⟩ := keyP_inj (of_decide_eq_true this)
    obtain rfl : j = i := by omega
    subst h2
    rfl
theorem look_none {es : List (D × D)} {d : D} (h : ∀ e ∈ es, keyN e.1 ≠ keyN d) : lookN es d = none := by
  unfold lookN
  rw [List.find?_eq_none.mpr fun e m => by simpa using h e m]; rfl
theorem look_new {es : List (D × D)} {d x : D} (h : ∀ e ∈ es, keyN e.1 ≠ keyN d) : lookN (es ++ [(d, x)]) d = some x := by
  unfold lookN
  rw [List.find?_append, List.find?_eq_none.mpr fun e m => by simpa using h e m]
  simp
theorem look_some {es : List (D × D)} {d : D} (h : lookN es d = none) : ∀ e ∈ es, keyN e.1 ≠ keyN d := fun e m z => by
  unfold lookN at h
  have := List.find?_eq_none.mp (Option.map_eq_none_iff.mp h) e m
  exact this (decide_eq_true z)
theorem minDef_vr {M : Store} {d f : D} {xs : List (Int × List Int)} {Q : DK} (h : seqL M d = some (xs.map vrD)) (q0 : xs = [] → Q f M) (q : ∀ m ∈ xs, (∀ x ∈ xs, ¬ vrLt x m) → Q (vrD m) M) : minDefA [d] [f] M Q := by
  unfold minDefA
  simp only [h]
  refine ⟨okDs_of fun y m => ?_, vr_alike xs, fun e => q0 (List.map_eq_nil_iff.mp e), fun e es he y hy hm => ?_⟩
  · obtain ⟨z, _, rfl⟩ := List.mem_map.mp m
    simp [vrD]
  · cases xs with
    | nil => cases he
    | cons x l =>
      obtain ⟨rfl, rfl⟩ := List.cons.inj he
      obtain ⟨m, h1, h2, h3⟩ := minD_G vrD vrLt vr_lt vr_tr vr_nt l x
      rw [h1] at hm
      obtain ⟨z, _, rfl⟩ := List.mem_map.mp hy
      rw [vr_inj _ _ hm]
      exact q m h2 h3
theorem vr_eq {x y : Int × List Int} (h1 : ¬ vrLt x y) (h2 : ¬ vrLt y x) : x = y := by
  unfold vrLt at h1 h2
  simp only [not_or, not_and] at h1 h2
  have e1 : x.1 = y.1 := by omega
  have l1 := h1.2 e1
  have l2 := h2.2 e1.symm
  exact Prod.ext e1 (List.le_antisymm (List.not_lt.mp l2) (List.not_lt.mp l1))
theorem two_min {a b : Ans} {m : Int × List Int} (h : m ∈ a.toList ++ b.toList) (hm : ∀ x ∈ a.toList ++ b.toList, ¬ vrLt x m) : two a b = some m := by
  cases a with
  | none =>
    cases b with
    | none => cases h
    | some y => simp at h; subst h; rfl
  | some x =>
    cases b with
    | none => simp at h; subst h; rfl
    | some y =>
      have hx := hm x (by simp)
      have hy := hm y (by simp)
      show (if vrLt y x then some y else some x) = some m
      simp at h
      by_cases c : vrLt y x
      · rw [if_pos c]
        rcases h with rfl | rfl
        · exact absurd c hy
        · rfl
      · rw [if_neg c]
        rcases h with rfl | rfl
        · rfl
        · rw [vr_eq hx c]
theorem two_none {a b : Ans} (h : a.toList ++ b.toList = []) : two a b = none := by
  cases a <;> cases b <;> first | rfl | cases h
def fsBest (P : Program) (w : World) (CB : Addr) (n : Nat) : ASp := fun ds M Q _ => match ds with
  | [.ref s, .int i', dw] => ∃ (d : D) (ls : List Lot) (i : Nat) (ws : List Int) (k : Addr) (es : List (D × D)), i' = i ∧ dw = intsT ws ∧ M s = some (.ins CB (buyF d k)) ∧ M k = some (tnC P w k es) ∧ seqs d = some (ls.map lotD) ∧ puD d = true ∧ ls.length ≤ 12 ∧ i + n = ls.length ∧
      (∀ l ∈ ls, LotOk l ∧ l.2.length = ws.length) ∧ (∀ x ∈ ws, 0 ≤ x ∧ x ≤ 12) ∧ Memo ls es ∧ es.length + 2 ^ (n + 1) ≤ 10000 ∧
      ∀ (es' : List (D × D)) (M' : Store), M' k = some (tnC P w k es') → (∀ b, b ≠ k → M' b = M b) → Memo ls es' → (∀ e ∈ es', e ∈ es ∨ ∃ (j : Nat) (vs : List Int), i ≤ j ∧ e.1 = keyP j vs) → es'.length + 1 ≤ es.length + 2 ^ (n + 1) → Q (ansD (bestS (ls.drop i) i ws)) M'
  | _ => False
theorem aIf_mid {c : ATT} {t e : ATS} {E : AEnds} {sl : SL} {M : Store} (b : Bool) (M1 : Store) (hc : ∀ Q : Bool → Store → Prop, Q b M1 → c sl M Q) (h : if b = true then t E sl M1 else e E sl M1) : aIf c t e E sl M := hc _ h
theorem zipD_map {α β : Type} (f : α → D) (g : β → D) : ∀ (xs : List α) (ys : List β), zipD (xs.map f) (ys.map g) = (xs.zip ys).map fun p => D.tup [f p.1, g p.2]
  | [], _ => rfl
  | _ :: _, [] => rfl
  | x :: xs, y :: ys => by
    show .tup [f x, g y] :: zipD (xs.map f) (ys.map g) = _
    rw [zipD_map f g xs ys]; rfl
theorem ixD_s {M : Store} {d x : D} {es : List D} {i : Int} {Q : DK} (h : seqs d = some es) (hx : atI es i = some x) (q : Q x M) : ixD d (.int i) M Q := by
  cases d with
  | lst xs => cases h; rw [ixD_lst, hx]; exact q
  | tup xs => cases h; rw [ixD_tup, hx]; exact q
  | _ => cases h
def fsBestN (P : Program) (w : World) (CB : Addr) (N : Nat) : ASp := fun ds M Q E => ∃ n, n ≤ N ∧ fsBest P w CB n ds M Q E
def fsNo : ASp := fun _ _ _ _ => False
theorem scBest : FnScope ["self", "index", "wanted", "price", "many", "less", "rows", "bought", "passed", "one", "other"] ["self", "index", "wanted"] (defScope s_best) := ⟨rfl, rfl, rfl, by decide +kernel, rfl, by decide +kernel, by decide +kernel⟩
theorem best0 (F : Fun K "best" "Buyer.best" s_best f fd) (hb : Binds K fd ["self", "index", "wanted"] []) : FnAt P w K mg base T f 1 fsNo :=
  fnPM F scBest hb (fun ds M Q E h => h.elim) fun cdv A outer s H E Z0 M0 Ea hr tk hp wl => ⟨_, _, dss_never, fun ds Q h => h.elim⟩
theorem best1 {CB : Addr} {N kk : Nat} {fs : ASp} (Z : Nm mg) (B : BuyerC K CB) (M_Buyer_best : Meth K CB "best" f) (F_Buyer_best : FnAt P w K mg base T f kk fs) (hfs0 : ∀ n ds M Q E, n ≤ N → n ≠ 0 → fsBest P w CB (n - 1) ds M Q E → fs ds M Q E) (F : Fun K "best" "Buyer.best" s_best f fd) (hb : Binds K fd ["self", "index", "wanted"] []) : FnAt P w K mg base T f (kk + 1) (fsBestN P w CB N) := by
  have C_Buyer := B.cl
  have N_Buyer_lots := B.nl
  have N_Buyer_known := B.nk
  refine fnEM F scBest hb (fun ds M Q E h => by obtain ⟨n, _, h⟩ := h; unfold fsBest at h; split at h <;> first | rfl | exact h.elim) fun cdv A outer s H E Z0 M0 Ea hr tk hp wl => ⟨_, _, (dss_cons (ds_if (dt_eq hr (de_var 1) (de_len Z.z_len (da_cons (de_fld C_Buyer N_Buyer_lots (de_var 0)) da_nil))) (dss_one (ds_ret (de_ifexp (dt_eq hr (de_sumA rfl Z.z_sum (da_cons (de_var 2) da_nil)) de_int) (de_tup (da_cons de_int (da_cons (de_tup da_nil) da_nil))) de_non))) dss_nil)
      (dss_cons (ds_if (dt_ninN hr (de_tup (da_cons (de_var 1) (da_cons (de_var 2) da_nil))) (de_fld C_Buyer N_Buyer_known (de_var 0))) (dss_cons (ds_asg (de_ix (de_fld C_Buyer N_Buyer_lots (de_var 0)) (de_var 1)) (dg_tup (n := 2) rfl (dgs_cons (dg_name 3 scBest.nd) (dgs_cons (dg_name 4 scBest.nd) dgs_nil))))
      (dss_cons (ds_set 5 scBest.nd (de_tupc Z.z_tuple (da_cons (de_lc rfl scBest.nd [("one", 9), ("other", 10)] (di_zip Z.z_zip (da_cons (de_var 2) (da_cons (de_var 4) da_nil))) (by rfl) (fun _ _ _ _ _ => (dg_tup (n := 2) rfl (dgs_cons (dg_name 9 scBest.nd) (dgs_cons (dg_name 10 scBest.nd) dgs_nil)))) (gon_tup (gson_cons gon_name (gson_cons gon_name gson_nil))) (fun _ _ _ _ _ => dts_nil) (fun _ _ _ _ _ => (de_max2 rfl Z.z_max (da_cons de_int (da_cons (de_sub (de_var 9) (de_var 10)) da_nil))))) da_nil)))
      (dss_cons (ds_set 6 scBest.nd (de_lstC da_nil))
      (dss_cons (ds_set 7 scBest.nd (de_methX (Wa := fun _ _ _ _ => False) C_Buyer M_Buyer_best (F_Buyer_best.mono (by omega)) hr L2.takes0 WL.no (de_var 0) (da_cons (de_add (de_var 1) de_int) (da_cons (de_var 5) da_nil))))
      (dss_cons (ds_if (dt_notN (de_var 7)) (dss_one (ds_expr (de_app (de_var 6) (da_cons (de_tup (da_cons (de_add (de_var 3) (de_ix (de_var 7) de_int)) (da_cons (de_tupS (de_var 1) (de_ix (de_var 7) de_int)) da_nil))) da_nil)))) dss_nil)
      (dss_cons (ds_set 8 scBest.nd (de_methX (Wa := fun _ _ _ _ => False) C_Buyer M_Buyer_best (F_Buyer_best.mono (by omega)) hr L2.takes0 WL.no (de_var 0) (da_cons (de_add (de_var 1) de_int) (da_cons (de_var 2) da_nil))))
      (dss_cons (ds_if (dt_notN (de_var 8)) (dss_one (ds_expr (de_app (de_var 6) (da_cons (de_var 8) da_nil)))) dss_nil)
      (dss_one (ds_nput hr (de_fld C_Buyer N_Buyer_known (de_var 0)) (de_tup (da_cons (de_var 1) (da_cons (de_var 2) da_nil))) (de_minDef rfl hr Z.z_min (da_cons (de_var 6) da_nil) de_non)))))))))) dss_nil)
      (dss_one (ds_ret (de_getN hr (de_fld C_Buyer N_Buyer_known (de_var 0)) (de_tup (da_cons (de_var 1) (da_cons (de_var 2) da_nil)))))))), ?_⟩
  intro ds Q h
  obtain ⟨n, hnN, h⟩ := h
  have hfs := fun ds M Q E => hfs0 n ds M Q E hnN
  unfold fsBest at h
  split at h <;> try exact h.elim
  rename_i sf i' dw
  obtain ⟨d, ls, i, ws, k, es, rfl, rfl, hS, hK, hd, pd, l12, hin, hls, hws, memo, hlen, q⟩ := h
  have hX := fun M => deref_X (M := M) (by rw [deref_id pd]; exact pd) (by rw [deref_id pd]; exact hd)
  have qq : ∀ (es' : List (D × D)) (M : Store), M k = some (tnC P w k es') → (∀ b c, b ≠ k → M0 b = some c → M b = some c) → Memo ls es' → (∀ e ∈ es', e ∈ es ∨ ∃ (j : Nat) (vs : List Int), i ≤ j ∧ e.1 = keyP j vs) → es'.length + 1 ≤ es.length + 2 ^ (n + 1) → ∃ Mf, Drop M Mf ∧ Q (ansD (bestS (ls.drop i) i ws)) Mf := fun es' M h1 h2 h3 h4 h5 => by
    refine ⟨fun b => if b = k then M b else M0 b, fun b => ?_, q es' _ (by simp only [if_pos rfl]; exact h1) (fun b hb => by simp only [if_neg hb]) h3 h4 h5⟩
    by_cases c : b = k
    · exact .inl (by simp only [if_pos c])
    · simp only [if_neg c]
      cases z : M0 b with
      | none => exact .inr rfl
      | some x => exact .inl (h2 b x c z).symm
  have p1 : 1 ≤ 2 ^ n := Nat.one_le_two_pow
  have p2 : 2 ^ (n + 1) = 2 * 2 ^ n := by rw [Nat.pow_succ]; omega
  have qs := qq es M0 hK (fun b c _ h => h) memo (fun e m => .inl m) (by omega)
  have nks : sf ≠ k := fun z => by rw [z, hK] at hS; cases hS
  refine seq_mid (fun sl M => i < ls.length ∧ sl = [some (.ref sf), some (.int (i : Nat)), some (intsT ws), none, none, none, none, none, none, none, none] ∧ M0 = M) (fun E' hn hrt => ?_) ?_
  · simp [hS, buy_l, -lenD]
    refine lenD_seq (hX M0).2.1 fun _ => ?_
    simp
    by_cases c : i = ls.length
    · rw [if_pos (by omega)]
      have e0 : ls.drop i = [] := List.drop_eq_nil_of_le (by omega)
      rw [e0] at qs
      unfold bestS at qs
      have e1 : (seqA M0 (intsT ws)).bind intsOf = some ws := intsOf_map ws
      rw [e1]
      simp only
      by_cases c2 : ws.sum = 0
      · rw [if_pos c2] at qs ⊢; rw [hrt]; exact qs
      · rw [if_neg c2] at qs ⊢; rw [hrt]; exact qs
    · rw [if_neg (by omega)]
      exact hn _ _ ⟨by omega, rfl, rfl⟩
  rintro _ _ ⟨il, rfl, rfl⟩
  refine seq_mid (fun sl M => ∃ (es' : List (D × D)) (x1 x2 x3 x4 x5 x6 : Option D), lookN es' (keyP i ws) = some (ansD (bestS (ls.drop i) i ws)) ∧ sl = [some (.ref sf), some (.int (i : Nat)), some (intsT ws), x1, x2, x3, x4, x5, x6, none, none] ∧ M k = some (tnC P w k es') ∧ (∀ b c, b ≠ k → M0 b = some c → M b = some c) ∧ Memo ls es' ∧ (∀ e ∈ es', e ∈ es ∨ ∃ (j : Nat) (vs : List Int), i ≤ j ∧ e.1 = keyP j vs) ∧ es'.length + 1 ≤ es.length + 2 ^ (n + 1)) (fun E' hn hrt => ?_) ?_
  rotate_left
  · rintro _ M ⟨es', x1, x2, x3, x4, x5, x6, hl, rfl, h1, h2, h3, h4, h5⟩
    have hS' := h2 sf _ nks hS
    simp [hS', buy_k]
    exact ⟨k, es', _, rfl, h1, h3.keys, keyP_ok i ws, hl, qq es' M h1 h2 h3 h4 h5⟩
  refine aIf_mid (!(lookN es (keyP i ws)).isSome) M0 (fun Q q => by simp [hS, buy_k]; exact ⟨k, es, rfl, hK, memo.keys, keyP_ok i ws, q⟩) ?_
  cases hlk : lookN es (keyP i ws) with
  | some x =>
    rw [if_neg (by simp)]
    have ex := memo.look hlk
    simp
    exact hn _ _ ⟨es, _, _, _, _, _, _, by rw [hlk, ex], rfl, hK, fun b c _ h => h, memo, fun e m => .inl m, by omega⟩
  | none =>
    rw [if_pos (show (!(none : Option D).isSome) = true from rfl)]
    obtain ⟨m, rfl⟩ : ∃ m, n = m + 1 := ⟨n - 1, by omega⟩
    have hls1 := hls _ (List.getElem_mem il)
    have hat : atI (ls.map lotD) ((i : Nat) : Int) = some (lotD ls[i]) := atI_map (List.getElem?_eq_getElem il)
    have edr : ls.drop i = ls[i] :: ls.drop (i + 1) := List.drop_eq_getElem_cons il
    generalize ls[i] = l at hls1 hat edr
    obtain ⟨hlo, hll⟩ := hls1
    refine seq_mid (fun sl M => sl = [some (.ref sf), some (.int (i : Nat)), some (intsT ws), some (.int l.1), some (intsT l.2), none, none, none, none, none, none] ∧ M0 = M) (fun E2 hn2 _ => ?_) ?_
    · simp [hS, buy_l]
      refine ixD_s hd hat ?_
      simp
      exact hn2 _ _ ⟨rfl, rfl⟩
    rintro _ _ ⟨rfl, rfl⟩
    refine seq_mid (fun sl M => sl = [some (.ref sf), some (.int (i : Nat)), some (intsT ws), some (.int l.1), some (intsT l.2), some (intsT (less ws l.2)), none, none, none, none, none] ∧ M0 = M) (fun E2 hn2 _ => ?_) ?_
    · simp
      refine ⟨⟨trivial, trivial⟩, ?_⟩
      have e1 : ∀ vs : List Int, seqX M0 (intsT vs) = some (vs.map D.int) := fun vs => rfl
      simp only [e1, zipD_map]
      refine lcL_all (fun p : Int × Int => D.tup [.int p.1, .int p.2]) (fun p => D.int (max 0 (p.1 - p.2))) ⟨rfl, rfl⟩ (ws.zip l.2) (fun p hp k4 k5 hk4 => by simp; exact hk4) ?_
      exact hn2 _ _ ⟨by unfold less intsT; rw [List.map_map]; rfl, rfl⟩
    rintro _ _ ⟨rfl, rfl⟩
    have hlz : (less ws l.2).length = ws.length := less_len hll.symm
    have hln : ∀ x ∈ less ws l.2, 0 ≤ x ∧ x ≤ 12 := fun x hx => by
      obtain ⟨p, hp, rfl⟩ := List.mem_map.mp hx
      have h1 := hws _ (List.of_mem_zip hp).1
      have h2 := hlo.m _ (List.of_mem_zip hp).2
      show 0 ≤ max 0 (p.1 - p.2) ∧ max 0 (p.1 - p.2) ≤ 12
      omega
    refine seq_mid (fun sl M => ∃ a : Addr, M0 a = none ∧ sl = [some (.ref sf), some (.int (i : Nat)), some (intsT ws), some (.int l.1), some (intsT l.2), some (intsT (less ws l.2)), some (.ref a), none, none, none, none] ∧ M = updS M0 a (.lst [])) (fun E2 hn2 _ => ?_) ?_
    · simp
      exact fun a ha => hn2 _ _ ⟨a, ha, rfl, rfl⟩
    rintro _ M1 ⟨a, ha, rfl, rfl⟩
    have nak : a ≠ k := fun z => by rw [z, hK] at ha; cases ha
    have nas : a ≠ sf := fun z => by rw [z, hS] at ha; cases ha
    have hl2 : ∀ l2 ∈ ls, LotOk l2 ∧ l2.2.length = (less ws l.2).length := fun l2 h => by rw [hlz]; exact hls l2 h
    have p3 : 2 ^ (m + 1 + 1) = 2 * 2 ^ (m + 1) := by rw [Nat.pow_succ]; omega
    have p4 : 1 ≤ 2 ^ (m + 1) := Nat.one_le_two_pow
    have ei : ((i : Int) + 1) = ((i + 1 : Nat) : Int) := by omega
    refine seq_mid (fun sl M => ∃ es1 : List (D × D), sl = [some (.ref sf), some (.int (i : Nat)), some (intsT ws), some (.int l.1), some (intsT l.2), some (intsT (less ws l.2)), some (.ref a), some (ansD (bestS (ls.drop (i + 1)) ((i : Nat) + 1) (less ws l.2))), none, none, none] ∧ M k = some (tnC P w k es1) ∧ M a = some (.lst []) ∧ (∀ b c, b ≠ k → M0 b = some c → M b = some c) ∧ Memo ls es1 ∧ (∀ e ∈ es1, e ∈ es ∨ ∃ (j : Nat) (vs : List Int), i + 1 ≤ j ∧ e.1 = keyP j vs) ∧ es1.length + 1 ≤ es.length + 2 ^ (m + 1)) (fun E2 hn2 _ => ?_) ?_
    · simp [updS_ne nas.symm, hS, -List.lookup_eq_none_iff]
      refine ⟨buy_b d k, hfs _ _ _ _ (by omega) ⟨d, ls, i + 1, less ws l.2, k, es, ei, rfl, by rw [updS_ne nas.symm]; exact hS, by rw [updS_ne nak.symm]; exact hK, hd, pd, l12, by show i + 1 + m = ls.length; omega, hl2, hln, memo, by show es.length + 2 ^ (m + 1) ≤ 10000; omega, fun es1 M2 g1 g2 g3 g4 g5 => ?_⟩⟩
      rw [← ei]
      refine hn2 _ _ ⟨es1, rfl, g1, by rw [g2 a nak, updS_at], fun b c hb hc => ?_, g3, g4, g5⟩
      have nb : b ≠ a := fun z => by rw [z, ha] at hc; cases hc
      rw [g2 b hb, updS_ne nb]; exact hc
    rintro _ M2 ⟨es1, rfl, g1, g2, g3, g4, g5, g6⟩
    generalize hA1 : bestS (ls.drop (i + 1)) ((i : Nat) + 1) (less ws l.2) = A1
    have lA1 : ∀ x, A1 = some x → x.2.length ≤ 12 := fun x e => by
      have := bestS_len (hA1.trans e)
      rw [List.length_drop] at this
      omega
    refine seq_mid (fun sl M => sl = [some (.ref sf), some (.int (i : Nat)), some (intsT ws), some (.int l.1), some (intsT l.2), some (intsT (less ws l.2)), some (.ref a), some (ansD A1), none, none, none] ∧ M k = some (tnC P w k es1) ∧ M a = some (.lst ((A1.map fun p => (l.1 + p.1, ((i : Nat) : Int) :: p.2)).toList.map vrD)) ∧ (∀ b c, b ≠ k → M0 b = some c → M b = some c)) (fun E2 hn2 _ => ?_) ?_
    · cases A1 with
      | none =>
        simp [ansD]
        exact hn2 _ _ ⟨rfl, g1, g2, g3⟩
      | some x =>
        have lx := lA1 x rfl
        have sz : (sizeLine : Nat) = 16777216 := sizeLine_eq
        simp [ansD, vrD, g2]
        refine ⟨by omega, by omega, hn2 _ _ ⟨rfl, by rw [updS_ne nak.symm]; exact g1, by rw [updS_at]; rfl, fun b c hb hc => ?_⟩⟩
        have nb : b ≠ a := fun z => by rw [z, ha] at hc; cases hc
        rw [updS_ne nb]; exact g3 b c hb hc
    rintro _ M3 ⟨rfl, f1, f2, f3⟩
    refine seq_mid (fun sl M => ∃ es2 : List (D × D), sl = [some (.ref sf), some (.int (i : Nat)), some (intsT ws), some (.int l.1), some (intsT l.2), some (intsT (less ws l.2)), some (.ref a), some (ansD A1), some (ansD (bestS (ls.drop (i + 1)) ((i : Nat) + 1) ws)), none, none] ∧ M k = some (tnC P w k es2) ∧ M a = some (.lst ((A1.map fun p => (l.1 + p.1, ((i : Nat) : Int) :: p.2)).toList.map vrD)) ∧ (∀ b c, b ≠ k → M0 b = some c → M b = some c) ∧ Memo ls es2 ∧ (∀ e ∈ es2, e ∈ es ∨ ∃ (j : Nat) (vs : List Int), i + 1 ≤ j ∧ e.1 = keyP j vs) ∧ es2.length + 1 ≤ es1.length + 2 ^ (m + 1)) (fun E2 hn2 _ => ?_) ?_
    · have hS3 := f3 sf _ nks hS
      simp [hS3, -List.lookup_eq_none_iff]
      refine ⟨buy_b d k, hfs _ _ _ _ (by omega) ⟨d, ls, i + 1, ws, k, es1, ei, rfl, hS3, f1, hd, pd, l12, by show i + 1 + m = ls.length; omega, hls, hws, g4, by show es1.length + 2 ^ (m + 1) ≤ 10000; omega, fun es2 M4 h1 h2 h3 h4 h5 => ?_⟩⟩
      rw [← ei]
      refine hn2 _ _ ⟨es2, rfl, h1, by rw [h2 a nak]; exact f2, fun b c hb hc => by rw [h2 b hb]; exact f3 b c hb hc, h3, fun e m => ?_, h5⟩
      rcases h4 e m with h | h
      · exact g5 e h
      · exact .inr h
    rintro _ M4 ⟨es2, rfl, h1, h2, h3, h4, h5, h6⟩
    generalize hA2 : bestS (ls.drop (i + 1)) ((i : Nat) + 1) ws = A2
    have etwo : bestS (ls.drop i) i ws = two (A1.map fun p => (l.1 + p.1, ((i : Nat) : Int) :: p.2)) A2 := by
      rw [edr]
      unfold bestS
      rw [hA1, hA2]
    generalize hA3 : (A1.map fun p => (l.1 + p.1, ((i : Nat) : Int) :: p.2)) = A3 at h2 etwo
    have lA3 : A3.toList.length ≤ 1 := by cases A3 <;> simp
    refine seq_mid (fun sl M => sl = [some (.ref sf), some (.int (i : Nat)), some (intsT ws), some (.int l.1), some (intsT l.2), some (intsT (less ws l.2)), some (.ref a), some (ansD A1), some (ansD A2), none, none] ∧ M k = some (tnC P w k es2) ∧ M a = some (.lst ((A3.toList ++ A2.toList).map vrD)) ∧ (∀ b c, b ≠ k → M0 b = some c → M b = some c)) (fun E2 hn2 _ => ?_) ?_
    · cases A2 with
      | none =>
        simp [ansD]
        exact hn2 _ _ ⟨rfl, h1, by simpa using h2, h3⟩
      | some x =>
        have sz : (sizeLine : Nat) = 16777216 := sizeLine_eq
        simp [ansD, h2]
        rw [if_neg (show ¬ AL.isNon (vrD x) = true from Bool.false_ne_true)]
        refine ⟨by omega, hn2 _ _ ⟨by cases A1 <;> rfl, by rw [updS_ne nak.symm]; exact h1, by rw [updS_at, List.map_append]; rfl, fun b c hb hc => ?_⟩⟩
        have nb : b ≠ a := fun z => by rw [z, ha] at hc; cases hc
        rw [updS_ne nb]; exact h3 b c hb hc
    rintro _ M5 ⟨rfl, e1, e2, e3⟩
    have hS5 := e3 sf _ nks hS
    simp [hS5, buy_k]
    have sz : (sizeLine : Nat) = 16777216 := sizeLine_eq
    have hnew : ∀ e ∈ es2, keyN e.1 ≠ keyN (keyP i ws) := fun e m z => by
      rcases h5 e m with h | ⟨j, vs, hj, e1⟩
      · exact look_some hlk e h z
      · rw [e1] at z
        have := (keyP_inj z).1
        omega
    have fin : ∀ v : D, v = ansD (bestS (ls.drop i) i ws) → ∃ fs,
      M5 sf = some (Cell.ins CB fs) ∧
        ∃ x,
          List.lookup ("known" : Str) fs = some x ∧
            ∃ c,
              x = D.ref c ∧
                ∃ x,
                  M5 c = some (tnC P w c x) ∧
                    OkE x ∧
                      KeyD (D.tup [D.int i, intsT ws]) ∧
                        lookN x (D.tup [D.int i, intsT ws]) = none ∧
                          x.length < sizeLine ∧
                            E'.nx [some (.ref sf), some (.int (i : Nat)), some (intsT ws), some (.int l.1), some (intsT l.2), some (intsT (less ws l.2)), some (.ref a), some (ansD A1), some (ansD A2), none, none]
                              (updS M5 c (tnC P w c (x ++ [(D.tup [D.int i, intsT ws], v)]))) := fun v ev => by
      refine ⟨_, hS5, _, buy_k d k, k, rfl, es2, e1, h4.keys, keyP_ok i ws, look_none hnew, by omega, hn _ _ ⟨es2 ++ [(keyP i ws, v)], _, _, _, _, _, _, ?_, rfl, updS_at, fun b c hb hc => ?_, fun e me => ?_, fun e me => ?_, ?_⟩⟩
      · rw [look_new hnew, ev]
      · rw [updS_ne hb]; exact e3 b c hb hc
      · rcases List.mem_append.mp me with me | me
        · exact h4 e me
        · exact ⟨i, ws, by rw [List.mem_singleton.mp me, ev]⟩
      · rcases List.mem_append.mp me with me | me
        · rcases h5 e me with h | ⟨j, vs, hj, e1⟩
          · exact .inl h
          · exact .inr ⟨j, vs, by omega, e1⟩
        · exact .inr ⟨i, ws, Nat.le_refl _, by rw [List.mem_singleton.mp me]⟩
      · rw [List.length_append, List.length_singleton]; omega
    refine minDef_vr (xs := A3.toList ++ A2.toList) (by rw [seqL_ref e2]) (fun e0 => ?_) fun x hx hmin => ?_
    · exact fin _ (by rw [etwo, two_none e0]; rfl)
    · exact fin _ (by rw [etwo, two_min hx hmin]; rfl)
theorem best {CB : Addr} (Z : Nm mg) (B : BuyerC K CB) (M_Buyer_best : Meth K CB "best" f) (F : Fun K "best" "Buyer.best" s_best f fd) (hb : Binds K fd ["self", "index", "wanted"] []) : ∀ n, FnAt P w K mg base T f (n + 2) (fsBestN P w CB n)
  | 0 => best1 Z B M_Buyer_best (best0 F hb) (fun n _ _ _ _ h0 h => absurd (Nat.le_zero.mp h0) h) F hb
  | n + 1 => best1 Z B M_Buyer_best (best Z B M_Buyer_best F hb n) (fun k ds M Q E h0 h1 h => ⟨k - 1, by omega, h⟩) F hb
/-! ### the cheapest -/
def fsCheap (CL CW : Addr) : ASp := fun ds M Q E => match ds with | [d, p] => puD d = true ∧ puD p = true ∧ (match ckL d with | .inl v => E CL (.int v) M | .inr n => (match wantOf (n.getD 0) p with | none => E CW p M | some ws => ∀ ls : List Lot, seqs d = some (ls.map lotD) → Q (ansD (bestS ls 0 ws)) M)) | _ => False
theorem scCheap : FnScope ["lots", "wanted"] ["lots", "wanted"] (defScope s_cheapest_lots) := ⟨rfl, rfl, rfl, by decide +kernel, rfl, by decide +kernel, by decide +kernel⟩
theorem cheapest_lots {CL CW CB fI fB : Addr} (Z : Nm mg) (F_check_lots : FnA P w K mg base T "check_lots" 4 (fsCheck CL CW)) (B : BuyerC K CB) (MK_Buyer : Mk K CB fI) (m_Buyer : mg "Buyer" = some (.ref CB)) (F_Buyer___init__ : FnAt P w K mg base T fI 1 (fsBInit P w CB)) (M_Buyer_best : Meth K CB "best" fB) (F_Buyer_best : FnAt P w K mg base T fB 14 (fsBestN P w CB 12)) (F : Fun K "cheapest_lots" "cheapest_lots" s_cheapest_lots f fd) (hm : mg "cheapest_lots" = some (.ref f)) (hb : Binds K fd ["lots", "wanted"] []) : FnA P w K mg base T "cheapest_lots" 15 (fsCheap CL CW) := by
  have C_Buyer := B.cl
  refine fnP F scCheap hm hb (fun ds M Q E h => by unfold fsCheap at h; split at h <;> first | rfl | exact h.elim) fun cdv A outer s H E Z0 M0 Ea hr tk hp wl => ⟨_, _, (dss_cons (ds_expr (de_callX (F_check_lots.mono (by omega)) hr tk wl (da_cons (de_var 0) (da_cons (de_var 1) da_nil))))
      (dss_one (ds_ret (de_methX (Wa := fun _ _ _ _ => False) C_Buyer M_Buyer_best (F_Buyer_best.mono (by omega)) hr L2.takes0 WL.no (de_makeX (Wa := fun _ _ _ _ => False) MK_Buyer (F_Buyer___init__.mono (by omega)) hr m_Buyer L2.takes0 WL.no (da_cons (de_var 0) da_nil)) (da_cons de_int (da_cons (de_var 1) da_nil)))))), ?_⟩
  intro ds Q h
  unfold fsCheap at h
  split at h <;> try exact h.elim
  rename_i d p
  obtain ⟨pd, pp, q⟩ := h
  simp [-List.lookup_eq_none_iff]
  refine ⟨pd, pp, ?_⟩
  cases hc : ckL d with
  | inl v => rw [hc] at q; exact ⟨Drop.refl _, q⟩
  | inr n =>
    rw [hc] at q
    obtain ⟨ls, m, hd, rfl, hok⟩ := ckL_inr hc
    simp only [Option.getD_some] at q ⊢
    cases hw : wantOf m p with
    | none => rw [hw] at q; exact ⟨Drop.refl _, q⟩
    | some ws =>
      rw [hw] at q
      have q1 := q ls hd
      obtain ⟨rfl, lw, hws⟩ := wantOf_some hw
      simp only
      intro x hx
      refine ⟨updS_at, fun k M1 hk h1 h2 h3 => ⟨rfl, buyF d k, h1, buy_b d k, ls.length, hok.len.2, d, ls, 0, ws, k, [], rfl, rfl, h1, h2, hd, pd, hok.len.2, Nat.zero_add _, fun l hl => by rw [lw]; exact hok.ok l hl, hws, (fun e m => by cases m), ?_, fun es' M2 g1 g2 g3 g4 g5 => ⟨fun b => ?_, q1⟩⟩⟩
      · show 0 + 2 ^ (ls.length + 1) ≤ 10000
        have : 2 ^ (ls.length + 1) ≤ 2 ^ 13 := Nat.pow_le_pow_right (by decide) (by have := hok.len.2; omega)
        omega
      · have nkx : k ≠ x := fun z => by rw [z, updS_at] at hk; cases hk
        have hk0 : M0 k = none := by rw [updS_ne nkx] at hk; exact hk
        by_cases c1 : b = k
        · exact .inr (by rw [c1]; exact hk0)
        · by_cases c2 : b = x
          · exact .inr (by rw [c2]; exact hx)
          · exact .inl (by rw [g2 b c1, h3 b c2 c1, updS_ne c2])
/-! ### what is over -/
def adj (ns : List Int) : Bool := (ns.zip (ns.drop 1)).all fun p => decide (p.1 < p.2)
theorem asc_adj : ∀ {ns : List Int}, Asc ns → adj ns = true
  | [], _ => rfl
  | [_], _ => rfl
  | x :: y :: r, h => by
    have h1 := List.pairwise_cons.mp h
    have ih := asc_adj h1.2
    show (decide (x < y) && adj (y :: r)) = true
    rw [ih, decide_eq_true (h1.1 y List.mem_cons_self)]; rfl
def bghtOf (n : Nat) : D → Option (List Int)
  | .tup ks => (match rowOf (n - 1 : Int) ks with | some ns => if adj ns = true then some ns else none | none => none)
  | _ => none
theorem bghtOf_some {n : Nat} {d : D} {ns : List Int} (h : bghtOf n d = some ns) : d = intsT ns ∧ ∀ x ∈ ns, 0 ≤ x ∧ x ≤ (n : Int) - 1 := by
  unfold bghtOf at h
  split at h
  · rename_i ks
    cases z : rowOf ((n : Int) - 1) ks with
    | none => rw [z] at h; cases h
    | some ms =>
      rw [z] at h
      simp only at h
      by_cases c : adj ms = true
      · rw [if_pos c] at h
        cases h
        obtain ⟨rfl, h2⟩ := rowOf_some z
        exact ⟨rfl, h2⟩
      · rw [if_neg c] at h; cases h
  · cases h
def overL (ls : List Lot) (ws bs : List Int) : List Int := (List.range ws.length).map fun k => got ls 0 bs k - ws.getD k 0
theorem enumI_get {α : Type} : ∀ (xs : List α) (k i : Nat), (enumI k xs)[i]? = xs[i]?.map fun x => (k + i, x)
  | [], _, _ => rfl
  | x :: r, k, 0 => rfl
  | x :: r, k, i + 1 => by
    show (enumI (k + 1) r)[i]? = r[i]?.map _
    rw [enumI_get r (k + 1) i]
    congr 1
    funext y
    rw [show k + 1 + i = k + (i + 1) by omega]
theorem over_enum (ls : List Lot) (ws bs : List Int) : (enumI 0 ws).map (fun p => D.int (got ls 0 bs p.1 - p.2)) = (overL ls ws bs).map D.int := by
  refine List.ext_getElem? fun i => ?_
  unfold overL
  rw [List.getElem?_map, enumI_get, List.getElem?_map, List.getElem?_map]
  by_cases c : i < ws.length
  · rw [List.getElem?_eq_getElem c, List.getElem?_range c]
    simp [List.getElem?_eq_getElem c]
  · rw [List.getElem?_eq_none (by omega), List.getElem?_eq_none (by simpa using c)]; rfl
def fsOver (CL CW CB : Addr) : ASp := fun ds M Q E => match ds with | [d, p, b] => puD d = true ∧ puD p = true ∧ puD b = true ∧ (match ckL d with | .inl v => E CL (.int v) M | .inr n => (match wantOf (n.getD 0) p with | none => E CW p M | some ws => ∀ ls : List Lot, seqs d = some (ls.map lotD) → (match bghtOf ls.length b with | none => E CB b M | some bs => Q (intsT (overL ls ws bs)) M))) | _ => False
theorem scOver : FnScope ["lots", "wanted", "bought", "one", "other", "kind", "many", "index"] ["lots", "wanted", "bought"] (defScope s_lots_over) := ⟨rfl, rfl, rfl, by decide +kernel, rfl, by decide +kernel, by decide +kernel⟩
theorem lots_over {CL CW CB : Addr} (Z : Nm mg) (F_check_lots : FnA P w K mg base T "check_lots" 4 (fsCheck CL CW)) (F_is_within : FnA P w K mg base T "is_within" 2 fsIsWithin) (E_BadBought : ErrA P w K mg base "BadBought" CB) (F : Fun K "lots_over" "lots_over" s_lots_over f fd) (hm : mg "lots_over" = some (.ref f)) (hb : Binds K fd ["lots", "wanted", "bought"] []) : FnA P w K mg base T "lots_over" 5 (fsOver CL CW CB) := by
  refine fnP F scOver hm hb (fun ds M Q E h => by unfold fsOver at h; split at h <;> first | rfl | exact h.elim) fun cdv A outer s H E Z0 M0 Ea hr tk hp wl => ⟨_, _, (dss_cons (ds_expr (de_callX (F_check_lots.mono (by omega)) hr tk wl (da_cons (de_var 0) (da_cons (de_var 1) da_nil))))
      (dss_cons (ds_if (dw_or (dt_not (dt_val (de_isi .tuple Z.z_isinstance Z.z_tuple (de_var 2)))) (dw_or1 (dt_not (dt_val (de_all rfl Z.z_all (da_cons (de_lc rfl scOver.nd [("one", 3)] (di_seq (de_var 2)) (by rfl) (fun _ _ _ _ _ => (dg_name 3 scOver.nd)) gon_name (fun _ _ _ _ _ => dts_nil) (fun _ _ _ _ _ => (de_call (F_is_within.mono (by omega)) hr (da_cons (de_var 3) (da_cons de_int (da_cons (de_sub (de_len Z.z_len (da_cons (de_var 0) da_nil)) de_int) da_nil)))))) da_nil)))))).dt (dss_one (ds_raise E_BadBought rfl (hr.mono (by omega)) tk wl (da_cons (de_var 2) da_nil))) dss_nil)
      (dss_cons (ds_if (dt_not (dt_val (de_all rfl Z.z_all (da_cons (de_lc rfl scOver.nd [("one", 3), ("other", 4)] (di_zip Z.z_zip (da_cons (de_var 2) (da_cons (de_slice (de_var 2) (do_some de_int) do_none) da_nil))) (by rfl) (fun _ _ _ _ _ => (dg_tup (n := 2) rfl (dgs_cons (dg_name 3 scOver.nd) (dgs_cons (dg_name 4 scOver.nd) dgs_nil)))) (gon_tup (gson_cons gon_name (gson_cons gon_name gson_nil))) (fun _ _ _ _ _ => dts_nil) (fun _ _ _ _ _ => (de_lt (de_var 3) (de_var 4)))) da_nil)))) (dss_one (ds_raise E_BadBought rfl (hr.mono (by omega)) tk wl (da_cons (de_var 2) da_nil))) dss_nil)
      (dss_one (ds_ret (de_tupc Z.z_tuple (da_cons (de_lc rfl scOver.nd [("kind", 5), ("many", 6)] (di_enum Z.z_enumerate (da_cons (de_var 1) da_nil)) (by rfl) (fun _ _ _ _ _ => (dg_tup (n := 2) rfl (dgs_cons (dg_name 5 scOver.nd) (dgs_cons (dg_name 6 scOver.nd) dgs_nil)))) (gon_tup (gson_cons gon_name (gson_cons gon_name gson_nil))) (fun _ _ _ _ _ => dts_nil) (fun _ _ _ _ _ => (de_sub (de_sumA rfl Z.z_sum (da_cons (de_lc rfl scOver.nd [("index", 7)] (di_seq (de_var 2)) (by rfl) (fun _ _ _ _ _ => (dg_name 7 scOver.nd)) gon_name (fun _ _ _ _ _ => dts_nil) (fun _ _ _ _ _ => (de_ix (de_ix (de_ix (de_var 0) (de_var 7)) de_int) (de_var 5)))) da_nil)) (de_var 6)))) da_nil))))))), ?_⟩
  intro ds Q h
  unfold fsOver at h
  split at h <;> try exact h.elim
  rename_i d p b
  obtain ⟨pd, pp, pb, q⟩ := h
  refine seq_mid (fun sl M => ∃ (ls : List Lot) (m : Nat) (ws : List Int), seqs d = some (ls.map lotD) ∧ ckL d = .inr (some m) ∧ LotsOk ls m ∧ wantOf m p = some ws ∧ sl = [some (d), some (p), some (b), none, none, none, none, none] ∧ M0 = M) (fun E' hn hrt => ?_) ?_
  · simp
    refine ⟨pd, pp, ?_⟩
    cases hc : ckL d with
    | inl v => rw [hc] at q; exact ⟨Drop.refl _, q⟩
    | inr n =>
      rw [hc] at q
      obtain ⟨ls, m, hd, rfl, hok⟩ := ckL_inr hc
      simp only [Option.getD_some] at q ⊢
      cases hw : wantOf m p with
      | none => rw [hw] at q; exact ⟨Drop.refl _, q⟩
      | some ws => exact hn _ _ ⟨ls, m, ws, hd, hc, hok, hw, rfl, rfl⟩
  rintro _ _ ⟨ls, m, ws, hd, hc, hok, hw, rfl, rfl⟩
  rw [hc] at q
  simp only [Option.getD_some, hw] at q
  have q1 := q ls hd
  obtain ⟨rfl, lw, hws⟩ := wantOf_some hw
  have hX := fun M => deref_X (M := M) (by rw [deref_id pd]; exact pd) (by rw [deref_id pd]; exact hd)
  have nil' : bghtOf ls.length b = none → Ea CB b M0 := fun e => by rw [e] at q1; exact q1
  refine seq_mid (fun sl M => ∃ ks, b = .tup ks ∧ (∀ x ∈ ks, wiD x 0 ((ls.length : Nat) - 1 : Int) = true) ∧ sl = [some (d), some (intsT ws), some (b), none, none, none, none, none] ∧ M0 = M) (fun E' hn hrt => ?_) ?_
  · simp [-lenD]
    cases b with
    | tup ks =>
      have hpk : puDs ks = true := by simpa using pb
      show if true = true then _ else _
      rw [if_pos rfl]
      have hl := fun (Q : List D → Store → Prop) q => lcL_all (chk := fun M' => seqX M' (.tup ks) = some ks) (ag := aGName 3) (tt := aYes) (te := aCall fsIsWithin (aCons (aVar 3) (aCons (aC (D.int 0)) (aCons (aOp subD (aCB lenD (aCons (aVar 0) aNil)) (aC (D.int 1))) aNil)))) (sl := [some d, some (intsT ws), some (.tup ks), none, none, none, none, none]) (Q := Q) (M := M0) id (fun d => D.bl (wiD d 0 ((ls.length : Nat) - 1 : Int))) rfl ks (fun x hx k k2 hk => by
        simp [-lenD]
        refine lenD_seq (hX M0).2.1 fun _ => ?_
        rw [List.length_map]
        simp
        exact ⟨puDs_mem hpk hx, hk⟩) q
      rw [List.map_id] at hl
      refine ⟨trivial, hl _ ?_⟩
      have eb : blsOf (ks.map fun d => D.bl (wiD d 0 ((ls.length : Nat) - 1 : Int))) = some (ks.map fun d => wiD d 0 ((ls.length : Nat) - 1 : Int)) := by
        rw [show (ks.map fun d => D.bl (wiD d 0 ((ls.length : Nat) - 1 : Int))) = (ks.map fun d => wiD d 0 ((ls.length : Nat) - 1 : Int)).map D.bl by rw [List.map_map]; rfl, blsOf_map]
      simp only [eb]
      by_cases c : ∀ x ∈ ks, wiD x 0 ((ls.length : Nat) - 1 : Int) = true
      · rw [if_neg (fun z => by
          obtain ⟨x, hx, h2⟩ := List.mem_map.mp z
          rw [c x hx] at h2; cases h2)]
        exact hn _ _ ⟨ks, rfl, c, rfl, rfl⟩
      · have : false ∈ ks.map fun d => wiD d 0 ((ls.length : Nat) - 1 : Int) := by
          simp only [Classical.not_forall] at c
          obtain ⟨x, hx, h2⟩ := c
          exact List.mem_map.mpr ⟨x, hx, by simpa using h2⟩
        rw [if_pos this]
        refine ⟨Drop.refl _, nil' ?_⟩
        unfold bghtOf
        have h1 := rowOf_iff (hi := ((ls.length : Nat) - 1 : Int)) (ds := ks)
        cases z : rowOf ((ls.length : Nat) - 1 : Int) ks with
        | none => simp only [z]
        | some ns =>
          rw [z] at h1
          have h1 : (ks.all fun d => wiD d 0 ((ls.length : Nat) - 1 : Int)) = true := h1.symm
          exact absurd (List.all_eq_true.mp h1) c
    | dic _ => cases pb
    | ref _ => cases pb
    | _ => exact nil' rfl
  rintro _ _ ⟨ks, rfl, hk, rfl, rfl⟩
  obtain ⟨bs, rfl, hbs⟩ := rowOf_all hk
  have ebg : bghtOf ls.length (.tup (bs.map D.int)) = if adj bs = true then some bs else none := by
    unfold bghtOf
    simp only [rowOf_ints hbs]
  refine seq_mid (fun sl M => adj bs = true ∧ sl = [some (d), some (intsT ws), some (intsT bs), none, none, none, none, none] ∧ M0 = M) (fun E' hn hrt => ?_) ?_
  · simp
    have ec : AL.cutD (bs.map D.int) (some 1) none = (bs.drop 1).map D.int := by rw [cutD_map, cutL_from _ (by decide)]; rfl
    rw [ec, zipD_map]
    refine lcL_all (fun p : Int × Int => D.tup [.int p.1, .int p.2]) (fun p => D.bl (decide (p.1 < p.2))) trivial (bs.zip (bs.drop 1)) (fun p hp k4 k5 hk4 => by simp; exact hk4) ?_
    have eb : blsOf ((bs.zip (bs.drop 1)).map fun p => D.bl (decide (p.1 < p.2))) = some ((bs.zip (bs.drop 1)).map fun p => decide (p.1 < p.2)) := by
      rw [show ((bs.zip (bs.drop 1)).map fun p => D.bl (decide (p.1 < p.2))) = ((bs.zip (bs.drop 1)).map fun p => decide (p.1 < p.2)).map D.bl by rw [List.map_map]; rfl, blsOf_map]
    simp only [eb]
    by_cases c : adj bs = true
    · rw [if_neg (fun z => by
        obtain ⟨x, hx, h2⟩ := List.mem_map.mp z
        unfold adj at c
        rw [List.all_eq_true] at c
        rw [c x hx] at h2; cases h2)]
      exact hn _ _ ⟨c, rfl, rfl⟩
    · have : false ∈ (bs.zip (bs.drop 1)).map fun p => decide (p.1 < p.2) := by
        have c : adj bs = false := by simpa using c
        unfold adj at c
        rw [List.all_eq_false] at c
        obtain ⟨x, hx, h2⟩ := c
        exact List.mem_map.mpr ⟨x, hx, by simpa using h2⟩
      rw [if_pos this]
      refine ⟨Drop.refl _, nil' ?_⟩
      rw [ebg, if_neg c]
  rintro _ _ ⟨hadj, rfl, rfl⟩
  rw [ebg, if_pos hadj] at q1
  simp
  refine ⟨trivial, ?_⟩
  have e1 : seqX M0 (intsT ws) = some (ws.map D.int) := rfl
  simp only [e1, enumD_map]
  refine lcL_all (fun p : Nat × Int => D.tup [.int (p.1 : Nat), .int p.2]) (fun p => D.int (got ls 0 bs p.1 - p.2)) e1 (enumI 0 ws) (fun p hp k4 k5 hk4 => ?_) ?_
  · obtain ⟨j, hj, hx⟩ := enumI_mem hp
    rw [Nat.zero_add] at hj
    obtain ⟨k, x⟩ := p
    simp only at hj hx hk4
    subst hj
    have hjw : k < ws.length := by
      rcases Nat.lt_or_ge k ws.length with c | c
      · exact c
      · rw [List.getElem?_eq_none c] at hx; cases hx
    simp
    refine ⟨trivial, ?_⟩
    have e2 : seqX M0 (intsT bs) = some (bs.map D.int) := rfl
    simp only [e2]
    refine lcL_all D.int (fun b => D.int ((ls.getD (b - 0).toNat (0, [])).2.getD k 0)) e2 bs (fun b hb k6 k7 hk6 => ?_) ?_
    · have hb := hbs b hb
      obtain ⟨n, rfl⟩ := Int.eq_ofNat_of_zero_le hb.1
      have hn : n < ls.length := by omega
      have e3 : ls.getD n (0, []) = ls[n] := by simp [List.getElem?_eq_getElem hn]
      have hl := (hok.ok _ (List.getElem_mem hn)).2
      rw [Int.sub_zero, Int.toNat_natCast, e3] at hk6
      simp
      refine ixD_s hd (atI_map (List.getElem?_eq_getElem hn)) ?_
      simp
      have e4 : ls[n].2.getD k 0 = ls[n].2[k]'(by omega) := by simp [List.getElem?_eq_getElem (show k < ls[n].2.length by omega)]
      rw [e4] at hk6
      unfold intsT
      rw [ixD_tup, show atI (ls[n].2.map D.int) ((k : Nat) : Int) = some (.int (ls[n].2[k]'(by omega))) from atI_map (List.getElem?_eq_getElem (by omega))]
      exact hk6
    · rw [show (bs.map fun b => D.int ((ls.getD (b - 0).toNat (0, [])).2.getD k 0)) = (bs.map fun b => (ls.getD (b - 0).toNat (0, [])).2.getD k 0).map D.int by rw [List.map_map]; rfl, intsOf_map]
      have e5 : (bs.map fun b => (ls.getD (b - 0).toNat (0, [])).2.getD k 0).sum = got ls 0 bs k := by
        unfold got sel
        rw [List.map_map]; rfl
      simp only [e5]
      exact hk4
  · rw [over_enum]
    exact ⟨Drop.refl _, q1⟩
end
end K37
set_option Elab.async false
set_option linter.all false
set_option maxRecDepth 100000
set_option maxHeartbeats 4000000
set_option autoImplicit false
/-! M37b: the law's own trial. -/
namespace K37
open AL
theorem asc_snoc {q : List Int} {x : Int} (h : Asc q) (hx : ∀ y ∈ q, y < x) : Asc (q ++ [x]) := List.pairwise_append.mpr ⟨h, List.pairwise_singleton _ _, fun a ha b hb => by rw [List.mem_singleton.mp hb]; exact hx a ha⟩
theorem mem_subR : ∀ {n : Nat} {p : List Int}, p ∈ subR n ↔ Plc n 0 p
  | 0, p => by
    show p ∈ [[]] ↔ _
    rw [List.mem_singleton]
    constructor
    · rintro rfl; exact ⟨List.Pairwise.nil, fun k m => by cases m⟩
    · rintro ⟨_, h⟩
      cases p with
      | nil => rfl
      | cons x r => have := h x List.mem_cons_self; omega
  | n + 1, p => by
    show p ∈ subR n ++ (subR n).map (fun p => p ++ [((n : Nat) : Int)]) ↔ _
    rw [List.mem_append, List.mem_map]
    constructor
    · rintro (h | ⟨q, h, rfl⟩)
      · obtain ⟨h1, h2⟩ := mem_subR.mp h
        exact ⟨h1, fun k m => by have := h2 k m; omega⟩
      · obtain ⟨h1, h2⟩ := mem_subR.mp h
        refine ⟨asc_snoc h1 fun y hy => by have := h2 y hy; omega, fun k m => ?_⟩
        rcases List.mem_append.mp m with m | m
        · have := h2 k m; omega
        · rw [List.mem_singleton.mp m]; omega
    · rintro ⟨h1, h2⟩
      by_cases c : ((n : Nat) : Int) ∈ p
      · refine .inr ?_
        obtain ⟨a, b, rfl⟩ := List.append_of_mem c
        have hp := List.pairwise_append.mp h1
        have hb : b = [] := by
          cases b with
          | nil => rfl
          | cons y r =>
            have := (List.pairwise_cons.mp hp.2.1).1 y List.mem_cons_self
            have := h2 y (by simp)
            omega
        subst hb
        refine ⟨a, mem_subR.mpr ⟨hp.1, fun k m => ?_⟩, rfl⟩
        have := hp.2.2 k m n List.mem_cons_self
        have := h2 k (List.mem_append_left _ m)
        omega
      · refine .inl (mem_subR.mpr ⟨h1, fun k m => ?_⟩)
        have := h2 k m
        have : k ≠ n := fun z => c (z ▸ m)
        omega
/-- the least good one of some parts -/
structure BestOf (ls : List Lot) (w : List Int) (S : List (List Int)) (a : Ans) : Prop where
  yes : ∀ x, a = some x → x.2 ∈ S ∧ Enough ls 0 w x.2 ∧ x.1 = cost ls 0 x.2 ∧ ∀ p ∈ S, Enough ls 0 w p → ¬ vrLt (cost ls 0 p, p) x
  no : a = none → ∀ p ∈ S, ¬ Enough ls 0 w p
theorem BestOf.start (ls : List Lot) (w : List Int) : BestOf ls w [] none := ⟨(fun x e => by cases e), fun _ p m => by cases m⟩
theorem BestOf.fin {ls : List Lot} {w : List Int} {a : Ans} (h : BestOf ls w (subL ls.length) a) : Least ls 0 w a := ⟨fun x e => by
  obtain ⟨h1, h2, h3, h4⟩ := h.yes x e
  exact ⟨mem_subR.mp (mem_subL.mp h1), h2, h3, fun p hp => h4 p (mem_subL.mpr (mem_subR.mpr hp))⟩, fun e p hp => h.no e p (mem_subL.mpr (mem_subR.mpr hp))⟩
theorem BestOf.skip {ls : List Lot} {w : List Int} {S : List (List Int)} {a : Ans} {p : List Int} (h : BestOf ls w S a) (n : ¬ Enough ls 0 w p) : BestOf ls w (S ++ [p]) a := ⟨fun x e => by
  obtain ⟨h1, h2, h3, h4⟩ := h.yes x e
  refine ⟨List.mem_append_left _ h1, h2, h3, fun q hq he => ?_⟩
  rcases List.mem_append.mp hq with hq | hq
  · exact h4 q hq he
  · rw [List.mem_singleton.mp hq] at he; exact absurd he n, fun e q hq => by
  rcases List.mem_append.mp hq with hq | hq
  · exact h.no e q hq
  · rw [List.mem_singleton.mp hq]; exact n⟩
theorem BestOf.keep {ls : List Lot} {w : List Int} {S : List (List Int)} {x : Int × List Int} {p : List Int} (h : BestOf ls w S (some x)) (n : ¬ vrLt (cost ls 0 p, p) x) : BestOf ls w (S ++ [p]) (some x) := ⟨fun y e => by
  cases e
  obtain ⟨h1, h2, h3, h4⟩ := h.yes x rfl
  refine ⟨List.mem_append_left _ h1, h2, h3, fun q hq he => ?_⟩
  rcases List.mem_append.mp hq with hq | hq
  · exact h4 q hq he
  · rw [List.mem_singleton.mp hq]; exact n, fun e => by cases e⟩
theorem vr_irr (x : Int × List Int) : ¬ vrLt x x := by
  unfold vrLt
  simp only [not_or, not_and]
  exact ⟨by omega, fun _ => List.lt_irrefl _⟩
theorem BestOf.take {ls : List Lot} {w : List Int} {S : List (List Int)} {a : Ans} {p : List Int} (h : BestOf ls w S a) (g : Enough ls 0 w p) (l : ∀ x, a = some x → vrLt (cost ls 0 p, p) x) : BestOf ls w (S ++ [p]) (some (cost ls 0 p, p)) := ⟨fun y e => by
  cases e
  refine ⟨by simp, g, rfl, fun q hq he => ?_⟩
  rcases List.mem_append.mp hq with hq | hq
  · cases a with
    | none => exact absurd he (h.no rfl q hq)
    | some x => exact fun z => (h.yes x rfl).2.2.2 q hq he (vr_tr _ _ _ z (l x rfl))
  · rw [List.mem_singleton.mp hq]; exact vr_irr _, fun e => by cases e⟩
theorem over_enough {ls : List Lot} {w p : List Int} (h0 : w ≠ []) : Enough ls 0 w p ↔ ∀ x ∈ overL ls w p, 0 ≤ x := by
  unfold Enough overL
  constructor
  · intro h x hx
    obtain ⟨k, hk, rfl⟩ := List.mem_map.mp hx
    have := h k (List.mem_range.mp hk)
    omega
  · intro h k hk
    have := h _ (List.mem_map.mpr ⟨k, List.mem_range.mpr hk, rfl⟩)
    omega
end K37
set_option Elab.async false
set_option linter.all false
set_option maxRecDepth 100000
set_option maxHeartbeats 4000000
set_option autoImplicit false
/-! L37: the law. -/
namespace K37
open PySem PySem.Spec PyProof.Rows L2 LamX AL
section
variable {P : Program} {w : World} {K : PySem.W.Frag} {mg : Str → Option Value} {base : Heap} {T : List (Addr × Str)} {f : Addr} {fd : FuncData}
abbrev s_law_taken : Stmt := (top 22)
theorem scDraw : FnScope ["row", "many", "found", "cell"] ["row", "many"] (defScope s_law_taken) := ⟨rfl, rfl, rfl, by decide +kernel, rfl, by decide +kernel, by decide +kernel⟩
theorem law_taken (Z : Nm mg) (F : Fun K "_law_taken" "_law_taken" s_law_taken f fd) (hm : mg "_law_taken" = some (.ref f)) (hb : Binds K fd ["row", "many"] []) : FnA P w K mg base T "_law_taken" 1 fsDraw := by
  refine ⟨f, fd, _, hm, F.kp, hb, F.okX scDraw (fun vs H Q E h => ?_) fun cdv A outer s H vs Q E hr h => ?_⟩
  · obtain ⟨Z1, M, ds, Qa, Ea, rh, r, h, _⟩ := h
    rw [r.length]
    unfold fsDraw at h; split at h <;> first | rfl | exact h.elim
  · obtain ⟨r, sc, n, ns, i, s0, t, rfl, n0, n1, hr0, i0, sl, su, hS, hS2, fin⟩ := row_open h
    refine ⟨_, (show DSs ⟨T, fun _ => false, H, fun _ => none⟩ _ _ _ _ from (dss_cons (ds_if (dt_gt (de_ix (de_var 0) de_int) de_int) (dss_cons (ds_set 2 scDraw.nd (de_mod (de_intc Z.z_int (da_cons (de_ix (de_var 0) de_int) da_nil)) (de_var 1)))
      (dss_cons (ds_asg (de_fdiv (de_ix (de_var 0) de_int) (de_var 1)) (dg_subL (de_var 0) de_int))
      (dss_one (ds_ret (de_var 2))))) dss_nil)
      (dss_cons (ds_asg (de_add (de_ix (de_var 0) de_int) de_int) (dg_subL (de_var 0) de_int))
      (dss_cons (ds_if (dt_gt (de_ix (de_var 0) de_int) (de_len Z.z_len (da_cons (de_ix (de_var 0) de_int) da_nil))) (dss_cons (ds_asg (de_mod (de_intc Z.z_int (da_cons (de_add (de_mul (de_ix (de_var 0) de_int) de_int) de_int) da_nil)) de_int) (dg_subL (de_var 0) de_int))
      (dss_one (ds_ret (de_mod (de_intc Z.z_int (da_cons (de_fdiv (de_ix (de_var 0) de_int) de_int) da_nil)) (de_var 1))))) dss_nil)
      (dss_cons (ds_set 3 scDraw.nd (de_ix (de_ix (de_var 0) de_int) (de_sub (de_ix (de_var 0) de_int) de_int)))
      (dss_cons (ds_asg (de_mod (de_intc Z.z_int (da_cons (de_add (de_add (de_mul (de_ix (de_var 0) de_int) de_int) (de_var 3)) de_int) da_nil)) de_int) (dg_subL (de_var 0) de_int))
      (dss_cons (ds_if (dt_ge (de_var 3) (de_pow de_int de_int)) (dss_one (ds_asg (de_fdiv (de_var 3) (de_var 1)) (dg_subL (de_var 0) de_int))) dss_nil)
      (dss_one (ds_ret (de_mod (de_intc Z.z_int (da_cons (de_var 3) da_nil)) (de_var 1))))))))))).ps, ?_⟩
    have m1 : CMulW s0 48271 := wide_mul (a := 32) (b := 16) (by omega) (by decide) (by decide) (by decide) (by decide)
    have dn : ∀ x, CDivW x n := fun x => wide_div (b := 64) n0 (by omega) (by decide) (by decide)
    simp only [tSeq, tIfS, tB, tAsg, tRet, tNext, gName, tVar, tC, tCons, tNil, tCB, tOp, rI0, rI, gSub]
    refine ⟨_, rfl, ixr hr0 rfl ⟨_, _, rfl, rfl, _, rfl, ?_⟩⟩
    refine ite2 (fun c => ?_) (fun c => ?_)
    · refine ⟨_, rfl, ixr hr0 rfl (intr' ⟨_, rfl, _, _, rfl, rfl, n0, _, rfl, ixr hr0 rfl ⟨_, rfl, _, _, rfl, rfl, dn _, _, rfl, setr hr0 rfl ⟨_, rfl, ?_⟩⟩⟩)⟩
      exact fin _ i s0 _ (Int.emod_nonneg _ (by omega)) (Int.emod_lt_of_pos _ n0) i0 sl su
    · refine ⟨_, rfl, ixr hr0 rfl (addr' ⟨_, rfl, setr hr0 rfl ?_⟩)⟩
      have sA := hS2 (i + 1) s0 t (by omega) sl su
      refine ⟨_, rfl, ixr upd_same rfl ⟨_, rfl, ixr upd_same rfl ⟨_, _, rfl, .inl ⟨_, sA, rfl⟩, _, _, rfl, rfl, _, rfl, ?_⟩⟩⟩
      refine ite2 (fun c2 => ?_) (fun c2 => ?_)
      · refine ⟨_, rfl, ixr upd_same rfl (mulr m1 (addr' (intr' ⟨_, _, rfl, rfl, by decide, _, rfl, setr upd_same rfl ?_⟩)))⟩
        refine ⟨_, rfl, ixr upd_same rfl ⟨_, _, rfl, rfl, ⟨by decide, by decide⟩, intr' ⟨_, rfl, _, _, rfl, rfl, n0, ?_⟩⟩⟩
        rw [upd_upd]
        have := Int.emod_lt_of_pos (s0 * 48271 + 11) (show (0 : Int) < 2147483647 by decide)
        exact fin _ (i + 1) _ t (Int.emod_nonneg _ (by omega)) (Int.emod_lt_of_pos _ n0) (by omega) (Int.emod_nonneg _ (by decide)) (by omega)
      · have c3 : ¬ (i + 1 > ((ns.map V.int).length : Int)) := fun z => c2 (decide_eq_true z)
        rw [List.length_map] at c3
        have hlt : i.toNat < ns.length := by omega
        obtain ⟨cell, hc⟩ : ∃ cell, ns[i.toNat]? = some cell := ⟨_, List.getElem?_eq_getElem hlt⟩
        have hat : atI (ns.map V.int) (i + 1 - 1) = some (.int cell) := by
          rw [show i + 1 - 1 = ((i.toNat : Nat) : Int) from by omega, atI_ofNat, List.getElem?_map, hc]; rfl
        refine ⟨_, rfl, ixr upd_same rfl ⟨_, rfl, ixr upd_same rfl ⟨_, _, rfl, rfl, ixs sA hat ?_⟩⟩⟩
        refine ⟨_, rfl, ixr upd_same rfl (mulr m1 ⟨_, rfl, addr' (addr' (intr' ⟨_, _, rfl, rfl, by decide, _, rfl, setr upd_same rfl ?_⟩))⟩)⟩
        rw [upd_upd]
        have lt := Int.emod_lt_of_pos (s0 * 48271 + cell + 11) (show (0 : Int) < 2147483647 by decide)
        refine ⟨_, rfl, _, _, rfl, rfl, ⟨by decide, by decide, by decide⟩, _, _, rfl, rfl, _, rfl, ?_⟩
        refine ite2 (fun c4 => ?_) (fun c4 => ?_)
        · refine ⟨_, rfl, _, rfl, _, _, rfl, rfl, dn _, _, rfl, setr upd_same rfl ?_⟩
          rw [upd_upd]
          exact ⟨_, rfl, intr' ⟨_, rfl, _, _, rfl, rfl, n0, fin _ (i + 1) _ _ (Int.emod_nonneg _ (by omega)) (Int.emod_lt_of_pos _ n0) (by omega) (Int.emod_nonneg _ (by decide)) (by omega)⟩⟩
        · exact ⟨_, rfl, intr' ⟨_, rfl, _, _, rfl, rfl, n0, fin _ (i + 1) _ _ (Int.emod_nonneg _ (by omega)) (Int.emod_lt_of_pos _ n0) (by omega) (Int.emod_nonneg _ (by decide)) (by omega)⟩⟩

abbrev s_law_pick : Stmt := (top 23)
theorem scPick : FnScope ["row", "some"] ["row", "some"] (defScope s_law_pick) := ⟨rfl, rfl, rfl, by decide +kernel, rfl, by decide +kernel, by decide +kernel⟩
theorem law_pick (Z : Nm mg) (F__law_taken : FnA P w K mg base T "_law_taken" 1 fsDraw) (F : Fun K "_law_pick" "_law_pick" s_law_pick f fd) (hm : mg "_law_pick" = some (.ref f)) (hb : Binds K fd ["row", "some"] []) : FnA P w K mg base T "_law_pick" 2 fsPick := by
  refine fnP F scPick hm hb (fun ds M Q E h => by unfold fsPick at h; split at h <;> first | rfl | exact h.elim) fun cdv A outer s H E Z0 M0 Ea hr tk hp wl => ⟨_, _, (dss_one (ds_ret (de_ix (de_var 1) (de_call (F__law_taken.mono (by omega)) hr (da_cons (de_var 0) (da_cons (de_len Z.z_len (da_cons (de_var 1) da_nil)) da_nil)))))), ?_⟩
  intro ds Q h
  unfold fsPick at h
  split at h <;> try exact h.elim
  rename_i r d
  obtain ⟨hM, es, hs, h0, q⟩ := h
  simp only [aRet, aOp, aVar, aCall, aCons, aNil, aCB, startD, List.map_cons, List.map_nil, List.length_cons, List.length_nil, List.cons_append, List.nil_append, slotD_z, slotD_s]
  exact lenD_seq hs fun hl => ⟨hM, by omega, line64 hl, fun x x0 x1 => ixD_seq hs x0 x1 fun y m => ⟨Drop.refl _, q y m⟩⟩

abbrev s_law_alike : Stmt := (top 24)
theorem scAlike : FnScope ["found", "due", "k", "key"] ["found", "due"] (defScope s_law_alike) := ⟨rfl, rfl, rfl, by decide +kernel, rfl, by decide +kernel, by decide +kernel⟩
theorem law_alike0 (F : Fun K "_law_alike" "_law_alike" s_law_alike f fd) (hm : mg "_law_alike" = some (.ref f)) (hb : Binds K fd ["found", "due"] []) : FnA P w K mg base T "_law_alike" 1 fsNone :=
  fnP F scAlike hm hb (fun ds M Q E h => h.elim) fun cdv A outer s H E Z0 M0 Ea hr tk hp wl => ⟨_, _, dss_never, fun ds Q h => h.elim⟩
theorem law_alike1 {fs : ASp} {n k : Nat} (Z : Nm mg) (F__law_alike : FnA P w K mg base T "_law_alike" k fs) (hfs : ∀ x M Q E, n ≠ 0 → okD (n - 1) x = true → Q (.bl true) M → fs [x, x] M Q E) (F : Fun K "_law_alike" "_law_alike" s_law_alike f fd) (hm : mg "_law_alike" = some (.ref f)) (hb : Binds K fd ["found", "due"] []) : FnA P w K mg base T "_law_alike" (k + 1) (fsAlike n) := by
  refine fnP F scAlike hm hb (fun ds M Q E h => by unfold fsAlike at h; split at h <;> first | rfl | exact h.elim) fun cdv A outer s H E Z0 M0 Ea hr tk hp wl => ⟨_, _, (dss_cons (ds_if (dt_val (de_isiT2 .tuple .list Z.z_isinstance Z.z_tuple Z.z_list (de_var 1))) (dss_cons (ds_if (dw_or (dt_not (dt_val (de_isiT2 .tuple .list Z.z_isinstance Z.z_tuple Z.z_list (de_var 0)))) (dw_or1 (dt_ne hr (de_isi .list Z.z_isinstance Z.z_list (de_var 0)) (de_isi .list Z.z_isinstance Z.z_list (de_var 1))))).dt (dss_one (ds_ret de_bl)) dss_nil)
      (dss_cons (ds_if (dt_ne hr (de_len Z.z_len (da_cons (de_var 0) da_nil)) (de_len Z.z_len (da_cons (de_var 1) da_nil))) (dss_one (ds_ret de_bl)) dss_nil)
      (dss_one (ds_ret (de_eq hr (de_lc rfl scAlike.nd [("k", 2)] (di_range1 Z.z_range (da_cons (de_len Z.z_len (da_cons (de_var 1) da_nil)) da_nil)) (by rfl) (fun _ _ _ _ _ => (dg_name 2 scAlike.nd)) gon_name (fun _ _ _ _ _ => (dts_one (dt_not (dt_val (de_call (F__law_alike.mono (by omega)) hr (da_cons (de_ix (de_var 0) (de_var 2)) (da_cons (de_ix (de_var 1) (de_var 2)) da_nil))))))) (fun _ _ _ _ _ => (de_var 2))) (de_lst da_nil)))))) dss_nil)
      (dss_cons (ds_if (dt_val (de_isi .dict Z.z_isinstance Z.z_dict (de_var 1))) dss_never dss_nil)
      (dss_cons (ds_if (dw_or (dt_isN (de_var 1)) (dw_or1 (dt_val (de_isi .str Z.z_isinstance Z.z_str (de_var 1))))).dt (dss_one (ds_ret (de_and (de_eq hr (de_var 0) (de_var 1)) (de_one (de_eq hr (de_isi .str Z.z_isinstance Z.z_str (de_var 0)) (de_isi .str Z.z_isinstance Z.z_str (de_var 1))))))) dss_nil)
      (dss_one (ds_ret (de_and (de_isi .int Z.z_isinstance Z.z_int (de_var 0)) (de_and (de_eq hr (de_isi .bool Z.z_isinstance Z.z_bool (de_var 0)) (de_isi .bool Z.z_isinstance Z.z_bool (de_var 1))) (de_one (de_eq hr (de_var 0) (de_var 1)))))))))), ?_⟩
  intro ds Q h
  unfold fsAlike at h
  split at h <;> try exact h.elim
  rename_i x y
  obtain ⟨rfl, ok, q⟩ := h
  have main : ∀ (d : D) (es : List D), (∀ (i : Nat) (x : D) (Q : DK), es[i]? = some x → Q x M0 → ixD d (.int (0 + (i : Nat))) M0 Q) → n ≠ 0 → okDs (n - 1) es = true → ∀ (sl : SL) (a b c e : Option D), sl = [some d, some d, c, e] → lcL (fun x => True) (aGName 2) (aNot (aBool (aCall fs (aCons (aOp ixD (aVar 0) (aVar 2)) (aCons (aOp ixD (aVar 1) (aVar 2)) aNil))))) (aVar 2) sl (rngD 0 es.length) [] M0 fun acc M2 =>
      okDs 59 acc = true ∧ Drop M2 M0 ∧ Q (D.bl (eqDs acc [])) M0 := by
    intro d es hix n0 ok sl a b c e hsl
    subst hsl
    refine lcL_fil (fun i : Nat => D.int (0 + (i : Nat))) (fun _ => none) trivial (List.range es.length) [] (fun i hi k k2 hk => ?_) ?_
    · have hi : i < es.length := List.mem_range.mp hi
      have gx : es[i]? = some es[i] := List.getElem?_eq_getElem hi
      simp only [aGName, setD_s, setD_z, aNot, aBool, aCall, aCons, aOp, aVar, slotD_s, slotD_z, aNil]
      refine hix i _ _ gx (hix i _ _ gx (hfs _ _ _ _ n0 ?_ ?_))
      · have := List.getElem_mem hi
        exact okDs_mem ok this
      · simpa using hk
    · have : (List.range es.length).filterMap (fun _ : Nat => (none : Option D)) = [] := by simp
      rw [this]
      simp
      exact q
  cases x with
  | lst es =>
    have ok' := bsplit (by simpa only [okD] using ok)
    simp
    exact fun hl => ⟨hl, main (.lst es) es (fun i x Q h q => by rw [Int.zero_add]; exact ixD_at h q) (by have := of_decide_eq_true ok'.1; omega) ok'.2 _ none none _ _ rfl⟩
  | tup es =>
    have ok' := bsplit (by simpa only [okD] using ok)
    simp
    exact fun hl => ⟨hl, main (.tup es) es (fun i x Q h q => by rw [Int.zero_add]; exact ixD_atT h q) (by have := of_decide_eq_true ok'.1; omega) ok'.2 _ none none _ _ rfl⟩
  | non => simp; exact q
  | bl c => simp; exact q
  | int c => simp; exact q
  | str c => 
    simp at ok
    simp [ok]; exact q
  | dic _ => simp [okD] at ok
  | ref _ => simp [okD] at ok
theorem law_alike (Z : Nm mg) (F : Fun K "_law_alike" "_law_alike" s_law_alike f fd) (hm : mg "_law_alike" = some (.ref f)) (hb : Binds K fd ["found", "due"] []) : ∀ n, FnA P w K mg base T "_law_alike" (n + 2) (fsAlike n)
  | 0 => law_alike1 Z (law_alike0 F hm hb) (fun _ _ _ _ h => absurd rfl h) F hm hb
  | n + 1 => law_alike1 Z (law_alike Z F hm hb n) (fun x M Q E _ ok q => ⟨rfl, ok, q⟩) F hm hb

abbrev s_law_subsets : Stmt := (top 25)
theorem scSubs : FnScope ["many", "found", "k", "one", "size"] ["many"] (defScope s_law_subsets) := ⟨rfl, rfl, rfl, by decide +kernel, rfl, by decide +kernel, by decide +kernel⟩
theorem law_subsets (Z : Nm mg) (F : Fun K "_law_subsets" "_law_subsets" s_law_subsets f fd) (hm : mg "_law_subsets" = some (.ref f)) (hb : Binds K fd ["many"] []) : FnA P w K mg base T "_law_subsets" 1 fsSubs := by
  refine fnP F scSubs hm hb (fun ds M Q E h => by unfold fsSubs at h; split at h <;> first | rfl | exact h.elim) fun cdv A outer s H E Z0 M0 Ea hr tk hp wl => ⟨_, _, (dss_cons (ds_set 1 scSubs.nd (de_lst (da_cons (de_tup da_nil) da_nil)))
      (dss_cons (ds_for hp rfl (di_range1 Z.z_range (da_cons (de_var 0) da_nil)) (dg_name 2 scSubs.nd) (dss_one (ds_set 1 scSubs.nd (de_add (de_var 1) (de_lc rfl scSubs.nd [("one", 3)] (di_seq (de_var 1)) (by rfl) (fun _ _ _ _ _ => (dg_name 3 scSubs.nd)) gon_name (fun _ _ _ _ _ => dts_nil) (fun _ _ _ _ _ => (de_add (de_var 3) (de_tup (da_cons (de_var 2) da_nil)))))))))
      (dss_one (ds_ret (de_lc rfl scSubs.nd [("size", 4), ("one", 3)] (di_seq (de_sorted hr Z.z_sorted (da_cons (de_lc rfl scSubs.nd [("one", 3)] (di_seq (de_var 1)) (by rfl) (fun _ _ _ _ _ => (dg_name 3 scSubs.nd)) gon_name (fun _ _ _ _ _ => dts_nil) (fun _ _ _ _ _ => (de_tup (da_cons (de_len Z.z_len (da_cons (de_var 3) da_nil)) (da_cons (de_var 3) da_nil))))) da_nil))) (by rfl) (fun _ _ _ _ _ => (dg_tup (n := 2) rfl (dgs_cons (dg_name 4 scSubs.nd) (dgs_cons (dg_name 3 scSubs.nd) dgs_nil)))) (gon_tup (gson_cons gon_name (gson_cons gon_name gson_nil))) (fun _ _ _ _ _ => dts_nil) (fun _ _ _ _ _ => (de_var 3))))))), ?_⟩
  intro ds Q h
  unfold fsSubs at h
  split at h <;> try exact h.elim
  rename_i n
  obtain ⟨n0, n1, q⟩ := h
  have sz : (sizeLine : Nat) = 16777216 := sizeLine_eq
  have plen : ∀ j p, p ∈ subR j → p.length ≤ j := fun j p m => by have := (subR_prop j p m).1; omega
  have pw : ∀ j : Nat, j ≤ 12 → 2 ^ j ≤ 4096 := fun j hj => Nat.le_trans (Nat.pow_le_pow_right (by decide) hj) (by decide)
  simp
  refine ⟨by omega, by omega, ?_⟩
  refine forL_inv (fun i : Nat => D.int (0 + (i : Nat))) (fun r sl M => ∃ (j : Nat) (x y z : Option D), r = List.range' j (n.toNat - j) ∧ j ≤ n.toNat ∧ sl = [some (.int n), some (.lst ((subR j).map rowD)), x, y, z] ∧ M0 = M) ?_ ?_ _ _ _ ⟨0, _, _, _, by rw [List.range_eq_range']; rfl, Nat.zero_le _, rfl, rfl⟩
  · rintro sl M ⟨j, x, y, z, hr', hj, rfl, rfl⟩
    have hl := congrArg List.length hr'
    simp at hl
    have : j = n.toNat := by omega
    subst this
    refine ⟨trivial, ?_⟩
    simp
    have pj := pw n.toNat (by omega)
    refine lcL_map rowD spD trivial (subR n.toNat) [] (fun p hp k k2 hk => ?_) ?_
    · simp [rowD]
      exact fun _ => hk
    · rw [List.nil_append]
      show sortA [.lst ((subR n.toNat).map spD)] M0 _
      unfold sortA
      simp only [seqL_lst]
      refine ⟨spD_ok _, spD_all _, spD_sortable _, ?_⟩
      rw [sub_sort]
      simp
      refine lcL_map spD rowD trivial (subL n.toNat) [] (fun p hp k k2 hk => ?_) ?_
      · simp [spD]
        exact hk
      · rw [List.nil_append]
        exact ⟨Drop.refl M0, q⟩
  · rintro i r sl M k ⟨j, x, y, z, hr', hj, rfl, rfl⟩ hk
    have hlt : j < n.toNat := by
      rcases Nat.lt_or_ge j n.toNat with c | c
      · exact c
      · rw [show n.toNat - j = 0 from by omega] at hr'; cases hr'
    obtain ⟨c, hn⟩ : ∃ c, n.toNat - j = c + 1 := ⟨n.toNat - j - 1, by omega⟩
    rw [hn, List.range'_succ] at hr'
    injection hr' with h1 h2
    subst h1
    have pj := pw i (by omega)
    refine ⟨trivial, ?_⟩
    simp
    refine lcL_map rowD (fun p => rowD (p ++ [((i : Nat) : Int)])) trivial (subR i) [] (fun p hp k k2 hk => ?_) ?_
    · have := plen i p hp
      simp [rowD] at hk ⊢
      exact ⟨by omega, hk⟩
    · rw [List.nil_append, List.length_map, subR_len]
      refine ⟨by omega, hk _ _ ⟨i + 1, some (.int (i : Nat)), y, z, by rw [h2, show n.toNat - (i + 1) = c from by omega], by omega, ?_, rfl⟩⟩
      show _ = [some (D.int n), some (D.lst ((subR i ++ (subR i).map fun p => p ++ [((i : Nat) : Int)]).map rowD)), some (.int (i : Nat)), y, z]
      rw [List.map_append, List.map_map]
      rfl

theorem ixN_zero (n : Nat) : ixN (n + 1) 0 = some 0 := by
  unfold ixN
  rw [if_pos (by omega), if_pos (by omega)]; rfl
theorem lkLots_ok {n : Nat} : ∀ {ls : List Lot} {i : Nat} {m : Option Nat}, (∀ l ∈ ls, LotOk l ∧ l.2.length = n) → (m = none ∨ m = some n) → lkLots (ls.map lotD) i m = .inr (if ls = [] then m else some n)
  | [], _, _, _, _ => rfl
  | l :: ls, i, m, h, hm => by
    have hl := h l List.mem_cons_self
    rw [List.map_cons]
    unfold lkLots
    rw [lotOf_ok hl.1]
    simp only
    rw [hl.2, if_pos hm, lkLots_ok (fun x hx => h x (List.mem_cons_of_mem _ hx)) (.inr rfl)]
    congr 1
    rw [if_neg (List.cons_ne_nil l ls)]
    split <;> rfl
theorem lkLots_end {n : Nat} {x : D} (hx : ∀ l, lotOf x = some l → l.2.length ≠ n) : ∀ {ls : List Lot} {i : Nat} {m : Option Nat}, (∀ l ∈ ls, LotOk l ∧ l.2.length = n) → (m = some n ∨ (m = none ∧ ls ≠ [])) → lkLots (ls.map lotD ++ [x]) i m = .inl (((i + ls.length : Nat)) : Int)
  | [], i, m, _, hm => by
    have hm : m = some n := hm.elim id fun h => absurd rfl h.2
    subst hm
    show lkLots [x] i (some n) = _
    unfold lkLots
    cases z : lotOf x with
    | none => rfl
    | some l =>
      simp only
      rw [if_neg (fun e => by rcases e with e | e <;> cases e; exact hx l z rfl)]
      rfl
  | l :: ls, i, m, h, hm => by
    have hl := h l List.mem_cons_self
    rw [List.map_cons, List.cons_append]
    unfold lkLots
    rw [lotOf_ok hl.1]
    simp only
    rw [hl.2, if_pos (hm.elim (fun e => .inr e) fun e => .inl e.1), lkLots_end hx (fun x hx => h x (List.mem_cons_of_mem _ hx)) (.inl rfl), List.length_cons]
    congr 1; omega
theorem ckL_ok {d : D} {ls : List Lot} {n : Nat} (hd : seqs d = some (ls.map lotD)) (h : LotsOk ls n) : ckL d = .inr (some n) := by
  unfold ckL
  rw [hd]
  simp only [List.length_map]
  rw [if_pos h.len, lkLots_ok h.ok (.inl rfl), if_neg (fun z => by have := h.len.1; rw [z] at this; simp at this)]
theorem bghtOf_ok {n : Nat} {p : List Int} (h : Plc n 0 p) : bghtOf n (intsT p) = some p := by
  unfold bghtOf intsT
  simp only
  rw [rowOf_ints fun x hx => by have := h.2 x hx; omega]
  simp only
  rw [if_pos (asc_adj h.1)]
theorem lots_inj {a b : List Lot} (h : a.map lotD = b.map lotD) : a = b := (List.map_inj_right fun x y e => by
  obtain ⟨x1, x2⟩ := x
  obtain ⟨y1, y2⟩ := y
  injection e with e
  injection e with e1 e2
  injection e1 with e1
  injection e2 with e2 _
  injection e2 with e2
  have e1 : x1 = y1 := e1
  have e2 : x2 = y2 := (List.map_inj_right fun x y e => D.int.inj e).mp e2
  rw [e1, e2]).mp h
theorem pu_ints (l : List Int) : puDs (l.map D.int) = true := puDs_of fun y my => by obtain ⟨z, _, rfl⟩ := List.mem_map.mp my; rfl
theorem pu_intsT (l : List Int) : puD (intsT l) = true := by
  show puD (.tup _) = true
  rw [puD_tup]; exact pu_ints l
theorem pu_lots (l : List Lot) : puDs (l.map lotD) = true := puDs_of fun y my => by
  obtain ⟨z, _, rfl⟩ := List.mem_map.mp my
  show puDs [.int z.1, .tup (z.2.map D.int)] = true
  rw [puDs_cons, puDs_cons]
  show (true && (puD (.tup (z.2.map D.int)) && true)) = true
  rw [puD_tup, pu_ints]; rfl
theorem cheap_ok {CL CW : Addr} {d : D} {ls : List Lot} {n : Nat} {ws : List Int} {M : Store} {Q : DK} {E : AXK} (pd : puD d = true) (hd : seqs d = some (ls.map lotD)) (h : LotsOk ls n) (hw : wantOf n (intsT ws) = some ws) (q : Q (ansD (bestS ls 0 ws)) M) : fsCheap CL CW [d, intsT ws] M Q E := by
  refine ⟨pd, pu_intsT ws, ?_⟩
  rw [ckL_ok hd h]
  simp only [Option.getD_some, hw]
  intro ls' h'
  rw [hd] at h'
  have := lots_inj (Option.some.inj h')
  subst this
  exact q
theorem over_ok {CL CW CB : Addr} {d : D} {ls : List Lot} {n : Nat} {ws p : List Int} {M : Store} {Q : DK} {E : AXK} (pd : puD d = true) (hd : seqs d = some (ls.map lotD)) (h : LotsOk ls n) (hw : wantOf n (intsT ws) = some ws) (hp : Plc ls.length 0 p) (q : Q (intsT (overL ls ws p)) M) : fsOver CL CW CB [d, intsT ws, intsT p] M Q E := by
  refine ⟨pd, pu_intsT ws, pu_intsT p, ?_⟩
  rw [ckL_ok hd h]
  simp only [Option.getD_some, hw]
  intro ls' h'
  rw [hd] at h'
  have := lots_inj (Option.some.inj h')
  subst this
  rw [bghtOf_ok hp]
  exact q
theorem ans_ok {a : Ans} : okD 10 (ansD a) = true := by
  cases a with
  | none => rfl
  | some x => simp [ansD, vrD]
def badL (n : Nat) (d : D) : Bool := puD d && (match lotOf d with | none => true | some l => decide (l.2.length ≠ n))
theorem badL_of {n : Nat} {d : D} (h : badL n d = true) : puD d = true ∧ ∀ l, lotOf d = some l → l.2.length ≠ n := by
  unfold badL at h
  rw [Bool.and_eq_true] at h
  refine ⟨h.1, fun l e => ?_⟩
  have h2 := h.2
  rw [e] at h2
  simpa using h2
theorem badL_all : ∀ n, 1 ≤ n → n ≤ 4 → (badL n .non && badL n (.tup [.int 1, .tup (List.replicate n (.int 0))]) && badL n (.tup [.int (-1), .tup (List.replicate n (.int 1))]) && badL n (.tup [.int 1, .tup (List.replicate (n + 1) (.int 1))]) && badL n (.tup [.int 1, .tup (List.replicate n (.int 10))]) && badL n (.lst [.int 1, .tup (List.replicate n (.int 1))]) && badL n (.tup [.int 1, .lst (List.replicate n (.int 1))])) = true := by
  intro n h1 h2
  have : n = 1 ∨ n = 2 ∨ n = 3 ∨ n = 4 := by omega
  rcases this with rfl | rfl | rfl | rfl <;> decide +kernel
def oddW (n : Nat) (d : D) : Bool := (wantOf n d).isNone && puD d && okD 59 d && shD d && decide ((reprD (.tup [.str "wanted", d])).length ≤ sizeLine)
theorem oddW_of {n : Nat} {d : D} (h : oddW n d = true) : wantOf n d = none ∧ puD d = true ∧ okD 59 d = true ∧ shD d = true ∧ (reprD (.tup [.str "wanted", d])).length ≤ sizeLine := by
  unfold oddW at h
  simp only [Bool.and_eq_true, decide_eq_true_eq, Option.isNone_iff_eq_none] at h
  obtain ⟨⟨⟨⟨h1, h2⟩, h3⟩, h4⟩, h5⟩ := h
  exact ⟨h1, h2, h3, h4, h5⟩
theorem oddW_all : ∀ n, 1 ≤ n → n ≤ 4 → (oddW n .non && oddW n (.tup []) && oddW n (.tup (List.replicate (n + 1) (.int 1))) && oddW n (.tup (List.replicate n (.int 13))) && oddW n (.lst (List.replicate n (.int 1))) && oddW n (.tup (List.replicate n (.bl true)))) = true := by
  intro n h1 h2
  have : n = 1 ∨ n = 2 ∨ n = 3 ∨ n = 4 := by omega
  rcases this with rfl | rfl | rfl | rfl <;> decide +kernel
def oddB (m : Nat) (d : D) : Bool := (bghtOf m d).isNone && puD d && okD 59 d && shD d && decide ((reprD (.tup [.str "bought", d])).length ≤ sizeLine)
theorem oddB_of {n : Nat} {d : D} (h : oddB n d = true) : bghtOf n d = none ∧ puD d = true ∧ okD 59 d = true ∧ shD d = true ∧ (reprD (.tup [.str "bought", d])).length ≤ sizeLine := by
  unfold oddB at h
  simp only [Bool.and_eq_true, decide_eq_true_eq, Option.isNone_iff_eq_none] at h
  obtain ⟨⟨⟨⟨h1, h2⟩, h3⟩, h4⟩, h5⟩ := h
  exact ⟨h1, h2, h3, h4, h5⟩
theorem oddB_all : ∀ m, 1 ≤ m → m ≤ 10 → (oddB m .non && oddB m (.lst [.int 0]) && oddB m (.tup [.int 0, .int 0]) && oddB m (.tup [.int m]) && oddB m (.tup [.int (-1)]) && oddB m (.tup [.int 1, .int 0])) = true := by
  intro n h1 h2
  have : n = 1 ∨ n = 2 ∨ n = 3 ∨ n = 4 ∨ n = 5 ∨ n = 6 ∨ n = 7 ∨ n = 8 ∨ n = 9 ∨ n = 10 := by omega
  rcases this with rfl | rfl | rfl | rfl | rfl | rfl | rfl | rfl | rfl | rfl <;> decide +kernel
theorem cheap_cl {CL CW : Addr} {d p : D} {v : Int} {M : Store} {Q : DK} {E : AXK} (pd : puD d = true) (pp : puD p = true) (h : ckL d = .inl v) (q : E CL (.int v) M) : fsCheap CL CW [d, p] M Q E := ⟨pd, pp, by rw [h]; exact q⟩
theorem cheap_cw {CL CW : Addr} {d p : D} {n : Nat} {M : Store} {Q : DK} {E : AXK} (pd : puD d = true) (pp : puD p = true) (h : ckL d = .inr (some n)) (hw : wantOf n p = none) (q : E CW p M) : fsCheap CL CW [d, p] M Q E := ⟨pd, pp, by rw [h]; simp only [Option.getD_some, hw]; exact q⟩
theorem over_cb {CL CW CB : Addr} {d p b : D} {ls : List Lot} {n : Nat} {ws : List Int} {M : Store} {Q : DK} {E : AXK} (pd : puD d = true) (pp : puD p = true) (pb : puD b = true) (hd : seqs d = some (ls.map lotD)) (h : LotsOk ls n) (hw : wantOf n p = some ws) (hb : bghtOf ls.length b = none) (q : E CB b M) : fsOver CL CW CB [d, p, b] M Q E := by
  refine ⟨pd, pp, pb, ?_⟩
  rw [ckL_ok hd h]
  simp only [Option.getD_some, hw]
  intro ls' h'
  rw [hd] at h'
  have := lots_inj (Option.some.inj h')
  subst this
  rw [hb]
  exact q
abbrev s_law : Stmt := (top 27)
theorem scLaw : FnScope ["script", "many", "kinds", "k", "some", "turn", "wanted", "best", "part", "over", "one", "found", "bad", "length", "lots", "odd", "row", "wrong", "j", "kind", "at"] ["script"] (defScope s_law) := ⟨rfl, rfl, rfl, by decide +kernel, rfl, by decide +kernel, by decide +kernel⟩
theorem law {CB CL CW c Pt : Addr} (Z : Nm mg) (ne10 : CL ≠ CB) (ne20 : CW ≠ CB) (ne21 : CW ≠ CL) (F__law_taken : FnA P w K mg base T "_law_taken" 1 fsDraw) (F__law_pick : FnA P w K mg base T "_law_pick" 2 fsPick) (F__law_alike : FnA P w K mg base T "_law_alike" 12 (fsAlike 10)) (F__law_subsets : FnA P w K mg base T "_law_subsets" 1 fsSubs)
    (F_cheapest_lots : FnA P w K mg base T "cheapest_lots" 15 (fsCheap CL CW)) (F_lots_over : FnA P w K mg base T "lots_over" 5 (fsOver CL CW CB))
    (TA__law_refused : TryA K mg "_law_refused" [(CB, "bought"), (CL, "lots"), (CW, "wanted")]) (TB : TabB base mg c Pt) (hT : T = [(Pt, ("law.<locals>.<lambda>" : Str))])
    (F : FunC K "law" s_law f fd (.ref c)) : RunAt callerA P w K mg base (L2.CX P w) f fd ["script"] (SpOf K T (fsLaw K)) := by
  refine fnLawG (k := 20) F scLaw ⟨rfl, by decide, by decide⟩ (fun ds M Q E h => by unfold fsLaw at h; split at h <;> first | rfl | exact h.elim) fun s H E Z0 M0 Ea hr hgd tk hp wl => ?_
  have hmT : (Pt, (envOfC "law" (defScope s_law) s.heap.objs.size f (.ref c)).qual ++ "<lambda>") ∈ T := by rw [hT]; exact List.mem_singleton.mpr rfl
  have huT : ∀ p ∈ T, p.1 = Pt → p.2 = (envOfC "law" (defScope s_law) s.heap.objs.size f (.ref c)).qual ++ "<lambda>" := fun p hp _ => by rw [hT] at hp; rw [List.mem_singleton.mp hp]; rfl
  refine ⟨_, _, (dss_cons (ds_set 16 scLaw.nd (de_row (da_cons (de_var 0) (da_cons de_int (da_cons de_int (da_cons de_int da_nil))))))
      (dss_cons (ds_asg (de_ifexp (dt_eq hr (de_call (F__law_taken.mono (by omega)) hr (da_cons (de_var 16) (da_cons de_int da_nil))) de_int) (de_tup (da_cons de_int (da_cons de_int da_nil))) (de_tup (da_cons de_int (da_cons de_int da_nil)))) (dg_tup (n := 2) rfl (dgs_cons (dg_name 1 scLaw.nd) (dgs_cons (dg_name 2 scLaw.nd) dgs_nil))))
      (dss_cons (ds_asg (de_tup (da_cons (de_add de_int (de_call (F__law_taken.mono (by omega)) hr (da_cons (de_var 16) (da_cons (de_var 2) da_nil)))) (da_cons (de_lstC da_nil) da_nil))) (dg_tup (n := 2) rfl (dgs_cons (dg_name 13 scLaw.nd) (dgs_cons (dg_name 14 scLaw.nd) dgs_nil))))
      (dss_cons (ds_for hp rfl (di_range1 Z.z_range (da_cons (de_add de_int (de_call (F__law_taken.mono (by omega)) hr (da_cons (de_var 16) (da_cons (de_var 1) da_nil)))) da_nil)) (dg_name 3 scLaw.nd) (dss_cons (ds_setLcC 4 [("j", 18)] rfl scLaw.nd (di_range1 Z.z_range (da_cons (de_var 13) da_nil)) (by rfl) (sw_true rfl rfl rfl (by rfl)) (fun _ _ _ _ _ => (dg_name 18 scLaw.nd)) gon_name (fun _ _ _ _ _ => dts_nil) (fun _ _ _ _ _ => (de_call (F__law_taken.mono (by omega)) hr (da_cons (de_var 16) (da_cons (de_call (F__law_pick.mono (by omega)) hr (da_cons (de_var 16) (da_cons (de_lst (da_cons de_int (da_cons de_int da_nil))) da_nil))) da_nil)))))
      (dss_cons (ds_asg (de_add (de_ix (de_var 4) de_int) (de_ifexp (dt_eq hr (de_sumA rfl Z.z_sum (da_cons (de_var 4) da_nil)) de_int) de_int de_int)) (dg_subL (de_var 4) de_int))
      (dss_one (ds_expr (de_app (de_var 14) (da_cons (de_tup (da_cons (de_call (F__law_taken.mono (by omega)) hr (da_cons (de_var 16) (da_cons (de_call (F__law_pick.mono (by omega)) hr (da_cons (de_var 16) (da_cons (de_lst (da_cons de_int (da_cons de_int da_nil))) da_nil))) da_nil))) (da_cons (de_tupc Z.z_tuple (da_cons (de_var 4) da_nil)) da_nil))) da_nil)))))))
      (dss_frz 14 (dss_cons (ds_for hp rfl (di_range1 Z.z_range (da_cons de_int da_nil)) (dg_name 5 scLaw.nd) (dss_cons (ds_asg (de_tup (da_cons (de_tupc Z.z_tuple (da_cons (de_lc rfl scLaw.nd [("j", 18)] (di_range1 Z.z_range (da_cons (de_var 13) da_nil)) (by rfl) (fun _ _ _ _ _ => (dg_name 18 scLaw.nd)) gon_name (fun _ _ _ _ _ => dts_nil) (fun _ _ _ _ _ => (de_call (F__law_taken.mono (by omega)) hr (da_cons (de_var 16) (da_cons (de_call (F__law_pick.mono (by omega)) hr (da_cons (de_var 16) (da_cons (de_lst (da_cons de_int (da_cons de_int (da_cons de_int da_nil)))) da_nil))) da_nil))))) da_nil)) (da_cons de_non da_nil))) (dg_tup (n := 2) rfl (dgs_cons (dg_name 6 scLaw.nd) (dgs_cons (dg_name 7 scLaw.nd) dgs_nil))))
      (dss_cons (ds_for hp rfl (di_seq (de_call (F__law_subsets.mono (by omega)) hr (da_cons (de_len Z.z_len (da_cons (de_var 14) da_nil)) da_nil))) (dg_name 8 scLaw.nd) (dss_cons (ds_setLc 9 [("kind", 19)] rfl scLaw.nd (di_range1 Z.z_range (da_cons (de_var 13) da_nil)) (by rfl) (sw_true rfl rfl rfl (by rfl)) (fun _ _ _ _ _ => (dg_name 19 scLaw.nd)) gon_name (fun _ _ _ _ _ => dts_nil) (fun _ _ _ _ _ => (de_sub (de_sumA rfl Z.z_sum (da_cons (de_lc rfl scLaw.nd [("at", 20)] (di_seq (de_var 8)) (by rfl) (fun _ _ _ _ _ => (dg_name 20 scLaw.nd)) gon_name (fun _ _ _ _ _ => dts_nil) (fun _ _ _ _ _ => (de_ix (de_ix (de_ix (de_var 14) (de_var 20)) de_int) (de_var 19)))) da_nil)) (de_ix (de_var 6) (de_var 19)))))
      (dss_cons (ds_set 10 scLaw.nd (de_tup (da_cons (de_sumA rfl Z.z_sum (da_cons (de_lc rfl scLaw.nd [("at", 20)] (di_seq (de_var 8)) (by rfl) (fun _ _ _ _ _ => (dg_name 20 scLaw.nd)) gon_name (fun _ _ _ _ _ => dts_nil) (fun _ _ _ _ _ => (de_ix (de_ix (de_var 14) (de_var 20)) de_int))) da_nil)) (da_cons (de_var 8) da_nil))))
      (dss_one (ds_if (dw_and (dt_ge (de_minD rfl hr Z.z_min (da_cons (de_var 9) da_nil)) de_int) (dw_and1 (dw_or (dt_isN (de_var 7)) (dw_or1 (dt_ltD hr (de_var 10) (de_var 7)))).dt)).dt (dss_one (ds_set 7 scLaw.nd (de_var 10))) dss_nil)))))
      (dss_cons (ds_set 11 scLaw.nd (de_call (F_cheapest_lots.mono (by omega)) hr (da_cons (de_tupc Z.z_tuple (da_cons (de_var 14) da_nil)) (da_cons (de_var 6) da_nil))))
      (dss_cons (ds_if (dt_not (dt_val (de_call (F__law_alike.mono (by omega)) hr (da_cons (de_var 11) (da_cons (de_var 7) da_nil))))) (dss_one (ds_ret de_bl)) dss_nil)
      (dss_cons (ds_set 8 scLaw.nd (de_tupc Z.z_tuple (da_cons (de_lc rfl scLaw.nd [("at", 20)] (di_range1 Z.z_range (da_cons (de_len Z.z_len (da_cons (de_var 14) da_nil)) da_nil)) (by rfl) (fun _ _ _ _ _ => (dg_name 20 scLaw.nd)) gon_name (fun _ _ _ _ _ => (dts_one (dt_eq hr (de_call (F__law_taken.mono (by omega)) hr (da_cons (de_var 16) (da_cons de_int da_nil))) de_int))) (fun _ _ _ _ _ => (de_var 20))) da_nil)))
      (dss_cons (ds_set 9 scLaw.nd (de_tupc Z.z_tuple (da_cons (de_lc rfl scLaw.nd [("kind", 19)] (di_range1 Z.z_range (da_cons (de_var 13) da_nil)) (by rfl) (fun _ _ _ _ _ => (dg_name 19 scLaw.nd)) gon_name (fun _ _ _ _ _ => dts_nil) (fun _ _ _ _ _ => (de_sub (de_sumA rfl Z.z_sum (da_cons (de_lc rfl scLaw.nd [("at", 20)] (di_seq (de_var 8)) (by rfl) (fun _ _ _ _ _ => (dg_name 20 scLaw.nd)) gon_name (fun _ _ _ _ _ => dts_nil) (fun _ _ _ _ _ => (de_ix (de_ix (de_ix (de_var 14) (de_var 20)) de_int) (de_var 19)))) da_nil)) (de_ix (de_var 6) (de_var 19))))) da_nil)))
      (dss_cons (ds_if (dt_not (dt_val (de_call (F__law_alike.mono (by omega)) hr (da_cons (de_call (F_lots_over.mono (by omega)) hr (da_cons (de_var 14) (da_cons (de_var 6) (da_cons (de_var 8) da_nil)))) (da_cons (de_var 9) da_nil))))) (dss_one (ds_ret de_bl)) dss_nil)
      (dss_one (ds_if (dw_and (dt_notN (de_var 11)) (dw_and1 (dt_lt (de_minD rfl hr Z.z_min (da_cons (de_call (F_lots_over.mono (by omega)) hr (da_cons (de_var 14) (da_cons (de_var 6) (da_cons (de_ix (de_var 11) de_int) da_nil)))) da_nil)) de_int))).dt (dss_one (ds_ret de_bl)) dss_nil))))))))))
      (dss_cons (ds_set 12 scLaw.nd (de_add (de_slice (de_var 14) do_none (do_some de_int)) (de_lst (da_cons (de_call (F__law_pick.mono (by omega)) hr (da_cons (de_var 16) (da_cons (de_lst (da_cons de_non (da_cons (de_tup (da_cons de_int (da_cons (de_mulT1 (de_tup (da_cons de_int da_nil)) (de_var 13)) da_nil))) (da_cons (de_tup (da_cons (de_neg de_int) (da_cons (de_mulT1 (de_tup (da_cons de_int da_nil)) (de_var 13)) da_nil))) (da_cons (de_tup (da_cons de_int (da_cons (de_mulT1 (de_tup (da_cons de_int da_nil)) (de_add (de_var 13) de_int)) da_nil))) (da_cons (de_tup (da_cons de_int (da_cons (de_mulT1 (de_tup (da_cons de_int da_nil)) (de_var 13)) da_nil))) (da_cons (de_lst (da_cons de_int (da_cons (de_mulT1 (de_tup (da_cons de_int da_nil)) (de_var 13)) da_nil))) (da_cons (de_tup (da_cons de_int (da_cons (de_mul (de_lst (da_cons de_int da_nil)) (de_var 13)) da_nil))) da_nil)))))))) da_nil))) da_nil))))
      (dss_cons (ds_set 15 scLaw.nd (de_call (F__law_pick.mono (by omega)) hr (da_cons (de_var 16) (da_cons (de_lst (da_cons de_non (da_cons (de_tup da_nil) (da_cons (de_mulT1 (de_tup (da_cons de_int da_nil)) (de_add (de_var 13) de_int)) (da_cons (de_mulT1 (de_tup (da_cons de_int da_nil)) (de_var 13)) (da_cons (de_mul (de_lst (da_cons de_int da_nil)) (de_var 13)) (da_cons (de_mulT1 (de_tup (da_cons de_bl da_nil)) (de_var 13)) da_nil))))))) da_nil))))
      (dss_cons (ds_if (dt_ne hr (de_try TA__law_refused TB rfl hmT huT hr (fun A' outer' s' H' E' f' c' Z' H0' M' Wa' hr' tk' wl' => (de_callX (F_cheapest_lots.mono (by omega)) hr' tk' wl' (da_cons (de_var 12) (da_cons de_non da_nil)))) rfl) (de_tup (da_cons de_str (da_cons (de_sub (de_len Z.z_len (da_cons (de_var 12) da_nil)) de_int) da_nil)))) (dss_one (ds_ret de_bl)) dss_nil)
      (dss_cons (ds_if (dt_ne hr (de_try TA__law_refused TB rfl hmT huT hr (fun A' outer' s' H' E' f' c' Z' H0' M' Wa' hr' tk' wl' => (de_callX (F_cheapest_lots.mono (by omega)) hr' tk' wl' (da_cons (de_call (F__law_pick.mono (by omega)) hr' (da_cons (de_var 16) (da_cons (de_lst (da_cons de_non (da_cons (de_lst da_nil) (da_cons (de_mul (de_slice (de_var 14) do_none (do_some de_int)) de_int) (da_cons de_int da_nil))))) da_nil))) (da_cons de_non da_nil)))) rfl) (de_tup (da_cons de_str (da_cons (de_neg de_int) da_nil)))) (dss_one (ds_ret de_bl)) dss_nil)
      (dss_cons (ds_if (dt_neS (de_repr hgd hr Z.z_repr (da_cons (de_try TA__law_refused TB rfl hmT huT hr (fun A' outer' s' H' E' f' c' Z' H0' M' Wa' hr' tk' wl' => (de_callX (F_cheapest_lots.mono (by omega)) hr' tk' wl' (da_cons (de_var 14) (da_cons (de_var 15) da_nil)))) rfl) da_nil)) (de_repr hgd hr Z.z_repr (da_cons (de_tup (da_cons de_str (da_cons (de_var 15) da_nil))) da_nil))) (dss_one (ds_ret de_bl)) dss_nil)
      (dss_cons (ds_set 17 scLaw.nd (de_call (F__law_pick.mono (by omega)) hr (da_cons (de_var 16) (da_cons (de_lst (da_cons de_non (da_cons (de_lst (da_cons de_int da_nil)) (da_cons (de_tup (da_cons de_int (da_cons de_int da_nil))) (da_cons (de_tup (da_cons (de_len Z.z_len (da_cons (de_var 14) da_nil)) da_nil)) (da_cons (de_tup (da_cons (de_neg de_int) da_nil)) (da_cons (de_tup (da_cons de_int (da_cons de_int da_nil))) da_nil))))))) da_nil))))
      (dss_one (ds_ret (de_eqS (de_repr hgd hr Z.z_repr (da_cons (de_try TA__law_refused TB rfl hmT huT hr (fun A' outer' s' H' E' f' c' Z' H0' M' Wa' hr' tk' wl' => (de_callX (F_lots_over.mono (by omega)) hr' tk' wl' (da_cons (de_var 14) (da_cons (de_mulT1 (de_tup (da_cons de_int da_nil)) (de_var 13)) (da_cons (de_var 17) da_nil))))) rfl) da_nil)) (de_repr hgd hr Z.z_repr (da_cons (de_tup (da_cons de_str (da_cons (de_var 17) da_nil))) da_nil))))))))))))))))), ?_⟩
  intro ds Q h
  unfold fsLaw at h
  split at h <;> try exact h.elim
  rename_i a
  obtain ⟨hS, hM0, q⟩ := h
  have sz : (sizeLine : Nat) = 16777216 := sizeLine_eq
  refine seq_mid (fun sl M => ∃ r : Addr, sl = [some (.ref a), none, none, none, none, none, none, none, none, none, none, none, none, none, none, none, some (.ref r), none, none, none, none] ∧ M r = some .row) (fun E' hn _ => ?_) ?_
  · simp
    exact ⟨hS, fun r hr => hn _ _ ⟨r, rfl, updS_at⟩⟩
  rintro _ M1 ⟨r, rfl, hrow⟩
  refine seq_mid (fun sl M => ∃ mm kk : Nat, 1 ≤ mm ∧ mm ≤ 10 ∧ 1 ≤ kk ∧ kk ≤ 4 ∧ sl = [some (.ref a), some (.int (mm : Nat)), some (.int (kk : Nat)), none, none, none, none, none, none, none, none, none, none, none, none, none, some (.ref r), none, none, none, none] ∧ M r = some .row) (fun E' hn _ => ?_) ?_
  · simp [hrow]
    intro x x0 x1
    by_cases c : x = 0
    · rw [if_pos c]; exact hn _ _ ⟨10, 4, by omega, by omega, by omega, by omega, rfl, hrow⟩
    · rw [if_neg c]; exact hn _ _ ⟨8, 3, by omega, by omega, by omega, by omega, rfl, hrow⟩
  rintro _ M1 ⟨mm, kk, m1, m10, k1, k4, rfl, hrow⟩
  refine seq_mid (fun sl M => ∃ (n : Nat) (lc : Addr), 1 ≤ n ∧ n ≤ 4 ∧ sl = [some (.ref a), some (.int (mm : Nat)), some (.int (kk : Nat)), none, none, none, none, none, none, none, none, none, none, some (.int (n : Nat)), some (.ref lc), none, some (.ref r), none, none, none, none] ∧ M r = some .row ∧ M lc = some (.lst [])) (fun E' hn _ => ?_) ?_
  · simp [hrow]
    refine ⟨by omega, by omega, fun x x0 x1 lc hlc => ?_⟩
    have nr : r ≠ lc := fun z => by rw [← z, hrow] at hlc; cases hlc
    obtain ⟨m, rfl⟩ := Int.eq_ofNat_of_zero_le x0
    exact hn _ _ ⟨1 + m, lc, by omega, by omega, by simp, by rw [updS_ne nr]; exact hrow, updS_at⟩
  rintro _ M1 ⟨n, lc, n1, n4, rfl, hrow, hlc⟩
  refine seq_mid (fun sl M => ∃ (ls : List Lot) (x1 x2 : Option D), 1 ≤ ls.length ∧ ls.length ≤ 10 ∧ (∀ l ∈ ls, LotOk l ∧ l.2.length = n) ∧ sl = [some (.ref a), some (.int (mm : Nat)), some (.int (kk : Nat)), x1, x2, none, none, none, none, none, none, none, none, some (.int (n : Nat)), some (.ref lc), none, some (.ref r), none, none, none, none] ∧ M r = some .row ∧ M lc = some (.lst (ls.map lotD))) (fun E' hn _ => ?_) ?_
  · simp [hrow]
    refine ⟨by omega, by omega, fun x x0 x1 => ?_⟩
    obtain ⟨m, rfl⟩ := Int.eq_ofNat_of_zero_le x0
    refine ⟨by omega, by omega, ?_⟩
    have em : (1 + ((m : Nat) : Int)).toNat = m + 1 := by omega
    rw [em]
    refine forL_inv (fun i : Nat => D.int (0 + (i : Nat))) (fun r2 sl M => ∃ (i : Nat) (ls : List Lot) (x1 x2 : Option D), r2 = List.range' i (m + 1 - i) ∧ i ≤ m + 1 ∧ ls.length = i ∧ (∀ l ∈ ls, LotOk l ∧ l.2.length = n) ∧ sl = [some (.ref a), some (.int (mm : Nat)), some (.int (kk : Nat)), x1, x2, none, none, none, none, none, none, none, none, some (.int (n : Nat)), some (.ref lc), none, some (.ref r), none, none, none, none] ∧ M r = some .row ∧ M lc = some (.lst (ls.map lotD))) ?_ ?_ (List.range (m + 1)) _ _ ⟨0, [], _, _, by rw [List.range_eq_range']; rfl, by omega, rfl, (fun l m => by cases m), rfl, hrow, hlc⟩
    · rintro sl M ⟨i, ls, x1, x2, hr, hi, hll, hok, rfl, hrow, hlc⟩
      have ei := range_end hr hi
      exact ⟨trivial, hn _ _ ⟨ls, _, _, by omega, by omega, hok, rfl, hrow, hlc⟩⟩
    · rintro i' r2 sl M k ⟨i, ls, x1, x2, hr, hi, hll, hok, rfl, hrow, hlc⟩ hk
      obtain ⟨rfl, hlt, hr⟩ := range_rest hr
      refine ⟨trivial, ?_⟩
      simp only [aGName, setD_s, setD_z, Int.zero_add]
      refine seq_mid (fun sl' M' => ∃ (sc : Addr) (ws : List Int), ws.length = n ∧ (∀ x ∈ ws, 0 ≤ x ∧ x ≤ 3) ∧ sl' = [some (.ref a), some (.int (mm : Nat)), some (.int (kk : Nat)), some (.int (i' : Nat)), some (.ref sc), none, none, none, none, none, none, none, none, some (.int (n : Nat)), some (.ref lc), none, some (.ref r), none, none, none, none] ∧ sc ≠ lc ∧ sc ≠ r ∧ M' r = some .row ∧ M' lc = some (.lst (ls.map lotD)) ∧ M' sc = some (.lst (ws.map D.int))) (fun E2 hn2 _ => ?_) ?_
      · simp [hrow]
        refine ⟨by omega, ?_⟩
        refine lc_draws D.int (fun x => 0 ≤ x ∧ x ≤ 3) n (fun i Q2 h2 => ?_) (fun ws hl hw => ?_)
        · simp [hrow]
          exact ⟨fun x x0 x1 => h2 x ⟨x0, by omega⟩, fun x x0 x1 => h2 x ⟨x0, by omega⟩⟩
        · intro sc hsc
          have nl : sc ≠ lc := fun z => by rw [z, hlc] at hsc; cases hsc
          have nr : sc ≠ r := fun z => by rw [z, hrow] at hsc; cases hsc
          exact hn2 _ _ ⟨sc, ws, hl, hw, rfl, nl, nr, by rw [updS_ne nr.symm]; exact hrow, by rw [updS_ne nl.symm]; exact hlc, updS_at⟩
      rintro _ M2 ⟨sc, ws, lw, hw, rfl, nl, nr, hrow2, hlc2, hsc⟩
      refine seq_mid (fun sl' M' => ∃ ws : List Int, ws.length = n ∧ (∀ x ∈ ws, 0 ≤ x ∧ x ≤ 9) ∧ (∃ x ∈ ws, 0 < x) ∧ sl' = [some (.ref a), some (.int (mm : Nat)), some (.int (kk : Nat)), some (.int (i' : Nat)), some (.ref sc), none, none, none, none, none, none, none, none, some (.int (n : Nat)), some (.ref lc), none, some (.ref r), none, none, none, none] ∧ M' r = some .row ∧ M' lc = some (.lst (ls.map lotD)) ∧ M' sc = some (.lst (ws.map D.int))) (fun E2 hn2 _ => ?_) ?_
      · cases ws with
        | nil => simp at lw; omega
        | cons w0 wr =>
          have h0 := hw w0 List.mem_cons_self
          have e2 : (seqA M2 (.ref sc)).bind intsOf = some (w0 :: wr) := by rw [seqA_ref hsc]; exact intsOf_map _
          simp
          rw [ixD_ref hsc, show atI ((w0 :: wr).map D.int) 0 = some (.int w0) from atI_0]
          simp only [e2]
          by_cases c0 : (w0 :: wr).sum = 0
          · rw [if_pos c0]
            simp [hsc]
            rw [ixN_zero]
            refine hn2 _ _ ⟨(w0 + 1) :: wr, by simpa using lw, fun x hx => ?_, ⟨w0 + 1, List.mem_cons_self, by omega⟩, rfl, by rw [updS_ne nr.symm]; exact hrow2, by rw [updS_ne nl.symm]; exact hlc2, by rw [updS_at]; rfl⟩
            rcases List.mem_cons.mp hx with rfl | hx
            · omega
            · have := hw x (List.mem_cons_of_mem _ hx); omega
          · rw [if_neg c0]
            simp [hsc]
            rw [ixN_zero]
            refine hn2 _ _ ⟨w0 :: wr, by simpa using lw, fun x hx => (by have := hw x hx; omega), ?_, rfl, by rw [updS_ne nr.symm]; exact hrow2, by rw [updS_ne nl.symm]; exact hlc2, by rw [updS_at]; rfl⟩
            refine Classical.byContradiction fun z => c0 (sum_0 fun x hx => ?_)
            have := hw x hx
            rcases Int.lt_or_le 0 x with c | c
            · exact absurd ⟨x, hx, c⟩ z
            · omega
      rintro _ M3 ⟨ws, lw, hw, hpos, rfl, hrow3, hlc3, hsc3⟩
      have b3 : seqB M3 (.ref sc) = some (ws.map D.int) := seqB_ref hsc3
      have fin : ∀ x : Int, 0 ≤ x → x < 20 → k [some (.ref a), some (.int (mm : Nat)), some (.int (kk : Nat)), some (.int (i' : Nat)), some (.ref sc), none, none, none, none, none, none, none, none, some (.int (n : Nat)), some (.ref lc), none, some (.ref r), none, none, none, none] (updS M3 lc (.lst (ls.map lotD ++ [.tup [.int x, .tup (ws.map D.int)]]))) := fun x x0 x1 => by
        refine hk _ _ ⟨i' + 1, ls ++ [(x, ws)], _, _, hr, by omega, by rw [List.length_append, hll]; rfl, fun l hl => ?_, rfl, ?_, by rw [updS_at, List.map_append]; rfl⟩
        · rcases List.mem_append.mp hl with hl | hl
          · exact hok l hl
          · rw [List.mem_singleton.mp hl]
            exact ⟨⟨⟨x0, by show x ≤ 1000; omega⟩, by show 1 ≤ ws.length ∧ ws.length ≤ 4; omega, hw, hpos⟩, lw⟩
        · have : r ≠ lc := fun z => by rw [z, hlc3] at hrow3; cases hrow3
          rw [updS_ne this]; exact hrow3
      simp [hrow3]
      rw [hlc3, b3]
      refine ⟨rfl, fun x x0 x1 => ⟨by rw [List.length_map]; omega, fin x x0 (by omega)⟩, fun x x0 x1 => ⟨by rw [List.length_map]; omega, fin x x0 x1⟩⟩
  rintro _ M1 ⟨ls, x1, x2, l1, l10, hls, rfl, hrow, hlc⟩
  refine frz_mid (ds := ls.map lotD) rfl hlc ?_
  have hrow : delS M1 lc r = some .row := by
    have : r ≠ lc := fun z => by rw [z, hlc] at hrow; cases hrow
    rw [delS_ne this]; exact hrow
  generalize delS M1 lc = M1 at hrow
  refine seq_mid (fun sl M => ∃ x3 x4 x5 x6 x7 x8 x9 : Option D, sl = [some (.ref a), some (.int (mm : Nat)), some (.int (kk : Nat)), x1, x2, x3, x4, x5, x6, x7, x8, x9, none, some (.int (n : Nat)), some (.lst (ls.map lotD)), none, some (.ref r), none, none, none, none] ∧ M r = some .row) (fun E' hn _ => ?_) ?_
  · simp
    refine ⟨by omega, ?_⟩
    refine forL_inv (fun i : Nat => D.int (0 + (i : Nat))) (fun r2 sl M => ∃ x3 x4 x5 x6 x7 x8 x9 : Option D, sl = [some (.ref a), some (.int (mm : Nat)), some (.int (kk : Nat)), x1, x2, x3, x4, x5, x6, x7, x8, x9, none, some (.int (n : Nat)), some (.lst (ls.map lotD)), none, some (.ref r), none, none, none, none] ∧ M r = some .row) ?_ ?_ (List.range 3) _ _ ⟨_, _, _, _, _, _, _, rfl, hrow⟩
    · rintro sl M ⟨x3, x4, x5, x6, x7, x8, x9, rfl, hrow⟩
      exact ⟨trivial, hn _ _ ⟨_, _, _, _, _, _, _, rfl, hrow⟩⟩
    · rintro i' r2 sl M k ⟨x3, x4, x5, x6, x7, x8, x9, rfl, hrow⟩ hk
      refine ⟨trivial, ?_⟩
      have hk := fun sl' M' x3 x4 x5 x6 x7 x8 x9 h1 h2 => hk sl' M' ⟨x3, x4, x5, x6, x7, x8, x9, h1, h2⟩
      simp only [aGName, setD_s, setD_z, Int.zero_add]
      refine seq_mid (fun sl' M' => ∃ ws : List Int, ws.length = n ∧ (∀ x ∈ ws, 0 ≤ x ∧ x ≤ 12) ∧ sl' = [some (.ref a), some (.int (mm : Nat)), some (.int (kk : Nat)), x1, x2, some (.int (i' : Nat)), some (intsT ws), some (.non), x6, x7, x8, x9, none, some (.int (n : Nat)), some (.lst (ls.map lotD)), none, some (.ref r), none, none, none, none] ∧ M' r = some .row) (fun E2 hn2 _ => ?_) ?_
      · simp [hrow]
        refine ⟨by omega, ?_⟩
        refine lc_draws D.int (fun x => 0 ≤ x ∧ x ≤ 12) n (fun i Q2 h2 => ?_) (fun ws hl hw => ?_)
        · simp [hrow]
          exact ⟨fun x x0 x1 => h2 x ⟨x0, by omega⟩, fun x x0 x1 => h2 x ⟨x0, by omega⟩, fun x x0 x1 => h2 x ⟨x0, by omega⟩⟩
        · exact hn2 _ _ ⟨ws, hl, hw, rfl, hrow⟩
      rintro _ M2 ⟨ws, lw, hw, rfl, hrow2⟩
      have wne : ws ≠ [] := fun z => by rw [z] at lw; simp at lw; omega
      have lotAt : ∀ x : Int, 0 ≤ x → x < ls.length → atI (ls.map lotD) x = some (lotD (ls.getD x.toNat (0, []))) ∧ (ls.getD x.toNat (0, [])).2.length = n := fun x x0 x1 => by
        obtain ⟨m, rfl⟩ := Int.eq_ofNat_of_zero_le x0
        have hm : m < ls.length := by omega
        have e : ls.getD ((m : Nat) : Int).toNat (0, []) = ls[m] := by rw [Int.toNat_natCast]; simp [List.getElem?_eq_getElem hm]
        rw [e]
        exact ⟨atI_map (List.getElem?_eq_getElem hm), (hls _ (List.getElem_mem hm)).2⟩
      have rowAt : ∀ (l : List Int) (j : Nat), j < l.length → atI (l.map D.int) ((j : Nat) : Int) = some (.int (l.getD j 0)) := fun l j hj => atI_map (by rw [List.getElem?_eq_getElem hj]; simp [List.getElem?_eq_getElem hj])
      have sumI : ∀ p : List Int, (p.map fun x => D.int ((ls.getD (x - 0).toNat (0, [])).1)) = (p.map fun x => (ls.getD (x - 0).toNat (0, [])).1).map D.int := fun p => by rw [List.map_map]; rfl
      have sumK : ∀ (p : List Int) (j : Nat), (p.map fun x => D.int ((ls.getD (x - 0).toNat (0, [])).2.getD j 0)) = (p.map fun x => (ls.getD (x - 0).toNat (0, [])).2.getD j 0).map D.int := fun p j => by rw [List.map_map]; rfl
      have eC : ∀ p : List Int, (p.map fun x => (ls.getD (x - 0).toNat (0, [])).1).sum = cost ls 0 p := fun p => by unfold cost sel; rw [List.map_map]; rfl
      have eG : ∀ (p : List Int) (j : Nat), (p.map fun x => (ls.getD (x - 0).toNat (0, [])).2.getD j 0).sum = got ls 0 p j := fun p j => by unfold got sel; rw [List.map_map]; rfl
      have eO : ∀ p : List Int, ((List.range n).map fun j => D.int (got ls 0 p j - ws.getD j 0)) = (overL ls ws p).map D.int := fun p => by unfold overL; rw [List.map_map, lw]; rfl
      refine seq_mid (fun sl' M' => ∃ x6 x7 x8 : Option D, sl' = [some (.ref a), some (.int (mm : Nat)), some (.int (kk : Nat)), x1, x2, some (.int (i' : Nat)), some (intsT ws), some (ansD (bestS ls 0 ws)), x6, x7, x8, x9, none, some (.int (n : Nat)), some (.lst (ls.map lotD)), none, some (.ref r), none, none, none, none] ∧ M' r = some .row) (fun E2 hn2 _ => ?_) ?_
      · simp
        refine fun _ => ⟨by omega, ?_⟩
        refine forL_inv rowD (fun r3 sl M' => ∃ (pre : List (List Int)) (b : Ans) (x6 x7 x8 : Option D), pre ++ r3 = subL ls.length ∧ BestOf ls ws pre b ∧ sl = [some (.ref a), some (.int (mm : Nat)), some (.int (kk : Nat)), x1, x2, some (.int (i' : Nat)), some (intsT ws), some (ansD b), x6, x7, x8, x9, none, some (.int (n : Nat)), some (.lst (ls.map lotD)), none, some (.ref r), none, none, none, none] ∧ M' r = some .row) ?_ ?_ (subL ls.length) _ _ ⟨[], none, _, _, _, rfl, BestOf.start ls ws, rfl, hrow2⟩
        · rintro sl M ⟨pre, b, x6, x7, x8, hp, hb, rfl, hrow⟩
          rw [List.append_nil] at hp
          subst hp
          have hb := hb.fin
          rw [least_one hb (bestS_ok (fun l hl => ⟨by rw [lw]; exact (hls l hl).2, fun x hx => ((hls l hl).1.m x hx).1⟩) fun x hx => (hw x hx).1)]
          exact ⟨trivial, hn2 _ _ ⟨_, _, _, rfl, hrow⟩⟩
        · rintro pt r3 sl M k3 ⟨pre, b, x6, x7, x8, hp, hb, rfl, hrow⟩ hk3
          refine ⟨trivial, ?_⟩
          have hpt := mem_subR.mp (mem_subL.mp (show pt ∈ subL ls.length by rw [← hp]; simp))
          have hk3 := fun b h x7 x8 => hk3 [some (.ref a), some (.int (mm : Nat)), some (.int (kk : Nat)), x1, x2, some (.int (i' : Nat)), some (intsT ws), some (ansD b), some (intsT pt), x7, x8, x9, none, some (.int (n : Nat)), some (.lst (ls.map lotD)), none, some (.ref r), none, none, none, none] M ⟨pre ++ [pt], b, _, x7, x8, by rw [List.append_assoc]; exact hp, h, rfl, hrow⟩
          simp only [aGName, setD_s, setD_z]
          refine seq_mid (fun sl' M' => sl' = [some (.ref a), some (.int (mm : Nat)), some (.int (kk : Nat)), x1, x2, some (.int (i' : Nat)), some (intsT ws), some (ansD b), some (intsT pt), some (.lst ((overL ls ws pt).map D.int)), x8, x9, none, some (.int (n : Nat)), some (.lst (ls.map lotD)), none, some (.ref r), none, none, none, none] ∧ M' = M) (fun E3 hn3 _ => ?_) ?_
          · simp
            refine ⟨by omega, ?_⟩
            refine lcL_all (fun i : Nat => D.int (0 + (i : Nat))) (fun j => D.int (got ls 0 pt j - ws.getD j 0)) trivial (List.range n) (fun j hj k4 k5 hk4 => ?_) ?_
            · have hj := List.mem_range.mp hj
              simp
              refine ⟨trivial, ?_⟩
              have e2 : ∀ M : Store, seqX M (rowD pt) = some (pt.map D.int) := fun _ => rfl
              simp only [e2]
              refine lcL_all D.int (fun x => D.int ((ls.getD (x - 0).toNat (0, [])).2.getD j 0)) trivial pt (fun x hx k6 k7 hk6 => ?_) ?_
              · have hx := hpt.2 x hx
                obtain ⟨h1, h2⟩ := lotAt x hx.1 (by omega)
                rw [Int.sub_zero] at hk6
                generalize ls.getD x.toNat (0, []) = lt at h1 h2 hk6
                simp
                rw [h1]
                simp
                unfold intsT
                rw [ixD_tup, rowAt _ j (by omega)]
                exact hk6
              · rw [sumK, intsOf_map]
                simp only [eG]
                unfold intsT
                rw [ixD_tup, rowAt _ j (by omega)]
                exact hk4
            · rw [eO]
              exact hn3 _ _ ⟨rfl, rfl⟩
          rintro _ M ⟨rfl, rfl⟩
          refine seq_mid (fun sl' M' => sl' = [some (.ref a), some (.int (mm : Nat)), some (.int (kk : Nat)), x1, x2, some (.int (i' : Nat)), some (intsT ws), some (ansD b), some (intsT pt), some (.lst ((overL ls ws pt).map D.int)), some (vrD (cost ls 0 pt, pt)), x9, none, some (.int (n : Nat)), some (.lst (ls.map lotD)), none, some (.ref r), none, none, none, none] ∧ M' = M) (fun E3 hn3 _ => ?_) ?_
          · simp
            refine ⟨trivial, ?_⟩
            have e2 : ∀ M : Store, seqX M (intsT pt) = some (pt.map D.int) := fun _ => rfl
            simp only [e2]
            refine lcL_all D.int (fun x => D.int ((ls.getD (x - 0).toNat (0, [])).1)) trivial pt (fun x hx k6 k7 hk6 => ?_) ?_
            · have hx := hpt.2 x hx
              obtain ⟨h1, h2⟩ := lotAt x hx.1 (by omega)
              rw [Int.sub_zero] at hk6
              generalize ls.getD x.toNat (0, []) = lt at h1 h2 hk6
              simp
              rw [h1]
              simp
              exact hk6
            · rw [sumI, intsOf_map]
              simp only [eC]
              exact hn3 _ _ ⟨rfl, rfl⟩
          rintro _ M ⟨rfl, rfl⟩
          simp
          have one : overL ls ws pt ≠ [] := fun z => by
            have := congrArg List.length z
            unfold overL at this
            rw [List.length_map, List.length_range] at this
            exact wne (List.eq_nil_of_length_eq_zero this)
          refine min_ints rfl one fun m hm hmin => ?_
          simp only
          by_cases c0 : 0 ≤ m
          · rw [if_pos c0]
            have good : Enough ls 0 ws pt := (over_enough wne).mpr fun x hx => Int.le_trans c0 (hmin x hx)
            cases b with
            | none =>
              rw [if_pos (show AL.isNon (ansD none) = true from rfl)]
              exact hk3 (some (cost ls 0 pt, pt)) (hb.take good fun x e => by cases e) _ _
            | some x =>
              rw [if_neg (show ¬ AL.isNon (ansD (some x)) = true from Bool.false_ne_true)]
              refine ⟨by simp [vrD], by simp [ansD, vrD], (vr_alike [(cost ls 0 pt, pt), x]).1 _ (by simp) _ (by simp [ansD]), (show toPy (vrD (cost ls 0 pt, pt)) ≠ .none from by rw [vr_py]; exact (fun z => by cases z)), ?_⟩
              show if PySem.W.dataLt (toPy (vrD (cost ls 0 pt, pt))) (toPy (vrD x)) = true then _ else _
              rw [vr_lt]
              by_cases c1 : vrLt (cost ls 0 pt, pt) x
              · rw [if_pos (decide_eq_true c1)]
                exact hk3 (some (cost ls 0 pt, pt)) (hb.take good fun y e => by cases e; exact c1) _ _
              · rw [if_neg (by rw [decide_eq_false c1]; exact Bool.false_ne_true)]
                exact hk3 (some x) (hb.keep c1) _ _
          · rw [if_neg c0]
            refine hk3 b (hb.skip fun g => c0 ?_) _ _
            exact (over_enough wne).mp g m hm
      rintro _ M3 ⟨x6, x7, x8, rfl, hrow3⟩
      have hwant : wantOf n (intsT ws) = some ws := by
        unfold wantOf intsT
        simp only [List.length_map, if_pos lw]
        exact rowOf_ints hw
      have lok : LotsOk ls n := ⟨⟨l1, by omega⟩, hls⟩
      have least := bestS_ok (lots := ls) (i := 0) (w := ws) (fun l hl => ⟨by rw [lw]; exact (hls l hl).2, fun x hx => ((hls l hl).1.m x hx).1⟩) fun x hx => (hw x hx).1
      refine seq_mid (fun sl' M' => sl' = [some (.ref a), some (.int (mm : Nat)), some (.int (kk : Nat)), x1, x2, some (.int (i' : Nat)), some (intsT ws), some (ansD (bestS ls 0 ws)), x6, x7, x8, some (ansD (bestS ls 0 ws)), none, some (.int (n : Nat)), some (.lst (ls.map lotD)), none, some (.ref r), none, none, none, none] ∧ M' r = some .row) (fun E2 hn2 _ => ?_) ?_
      · simp
        refine cheap_ok (by rw [puD_tup]; exact pu_lots ls) rfl lok hwant ?_
        exact hn2 _ _ ⟨rfl, hrow3⟩
      rintro _ M4 ⟨rfl, hrow4⟩
      refine seq_mid (fun sl' M' => sl' = [some (.ref a), some (.int (mm : Nat)), some (.int (kk : Nat)), x1, x2, some (.int (i' : Nat)), some (intsT ws), some (ansD (bestS ls 0 ws)), x6, x7, x8, some (ansD (bestS ls 0 ws)), none, some (.int (n : Nat)), some (.lst (ls.map lotD)), none, some (.ref r), none, none, none, none] ∧ M' r = some .row) (fun E2 hn2 _ => ?_) ?_
      · simp
        exact ⟨ans_ok, hn2 _ _ ⟨rfl, hrow4⟩⟩
      rintro _ M4 ⟨rfl, hrow4⟩
      refine seq_mid (fun sl' M' => ∃ pt : List Int, Plc ls.length 0 pt ∧ sl' = [some (.ref a), some (.int (mm : Nat)), some (.int (kk : Nat)), x1, x2, some (.int (i' : Nat)), some (intsT ws), some (ansD (bestS ls 0 ws)), some (intsT pt), x7, x8, some (ansD (bestS ls 0 ws)), none, some (.int (n : Nat)), some (.lst (ls.map lotD)), none, some (.ref r), none, none, none, none] ∧ M' r = some .row) (fun E2 hn2 _ => ?_) ?_
      · simp
        refine fun _ => ⟨by omega, ?_⟩
        refine lcL_inv (fun i : Nat => D.int (0 + (i : Nat))) (fun l acc M' => ∃ (i : Nat) (pt : List Int), l = List.range' i (ls.length - i) ∧ i ≤ ls.length ∧ acc = pt.map D.int ∧ Plc i 0 pt ∧ M' = M4) ?_ ?_ (List.range ls.length) _ _ ⟨0, [], by rw [List.range_eq_range']; rfl, by omega, rfl, ⟨List.Pairwise.nil, fun k m => by cases m⟩, rfl⟩
        · rintro acc M' ⟨i, pt, hr, hi, rfl, hp, rfl⟩
          have ei := range_end hr hi
          subst ei
          exact ⟨trivial, hn2 _ _ ⟨pt, hp, rfl, hrow4⟩⟩
        · rintro x l acc M' kk2 ⟨i, pt, hr, hi, rfl, hp, rfl⟩ hkk
          obtain ⟨rfl, hlt, hr⟩ := range_rest hr
          refine ⟨trivial, ?_⟩
          simp [hrow4]
          intro y _ _
          by_cases c : y = 0
          · rw [if_pos c]
            refine hkk _ _ ⟨x + 1, pt ++ [((x : Nat) : Int)], hr, by omega, by rw [List.map_append]; rfl, ⟨asc_snoc hp.1 fun y hy => by have := hp.2 y hy; omega, fun k m => ?_⟩, rfl⟩
            rcases List.mem_append.mp m with m | m
            · have := hp.2 k m; omega
            · rw [List.mem_singleton.mp m]; omega
          · rw [if_neg c]
            exact hkk _ _ ⟨x + 1, pt, hr, by omega, rfl, ⟨hp.1, fun k m => by have := hp.2 k m; omega⟩, rfl⟩
      rintro _ M5 ⟨pt, hpt, rfl, hrow5⟩
      refine seq_mid (fun sl' M' => sl' = [some (.ref a), some (.int (mm : Nat)), some (.int (kk : Nat)), x1, x2, some (.int (i' : Nat)), some (intsT ws), some (ansD (bestS ls 0 ws)), some (intsT pt), some (intsT (overL ls ws pt)), x8, some (ansD (bestS ls 0 ws)), none, some (.int (n : Nat)), some (.lst (ls.map lotD)), none, some (.ref r), none, none, none, none] ∧ M' r = some .row) (fun E2 hn2 _ => ?_) ?_
      · simp
        refine ⟨by omega, ?_⟩
        refine lcL_all (fun i : Nat => D.int (0 + (i : Nat))) (fun j => D.int (got ls 0 pt j - ws.getD j 0)) trivial (List.range n) (fun j hj k4 k5 hk4 => ?_) ?_
        · have hj := List.mem_range.mp hj
          simp
          refine ⟨trivial, ?_⟩
          have e2 : ∀ M : Store, seqX M (intsT pt) = some (pt.map D.int) := fun _ => rfl
          simp only [e2]
          refine lcL_all D.int (fun x => D.int ((ls.getD (x - 0).toNat (0, [])).2.getD j 0)) trivial pt (fun x hx k6 k7 hk6 => ?_) ?_
          · have hx := hpt.2 x hx
            obtain ⟨h1, h2⟩ := lotAt x hx.1 (by omega)
            rw [Int.sub_zero] at hk6
            generalize ls.getD x.toNat (0, []) = lt at h1 h2 hk6
            simp
            rw [h1]
            simp
            unfold intsT
            rw [ixD_tup, rowAt _ j (by omega)]
            exact hk6
          · rw [sumK, intsOf_map]
            simp only [eG]
            unfold intsT
            rw [ixD_tup, rowAt _ j (by omega)]
            exact hk4
        · rw [eO]
          exact hn2 _ _ ⟨rfl, hrow5⟩
      rintro _ M6 ⟨rfl, hrow6⟩
      refine seq_mid (fun sl' M' => sl' = [some (.ref a), some (.int (mm : Nat)), some (.int (kk : Nat)), x1, x2, some (.int (i' : Nat)), some (intsT ws), some (ansD (bestS ls 0 ws)), some (intsT pt), some (intsT (overL ls ws pt)), x8, some (ansD (bestS ls 0 ws)), none, some (.int (n : Nat)), some (.lst (ls.map lotD)), none, some (.ref r), none, none, none, none] ∧ M' r = some .row) (fun E2 hn2 _ => ?_) ?_
      · simp
        refine over_ok (pu_lots ls) rfl lok hwant hpt ⟨rfl, by simp [intsT], ?_⟩
        exact hn2 _ _ ⟨rfl, hrow6⟩
      rintro _ M7 ⟨rfl, hrow7⟩
      have hk := hk [some (.ref a), some (.int (mm : Nat)), some (.int (kk : Nat)), x1, x2, some (.int (i' : Nat)), some (intsT ws), some (ansD (bestS ls 0 ws)), some (intsT pt), some (intsT (overL ls ws pt)), x8, some (ansD (bestS ls 0 ws)), none, some (.int (n : Nat)), some (.lst (ls.map lotD)), none, some (.ref r), none, none, none, none] M7 _ _ _ _ _ _ _ rfl hrow7
      generalize hB : bestS ls 0 ws = B at hk least
      cases B with
      | none =>
        simp
        exact hk
      | some x =>
        obtain ⟨h1, h2, _, _⟩ := least.yes x rfl
        simp
        rw [if_neg (show ¬ AL.isNon (ansD (some x)) = true from Bool.false_ne_true)]
        show ixD (vrD x) (.int 1) M7 _
        unfold vrD
        rw [ixD_t1]
        refine over_ok (pu_lots ls) rfl lok hwant h1 ?_
        have one : overL ls ws x.2 ≠ [] := fun z => by
          have := congrArg List.length z
          unfold overL at this
          rw [List.length_map, List.length_range] at this
          exact wne (List.eq_nil_of_length_eq_zero this)
        refine min_ints rfl one fun m hm _ => ?_
        have := (over_enough wne).mp h2 m hm
        simp only
        rw [if_neg (by omega)]
        exact hk
  rintro _ M1 ⟨x3, x4, x5, x6, x7, x8, x9, rfl, hrow⟩
  refine seq_mid (fun sl M => ∃ bx : D, puD bx = true ∧ (∀ l, lotOf bx = some l → l.2.length ≠ n) ∧ sl = [some (.ref a), some (.int (mm : Nat)), some (.int (kk : Nat)), x1, x2, x3, x4, x5, x6, x7, x8, x9, some (.lst (ls.map lotD ++ [bx])), some (.int (n : Nat)), some (.lst (ls.map lotD)), none, some (.ref r), none, none, none, none] ∧ M r = some .row) (fun E' hn _ => ?_) ?_
  · have hb := badL_all n n1 n4
    simp only [Bool.and_eq_true] at hb
    obtain ⟨⟨⟨⟨⟨⟨b1, b2⟩, b3⟩, b4⟩, b5⟩, b6⟩, b7⟩ := hb
    simp [hrow]
    have ec : AL.cutD (ls.map lotD) none (some 11) = ls.map lotD := by rw [cutD_map, cutL_to _ (by decide), List.take_of_length_le (by show ls.length ≤ 11; omega)]
    rw [ec, List.length_map]
    have go : ∀ bx, badL n bx = true → E'.nx [some (.ref a), some (.int (mm : Nat)), some (.int (kk : Nat)), x1, x2, x3, x4, x5, x6, x7, x8, x9, some (.lst (ls.map lotD ++ [bx])), some (.int (n : Nat)), some (.lst (ls.map lotD)), none, some (.ref r), none, none, none, none] M1 := fun bx h => hn _ _ ⟨bx, (badL_of h).1, (badL_of h).2, rfl, hrow⟩
    exact ⟨by omega, by omega, by omega, by omega, by omega, by omega, by omega, by omega, by omega, by omega, by omega, by omega, ⟨by omega, go _ b1⟩, ⟨by omega, go _ b2⟩, ⟨by omega, go _ b3⟩, ⟨by omega, go _ b4⟩, ⟨by omega, go _ b5⟩, ⟨by omega, go _ b6⟩, by omega, go _ b7⟩
  rintro _ M1 ⟨bx, pbx, hbx, rfl, hrow⟩
  refine seq_mid (fun sl M => ∃ dd : D, (wantOf n dd = none ∧ puD dd = true ∧ okD 59 dd = true ∧ shD dd = true ∧ (reprD (.tup [.str "wanted", dd])).length ≤ sizeLine) ∧ sl = [some (.ref a), some (.int (mm : Nat)), some (.int (kk : Nat)), x1, x2, x3, x4, x5, x6, x7, x8, x9, some (.lst (ls.map lotD ++ [bx])), some (.int (n : Nat)), some (.lst (ls.map lotD)), some (dd), some (.ref r), none, none, none, none] ∧ M r = some .row) (fun E' hn _ => ?_) ?_
  · have hb := oddW_all n n1 n4
    simp only [Bool.and_eq_true] at hb
    obtain ⟨⟨⟨⟨⟨b1, b2⟩, b3⟩, b4⟩, b5⟩, b6⟩ := hb
    simp [hrow]
    have go : ∀ dd, oddW n dd = true → E'.nx [some (.ref a), some (.int (mm : Nat)), some (.int (kk : Nat)), x1, x2, x3, x4, x5, x6, x7, x8, x9, some (.lst (ls.map lotD ++ [bx])), some (.int (n : Nat)), some (.lst (ls.map lotD)), some (dd), some (.ref r), none, none, none, none] M1 := fun dd h => hn _ _ ⟨dd, oddW_of h, rfl, hrow⟩
    exact ⟨by omega, by omega, by omega, by omega, by omega, by omega, by omega, by omega, go _ b1, go _ b2, go _ b3, go _ b4, go _ b5, go _ b6⟩
  rintro _ M1 ⟨dd, ⟨hdw, hpd, hok, hsh, hrl⟩, rfl, hrow⟩
  have lok : LotsOk ls n := ⟨⟨l1, by omega⟩, hls⟩
  have pls : puD (.lst (ls.map lotD)) = true := by rw [puD_lst]; exact pu_lots ls
  have lne : ls ≠ [] := fun z => by rw [z] at l1; simp at l1
  have pbad : puD (.lst (ls.map lotD ++ [bx])) = true := by
    rw [puD_lst]
    refine puDs_of fun y my => ?_
    rcases List.mem_append.mp my with my | my
    · exact puDs_mem (pu_lots ls) my
    · rw [List.mem_singleton.mp my]; exact pbx
  have hbad : ckL (.lst (ls.map lotD ++ [bx])) = .inl (((ls.length : Nat)) : Int) := by
    unfold ckL
    have e : seqs (.lst (ls.map lotD ++ [bx])) = some (ls.map lotD ++ [bx]) := rfl
    rw [e]
    simp only [List.length_append, List.length_map, List.length_singleton]
    rw [if_pos (by omega), lkLots_end hbx hls (.inr ⟨rfl, lne⟩), Nat.zero_add]
  have sk : PyData.strOk "lots" = true := by decide +kernel
  refine seq_mid (fun sl M => sl = [some (.ref a), some (.int (mm : Nat)), some (.int (kk : Nat)), x1, x2, x3, x4, x5, x6, x7, x8, x9, some (.lst (ls.map lotD ++ [bx])), some (.int (n : Nat)), some (.lst (ls.map lotD)), some (dd), some (.ref r), none, none, none, none] ∧ M r = some .row) (fun E' hn _ => ?_) ?_
  · simp
    refine cheap_cl pbad rfl hbad ?_
    simp [aRef, sk, ne10, ne10.symm, ne20, ne20.symm, ne21, ne21.symm]
    exact fun _ => hn _ _ ⟨rfl, hrow⟩
  rintro _ M1 ⟨rfl, hrow⟩
  refine seq_mid (fun sl M => sl = [some (.ref a), some (.int (mm : Nat)), some (.int (kk : Nat)), x1, x2, x3, x4, x5, x6, x7, x8, x9, some (.lst (ls.map lotD ++ [bx])), some (.int (n : Nat)), some (.lst (ls.map lotD)), some (dd), some (.ref r), none, none, none, none] ∧ M r = some .row) (fun E' hn _ => ?_) ?_
  · have e1 : ∃ l, AL.cutD (ls.map lotD) none (some 1) = [lotD l] := by
      rw [cutD_map, cutL_to _ (by decide)]
      cases ls with
      | nil => exact absurd rfl lne
      | cons l r => exact ⟨l, rfl⟩
    obtain ⟨l, e1⟩ := e1
    have pl : puD (lotD l) = true := puDs_mem (pu_lots [l]) List.mem_cons_self
    simp [hrow]
    rw [e1]
    refine ⟨by show 1 * 13 ≤ sizeLine; omega, cheap_cl (v := -1) rfl rfl rfl ?_, cheap_cl (v := -1) rfl rfl rfl ?_, cheap_cl (v := -1) ?_ rfl rfl ?_, cheap_cl (v := -1) rfl rfl rfl ?_⟩
    rotate_left 2
    · rw [puD_lst]
      refine puDs_of fun y my => ?_
      simp at my
      rw [my]
      exact pl
    all_goals
      simp [aRef, sk, ne10, ne10.symm, ne20, ne20.symm, ne21, ne21.symm]
      exact hn _ _ ⟨rfl, hrow⟩
  rintro _ M1 ⟨rfl, hrow⟩
  refine seq_mid (fun sl M => sl = [some (.ref a), some (.int (mm : Nat)), some (.int (kk : Nat)), x1, x2, x3, x4, x5, x6, x7, x8, x9, some (.lst (ls.map lotD ++ [bx])), some (.int (n : Nat)), some (.lst (ls.map lotD)), some (dd), some (.ref r), none, none, none, none] ∧ M r = some .row) (fun E' hn _ => ?_) ?_
  · simp
    refine cheap_cw pls hpd (ckL_ok rfl lok) hdw ?_
    simp [aRef, ne10, ne10.symm, ne20, ne20.symm, ne21, ne21.symm, reprA]
    exact ⟨⟨by decide +kernel, hok⟩, hsh, hrl, ⟨by decide +kernel, hok⟩, hsh, hrl, hn _ _ ⟨rfl, hrow⟩⟩
  rintro _ M1 ⟨rfl, hrow⟩
  refine seq_mid (fun sl M => ∃ dw : D, (bghtOf ls.length dw = none ∧ puD dw = true ∧ okD 59 dw = true ∧ shD dw = true ∧ (reprD (.tup [.str "bought", dw])).length ≤ sizeLine) ∧ sl = [some (.ref a), some (.int (mm : Nat)), some (.int (kk : Nat)), x1, x2, x3, x4, x5, x6, x7, x8, x9, some (.lst (ls.map lotD ++ [bx])), some (.int (n : Nat)), some (.lst (ls.map lotD)), some (dd), some (.ref r), some (dw), none, none, none] ∧ M r = some .row) (fun E' hn _ => ?_) ?_
  · have hb := oddB_all ls.length l1 l10
    simp only [Bool.and_eq_true] at hb
    obtain ⟨⟨⟨⟨⟨b1, b2⟩, b3⟩, b4⟩, b5⟩, b6⟩ := hb
    simp [hrow]
    have go : ∀ dw, oddB ls.length dw = true → E'.nx [some (.ref a), some (.int (mm : Nat)), some (.int (kk : Nat)), x1, x2, x3, x4, x5, x6, x7, x8, x9, some (.lst (ls.map lotD ++ [bx])), some (.int (n : Nat)), some (.lst (ls.map lotD)), some (dd), some (.ref r), some (dw), none, none, none] M1 := fun dw h => hn _ _ ⟨dw, oddB_of h, rfl, hrow⟩
    exact fun _ => ⟨go _ b1, go _ b2, go _ b3, go _ b4, go _ b5, go _ b6⟩
  rintro _ M1 ⟨dw, ⟨hbg, hpn, hokn, hshn, hrln⟩, rfl, hrow⟩
  have h1w : wantOf n (.tup (List.replicate n (.int 1))) = some (List.replicate n 1) := by
    have : n = 1 ∨ n = 2 ∨ n = 3 ∨ n = 4 := by omega
    rcases this with rfl | rfl | rfl | rfl <;> decide +kernel
  have p1w : puD (.tup (List.replicate n (.int 1))) = true := by
    rw [puD_tup]
    exact puDs_of fun y my => by rw [List.eq_of_mem_replicate my]; rfl
  simp
  refine ⟨by omega, by omega, over_cb pls p1w hpn rfl lok h1w hbg ?_⟩
  simp [aRef, ne10, ne10.symm, ne20, ne20.symm, ne21, ne21.symm, reprA]
  exact ⟨⟨by decide +kernel, hokn⟩, hshn, hrln, ⟨by decide +kernel, hokn⟩, hshn, hrln, M1, Drop.refl M1, q M1⟩
end
end K37
set_option Elab.async false
set_option maxRecDepth 100000
set_option maxHeartbeats 4000000
/-! E37: what the top has written, the head, the end. -/
namespace K37
open PySem PySem.Spec PyProof.Rows L2 LamX AL
abbrev s_init : Stmt := (inClass (top 6) 0)
abbrev s__law_taken : Stmt := s_law_taken
abbrev s__law_pick : Stmt := s_law_pick
abbrev s__law_alike : Stmt := s_law_alike
abbrev s__law_subsets : Stmt := s_law_subsets
abbrev s__law_refused : Stmt := (top 26)
theorem all_mk {l : PySem.W.OpenLaw} {w : World} {K : PySem.W.Frag} {h : Heap} {mg : Str → Option Value} {fa : Addr} (X : K.In h) (G : h.Ns mainGlobals mg) (hfa : mg "law" = some (.ref fa)) 
    {C0 N0 : Addr} {nm0 q0 : Str} {bs0 bm0 : List Value} {sn0 : List Str} {sub0 : List Value} {ab0 : Bool} {col0 : Option Bool} {dd0 : Option Addr} {m00 m10 m20 m30 m50 : Option Value}
    {C1 N1 : Addr} {nm1 q1 : Str} {bs1 bm1 : List Value} {sn1 : List Str} {sub1 : List Value} {ab1 : Bool} {col1 : Option Bool} {dd1 : Option Addr} {m01 m11 m21 m31 m51 : Option Value}
    {C2 N2 : Addr} {nm2 q2 : Str} {bs2 bm2 : List Value} {sn2 : List Str} {sub2 : List Value} {ab2 : Bool} {col2 : Option Bool} {dd2 : Option Addr} {m02 m12 m22 m32 m52 : Option Value}
    {fI TI : Addr} {odI anI : Option Addr} {slI : Array (Option Value)} {ocI kVI dcI pmI cdI ctI : Value} {oT : Obj} {nT : Nat}
    {f_is_integer : Addr} {od_is_integer an_is_integer : Option Addr} {sl_is_integer : Array (Option Value)} {oc_is_integer kV_is_integer dc_is_integer pm_is_integer ct_is_integer : Value} {cd_is_integer : Value}
    {f_is_within : Addr} {od_is_within an_is_within : Option Addr} {sl_is_within : Array (Option Value)} {oc_is_within kV_is_within dc_is_within pm_is_within ct_is_within : Value} {cd_is_within : Value}
    {f_is_row : Addr} {od_is_row an_is_row : Option Addr} {sl_is_row : Array (Option Value)} {oc_is_row kV_is_row dc_is_row pm_is_row ct_is_row : Value} {cd_is_row : Value}
    {f_is_tuple_of : Addr} {od_is_tuple_of an_is_tuple_of : Option Addr} {sl_is_tuple_of : Array (Option Value)} {oc_is_tuple_of kV_is_tuple_of dc_is_tuple_of pm_is_tuple_of ct_is_tuple_of : Value} {cd_is_tuple_of : Value}
    {f_is_lot : Addr} {od_is_lot an_is_lot : Option Addr} {sl_is_lot : Array (Option Value)} {oc_is_lot kV_is_lot dc_is_lot pm_is_lot ct_is_lot : Value} {cd_is_lot : Value}
    {f_check_lots : Addr} {od_check_lots an_check_lots : Option Addr} {sl_check_lots : Array (Option Value)} {oc_check_lots kV_check_lots dc_check_lots pm_check_lots ct_check_lots : Value} {cd_check_lots : Value}
    {f_cheapest_lots : Addr} {od_cheapest_lots an_cheapest_lots : Option Addr} {sl_cheapest_lots : Array (Option Value)} {oc_cheapest_lots kV_cheapest_lots dc_cheapest_lots pm_cheapest_lots ct_cheapest_lots : Value} {cd_cheapest_lots : Value}
    {f_lots_over : Addr} {od_lots_over an_lots_over : Option Addr} {sl_lots_over : Array (Option Value)} {oc_lots_over kV_lots_over dc_lots_over pm_lots_over ct_lots_over : Value} {cd_lots_over : Value}
    {f__law_taken : Addr} {od__law_taken an__law_taken : Option Addr} {sl__law_taken : Array (Option Value)} {oc__law_taken kV__law_taken dc__law_taken pm__law_taken ct__law_taken : Value} {cd__law_taken : Value}
    {f__law_pick : Addr} {od__law_pick an__law_pick : Option Addr} {sl__law_pick : Array (Option Value)} {oc__law_pick kV__law_pick dc__law_pick pm__law_pick ct__law_pick : Value} {cd__law_pick : Value}
    {f__law_alike : Addr} {od__law_alike an__law_alike : Option Addr} {sl__law_alike : Array (Option Value)} {oc__law_alike kV__law_alike dc__law_alike pm__law_alike ct__law_alike : Value} {cd__law_alike : Value}
    {f__law_subsets : Addr} {od__law_subsets an__law_subsets : Option Addr} {sl__law_subsets : Array (Option Value)} {oc__law_subsets kV__law_subsets dc__law_subsets pm__law_subsets ct__law_subsets : Value} {cd__law_subsets : Value}
    {f__law_refused : Addr} {od__law_refused an__law_refused : Option Addr} {sl__law_refused : Array (Option Value)} {oc__law_refused kV__law_refused dc__law_refused pm__law_refused ct__law_refused : Value} {cd__law_refused : Value}
    {f_law : Addr} {od_law an_law : Option Addr} {sl_law : Array (Option Value)} {oc_law kV_law dc_law pm_law ct_law : Value}
    {cL_law pL_law : Addr}
    {CC_Buyer : Addr}
    {f_Buyer___init__ : Addr} {od_Buyer___init__ an_Buyer___init__ : Option Addr} {sl_Buyer___init__ : Array (Option Value)} {oc_Buyer___init__ kV_Buyer___init__ dc_Buyer___init__ pm_Buyer___init__ cd_Buyer___init__ ct_Buyer___init__ : Value}
    {f_Buyer_best : Addr} {od_Buyer_best an_Buyer_best : Option Addr} {sl_Buyer_best : Array (Option Value)} {oc_Buyer_best kV_Buyer_best dc_Buyer_best pm_Buyer_best cd_Buyer_best ct_Buyer_best : Value}
    {t_MOST_LOTS : Tok}
    {t_MOST_KINDS : Tok}
    {t_MOST_PRICE : Tok}
    {t_MOST_IN : Tok}
    {t_MOST_WANTED : Tok}
    (aC0 : PySem.W.nsIn K mainGlobals "BadBought" = some (some (.ref C0)))
    (xL0 : K.lookup C0 = some (excClassObj nm0 q0 C0 N0 bs0 bm0 true sn0 sub0 ab0 col0 dd0 m00 m10 m20 m30 m50 "ValueError.__new__"))
    (rv0 : PySem.HandSPX.refsVE bm0 = true)
    (sa0 : PySem.W.findIn K (.ref C0) "__setattr__" = some (some (.builtin "object.__setattr__")))
    (ga0 : PySem.W.findIn K (.ref C0) "__getattribute__" = some (some (.builtin "BaseException.__getattribute__")))
    (gg0 : PySem.W.findIn K (.ref C0) "__getattr__" = some none)
    (nv0 : PySem.W.findIn K (.ref C0) "value" = some none)
    (iC0 : PySem.W.findIn K (.ref C0) "__init__" = some (some (.ref fI)))
    (kC0 : PySem.W.keepIn K (.ref C0) = true)
    (eC0 : PySem.W.subIn K (.ref C0) (.type "BaseException") = some true)
    (tC0 : PySem.W.typeIn K (.ref C0) = some (.type "type"))
    (hC0 : PySem.W.hasDictIn K C0 = true)
    (aC1 : PySem.W.nsIn K mainGlobals "BadLots" = some (some (.ref C1)))
    (xL1 : K.lookup C1 = some (excClassObj nm1 q1 C1 N1 bs1 bm1 true sn1 sub1 ab1 col1 dd1 m01 m11 m21 m31 m51 "ValueError.__new__"))
    (rv1 : PySem.HandSPX.refsVE bm1 = true)
    (sa1 : PySem.W.findIn K (.ref C1) "__setattr__" = some (some (.builtin "object.__setattr__")))
    (ga1 : PySem.W.findIn K (.ref C1) "__getattribute__" = some (some (.builtin "BaseException.__getattribute__")))
    (gg1 : PySem.W.findIn K (.ref C1) "__getattr__" = some none)
    (nv1 : PySem.W.findIn K (.ref C1) "value" = some none)
    (iC1 : PySem.W.findIn K (.ref C1) "__init__" = some (some (.ref fI)))
    (kC1 : PySem.W.keepIn K (.ref C1) = true)
    (eC1 : PySem.W.subIn K (.ref C1) (.type "BaseException") = some true)
    (tC1 : PySem.W.typeIn K (.ref C1) = some (.type "type"))
    (hC1 : PySem.W.hasDictIn K C1 = true)
    (aC2 : PySem.W.nsIn K mainGlobals "BadWanted" = some (some (.ref C2)))
    (xL2 : K.lookup C2 = some (excClassObj nm2 q2 C2 N2 bs2 bm2 true sn2 sub2 ab2 col2 dd2 m02 m12 m22 m32 m52 "ValueError.__new__"))
    (rv2 : PySem.HandSPX.refsVE bm2 = true)
    (sa2 : PySem.W.findIn K (.ref C2) "__setattr__" = some (some (.builtin "object.__setattr__")))
    (ga2 : PySem.W.findIn K (.ref C2) "__getattribute__" = some (some (.builtin "BaseException.__getattribute__")))
    (gg2 : PySem.W.findIn K (.ref C2) "__getattr__" = some none)
    (nv2 : PySem.W.findIn K (.ref C2) "value" = some none)
    (iC2 : PySem.W.findIn K (.ref C2) "__init__" = some (some (.ref fI)))
    (kC2 : PySem.W.keepIn K (.ref C2) = true)
    (eC2 : PySem.W.subIn K (.ref C2) (.type "BaseException") = some true)
    (tC2 : PySem.W.typeIn K (.ref C2) = some (.type "type"))
    (hC2 : PySem.W.hasDictIn K C2 = true)
    (ex0_0 : PySem.W.exmOne K (.ref C0) (.ref C0) = some true)
    (ex0_1 : PySem.W.exmOne K (.ref C0) (.ref C1) = some false)
    (ex0_2 : PySem.W.exmOne K (.ref C0) (.ref C2) = some false)
    (ex1_0 : PySem.W.exmOne K (.ref C1) (.ref C0) = some false)
    (ex1_1 : PySem.W.exmOne K (.ref C1) (.ref C1) = some true)
    (ex1_2 : PySem.W.exmOne K (.ref C1) (.ref C2) = some false)
    (ex2_0 : PySem.W.exmOne K (.ref C2) (.ref C0) = some false)
    (ex2_1 : PySem.W.exmOne K (.ref C2) (.ref C1) = some false)
    (ex2_2 : PySem.W.exmOne K (.ref C2) (.ref C2) = some true)
    (ne1_0 : C1 ≠ C0)
    (ne2_0 : C2 ≠ C0)
    (ne2_1 : C2 ≠ C1)
    (lI : K.lookup fI = some ⟨ocI, odI, .func (PySem.W.fnOf "__init__" "SpareError.__init__" (defArgs s_init) (defBody s_init) (defScope s_init) (.ref TI) kVI dcI pmI anI cdI ctI), slI⟩)
    (kI : PySem.W.keepIn K (.ref fI) = true)
    (lT : K.lookup TI = some oT)
    (oT_ : oT.data = .seq (#[Value.none] : Array Value) nT)
    (cI : PySem.W.codeIn K cdI "SpareError.__init__" = true)
    (tI : PySem.W.typeIn K (.ref fI) = some (.type "function"))
    (a_is_integer : PySem.W.nsIn K mainGlobals "is_integer" = some (some (.ref f_is_integer)))
    (l_is_integer : K.lookup f_is_integer = some ⟨oc_is_integer, od_is_integer, .func (PySem.W.fnOf "is_integer" "is_integer" (defArgs s_is_integer) (defBody s_is_integer) (defScope s_is_integer) .none kV_is_integer dc_is_integer pm_is_integer an_is_integer cd_is_integer ct_is_integer), sl_is_integer⟩)
    (c_is_integer : PySem.W.codeIn K cd_is_integer "is_integer" = true)
    (k_is_integer : PySem.W.keepIn K (.ref f_is_integer) = true)
    (a_is_within : PySem.W.nsIn K mainGlobals "is_within" = some (some (.ref f_is_within)))
    (l_is_within : K.lookup f_is_within = some ⟨oc_is_within, od_is_within, .func (PySem.W.fnOf "is_within" "is_within" (defArgs s_is_within) (defBody s_is_within) (defScope s_is_within) .none kV_is_within dc_is_within pm_is_within an_is_within cd_is_within ct_is_within), sl_is_within⟩)
    (c_is_within : PySem.W.codeIn K cd_is_within "is_within" = true)
    (k_is_within : PySem.W.keepIn K (.ref f_is_within) = true)
    (a_is_row : PySem.W.nsIn K mainGlobals "is_row" = some (some (.ref f_is_row)))
    (l_is_row : K.lookup f_is_row = some ⟨oc_is_row, od_is_row, .func (PySem.W.fnOf "is_row" "is_row" (defArgs s_is_row) (defBody s_is_row) (defScope s_is_row) .none kV_is_row dc_is_row pm_is_row an_is_row cd_is_row ct_is_row), sl_is_row⟩)
    (c_is_row : PySem.W.codeIn K cd_is_row "is_row" = true)
    (k_is_row : PySem.W.keepIn K (.ref f_is_row) = true)
    (a_is_tuple_of : PySem.W.nsIn K mainGlobals "is_tuple_of" = some (some (.ref f_is_tuple_of)))
    (l_is_tuple_of : K.lookup f_is_tuple_of = some ⟨oc_is_tuple_of, od_is_tuple_of, .func (PySem.W.fnOf "is_tuple_of" "is_tuple_of" (defArgs s_is_tuple_of) (defBody s_is_tuple_of) (defScope s_is_tuple_of) .none kV_is_tuple_of dc_is_tuple_of pm_is_tuple_of an_is_tuple_of cd_is_tuple_of ct_is_tuple_of), sl_is_tuple_of⟩)
    (c_is_tuple_of : PySem.W.codeIn K cd_is_tuple_of "is_tuple_of" = true)
    (k_is_tuple_of : PySem.W.keepIn K (.ref f_is_tuple_of) = true)
    (a_is_lot : PySem.W.nsIn K mainGlobals "is_lot" = some (some (.ref f_is_lot)))
    (l_is_lot : K.lookup f_is_lot = some ⟨oc_is_lot, od_is_lot, .func (PySem.W.fnOf "is_lot" "is_lot" (defArgs s_is_lot) (defBody s_is_lot) (defScope s_is_lot) .none kV_is_lot dc_is_lot pm_is_lot an_is_lot cd_is_lot ct_is_lot), sl_is_lot⟩)
    (c_is_lot : PySem.W.codeIn K cd_is_lot "is_lot" = true)
    (k_is_lot : PySem.W.keepIn K (.ref f_is_lot) = true)
    (a_check_lots : PySem.W.nsIn K mainGlobals "check_lots" = some (some (.ref f_check_lots)))
    (l_check_lots : K.lookup f_check_lots = some ⟨oc_check_lots, od_check_lots, .func (PySem.W.fnOf "check_lots" "check_lots" (defArgs s_check_lots) (defBody s_check_lots) (defScope s_check_lots) .none kV_check_lots dc_check_lots pm_check_lots an_check_lots cd_check_lots ct_check_lots), sl_check_lots⟩)
    (c_check_lots : PySem.W.codeIn K cd_check_lots "check_lots" = true)
    (k_check_lots : PySem.W.keepIn K (.ref f_check_lots) = true)
    (a_cheapest_lots : PySem.W.nsIn K mainGlobals "cheapest_lots" = some (some (.ref f_cheapest_lots)))
    (l_cheapest_lots : K.lookup f_cheapest_lots = some ⟨oc_cheapest_lots, od_cheapest_lots, .func (PySem.W.fnOf "cheapest_lots" "cheapest_lots" (defArgs s_cheapest_lots) (defBody s_cheapest_lots) (defScope s_cheapest_lots) .none kV_cheapest_lots dc_cheapest_lots pm_cheapest_lots an_cheapest_lots cd_cheapest_lots ct_cheapest_lots), sl_cheapest_lots⟩)
    (c_cheapest_lots : PySem.W.codeIn K cd_cheapest_lots "cheapest_lots" = true)
    (k_cheapest_lots : PySem.W.keepIn K (.ref f_cheapest_lots) = true)
    (a_lots_over : PySem.W.nsIn K mainGlobals "lots_over" = some (some (.ref f_lots_over)))
    (l_lots_over : K.lookup f_lots_over = some ⟨oc_lots_over, od_lots_over, .func (PySem.W.fnOf "lots_over" "lots_over" (defArgs s_lots_over) (defBody s_lots_over) (defScope s_lots_over) .none kV_lots_over dc_lots_over pm_lots_over an_lots_over cd_lots_over ct_lots_over), sl_lots_over⟩)
    (c_lots_over : PySem.W.codeIn K cd_lots_over "lots_over" = true)
    (k_lots_over : PySem.W.keepIn K (.ref f_lots_over) = true)
    (a__law_taken : PySem.W.nsIn K mainGlobals "_law_taken" = some (some (.ref f__law_taken)))
    (l__law_taken : K.lookup f__law_taken = some ⟨oc__law_taken, od__law_taken, .func (PySem.W.fnOf "_law_taken" "_law_taken" (defArgs s__law_taken) (defBody s__law_taken) (defScope s__law_taken) .none kV__law_taken dc__law_taken pm__law_taken an__law_taken cd__law_taken ct__law_taken), sl__law_taken⟩)
    (c__law_taken : PySem.W.codeIn K cd__law_taken "_law_taken" = true)
    (k__law_taken : PySem.W.keepIn K (.ref f__law_taken) = true)
    (a__law_pick : PySem.W.nsIn K mainGlobals "_law_pick" = some (some (.ref f__law_pick)))
    (l__law_pick : K.lookup f__law_pick = some ⟨oc__law_pick, od__law_pick, .func (PySem.W.fnOf "_law_pick" "_law_pick" (defArgs s__law_pick) (defBody s__law_pick) (defScope s__law_pick) .none kV__law_pick dc__law_pick pm__law_pick an__law_pick cd__law_pick ct__law_pick), sl__law_pick⟩)
    (c__law_pick : PySem.W.codeIn K cd__law_pick "_law_pick" = true)
    (k__law_pick : PySem.W.keepIn K (.ref f__law_pick) = true)
    (a__law_alike : PySem.W.nsIn K mainGlobals "_law_alike" = some (some (.ref f__law_alike)))
    (l__law_alike : K.lookup f__law_alike = some ⟨oc__law_alike, od__law_alike, .func (PySem.W.fnOf "_law_alike" "_law_alike" (defArgs s__law_alike) (defBody s__law_alike) (defScope s__law_alike) .none kV__law_alike dc__law_alike pm__law_alike an__law_alike cd__law_alike ct__law_alike), sl__law_alike⟩)
    (c__law_alike : PySem.W.codeIn K cd__law_alike "_law_alike" = true)
    (k__law_alike : PySem.W.keepIn K (.ref f__law_alike) = true)
    (a__law_subsets : PySem.W.nsIn K mainGlobals "_law_subsets" = some (some (.ref f__law_subsets)))
    (l__law_subsets : K.lookup f__law_subsets = some ⟨oc__law_subsets, od__law_subsets, .func (PySem.W.fnOf "_law_subsets" "_law_subsets" (defArgs s__law_subsets) (defBody s__law_subsets) (defScope s__law_subsets) .none kV__law_subsets dc__law_subsets pm__law_subsets an__law_subsets cd__law_subsets ct__law_subsets), sl__law_subsets⟩)
    (c__law_subsets : PySem.W.codeIn K cd__law_subsets "_law_subsets" = true)
    (k__law_subsets : PySem.W.keepIn K (.ref f__law_subsets) = true)
    (a__law_refused : PySem.W.nsIn K mainGlobals "_law_refused" = some (some (.ref f__law_refused)))
    (l__law_refused : K.lookup f__law_refused = some ⟨oc__law_refused, od__law_refused, .func (PySem.W.fnOf "_law_refused" "_law_refused" (defArgs s__law_refused) (defBody s__law_refused) (defScope s__law_refused) .none kV__law_refused dc__law_refused pm__law_refused an__law_refused cd__law_refused ct__law_refused), sl__law_refused⟩)
    (c__law_refused : PySem.W.codeIn K cd__law_refused "_law_refused" = true)
    (k__law_refused : PySem.W.keepIn K (.ref f__law_refused) = true)
    (a_law : PySem.W.nsIn K mainGlobals "law" = some (some (.ref f_law)))
    (l_law : K.lookup f_law = some ⟨oc_law, od_law, .func (PySem.W.fnOf "law" "law" (defArgs s_law) (defBody s_law) (defScope s_law) .none kV_law dc_law pm_law an_law (.ref cL_law) ct_law), sl_law⟩)
    (c_law : PySem.W.codeIn K (.ref cL_law) "law" = true)
    (k_law : PySem.W.keepIn K (.ref f_law) = true)
    (ac_Buyer : PySem.W.nsIn K mainGlobals "Buyer" = some (some (.ref CC_Buyer)))
    (pg_Buyer : PySem.W.plainGet K CC_Buyer Str.empty = true)
    (hd_Buyer : PySem.W.hasDictIn K CC_Buyer = true)
    (po_Buyer : PySem.W.plainOver K CC_Buyer = true)
    (sa_Buyer : PySem.W.findIn K (.ref CC_Buyer) "__setattr__" = some (some (.builtin "object.__setattr__")))
    (mk_Buyer : PySem.W.makesIn K CC_Buyer = true)
    (kc_Buyer : PySem.W.keepIn K (.ref CC_Buyer) = true)
    (nf_Buyer_lots : PySem.W.findIn K (.ref CC_Buyer) "lots" = some none)
    (nf_Buyer_known : PySem.W.findIn K (.ref CC_Buyer) "known" = some none)
    (am_Buyer___init__ : PySem.W.findIn K (.ref CC_Buyer) "__init__" = some (some (.ref f_Buyer___init__)))
    (im_Buyer___init__ : PySem.W.isFn K (.ref f_Buyer___init__) = true)
    (lm_Buyer___init__ : K.lookup f_Buyer___init__ = some ⟨oc_Buyer___init__, od_Buyer___init__, .func (PySem.W.fnOf "__init__" "Buyer.__init__" (defArgs s_binit) (defBody s_binit) (defScope s_binit) .none kV_Buyer___init__ dc_Buyer___init__ pm_Buyer___init__ an_Buyer___init__ cd_Buyer___init__ ct_Buyer___init__), sl_Buyer___init__⟩)
    (cm_Buyer___init__ : PySem.W.codeIn K cd_Buyer___init__ "Buyer.__init__" = true)
    (km_Buyer___init__ : PySem.W.keepIn K (.ref f_Buyer___init__) = true)
    (am_Buyer_best : PySem.W.findIn K (.ref CC_Buyer) "best" = some (some (.ref f_Buyer_best)))
    (im_Buyer_best : PySem.W.isFn K (.ref f_Buyer_best) = true)
    (lm_Buyer_best : K.lookup f_Buyer_best = some ⟨oc_Buyer_best, od_Buyer_best, .func (PySem.W.fnOf "best" "Buyer.best" (defArgs s_best) (defBody s_best) (defScope s_best) .none kV_Buyer_best dc_Buyer_best pm_Buyer_best an_Buyer_best cd_Buyer_best ct_Buyer_best), sl_Buyer_best⟩)
    (cm_Buyer_best : PySem.W.codeIn K cd_Buyer_best "Buyer.best" = true)
    (km_Buyer_best : PySem.W.keepIn K (.ref f_Buyer_best) = true)
    (z_all : PySem.W.nsIn K mainGlobals "all" = some none)
    (z_any : PySem.W.nsIn K mainGlobals "any" = some none)
    (z_bool : PySem.W.nsIn K mainGlobals "bool" = some none)
    (z_dict : PySem.W.nsIn K mainGlobals "dict" = some none)
    (z_enumerate : PySem.W.nsIn K mainGlobals "enumerate" = some none)
    (z_int : PySem.W.nsIn K mainGlobals "int" = some none)
    (z_isinstance : PySem.W.nsIn K mainGlobals "isinstance" = some none)
    (z_len : PySem.W.nsIn K mainGlobals "len" = some none)
    (z_list : PySem.W.nsIn K mainGlobals "list" = some none)
    (z_max : PySem.W.nsIn K mainGlobals "max" = some none)
    (z_min : PySem.W.nsIn K mainGlobals "min" = some none)
    (z_range : PySem.W.nsIn K mainGlobals "range" = some none)
    (z_repr : PySem.W.nsIn K mainGlobals "repr" = some none)
    (z_sorted : PySem.W.nsIn K mainGlobals "sorted" = some none)
    (z_str : PySem.W.nsIn K mainGlobals "str" = some none)
    (z_sum : PySem.W.nsIn K mainGlobals "sum" = some none)
    (z_tuple : PySem.W.nsIn K mainGlobals "tuple" = some none)
    (z_zip : PySem.W.nsIn K mainGlobals "zip" = some none)
    (g_MOST_LOTS : PySem.W.nsIn K mainGlobals "MOST_LOTS" = some (some (.int (12) t_MOST_LOTS)))
    (g_MOST_KINDS : PySem.W.nsIn K mainGlobals "MOST_KINDS" = some (some (.int (4) t_MOST_KINDS)))
    (g_MOST_PRICE : PySem.W.nsIn K mainGlobals "MOST_PRICE" = some (some (.int (1000) t_MOST_PRICE)))
    (g_MOST_IN : PySem.W.nsIn K mainGlobals "MOST_IN" = some (some (.int (9) t_MOST_IN)))
    (g_MOST_WANTED : PySem.W.nsIn K mainGlobals "MOST_WANTED" = some (some (.int (12) t_MOST_WANTED)))
    (nP_law : K.lookup pL_law = none)
    (cP_law : PySem.W.codeHdIn K cL_law pL_law = true)
    (hP_law : h.get? pL_law = some { cls := .none, data := .fields #[] }) : LawG l w K 63 "script" mg fa h := by
  have e := hfa.symm.trans (PySem.W.mg_of X G a_law)
  cases e
  have Z : Nm mg := ⟨PySem.W.mg_none_of X G z_all, PySem.W.mg_none_of X G z_any, PySem.W.mg_none_of X G z_bool, PySem.W.mg_none_of X G z_dict, PySem.W.mg_none_of X G z_enumerate, PySem.W.mg_none_of X G z_int, PySem.W.mg_none_of X G z_isinstance, PySem.W.mg_none_of X G z_len, PySem.W.mg_none_of X G z_list, PySem.W.mg_none_of X G z_max, PySem.W.mg_none_of X G z_min, PySem.W.mg_none_of X G z_range, PySem.W.mg_none_of X G z_repr, PySem.W.mg_none_of X G z_sorted, PySem.W.mg_none_of X G z_str, PySem.W.mg_none_of X G z_sum, PySem.W.mg_none_of X G z_tuple, PySem.W.mg_none_of X G z_zip, ⟨_, PySem.W.mg_of X G g_MOST_LOTS⟩, ⟨_, PySem.W.mg_of X G g_MOST_KINDS⟩, ⟨_, PySem.W.mg_of X G g_MOST_PRICE⟩, ⟨_, PySem.W.mg_of X G g_MOST_IN⟩, ⟨_, PySem.W.mg_of X G g_MOST_WANTED⟩⟩
  have K_is_integer := fun_mk (st := s_is_integer) l_is_integer c_is_integer k_is_integer
  have b_is_integer := K_is_integer.binds (ps := ["thing"]) fun _ _ _ _ _ _ us hl => match us, hl with | [_], _ => rfl
  have m_is_integer := PySem.W.mg_of X G a_is_integer
  have K_is_within := fun_mk (st := s_is_within) l_is_within c_is_within k_is_within
  have b_is_within := K_is_within.binds (ps := ["thing", "least", "most"]) fun _ _ _ _ _ _ us hl => match us, hl with | [_, _, _], _ => rfl
  have m_is_within := PySem.W.mg_of X G a_is_within
  have K_is_row := fun_mk (st := s_is_row) l_is_row c_is_row k_is_row
  have b_is_row := K_is_row.binds (ps := ["thing"]) fun _ _ _ _ _ _ us hl => match us, hl with | [_], _ => rfl
  have m_is_row := PySem.W.mg_of X G a_is_row
  have K_is_tuple_of := fun_mk (st := s_is_tuple_of) l_is_tuple_of c_is_tuple_of k_is_tuple_of
  have b_is_tuple_of := K_is_tuple_of.binds (ps := ["thing", "many"]) fun _ _ _ _ _ _ us hl => match us, hl with | [_, _], _ => rfl
  have m_is_tuple_of := PySem.W.mg_of X G a_is_tuple_of
  have K_is_lot := fun_mk (st := s_is_lot) l_is_lot c_is_lot k_is_lot
  have b_is_lot := K_is_lot.binds (ps := ["thing"]) fun _ _ _ _ _ _ us hl => match us, hl with | [_], _ => rfl
  have m_is_lot := PySem.W.mg_of X G a_is_lot
  have K_check_lots := fun_mk (st := s_check_lots) l_check_lots c_check_lots k_check_lots
  have b_check_lots := K_check_lots.binds (ps := ["lots", "wanted"]) fun _ _ _ _ _ _ us hl => match us, hl with | [_, _], _ => rfl
  have m_check_lots := PySem.W.mg_of X G a_check_lots
  have K_cheapest_lots := fun_mk (st := s_cheapest_lots) l_cheapest_lots c_cheapest_lots k_cheapest_lots
  have b_cheapest_lots := K_cheapest_lots.binds (ps := ["lots", "wanted"]) fun _ _ _ _ _ _ us hl => match us, hl with | [_, _], _ => rfl
  have m_cheapest_lots := PySem.W.mg_of X G a_cheapest_lots
  have K_lots_over := fun_mk (st := s_lots_over) l_lots_over c_lots_over k_lots_over
  have b_lots_over := K_lots_over.binds (ps := ["lots", "wanted", "bought"]) fun _ _ _ _ _ _ us hl => match us, hl with | [_, _, _], _ => rfl
  have m_lots_over := PySem.W.mg_of X G a_lots_over
  have K__law_taken := fun_mk (st := s__law_taken) l__law_taken c__law_taken k__law_taken
  have b__law_taken := K__law_taken.binds (ps := ["row", "many"]) fun _ _ _ _ _ _ us hl => match us, hl with | [_, _], _ => rfl
  have m__law_taken := PySem.W.mg_of X G a__law_taken
  have K__law_pick := fun_mk (st := s__law_pick) l__law_pick c__law_pick k__law_pick
  have b__law_pick := K__law_pick.binds (ps := ["row", "some"]) fun _ _ _ _ _ _ us hl => match us, hl with | [_, _], _ => rfl
  have m__law_pick := PySem.W.mg_of X G a__law_pick
  have K__law_alike := fun_mk (st := s__law_alike) l__law_alike c__law_alike k__law_alike
  have b__law_alike := K__law_alike.binds (ps := ["found", "due"]) fun _ _ _ _ _ _ us hl => match us, hl with | [_, _], _ => rfl
  have m__law_alike := PySem.W.mg_of X G a__law_alike
  have K__law_subsets := fun_mk (st := s__law_subsets) l__law_subsets c__law_subsets k__law_subsets
  have b__law_subsets := K__law_subsets.binds (ps := ["many"]) fun _ _ _ _ _ _ us hl => match us, hl with | [_], _ => rfl
  have m__law_subsets := PySem.W.mg_of X G a__law_subsets
  have K__law_refused := fun_mk (st := s__law_refused) l__law_refused c__law_refused k__law_refused
  have b__law_refused := K__law_refused.binds (ps := ["ask"]) fun _ _ _ _ _ _ us hl => match us, hl with | [_], _ => rfl
  have m__law_refused := PySem.W.mg_of X G a__law_refused
  refine ⟨PySem.W.fnOf "law" "law" (defArgs s_law) (defBody s_law) (defScope s_law) .none kV_law dc_law pm_law an_law (.ref cL_law) ct_law, [(cL_law, pL_law)], SpOf K [(pL_law, ("law.<locals>.<lambda>" : Str))] (fsLaw K), ?_, ?_, ?_, fun s v => .of_eq rfl, fun H a ns _ hT hS => law_sp ?_ hS, fun base kb nb tb => ?_⟩
  · exact List.forall_mem_cons.mpr ⟨hP_law, fun _ h => nomatch h⟩
  · exact List.forall_mem_cons.mpr ⟨nP_law, fun _ h => nomatch h⟩
  · exact List.forall_mem_cons.mpr ⟨PySem.W.codeHd_of_K X cP_law, fun _ h => nomatch h⟩
  · exact List.forall_mem_cons.mpr ⟨TabS.nil (hT (cL_law, pL_law) (by simp)), fun _ h => nomatch h⟩
  have ox0 : OexC K C0 := ⟨⟨_, _, _, _, _, _, _, _, _, _, _, _, _, _, _, xL0, rv0⟩, sa0, eC0, tC0, kC0⟩
  have xf0 : XfC K C0 := ⟨ga0, gg0, eC0, hC0⟩
  have ox1 : OexC K C1 := ⟨⟨_, _, _, _, _, _, _, _, _, _, _, _, _, _, _, xL1, rv1⟩, sa1, eC1, tC1, kC1⟩
  have xf1 : XfC K C1 := ⟨ga1, gg1, eC1, hC1⟩
  have ox2 : OexC K C2 := ⟨⟨_, _, _, _, _, _, _, _, _, _, _, _, _, _, _, xL2, rv2⟩, sa2, eC2, tC2, kC2⟩
  have xf2 : XfC K C2 := ⟨ga2, gg2, eC2, hC2⟩
  have bI : Binds K (PySem.W.fnOf "__init__" "SpareError.__init__" (defArgs s_init) (defBody s_init) (defScope s_init) (.ref TI) kVI dcI pmI anI cdI ctI) ["self", "value"] [] := init_binds lI cI kI lT oT_ (v := .non) rfl fun _ _ _ _ _ _ _ _ _ => ⟨_, rfl, rfl⟩
  have E_BadBought : ErrA l.prog w K mg base "BadBought" C0 := ⟨PySem.W.mg_of X G aC0, ox0, nv0, fI, _, [], [], iC0, tI, bI, err_init lI cI ⟨rfl, rfl, rfl, by decide +kernel, rfl, by decide +kernel, by decide +kernel⟩ (.inl rfl) (.inl rfl)⟩
  have E_BadLots : ErrA l.prog w K mg base "BadLots" C1 := ⟨PySem.W.mg_of X G aC1, ox1, nv1, fI, _, [], [], iC1, tI, bI, err_init lI cI ⟨rfl, rfl, rfl, by decide +kernel, rfl, by decide +kernel, by decide +kernel⟩ (.inl rfl) (.inl rfl)⟩
  have E_BadWanted : ErrA l.prog w K mg base "BadWanted" C2 := ⟨PySem.W.mg_of X G aC2, ox2, nv2, fI, _, [], [], iC2, tI, bI, err_init lI cI ⟨rfl, rfl, rfl, by decide +kernel, rfl, by decide +kernel, by decide +kernel⟩ (.inl rfl) (.inl rfl)⟩
  have ap : Apart K [(C0, "bought"), (C1, "lots"), (C2, "wanted")] := by
    intro p hp q hq
    simp only [List.mem_cons, List.mem_nil_iff, or_false] at hp hq
    rcases hp with rfl | rfl | rfl <;> rcases hq with rfl | rfl | rfl
    all_goals first | simp [ex0_0, ex0_1, ex0_2, ex1_0, ex1_1, ex1_2, ex2_0, ex2_1, ex2_2, ne1_0, (ne1_0).symm, ne2_0, (ne2_0).symm, ne2_1, (ne2_1).symm]
  have TA__law_refused : TryA K mg "_law_refused" [(C0, "bought"), (C1, "lots"), (C2, "wanted")] := try_mk K__law_refused m__law_refused b__law_refused rfl ⟨rfl, rfl, rfl, by decide +kernel, rfl, by decide +kernel, by decide +kernel⟩ (.inl rfl) rfl (.cons rfl (PySem.W.mg_of X G aC0) (by decide) xf0 nv0 (.cons rfl (PySem.W.mg_of X G aC1) (by decide) xf1 nv1 (.cons rfl (PySem.W.mg_of X G aC2) (by decide) xf2 nv2 RefHds.nil))) ap
  have C_Buyer : Cls K CC_Buyer := ⟨pg_Buyer, hd_Buyer, po_Buyer, sa_Buyer⟩
  have N_Buyer_lots : NoAttr K CC_Buyer "lots" := nf_Buyer_lots
  have N_Buyer_known : NoAttr K CC_Buyer "known" := nf_Buyer_known
  have MK_Buyer : Mk K CC_Buyer f_Buyer___init__ := ⟨mk_Buyer, am_Buyer___init__, im_Buyer___init__, kc_Buyer⟩
  have m_Buyer := PySem.W.mg_of X G ac_Buyer
  have K_Buyer___init__ := fun_mk (st := s_binit) lm_Buyer___init__ cm_Buyer___init__ km_Buyer___init__
  have b_Buyer___init__ := K_Buyer___init__.binds (ps := ["self", "lots"]) fun _ _ _ _ _ _ us hl => match us, hl with | [_, _], _ => rfl
  have M_Buyer___init__ : Meth K CC_Buyer "__init__" f_Buyer___init__ := ⟨am_Buyer___init__, im_Buyer___init__, km_Buyer___init__⟩
  have K_Buyer_best := fun_mk (st := s_best) lm_Buyer_best cm_Buyer_best km_Buyer_best
  have b_Buyer_best := K_Buyer_best.binds (ps := ["self", "index", "wanted"]) fun _ _ _ _ _ _ us hl => match us, hl with | [_, _, _], _ => rfl
  have M_Buyer_best : Meth K CC_Buyer "best" f_Buyer_best := ⟨am_Buyer_best, im_Buyer_best, km_Buyer_best⟩
  have F_is_integer := is_integer (P := l.prog) (w := w) (base := base) (T := [(pL_law, ("law.<locals>.<lambda>" : Str))]) Z K_is_integer m_is_integer b_is_integer
  have F_is_within := is_within (P := l.prog) (w := w) (base := base) (T := [(pL_law, ("law.<locals>.<lambda>" : Str))]) F_is_integer K_is_within m_is_within b_is_within
  have F_is_row := is_row (P := l.prog) (w := w) (base := base) (T := [(pL_law, ("law.<locals>.<lambda>" : Str))]) Z K_is_row m_is_row b_is_row
  have F_is_tuple_of := is_tuple_of (P := l.prog) (w := w) (base := base) (T := [(pL_law, ("law.<locals>.<lambda>" : Str))]) Z K_is_tuple_of m_is_tuple_of b_is_tuple_of
  have F_is_lot := is_lot (P := l.prog) (w := w) (base := base) (T := [(pL_law, ("law.<locals>.<lambda>" : Str))]) Z F_is_within F_is_tuple_of K_is_lot m_is_lot b_is_lot
  have F_check_lots := check_lots (P := l.prog) (w := w) (base := base) (T := [(pL_law, ("law.<locals>.<lambda>" : Str))]) Z F_is_row F_is_lot F_is_within F_is_tuple_of E_BadLots E_BadWanted K_check_lots m_check_lots b_check_lots
  have F_Buyer___init__ := (fun F b => buyer_init (P := l.prog) (w := w) (base := base) (mg := mg) (T := [(pL_law, ("law.<locals>.<lambda>" : Str))]) (CB := CC_Buyer) ⟨C_Buyer, N_Buyer_lots, N_Buyer_known⟩ F b)  K_Buyer___init__ b_Buyer___init__
  have F_Buyer_best := (fun F b => best (P := l.prog) (w := w) (base := base) (mg := mg) (T := [(pL_law, ("law.<locals>.<lambda>" : Str))]) (CB := CC_Buyer) Z ⟨C_Buyer, N_Buyer_lots, N_Buyer_known⟩ M_Buyer_best F b 12)  K_Buyer_best b_Buyer_best
  have F_cheapest_lots := cheapest_lots (P := l.prog) (w := w) (base := base) (T := [(pL_law, ("law.<locals>.<lambda>" : Str))]) Z F_check_lots ⟨C_Buyer, N_Buyer_lots, N_Buyer_known⟩ MK_Buyer m_Buyer F_Buyer___init__ M_Buyer_best F_Buyer_best K_cheapest_lots m_cheapest_lots b_cheapest_lots
  have F_lots_over := lots_over (P := l.prog) (w := w) (base := base) (T := [(pL_law, ("law.<locals>.<lambda>" : Str))]) Z F_check_lots F_is_within E_BadBought K_lots_over m_lots_over b_lots_over
  have F__law_taken := law_taken (P := l.prog) (w := w) (base := base) (T := [(pL_law, ("law.<locals>.<lambda>" : Str))]) Z K__law_taken m__law_taken b__law_taken
  have F__law_pick := law_pick (P := l.prog) (w := w) (base := base) (T := [(pL_law, ("law.<locals>.<lambda>" : Str))]) Z F__law_taken K__law_pick m__law_pick b__law_pick
  have F__law_alike := (fun Z F m b => law_alike (P := l.prog) (w := w) (base := base) (T := [(pL_law, ("law.<locals>.<lambda>" : Str))]) Z F m b 10) Z K__law_alike m__law_alike b__law_alike
  have F__law_subsets := law_subsets (P := l.prog) (w := w) (base := base) (T := [(pL_law, ("law.<locals>.<lambda>" : Str))]) Z K__law_subsets m__law_subsets b__law_subsets
  exact law (P := l.prog) (w := w) (base := base) (T := [(pL_law, ("law.<locals>.<lambda>" : Str))]) Z ne1_0 ne2_0 ne2_1 F__law_taken F__law_pick F__law_alike F__law_subsets F_cheapest_lots F_lots_over TA__law_refused (tb _ (List.mem_singleton.mpr rfl)) rfl ⟨⟨_, _, _, _, _, _, _, _, rfl, l_law, c_law⟩, k_law⟩
end K37
open PySem PySem.W PyProof.Rows in
set_option maxRecDepth 100000 in
set_option maxHeartbeats 0 in
theorem PySem.Challenge.cw_oldspares_k37_whole_lots_holds : PySem.Challenge.rw_oldspares_k37_whole_lots.Holds := by
  w_on; o_law; k_head; (case hw => w_witness2)
  k_fill
  refine AL.walk_endG (l := PySem.Challenge.rw_oldspares_k37_whole_lots) (n := 63) (x := "script") rfl (by decide) rfl (fun w h Y => PySem.W.km_in_of Y) ?F
  case F =>
    intro w mg fa h XX Y KX G hmg
    have hT8 := PySem.W.km_tabs_of Y
    refine' K37.all_mk KX G hmg  ?aC0 ?xL0 ?rv0 ?sa0 ?ga0 ?gg0 ?nv0 ?iC0 ?kC0 ?eC0 ?tC0 ?hC0 ?aC1 ?xL1 ?rv1 ?sa1 ?ga1 ?gg1 ?nv1 ?iC1 ?kC1 ?eC1 ?tC1 ?hC1 ?aC2 ?xL2 ?rv2 ?sa2 ?ga2 ?gg2 ?nv2 ?iC2 ?kC2 ?eC2 ?tC2 ?hC2 ?ex0_0 ?ex0_1 ?ex0_2 ?ex1_0 ?ex1_1 ?ex1_2 ?ex2_0 ?ex2_1 ?ex2_2 ?ne1_0 ?ne2_0 ?ne2_1 ?lI ?kI ?lT ?oT_ ?cI ?tI ?a_is_integer ?l_is_integer ?c_is_integer ?k_is_integer ?a_is_within ?l_is_within ?c_is_within ?k_is_within ?a_is_row ?l_is_row ?c_is_row ?k_is_row ?a_is_tuple_of ?l_is_tuple_of ?c_is_tuple_of ?k_is_tuple_of ?a_is_lot ?l_is_lot ?c_is_lot ?k_is_lot ?a_check_lots ?l_check_lots ?c_check_lots ?k_check_lots ?a_cheapest_lots ?l_cheapest_lots ?c_cheapest_lots ?k_cheapest_lots ?a_lots_over ?l_lots_over ?c_lots_over ?k_lots_over ?a__law_taken ?l__law_taken ?c__law_taken ?k__law_taken ?a__law_pick ?l__law_pick ?c__law_pick ?k__law_pick ?a__law_alike ?l__law_alike ?c__law_alike ?k__law_alike ?a__law_subsets ?l__law_subsets ?c__law_subsets ?k__law_subsets ?a__law_refused ?l__law_refused ?c__law_refused ?k__law_refused ?a_law ?l_law ?c_law ?k_law ?ac_Buyer ?pg_Buyer ?hd_Buyer ?po_Buyer ?sa_Buyer ?mk_Buyer ?kc_Buyer ?nf_Buyer_lots ?nf_Buyer_known ?am_Buyer___init__ ?im_Buyer___init__ ?lm_Buyer___init__ ?cm_Buyer___init__ ?km_Buyer___init__ ?am_Buyer_best ?im_Buyer_best ?lm_Buyer_best ?cm_Buyer_best ?km_Buyer_best ?z_all ?z_any ?z_bool ?z_dict ?z_enumerate ?z_int ?z_isinstance ?z_len ?z_list ?z_max ?z_min ?z_range ?z_repr ?z_sorted ?z_str ?z_sum ?z_tuple ?z_zip ?g_MOST_LOTS ?g_MOST_KINDS ?g_MOST_PRICE ?g_MOST_IN ?g_MOST_WANTED ?nP_law ?cP_law ?hP_law
    (case aC0 => k_is)
    (case xL0 => k_is)
    (case rv0 => decide +kernel)
    (case sa0 => k_is)
    (case ga0 => k_is)
    (case gg0 => k_is)
    (case nv0 => k_is)
    (case iC0 => k_is)
    (case kC0 => k_is)
    (case eC0 => k_is)
    (case tC0 => k_is)
    (case hC0 => k_is)
    (case aC1 => k_is)
    (case xL1 => k_is)
    (case rv1 => decide +kernel)
    (case sa1 => k_is)
    (case ga1 => k_is)
    (case gg1 => k_is)
    (case nv1 => k_is)
    (case iC1 => k_is)
    (case kC1 => k_is)
    (case eC1 => k_is)
    (case tC1 => k_is)
    (case hC1 => k_is)
    (case aC2 => k_is)
    (case xL2 => k_is)
    (case rv2 => decide +kernel)
    (case sa2 => k_is)
    (case ga2 => k_is)
    (case gg2 => k_is)
    (case nv2 => k_is)
    (case iC2 => k_is)
    (case kC2 => k_is)
    (case eC2 => k_is)
    (case tC2 => k_is)
    (case hC2 => k_is)
    (case ex0_0 => first | k_is | kernel_rfl)
    (case ex0_1 => first | k_is | kernel_rfl)
    (case ex0_2 => first | k_is | kernel_rfl)
    (case ex1_0 => first | k_is | kernel_rfl)
    (case ex1_1 => first | k_is | kernel_rfl)
    (case ex1_2 => first | k_is | kernel_rfl)
    (case ex2_0 => first | k_is | kernel_rfl)
    (case ex2_1 => first | k_is | kernel_rfl)
    (case ex2_2 => first | k_is | kernel_rfl)
    (case ne1_0 => decide)
    (case ne2_0 => decide)
    (case ne2_1 => decide)
    (case lI => k_is)
    (case kI => k_is)
    (case lT => k_is)
    (case oT_ => rfl)
    (case cI => k_is)
    (case tI => k_is)
    (case a_is_integer => k_is)
    (case l_is_integer => k_is)
    (case c_is_integer => k_is)
    (case k_is_integer => k_is)
    (case a_is_within => k_is)
    (case l_is_within => k_is)
    (case c_is_within => k_is)
    (case k_is_within => k_is)
    (case a_is_row => k_is)
    (case l_is_row => k_is)
    (case c_is_row => k_is)
    (case k_is_row => k_is)
    (case a_is_tuple_of => k_is)
    (case l_is_tuple_of => k_is)
    (case c_is_tuple_of => k_is)
    (case k_is_tuple_of => k_is)
    (case a_is_lot => k_is)
    (case l_is_lot => k_is)
    (case c_is_lot => k_is)
    (case k_is_lot => k_is)
    (case a_check_lots => k_is)
    (case l_check_lots => k_is)
    (case c_check_lots => k_is)
    (case k_check_lots => k_is)
    (case a_cheapest_lots => k_is)
    (case l_cheapest_lots => k_is)
    (case c_cheapest_lots => k_is)
    (case k_cheapest_lots => k_is)
    (case a_lots_over => k_is)
    (case l_lots_over => k_is)
    (case c_lots_over => k_is)
    (case k_lots_over => k_is)
    (case a__law_taken => k_is)
    (case l__law_taken => k_is)
    (case c__law_taken => k_is)
    (case k__law_taken => k_is)
    (case a__law_pick => k_is)
    (case l__law_pick => k_is)
    (case c__law_pick => k_is)
    (case k__law_pick => k_is)
    (case a__law_alike => k_is)
    (case l__law_alike => k_is)
    (case c__law_alike => k_is)
    (case k__law_alike => k_is)
    (case a__law_subsets => k_is)
    (case l__law_subsets => k_is)
    (case c__law_subsets => k_is)
    (case k__law_subsets => k_is)
    (case a__law_refused => k_is)
    (case l__law_refused => k_is)
    (case c__law_refused => k_is)
    (case k__law_refused => k_is)
    (case a_law => k_is)
    (case l_law => k_is)
    (case c_law => k_is)
    (case k_law => k_is)
    (case ac_Buyer => k_is)
    (case pg_Buyer => k_is)
    (case hd_Buyer => k_is)
    (case po_Buyer => k_is)
    (case sa_Buyer => k_is)
    (case mk_Buyer => k_is)
    (case kc_Buyer => k_is)
    (case nf_Buyer_lots => k_is)
    (case nf_Buyer_known => k_is)
    (case am_Buyer___init__ => k_is)
    (case im_Buyer___init__ => k_is)
    (case lm_Buyer___init__ => k_is)
    (case cm_Buyer___init__ => k_is)
    (case km_Buyer___init__ => k_is)
    (case am_Buyer_best => k_is)
    (case im_Buyer_best => k_is)
    (case lm_Buyer_best => k_is)
    (case cm_Buyer_best => k_is)
    (case km_Buyer_best => k_is)
    (case z_all => k_is)
    (case z_any => k_is)
    (case z_bool => k_is)
    (case z_dict => k_is)
    (case z_enumerate => k_is)
    (case z_int => k_is)
    (case z_isinstance => k_is)
    (case z_len => k_is)
    (case z_list => k_is)
    (case z_max => k_is)
    (case z_min => k_is)
    (case z_range => k_is)
    (case z_repr => k_is)
    (case z_sorted => k_is)
    (case z_str => k_is)
    (case z_sum => k_is)
    (case z_tuple => k_is)
    (case z_zip => k_is)
    (case g_MOST_LOTS => k_is)
    (case g_MOST_KINDS => k_is)
    (case g_MOST_PRICE => k_is)
    (case g_MOST_IN => k_is)
    (case g_MOST_WANTED => k_is)
    (case hP_law => exact hT8 180 (by simp))
    (case nP_law => first | rfl | k_is)
    (case cP_law => first | kernel_rfl | k_is)
