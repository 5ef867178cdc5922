import PyProof.Rows.All
import Wide.All
import OpenK.AllK
import Wide.FinOn
import HandS.ForMost
import HandS.Lambda
import HandS.Walk
import HandS.DictComp
import HandS.IsInst
import HandS.Rev
import KE.GoesEnum
import HandS.More
import HandS.SortKw
import KE.SortKeyHeap
import HandS.TupAny
import HandS.Flow
import HandS.Zip
import KE.KDictSum
import HandS.Strs
import HandS.SetFor
import PyProof.StrOps2
import HandS.NoneIn
import PySem.Challenge.RW_aheadseen_k43_first_line_quiet
import HandS.Style
import HandS.HeadHook1
import HandS.HeadHook2
import HandS.HeadHook3
import HandS.HeadHook4
import HandS.HeadWalk
import HandS.Head0
import HandS.Head1
import HandS.Head2
set_option Elab.async false
set_option linter.all false
set_option maxRecDepth 100000
set_option maxHeartbeats 2000000
/-! Data without lists (Dt), what an expression evaluates to as data (EvD, EvLD, EvDA), loops and comprehensions over such data. -/
namespace AS
open PySem L2 LamX

/-- the tables of code objects (of defs that make lambdas), each with the name that its codes bear -/
class TabsOf where
  T : List (Addr × Str)
variable [TabsOf]
/-! ### what stays: all that was there, but code tables, which grow by good codes -/
structure Ex (H H' : Hp) : Prop where
  keep : ∀ b o, H b = some o → (∀ ps, o ≠ .tbl ps) → H' b = some o
  dom : ∀ b, H' b = none → H b = none
  tab : ∀ p ∈ TabsOf.T, TabS H p.1 p.2 → TabS H' p.1 p.2
theorem Ex.at {H H' : Hp} (e : Ex H H') {b : Addr} {o : HO} (h : H b = some o) (n : ∀ ps, o ≠ .tbl ps := by intro ps z; cases z) : H' b = some o := e.keep b o h n
theorem Ex.refl (H : Hp) : Ex H H := ⟨fun _ _ h _ => h, fun _ h => h, fun _ _ h => h⟩
theorem Ex.trans {H H1 H2 : Hp} (a : Ex H H1) (b : Ex H1 H2) : Ex H H2 := ⟨fun x o h n => b.keep x o (a.keep x o h n) n, fun x h => a.dom x (b.dom x h), fun p hp h => b.tab p hp (a.tab p hp h)⟩
theorem codeO_ne_lst {c : Addr} {q : Str} {xs : List V} : HO.lst xs ≠ CodeO c q := fun z => by
  unfold CodeO at z
  cases z
/-- a table stays where it and the codes stand -/
theorem tabS_keep {H H' : Hp} (k : ∀ b o, H b = some o → (∀ ps, o = .tbl ps → H' b = some o) ∧ (∀ c q, o = CodeO c q → H' b = some o)) {P : Addr} {q : Str} (h : TabS H P q) : TabS H' P q := by
  obtain ⟨ps, h1, h2, h3⟩ := h
  refine ⟨ps, (k P _ h1).1 ps rfl, h2, fun pos cv hc => ?_⟩
  obtain ⟨c, e1, e2⟩ := h3 pos cv hc
  exact ⟨c, e1, (k c _ e2).2 c q rfl⟩
theorem Ex.full {H H' : Hp} (k : ∀ b o, H b = some o → H' b = some o) : Ex H H' := by
  refine ⟨fun b o h _ => k b o h, fun b h => ?_, fun p _ h => tabS_keep (fun b o e => ⟨fun _ _ => k b o e, fun _ _ _ => k b o e⟩) h⟩
  cases q : H b with
  | none => rfl
  | some o =>
    rw [k b o q] at h
    cases h
theorem Ex.new {H : Hp} {p : Addr} {o : HO} (h : H p = none) : Ex H (upd H p o) := Ex.full fun a u e => by
  rw [upd_ne (ne_of_none e h)]
  exact e
/-- what may be changed: a list, a dict, an instance -/
def Chg (o : Option HO) : Prop := match o with
  | none => True
  | some (.lst _) => True
  | some (.dK _) => True
  | some (.ins _ _ _) => True
  | some (.frz _ (.dK _)) => True
  | _ => False
theorem tab_upd {H : Hp} {p : Addr} {o : HO} (h : Chg (H p)) {P : Addr} {q : Str} (t : TabS H P q) : TabS (upd H p o) P q := tabS_keep (fun b u e => ⟨fun ps z => by
  have hb : b ≠ p := by
    rintro rfl
    rw [e, z] at h
    exact h
  rw [upd_ne hb]
  exact e, fun c r z => by
  have hb : b ≠ p := by
    rintro rfl
    rw [e, z] at h
    exact h
  rw [upd_ne hb]
  exact e⟩) t
/-- an object that H does not know may change -/
theorem Ex.mut {H H' : Hp} {p : Addr} {o : HO} (e : Ex H H') (h : H p = none) (hc : Chg (H' p)) : Ex H (upd H' p o) := by
  refine ⟨fun a u ha n => ?_, fun b hb => ?_, fun q hq t => tab_upd hc (e.tab q hq t)⟩
  · rw [upd_ne (ne_of_none ha h)]
    exact e.keep a u ha n
  · by_cases q : b = p
    · rw [q]
      exact h
    · rw [upd_ne q] at hb
      exact e.dom b hb
theorem ex_rd {H H' : Hp} {a : Addr} {u : HO} (e : Ex H H') (h : Rd H a u) (n : ∀ ps, u ≠ .tbl ps := by intro ps z; cases z) : Rd H' a u := by
  rcases h with h | ⟨o, h⟩
  · exact Or.inl (e.keep a _ h n)
  · exact Or.inr ⟨o, e.at h⟩
theorem ex_l {K : PySem.W.Frag} {H H' : Hp} {a : Addr} {xs : List V} (e : Ex H H') (h : SqL K H a xs) : SqL K H' a xs := by
  rcases h with h | h
  · exact Or.inl (ex_rd e h)
  · exact Or.inr h
theorem ex_t {K : PySem.W.Frag} {H H' : Hp} {a : Addr} {xs : List V} (e : Ex H H') (h : SqT K H a xs) : SqT K H' a xs := by
  rcases h with h | h
  · exact Or.inl (ex_rd e h)
  · exact Or.inr h
theorem sz_of {n : Nat} (h : n ≤ 100000) : n ≤ sizeLine := Nat.le_trans h (by decide)
theorem sz_lt {n : Nat} (h : n < 100000) : n < sizeLine := Nat.lt_of_lt_of_le h (by decide)
theorem fresh_back {H H' : Hp} {p : Addr} (e : Ex H H') (h : H' p = none) : H p = none := e.dom p h

/-! ### what evaluates to a value -/
def Ev (te : TE) (σ : L2.St) (H : Hp) (v : V) : Prop := ∀ H1, Ex H H1 → ∀ Q : VK, (∀ H2, Ex H1 H2 → Q v H2) → te σ H1 Q
def EvT (tt : TT) (σ : L2.St) (H : Hp) (b : Bool) : Prop := ∀ H1, Ex H H1 → ∀ Q : Bool → Hp → Prop, (∀ H2, Ex H1 H2 → Q b H2) → tt σ H1 Q
section
variable {σ : L2.St} {H H' : Hp} {te : TE} {t u : TT} {v w : V}
theorem Ev.mono (e : Ex H H') (h : Ev te σ H v) : Ev te σ H' v := fun H1 a Q q => h H1 (e.trans a) Q q
theorem EvT.mono {b : Bool} (e : Ex H H') (h : EvT t σ H b) : EvT t σ H' b := fun H1 a Q q => h H1 (e.trans a) Q q
theorem ev_var {i : Nat} (h : σ[i]? = some (some v)) : Ev (tVar i) σ H v := fun H1 _ _ q => ⟨v, h, q H1 (Ex.refl H1)⟩
theorem ev_c : Ev (tC v) σ H v := fun H1 _ _ q => q H1 (Ex.refl H1)
theorem ev_is (h : Ev te σ H v) (e : v = w) : Ev te σ H w := e ▸ h
theorem et_test {b : Bool} (h : Ev te σ H (.bl b)) : EvT (tTest te) σ H b := fun H1 e _ q => h H1 e _ fun H2 e2 => ⟨b, rfl, q H2 e2⟩
theorem et_B {b : Bool} (h : Ev te σ H (.bl b)) : EvT (tB te) σ H b := fun H1 e _ q => h H1 e _ fun H2 e2 => ⟨b, rfl, q H2 e2⟩
theorem et_and {a b : Bool} (h1 : EvT t σ H a) (h2 : a = true → EvT u σ H b) : EvT (tAnd t u) σ H (a && b) := fun H1 e Q q => h1 H1 e _ fun H2 e2 => by
  cases a with
  | true =>
    show u σ H2 Q
    exact h2 rfl H2 (e.trans e2) Q fun H3 e3 => q H3 (e2.trans e3)
  | false =>
    show Q false H2
    exact q H2 e2
theorem et_or {a b : Bool} (h1 : EvT t σ H a) (h2 : a = false → EvT u σ H b) : EvT (tOr t u) σ H (a || b) := fun H1 e Q q => h1 H1 e _ fun H2 e2 => by
  cases a with
  | true =>
    show Q true H2
    exact q H2 e2
  | false =>
    show u σ H2 Q
    exact h2 rfl H2 (e.trans e2) Q fun H3 e3 => q H3 (e2.trans e3)
theorem et_not {a : Bool} (h1 : EvT t σ H a) : EvT (tNot t) σ H (!a) := fun H1 e _ q => h1 H1 e _ fun H2 e2 => q H2 e2
theorem et_is {a b : Bool} (h : EvT t σ H a) (e : a = b) : EvT t σ H b := e ▸ h
end

/-! ### data made of None, bools, ints, texts, tuples: it stays as long as tuples stay -/
mutual
inductive Dt (K : PySem.W.Frag) (H : Hp) : V → PyData → Prop
  | non : Dt K H .non .none
  | bl (b : Bool) : Dt K H (.bl b) (.bool b)
  | int (i : Int) : Dt K H (.int i) (.int i)
  | str (x : Str) : Dt K H (.str x) (.str x)
  | tup {a : Addr} {xs : List V} {ds : List PyData} : SqT K H a xs → DtAll K H xs ds → Dt K H (.ref a) (.tuple ds)
inductive DtAll (K : PySem.W.Frag) (H : Hp) : List V → List PyData → Prop
  | nil : DtAll K H [] []
  | cons {v : V} {vs : List V} {d : PyData} {ds : List PyData} : Dt K H v d → DtAll K H vs ds → DtAll K H (v :: vs) (d :: ds)
end

/-- tuples stay -/
def Tx (K : PySem.W.Frag) (H H' : Hp) : Prop := ∀ a xs, SqT K H a xs → SqT K H' a xs
section
variable {K : PySem.W.Frag} {H H' H'' : Hp} {p : Addr} {o : HO} {v : V} {d : PyData}
theorem Tx.refl (H : Hp) : Tx K H H := fun _ _ h => h
theorem Tx.trans (a : Tx K H H') (b : Tx K H' H'') : Tx K H H'' := fun x xs h => b x xs (a x xs h)
theorem Tx.ex (e : Ex H H') : Tx K H H' := fun _ _ h => ex_t e h
theorem Tx.new (h : H p = none) : Tx K H (upd H p o) := Tx.ex (Ex.new h)
theorem Tx.lst {xs ys : List V} (h : H p = some (.lst xs)) : Tx K H (upd H p (.lst ys)) := fun a zs q => by
  rcases q with (q | ⟨ob, q⟩) | q
  · refine .inl (.inl ?_)
    rw [upd_ne (ne_of q h (by intro z; cases z))]
    exact q
  · refine .inl (.inr ⟨ob, ?_⟩)
    rw [upd_ne (ne_of q h (by intro z; cases z))]
    exact q
  · exact .inr q
theorem Tx.dk {xs : List (Key × V)} (h : H p = some (.dK xs)) (o : HO) : Tx K H (upd H p o) := fun a zs q => by
  rcases q with (q | ⟨ob, q⟩) | q
  · refine .inl (.inl ?_)
    rw [upd_ne (ne_of q h (by intro z; cases z))]
    exact q
  · refine .inl (.inr ⟨ob, ?_⟩)
    rw [upd_ne (ne_of q h (by intro z; cases z))]
    exact q
  · exact .inr q
theorem Tx.ins {C dx : Addr} {fs : List (Str × V)} (h : H p = some (.ins C dx fs)) (o : HO) : Tx K H (upd H p o) := fun a zs q => by
  rcases q with (q | ⟨ob, q⟩) | q
  · refine .inl (.inl ?_)
    rw [upd_ne (ne_of q h (by intro z; cases z))]
    exact q
  · refine .inl (.inr ⟨ob, ?_⟩)
    rw [upd_ne (ne_of q h (by intro z; cases z))]
    exact q
  · exact .inr q
mutual
theorem Dt.tx (t : Tx K H H') : ∀ {v : V} {d : PyData}, Dt K H v d → Dt K H' v d
  | _, _, .non => .non
  | _, _, .bl b => .bl b
  | _, _, .int i => .int i
  | _, _, .str x => .str x
  | _, _, .tup h a => .tup (t _ _ h) (DtAll.tx t a)
theorem DtAll.tx (t : Tx K H H') : ∀ {vs : List V} {ds : List PyData}, DtAll K H vs ds → DtAll K H' vs ds
  | _, _, .nil => .nil
  | _, _, .cons h a => .cons (Dt.tx t h) (DtAll.tx t a)
end
theorem Dt.ex (e : Ex H H') {v : V} {d : PyData} (h : Dt K H v d) : Dt K H' v d := h.tx (Tx.ex e)
theorem DtAll.ex (e : Ex H H') {vs : List V} {ds : List PyData} (h : DtAll K H vs ds) : DtAll K H' vs ds := h.tx (Tx.ex e)
mutual
theorem Dt.dp : ∀ {v : V} {d : PyData}, Dt K H v d → Dp K H v d
  | _, _, .non => .non
  | _, _, .bl b => .bl b
  | _, _, .int i => .int i
  | _, _, .str x => .str x
  | _, _, .tup h a => .tup h (DtAll.dp a)
theorem DtAll.dp : ∀ {vs : List V} {ds : List PyData}, DtAll K H vs ds → DpAll K H vs ds
  | _, _, .nil => .nil
  | _, _, .cons h a => .cons (Dt.dp h) (DtAll.dp a)
end
theorem Dt.int_inv {i : Int} (h : Dt K H v (.int i)) : v = .int i := by cases h; rfl
theorem Dt.str_inv {x : Str} (h : Dt K H v (.str x)) : v = .str x := by cases h; rfl
theorem Dt.bl_inv {b : Bool} (h : Dt K H v (.bool b)) : v = .bl b := by cases h; rfl
theorem Dt.non_inv (h : Dt K H v .none) : v = .non := by cases h; rfl
theorem Dt.tup_inv {ds : List PyData} (h : Dt K H v (.tuple ds)) : ∃ a xs, v = .ref a ∧ SqT K H a xs ∧ DtAll K H xs ds := by
  cases h with
  | tup h a => exact ⟨_, _, rfl, h, a⟩
theorem DtAll.length : ∀ {vs : List V} {ds : List PyData}, DtAll K H vs ds → vs.length = ds.length
  | _, _, .nil => rfl
  | _, _, .cons _ a => congrArg (· + 1) (DtAll.length a)
theorem DtAll.get : ∀ {vs : List V} {ds : List PyData} {i : Nat} {d : PyData}, DtAll K H vs ds → ds[i]? = some d → ∃ v, vs[i]? = some v ∧ Dt K H v d
  | _, _, i, d, .nil, e => by simp at e
  | _, _, 0, d, .cons h _, e => ⟨_, rfl, by simp at e; rw [← e]; exact h⟩
  | _, _, i + 1, d, .cons _ a, e => by
    obtain ⟨v, h1, h2⟩ := DtAll.get a (i := i) (d := d) (by simpa using e)
    exact ⟨v, by simpa using h1, h2⟩
theorem DtAll.getV : ∀ {vs : List V} {ds : List PyData} {i : Nat} {v : V}, DtAll K H vs ds → vs[i]? = some v → ∃ d, ds[i]? = some d ∧ Dt K H v d
  | _, _, i, d, .nil, e => by simp at e
  | _, _, 0, d, .cons h _, e => ⟨_, rfl, by simp at e; rw [← e]; exact h⟩
  | _, _, i + 1, d, .cons _ a, e => by
    obtain ⟨v, h1, h2⟩ := DtAll.getV a (i := i) (v := d) (by simpa using e)
    exact ⟨v, by simpa using h1, h2⟩
theorem DtAll.append : ∀ {vs us : List V} {ds es : List PyData}, DtAll K H vs ds → DtAll K H us es → DtAll K H (vs ++ us) (ds ++ es)
  | _, _, _, _, .nil, b => b
  | _, _, _, _, .cons h a, b => .cons h (DtAll.append a b)
theorem DtAll.one (h : Dt K H v d) : DtAll K H [v] [d] := .cons h .nil
theorem DtAll.take : ∀ {vs : List V} {ds : List PyData} (n : Nat), DtAll K H vs ds → DtAll K H (vs.take n) (ds.take n)
  | _, _, 0, _ => .nil
  | _, _, _ + 1, .nil => .nil
  | _, _, n + 1, .cons h a => .cons h (DtAll.take n a)
theorem DtAll.drop : ∀ {vs : List V} {ds : List PyData} (n : Nat), DtAll K H vs ds → DtAll K H (vs.drop n) (ds.drop n)
  | _, _, 0, h => h
  | _, _, _ + 1, .nil => .nil
  | _, _, n + 1, .cons _ a => DtAll.drop n a
theorem DtAll.strs : ∀ xs : List Str, DtAll K H (xs.map V.str) (xs.map PyData.str)
  | [] => .nil
  | x :: xs => .cons (.str x) (DtAll.strs xs)
theorem DtAll.strs_inv : ∀ {vs : List V} {xs : List Str}, DtAll K H vs (xs.map PyData.str) → vs = xs.map V.str
  | _, [], h => by cases h; rfl
  | _, x :: xs, h => by
    cases h with
    | cons h a => rw [h.str_inv, DtAll.strs_inv a]; rfl
theorem DtAll.ints : ∀ xs : List Int, DtAll K H (xs.map V.int) (xs.map PyData.int)
  | [] => .nil
  | x :: xs => .cons (.int x) (DtAll.ints xs)
theorem DtAll.ints_inv : ∀ {vs : List V} {xs : List Int}, DtAll K H vs (xs.map PyData.int) → vs = xs.map V.int
  | _, [], h => by cases h; rfl
  | _, x :: xs, h => by
    cases h with
    | cons h a => rw [h.int_inv, DtAll.ints_inv a]; rfl
theorem DtAll.bls_inv : ∀ {vs : List V} {xs : List Bool}, DtAll K H vs (xs.map PyData.bool) → vs = xs.map V.bl
  | _, [], h => by cases h; rfl
  | _, x :: xs, h => by
    cases h with
    | cons h a => rw [h.bl_inv, DtAll.bls_inv a]; rfl
theorem DtAll.nil_inv {vs : List V} (h : DtAll K H vs []) : vs = [] := by cases h; rfl
theorem DtAll.cons_inv {vs : List V} {ds : List PyData} (h : DtAll K H vs (d :: ds)) : ∃ v us, vs = v :: us ∧ Dt K H v d ∧ DtAll K H us ds := by
  cases h with
  | cons h a => exact ⟨_, _, rfl, h, a⟩
theorem DtAll.reverse : ∀ {vs : List V} {ds : List PyData}, DtAll K H vs ds → DtAll K H vs.reverse ds.reverse
  | _, _, .nil => .nil
  | _, _, .cons h a => by
    rw [List.reverse_cons, List.reverse_cons]
    exact (DtAll.reverse a).append (.one h)
end

/-! ### what evaluates to data -/
section
variable (K : PySem.W.Frag)
def EvD (te : TE) (σ : L2.St) (H : Hp) (d : PyData) : Prop := ∀ H1, Ex H H1 → ∀ Q : VK, (∀ v H2, Ex H1 H2 → Dt K H2 v d → Q v H2) → te σ H1 Q
/-- a new list of data -/
def EvLD (te : TE) (σ : L2.St) (H : Hp) (ds : List PyData) : Prop := ∀ H1, Ex H H1 → ∀ Q : VK, (∀ p vs H2, H1 p = none → Ex H1 H2 → H2 p = some (.lst vs) → DtAll K H2 vs ds → Q (.ref p) H2) → te σ H1 Q
def EvDA (ta : TA) (σ : L2.St) (H : Hp) (ds : List PyData) : Prop := ∀ H1, Ex H H1 → ∀ Q : List V → Hp → Prop, (∀ vs H2, Ex H1 H2 → DtAll K H2 vs ds → Q vs H2) → ta σ H1 Q
/-- a promise that hands back data and leaves all that was there -/
def PureSp (sp : Sp) (ds : List PyData) (d : PyData) : Prop := ∀ vs H, DtAll K H vs ds → ∀ (Q : VK) (E : XK), (∀ v H2, Ex H H2 → Dt K H2 v d → Q v H2) → sp vs H Q E
/-- the promise of such a def: rel tells which data belongs to which -/
def spR (rel : List PyData → PyData → Prop) : Sp := fun vs H Q _ => ∃ ds d, DtAll K H vs ds ∧ rel ds d ∧ ∀ v H', Ex H H' → Dt K H' v d → Q v H'
end
section
variable {K : PySem.W.Frag} {σ : L2.St} {H H' : Hp} {ta tb te : TE} {d e : PyData} {ds es : List PyData} {v : V}
theorem spR_pure {rel : List PyData → PyData → Prop} (h : rel ds d) : PureSp K (spR K rel) ds d := fun vs H a Q E q => ⟨ds, d, a, h, fun v H' e t => q v H' e t⟩
theorem EvD.mono (x : Ex H H') (h : EvD K te σ H d) : EvD K te σ H' d := fun H1 a Q q => h H1 (x.trans a) Q q
theorem EvLD.mono (x : Ex H H') (h : EvLD K te σ H ds) : EvLD K te σ H' ds := fun H1 a Q q => h H1 (x.trans a) Q q
theorem EvD.to (h : EvD K te σ H d) (x : d = e) : EvD K te σ H e := x ▸ h
theorem EvLD.to (h : EvLD K te σ H ds) (x : ds = es) : EvLD K te σ H es := x ▸ h
theorem d_of (h : Ev te σ H v) (t : Dt K H v d) : EvD K te σ H d := fun H1 e1 Q q => h H1 e1 Q fun H2 e2 => q v H2 e2 (t.ex (e1.trans e2))
theorem EvD.ev_int {i : Int} (h : EvD K te σ H (.int i)) : Ev te σ H (.int i) := fun H1 e1 Q q => h H1 e1 Q fun v H2 e2 t => by rw [t.int_inv]; exact q H2 e2
theorem EvD.ev_str {i : Str} (h : EvD K te σ H (.str i)) : Ev te σ H (.str i) := fun H1 e1 Q q => h H1 e1 Q fun v H2 e2 t => by rw [t.str_inv]; exact q H2 e2
theorem EvD.ev_bl {i : Bool} (h : EvD K te σ H (.bool i)) : Ev te σ H (.bl i) := fun H1 e1 Q q => h H1 e1 Q fun v H2 e2 t => by rw [t.bl_inv]; exact q H2 e2
theorem EvD.ev_non (h : EvD K te σ H .none) : Ev te σ H .non := fun H1 e1 Q q => h H1 e1 Q fun v H2 e2 t => by rw [t.non_inv]; exact q H2 e2
theorem d_int {i : Int} (h : Ev te σ H (.int i)) : EvD K te σ H (.int i) := d_of h (.int i)
theorem d_str {i : Str} (h : Ev te σ H (.str i)) : EvD K te σ H (.str i) := d_of h (.str i)
theorem d_bl {i : Bool} (h : Ev te σ H (.bl i)) : EvD K te σ H (.bool i) := d_of h (.bl i)
theorem d_non (h : Ev te σ H .non) : EvD K te σ H .none := d_of h .non
theorem d_var {i : Nat} (h : σ[i]? = some (some v)) (t : Dt K H v d) : EvD K (tVar i) σ H d := d_of (ev_var h) t
theorem d_cI {i : Int} : EvD K (tC (.int i)) σ H (.int i) := d_int ev_c
theorem d_cS {i : Str} : EvD K (tC (.str i)) σ H (.str i) := d_str ev_c
theorem d_cB {i : Bool} : EvD K (tC (.bl i)) σ H (.bool i) := d_bl ev_c
theorem d_cN : EvD K (tC .non) σ H .none := d_non ev_c
theorem da_nil : EvDA K tNil σ H [] := fun H1 _ Q q => q [] H1 (Ex.refl H1) .nil
theorem da_cons {tr : TA} (h : EvD K te σ H d) (r : EvDA K tr σ H ds) : EvDA K (tCons te tr) σ H (d :: ds) := fun H1 e1 Q q => h H1 e1 _ fun v H2 e2 t => r H2 (e1.trans e2) _ fun vs H3 e3 ts => q _ H3 (e2.trans e3) (.cons (t.ex e3) ts)
theorem d_tup {ta : TA} (h : EvDA K ta σ H ds) (hl : ds.length ≤ 100000) : EvD K (tTup ta) σ H (.tuple ds) := fun H1 e1 Q q => h H1 e1 _ fun vs H2 e2 ts =>
  ⟨sz_of (by rw [ts.length]; exact hl), fun p hp => q _ _ (e2.trans (Ex.new hp)) (.tup (SqT.of upd_same) (ts.ex (Ex.new hp)))⟩
theorem l_lst {ta : TA} (h : EvDA K ta σ H ds) (hl : ds.length ≤ 100000) : EvLD K (tLst ta) σ H ds := fun H1 e1 Q q => h H1 e1 _ fun vs H2 e2 ts =>
  ⟨sz_of (by rw [ts.length]; exact hl), fun p hp => q p vs _ (fresh_back e2 hp) (e2.trans (Ex.new hp)) upd_same (ts.ex (Ex.new hp))⟩
theorem d_call {sp : Sp} {E : XK} {ta : TA} (h : EvDA K ta σ H ds) (hp : PureSp K sp ds d) : EvD K (tCall sp [] E ta) σ H d := fun H1 e1 Q q => h H1 e1 _ fun vs H2 e2 ts => by
  show sp (vs ++ []) H2 Q E
  rw [List.append_nil]
  exact hp vs H2 ts Q E fun v H3 e3 t => q v H3 (e2.trans e3) t
theorem d_op {r : R2} (ha : EvD K ta σ H d) (hb : EvD K tb σ H e) {z : PyData} (hr : ∀ x y H1, Ex H H1 → Dt K H1 x d → Dt K H1 y e → ∀ Q : VK, (∀ v H2, Ex H1 H2 → Dt K H2 v z → Q v H2) → r x y H1 Q) : EvD K (tOp r ta tb) σ H z := fun H1 e1 Q q =>
  ha H1 e1 _ fun x H2 e2 t => hb H2 (e1.trans e2) _ fun y H3 e3 u => hr x y H3 ((e1.trans e2).trans e3) (t.ex e3) u Q fun v H4 e4 w => q v H4 ((e2.trans e3).trans e4) w
theorem d_I0 {g : Int → Int → V} {i j : Int} {z : PyData} (ha : EvD K ta σ H (.int i)) (hb : EvD K tb σ H (.int j)) (hz : ∀ H', Dt K H' (g i j) z) : EvD K (tOp (rI0 g) ta tb) σ H z :=
  d_op ha hb fun x y H1 _ t u Q q => ⟨i, j, t.int_inv, u.int_inv, q _ H1 (Ex.refl H1) (hz H1)⟩
theorem d_I {C : Int → Int → Prop} {g : Int → Int → V} {i j : Int} {z : PyData} (ha : EvD K ta σ H (.int i)) (hb : EvD K tb σ H (.int j)) (hc : C i j) (hz : ∀ H', Dt K H' (g i j) z) : EvD K (tOp (rI C g) ta tb) σ H z :=
  d_op ha hb fun x y H1 _ t u Q q => ⟨i, j, t.int_inv, u.int_inv, hc, q _ H1 (Ex.refl H1) (hz H1)⟩
theorem d_opII {g : Int → Int → Int} {i j : Int} (ha : EvD K ta σ H (.int i)) (hb : EvD K tb σ H (.int j)) : EvD K (tOp (rI0 fun i j => .int (g i j)) ta tb) σ H (.int (g i j)) := d_I0 ha hb fun _ => .int _
theorem d_opIB {g : Int → Int → Bool} {i j : Int} (ha : EvD K ta σ H (.int i)) (hb : EvD K tb σ H (.int j)) : EvD K (tOp (rI0 fun i j => .bl (g i j)) ta tb) σ H (.bool (g i j)) := d_I0 ha hb fun _ => .bl _
theorem d_opCI {C : Int → Int → Prop} {g : Int → Int → Int} {i j : Int} (ha : EvD K ta σ H (.int i)) (hb : EvD K tb σ H (.int j)) (hc : C i j) : EvD K (tOp (rI C fun i j => .int (g i j)) ta tb) σ H (.int (g i j)) := d_I ha hb hc fun _ => .int _
theorem atI_dt {xs : List V} {i : Int} (h : DtAll K H xs ds) (ha : atI ds i = some d) : ∃ v, atI xs i = some v ∧ Dt K H v d := by
  unfold atI at ha ⊢
  rw [h.length]
  cases q : ixN ds.length i with
  | none => rw [q] at ha; cases ha
  | some j =>
    rw [q] at ha
    obtain ⟨v, h1, h2⟩ := h.get (i := j) (d := d) ha
    exact ⟨v, h1, h2⟩
theorem d_ixT {i : Int} (ha : EvD K ta σ H (.tuple ds)) (hb : EvD K tb σ H (.int i)) (hi : atI ds i = some d) : EvD K (tOp (rIxT K) ta tb) σ H d :=
  d_op ha hb fun x y H1 _ t u Q q => by
    obtain ⟨a, xs, rfl, hs, hx⟩ := t.tup_inv
    obtain ⟨v, h1, h2⟩ := atI_dt hx hi
    exact ⟨a, xs, i, v, rfl, u.int_inv, hs, h1, q v H1 (Ex.refl H1) h2⟩
/-- an item of a list that stands in H -/
theorem d_ixL {i : Int} {p : Addr} {xs : List V} (ha : Ev ta σ H (.ref p)) (hb : EvD K tb σ H (.int i)) (hs : SqL K H p xs) (hx : DtAll K H xs ds) (hi : atI ds i = some d) : EvD K (tOp (rIxL K) ta tb) σ H d := fun H1 e1 Q q =>
  ha H1 e1 _ fun H2 e2 => hb H2 (e1.trans e2) _ fun y H3 e3 u => by
    obtain ⟨v, h1, h2⟩ := atI_dt hx hi
    exact ⟨p, xs, i, v, rfl, u.int_inv, ex_l ((e1.trans e2).trans e3) hs, h1, q v H3 (e2.trans e3) (h2.ex ((e1.trans e2).trans e3))⟩
/-- an item of a list just made -/
theorem d_ixNL {i : Int} (ha : EvLD K ta σ H ds) (hb : EvD K tb σ H (.int i)) (hi : atI ds i = some d) : EvD K (tOp (rIxL K) ta tb) σ H d := fun H1 e1 Q q =>
  ha H1 e1 _ fun p xs H2 hp e2 h2 hx => hb H2 (e1.trans e2) _ fun y H3 e3 u => by
    obtain ⟨v, h1, h3⟩ := atI_dt hx hi
    exact ⟨p, xs, i, v, rfl, u.int_inv, ex_l e3 (SqL.of h2), h1, q v H3 (e2.trans e3) (h3.ex e3)⟩
theorem d_eqD (ha : EvD K ta σ H d) (hb : EvD K tb σ H e) (h1 : SeqAt.shaped d = true) (h2 : SeqAt.shaped e = true) : EvD K (tOp (rEqD K) ta tb) σ H (.bool (PyData.eqv d e)) :=
  d_op ha hb fun x y H1 _ t u Q q => ⟨d, e, t.dp, u.dp, h1, h2, q _ H1 (Ex.refl H1) (.bl _)⟩
theorem d_neD (ha : EvD K ta σ H d) (hb : EvD K tb σ H e) (h1 : SeqAt.shaped d = true) (h2 : SeqAt.shaped e = true) : EvD K (tOp (rNeD K) ta tb) σ H (.bool (!PyData.eqv d e)) :=
  d_op ha hb fun x y H1 _ t u Q q => ⟨d, e, t.dp, u.dp, h1, h2, q _ H1 (Ex.refl H1) (.bl _)⟩
theorem d_eqS {x y : Str} (ha : EvD K ta σ H (.str x)) (hb : EvD K tb σ H (.str y)) : EvD K (tOp rEq ta tb) σ H (.bool (decide (x = y))) :=
  d_op ha hb fun u w H1 _ t u' Q q => by
    rw [t.str_inv, u'.str_inv]
    refine ⟨rfl, q _ H1 (Ex.refl H1) ?_⟩
    have e1 : decide (V.str x = V.str y) = decide (x = y) := by
      by_cases h : x = y
      · rw [decide_eq_true h, h]; exact decide_eq_true rfl
      · rw [decide_eq_false h]; exact decide_eq_false fun z => h (by injection z)
    rw [e1]
    exact .bl _
theorem d_neS {x y : Str} (ha : EvD K ta σ H (.str x)) (hb : EvD K tb σ H (.str y)) : EvD K (tOp rNe ta tb) σ H (.bool (!decide (x = y))) :=
  d_op ha hb fun u w H1 _ t u' Q q => by
    rw [t.str_inv, u'.str_inv]
    refine ⟨rfl, q _ H1 (Ex.refl H1) ?_⟩
    have e1 : decide (V.str x = V.str y) = decide (x = y) := by
      by_cases h : x = y
      · rw [decide_eq_true h, h]; exact decide_eq_true rfl
      · rw [decide_eq_false h]; exact decide_eq_false fun z => h (by injection z)
    rw [e1]
    exact .bl _
theorem d_eqI {x y : Int} (ha : EvD K ta σ H (.int x)) (hb : EvD K tb σ H (.int y)) : EvD K (tOp rEq ta tb) σ H (.bool (decide (x = y))) :=
  d_op ha hb fun u w H1 _ t u' Q q => by
    rw [t.int_inv, u'.int_inv]
    refine ⟨rfl, q _ H1 (Ex.refl H1) ?_⟩
    have e1 : decide (V.int x = V.int y) = decide (x = y) := by
      by_cases h : x = y
      · rw [decide_eq_true h, h]; exact decide_eq_true rfl
      · rw [decide_eq_false h]; exact decide_eq_false fun z => h (by injection z)
    rw [e1]
    exact .bl _
theorem d_neI {x y : Int} (ha : EvD K ta σ H (.int x)) (hb : EvD K tb σ H (.int y)) : EvD K (tOp rNe ta tb) σ H (.bool (!decide (x = y))) :=
  d_op ha hb fun u w H1 _ t u' Q q => by
    rw [t.int_inv, u'.int_inv]
    refine ⟨rfl, q _ H1 (Ex.refl H1) ?_⟩
    have e1 : decide (V.int x = V.int y) = decide (x = y) := by
      by_cases h : x = y
      · rw [decide_eq_true h, h]; exact decide_eq_true rfl
      · rw [decide_eq_false h]; exact decide_eq_false fun z => h (by injection z)
    rw [e1]
    exact .bl _
/-! tests -/
theorem et_D {b : Bool} (h : EvD K te σ H (.bool b)) : EvT (tTest te) σ H b := et_test h.ev_bl
theorem et_DB {b : Bool} (h : EvD K te σ H (.bool b)) : EvT (tB te) σ H b := et_B h.ev_bl
theorem et_op {r : R2} {b : Bool} (h : EvD K (tOp r ta tb) σ H (.bool b)) : EvT (tTest (tOp r ta tb)) σ H b := et_test h.ev_bl
theorem d_if {t : TT} {b : Bool} (h : EvT t σ H b) (h1 : b = true → EvD K ta σ H d) (h2 : b = false → EvD K tb σ H d) : EvD K (tIf t ta tb) σ H d := fun H1 e1 Q q => h H1 e1 _ fun H2 e2 => by
  cases b with
  | true =>
    show ta σ H2 Q
    exact h1 rfl H2 (e1.trans e2) Q fun v H3 e3 t => q v H3 (e2.trans e3) t
  | false =>
    show tb σ H2 Q
    exact h2 rfl H2 (e1.trans e2) Q fun v H3 e3 t => q v H3 (e2.trans e3) t
theorem d_isN {b : Bool} (h : EvD K ta σ H d) (hb : b = (match d with | .none => true | _ => false)) : EvT (tTest (tOp (fun x y H Q => y = .non ∧ Q (.bl (decide (x = .non))) H) ta (tC .non))) σ H b := fun H1 e1 Q q =>
  h H1 e1 _ fun v H2 e2 t => ⟨rfl, b, by
    rw [hb]
    cases t <;> rfl, q H2 e2⟩
theorem d_notN {b : Bool} (h : EvD K ta σ H d) (hb : b = (match d with | .none => false | _ => true)) : EvT (tTest (tOp (fun x y H Q => y = .non ∧ Q (.bl (!decide (x = .non))) H) ta (tC .non))) σ H b := fun H1 e1 Q q =>
  h H1 e1 _ fun v H2 e2 t => ⟨rfl, b, by
    rw [hb]
    cases t <;> rfl, q H2 e2⟩
/-! statements -/
variable {D : Ends}
theorem s_retD (h : EvD K te σ H d) (k : ∀ v H1, Ex H H1 → Dt K H1 v d → D.rt v H1) : tRet te D σ H := h H (Ex.refl H) _ k
theorem s_retLD (h : EvLD K te σ H ds) (k : ∀ p vs H1, H p = none → Ex H H1 → H1 p = some (.lst vs) → DtAll K H1 vs ds → D.rt (.ref p) H1) : tRet te D σ H := h H (Ex.refl H) _ k
theorem s_asgD {i : Nat} (h : EvD K te σ H d) (k : ∀ v H1, Ex H H1 → Dt K H1 v d → D.nx (σ.set i (some v)) H1) : tAsg te (gName i) D σ H := h H (Ex.refl H) _ fun v H1 e t => k v H1 e t
theorem s_asgLD {i : Nat} (h : EvLD K te σ H ds) (k : ∀ p vs H1, H p = none → Ex H H1 → H1 p = some (.lst vs) → DtAll K H1 vs ds → D.nx (σ.set i (some (.ref p))) H1) : tAsg te (gName i) D σ H := h H (Ex.refl H) _ fun p vs H1 hp e h1 ts => k p vs H1 hp e h1 ts
theorem q_asgD {tz : TS} {i : Nat} (h : EvD K te σ H d) (k : ∀ v H1, Ex H H1 → Dt K H1 v d → tz D (σ.set i (some v)) H1) : tSeq (tAsg te (gName i)) tz D σ H := s_asgD (D := { D with nx := tz D }) h k
theorem q_asgLD {tz : TS} {i : Nat} (h : EvLD K te σ H ds) (k : ∀ p vs H1, H p = none → Ex H H1 → H1 p = some (.lst vs) → DtAll K H1 vs ds → tz D (σ.set i (some (.ref p))) H1) : tSeq (tAsg te (gName i)) tz D σ H := s_asgLD (D := { D with nx := tz D }) h k
end

/-! ### targets -/
/-- the target takes the value and leaves the slots σ2 -/
def Reach (g : TG) (x : V) (σ : L2.St) (H : Hp) (σ2 : L2.St) : Prop := ∀ R : L2.St → Hp → Prop, R σ2 H → g x σ H R
theorem reach_name {i : Nat} {x : V} {σ : L2.St} {H : Hp} : Reach (gName i) x σ H (σ.set i (some x)) := fun _ h => h
def ReachS (g : TGs) (xs : List V) (σ : L2.St) (H : Hp) (σ2 : L2.St) : Prop := ∀ R : L2.St → Hp → Prop, R σ2 H → g xs σ H R
theorem reach_nil {σ : L2.St} {H : Hp} : ReachS gNil [] σ H σ := fun _ h => ⟨rfl, h⟩
theorem reach_cons {g : TG} {gs : TGs} {x : V} {xs : List V} {σ σ1 σ2 : L2.St} {H : Hp} (h : Reach g x σ H σ1) (r : ReachS gs xs σ1 H σ2) : ReachS (gCons g gs) (x :: xs) σ H σ2 := fun R q => ⟨x, xs, rfl, h _ (r _ q)⟩
theorem reach_tup {K : PySem.W.Frag} {n : Nat} {gs : TGs} {a : Addr} {xs : List V} {σ σ2 : L2.St} {H : Hp} (hs : SqT K H a xs) (hl : xs.length = n) (r : ReachS gs xs σ H σ2) : Reach (gTup K n gs) (.ref a) σ H σ2 := fun R q => ⟨a, xs, rfl, hs, hl, r _ q⟩

/-! ### comprehensions -/
section
variable {K : PySem.W.Frag} {σ : L2.St} {H : Hp} {tl te : TE} {tt : TT} {g : TG} {ws : List Nat} {ds : List PyData}
/-- the state of the new list at D behind some items -/
def Lw (K : PySem.W.Frag) (H : Hp) (D : Addr) (es : List PyData) (H' : Hp) : Prop := H D = none ∧ Ex H H' ∧ ∃ acc, H' D = some (.lst acc) ∧ DtAll K H' acc es
theorem Lw.snoc {D : Addr} {es : List PyData} {H4 : Hp} {y : V} {d : PyData} (w : Lw K H D es H4) (hy : Dt K H4 y d) (hz : es.length < 50000) : ∃ acc, H4 D = some (.lst acc) ∧ acc.length < sizeLine ∧ Lw K H D (es ++ [d]) (upd H4 D (.lst (acc ++ [y]))) := by
  obtain ⟨h0, e, acc, h1, h2⟩ := w
  refine ⟨acc, h1, sz_lt (by rw [h2.length]; omega), h0, e.mut h0 (by rw [h1]; exact trivial), _, upd_same, ?_⟩
  exact (h2.tx (Tx.lst h1)).append (.one (hy.tx (Tx.lst h1)))
theorem Lw.ex {D : Addr} {es : List PyData} {H4 H5 : Hp} (w : Lw K H D es H4) (e : Ex H4 H5) : Lw K H D es H5 := by
  obtain ⟨h0, e0, acc, h1, h2⟩ := w
  exact ⟨h0, e0.trans e, acc, e.at h1, h2.ex e⟩
/-- one turn -/
theorem Lw.turn {D : Addr} {es : List PyData} {H3 : Hp} {σ2 : L2.St} {b : Bool} {d : PyData} {N : Hp → Prop} (w : Lw K H D es H3) (hz : es.length < 50000) (ht : EvT tt σ2 H3 b) (he : b = true → EvD K te σ2 H3 d)
    (k : ∀ H5, Lw K H D (es ++ if b = true then [d] else []) H5 → N H5) : tt σ2 H3 fun c H4 => if c = true then te σ2 H4 fun y H5 => ∃ acc, H5 D = some (.lst acc) ∧ acc.length < sizeLine ∧ N (upd H5 D (.lst (acc ++ [y]))) else N H4 := by
  refine ht H3 (Ex.refl _) _ fun H4 e4 => ?_
  cases b with
  | true =>
    show te σ2 H4 _
    refine he rfl H4 e4 _ fun y H5 e5 hy => ?_
    obtain ⟨acc, h1, h2, h3⟩ := (w.ex (e4.trans e5)).snoc hy hz
    exact ⟨acc, h1, h2, k _ h3⟩
  | false =>
    show N H4
    refine k _ ?_
    show Lw K H D (es ++ []) H4
    rw [List.append_nil]
    exact w.ex e4
/-- what a comprehension with a test takes -/
def sel {α : Type} (k : α → Bool) (f : α → PyData) (ys : List α) : List PyData := (ys.filter k).map f
theorem sel_take {α : Type} {k : α → Bool} {f : α → PyData} {ys : List α} {i : Nat} {y : α} (h : ys[i]? = some y) : sel k f (ys.take (i + 1)) = sel k f (ys.take i) ++ if k y = true then [f y] else [] := by
  unfold sel
  rw [List.take_add_one, h, List.filter_append, List.map_append]
  congr 1
  show List.map f (List.filter k [y]) = _
  by_cases hk : k y = true
  · rw [if_pos hk, List.filter_cons_of_pos hk]; rfl
  · rw [if_neg hk, List.filter_cons_of_neg hk]; rfl
theorem sel_len {α : Type} {k : α → Bool} {f : α → PyData} {ys : List α} {i : Nat} : (sel k f (ys.take i)).length ≤ ys.length := by
  unfold sel
  rw [List.length_map]
  refine Nat.le_trans (List.length_filter_le _ _) ?_
  rw [List.length_take]
  omega
theorem sel_all {α : Type} {f : α → PyData} (ys : List α) : sel (fun _ => true) f ys = ys.map f := by
  unfold sel
  rw [List.filter_eq_self.mpr (fun _ _ => rfl)]
theorem getF {α : Type} {F : α → PyData} {ys : List α} {xs : List V} {i : Nat} {x : V} (h : DtAll K H xs (ys.map F)) (hi : xs[i]? = some x) : ∃ y, ys[i]? = some y ∧ Dt K H x (F y) := by
  obtain ⟨d, hd, ht⟩ := h.getV hi
  rw [List.getElem?_map] at hd
  cases q : ys[i]? with
  | none => rw [q] at hd; cases hd
  | some y =>
    rw [q] at hd
    cases hd
    exact ⟨y, rfl, ht⟩
theorem et_yes {σ : L2.St} {H : Hp} : EvT tYes σ H true := fun H1 _ Q q => q H1 (Ex.refl H1)
/-- tuple(a list just made) -/
theorem d_tupleOf {ds : List PyData} {te : TE} (h : EvLD K te σ H ds) : EvD K (tCB (fun xs H Q => ∃ p ys, xs = [.ref p] ∧ ((SqL K H p ys ∧ ∀ l, H l = none → Q (.ref l) (upd H l (.tup ys))) ∨ (SqT K H p ys ∧ Q (.ref p) H))) (tCons te tNil)) σ H (.tuple ds) := fun H1 e1 Q q =>
  h H1 e1 _ fun p vs H2 hp e2 h2 hx => ⟨p, vs, rfl, .inl ⟨SqL.of h2, fun l hl => q _ _ (e2.trans (Ex.new hl)) (.tup (SqT.of upd_same) (hx.ex (Ex.new hl)))⟩⟩
end
end AS


set_option Elab.async false
set_option linter.all false
set_option maxRecDepth 100000
set_option maxHeartbeats 2000000
/-! What is walked (EvI), comprehensions of lists and dicts over it, for over it; enumerate of a tuple. -/
namespace AS
open PySem L2 LamX
variable [TabsOf]

/-! ### enumerate(t), t a tuple -/
section
open PyProof.Rows
theorem meets_enum1 {v : Value} {o : Obj} {G : Heap → Prop} (B : Begins v o G) : Meets (Builtin.«enumerate.__new__» ⟨[.type "enumerate", v], []⟩) (fun _ R s => G s.heap ∧
      R (.ok (.ret (.ref (s.heap.push o).objs.size))) { s with heap := (s.heap.push o).push { cls := .type "enumerate", data := .fields #[.none, .bool false, .ref s.heap.objs.size, rawInt 0, .none, .none] } }) :=
  .of_wp fun prog w A R s h => by
    obtain ⟨hp, g, d, tk, os⟩ := s
    obtain ⟨h1, h⟩ := h
    have hsub := sub_enumerate
    have go : ∀ {A2 : Around} {E2 : Value → Shared → Prop} {Q2 : Value → Shared → Prop}, Q2 (.ref hp.objs.size) ⟨hp.push o, g, d, tk, os⟩ → wpAny (model prog w) A2 (pyIter v) Q2 E2 ⟨hp, g, d, tk, os⟩ := fun q => B.iter prog w _ _ ⟨hp, g, d, tk, os⟩ _ h1 q
    wp_walk using go
    refine wpAny_stack_any fun st => wpAny_pure ?_
    split
    · rename_i c _ _ _ _ _
      cases (c == Value.type "enumerate")
      · wp_walk using go
        exact ⟨_, rfl, h⟩
      · wp_walk using go
        exact ⟨_, rfl, h⟩
    · wp_walk using go
      exact ⟨_, rfl, h⟩
theorem call_enum1 {prog : Program} {w : World} {A : Around} {E : Value → Shared → Prop} {s : Shared} {v : Value} {o : Obj} {G : Heap → Prop} {Q : Value → Shared → Prop} (B : Begins v o G) (h1 : G s.heap)
    (h : ∀ h', IsEnum h' (s.heap.objs.size + 1) s.heap.objs.size 0 .none → h'.get? s.heap.objs.size = some o → (∀ b o, s.heap.get? b = some o → h'.get? b = some o) → Q (.ref (s.heap.objs.size + 1)) { s with heap := h' }) :
    wpAny (model prog w) A (call (.type "enumerate") [v]) Q E s := by
  refine callType_new F.called_enumerate (by decide) (F.typeCall_enumerate_1 _) (F.newCall_enumerate_1 _) (fun obj => F.args_object_init_2 obj _) F.entry_enumerate_new (meets_enum1 B) ⟨h1, ?_⟩
  have hz : (s.heap.push o).objs.size = s.heap.objs.size + 1 := Heap.size_push ..
  show _ ∧ _
  rw [hz]
  have he : IsEnum ((s.heap.push o).push { cls := .type "enumerate", data := .fields #[.none, .bool false, .ref s.heap.objs.size, rawInt 0, .none, .none] }) (s.heap.objs.size + 1) s.heap.objs.size 0 .none := by
    have e := Heap.get?_push_size (s.heap.push o) (o := { cls := .type "enumerate", data := .fields #[.none, .bool false, .ref s.heap.objs.size, rawInt 0, .none, .none] }) rfl
    rw [hz] at e
    exact e
  exact ⟨⟨_, he, rfl⟩, h _ he (Heap.get?_push_of_some _ (Heap.get?_push_size _ B.free)) fun b o x => Heap.get?_push_of_some _ (Heap.get?_push_of_some _ x)⟩
end

/-- the items of the tuple at a in new pairs with their places -/
def ItEt (K : PySem.W.Frag) (a : Addr) : It :=
  ⟨fun i H => ∃ (xs : List V) (x : V), SqT K H a xs ∧ xs[i]? = some x, fun i H v H' => ∃ T x, v = .ref T ∧ H T = none ∧ H' = upd H T (.tup [.int (i : Nat), x]) ∧ ∀ xs, SqT K H a xs → xs[i]? = some x, fun i H => ∃ xs : List V, SqT K H a xs ∧ xs.length ≤ i⟩
theorem turn_enumT {P : Program} {w : World} {K : PySem.W.Frag} {elts : List Expr} {kk : Nat} {tpos : Pos} (a e it : Addr) :
    Turn P w K (.Tuple elts kk tpos) (ItEt K a) [e, it] e (fun i h => (∃ old, IsEnum h e it ((i : Nat) : Int) old) ∧ h.IsTupleIter it a i ∧ e ≠ it ∧ a ≠ it ∧ e ≠ a) where
  mem := by simp
  obj := fun i h st b hb => by
    obtain ⟨⟨old, he⟩, ⟨o, ho, hc, hd⟩, _⟩ := st
    have e' : b = e ∨ b = it := by simpa using hb
    rcases e' with z | z
    · rw [z]
      exact ⟨_, he, fun v q => nomatch q⟩
    · rw [z]
      exact ⟨o, ho, fun v q => by rw [hd] at q; cases q⟩
  keep := fun i h h' st k => by
    obtain ⟨⟨old, he⟩, hi, hne⟩ := st
    exact ⟨⟨old, k e (by simp) _ he⟩, hi.at fun o q => k it (by simp) o q, hne⟩
  item := by
    intro X hP hw hK hc i pins s σ H E I hf st hg
    subst hP hw hK
    obtain ⟨⟨old, he⟩, hit, hne, hai, hea⟩ := st
    obtain ⟨xs, x, hq, hx⟩ := hg
    obtain ⟨its, rv, p, hz⟩ := I.tuple hq
    obtain ⟨u, hu, ru⟩ := rv.get hx
    have hel : e < s.heap.objs.size := Heap.lt_size he
    have hil : it < s.heap.objs.size := by
      obtain ⟨_, q, _⟩ := hit
      exact Heap.lt_size q
    have hhd : X.A.in1.handled = none := I.ok.hd hc
    have Dr := PySem.Draws.tuple (prog := X.prog) (w := X.w) (A := X.A.in1) hhd it a hai its.toArray
    have hin : i < its.toArray.size := by
      have e1 : its[i]? = some u := hu
      have e2 := (List.getElem?_eq_some_iff.mp e1).1
      simpa using e2
    refine wpAny_pyNext_enum_itemD Dr he ⟨hit, p⟩ hin hne (by simp [hne, hea]) fun y h' tk hP ho hst hT hsz hk => ?_
    have hy : y = u := by
      have e1 : its.toArray[i]? = some y := hP
      have e2 : its[i]? = some y := by simpa using e1
      rw [hu] at e2
      exact (Option.some.inj e2).symm
    subst hy
    refine ⟨_, rfl, wpAny_letOwnedTupleGo_enum (s := { s with heap := h', toks := tk + 1 }) ho fun h'' he' sb => ?_⟩
    have hT2 : h''.get? s.heap.objs.size = some { cls := .type "tuple", data := .seq #[.int i tk, y] } := (sb.2 _ (Nat.ne_of_gt hel)).trans hT
    have new : ObjOk X.prog X.w (upd H s.heap.objs.size (.tup [.int (i : Nat), x])) h'' s.heap.objs.size (.tup [.int (i : Nat), x]) :=
      ⟨by show 2 ≤ sizeLine; decide, [.int i tk, y], .cons ⟨_, rfl⟩ (.cons ru .nil), ⟨_, hT2, rfl, _, rfl⟩⟩
    have I1 : Inv X pins σ (upd H s.heap.objs.size (.tup [.int (i : Nat), x])) { s with heap := h'', toks := tk + 1 } :=
      I.turnedNew (ch := [e, it]) (fun b ob hb q => (sb.2 b (fun z => hb (by simp [z]))).trans (hk b ob (fun z => hb (by simp [z])) (fun z => hb (by simp [z])) q)) hf (Nat.le_refl _) new
    refine ⟨.ref s.heap.objs.size, _, I1, rfl, ⟨_, x, rfl, I.hok.fresh (Nat.le_refl _), rfl, fun ys hy => by rw [I.tuple_inj hy hq]; exact hx⟩, ⟨⟨y, ?_⟩, hst.1.at fun o q => (sb.2 it (Ne.symm hne)).trans q, hne, hai, hea⟩, fun b hb => ?_⟩
    · have e1 : ((i + 1 : Nat) : Int) = (i : Int) + 1 := by omega
      rw [e1]
      exact he'
    · have hb' : b < s.heap.objs.size := by
        have e' : b = e ∨ b = it := by simpa using hb
        rcases e' with z | z
        · rw [z]; exact hel
        · rw [z]; exact hil
      rw [upd_ne (Nat.ne_of_lt hb')]
      exact (hf b hb).1
  done := by
    intro X hP hw hK hc i pins s σ H E I hf st hg
    subst hP hw hK
    obtain ⟨⟨old, he⟩, hit, hne, hai, hea⟩ := st
    obtain ⟨xs, hq, hx⟩ := hg
    obtain ⟨its, rv, p, hz⟩ := I.tuple hq
    obtain ⟨f0, f1, f2, f3, f4, f5⟩ := hf it (by simp)
    have hhd : X.A.in1.handled = none := I.ok.hd hc
    have hl := rv.length
    have Dr : PySem.Draws X.prog X.w X.A.in1 it [it, a] i (fun _ _ => True) (fun j h => j = i ∧ h.IsTupleIter it a i ∧ h.IsTuple a its.toArray) :=
      { live := fun _ _ st => by
          obtain ⟨_, ⟨o, ho, _⟩, _⟩ := st
          exact ⟨o, ho⟩
        frame := fun _ _ _ st hk => ⟨st.1, st.2.1.at fun o e => hk it (by simp) o e, st.2.2.at fun o e => hk a (by simp) o e⟩
        item := fun j s Q E hj st _ => absurd st.1 (Nat.ne_of_lt hj)
        done := fun s Q E st hE => wpAny_nextOf_tuple_end hhd st.2.1 st.2.2 (by simp; omega) hE }
    exact wpAny_pyNext_enum_endD Dr he ⟨rfl, hit, p⟩ fun h' eb => ⟨rfl, I.turned (t' := s.toks) (fun b o hb q => eb b o hb q) f0 f1 f3 f4 f5⟩
  self := fun A i s Q E st h => by
    obtain ⟨⟨_, he⟩, _⟩ := st
    exact wpAny_pyIter_enum he h
def iEnumT (K : PySem.W.Frag) (ta : TA) : TI := fun σ H R => ta σ H fun vs H1 => ∃ a xs, vs = [.ref a] ∧ SqT K H1 a xs ∧ R (ItEt K a) H1
theorem pi_enumT {X : Cx} {e : Expr} {ta : TA} {p pos tpos : Pos} {elts : List Expr} {kk : Nat} (hg : Gl X "enumerate") (hm : X.mg "enumerate" = none) (ha : PA X [e] ta) (hs : starEach [e] X.env = [(false, eval e X.env)] := by rfl) :
    PI X (.Tuple elts kk tpos) (.Call (.Name "enumerate" p) [e] [] pos) (iEnumT X.K ta) := by
  refine ⟨fun pins s σ H R I h => ?_⟩
  refine PyProof.Rows.Call_ (ld_blt I hg hm PyProof.Rows.boot_enumerate (PyProof.Rows.callWith_type1 (thn (ha.run pos pins s σ H _ I h) fun us s1 ⟨vs, H1, I1, r1, q1⟩ => ?_) hs rfl))
  obtain ⟨a, xs, ex, hq, q⟩ := q1
  subst ex
  cases r1 with
  | cons r rr =>
    cases rr
    cases r
    obtain ⟨its, rv, p', hz⟩ := I1.tuple hq
    have hal : a < s1.heap.objs.size := by
      obtain ⟨o, ho, _⟩ := p'
      exact Heap.lt_size ho
    refine call_enum1 (begins_tuple a its.toArray) p' fun h' he hit hk => wpAny_pyIter_enum he ?_
    have I2 : Inv X pins σ H1 { s1 with heap := h' } := I1.kept (t' := s1.toks) hk
    refine ⟨s1.heap.objs.size + 1, [s1.heap.objs.size + 1, s1.heap.objs.size], _, _, H1, rfl, I2, turn_enumT a (s1.heap.objs.size + 1) s1.heap.objs.size, ⟨⟨.none, he⟩, ⟨_, hit, rfl, rfl⟩, Nat.succ_ne_self _, Nat.ne_of_lt hal, Nat.ne_of_gt (Nat.lt_succ_of_lt hal)⟩, fun b hb => ?_, q⟩
    have e' : b = s1.heap.objs.size + 1 ∨ b = s1.heap.objs.size := by simpa using hb
    have hle : s1.heap.objs.size ≤ b := by
      rcases e' with z | z
      · rw [z]
        exact Nat.le_add_right _ _
      · rw [z]
        exact Nat.le_refl _
    exact I1.fpOk hle (I1.hok.fresh hle)
theorem walk_enumT {K : PySem.W.Frag} {a : Addr} {xs : List V} : Walk (ItEt K a) xs.length (fun H => SqT K H a xs) (YPair (fun i => some (.int (i : Nat))) (fun i => xs[i]?)) :=
  ⟨fun i _ hi q => ⟨xs, xs[i], q, by simp [hi]⟩, fun _ q => ⟨xs, q, Nat.le_refl _⟩, fun i H x H' _ q y => by
    obtain ⟨T, x, e1, e2, e3, e4⟩ := y
    exact ⟨T, _, x, e1, e2, e3, rfl, e4 xs q⟩⟩

/-! ### what is walked, as data -/
section
variable (K : PySem.W.Frag)
/-- it walks the items ys, each told as F y; St: what changes of the heap it bears -/
def EvI (Sb : Hp → Hp → Prop) {α : Type} (wi : TI) (σ : L2.St) (H : Hp) (ys : List α) (F : α → PyData) : Prop := ∀ H1, Ex H H1 → ∀ R : It → Hp → Prop,
  (∀ J H2, Ex H1 H2 → ∀ G : Hp → Prop, G H2 → (∀ H', Sb H2 H' → G H') → Walk J ys.length G (fun i H x H' => Ex H H' ∧ ∃ y, ys[i]? = some y ∧ Dt K H' x (F y)) → R J H2) → wi σ H1 R
end
section
variable {K : PySem.W.Frag} {σ : L2.St} {H : Hp} {tl te : TE} {tt : TT} {g : TG} {ws : List Nat} {α : Type} {ys : List α} {F : α → PyData} {wi : TI}
theorem EvI.ex (h : EvI K (Tx K) wi σ H ys F) : EvI K Ex wi σ H ys F := fun H1 e1 R q => h H1 e1 R fun J H2 e2 G g1 g2 w => q J H2 e2 G g1 (fun H' e => g2 H' (Tx.ex e)) w
theorem i_tup (h : EvD K tl σ H (.tuple (ys.map F))) : EvI K (Tx K) (iTup K tl) σ H ys F := fun H1 e1 R q => h H1 e1 _ fun v H2 e2 t => by
  obtain ⟨a, xs, rfl, hs, hx⟩ := t.tup_inv
  refine ⟨a, rfl, ⟨xs, hs⟩, q _ H2 e2 (fun H' => Tx K H2 H') (Tx.refl _) (fun H' t => t) ?_⟩
  have hl : ys.length = xs.length := by rw [hx.length, List.length_map]
  rw [hl]
  refine Walk.mono walk_tup (fun H' t => t _ _ hs) fun i H' x H'' hi t y => ?_
  obtain ⟨rfl, hx'⟩ := y
  obtain ⟨y, h1, h2⟩ := getF (hx.tx t) hx'
  exact ⟨Ex.refl _, y, h1, h2⟩
theorem i_list {p : Addr} {xs : List V} (h : Ev tl σ H (.ref p)) (hs : SqL K H p xs) (hx : DtAll K H xs (ys.map F)) : EvI K Ex (iList K tl) σ H ys F := fun H1 e1 R q => h H1 e1 _ fun H2 e2 => by
  have hs2 := ex_l (e1.trans e2) hs
  have hx2 := hx.ex (e1.trans e2)
  refine ⟨p, rfl, ⟨xs, hs2⟩, q _ H2 e2 (fun H' => Ex H2 H') (Ex.refl _) (fun H' t => t) ?_⟩
  have hl : ys.length = xs.length := by rw [hx.length, List.length_map]
  rw [hl]
  refine Walk.mono walk_list (fun H' t => ex_l t hs2) fun i H' x H'' hi t y => ?_
  obtain ⟨rfl, hx'⟩ := y
  obtain ⟨y, h1, h2⟩ := getF (hx2.ex t) hx'
  exact ⟨Ex.refl _, y, h1, h2⟩
theorem i_listN (h : EvLD K tl σ H (ys.map F)) : EvI K Ex (iList K tl) σ H ys F := fun H1 e1 R q => h H1 e1 _ fun p xs H2 hp e2 h2 hx2 => by
  refine ⟨p, rfl, ⟨xs, SqL.of h2⟩, q _ H2 e2 (fun H' => Ex H2 H') (Ex.refl _) (fun H' t => t) ?_⟩
  have hl : ys.length = xs.length := by rw [hx2.length, List.length_map]
  rw [hl]
  refine Walk.mono walk_list (fun H' t => ex_l t (SqL.of h2)) fun i H' x H'' hi t y => ?_
  obtain ⟨rfl, hx'⟩ := y
  obtain ⟨y, h1, h2⟩ := getF (hx2.ex t) hx'
  exact ⟨Ex.refl _, y, h1, h2⟩
/-- the data of a place and an item -/
def pairD (F : α → PyData) (p : α × Nat) : PyData := .tuple [.int (p.2 : Nat), F p.1]
theorem i_enumT (h : EvD K tl σ H (.tuple (ys.map F))) : EvI K (Tx K) (iEnumT K (tCons tl tNil)) σ H ys.zipIdx (pairD F) := fun H1 e1 R q => h H1 e1 _ fun v H2 e2 t => by
  obtain ⟨a, xs, rfl, hs, hx⟩ := t.tup_inv
  refine ⟨a, xs, rfl, hs, q _ H2 e2 (fun H' => Tx K H2 H') (Tx.refl _) (fun H' t => t) ?_⟩
  have hl : ys.zipIdx.length = xs.length := by rw [List.length_zipIdx, hx.length, List.length_map]
  rw [hl]
  refine Walk.mono walk_enumT (fun H' t => t _ _ hs) fun i H' x H'' hi t y => ?_
  obtain ⟨T, n, u, rfl, hT, rfl, e1, e2⟩ := y
  obtain ⟨y, h1, h2⟩ := getF (hx.tx t) e2
  refine ⟨Ex.new hT, (y, i), by rw [List.getElem?_zipIdx, h1]; simp, ?_⟩
  have e3 : n = V.int (i : Nat) := (Option.some.inj e1).symm
  subst e3
  exact .tup (SqT.of upd_same) (.cons (.int _) (.cons (h2.tx (Tx.new hT)) .nil))
theorem i_range1 {n : Int} (h : EvD K tl σ H (.int n)) (h1 : -(2 ^ 62) ≤ n) (h2 : n < 2 ^ 62) : EvI K (Tx K) (iRng1 (tCons tl tNil)) σ H (List.range n.toNat) (fun i => .int (i : Nat)) := fun H1 e1 R q => h H1 e1 _ fun v H2 e2 t => by
  refine ⟨n, by rw [t.int_inv], h1, h2, q _ H2 e2 (fun _ => True) trivial (fun _ _ => trivial) ?_⟩
  rw [List.length_range]
  refine Walk.mono walk_range (fun _ _ => trivial) fun i H' x H'' hi _ y => ?_
  obtain ⟨rfl, rfl⟩ := y
  refine ⟨Ex.refl _, i, by rw [List.getElem?_range hi], ?_⟩
  have e : (0 : Int) + (i : Nat) = (i : Nat) := by omega
  show Dt K H'' (.int (0 + (i : Nat))) (.int (i : Nat))
  rw [e]
  exact .int _
/-! [te for g in wi if tt] -/
theorem l_lc (k : α → Bool) (f : α → PyData) (h : EvI K Ex wi σ H ys F) (hl : ys.length ≤ 40000)
    (hb : ∀ x y H1, Ex H H1 → y ∈ ys → Dt K H1 x (F y) → ∃ σ2, Reach g x (wipe σ ws) H1 σ2 ∧ wipe σ2 ws = wipe σ ws ∧ EvT tt σ2 H1 (k y) ∧ (k y = true → EvD K te σ2 H1 (f y))) :
    EvLD K (tLc wi g tt te ws) σ H (sel k f ys) := fun H0 e0 Q q => h H0 e0 _ fun J H1 e1 G g1 g2 w D hD => by
  refine lc_it w (fun i H' => Lw K H1 D (sel k f (ys.take i)) H') ⟨hD, Ex.new hD, [], upd_same, .nil⟩ (fun i H' _ w => g2 _ w.2.1) (fun i x H' H'' hi w' y => ?_) (fun H' w' => ?_)
  · obtain ⟨ey, y, hy, ht⟩ := y
    have w2 := w'.ex ey
    obtain ⟨σ2, r1, r2, r3, r4⟩ := hb x y H'' ((e0.trans e1).trans w2.2.1) (List.mem_of_getElem? hy) ht
    refine r1 _ ⟨r2, ?_⟩
    refine w2.turn (Nat.lt_of_le_of_lt sel_len (by omega)) r3 r4 fun H5 w5 => ?_
    rw [sel_take hy]
    exact w5
  · rw [List.take_length] at w'
    obtain ⟨w0, w1, acc, w2, w3⟩ := w'
    exact q D acc H' (fresh_back e1 hD) (e1.trans w1) w2 w3
theorem l_lcA (f : α → PyData) (h : EvI K Ex wi σ H ys F) (hl : ys.length ≤ 40000)
    (hb : ∀ x y H1, Ex H H1 → y ∈ ys → Dt K H1 x (F y) → ∃ σ2, Reach g x (wipe σ ws) H1 σ2 ∧ wipe σ2 ws = wipe σ ws ∧ EvD K te σ2 H1 (f y)) :
    EvLD K (tLc wi g tYes te ws) σ H (ys.map f) := by
  refine EvLD.to (l_lc (fun _ => true) f h hl fun x y H1 e hy ht => ?_) (sel_all ys)
  obtain ⟨σ2, r1, r2, r3⟩ := hb x y H1 e hy ht
  exact ⟨σ2, r1, r2, et_yes, fun _ => r3⟩
end

/-! ### dicts of data -/
/-- the dict's entries, each value told as data -/
inductive KAll (K : PySem.W.Frag) (H : Hp) : List (Key × V) → List (Key × PyData) → Prop
  | nil : KAll K H [] []
  | cons {k : Key} {v : V} {d : PyData} {kvs : List (Key × V)} {es : List (Key × PyData)} : Dt K H v d → KAll K H kvs es → KAll K H ((k, v) :: kvs) ((k, d) :: es)
/-- as putK, of any values -/
def putA {κ β : Type} [DecidableEq κ] (es : List (κ × β)) (k : κ) (b : β) : List (κ × β) := if es.any (fun e => decide (e.1 = k)) then es.map (fun e => if e.1 = k then (e.1, b) else e) else es ++ [(k, b)]
def getA {κ β : Type} [DecidableEq κ] (es : List (κ × β)) (k : κ) : Option β := (es.find? fun e => decide (e.1 = k)).map (·.2)
section
variable {K : PySem.W.Frag} {H H' : Hp}
theorem KAll.tx (t : Tx K H H') : ∀ {kvs : List (Key × V)} {es : List (Key × PyData)}, KAll K H kvs es → KAll K H' kvs es
  | _, _, .nil => .nil
  | _, _, .cons h a => .cons (h.tx t) (KAll.tx t a)
theorem KAll.length : ∀ {kvs : List (Key × V)} {es : List (Key × PyData)}, KAll K H kvs es → kvs.length = es.length
  | _, _, .nil => rfl
  | _, _, .cons _ a => congrArg (· + 1) (KAll.length a)
theorem KAll.append : ∀ {kvs kws : List (Key × V)} {es fs : List (Key × PyData)}, KAll K H kvs es → KAll K H kws fs → KAll K H (kvs ++ kws) (es ++ fs)
  | _, _, _, _, .nil, b => b
  | _, _, _, _, .cons h a, b => .cons h (KAll.append a b)
theorem KAll.keys : ∀ {kvs : List (Key × V)} {es : List (Key × PyData)}, KAll K H kvs es → kvs.map (·.1) = es.map (·.1)
  | _, _, .nil => rfl
  | _, _, .cons _ a => by simp only [List.map_cons, KAll.keys a]
theorem KAll.any {k : Key} : ∀ {kvs : List (Key × V)} {es : List (Key × PyData)}, KAll K H kvs es → (kvs.any fun e => decide (e.1 = k)) = es.any fun e => decide (e.1 = k)
  | _, _, .nil => rfl
  | _, _, .cons _ a => by simp only [List.any_cons, KAll.any a]
theorem KAll.mapPut {k : Key} {v : V} {d : PyData} (h : Dt K H v d) : ∀ {kvs : List (Key × V)} {es : List (Key × PyData)}, KAll K H kvs es → KAll K H (kvs.map fun e => if e.1 = k then (e.1, v) else e) (es.map fun e => if e.1 = k then (e.1, d) else e)
  | _, _, .nil => .nil
  | _, _, @KAll.cons _ _ k' v' d' kvs es h' a => by
    simp only [List.map_cons]
    by_cases e : k' = k
    · rw [if_pos e, if_pos e]
      exact .cons h (KAll.mapPut h a)
    · rw [if_neg e, if_neg e]
      exact .cons h' (KAll.mapPut h a)
theorem KAll.put {k : Key} {v : V} {d : PyData} {kvs : List (Key × V)} {es : List (Key × PyData)} (a : KAll K H kvs es) (h : Dt K H v d) : KAll K H (putK kvs k v) (putA es k d) := by
  unfold putK putA
  rw [a.any]
  split
  · exact KAll.mapPut h a
  · exact a.append (.cons h .nil)
theorem KAll.get {k : Key} : ∀ {kvs : List (Key × V)} {es : List (Key × PyData)}, KAll K H kvs es → (getA es k = none ∧ valV kvs k = none) ∨ ∃ v d, getA es k = some d ∧ valV kvs k = some v ∧ Dt K H v d
  | _, _, .nil => .inl ⟨rfl, rfl⟩
  | _, _, @KAll.cons _ _ k' v' d' kvs es h' a => by
    by_cases e : k' = k
    · refine .inr ⟨v', d', ?_, valV_pos e, h'⟩
      unfold getA
      rw [List.find?_cons_of_pos (by simpa using e)]
      rfl
    · have h1 : getA ((k', d') :: es) k = getA es k := by
        unfold getA
        rw [List.find?_cons_of_neg (by simpa using e)]
      rw [h1, valV_neg e]
      exact KAll.get a
theorem putA_len {κ β : Type} [DecidableEq κ] (es : List (κ × β)) (k : κ) (b : β) : (putA es k b).length ≤ es.length + 1 := by
  unfold putA
  split
  · rw [List.length_map]
    omega
  · rw [List.length_append]
    exact Nat.le_refl _
end
section
variable {κ β : Type} [DecidableEq κ]
theorem getA_nil {k : κ} : getA ([] : List (κ × β)) k = none := rfl
theorem getA_cons {e : κ × β} {es : List (κ × β)} {k : κ} : getA (e :: es) k = if e.1 = k then some e.2 else getA es k := by
  unfold getA
  by_cases h : e.1 = k
  · rw [List.find?_cons_of_pos (by simpa using h), if_pos h]
    rfl
  · rw [List.find?_cons_of_neg (by simpa using h), if_neg h]
theorem getA_isSome {es : List (κ × β)} {k : κ} : (getA es k).isSome = es.any fun e => decide (e.1 = k) := by
  induction es with
  | nil => rfl
  | cons e es ih =>
    rw [getA_cons, List.any_cons, ← ih]
    by_cases h : e.1 = k
    · rw [if_pos h, decide_eq_true h]
      rfl
    · rw [if_neg h, decide_eq_false h, Bool.false_or]
theorem getA_some_mem {es : List (κ × β)} {k : κ} {b : β} (h : getA es k = some b) : (k, b) ∈ es := by
  induction es with
  | nil => cases h
  | cons e es ih =>
    rw [getA_cons] at h
    by_cases he : e.1 = k
    · rw [if_pos he] at h
      cases h
      rw [← he]
      exact List.mem_cons_self ..
    · rw [if_neg he] at h
      exact List.mem_cons_of_mem _ (ih h)
theorem getA_none_iff {es : List (κ × β)} {k : κ} : getA es k = none ↔ k ∉ es.map (·.1) := by
  induction es with
  | nil => simp [getA_nil]
  | cons e es ih =>
    rw [getA_cons]
    by_cases he : e.1 = k
    · rw [if_pos he]
      simp [he]
    · rw [if_neg he, ih]
      simp [Ne.symm he]
theorem getA_of_mem {es : List (κ × β)} {k : κ} {b : β} (hn : (es.map (·.1)).Nodup) (h : (k, b) ∈ es) : getA es k = some b := by
  induction es with
  | nil => cases h
  | cons e es ih =>
    rw [List.map_cons, List.nodup_cons] at hn
    rw [getA_cons]
    rcases List.mem_cons.mp h with q | q
    · subst q
      rw [if_pos rfl]
    · have hne : e.1 ≠ k := fun z => hn.1 (by rw [z]; exact List.mem_map.mpr ⟨_, q, rfl⟩)
      rw [if_neg hne]
      exact ih hn.2 q
theorem putA_new {es : List (κ × β)} {k : κ} {b : β} (h : k ∉ es.map (·.1)) : putA es k b = es ++ [(k, b)] := by
  unfold putA
  rw [if_neg]
  intro q
  obtain ⟨e, h1, h2⟩ := List.any_eq_true.mp q
  exact h (List.mem_map.mpr ⟨e, h1, of_decide_eq_true h2⟩)
theorem getA_put {es : List (κ × β)} {k j : κ} {b : β} : getA (putA es k b) j = if j = k then some b else getA es j := by
  unfold putA
  split
  · rename_i h
    induction es with
    | nil => cases h
    | cons e es ih =>
      rw [List.map_cons, getA_cons, getA_cons]
      by_cases he : e.1 = k
      · rw [if_pos he]
        by_cases hj : j = k
        · rw [if_pos hj, if_pos (by rw [he, hj])]
        · rw [if_neg hj]
          have h1 : ¬ e.1 = j := fun z => hj (z.symm.trans he)
          rw [if_neg h1, if_neg h1]
          have : ∀ l : List (κ × β), getA (l.map fun e => if e.1 = k then (e.1, b) else e) j = getA l j := by
            intro l
            induction l with
            | nil => rfl
            | cons a l ih =>
              rw [List.map_cons, getA_cons, getA_cons, ih]
              by_cases ha : a.1 = k
              · rw [if_pos ha]
                have h2 : ¬ a.1 = j := fun z => hj (z.symm.trans ha)
                rw [if_neg h2, if_neg h2]
              · rw [if_neg ha]
          exact this es
      · rw [if_neg he]
        have h' : (es.any fun e => decide (e.1 = k)) = true := by
          rw [List.any_cons, decide_eq_false he, Bool.false_or] at h
          exact h
        rw [ih h']
        by_cases hj : j = k
        · rw [if_pos hj, if_neg (fun z => he (z.trans hj)), if_pos hj]
        · rw [if_neg hj, if_neg hj]
  · rename_i h
    have hn : getA es k = none := by
      cases q : getA es k with
      | none => rfl
      | some b' =>
        exfalso
        apply h
        rw [← getA_isSome, q]
        rfl
    induction es with
    | nil =>
      rw [List.nil_append, getA_cons, getA_nil]
      by_cases hj : j = k
      · rw [if_pos hj, if_pos hj.symm]
      · rw [if_neg hj, if_neg (fun z => hj z.symm)]
    | cons e es ih =>
      rw [getA_cons] at hn
      have he : ¬ e.1 = k := fun z => by rw [if_pos z] at hn; cases hn
      rw [if_neg he] at hn
      rw [List.cons_append, getA_cons, getA_cons, ih (fun q => h (by rw [List.any_cons, q, Bool.or_true])) hn]
      by_cases hj : j = k
      · rw [if_pos hj, if_neg (fun z => he (z.trans hj)), if_pos hj]
      · rw [if_neg hj, if_neg hj]
theorem putA_keys {es : List (κ × β)} {k : κ} {b : β} : (putA es k b).map (·.1) = if k ∈ es.map (·.1) then es.map (·.1) else es.map (·.1) ++ [k] := by
  by_cases h : k ∈ es.map (·.1)
  · rw [if_pos h]
    unfold putA
    rw [if_pos]
    · rw [List.map_map]
      apply List.map_congr_left
      intro e _
      show (if e.1 = k then (e.1, b) else e).1 = e.1
      split <;> rfl
    · obtain ⟨e, h1, h2⟩ := List.mem_map.mp h
      exact List.any_eq_true.mpr ⟨e, h1, decide_eq_true h2⟩
  · rw [if_neg h, putA_new h, List.map_append]
    rfl
/-- putting one by one -/
def mkA (es : List (κ × β)) : List (κ × β) := es.foldl (fun acc e => putA acc e.1 e.2) []
theorem mkA_aux : ∀ (es acc : List (κ × β)), (∀ e ∈ es, e.1 ∉ acc.map (·.1)) → (es.map (·.1)).Nodup → es.foldl (fun acc e => putA acc e.1 e.2) acc = acc ++ es
  | [], acc, _, _ => (List.append_nil acc).symm
  | e :: es, acc, h, hn => by
    rw [List.map_cons, List.nodup_cons] at hn
    rw [List.foldl_cons, putA_new (h e (List.mem_cons_self ..)), mkA_aux es _ (fun e' he' => ?_) hn.2, List.append_assoc]
    · rfl
    · rw [List.map_append, List.mem_append]
      rintro (q | q)
      · exact h e' (List.mem_cons_of_mem _ he') q
      · have : e'.1 = e.1 := by simpa using q
        exact hn.1 (by rw [← this]; exact List.mem_map.mpr ⟨e', he', rfl⟩)
theorem mkA_nodup {es : List (κ × β)} (h : (es.map (·.1)).Nodup) : mkA es = es := by
  unfold mkA
  rw [mkA_aux es [] (fun _ _ q => by simp at q) h, List.nil_append]
theorem mkA_snoc {es : List (κ × β)} {e : κ × β} : mkA (es ++ [e]) = putA (mkA es) e.1 e.2 := by
  unfold mkA
  rw [List.foldl_append]
  rfl
theorem mkA_len (es : List (κ × β)) : (mkA es).length ≤ es.length := by
  have : ∀ (es acc : List (κ × β)), (es.foldl (fun acc e => putA acc e.1 e.2) acc).length ≤ acc.length + es.length := by
    intro es
    induction es with
    | nil => intro acc; exact Nat.le_refl _
    | cons e es ih =>
      intro acc
      rw [List.foldl_cons]
      have h1 := ih (putA acc e.1 e.2)
      have h2 := putA_len acc e.1 e.2
      rw [List.length_cons]
      omega
  have h := this es []
  simpa [mkA] using h
end

section
variable {K : PySem.W.Frag} {σ : L2.St} {H : Hp} {tl te tk tv : TE} {tt : TT} {g : TG} {ws : List Nat} {α : Type} {ys : List α} {F : α → PyData} {wi : TI}
/-- a new dict with entries told as data -/
def EvDD (K : PySem.W.Frag) (te : TE) (σ : L2.St) (H : Hp) (es : List (Key × PyData)) : Prop := ∀ H1, Ex H H1 → ∀ Q : VK, (∀ p kvs H2, H1 p = none → Ex H1 H2 → H2 p = some (.dK kvs) → KAll K H2 kvs es → Q (.ref p) H2) → te σ H1 Q
theorem EvDD.to {es es' : List (Key × PyData)} (h : EvDD K te σ H es) (x : es = es') : EvDD K te σ H es' := x ▸ h
def kD : Key → PyData
  | .inl i => .int i
  | .inr x => .str x
theorem dt_kD {v : V} {k : Key} (h : Dt K H v (kD k)) : v = kV k := by
  cases k with
  | inl i => exact h.int_inv
  | inr x => exact h.str_inv
/-- {tk: tv for g in wi if tt} -/
theorem d_dc (c : α → Bool) (kf : α → Key) (f : α → PyData) (h : EvI K Ex wi σ H ys F) (hl : ys.length ≤ 40000)
    (hb : ∀ x y H1, Ex H H1 → y ∈ ys → Dt K H1 x (F y) → ∃ σ2, Reach g x (wipe σ ws) H1 σ2 ∧ wipe σ2 ws = wipe σ ws ∧ EvT tt σ2 H1 (c y) ∧ (c y = true → EvD K tk σ2 H1 (kD (kf y)) ∧ EvD K tv σ2 H1 (f y))) :
    EvDD K (tDc wi g tt tk tv ws) σ H (mkA ((ys.filter c).map fun y => (kf y, f y))) := fun H0 e0 Q q => h H0 e0 _ fun J H1 e1 G g1 g2 w D hD => by
  refine ⟨fun i m H' => m = ys.length - i ∧ i ≤ ys.length ∧ Ex H1 H' ∧ ∃ kvs, H' D = some (.dK kvs) ∧ KAll K H' kvs (mkA (((ys.take i).filter c).map fun y => (kf y, f y))), ⟨_, rfl, Nat.zero_le _, Ex.new hD, [], upd_same, .nil⟩, ?_⟩
  rintro i m H' ⟨rfl, hi, ex, kvs, hk, ha⟩
  by_cases hlt : i < ys.length
  · refine .inr ⟨w.goes i H' hlt (g2 _ ex), fun H'' => i + 1 ≤ ys.length ∧ Ex H1 H'' ∧ ∃ kvs, H'' D = some (.dK kvs) ∧ KAll K H'' kvs (mkA (((ys.take (i + 1)).filter c).map fun y => (kf y, f y))), fun H'' r => ⟨ys.length - (i + 1), by omega, rfl, r⟩, fun x H'' hy => ?_⟩
    obtain ⟨ey, y, hy, ht⟩ := w.yields i H' x H'' hlt (g2 _ ex) hy
    have ex2 := ex.trans ey
    obtain ⟨σ2, r1, r2, r3, r4⟩ := hb x y H'' ((e0.trans e1).trans ex2) (List.mem_of_getElem? hy) ht
    refine r1 _ ⟨r2, ?_⟩
    refine r3 H'' (Ex.refl _) _ fun H4 e4 => ?_
    have hsn : ((ys.take (i + 1)).filter c).map (fun y => (kf y, f y)) = ((ys.take i).filter c).map (fun y => (kf y, f y)) ++ if c y = true then [(kf y, f y)] else [] := by
      rw [List.take_add_one, hy, List.filter_append, List.map_append]
      congr 1
      show List.map _ (List.filter c [y]) = _
      by_cases hk : c y = true
      · rw [if_pos hk, List.filter_cons_of_pos hk]
        rfl
      · rw [if_neg hk, List.filter_cons_of_neg hk]
        rfl
    cases hc : c y with
    | true =>
      rw [if_pos rfl]
      obtain ⟨t1, t2⟩ := r4 hc
      refine t1 H4 e4 _ fun u H5 e5 hu => t2 H5 (e4.trans e5) _ fun z H6 e6 hz => ?_
      have eall := ((ey.trans e4).trans e5).trans e6
      have hk6 := eall.at hk
      refine ⟨kvs, kf y, dt_kD hu, hk6, ?_, hlt, ?_⟩
      · have h1 := ha.length
        have h2 := mkA_len (((ys.take i).filter c).map fun y => (kf y, f y))
        rw [List.length_map] at h2
        have h3 := List.length_filter_le c (ys.take i)
        rw [List.length_take] at h3
        exact sz_lt (by omega)
      · refine ⟨(ex.trans eall).mut hD (by rw [hk6]; exact trivial), _, upd_same, ?_⟩
        rw [hsn, hc, if_pos rfl, mkA_snoc]
        exact ((ha.tx (Tx.ex eall)).tx (Tx.dk hk6 _)).put (hz.tx (Tx.dk hk6 _))
    | false =>
      rw [if_neg Bool.false_ne_true]
      refine ⟨hlt, (ex2.trans e4), kvs, (ey.trans e4).at hk, ?_⟩
      rw [hsn, hc, if_neg Bool.false_ne_true, List.append_nil]
      exact ha.tx (Tx.ex (ey.trans e4))
  · have e : i = ys.length := by omega
    subst e
    rw [List.take_length] at ha
    exact .inl ⟨w.stops H' (g2 _ ex), q D kvs H' (fresh_back e1 hD) (e1.trans ex) hk ha⟩
/-- for g in wi: Pv by the heap at the start, the turn, the slots, the heap -/
theorem s_for {tb : TS} {D : Ends} {Sb : Hp → Hp → Prop} (h : EvI K Sb wi σ H ys F) (Pv : Hp → Nat → L2.St → Hp → Prop) (h0 : ∀ H1, Ex H H1 → Pv H1 0 σ H1) (hS : ∀ H1 i σ' H', Ex H H1 → i ≤ ys.length → Pv H1 i σ' H' → Sb H1 H')
    (hs : ∀ H1 i x y σ' H' H'', Ex H H1 → ys[i]? = some y → Pv H1 i σ' H' → Ex H' H'' → Dt K H'' x (F y) → g x σ' H'' fun σ2 H2 => tb { D with nx := Pv H1 (i + 1), ct := Pv H1 (i + 1), bk := D.nx } σ2 H2)
    (hd : ∀ H1 σ' H', Ex H H1 → Pv H1 ys.length σ' H' → D.nx σ' H') : tFor wi g tb D σ H := h H (Ex.refl _) _ fun J H1 e1 G g1 g2 w =>
  for_it w (Pv H1) (h0 H1 e1) (fun i σ' H' hi p => g2 _ (hS H1 i σ' H' e1 hi p)) (fun i x σ' H' H'' hi p y => by
    obtain ⟨ey, y, hy, ht⟩ := y
    exact hs H1 i x y σ' H' H'' e1 hy p ey ht) fun σ' H' p => hd H1 σ' H' e1 p
theorem q_for {tb tz : TS} {D : Ends} {Sb : Hp → Hp → Prop} (h : EvI K Sb wi σ H ys F) (Pv : Hp → Nat → L2.St → Hp → Prop) (h0 : ∀ H1, Ex H H1 → Pv H1 0 σ H1) (hS : ∀ H1 i σ' H', Ex H H1 → i ≤ ys.length → Pv H1 i σ' H' → Sb H1 H')
    (hs : ∀ H1 i x y σ' H' H'', Ex H H1 → ys[i]? = some y → Pv H1 i σ' H' → Ex H' H'' → Dt K H'' x (F y) → g x σ' H'' fun σ2 H2 => tb { D with nx := Pv H1 (i + 1), ct := Pv H1 (i + 1), bk := tz D } σ2 H2)
    (hd : ∀ H1 σ' H', Ex H H1 → Pv H1 ys.length σ' H' → tz D σ' H') : tSeq (tFor wi g tb) tz D σ H := s_for (D := { D with nx := tz D }) h Pv h0 hS hs hd
end
end AS


set_option Elab.async false
set_option linter.all false
set_option maxRecDepth 100000
set_option maxHeartbeats 4000000
/-! sorted of data (lists, tuples), sorted by a key that is called in the layer and tells whole numbers. -/
namespace AS
open PySem L2 LamX PySem.W PyProof.Rows
variable [TabsOf]

section
variable {prog : Program} {w : World} {A : Around} {E : Value → Shared → Prop} {s : Shared} {v : Value} {vs : List Value}
/-- what is gathered from v is vs, all that was there is kept -/
def Gathers (prog : Program) (w : World) (s : Shared) (v : Value) (vs : List Value) : Prop := ∀ (A : Around) (E : Value → Shared → Prop) (Q : List Value → Shared → Prop), A.handled = none →
  (∀ h' tk, (∀ b o, s.heap.get? b = some o → h'.get? b = some o) → s.heap.objs.size ≤ h'.objs.size → Q vs { s with heap := h', toks := tk }) → wpAny (model prog w) A (collect v) Q E s
theorem gathers_seq {a : Addr} {T : String} {o : Obj} {its : Array Value} {n : Nat} (hT : T = "list" ∨ T = "tuple") (ho : s.heap.get? a = some o) (hc : o.cls = .type T) (hd : o.data = .seq its n) (hz : its.size ≤ sizeLine) : Gathers prog w s (.ref a) its.toList := by
  intro A E Q _ h
  unfold collect
  refine wpAny_bind (wpAny_runValue (codeAny_builtin F.entry_proto_collect ?_))
  rw [Around.under_plainId F.plain_proto_collect _]
  show wpAny _ A.in1 (do again (.builtin "list.__iadd__" ⟨[← newList [], .ref a], []⟩)) _ _ s
  refine wpAny_bind (wpAny_newObj_type ?_)
  refine wpAny_pure ⟨plainId_quiet F.plain_list_iadd _, codeAny_builtin F.entry_list_iadd ?_⟩
  rw [Around.under_plainId F.plain_list_iadd _]
  show wpAny _ A.in1 (Builtin.List.listExtendWith (.ref s.heap.objs.size) (.ref a) (.ref s.heap.objs.size)) _ _ _
  have e0 : (s.heap.push { cls := .type "list", data := .seq ([] : List Value).toArray }).get? s.heap.objs.size = some { cls := .type "list", data := .seq #[] 0 } := Heap.get?_push_size _ rfl
  have e1 := Heap.get?_update_self (Obj.mapSeq (· ++ its)) e0 rfl
  let hN := (s.heap.push { cls := .type "list", data := .seq ([] : List Value).toArray }).update s.heap.objs.size (Obj.mapSeq (· ++ its))
  have hsz : s.heap.objs.size ≤ hN.objs.size := by
    show s.heap.objs.size ≤ ((s.heap.push { cls := .type "list", data := .seq ([] : List Value).toArray }).update s.heap.objs.size (Obj.mapSeq (· ++ its))).objs.size
    rw [Heap.size_update, size_push']
    exact Nat.le_succ _
  have last : wpAny (model prog w) A (do
      let o ← load s.heap.objs.size
      match o.data with
        | .seq xs _ => pure xs.toList
        | _ => unsupported "internal:collect") Q E { s with heap := hN } := by
    refine wpAny_bind (wpAny_load e1 (wpAny_pure ?_))
    have e2 : ((#[] : Array Value) ++ its).toList = its.toList := by simp
    show Q ((#[] : Array Value) ++ its).toList _
    rw [e2]
    exact h hN s.toks (fun b o' hb => (Heap.get?_update_other _ _ (Nat.ne_of_gt (Heap.lt_size hb))).trans (Heap.get?_push_of_some _ hb)) hsz
  refine wpAny_mono (wpAny_extend_seq (hsz := hz) (A := A) (R := fun r s' => r = .ok (.ret (.ref s.heap.objs.size)) ∧ s' = { s with heap := hN })
    (s := { s with heap := s.heap.push { cls := .type "list", data := .seq ([] : List Value).toArray } }) _ a _ 0 hT e0 (Heap.get?_push_of_some _ ho) hc hd ⟨rfl, rfl⟩) (fun fin s' hf => ?_) (fun e s' hf => absurd hf.1 (by simp))
  cases fin with
  | done f =>
    obtain ⟨e, rfl⟩ := hf
    cases e
    exact last
  | again c' => exact ⟨hf.1, codeAny_mono hf.2 fun r s'' hr => by
      obtain ⟨rfl, rfl⟩ := hr
      exact last⟩
/-- sorted(v, ..) is list.sort(..) on a new list of what v gives -/
theorem sorted_gathered {kw : List (Str × Value)} {Q : Value → Shared → Prop} (hh : A.handled = none) (g : Gathers prog w s v vs) (hL : vs.length ≤ sizeLine) (ha1 : argsOk "sorted" ⟨[v], kw⟩) (ha2 : ∀ x, argsOk "list.sort" ⟨[.ref x], kw⟩)
    (body : ∀ h' tk a, (∀ b o, s.heap.get? b = some o → h'.get? b = some o) → s.heap.objs.size ≤ a → h'.get? a = some (seqObj "list" vs.toArray 0) → ∀ E' : Value → Shared → Prop,
      wpAny (model prog w) A.in1.in1 (Builtin.«list.sort» ⟨[.ref a], kw⟩) (fun f s' => f = .done (.ret .none) ∧ Q (.ref a) s') E' { s with heap := h', toks := tk }) :
    wpAny (model prog w) A (call (.builtin "sorted") [v] kw) Q E s := by
  refine call_function_entry_kw kind_sorted plain_sorted entry_sorted ha1 ?_
  unfold Builtin.«sorted»
  refine wpAny_bind (m := checkCount "sorted" 1 1 _) (wpAny_pure ?_)
  refine wpAny_bind (g _ _ _ hh fun h' tk kp hge => ?_)
  refine wpAny_bind (wpAny_newList ?_ hL)
  have hat : (h'.push (seqObj "list" vs.toArray 0)).get? h'.objs.size = some (seqObj "list" vs.toArray 0) := Heap.get?_push_size _ rfl
  refine wpAny_bind (wpAny_holding (wpAny_call_entry_kw slot_list_sort ⟨_, hat, rfl⟩ entry_list_sort ?_ (ha2 _)))
  refine wpAny_mono (body _ tk h'.objs.size (fun b o q => Heap.get?_push_of_some _ (kp b o q)) hge hat _) (fun f s' hf => ?_) fun _ _ e => e
  obtain ⟨rfl, hq⟩ := hf
  exact ⟨_, rfl, wpAny_pure ⟨_, rfl, hq⟩⟩
end

/-! ### sorted(data) -/
section
variable {X : Cx} {pins : List (Addr × Obj)} {σ : L2.St} {H : Hp} {s : Shared}
/-- a list or a tuple that may be read -/
def SqA (K : Frag) (H : Hp) (a : Addr) (xs : List V) : Prop := SqL K H a xs ∨ SqT K H a xs
theorem sqa_gathers {a : Addr} {xs : List V} (I : Inv X pins σ H s) (h : SqA X.K H a xs) : ∃ its : List Value, Vals xs its ∧ xs.length ≤ sizeLine ∧ Gathers X.prog X.w s (.ref a) its := by
  rcases h with h | h
  · obtain ⟨its, rv, pl, hz⟩ := I.list h
    obtain ⟨o, ho, hc, n, hd⟩ := pl.isList
    refine ⟨its, rv, hz, ?_⟩
    have g := gathers_seq (prog := X.prog) (w := X.w) (s := s) (.inl rfl) ho hc hd (by rw [List.size_toArray, ← rv.length]; exact hz)
    rw [List.toList_toArray] at g
    exact g
  · obtain ⟨its, rv, ⟨o, ho, hc, n, hd⟩, hz⟩ := I.tuple h
    refine ⟨its, rv, hz, ?_⟩
    have g := gathers_seq (prog := X.prog) (w := X.w) (s := s) (.inr rfl) ho hc hd (by rw [List.size_toArray, ← rv.length]; exact hz)
    rw [List.toList_toArray] at g
    exact g
theorem vals_each {β : Type} {R : β → Prop} {f : β → V} : ∀ {bs : List β} {us : List Value}, Vals (bs.map f) us → EachIs (fun u b => RelV (f b) u) us bs
  | [], _, .nil => .nil
  | _ :: _, _, .cons r t => .cons r (vals_each (R := R) t)
theorem each_vals {β : Type} {f : β → V} : ∀ {bs : List β} {us : List Value}, EachIs (fun u b => RelV (f b) u) us bs → Vals (bs.map f) us
  | _, _, .nil => .nil
  | _, _, .cons r t => .cons r (each_vals t)
def dle (d e : PyData) : Bool := dataLe false (fun x : PyData => x) d e
def rSortedD (K : Frag) : List V → Hp → VK → Prop := fun vs H Q => ∃ (a : Addr) (xs : List V) (ds : List PyData), vs = [.ref a] ∧ SqA K H a xs ∧ DtAll K H xs ds ∧ AllAlike ds ∧ Sortable ds ∧ (∀ d ∈ ds, d.depth ≤ 32) ∧
  ∀ ys p, H p = none → DtAll K H ys (ds.mergeSort dle) → Q (.ref p) (upd H p (.lst ys))
theorem dtall_zip {K : Frag} {H : Hp} : ∀ {xs : List V} {ds : List PyData}, DtAll K H xs ds → ∀ p ∈ xs.zip ds, Dt K H p.1 p.2
  | _, _, .nil, p, h => by cases h
  | _, _, .cons h a, p, hp => by
    rcases List.mem_cons.mp hp with q | q
    · rw [q]
      exact h
    · exact dtall_zip a p q
theorem dtall_of {K : Frag} {H : Hp} : ∀ {ps : List (V × PyData)}, (∀ p ∈ ps, Dt K H p.1 p.2) → DtAll K H (ps.map Prod.fst) (ps.map Prod.snd)
  | [], _ => .nil
  | p :: ps, h => .cons (h p (List.mem_cons_self ..)) (dtall_of fun q hq => h q (List.mem_cons_of_mem _ hq))
theorem zip_fst {α β : Type} : ∀ {xs : List α} {ys : List β}, xs.length = ys.length → (xs.zip ys).map Prod.fst = xs ∧ (xs.zip ys).map Prod.snd = ys
  | [], [], _ => ⟨rfl, rfl⟩
  | x :: xs, y :: ys, h => by
    obtain ⟨h1, h2⟩ := zip_fst (xs := xs) (ys := ys) (Nat.succ.inj h)
    exact ⟨by rw [List.zip_cons_cons, List.map_cons, h1], by rw [List.zip_cons_cons, List.map_cons, h2]⟩
/-- sorted of what gives data -/
theorem sortedD_core {u : Value} {its : List Value} {xs : List V} {ds : List PyData} {Q : VK} (hc : X.calm = true) (hu : X.A.units + 64 < cLine) (I : L2.Inv X pins σ H s) (rv : Vals xs its) (hz : xs.length ≤ sizeLine) (g : Gathers X.prog X.w s u its)
    (hx : DtAll X.K H xs ds) (hal : AllAlike ds) (hsk : Sortable ds) (hdp : ∀ d ∈ ds, d.depth ≤ 32) (q : ∀ ys p, H p = none → DtAll X.K H ys (ds.mergeSort dle) → Q (.ref p) (upd H p (.lst ys))) : wpAny (model X.prog X.w) X.A (call (.builtin "sorted") [u]) (EP X pins σ Q) X.xe s := by
  have hlen := hx.length
  obtain ⟨z1, z2⟩ := zip_fst hlen
  have eR : EachIs (fun u (b : V × PyData) => RelV b.1 u) its (xs.zip ds) := vals_each (R := fun _ => True) (f := Prod.fst) (by rw [z1]; exact rv)
  have hmem := dtall_zip hx
  have hR : EachIs (fun u (b : V × PyData) => ∃ as, Reads s.heap u b.2 as) its (xs.zip ds) :=
    (each_mem eR).mono fun u b ⟨r1, hb⟩ => Dp.reads I b.2 b.1 u (hmem b hb).dp r1
  refine sorted_gathered (I.ok.hd hc) g (by rw [← rv.length]; exact hz) (args_sorted1 _) (fun _ => args_list_sort _) fun h' tk p kp hge hat E' => ?_
  have nsz : ∀ b o, s.heap.get? b = some o → b ≠ p := fun b o e => Nat.ne_of_lt (Nat.lt_of_lt_of_le (Heap.lt_size e) hge)
  have eR2 : EachIs (fun u (b : V × PyData) => ∃ as, Reads (sortingHeap h' p its) u b.2 as) its (xs.zip ds) := hR.mono fun u b ⟨as, hr⟩ => ⟨as, PyProof.Rows.Reads.keeps (fun b o e => sortingHeap_old (nsz b o e) (kp b o e)) hr⟩
  have hds : (xs.zip ds).map (fun b => b.2) = ds := z2
  have S := SortsAt.data (prog := X.prog) (w := X.w) (A := X.A.in1.in1) (s := { s with heap := sortingHeap h' p its, toks := tk }) (each_map (R := fun v d => ∃ as, Reads (sortingHeap h' p its) v d as) (fun b : V × PyData => b.2) eR2) (by rw [hds]; exact hal) (by rw [hds]; exact hsk) (by
    rw [hds]
    intro d hd
    have h1 := hdp d hd
    have h2 : X.A.in1.in1.units ≤ X.A.units + 2 := Nat.le_refl _
    omega)
  refine list_sort_vals (s := { s with heap := h', toks := tk }) hat S (by rw [← rv.length]; exact hz) ⟨rfl, ?_⟩
  have out := sortVals_data (h' := sortingHeap h' p its) false eR eR2 (by rw [hds]; exact hal)
  obtain ⟨ep, he⟩ := sortedHeap_at (vs := its) (out := (sortVals (dataKind (sortingHeap h' p its) ((xs.zip ds).map fun b => b.2)) false its its).toArray) hat
  have rvo := each_vals (f := Prod.fst) out
  have hperm := List.mergeSort_perm (xs.zip ds) (dataLe false fun b : V × PyData => b.2)
  have hlo : (((xs.zip ds).mergeSort (dataLe false fun b : V × PyData => b.2)).map Prod.fst).length ≤ sizeLine := by
    rw [List.length_map, hperm.length_eq, List.length_zip, hlen, Nat.min_self, ← hlen]
    exact hz
  have hp : H p = none := I.hok.fresh hge
  refine ⟨.ref p, upd H p (.lst (((xs.zip ds).mergeSort (dataLe false fun b : V × PyData => b.2)).map Prod.fst)), I.laid (t' := tk) (fun b o e => ?_) hge ⟨hlo, _, ep, rvo, he⟩, rfl, q _ p hp ?_⟩
  · rw [sortedHeap_old (nsz b o e) (Heap.lt_size (kp b o e))]
    exact kp b o e
  · have e1 : ((xs.zip ds).mergeSort (dataLe false fun b : V × PyData => b.2)).map Prod.snd = ds.mergeSort dle := by
      rw [sort_maps (r := dataLe false fun b : V × PyData => b.2) (s := dle) Prod.snd (fun a _ b _ => rfl), z2]
    rw [← e1]
    exact dtall_of fun b hb => hmem b (hperm.mem_iff.mp hb)
theorem cr_sortedD (hc : X.calm = true) (hu : X.A.units + 64 < cLine) : CallR X (.builtin "sorted") (rSortedD X.K) := by
  intro pins s σ H vs us Q I r h
  obtain ⟨a, xs, ds, rfl, hs, hx, hal, hsk, hdp, q⟩ := h
  obtain rfl := Vals.ref1 r
  obtain ⟨its, rv, hz, g⟩ := sqa_gathers I hs
  exact sortedD_core hc hu I rv hz g hx hal hsk hdp q
end

/-! ### sorted(.., key=f), f called in the layer, its keys whole numbers -/
section
variable {prog : Program} {w : World} {A : Around} {E : Value → Shared → Prop} {s : Shared} {a kS : Addr} {b : Bool} {vs : List Value} {e1 : Nat} {P : PySem.Fin → Shared → Prop}
theorem intAlike (ns : List Int) : AllAlike (ns.map PyData.int) := fun d hd d' hd' => by
  obtain ⟨n, _, rfl⟩ := List.mem_map.mp hd
  obtain ⟨m, _, rfl⟩ := List.mem_map.mp hd'
  rfl
theorem intSortable (ns : List Int) : Sortable (ns.map PyData.int) := .inr fun d hd => by
  obtain ⟨n, _, rfl⟩ := List.mem_map.mp hd
  exact ⟨by simp, by simp⟩
/-- J: what the calls of the key keep; it bears changes of the store of keys -/
theorem keyJ_rest {f : Value} {ns : List Int} (J : Shared → Prop) (hJ : ∀ s' h', J s' → Heap.SameBut kS s'.heap h' → J { s' with heap := h' }) (j0 : J s) (nk : s.heap.get? kS = some (seqObj "list" #[] 0)) (na : s.heap.get? a = some (seqObj "list" #[] e1)) (hka : kS ≠ a)
    (hlen : ns.length = vs.length) (hZ : vs.length ≤ sizeLine) (hu : A.units + 40 < cLine)
    (turn : ∀ (i : Nat) (v : Value) (n : Int), vs[i]? = some v → ns[i]? = some n → ∀ s', J s' → (∃ ks c, s'.heap.get? kS = some (seqObj "list" ks c)) → s'.heap.get? a = some (seqObj "list" #[] e1) → wpAny (model prog w) A (call f [v]) (fun k s'' => J s'' ∧ (∃ t, k = .int n t) ∧ (∀ o, s'.heap.get? kS = some o → s''.heap.get? kS = some o) ∧ (∀ o, s'.heap.get? a = some o → s''.heap.get? a = some o)) (fun _ _ => False) s')
    (h : ∀ s' h' tk out c, J s' → s'.heap.get? a = some (seqObj "list" #[] e1) → (∃ ks c', s'.heap.get? kS = some (seqObj "list" ks c')) → (∀ b o, b ≠ a → b ≠ kS → s'.heap.get? b = some o → h'.get? b = some o) → h'.get? a = some (seqObj "list" (List.toArray out) c) → KeyedOut b (ns.map .int) vs out → P (.done (.ret .none)) { s' with heap := h', toks := tk }) :
    wpAny (model prog w) A (ksk_rest a f b vs.toArray e1 (.ref kS)) P E s := by
  unfold ksk_rest
  refine wpAny_bind (wpAny_rule ?_)
  first
    | rw [List.forIn_toArray]
    | (rw [← Array.forIn_toList]; simp only [List.toList_toArray])
    | rw [← Array.forIn_toList]
  refine wpAny_bind (ksk_fold (fun i s' => J s' ∧ ∃ kA c, s'.heap.get? kS = some (seqObj "list" kA c) ∧ s'.heap.get? a = some (seqObj "list" #[] e1) ∧ IntsAre kA.toList (ns.take i)) vs 0 s
    ⟨j0, #[], 0, nk, na, by rw [List.take_zero]; exact .nil⟩ ?step ?done)
  case step =>
    rintro j x s' hx ⟨hj, kA, c, nk', na', hk⟩
    simp only [Nat.zero_add] at hk ⊢
    have hjl : j < vs.length := (List.getElem?_eq_some_iff.mp hx).1
    obtain ⟨n, hn⟩ : ∃ n, ns[j]? = some n := ⟨_, List.getElem?_eq_getElem (by omega)⟩
    have hz : kA.size ≤ vs.length := by
      have h1 := hk.length
      rw [Array.length_toList, List.length_take] at h1
      omega
    refine wpAny_bind (wpAny_attempt (wpAny_mono (turn j x n hx hn s' hj ⟨_, _, nk'⟩ na') (fun v s'' he => ?_) fun _ _ hF => hF.elim))
    obtain ⟨hj2, ⟨t, rfl⟩, k1, k2⟩ := he
    try dsimp only
    have nk2 := k1 _ nk'
    have na2 := k2 _ na'
    have sb := Heap.SameBut.update s''.heap kS (Obj.mapSeq (·.push (.int n t)))
    obtain ⟨c2, hc2⟩ : ∃ c2, (s''.heap.update kS (Obj.mapSeq (·.push (.int n t)))).get? kS = some (seqObj "list" (kA.push (.int n t)) c2) := ⟨_, get?_update_seq nk2 (·.push (.int n t))⟩
    have hz1 : kA.size ≤ sizeLine := Nat.le_trans hz hZ
    have hz2 : (kA.push (.int n t)).size ≤ sizeLine + 1 := by
      rw [Array.size_push]
      omega
    refine wpAny_bind (listUpdate_at nk2 rfl ?_ hz1 hz2)
    refine wpAny_pure ⟨rfl, hJ s'' _ hj2 sb, kA.push (.int n t), c2, hc2, (sb.2 a hka.symm).trans na2, ?_⟩
    have ek : ns.take (j + 1) = ns.take j ++ [n] := by
      rw [List.take_add_one, hn]
      rfl
    have ea : (kA.push (.int n t)).toList = kA.toList ++ [.int n t] := by simp
    rw [ek, ea]
    exact ksk_snoc hk
  case done =>
    rintro s' ⟨hj, kA, c, nk', na', hk⟩
    have hk' : IntsAre kA.toList ns := by
      have e3 : ns.take (0 + vs.length) = ns := List.take_of_length_le (by omega)
      rw [e3] at hk
      exact hk
    have hsz : kA.size = vs.length := by
      have h1 := hk'.length
      rw [Array.length_toList] at h1
      omega
    try dsimp only
    refine wpAny_bind (listItems_at nk' rfl ?_)
    have hgone : (hideAll s'.heap [kS]).get? kS = none := hideAll_none [kS] (List.mem_cons_self ..)
    have hread : EachIs (fun v k => ∃ as, Reads s'.heap v k as) kA.toList (ns.map .int) := by
      have gen : ∀ {us : List Value} {ms : List Int}, IntsAre us ms → EachIs (fun v k => ∃ as, Reads s'.heap v k as) us (ms.map .int) := by
        intro us ms hi
        induction hi with
        | nil => exact .nil
        | cons n t _ ih => exact .cons ⟨[], .int n t⟩ ih
      exact gen hk'
    refine keyH_end (κ := dataKind s'.heap (ns.map .int)) (h₁ := hideAll s'.heap [kS]) (fun b o hb e => ?_) hgone nk' na' hka (SortsAt.data (s := s') hread (intAlike ns) (intSortable ns) ?_) hsz hZ fun h' tk c2 kb n3 => ?_
    · exact of_hideAll [kS] e
    · intro d hd
      obtain ⟨n, _, rfl⟩ := List.mem_map.mp hd
      have : PyData.depth (.int n) = 0 ∨ PyData.depth (.int n) = 1 := by
        first | exact .inl rfl | exact .inr rfl
      omega
    · refine h s' h' tk _ c2 hj na' ⟨_, _, nk'⟩ (fun b o hb hb2 e => kb b o hb (hideAll_get [kS] e (by simpa using hb2))) n3 ⟨s'.heap, kA.toList, intAlike ns, rfl, hread⟩
end

section
variable {X : Cx}
/-- a call of the key that stands at q tells ns' item of each item, and leaves all that was there -/
def KeyR (X : Cx) (q : Addr) (H : Hp) (xs : List V) (ns : List Int) : Prop := ∀ (pins : List (Addr × Obj)) (σ : L2.St) (H' : Hp) (s : Shared) (i : Nat) (x : V) (n : Int) (v : Value), L2.Inv X pins σ H' s → Ex H H' → xs[i]? = some x → ns[i]? = some n → RelV x v →
  codeAny (model X.prog X.w) X.A.in1.in1 (.call (.ref q) ⟨[v], []⟩) (CR CX0 X.stack X.prog X.w H' s (fun k H'' => k = .int n ∧ Ex H' H'') E0) s
def byKeys (xs : List V) (ns : List Int) : List V := ((xs.zip ns).mergeSort fun x y => decide (x.2 ≤ y.2)).map (·.1)
def rSortedKey (X : Cx) : List V → List V → Hp → VK → Prop := fun vs zs H Q => ∃ (a q : Addr) (xs : List V) (ns : List Int), vs = [.ref a] ∧ zs = [.ref q] ∧ SqA X.K H a xs ∧ xs.length = ns.length ∧ KeyR X q H xs ns ∧
  ∀ p H', Ex H H' → H' p = none → Q (.ref p) (upd H' p (.lst (byKeys xs ns)))
theorem cr_sortedKeyF (hc : X.calm = true) (hu : X.A.units + 64 < cLine) : CallRK X (.builtin "sorted") [Str.ofString "key"] (rSortedKey X) := by
  intro pins s σ H vs zs us ws Q I r rz h
  obtain ⟨a, q, xs, ns, rfl, rfl, hs, hln, hk, fin⟩ := h
  obtain rfl := Vals.ref1 r
  obtain ⟨w1, rfl, e1⟩ := vals1 rz
  obtain rfl : w1 = Value.ref q := e1
  obtain ⟨its, rv, hz, g⟩ := sqa_gathers I hs
  have hzi : its.length ≤ sizeLine := by rw [← rv.length]; exact hz
  refine sorted_gathered (kw := [(Str.ofString "key", .ref q)]) (I.ok.hd hc) g hzi (ksk_s1 _ _) (fun _ => ksk_l1 _ _) fun h' tk p kp hge hat E' => ?_
  rw [ksk_t1]
  have hp : p < h'.objs.size := Heap.lt_size hat
  obtain ⟨ep1, ho1⟩ : ∃ e, (h'.update p (Obj.mapSeq fun _ => (#[] : Array Value))).get? p = some (seqObj "list" #[] e) := ⟨_, get?_update_seq hat fun _ => #[]⟩
  have hkS : ((h'.update p (Obj.mapSeq fun _ => (#[] : Array Value))).push (seqObj "tuple" its.toArray 0)).objs.size = h'.objs.size + 1 := by rw [size_push', Heap.size_update]
  have nsz : ∀ b o, s.heap.get? b = some o → b ≠ p := fun b o e => Nat.ne_of_lt (Nat.lt_of_lt_of_le (Heap.lt_size e) hge)
  have hkge : s.heap.objs.size ≤ h'.objs.size + 1 := Nat.le_trans hge (Nat.le_of_lt (Nat.lt_succ_of_lt hp))
  have hkp : h'.objs.size + 1 ≠ p := Nat.ne_of_gt (Nat.lt_succ_of_lt hp)
  unfold ksk_tree
  refine wpAny_bind (listItems_at hat rfl ?_)
  refine wpAny_bind (listUpdate_at hat rfl ?_ (by rw [List.size_toArray]; exact hzi) (Nat.zero_le _))
  refine wpAny_bind (seqEpoch_at ho1 rfl ?_)
  refine wpAny_bind (wpAny_newTuple ?_ (by show its.length ≤ _; exact hzi))
  refine wpAny_bind (wpAny_newList ?_ (Nat.zero_le _))
  refine wpAny_holding ?_
  show wpAny _ _ (ksk_rest p (.ref q) false its.toArray ep1 (.ref ((h'.update p (Obj.mapSeq fun _ => (#[] : Array Value))).push (seqObj "tuple" its.toArray 0)).objs.size)) _ _ _
  rw [hkS]
  have fpP : ∀ {H' : Hp}, H' p = none → FpOk X pins H' p := fun hn => I.fpOk hge hn
  have fpK : ∀ {H' : Hp}, H' (h'.objs.size + 1) = none → FpOk X pins H' (h'.objs.size + 1) := fun hn => I.fpOk hkge hn
  have notin : ∀ b, s.heap.objs.size ≤ b → b ∉ frs X.stack := fun b hb z => by
    rcases List.mem_cons.mp (I.stkSub _ z) with e | e
    · exact absurd (Nat.lt_of_lt_of_le I.lt (e ▸ hb)) (Nat.lt_irrefl _)
    · exact I.nofs hb e
  have h3old : ∀ b o, s.heap.get? b = some o → (((h'.update p (Obj.mapSeq fun _ => (#[] : Array Value))).push (seqObj "tuple" its.toArray 0)).push (seqObj "list" #[] 0)).get? b = some o := fun b o e =>
    Heap.get?_push_of_some _ (Heap.get?_push_of_some _ ((Heap.get?_update_ne _ _ _ _ (nsz b o e)).trans (kp b o e)))
  refine keyJ_rest (ns := ns) (kS := h'.objs.size + 1) (fun s' => ∃ H', L2.Inv X pins σ H' s' ∧ Ex H H' ∧ H' p = none ∧ H' (h'.objs.size + 1) = none) ?_ ⟨H, I.kept (t' := tk) h3old, Ex.refl _, I.hok.fresh hge, I.hok.fresh hkge⟩
    (by rw [← hkS]; exact Heap.get?_push_size _ rfl) (Heap.get?_push_of_some _ (Heap.get?_push_of_some _ ho1)) hkp (by rw [← hln]; exact rv.length) hzi (by
      have h2 : X.A.in1.in1.units ≤ X.A.units + 2 := Nat.le_refl _
      omega) ?turn ?fin
  · rintro s' h2 ⟨H', I', ex, n1, n2⟩ sb
    obtain ⟨f0, f1, f2, f3, f4, f5⟩ := fpK n2
    exact ⟨H', I'.turned (t' := s'.toks) (fun b o hb e => (sb.2 b hb).trans e) f0 f1 f3 f4 f5, ex, n1, n2⟩
  case turn =>
    rintro i v n hv hn s' ⟨H', I', ex, n1, n2⟩ ⟨ks, c, hks⟩ hap
    cases hx : xs[i]? with
    | none =>
      have h1 := List.getElem?_eq_none_iff.mp hx
      have h2 := (List.getElem?_eq_some_iff.mp hn).1
      omega
    | some x =>
      obtain ⟨u, hu2, ru⟩ := rv.get hx
      rw [hv] at hu2
      cases hu2
      refine wpAny_call (codeAny_mono (hk pins σ H' s' i x n v I' ex hx hn ru) fun r s'' hr => ?_)
      cases r with
      | error e => exact hr
      | ok fl =>
        cases fl with
        | ret u =>
          obtain ⟨k, H'', os, bare, un, hok, rk, hk1, hk2⟩ := hr
          subst hk1
          obtain ⟨t, rfl⟩ := rk
          have m1 : H'' p = none := un.free p _ hap n1 (by simp)
          have m2 : H'' (h'.objs.size + 1) = none := un.free _ _ hks n2 (by simp)
          obtain ⟨v', H2, I2, _, q1, q2, q3⟩ := I'.after (Q := fun _ H2 => Ex H' H2 ∧ H2 p = none ∧ H2 (h'.objs.size + 1) = none) ⟨.int n, H'', os, bare, un, hok, ⟨t, rfl⟩, hk2, m1, m2⟩
          exact ⟨⟨H2, I2, ex.trans q1, q2, q3⟩, ⟨t, rfl⟩, fun o ho => un.keep _ o ho n2 (notin _ hkge) (by simp), fun o ho => un.keep _ o ho n1 (notin _ hge) (by simp)⟩
        | next => exact False.elim hr
        | brk => exact False.elim hr
        | cont => exact False.elim hr
  case fin =>
    rintro s' h2 tk2 out c ⟨H', I', ex, n1, n2⟩ hap ⟨ks, c', hks⟩ keep n3 ko
    have hz2 := zip_fst hln
    have eR : EachIs (fun u (x : V × Int) => RelV x.1 u) its (xs.zip ns) := by
      have := vals_each (R := fun _ => True) (f := fun x : V × Int => x.1) (bs := xs.zip ns) (us := its) (by
        have e := hz2.1
        have e2 : (xs.zip ns).map (fun x => x.1) = xs := e
        rw [e2]
        exact rv)
      exact this
    have eo := keyedOut_each (β := V × Int) (fun x => .int x.2) (by
      have e : (xs.zip ns).map (fun x => PyData.int x.2) = ns.map .int := by
        have e2 : (xs.zip ns).map (fun x => x.2) = ns := hz2.2
        rw [← e2, List.map_map]
        rw [e2]
        rfl
      rw [e]
      exact ko) eR
    rw [dataLe_int] at eo
    have rvo := each_vals (f := fun x : V × Int => x.1) eo
    have hperm := List.mergeSort_perm (xs.zip ns) (fun x y => decide (x.2 ≤ y.2))
    have hbl : (byKeys xs ns).length = xs.length := by
      unfold byKeys
      rw [List.length_map, hperm.length_eq, List.length_zip, ← hln, Nat.min_self]
    refine ⟨rfl, .ref p, upd H' p (.lst (byKeys xs ns)), ?_, rfl, fin p H' ex n1⟩
    have ne1 : ∀ b u, H' b = some u → b ≠ p ∧ b ≠ h'.objs.size + 1 := fun b u e => ⟨ne_of_none e n1, ne_of_none e n2⟩
    have hch : ∀ b ∈ [p, h'.objs.size + 1], FpOk X pins H' b := fun b hb => by
      rcases List.mem_cons.mp hb with z | z
      · rw [z]
        exact fpP n1
      · rw [List.mem_singleton.mp z]
        exact fpK n2
    have nch : ∀ b : Addr, b ∉ [p, h'.objs.size + 1] → b ≠ p ∧ b ≠ h'.objs.size + 1 := fun b hb => ⟨fun z => hb (by rw [z]; exact List.mem_cons_self ..), fun z => hb (by rw [z]; exact List.mem_cons_of_mem _ (List.mem_cons_self ..))⟩
    refine I'.step (g' := s'.gens) (d' := s'.drawn) (t' := tk2) (ch := [p, h'.objs.size + 1]) (fun b hb => ?_) (fun b o _ _ hc e _ => keep b o (nch b hc).1 (nch b hc).2 e) (fun b o _ _ hc e _ => ⟨o.slots, keep b o (nch b hc).1 (nch b hc).2 e⟩)
      (fun b o hc e n => by rw [upd_ne (nch b hc).1]; exact n) (fun b o hc e => ⟨o, keep b o (nch b hc).1 (nch b hc).2 e⟩) (fun b ys e => by rw [upd_ne (ne1 b _ e).1]; exact e) (fun b o u e => by rw [upd_ne (ne1 b _ e).1]; exact e)
      (fun b ps e => ⟨#[], by rw [upd_ne (ne1 b _ e).1, e]; simp⟩) (fun m hm => ?_) (fun b u e => ?_) I'.bare
    · obtain ⟨f0, f1, f2, f3, f4, f5⟩ := hch b hb
      exact ⟨f3, f1, f4, f5⟩
    · obtain ⟨o, es, ep, ho, rest⟩ := hm
      obtain ⟨f0, f1, _⟩ := fpP n1
      obtain ⟨k0, k1, _⟩ := fpK n2
      exact ⟨o, es, ep, keep _ o (fun z => f1 z.symm) (fun z => k1 z.symm) ho, rest⟩
    · by_cases hb : b = p
      · rw [hb, upd_same] at e
        cases e
        rw [hb]
        refine ⟨?_, out, c, rvo, n3⟩
        rw [hbl]
        exact hz
      · rw [upd_ne hb] at e
        refine (I'.hok b u e).stay (fun d v hd q2 => ?_) (fun d q2 => by rw [upd_ne (ne1 d _ q2).1]; exact q2) fun d ys q2 => by rw [upd_ne (ne1 d _ q2).1]; exact q2
        rcases hd with z | z
        · rw [z] at q2 ⊢
          exact keep b v (ne1 b _ e).1 (ne1 b _ e).2 q2
        · exact keep d v (ne1 d _ z).1 (ne1 d _ z).2 q2
/-- the key is a bound method -/
theorem keyR_met {q g a : Addr} {k : Nat} {sp : Sp} {H : Hp} {xs : List V} {ns : List Int} (F : FnR X.prog X.w X.K X.mg X.base CX0 k g sp) (hr : Room (k + 2) X.A) (e : H q = some (.met g a))
    (hsp : ∀ (i : Nat) (x : V) (n : Int), xs[i]? = some x → ns[i]? = some n → ∀ H', Ex H H' → sp [.ref a, x] H' (fun v H'' => v = .int n ∧ Ex H' H'') E0) : KeyR X q H xs ns := fun pins σ H' s i x n v I ex hx hn rx =>
  call_met I (ex.at e) (F _ _ s H' [.ref a, v] [.ref a, x] _ _ hr.in1.in1 I.env0.in1.in1 (.cons rfl (.cons rx .nil)) (hsp i x n hx hn H' ex))
end
end AS


set_option Elab.async false
set_option linter.all false
set_option maxRecDepth 100000
set_option maxHeartbeats 4000000
/-! A lambda of one parameter that captures nothing: made (pe_lambda), called as a key (keyR_lam). -/
namespace AS
open PySem L2 LamX PySem.W PyProof.Rows
variable [TabsOf]
/-- the function object of such a lambda -/
def LamO (q c' : Addr) (qual : Str) (params : Arguments) (body : Expr) (scope : Scope) : HO := .ext fun h => ∃ pm ctv : Value, h.get? q = some (kla_obj "<lambda>" qual params body scope [] pm c' ctv)
theorem lamO_ne {q c' : Addr} {qual : Str} {params : Arguments} {body : Expr} {scope : Scope} (ps : Array Value) : LamO q c' qual params body scope ≠ .tbl ps := fun z => by
  unfold LamO at z
  cases z
theorem cloFrom_nil {cells : List (Str × Addr)} : ∀ {names : List (Str × NameKind)}, (∀ y ∈ names, y.2 ≠ .free) → cloFrom cells names [] = []
  | [], _ => rfl
  | (n, k) :: r, h => by
    unfold cloFrom
    have hk : (k == NameKind.free) = false := by
      have := h (n, k) (List.mem_cons_self ..)
      cases k <;> first | rfl | exact absurd rfl this
    rw [hk]
    exact cloFrom_nil fun y hy => h y (List.mem_cons_of_mem _ hy)
/-- the qualified name of a lambda in a def -/
abbrev lamQual (X : Cx) : Str := X.env.qual ++ "<lambda>"
def tLambda (X : Cx) (P : Addr) (params : Arguments) (body : Expr) (scope : Scope) : TE := fun σ H Q => TabS H P (lamQual X) ∧ ∀ q c' H1, Ex H H1 → H q = none → H1 q = some (LamO q c' (lamQual X) params body scope) → H1 c' = some (CodeO c' (lamQual X)) → Q (.ref q) H1
section
variable {X : Cx} {pins : List (Addr × Obj)} {σ : L2.St} {H : Hp} {s : Shared}
theorem inv_track {q : Addr} {o : HO} {h' : Heap} {t' : Nat} (I : L2.Inv X pins σ H s) (k : ∀ b u, s.heap.get? b = some u → h'.get? b = some u) (hq : s.heap.objs.size ≤ q) (new : ObjOk X.prog X.w (upd H q o) h' q o) : L2.Inv X pins σ (upd H q o) { s with heap := h', toks := t' } := I.laid k hq new
theorem pe_lambda {c P : Addr} {params : Arguments} {body : Expr} {scope : Scope} {pos : Pos} (TB : TabB X.base X.mg c P) (hcode : X.env.code = .ref c) (hm : (P, lamQual X) ∈ TabsOf.T) (hu : ∀ p ∈ TabsOf.T, p.1 = P → p.2 = lamQual X)
    (hdef : defaultsOf params X.env = ([], []) := by rfl) (hfree : ∀ y ∈ scope.names, y.2 ≠ .free) : PE X (.Lambda params body scope pos) (tLambda X P params body scope) := by
  refine ⟨fun pins s σ H Q I h => ?_⟩
  obtain ⟨⟨ps, hP, ht, ha⟩, hQ⟩ := h
  refine kla_eval hdef ?_
  have bP : s.heap.BuiltinsAt X.mg P := TB.bm.keeps I.bk
  have hP' : s.heap.get? P = some { cls := .none, data := .fields ps } := I.hok P _ hP
  have hclo : cloFrom X.env.cells scope.names [] = [] := cloFrom_nil hfree
  have hok : closureFor scope X.env = pure (cloFrom X.env.cells scope.names []) := closure_ok (env := X.env) (scope := scope) fun y hy e => absurd e (hfree y hy)
  rw [hclo] at hok
  cases hc : codeAmong pos ps.toList with
  | none =>
    refine kla_makeFunction (mg := X.mg) (c := c) (P := P) (ps := ps) hok I.ok.glob (I.mod.glob.keeps I.bk) hcode (TB.code.keeps I.bk) hP' ht hc TB.gP bP fun c' ctv h' tk hx hge hlt hrec htb => ?_
    obtain ⟨c2, oc, vs, t, e2, hoc, hd, hv⟩ := hrec
    cases e2
    have hsz : s.heap.objs.size ≤ h'.objs.size := Nat.le_trans hge (Nat.le_of_lt hlt)
    have nC : H c' = none := I.hok.fresh hge
    let H1 := upd (upd H P (.tbl (ps ++ #[rawInt pos.line, rawInt pos.col, .ref c']))) c' (CodeO c' (lamQual X))
    have I1 : L2.Inv X pins σ H1 { s with heap := h', toks := tk } := inv_table (t' := tk) (more := #[rawInt pos.line, rawInt pos.col, .ref c']) I hP (fun b o hb e => hx b o hb e) htb hge ⟨oc, vs, t, hoc, hd, hv⟩
    have hnew : H1 h'.objs.size = none := by
      show upd (upd H P _) c' _ h'.objs.size = none
      rw [upd_ne (Nat.ne_of_gt hlt), upd_ne (Nat.ne_of_gt (Nat.lt_of_lt_of_le (Heap.lt_size hP') hsz))]
      exact I.hok.fresh hsz
    have atNew : (h'.push (kla_obj "<lambda>" (lamQual X) params body scope [] ((X.mg "__name__").getD .none) c' ctv)).get? h'.objs.size = some (kla_obj "<lambda>" (lamQual X) params body scope [] ((X.mg "__name__").getD .none) c' ctv) := Heap.get?_push_size _ rfl
    have I2 : L2.Inv X pins σ (upd H1 h'.objs.size (LamO h'.objs.size c' (lamQual X) params body scope)) { s with heap := h'.push (kla_obj "<lambda>" (lamQual X) params body scope [] ((X.mg "__name__").getD .none) c' ctv), toks := tk } :=
      I1.laid (t' := tk) (a := h'.objs.size) (fun b u e => Heap.get?_push_of_some _ e) (Nat.le_refl _) ⟨⟨_, _, atNew⟩, ⟨_, atNew⟩, fun h1 h2 ⟨pm, ct, e⟩ st => ⟨pm, ct, st _ e⟩⟩
    have eL : (ps ++ #[rawInt pos.line, rawInt pos.col, .ref c']).toList = ps.toList ++ [rawInt pos.line, rawInt pos.col, .ref c'] := by simp
    have kp : ∀ b o, H b = some o → (∀ qs, o ≠ .tbl qs) → H1 b = some o := fun b o e n => by
      show upd (upd H P _) c' _ b = some o
      rw [upd_ne (ne_of_none e nC), upd_ne (fun z => n ps (Option.some.inj (e.symm.trans (by rw [z]; exact hP))))]
      exact e
    have ex1 : Ex H H1 := by
      refine ⟨kp, fun b hb => ?_, fun p hp tb => ?_⟩
      · by_cases h1 : b = c'
        · rw [h1]
          exact nC
        · by_cases h2 : b = P
          · have : H1 b = some (.tbl (ps ++ #[rawInt pos.line, rawInt pos.col, .ref c'])) := by
              show upd (upd H P _) c' _ b = _
              rw [upd_ne h1, h2, upd_same]
            rw [this] at hb
            cases hb
          · have : H1 b = H b := by
              show upd (upd H P _) c' _ b = _
              rw [upd_ne h1, upd_ne h2]
            rw [← this]
            exact hb
      · by_cases hb : p.1 = P
        · rw [hu p hp hb, hb]
          refine ⟨ps ++ #[rawInt pos.line, rawInt pos.col, .ref c'], ?_, by rw [eL]; exact PySem.TriplesOk_snoc _ _ _ _ ht, fun p' cv hcv => ?_⟩
          · show upd (upd H P _) c' _ P = _
            rw [upd_ne (ne_of_none hP nC), upd_same]
          · rw [eL] at hcv
            rcases among_app _ ht hcv with z | z
            · obtain ⟨c0, e1, e2⟩ := ha p' cv z
              exact ⟨c0, e1, kp _ _ e2 codeO_ne⟩
            · exact ⟨c', z, upd_same⟩
        · obtain ⟨ps', a1, a2, a3⟩ := tb
          refine ⟨ps', ?_, a2, fun p' cv hcv => ?_⟩
          · show upd (upd H P _) c' _ p.1 = _
            rw [upd_ne (ne_of_none a1 nC), upd_ne hb]
            exact a1
          · obtain ⟨c0, e1, e2⟩ := a3 p' cv hcv
            exact ⟨c0, e1, kp _ _ e2 codeO_ne⟩
    refine ⟨.ref h'.objs.size, _, I2, rfl, hQ _ c' _ (ex1.trans (Ex.new hnew)) (I.hok.fresh hsz) upd_same ?_⟩
    rw [upd_ne (Nat.ne_of_lt hlt)]
    exact upd_same
  | some cv =>
    obtain ⟨c', e, hco⟩ := ha pos cv hc
    subst e
    refine kla_makeFunctionHit (mg := X.mg) (c := c) (P := P) (ps := ps) hok I.ok.glob (I.mod.glob.keeps I.bk) hcode (TB.code.keeps I.bk) hP' ht hc bP fun ctv h' tk hx hsz => ?_
    have atNew : (h'.push (kla_obj "<lambda>" (lamQual X) params body scope [] ((X.mg "__name__").getD .none) c' ctv)).get? h'.objs.size = some (kla_obj "<lambda>" (lamQual X) params body scope [] ((X.mg "__name__").getD .none) c' ctv) := Heap.get?_push_size _ rfl
    have hnew : H h'.objs.size = none := I.hok.fresh hsz
    have I2 : L2.Inv X pins σ (upd H h'.objs.size (LamO h'.objs.size c' (lamQual X) params body scope)) { s with heap := h'.push (kla_obj "<lambda>" (lamQual X) params body scope [] ((X.mg "__name__").getD .none) c' ctv), toks := tk } :=
      I.laid (t' := tk) (a := h'.objs.size) (fun b u e => Heap.get?_push_of_some _ (hx b u e)) hsz ⟨⟨_, _, atNew⟩, ⟨_, atNew⟩, fun h1 h2 ⟨pm, ct, e⟩ st => ⟨pm, ct, st _ e⟩⟩
    refine ⟨.ref h'.objs.size, _, I2, rfl, hQ _ c' _ (Ex.new hnew) hnew upd_same ?_⟩
    rw [upd_ne (ne_of_none hco hnew)]
    exact hco
/-- such a lambda as a key: its body told as an expression's reading -/
theorem keyR_lam {q c' : Addr} {qual x : Str} {params : Arguments} {body : Expr} {scope : Scope} {k : Nat} {te : TE} {xs : List V} {ns : List Int} (S : FnScope [x] [x] scope) (hr : Room (k + 3) X.A)
    (hb : ∀ (pm cd ct v : Value), bindArgs (kla_fn "<lambda>" qual params body scope [] pm cd ct) ⟨[v], []⟩ = pure [(x, v)])
    (hbody : ∀ (A : Around) (outer : List Env) (s : Shared) (H : Hp), Room k (A.deeper (envOfC qual scope s.heap.objs.size q (.ref c'))) → PE (cxOf CX0 X.prog X.w X.K X.mg X.base [x] qual scope q (.ref c') A outer s H E0).nox body te)
    (e1 : H q = some (LamO q c' qual params body scope)) (e2 : H c' = some (CodeO c' qual)) (ht : ∀ (i : Nat) (y : V) (n : Int), xs[i]? = some y → ns[i]? = some n → ∀ H', Ex H H' → te [some y] H' (fun v H'' => v = .int n ∧ Ex H' H'')) : KeyR X q H xs ns := by
  intro pins σ H' s i y n v I ex hy hn ry
  obtain ⟨⟨pm, ctv, of1⟩, _⟩ := I.hok q _ (ex.at e1 lamO_ne)
  obtain ⟨⟨oc, vs, t, hoc, hdc, hvc⟩, _, _⟩ := I.hok c' _ (ex.at e2 codeO_ne)
  have hr1 : Room (k + 1) X.A.in1.in1 := hr.in1.in1
  have e0 := I.env0.in1.in1
  have lim : s.heap.NoLimit := I.nolimit
  have hkind : ∀ z ∈ [x].zip [v], scope.names.lookup z.1 = some .local ∨ (scope.names.lookup z.1 = some .cell ∧ ((cellsFrom (s.heap.objs.size + 1) scope.names []).lookup z.1).isSome = true) := fun ⟨n, u⟩ hz => by
    rcases S.par n (List.of_mem_zip hz).1 with z | z
    · exact .inl z
    · exact .inr ⟨z, PySem.W.cellsFrom_some _ _ _ (.inl z)⟩
  refine kla_callFunE hr1.depth of1 rfl S.co S.gen rfl ⟨c', oc, vs, t, rfl, hoc, hdc, hvc⟩ ?_
  rw [hb]
  refine wpAny_pure (wpAny_newFunctionEnv_cells S.kind hkind fun env he s1 ic => ?_)
  subst he
  refine ⟨lim.keeps ic.toInCall.keep, kla_codeExpr ?_⟩
  have J : L2.Inv (cxOf CX0 X.prog X.w X.K X.mg X.base [x] qual scope q (.ref c') X.A.in1.in1 X.stack s H' E0) [] (L2.start [x] [y]) H' s1 := inv_start S hr1.hd e0 rfl (.cons ry .nil) ic
  refine wpAny_mono ((hbody _ _ s H' (hr1.deeper _)).run [] s1 _ H' _ (J.wish _) (ht i y n hy hn H' ex)) (fun u s' hq => ?_) fun _ _ z => False.elim z
  obtain ⟨w', H'', J', rv, q'⟩ := hq
  exact ⟨w', H'', J'.os, J'.bare, J'.base, J'.hok, rv, q'⟩
end
end AS


set_option Elab.async false
set_option linter.all false
set_option maxRecDepth 100000
set_option maxHeartbeats 4000000
/-! Sugar: the layer's rules with the written part K told, so that they serve within a comprehension's block too; what is asked of the names of the top. -/
namespace AS
open PySem L2 LamX
open PySem.W (Frag)
open RT
variable [TabsOf]

/-- the built-in names are not bound by the top -/
structure Blt (mg : Str → Option Value) : Prop where
  tuple : mg "tuple" = none
  list : mg "list" = none
  len : mg "len" = none
  sorted : mg "sorted" = none
  enumerate : mg "enumerate" = none
  isinstance : mg "isinstance" = none
  str : mg "str" = none
  min : mg "min" = none
  max : mg "max" = none
  range : mg "range" = none
  reversed : mg "reversed" = none
  int : mg "int" = none
  dict : mg "dict" = none
  set : mg "set" = none
  zip : mg "zip" = none
  all : mg "all" = none
  any : mg "any" = none
/-- x is a text of the top -/
def GloS (mg : Str → Option Value) (x z : Str) : Prop := ∃ t, mg x = some (.str z t)
def GloI (mg : Str → Option Value) (x : Str) (i : Int) : Prop := ∃ t, mg x = some (.int i t)
/-- a def of the top that keeps a promise -/
structure Cal (P : Program) (w : World) (K : Frag) (mg : Str → Option Value) (base : Heap) (x : Str) (k : Nat) (ps : List Str) (sp : Sp) : Prop where
  ex : ∃ f fd, FnOk P w K mg base CX0 k f fd ps sp ∧ mg x = some (.ref f) ∧ PySem.W.keepIn K (.ref f) = true ∧ Binds K fd ps []
/-- a method of the class at C that keeps a promise -/
structure CalM (P : Program) (w : World) (K : Frag) (mg : Str → Option Value) (base : Heap) (C : Addr) (m : Str) (k : Nat) (ps : List Str) (sp : Sp) : Prop where
  ex : ∃ f fd, FnOk P w K mg base CX0 k f fd ps sp ∧ Meth K C m f ∧ Binds K fd ps []
/-- the class that the top calls x, made by an __init__ that keeps a promise -/
structure CalC (P : Program) (w : World) (K : Frag) (mg : Str → Option Value) (base : Heap) (x : Str) (C : Addr) (k : Nat) (ps : List Str) (sp : Sp) : Prop where
  ex : ∃ f fd, FnOk P w K mg base CX0 k f fd ps sp ∧ mg x = some (.ref C) ∧ Mk K C f ∧ Binds K fd ps []
theorem Cal.mono {P : Program} {w : World} {K : Frag} {mg : Str → Option Value} {base : Heap} {x : Str} {j k : Nat} {ps : List Str} {sp : Sp} (c : Cal P w K mg base x j ps sp) (h : j ≤ k) : Cal P w K mg base x k ps sp := by
  obtain ⟨f, fd, F, a, b, d⟩ := c.ex
  exact ⟨f, fd, F.mono h, a, b, d⟩

section
variable {X : Cx} {a b e o : Expr} {es rest : List Expr} {ta tb te to : TE} {t : TA} {pos p p2 pos2 apos cpos : Pos}
theorem xGloS {x z : Str} (h : GloS X.mg x z) (hg : Gl X x := by rfl) (hd : (x == ("__debug__" : Str)) = false := by decide) : PE X (.Name x pos) (tC (.str z)) := by
  obtain ⟨t, h⟩ := h
  exact pe_glob hg h ⟨t, rfl⟩ hd
theorem xGloI {x : Str} {i : Int} (h : GloI X.mg x i) (hg : Gl X x := by rfl) (hd : (x == ("__debug__" : Str)) = false := by decide) : PE X (.Name x pos) (tC (.int i)) := by
  obtain ⟨t, h⟩ := h
  exact pe_glob hg h ⟨t, rfl⟩ hd
/-! subscripts -/
theorem xIxT (K : Frag) (ha : PE X a ta) (hb : PE X b tb) (hK : X.K = K := by rfl) (hs : PlainIx b := by intro _ _; rfl) : PE X (.Subscript a b pos) (tOp (rIxT K) ta tb) := by
  subst hK
  exact pe_ix ix_tup ha hb hs
theorem xIxL (K : Frag) (ha : PE X a ta) (hb : PE X b tb) (hK : X.K = K := by rfl) (hs : PlainIx b := by intro _ _; rfl) : PE X (.Subscript a b pos) (tOp (rIxL K) ta tb) := by
  subst hK
  exact pe_ix ix_list ha hb hs
theorem xIxS (ha : PE X a ta) (hb : PE X b tb) (hs : PlainIx b := by intro _ _; rfl) : PE X (.Subscript a b pos) (tOp rIxS ta tb) := pe_ix ix_str ha hb hs
theorem xIxD {k : Nat} (hr : Room k X.A) (ha : PE X a ta) (hb : PE X b tb) (hs : NoSl b := by intro _ _; rfl) : PE X (.Subscript a b pos) (tDGet ta tb) := pe_dget (hu_of hr) ha hb hs
theorem xSlT (K : Frag) {lo hi : Option Expr} {tl th : TO} (he : PE X e te) (hl : PO X lo tl) (hu : PO X hi th) (hK : X.K = K := by rfl) : PE X (.Subscript e (.Slice lo hi none p2) pos) (tSl (rSlA K) te tl th) := by
  subst hK
  exact pe_slice sl_tupA he hl hu
theorem xSlL (K : Frag) {lo hi : Option Expr} {tl th : TO} (he : PE X e te) (hl : PO X lo tl) (hu : PO X hi th) (hK : X.K = K := by rfl) : PE X (.Subscript e (.Slice lo hi none p2) pos) (tSl (rSlL K) te tl th) := by
  subst hK
  exact pe_slice sl_list he hl hu
/-! operators -/
theorem xAdd (ha : PE X a ta) (hb : PE X b tb) : PE X (.BinOp a .Add b pos) (tOp (rI0 fun i j => .int (i + j)) ta tb) := pe_op op_add ha hb
theorem xSub (ha : PE X a ta) (hb : PE X b tb) : PE X (.BinOp a .Sub b pos) (tOp (rI0 fun i j => .int (i - j)) ta tb) := pe_op op_sub ha hb
theorem xMul (ha : PE X a ta) (hb : PE X b tb) : PE X (.BinOp a .Mult b pos) (tOp (rI CMul fun i j => .int (i * j)) ta tb) := pe_op op_mul ha hb
theorem xMod (ha : PE X a ta) (hb : PE X b tb) : PE X (.BinOp a .Mod b pos) (tOp (rI (fun _ j => 0 < j) fun i j => .int (i % j)) ta tb) := pe_op op_mod ha hb
theorem xDiv (ha : PE X a ta) (hb : PE X b tb) : PE X (.BinOp a .FloorDiv b pos) (tOp (rI CDiv fun i j => .int (i / j)) ta tb) := pe_op op_fdiv ha hb
theorem xPow (ha : PE X a ta) (hb : PE X b tb) : PE X (.BinOp a .Pow b pos) (tOp (rI CPow fun i j => .int (i ^ j.toNat)) ta tb) := pe_op op_pow ha hb
theorem xNeg (ha : PE X a ta) : PE X (.UnaryOp .USub a pos) (tUn (rU fun i => .int (-i)) ta) := pe_un un_neg ha
def rAddS : R2 := fun x y H Q => ∃ i j, x = .str i ∧ y = .str j ∧ i.length + j.length ≤ sizeLine ∧ Q (.str (i ++ j)) H
theorem xAddS (ha : PE X a ta) (hb : PE X b tb) : PE X (.BinOp a .Add b pos) (tOp rAddS ta tb) := pe_op op_add_str ha hb
theorem xAddL (ha : PE X a ta) (hb : PE X b tb) : PE X (.BinOp a .Add b pos) (tOp rCat ta tb) := pe_op op_cat ha hb
theorem xAddT (K : Frag) (ha : PE X a ta) (hb : PE X b tb) (hK : X.K = K := by rfl) : PE X (.BinOp a .Add b pos) (tOp (rCatA K) ta tb) := by
  subst hK
  exact pe_op op_catA ha hb
/-! comparisons -/
theorem xLt (ha : PE X a ta) (hb : PE X b tb) : PE X (.Compare a [.Lt] [b] pos) (tOp (rI0 fun i j => .bl (decide (i < j))) ta tb) := pe_cmpR op_lt ha hb (nomark _)
theorem xLe (ha : PE X a ta) (hb : PE X b tb) : PE X (.Compare a [.LtE] [b] pos) (tOp (rI0 fun i j => .bl (decide (i ≤ j))) ta tb) := pe_cmpR op_le ha hb (nomark _)
theorem xGt (ha : PE X a ta) (hb : PE X b tb) : PE X (.Compare a [.Gt] [b] pos) (tOp (rI0 fun i j => .bl (decide (j < i))) ta tb) := pe_cmpR op_gt ha hb (nomark _)
theorem xGe (ha : PE X a ta) (hb : PE X b tb) : PE X (.Compare a [.GtE] [b] pos) (tOp (rI0 fun i j => .bl (decide (j ≤ i))) ta tb) := pe_cmpR op_ge ha hb (nomark _)
theorem xEq (ha : PE X a ta) (hb : PE X b tb) : PE X (.Compare a [.Eq] [b] pos) (tOp rEq ta tb) := pe_cmpR op_eq ha hb (nomark _)
theorem xNe (ha : PE X a ta) (hb : PE X b tb) : PE X (.Compare a [.NotEq] [b] pos) (tOp rNe ta tb) := pe_cmpR op_ne ha hb (nomark _)
theorem xEqD (K : Frag) {k : Nat} (hr : Room k X.A) (ha : PE X a ta) (hb : PE X b tb) (hK : X.K = K := by rfl) : PE X (.Compare a [.Eq] [b] pos) (tOp (rEqD K) ta tb) := by
  subst hK
  exact pe_cmpR (op_eqD hr.units) ha hb (nomark _)
theorem xNeD (K : Frag) {k : Nat} (hr : Room k X.A) (ha : PE X a ta) (hb : PE X b tb) (hK : X.K = K := by rfl) : PE X (.Compare a [.NotEq] [b] pos) (tOp (rNeD K) ta tb) := by
  subst hK
  exact pe_cmpR (op_neD hr.units) ha hb (nomark _)
def rIsN : R2 := fun x y H Q => y = .non ∧ Q (.bl (decide (x = .non))) H
def rIsNN : R2 := fun x y H Q => y = .non ∧ Q (.bl (!decide (x = .non))) H
theorem xIsN {j : Nat} (ha : PE X a ta) : PE X (.Compare a [.Is] [.Constant .none j p] pos) (tOp rIsN ta (tC .non)) := pe_cmpR op_isN ha pe_non (nomark _)
theorem xIsNN {j : Nat} (ha : PE X a ta) : PE X (.Compare a [.IsNot] [.Constant .none j p] pos) (tOp rIsNN ta (tC .non)) := pe_cmpR op_notN ha pe_non (nomark _)
theorem xIn (K : Frag) (ha : PE X a ta) (hb : PE X b tb) (hK : X.K = K := by rfl) (hm : behindInMarks .In b = false := by rfl) : PE X (.Compare a [.In] [b] pos) (tOp (rIn K false) ta tb) := by
  subst hK
  exact pe_cmpR op_in_seq ha hb hm
theorem xNotIn (K : Frag) (ha : PE X a ta) (hb : PE X b tb) (hK : X.K = K := by rfl) (hm : behindInMarks .NotIn b = false := by rfl) : PE X (.Compare a [.NotIn] [b] pos) (tOp (rIn K true) ta tb) := by
  subst hK
  exact pe_cmpR op_notIn_seq ha hb hm
theorem xInD {k : Nat} (hr : Room k X.A) (ha : PE X a ta) (hb : PE X b tb) (hm : behindInMarks .In b = false := by rfl) : PE X (.Compare a [.In] [b] pos) (tDIn ta tb) := pe_cmp (pc_din (hu_of hr) ha hb) hm
theorem xNotInD {k : Nat} (hr : Room k X.A) (ha : PE X a ta) (hb : PE X b tb) (hm : behindInMarks .NotIn b = false := by rfl) : PE X (.Compare a [.NotIn] [b] pos) (tDNotIn ta tb) := pe_cmp (pc_dnotin (hu_of hr) ha hb) hm
/-! .. as tests -/
theorem yLt (ha : PE X a ta) (hb : PE X b tb) : PT X (.Compare a [.Lt] [b] pos) (tTest (tOp (rI0 fun i j => .bl (decide (i < j))) ta tb)) := pt_cmpR op_lt ha hb (nomark _)
theorem yLe (ha : PE X a ta) (hb : PE X b tb) : PT X (.Compare a [.LtE] [b] pos) (tTest (tOp (rI0 fun i j => .bl (decide (i ≤ j))) ta tb)) := pt_cmpR op_le ha hb (nomark _)
theorem yGt (ha : PE X a ta) (hb : PE X b tb) : PT X (.Compare a [.Gt] [b] pos) (tTest (tOp (rI0 fun i j => .bl (decide (j < i))) ta tb)) := pt_cmpR op_gt ha hb (nomark _)
theorem yGe (ha : PE X a ta) (hb : PE X b tb) : PT X (.Compare a [.GtE] [b] pos) (tTest (tOp (rI0 fun i j => .bl (decide (j ≤ i))) ta tb)) := pt_cmpR op_ge ha hb (nomark _)
theorem yEq (ha : PE X a ta) (hb : PE X b tb) : PT X (.Compare a [.Eq] [b] pos) (tTest (tOp rEq ta tb)) := pt_cmpR op_eq ha hb (nomark _)
theorem yNe (ha : PE X a ta) (hb : PE X b tb) : PT X (.Compare a [.NotEq] [b] pos) (tTest (tOp rNe ta tb)) := pt_cmpR op_ne ha hb (nomark _)
theorem yEqD (K : Frag) {k : Nat} (hr : Room k X.A) (ha : PE X a ta) (hb : PE X b tb) (hK : X.K = K := by rfl) : PT X (.Compare a [.Eq] [b] pos) (tTest (tOp (rEqD K) ta tb)) := by
  subst hK
  exact pt_cmpR (op_eqD hr.units) ha hb (nomark _)
theorem yNeD (K : Frag) {k : Nat} (hr : Room k X.A) (ha : PE X a ta) (hb : PE X b tb) (hK : X.K = K := by rfl) : PT X (.Compare a [.NotEq] [b] pos) (tTest (tOp (rNeD K) ta tb)) := by
  subst hK
  exact pt_cmpR (op_neD hr.units) ha hb (nomark _)
theorem yIsN {j : Nat} (ha : PE X a ta) : PT X (.Compare a [.Is] [.Constant .none j p] pos) (tTest (tOp rIsN ta (tC .non))) := pt_cmpR op_isN ha pe_non (nomark _)
theorem yIsNN {j : Nat} (ha : PE X a ta) : PT X (.Compare a [.IsNot] [.Constant .none j p] pos) (tTest (tOp rIsNN ta (tC .non))) := pt_cmpR op_notN ha pe_non (nomark _)
theorem yIn (K : Frag) (ha : PE X a ta) (hb : PE X b tb) (hK : X.K = K := by rfl) (hm : behindInMarks .In b = false := by rfl) : PT X (.Compare a [.In] [b] pos) (tTest (tOp (rIn K false) ta tb)) := by
  subst hK
  exact pt_cmpR op_in_seq ha hb hm
theorem yNotIn (K : Frag) (ha : PE X a ta) (hb : PE X b tb) (hK : X.K = K := by rfl) (hm : behindInMarks .NotIn b = false := by rfl) : PT X (.Compare a [.NotIn] [b] pos) (tTest (tOp (rIn K true) ta tb)) := by
  subst hK
  exact pt_cmpR op_notIn_seq ha hb hm
theorem yInD {k : Nat} (hr : Room k X.A) (ha : PE X a ta) (hb : PE X b tb) (hm : behindInMarks .In b = false := by rfl) : PT X (.Compare a [.In] [b] pos) (tB (tDIn ta tb)) := pt_cmp (pc_din (hu_of hr) ha hb) hm
theorem yNotInD {k : Nat} (hr : Room k X.A) (ha : PE X a ta) (hb : PE X b tb) (hm : behindInMarks .NotIn b = false := by rfl) : PT X (.Compare a [.NotIn] [b] pos) (tB (tDNotIn ta tb)) := pt_cmp (pc_dnotin (hu_of hr) ha hb) hm
/-- any of these as a test -/
theorem xT (he : PE X e te) (h : ∀ whole, isTrue e X.env whole = (do let v ← whole; standAt e.pos; holding [v] (truthy v)) := by intro _; rfl) : PT X e (tB te) := pt_val he h
def tTru (K : Frag) (ta : TE) : TT := fun σ H Q => ta σ H fun x H1 => ∃ k, TruV K x H1 k ∧ Q k H1
theorem xTru (K : Frag) (he : PE X e te) (hK : X.K = K := by rfl) (h : ∀ whole, isTrue e X.env whole = (do let v ← whole; standAt e.pos; holding [v] (truthy v)) := by intro _; rfl) : PT X e (tTru K te) := by
  subst hK
  exact pt_truth he h
theorem xOrT (K : Frag) (ha : PE X a ta) (hb : PE X (.BoolOp .Or (b :: rest) pos) tb) (hK : X.K = K := by rfl) : PE X (.BoolOp .Or (a :: b :: rest) pos) (tOrT K ta tb) := by
  subst hK
  exact pe_orT ha hb
/-! calls -/
theorem xCal {P : Program} {w : World} {K : Frag} {mg : Str → Option Value} {base : Heap} {x : Str} {k : Nat} {ps : List Str} {sp : Sp} (C : Cal P w K mg base x k ps sp) (hr : Room k X.A) (ha : PA X (e :: es) t)
    (h1 : X.prog = P := by rfl) (h2 : X.w = w := by rfl) (h3 : X.K = K := by rfl) (h4 : X.mg = mg := by rfl) (h5 : X.base = base := by rfl) (hg : Gl X x := by rfl) (hx : Passes CX0 X E0 := by exact pass0)
    (hdb : (x == ("__debug__" : Str)) = false := by decide) (he : starEach (e :: es) X.env = (false, eval e X.env) :: starEach es X.env := by rfl) (hpl : (backTo pos (starEach es X.env)).any (·.1) = false := by rfl) :
    PE X (.Call (.Name x p) (e :: es) [] pos) (tCall sp [] E0 t) := by
  subst h1 h2 h3 h4 h5
  obtain ⟨f, fd, F, hm, hk, hb⟩ := C.ex
  exact pe_call F hr hg hm hk hb .nil hx ha hdb he hpl
theorem xMake {P : Program} {w : World} {K : Frag} {mg : Str → Option Value} {base : Heap} {x : Str} {C : Addr} {k : Nat} {ps : List Str} {sp : Sp} (c : CalC P w K mg base x C k ps sp) (hr : Room (k + 1) X.A) (ha : PA X (e :: es) t)
    (h1 : X.prog = P := by rfl) (h2 : X.w = w := by rfl) (h3 : X.K = K := by rfl) (h4 : X.mg = mg := by rfl) (h5 : X.base = base := by rfl) (hg : Gl X x := by rfl) (hx : Passes CX0 X E0 := by exact pass0)
    (hdb : (x == ("__debug__" : Str)) = false := by decide) (he : starEach (e :: es) X.env = (false, eval e X.env) :: starEach es X.env := by rfl) (hpl : (backTo pos (starEach es X.env)).any (·.1) = false := by rfl) :
    PE X (.Call (.Name x p) (e :: es) [] pos) (tMake C sp [] E0 t) := by
  subst h1 h2 h3 h4 h5
  obtain ⟨f, fd, F, hm, hk, hb⟩ := c.ex
  exact pe_make hk F hr hg hm hb .nil hx ha hdb he hpl
theorem xMeth {P : Program} {w : World} {K : Frag} {mg : Str → Option Value} {base : Heap} {m : Str} {C : Addr} {k : Nat} {ps : List Str} {sp : Sp} {pl : Sem Bool} (c : CalM P w K mg base C m k ps sp) (hc : Cls K C) (hr : Room k X.A) (ho : PE X o to) (ha : PA X (e :: es) t)
    (h1 : X.prog = P := by rfl) (h2 : X.w = w := by rfl) (h3 : X.K = K := by rfl) (h4 : X.mg = mg := by rfl) (h5 : X.base = base := by rfl) (hx : Passes CX0 X E0 := by exact pass0)
    (hst : starEach (e :: es) X.env = (false, eval e X.env) :: starEach es X.env := by rfl) (hpl : (backTo pos (starEach es X.env)).any (·.1) = false := by rfl)
    (ht : eval (.Call (.Attribute o m apos) (e :: es) [] pos) X.env = (do
      let ov ← eval o X.env
      standAt apos.atName
      let (f, first) ← holding [ov] (getMethod ov m pl)
      callWith pos f first (backTo pos (starEach (e :: es) X.env)) (backToKw pos (keywordEach [] X.env))) := by rfl) :
    PE X (.Call (.Attribute o m apos) (e :: es) [] pos) (tMeth C m sp [] E0 to t) := by
  subst h1 h2 h3 h4 h5
  obtain ⟨f, fd, F, hm, hb⟩ := c.ex
  exact pe_meth (pl := pl) ho hc hm F hr hb .nil hx ha hst hpl ht
theorem xFld (K : Frag) {f : Str} (he : PE X e te) (hK : X.K = K := by rfl) (hb : attributeBase e f X.env (eval e X.env) = eval e X.env := by rfl) : PE X (.Attribute e f pos) (tFld K te f) := by
  subst hK
  exact pe_fld he hb
/-! built-ins -/
def rTupleOf (K : Frag) : List V → Hp → VK → Prop := fun xs H Q => ∃ p ys, xs = [.ref p] ∧ ((SqL K H p ys ∧ ∀ l, H l = none → Q (.ref l) (upd H l (.tup ys))) ∨ (SqT K H p ys ∧ Q (.ref p) H))
def rListOf (K : Frag) : List V → Hp → VK → Prop := fun xs H Q => ∃ p ys, xs = [.ref p] ∧ (SqL K H p ys ∨ SqT K H p ys) ∧ ∀ l, H l = none → Q (.ref l) (upd H l (.lst ys))
theorem xTuple (K : Frag) (hm : Blt X.mg) (ha : PE X e te) (hK : X.K = K := by rfl) (hg : Gl X "tuple" := by rfl) (hs : starEach [e] X.env = (false, eval e X.env) :: starEach [] X.env := by rfl) : PE X (.Call (.Name "tuple" p) [e] [] pos) (tCB (rTupleOf K) (tCons te tNil)) := by
  subst hK
  exact pe_callTy call_tuple_of hg hm.tuple (by decide +kernel) (pa_cons ha pa_nil hs) (he := hs)
theorem xList (K : Frag) (hm : Blt X.mg) (ha : PE X e te) (hK : X.K = K := by rfl) (hg : Gl X "list" := by rfl) (hs : starEach [e] X.env = (false, eval e X.env) :: starEach [] X.env := by rfl) : PE X (.Call (.Name "list" p) [e] [] pos) (tCB (rListOf K) (tCons te tNil)) := by
  subst hK
  exact pe_callTy call_list_of hg hm.list (by decide +kernel) (pa_cons ha pa_nil hs) (he := hs)
def rLenA (K : Frag) : List V → Hp → VK → Prop := fun xs H Q => ∃ p ys, xs = [.ref p] ∧ (SqL K H p ys ∨ SqT K H p ys) ∧ Q (.int ys.length) H
theorem xLen (K : Frag) (hm : Blt X.mg) (ha : PE X e te) (hK : X.K = K := by rfl) (hg : Gl X "len" := by rfl) (hs : starEach [e] X.env = (false, eval e X.env) :: starEach [] X.env := by rfl) : PE X (.Call (.Name "len" p) [e] [] pos) (tCB (rLenA K) (tCons te tNil)) := by
  subst hK
  exact pe_callB call_len_seq hg hm.len PySem.boot_len (pa_cons ha pa_nil hs) (he := hs)
theorem xSorted (K : Frag) {k : Nat} (hr : Room k X.A) (hm : Blt X.mg) (ha : PE X e te) (hK : X.K = K := by rfl) (hc : X.calm = true := by rfl) (hg : Gl X "sorted" := by rfl) (hs : starEach [e] X.env = (false, eval e X.env) :: starEach [] X.env := by rfl) : PE X (.Call (.Name "sorted" p) [e] [] pos) (tCB (rSortedD K) (tCons te tNil)) := by
  subst hK
  exact pe_callB (cr_sortedD hc hr.units) hg hm.sorted (by decide +kernel) (pa_cons ha pa_nil hs) (he := hs)
theorem xSortedKey {k : Nat} {kws : List Keyword} {tk : TA} (hr : Room k X.A) (hm : Blt X.mg) (ha : PE X e te) (hk : PK X kws tk) (hc : X.calm = true := by rfl) (hg : Gl X "sorted" := by rfl) (hs : starEach [e] X.env = (false, eval e X.env) :: starEach [] X.env := by rfl)
    (he : backTo pos (starEach [e] X.env) = (false, eval e X.env) :: backTo pos (starEach [] X.env) := by rfl) (hpl : (backTo pos (starEach [e] X.env)).any (·.1) = false := by rfl)
    (hall : (backToKw pos (keywordEach kws X.env)).all (·.1.isSome) = true := by rfl) (hnone : (backToKw pos (keywordEach kws X.env)).any (·.1.isNone) = false := by rfl) (hks : (backToKw pos (keywordEach kws X.env)).filterMap (·.1) = [Str.ofString "key"] := by rfl) :
    PE X (.Call (.Name "sorted" p) [e] kws pos) (tCKw (rSortedKey X) (tCons te tNil) tk) :=
  pe_callBK (cr_sortedKeyF hc hr.units) hg hm.sorted (by decide +kernel) (pa_cons ha pa_nil hs) hk (by decide) (by decide) he hpl hall hnone hks
theorem xMin (K : Frag) (hm : Blt X.mg) (ha : PE X e te) (hK : X.K = K := by rfl) (hc : X.calm = true := by rfl) (hg : Gl X "min" := by rfl) (hs : starEach [e] X.env = (false, eval e X.env) :: starEach [] X.env := by rfl) : PE X (.Call (.Name "min" p) [e] [] pos) (tCB (rMin K) (tCons te tNil)) := by
  subst hK
  exact pe_callB (cr_min hc) hg hm.min (by decide +kernel) (pa_cons ha pa_nil hs) (he := hs)
def rMax2 : List V → Hp → VK → Prop := fun xs H Q => ∃ i j, xs = [.int i, .int j] ∧ Q (.int (if j > i then j else i)) H
theorem xMax2 (hm : Blt X.mg) (ha : PE X a ta) (hb : PE X b tb) (hc : X.calm = true := by rfl) (hg : Gl X "max" := by rfl) (hs : starEach [a, b] X.env = (false, eval a X.env) :: starEach [b] X.env := by rfl) (hs2 : starEach [b] X.env = (false, eval b X.env) :: starEach [] X.env := by rfl) : PE X (.Call (.Name "max" p) [a, b] [] pos) (tCB rMax2 (tCons ta (tCons tb tNil))) :=
  pe_callB (call_max2 hc) hg hm.max (by decide +kernel) (pa_cons ha (pa_cons hb pa_nil hs2) hs) (he := hs) (hpl := by rw [hs2]; rfl)
/-- isinstance(x, T), T a built-in type's name -/
theorem xIsi (K : Frag) {T : Str} {n : String} (hm : Blt X.mg) (ha : PE X e te) (hT : X.mg T = none) (hv : bootBuiltins T = some (.type n)) (hgT : Gl X T := by rfl) (hK : X.K = K := by rfl) (hg : Gl X "isinstance" := by rfl) (hn : T ≠ "__name__" := by decide) (hd : (T == ("__debug__" : Str)) = false := by decide)
    (hs : starEach [e, .Name T p2] X.env = (false, eval e X.env) :: starEach [.Name T p2] X.env := by rfl) (hs2 : starEach [.Name T p2] X.env = (false, eval (.Name T p2) X.env) :: starEach [] X.env := by rfl) : PE X (.Call (.Name "isinstance" p) [e, .Name T p2] [] pos) (tCB (rIsi K) (tCons te (tCons (tC (.ty n)) tNil))) := by
  subst hK
  exact pe_callB call_isi hg hm.isinstance (by decide +kernel) (pa_cons ha (pa_cons (pe_bltn hgT hT hv rfl hn hd) pa_nil hs2) hs) (he := hs) (hpl := by rw [hs2]; rfl)
theorem xTupRev (K : Frag) (hm : Blt X.mg) (he : PE X e te) (hK : X.K = K := by rfl) (hc : X.calm = true := by rfl) (hg : Gl X "tuple" := by rfl) (hg2 : Gl X "reversed" := by rfl)
    (hs : starEach [e] X.env = (false, eval e X.env) :: starEach [] X.env := by rfl)
    (hs2 : starEach [.Call (.Name "reversed" p2) [e] [] pos2] X.env = (false, eval (.Call (.Name "reversed" p2) [e] [] pos2) X.env) :: starEach [] X.env := by rfl) :
    PE X (.Call (.Name "tuple" p) [.Call (.Name "reversed" p2) [e] [] pos2] [] pos) (tTupRev K te) := by
  subst hK
  exact pe_tupRev hc hg hm.tuple hg2 hm.reversed he hs hs2
/-! methods of built-ins -/
theorem xBM (K : Frag) {T id : String} {name : Str} {r : V → List V → Hp → VK → Prop} (pa : PlainAttrs T) (slot : Slot T name id) (hty : typeOf (.builtin id) = pure (.type "method_descriptor")) (hm : MtR X id r) (ho : PE X o to) (ha : PA X (e :: es) t) (hK : X.K = K := by rfl)
    (hbase : attributeBase o name X.env (eval o X.env) = eval o X.env := by rfl)
    (hfew : ((backTo cpos (starEach (e :: es) X.env)).all (fun x => !x.1) && (backToKw cpos (keywordEach [] X.env)).all (fun x => x.1.isSome)
      && decide ((e :: es).length + ([] : List Keyword).length + (if ([] : List Keyword).isEmpty then 0 else 1) < 30)) = true := by rfl)
    (hline : (apos.endLine == cpos.line) = true := by rfl) (hs : starEach (e :: es) X.env = (false, eval e X.env) :: starEach es X.env := by rfl) (hplain : (backTo cpos (starEach es X.env)).any (·.1) = false := by rfl) :
    PE X (.Call (.Attribute o name apos) (e :: es) [] cpos) (tBM K T r to t) := by
  subst hK
  exact pe_bm pa slot hty hm ho ha hbase hfew hline hs hplain
theorem xBM0 (K : Frag) {T id : String} {name : Str} {r : V → List V → Hp → VK → Prop} (pa : PlainAttrs T) (slot : Slot T name id) (hty : typeOf (.builtin id) = pure (.type "method_descriptor")) (hm : MtR X id r) (ho : PE X o to) (hK : X.K = K := by rfl)
    (hbase : attributeBase o name X.env (eval o X.env) = eval o X.env := by rfl) (hline : (apos.endLine == cpos.line) = true := by rfl) : PE X (.Call (.Attribute o name apos) [] [] cpos) (tBM0 K T r to) := by
  subst hK
  exact pe_bm0 pa slot hty hm ho hbase hline
/-! walks -/
theorem wTup (K : Frag) {tg : Expr} (he : PE X e te) (hK : X.K = K := by rfl) : PI X tg e (iTup K te) := by
  subst hK
  exact pi_tup he
theorem wList (K : Frag) {tg : Expr} (he : PE X e te) (hK : X.K = K := by rfl) : PI X tg e (iList K te) := by
  subst hK
  exact pi_list he
theorem wEnumT (K : Frag) {tpos : Pos} {elts : List Expr} {kk : Nat} (hm : Blt X.mg) (he : PE X e te) (hK : X.K = K := by rfl) (hg : Gl X "enumerate" := by rfl) (hs : starEach [e] X.env = [(false, eval e X.env)] := by rfl) (hs1 : starEach [e] X.env = (false, eval e X.env) :: starEach [] X.env := by rfl) :
    PI X (.Tuple elts kk tpos) (.Call (.Name "enumerate" p) [e] [] pos) (iEnumT K (tCons te tNil)) := by
  subst hK
  exact pi_enumT hg hm.enumerate (pa_cons he pa_nil hs1) hs
theorem wRange1 {tg : Expr} (hm : Blt X.mg) (he : PE X e te) (hg : Gl X "range" := by rfl) (hs : starEach [e] X.env = [(false, eval e X.env)] := by rfl) (hs1 : starEach [e] X.env = (false, eval e X.env) :: starEach [] X.env := by rfl) : PI X tg (.Call (.Name "range" p) [e] [] pos) (iRng1 (tCons te tNil)) :=
  pi_range1 hg hm.range (pa_cons he pa_nil hs1) hs
/-! targets -/
theorem gTupK (K : Frag) {ts : List Expr} {k n : Nat} {tt : TGs} (h : PGs X ts tt) (hK : X.K = K := by rfl) (hc : X.calm = true := by rfl) (hn : (assignEach ts X.env).length = n := by rfl) (hst : (assignEach ts X.env).findIdx? (·.1) = none := by rfl) : PG X (.Tuple ts k pos) (gTup K n tt) := by
  subst hK
  exact pg_tup hc h hn hst
end
end AS


set_option Elab.async false
set_option linter.all false
set_option maxRecDepth 100000
set_option maxHeartbeats 4000000
/-! What the sugar's readings come to, as data; name = {..}; d.update(e). -/
namespace AS
open PySem L2 LamX
open PySem.W (Frag)
open RT
variable [TabsOf]

/-! ### name = {k: v for ..} -/
section
variable {X : Cx}
theorem swd_true {kx vx : Expr} {gs : List Comprehension} {scope : Scope} {pos py : Pos} {y : Str} {l : Nat} {env : Env} (hk : env.scope.kind = .function) (hy : env.scope.names.lookup y = some .local) (hl : (py.line == pos.line) = true)
    (ha : (scope.names.any fun (n, k) => n == y && (k == .local || k == .cell)) = false) : swapsWith (.DictComp kx vx gs scope pos) (some (.Name y py)) l env = pure true := by
  have ky : env.kindOf y = some .local := hy
  have hb : env.blockKind = .function := by
    unfold Env.blockKind
    rw [hk]
    rfl
  unfold swapsWith
  simp only [hb, ky, ha, Expr.pos, hl]
  rfl
theorem ps_setDc {i : Nat} {y : Str} {py : Pos} {kx vx tg iter : Expr} {ifs : List Expr} {scope : Scope} {own : List (Str × Nat)} {pos spos : Pos} {wi : TI} {g : TG} {tt : TT} {tk tv : TE} (hc : X.calm = true) (hN : X.N.Nodup) (hy : X.N[i]? = some y) (hyl : X.env.scope.names.lookup y = some .local)
    (hsw : swapsWith (.DictComp kx vx [⟨tg, iter, ifs, 0⟩] scope pos) (some (.Name y py)) spos.line X.env = pure true) (hi : PI X tg iter wi) (ok : BlkOk X.N X.env.scope scope own)
    (hg : ∀ (s : Shared) (H : Hp) (C : Addr) (cl : List (Str × Addr)) (fp : List Addr), PG (X.blk s H scope (compEnvC scope cl C X.env) fp) tg g) (ht : ∀ (s : Shared) (H : Hp) (C : Addr) (cl : List (Str × Addr)) (fp : List Addr), PTs (X.blk s H scope (compEnvC scope cl C X.env) fp) ifs tt)
    (hk : ∀ (s : Shared) (H : Hp) (C : Addr) (cl : List (Str × Addr)) (fp : List Addr), PE (X.blk s H scope (compEnvC scope cl C X.env) fp) kx tk)
    (he : ∀ (s : Shared) (H : Hp) (C : Addr) (cl : List (Str × Addr)) (fp : List Addr), PE (X.blk s H scope (compEnvC scope cl C X.env) fp) vx tv) (hs : ∀ x, foldedSetIterable iter X.env x = pure x := by intro _; rfl) :
    PS X (.Assign [.Name y py] (.DictComp kx vx [⟨tg, iter, ifs, 0⟩] scope pos) spos) (tAsg (tDc wi g tt tk tv (own.map (·.2))) (gName i)) := by
  refine ⟨fun pins s σ H D I h => ?_⟩
  rw [exec_Assign_Name_used _ _ _ _ hsw]
  refine wpAny_bind (wpAny_standAt (wpAny_bind ?_))
  show wpAny _ X.A (do let _ ← comprehension (.DictComp kx vx [⟨tg, iter, ifs, 0⟩] scope pos) scope X.env (firstIterPos [⟨tg, iter, ifs, 0⟩] pos) newDict false (eval iter X.env) (some (assign (.Name y py) X.env))) _ _ s
  have h' : tDc wi g tt tk tv (own.map (·.2)) σ H (fun x H1 => gName i x σ H1 D.nx) := h
  refine wpAny_bind (thn (dc_core (Qf := fun _ s' => SP X pins D .next s') hc hN I hi ok hg ht hk he hs h' fun L C s' m H' I' q hn f => ?_) fun _ s' hq => wpAny_pure (wpAny_pure hq))
  show wpAny _ _ (assign (.Name y py) X.env (.ref L)) _ _ _
  refine wpAny_assign_Name (store_ok2 (v := V.ref L) I' hN hy (.inl hyl) rfl (fun s2 I2 ⟨a, sb, ha⟩ => ?_) (.inr hyl))
  obtain ⟨f0, f1, f2, f3, f4, f5⟩ := f
  have haC : C ≠ a := by
    rcases ha with z | z
    · rw [z]
      exact f1
    · exact fun e => f4 y a z e.symm
  exact ⟨m, hn.sameBut sb haC, fun h3 sb3 => ⟨_, H', I2.turned (t' := s2.toks) (fun b o hb e => (sb3.2 b hb).trans e) f0 f1 f3 f4 f5, q⟩⟩
end

/-! ### d.update(e) -/
section
variable {X : Cx}
def rUpdate : V → List V → Hp → VK → Prop := fun x vs H Q => ∃ d o kvs more, x = .ref d ∧ vs = [.ref o] ∧ d ≠ o ∧ H d = some (.dK kvs) ∧ H o = some (.dK more) ∧ kvs.length + more.length ≤ sizeLine ∧ Q .non (upd H d (.dK (mergeK kvs more)))
theorem mt_update : MtR X "dict.update" rUpdate := by
  intro pins s σ H x vs v us Q I rx r h
  obtain ⟨d, o, kvs, more, rfl, rfl, hne, hd, ho, hz, q⟩ := h
  cases rx
  obtain rfl := Vals.ref1 r
  obtain ⟨z1, dS, kv1, rel1, dd⟩ := I.hok d _ hd
  obtain ⟨z2, oS, kv2, rel2, od⟩ := I.hok o _ ho
  have l1 : kvs.length = kv1.length := Paired.length rel1
  have l2 : more.length = kv2.length := Paired.length rel2
  refine call_meetsIn PySem.F.slot_dict_update dd.typeIs PySem.F.entry_dict_update (PySem.F.args_dict_update_2 _ _) (meets_dict_update (mixKind X.prog X.w) d o hne oS) ⟨kv1, kv2, dd, od, by rw [← l1, ← l2]; exact hz, fun h' hd' ho' hs => ?_⟩
  have hlen := length_mergeK more kvs
  have I2 := d_write (t' := s.toks) I (by rw [hd]; exact True.intro) hs (by
    obtain ⟨q, _, _, hq, _⟩ := hd'
    exact ⟨q, hq⟩) (dk_new (H' := upd H d (.dK (mergeK kvs more))) (by omega) dS (rel2.merge rel1) hd')
  exact ⟨.non, _, I2, rfl, q⟩
end

/-! ### readings -/
section
variable {K : Frag} {σ : L2.St} {H : Hp} {ta tb te tl : TE} {d e : PyData} {ds es : List PyData} {v : V} {p : Addr} {xs : List V}
theorem inV_strs {x : Str} : ∀ ys : List Str, inV (.str x) (ys.map V.str) = decide (x ∈ ys)
  | [] => by simp [inV]
  | y :: ys => by
    have ih := inV_strs (x := x) ys
    unfold inV at ih ⊢
    rw [List.map_cons, List.any_cons, ih]
    show (y == x || _) = _
    by_cases h : y = x
    · rw [h]
      simp
    · have h' : ¬ x = y := fun z => h z.symm
      simp [h, h']
theorem flat_strs (ys : List Str) : (ys.map V.str).all flatV = true := by
  rw [List.all_map]
  exact List.all_eq_true.mpr fun _ _ => rfl
/-! in, not in -/
theorem d_inT {x : Str} {ys : List Str} (ha : EvD K ta σ H (.str x)) (hb : EvD K tb σ H (.tuple (ys.map .str))) : EvD K (tOp (rIn K false) ta tb) σ H (.bool (decide (x ∈ ys))) :=
  d_op ha hb fun u w H1 _ t t' Q q => by
    obtain ⟨a, zs, rfl, hs, hx⟩ := t'.tup_inv
    rw [t.str_inv]
    have ez := hx.strs_inv
    subst ez
    refine ⟨a, _, rfl, .inr hs, rfl, flat_strs _, ?_⟩
    show Q (.bl (inV (.str x) (ys.map V.str))) H1
    rw [inV_strs]
    exact q _ H1 (Ex.refl _) (.bl _)
theorem d_notInT {x : Str} {ys : List Str} (ha : EvD K ta σ H (.str x)) (hb : EvD K tb σ H (.tuple (ys.map .str))) : EvD K (tOp (rIn K true) ta tb) σ H (.bool (!decide (x ∈ ys))) :=
  d_op ha hb fun u w H1 _ t t' Q q => by
    obtain ⟨a, zs, rfl, hs, hx⟩ := t'.tup_inv
    rw [t.str_inv]
    have ez := hx.strs_inv
    subst ez
    refine ⟨a, _, rfl, .inr hs, rfl, flat_strs _, ?_⟩
    show Q (.bl (!inV (.str x) (ys.map V.str))) H1
    rw [inV_strs]
    exact q _ H1 (Ex.refl _) (.bl _)
/-- a list that stands in H, of texts -/
theorem d_inL {x : Str} {ys : List Str} (ha : EvD K ta σ H (.str x)) (hb : Ev tb σ H (.ref p)) (hs : SqL K H p (ys.map V.str)) : EvD K (tOp (rIn K false) ta tb) σ H (.bool (decide (x ∈ ys))) := fun H1 e1 Q q => ha H1 e1 _ fun v H2 e2 t => hb H2 (e1.trans e2) _ fun H3 e3 => by
  rw [t.str_inv]
  refine ⟨p, _, rfl, .inl (ex_l ((e1.trans e2).trans e3) hs), rfl, flat_strs _, ?_⟩
  show Q (.bl (inV (.str x) (ys.map V.str))) H3
  rw [inV_strs]
  exact q _ H3 (e2.trans e3) (.bl _)
theorem d_notInL {x : Str} {ys : List Str} (ha : EvD K ta σ H (.str x)) (hb : Ev tb σ H (.ref p)) (hs : SqL K H p (ys.map V.str)) : EvD K (tOp (rIn K true) ta tb) σ H (.bool (!decide (x ∈ ys))) := fun H1 e1 Q q => ha H1 e1 _ fun v H2 e2 t => hb H2 (e1.trans e2) _ fun H3 e3 => by
  rw [t.str_inv]
  refine ⟨p, _, rfl, .inl (ex_l ((e1.trans e2).trans e3) hs), rfl, flat_strs _, ?_⟩
  show Q (.bl (!inV (.str x) (ys.map V.str))) H3
  rw [inV_strs]
  exact q _ H3 (e2.trans e3) (.bl _)
/-! isinstance -/
def tyD : PyData → String
  | .none => "NoneType"
  | .bool _ => "bool"
  | .int _ => "int"
  | .str _ => "str"
  | .list _ => "list"
  | .tuple _ => "tuple"
  | .dict _ => "dict"
theorem Dt.tyx {H : Hp} {v : V} {d : PyData} (h : Dt K H v d) : TyX K H v (.type (tyD d)) := by
  cases h with
  | non => exact .base .non
  | bl b => exact .base (.bl b)
  | int i => exact .base (.int i)
  | str x => exact .base (.str x)
  | tup h a =>
    rcases h with (h | ⟨o, h⟩) | ⟨o, its, n, h1, h2, h3⟩
    · exact .base (.tup h)
    · exact .fTuple h
    · exact .kTuple h1 h2
theorem d_isi {n : String} {b : Bool} (h : EvD K te σ H d) (hb : kitB (tyD d) n = some b) : EvD K (tCB (rIsi K) (tCons te (tCons (tC (.ty n)) tNil))) σ H (.bool b) := fun H1 e1 Q q =>
  h H1 e1 _ fun v H2 e2 t => ⟨v, .ty n, .type (tyD d), .type n, b, rfl, .ty n, t.tyx, kit_ty hb, q _ H2 e2 (.bl b)⟩
/-! len, list, tuple -/
theorem d_lenT (h : EvD K te σ H (.tuple ds)) : EvD K (tCB (rLenA K) (tCons te tNil)) σ H (.int ds.length) := fun H1 e1 Q q =>
  h H1 e1 _ fun v H2 e2 t => by
    obtain ⟨a, zs, rfl, hs, hx⟩ := t.tup_inv
    refine ⟨a, zs, rfl, .inr hs, ?_⟩
    rw [hx.length]
    exact q _ H2 e2 (.int _)
theorem d_lenL (h : Ev te σ H (.ref p)) (hs : SqL K H p xs) : EvD K (tCB (rLenA K) (tCons te tNil)) σ H (.int xs.length) := fun H1 e1 Q q =>
  h H1 e1 _ fun H2 e2 => ⟨p, xs, rfl, .inl (ex_l (e1.trans e2) hs), q _ H2 e2 (.int _)⟩
theorem d_lenNL (h : EvLD K te σ H ds) : EvD K (tCB (rLenA K) (tCons te tNil)) σ H (.int ds.length) := fun H1 e1 Q q =>
  h H1 e1 _ fun p vs H2 hp e2 h2 hx => ⟨p, vs, rfl, .inl (SqL.of h2), by rw [hx.length]; exact q _ H2 e2 (.int _)⟩
theorem d_tupleNL (h : EvLD K te σ H ds) : EvD K (tCB (rTupleOf K) (tCons te tNil)) σ H (.tuple ds) := d_tupleOf h
theorem d_tupleL (h : Ev te σ H (.ref p)) (hs : SqL K H p xs) (hx : DtAll K H xs ds) : EvD K (tCB (rTupleOf K) (tCons te tNil)) σ H (.tuple ds) := fun H1 e1 Q q =>
  h H1 e1 _ fun H2 e2 => ⟨p, xs, rfl, .inl ⟨ex_l (e1.trans e2) hs, fun l hl => q _ _ (e2.trans (Ex.new hl)) (.tup (SqT.of upd_same) ((hx.ex (e1.trans e2)).ex (Ex.new hl)))⟩⟩
theorem d_tupleT (h : EvD K te σ H (.tuple ds)) : EvD K (tCB (rTupleOf K) (tCons te tNil)) σ H (.tuple ds) := fun H1 e1 Q q =>
  h H1 e1 _ fun v H2 e2 t => by
    obtain ⟨a, zs, rfl, hs, hx⟩ := t.tup_inv
    exact ⟨a, zs, rfl, .inr ⟨hs, q _ H2 e2 (.tup hs hx)⟩⟩
theorem l_listT (h : EvD K te σ H (.tuple ds)) : EvLD K (tCB (rListOf K) (tCons te tNil)) σ H ds := fun H1 e1 Q q =>
  h H1 e1 _ fun v H2 e2 t => by
    obtain ⟨a, zs, rfl, hs, hx⟩ := t.tup_inv
    exact ⟨a, zs, rfl, .inr hs, fun l hl => q l zs _ (fresh_back e2 hl) (e2.trans (Ex.new hl)) upd_same (hx.ex (Ex.new hl))⟩
theorem l_listL (h : Ev te σ H (.ref p)) (hs : SqL K H p xs) (hx : DtAll K H xs ds) : EvLD K (tCB (rListOf K) (tCons te tNil)) σ H ds := fun H1 e1 Q q =>
  h H1 e1 _ fun H2 e2 => ⟨p, xs, rfl, .inl (ex_l (e1.trans e2) hs), fun l hl => q l xs _ (fresh_back e2 hl) (e2.trans (Ex.new hl)) upd_same ((hx.ex (e1.trans e2)).ex (Ex.new hl))⟩
theorem l_listNL (h : EvLD K te σ H ds) : EvLD K (tCB (rListOf K) (tCons te tNil)) σ H ds := fun H1 e1 Q q =>
  h H1 e1 _ fun p xs H2 hp e2 h2 hx => ⟨p, xs, rfl, .inl (SqL.of h2), fun l hl => q l xs _ (fresh_back e2 hl) (e2.trans (Ex.new hl)) upd_same (hx.ex (Ex.new hl))⟩
theorem d_tupRevL (h : Ev te σ H (.ref p)) (hs : SqL K H p xs) (hx : DtAll K H xs ds) : EvD K (tTupRev K te) σ H (.tuple ds.reverse) := fun H1 e1 Q q =>
  h H1 e1 _ fun H2 e2 => ⟨p, xs, rfl, ex_l (e1.trans e2) hs, fun l hl => q _ _ (e2.trans (Ex.new hl)) (.tup (SqT.of upd_same) ((hx.ex (e1.trans e2)).ex (Ex.new hl)).reverse)⟩
/-! sorted of data -/
/-- what sorting asks of data -/
structure SortOk (ds : List PyData) : Prop where
  al : PySem.W.AllAlike ds
  so : PySem.W.Sortable ds
  dp : ∀ d ∈ ds, d.depth ≤ 32
theorem l_sortedT (h : EvD K te σ H (.tuple ds)) (ok : SortOk ds) : EvLD K (tCB (rSortedD K) (tCons te tNil)) σ H (ds.mergeSort dle) := fun H1 e1 Q q =>
  h H1 e1 _ fun v H2 e2 t => by
    obtain ⟨a, zs, rfl, hs, hx⟩ := t.tup_inv
    exact ⟨a, zs, ds, rfl, .inr hs, hx, ok.al, ok.so, ok.dp, fun ys l hl hy => q l ys _ (fresh_back e2 hl) (e2.trans (Ex.new hl)) upd_same (hy.ex (Ex.new hl))⟩
theorem l_sortedL (h : Ev te σ H (.ref p)) (hs : SqL K H p xs) (hx : DtAll K H xs ds) (ok : SortOk ds) : EvLD K (tCB (rSortedD K) (tCons te tNil)) σ H (ds.mergeSort dle) := fun H1 e1 Q q =>
  h H1 e1 _ fun H2 e2 => ⟨p, xs, ds, rfl, .inl (ex_l (e1.trans e2) hs), hx.ex (e1.trans e2), ok.al, ok.so, ok.dp, fun ys l hl hy => q l ys _ (fresh_back e2 hl) (e2.trans (Ex.new hl)) upd_same (hy.ex (Ex.new hl))⟩
theorem l_sortedNL (h : EvLD K te σ H ds) (ok : SortOk ds) : EvLD K (tCB (rSortedD K) (tCons te tNil)) σ H (ds.mergeSort dle) := fun H1 e1 Q q =>
  h H1 e1 _ fun p xs H2 hp e2 h2 hx => ⟨p, xs, ds, rfl, .inl (SqL.of h2), hx, ok.al, ok.so, ok.dp, fun ys l hl hy => q l ys _ (fresh_back e2 hl) (e2.trans (Ex.new hl)) upd_same (hy.ex (Ex.new hl))⟩
/-! slices and sums of tuples -/
def cutD (ds : List PyData) (lo hi : Option Int) : List PyData := (ds.drop (HT.sIx ds.length 0 lo)).take (HT.sIx ds.length ds.length hi - HT.sIx ds.length 0 lo)
theorem cut_all {H : Hp} (h : DtAll K H xs ds) (lo hi : Option Int) : DtAll K H (cutV xs lo hi) (cutD ds lo hi) := by
  unfold cutV cutD
  rw [h.length]
  exact (h.drop _).take _
def EvO (K : Frag) (to : TO) (σ : L2.St) (H : Hp) (o : Option Int) : Prop := ∀ H1, Ex H H1 → ∀ Q : Option Int → Hp → Prop, (∀ H2, Ex H1 H2 → Q o H2) → to σ H1 Q
theorem o_none : EvO K tNoPart σ H none := fun H1 _ _ q => q H1 (Ex.refl H1)
theorem o_some {i : Int} (h : EvD K te σ H (.int i)) : EvO K (tPart te) σ H (some i) := fun H1 e1 Q q => h H1 e1 _ fun v H2 e2 t => ⟨i, t.int_inv, q H2 e2⟩
theorem d_slT {tlo thi : TO} {lo hi : Option Int} (h : EvD K te σ H (.tuple ds)) (h1 : EvO K tlo σ H lo) (h2 : EvO K thi σ H hi) : EvD K (tSl (rSlA K) te tlo thi) σ H (.tuple (cutD ds lo hi)) := fun H1 e1 Q q =>
  h H1 e1 _ fun v H2 e2 t => h1 H2 (e1.trans e2) _ fun H3 e3 => h2 H3 ((e1.trans e2).trans e3) _ fun H4 e4 => by
    obtain ⟨a, zs, rfl, hs, hx⟩ := t.tup_inv
    have hs4 := ex_t (e3.trans e4) hs
    have hx4 := hx.ex (e3.trans e4)
    have e24 := (e2.trans e3).trans e4
    refine ⟨a, zs, rfl, hs4, fun ⟨q1, q2⟩ => ?_, fun _ l hl => q _ _ (e24.trans (Ex.new hl)) (.tup (SqT.of upd_same) ((cut_all hx4 lo hi).ex (Ex.new hl)))⟩
    refine q _ H4 e24 (.tup hs4 ?_)
    have := cut_all hx4 lo hi
    have ec : cutV zs lo hi = zs := by
      unfold cutV
      rw [q1, q2, List.drop_zero, Nat.sub_zero, List.take_length]
    rw [ec] at this
    exact this
theorem d_catT (ha : EvD K ta σ H (.tuple ds)) (hb : EvD K tb σ H (.tuple es)) (hl : ds.length + es.length ≤ 100000) : EvD K (tOp (rCatA K) ta tb) σ H (.tuple (ds ++ es)) :=
  d_op ha hb fun u w H1 _ t t' Q q => by
    obtain ⟨a, zs, rfl, hs, hx⟩ := t.tup_inv
    obtain ⟨b, ws, rfl, hs', hx'⟩ := t'.tup_inv
    refine ⟨a, b, zs, ws, rfl, rfl, hs, hs', sz_of (by rw [hx.length, hx'.length]; exact hl), fun ez => ?_, fun _ ez => ?_, fun _ _ l hl => q _ _ (Ex.new hl) (.tup (SqT.of upd_same) ((hx.append hx').ex (Ex.new hl)))⟩
    · subst ez
      cases hx
      exact q _ H1 (Ex.refl _) (.tup hs' hx')
    · subst ez
      cases hx'
      have e0 : ds ++ [] = ds := List.append_nil ds
      exact q _ H1 (Ex.refl _) (.tup hs (by rw [e0]; exact hx))
/-! lists -/
theorem l_slL {tlo thi : TO} {lo hi : Option Int} (h : Ev te σ H (.ref p)) (hs : SqL K H p xs) (hx : DtAll K H xs ds) (h1 : EvO K tlo σ H lo) (h2 : EvO K thi σ H hi) : EvLD K (tSl (rSlL K) te tlo thi) σ H (cutD ds lo hi) := fun H1 e1 Q q =>
  h H1 e1 _ fun H2 e2 => h1 H2 (e1.trans e2) _ fun H3 e3 => h2 H3 ((e1.trans e2).trans e3) _ fun H4 e4 => by
    have e24 := (e2.trans e3).trans e4
    have e14 := e1.trans e24
    exact ⟨p, xs, rfl, ex_l e14 hs, fun l hl => q l _ _ (fresh_back e24 hl) (e24.trans (Ex.new hl)) upd_same ((cut_all (hx.ex e14) lo hi).ex (Ex.new hl))⟩
theorem l_catNN (ha : EvLD K ta σ H ds) (hb : EvLD K tb σ H es) (hl : ds.length + es.length ≤ 100000) : EvLD K (tOp rCat ta tb) σ H (ds ++ es) := fun H1 e1 Q q =>
  ha H1 e1 _ fun a zs H2 hp e2 h2 hx => hb H2 (e1.trans e2) _ fun b ws H3 hp' e3 h3 hx' => ⟨a, b, zs, ws, rfl, rfl, e3.at h2, h3, sz_of (by rw [hx.length, hx'.length]; exact hl), fun l hl => q l _ _ (fresh_back (e2.trans e3) hl) ((e2.trans e3).trans (Ex.new hl)) upd_same (((hx.ex e3).append hx').ex (Ex.new hl))⟩
/-- a list that stands in H, one just made -/
theorem l_catLN (ha : Ev ta σ H (.ref p)) (hs : H p = some (.lst xs)) (hx : DtAll K H xs ds) (hb : EvLD K tb σ H es) (hl : ds.length + es.length ≤ 100000) : EvLD K (tOp rCat ta tb) σ H (ds ++ es) := fun H1 e1 Q q =>
  ha H1 e1 _ fun H2 e2 => hb H2 (e1.trans e2) _ fun b ws H3 hp' e3 h3 hx' => ⟨p, b, xs, ws, rfl, rfl, ((e1.trans e2).trans e3).at hs, h3, sz_of (by rw [hx.length, hx'.length]; exact hl), fun l hl => q l _ _ (fresh_back (e2.trans e3) hl) ((e2.trans e3).trans (Ex.new hl)) upd_same (((hx.ex ((e1.trans e2).trans e3)).append hx').ex (Ex.new hl))⟩
theorem l_catNL (ha : EvLD K ta σ H ds) (hb : Ev tb σ H (.ref p)) (hs : H p = some (.lst xs)) (hx : DtAll K H xs es) (hl : ds.length + es.length ≤ 100000) : EvLD K (tOp rCat ta tb) σ H (ds ++ es) := fun H1 e1 Q q =>
  ha H1 e1 _ fun a zs H2 hp e2 h2 hx' => hb H2 (e1.trans e2) _ fun H3 e3 => ⟨a, p, zs, xs, rfl, rfl, e3.at h2, ((e1.trans e2).trans e3).at hs, sz_of (by rw [hx.length, hx'.length]; exact hl), fun l hl => q l _ _ (fresh_back (e2.trans e3) hl) ((e2.trans e3).trans (Ex.new hl)) upd_same (((hx'.ex e3).append (hx.ex ((e1.trans e2).trans e3))).ex (Ex.new hl))⟩
/-! numbers and texts -/
theorem d_neg {i : Int} (h : EvD K te σ H (.int i)) : EvD K (tUn (rU fun i => .int (-i)) te) σ H (.int (-i)) := fun H1 e1 Q q => h H1 e1 _ fun v H2 e2 t => ⟨i, t.int_inv, q _ H2 e2 (.int _)⟩
theorem d_addS {x y : Str} (ha : EvD K ta σ H (.str x)) (hb : EvD K tb σ H (.str y)) (hl : x.length + y.length ≤ 100000) : EvD K (tOp rAddS ta tb) σ H (.str (x ++ y)) :=
  d_op ha hb fun u w H1 _ t t' Q q => ⟨x, y, t.str_inv, t'.str_inv, sz_of hl, q _ H1 (Ex.refl _) (.str _)⟩
theorem d_ixS {x : Str} {i : Int} {c : Nat} (ha : EvD K ta σ H (.str x)) (hb : EvD K tb σ H (.int i)) (hl : x.length ≤ 100000) (hc : atI x.cps.toList i = some c) : EvD K (tOp rIxS ta tb) σ H (.str ⟨#[c]⟩) :=
  d_op ha hb fun u w H1 _ t t' Q q => ⟨x, i, c, t.str_inv, t'.int_inv, sz_of hl, hc, q _ H1 (Ex.refl _) (.str _)⟩
theorem d_minNL {ns : List Int} {m : Int} (h : EvLD K te σ H (ns.map .int)) (hm : m ∈ ns) (hle : ∀ y ∈ ns, m ≤ y) : EvD K (tCB (rMin K) (tCons te tNil)) σ H (.int m) := fun H1 e1 Q q =>
  h H1 e1 _ fun p vs H2 hp e2 h2 hx => by
    have := hx.ints_inv
    subst this
    refine ⟨p, ns, rfl, SqL.of h2, List.length_pos_of_mem hm, fun k hk hkl => ?_⟩
    have e : k = m := Int.le_antisymm (hkl m hm) (hle k hk)
    rw [e]
    exact q _ H2 e2 (.int _)
theorem d_max2 {i j : Int} (ha : EvD K ta σ H (.int i)) (hb : EvD K tb σ H (.int j)) : EvD K (tCB rMax2 (tCons ta (tCons tb tNil))) σ H (.int (if j > i then j else i)) := fun H1 e1 Q q =>
  ha H1 e1 _ fun v H2 e2 t => hb H2 (e1.trans e2) _ fun u H3 e3 t' => ⟨i, j, by rw [t.int_inv, t'.int_inv], q _ H3 (e2.trans e3) (.int _)⟩
theorem d_isNone {b : Bool} (h : EvD K te σ H d) (hb : b = (match d with | .none => true | _ => false)) : EvD K (tOp rIsN te (tC .non)) σ H (.bool b) := fun H1 e1 Q q => h H1 e1 _ fun v H2 e2 t => ⟨rfl, by
  have e : decide (v = V.non) = b := by
    rw [hb]
    cases t <;> rfl
  rw [e]
  exact q _ H2 e2 (.bl _)⟩
theorem d_isNotNone {b : Bool} (h : EvD K te σ H d) (hb : b = (match d with | .none => false | _ => true)) : EvD K (tOp rIsNN te (tC .non)) σ H (.bool b) := fun H1 e1 Q q => h H1 e1 _ fun v H2 e2 t => ⟨rfl, by
  have e : (!decide (v = V.non)) = b := by
    rw [hb]
    cases t <;> rfl
  rw [e]
  exact q _ H2 e2 (.bl _)⟩
/-! truth -/
theorem et_truL {b : Bool} (h : Ev te σ H (.ref p)) (hs : SqL K H p xs) (hb : b = !xs.isEmpty) : EvT (tTru K te) σ H b := fun H1 e1 Q q => h H1 e1 _ fun H2 e2 => ⟨b, .inl ⟨xs, ex_l (e1.trans e2) hs, hb⟩, q H2 e2⟩
/-! dicts that stand in H -/
theorem d_getD {k : Key} {kvs : List (Key × V)} {us : List (Key × PyData)} (ha : Ev ta σ H (.ref p)) (hb : EvD K tb σ H (kD k)) (hd : H p = some (.dK kvs)) (hk : KAll K H kvs us) (hg : getA us k = some d) : EvD K (tDGet ta tb) σ H d := fun H1 e1 Q q =>
  ha H1 e1 _ fun H2 e2 => hb H2 (e1.trans e2) _ fun v H3 e3 t => by
    have e13 := (e1.trans e2).trans e3
    rcases (hk.tx (Tx.ex e13)).get (k := k) with ⟨h1, _⟩ | ⟨v', d', h1, h2, h3⟩
    · rw [hg] at h1
      cases h1
    · rw [hg] at h1
      cases h1
      refine ⟨p, v', rfl, ?_, q _ H3 (e2.trans e3) h3⟩
      rw [dt_kD t, ← h2]
      exact DGet.k (e13.at hd)
theorem d_inD {k : Key} {kvs : List (Key × V)} (ha : EvD K ta σ H (kD k)) (hb : Ev tb σ H (.ref p)) (hd : H p = some (.dK kvs)) : EvD K (tDIn ta tb) σ H (.bool (valV kvs k).isSome) := fun H1 e1 Q q =>
  ha H1 e1 _ fun v H2 e2 t => hb H2 (e1.trans e2) _ fun H3 e3 => ⟨p, valV kvs k, rfl, by rw [dt_kD t]; exact DGet.k (((e1.trans e2).trans e3).at hd), q _ H3 (e2.trans e3) (.bl _)⟩
theorem d_notInD {k : Key} {kvs : List (Key × V)} (ha : EvD K ta σ H (kD k)) (hb : Ev tb σ H (.ref p)) (hd : H p = some (.dK kvs)) : EvD K (tDNotIn ta tb) σ H (.bool (!(valV kvs k).isSome)) := fun H1 e1 Q q =>
  ha H1 e1 _ fun v H2 e2 t => hb H2 (e1.trans e2) _ fun H3 e3 => ⟨p, valV kvs k, rfl, by rw [dt_kD t]; exact DGet.k (((e1.trans e2).trans e3).at hd), q _ H3 (e2.trans e3) (.bl _)⟩
theorem d_get2 {tx : TE} {k : Key} {kvs : List (Key × V)} {us : List (Key × PyData)} {z : PyData} (ha : Ev ta σ H (.ref p)) (hb : EvD K tb σ H (kD k)) (hx : EvD K tx σ H z) (hd : H p = some (.dK kvs)) (hk : KAll K H kvs us) (hg : d = (getA us k).getD z) : EvD K (tDGet2 ta tb tx) σ H d := fun H1 e1 Q q =>
  ha H1 e1 _ fun H2 e2 => ⟨p, rfl, .inl ⟨kvs, .inl ((e1.trans e2).at hd)⟩, hb H2 (e1.trans e2) _ fun v H3 e3 t => hx H3 ((e1.trans e2).trans e3) _ fun w H4 e4 t' => by
    have e14 := ((e1.trans e2).trans e3).trans e4
    refine ⟨valV kvs k, by rw [dt_kD t]; exact DGet.k (e14.at hd), ?_⟩
    rcases (hk.tx (Tx.ex e14)).get (k := k) with ⟨h1, h2⟩ | ⟨v', d', h1, h2, h3⟩
    · rw [h2]
      rw [h1] at hg
      subst hg
      exact q _ H4 ((e2.trans e3).trans e4) t'
    · rw [h2]
      rw [h1] at hg
      subst hg
      exact q _ H4 ((e2.trans e3).trans e4) h3⟩
/-- a dict just made goes to a name -/
theorem s_asgDD {D : Ends} {i : Nat} {us : List (Key × PyData)} (h : EvDD K te σ H us) (k : ∀ p kvs H1, H p = none → Ex H H1 → H1 p = some (.dK kvs) → KAll K H1 kvs us → D.nx (σ.set i (some (.ref p))) H1) : tAsg te (gName i) D σ H := h H (Ex.refl H) _ fun p kvs H1 hp e h1 hk => k p kvs H1 hp e h1 hk
theorem q_asgDD {D : Ends} {tz : TS} {i : Nat} {us : List (Key × PyData)} (h : EvDD K te σ H us) (k : ∀ p kvs H1, H p = none → Ex H H1 → H1 p = some (.dK kvs) → KAll K H1 kvs us → tz D (σ.set i (some (.ref p))) H1) : tSeq (tAsg te (gName i)) tz D σ H := s_asgDD (D := { D with nx := tz D }) h k
/-! [.. for x in d], d a dict that stands in H -/
theorem Tx.upd {H : Hp} {p : Addr} {o : HO} (h : match H p with | some (.tup _) => False | some (.frz _ (.tup _)) => False | _ => True) : Tx K H (upd H p o) := fun a zs q => by
  rcases q with (q | ⟨ob, q⟩) | q
  · refine .inl (.inl ?_)
    have hn : a ≠ p := by
      rintro rfl
      rw [q] at h
      exact h
    rw [upd_ne hn]
    exact q
  · refine .inl (.inr ⟨ob, ?_⟩)
    have hn : a ≠ p := by
      rintro rfl
      rw [q] at h
      exact h
    rw [upd_ne hn]
    exact q
  · exact .inr q
theorem l_lcD {tt : TT} {g : TG} {ws : List Nat} {i : Nat} {kvs : List (Key × V)} {ks : List Key} (c : Key → Bool) (f : Key → PyData) (h : σ[i]? = some (some (.ref p))) (hd : H p = some (.dK kvs)) (hks : kvs.map (·.1) = ks) (hl : ks.length ≤ 40000)
    (hb : ∀ k H1, Tx K H H1 → Rd H1 p (.dK kvs) → k ∈ ks → ∃ σ2, Reach g (kV k) (wipe σ ws) H1 σ2 ∧ wipe σ2 ws = wipe σ ws ∧ EvT tt σ2 H1 (c k) ∧ (c k = true → EvD K te σ2 H1 (f k))) :
    EvLD K (tLockE (tLc (iKeys (tVar i)) g tt te ws)) σ H ((ks.filter c).map f) := by
  intro H1 e1 Q q
  have hd1 := e1.at hd
  refine ⟨p, .dK kvs, hd1, trivial, fun od => ?_⟩
  have eat : upd H1 p (.frz od (.dK kvs)) p = some (.frz od (.dK kvs)) := upd_same
  refine ⟨.ref p, h, p, od, rfl, .inl ⟨kvs, eat, fun D hD => ?_⟩⟩
  have hDp : D ≠ p := fun z => by
    rw [z, eat] at hD
    cases hD
  have hD1 : H1 D = none := by
    rw [upd_ne hDp] at hD
    exact hD
  have hlk : kvs.length = ks.length := by rw [← hks, List.length_map]
  have tx1 : Tx K H1 (upd H1 p (.frz od (.dK kvs))) := Tx.dk hd1 _
  refine lc_it walk_keys (fun j H' => Lw K (upd H1 p (.frz od (.dK kvs))) D (sel c f (ks.take j)) H') ⟨hD, Ex.new hD, [], upd_same, .nil⟩ (fun j H' _ w => w.2.1.at eat) (fun j x H' H'' hj w y => ?_) (fun H' w => ?_)
  · obtain ⟨rfl, k, v, hk, rfl⟩ := y
    have hkj : ks[j]? = some k := by
      rw [← hks, List.getElem?_map, hk]
      rfl
    obtain ⟨σ2, r1, r2, r3, r4⟩ := hb k H'' ((Tx.ex e1).trans (tx1.trans (Tx.ex w.2.1))) (.inr ⟨od, w.2.1.at eat⟩) (List.mem_of_getElem? hkj)
    refine r1 _ ⟨r2, ?_⟩
    refine w.turn (Nat.lt_of_le_of_lt sel_len (by omega)) r3 r4 fun H5 w5 => ?_
    rw [sel_take hkj]
    exact w5
  · rw [hlk, List.take_length] at w
    obtain ⟨w0, w1, acc, w2, w3⟩ := w
    have hp' : H' p = some (.frz od (.dK kvs)) := w1.at eat
    refine ⟨hp', q D acc (upd H' p (.dK kvs)) hD1 ?_ ?_ ?_⟩
    · refine ⟨fun b o hb n => ?_, fun b hb => ?_, fun r hr t => ?_⟩
      · by_cases z : b = p
        · rw [z] at hb ⊢
          rw [hd1] at hb
          cases hb
          exact upd_same
        · rw [upd_ne z]
          refine w1.keep b o ?_ n
          rw [upd_ne z]
          exact hb
      · by_cases z : b = p
        · rw [z, upd_same] at hb
          cases hb
        · rw [upd_ne z] at hb
          have := w1.dom b hb
          rw [upd_ne z] at this
          exact this
      · exact tab_upd (by rw [hp']; exact trivial) (w1.tab r hr (tab_upd (by rw [hd1]; exact trivial) t))
    · rw [upd_ne hDp]
      exact w2
    · exact w3.tx (Tx.upd (by rw [hp']; exact trivial))
end
end AS


set_option Elab.async false
set_option linter.all false
set_option maxRecDepth 100000
set_option maxHeartbeats 4000000
/-! Statements' readings: if, while, a list that grows, targets of several names. -/
namespace AS
open PySem L2 LamX
open PySem.W (Frag)
open RT
variable [TabsOf]
section
variable {K : Frag} {σ : L2.St} {H H' : Hp} {ta tb te tl : TE} {d e : PyData} {ds es : List PyData} {v : V} {p : Addr} {xs : List V} {tc : TT} {t u tz : TS} {D : Ends}
theorem s_if {b : Bool} (h : EvT tc σ H b) (h1 : b = true → ∀ H1, Ex H H1 → t D σ H1) (h2 : b = false → ∀ H1, Ex H H1 → u D σ H1) : tIfS tc t u D σ H := h H (Ex.refl H) _ fun H1 e => by
  cases b with
  | true => exact h1 rfl H1 e
  | false => exact h2 rfl H1 e
theorem q_if {b : Bool} (h : EvT tc σ H b) (h1 : b = true → ∀ H1, Ex H H1 → t { D with nx := tz D } σ H1) (h2 : b = false → ∀ H1, Ex H H1 → u { D with nx := tz D } σ H1) : tSeq (tIfS tc t u) tz D σ H := s_if (D := { D with nx := tz D }) h h1 h2
theorem s_while (Pv : Nat → L2.St → Hp → Prop) (m0 : Nat) (h0 : Pv m0 σ H)
    (hs : ∀ m σ H, Pv m σ H → ∃ b, EvT tc σ H b ∧ (b = true → ∀ H1, Ex H H1 → t { D with nx := fun σ' H' => ∃ m', m' < m ∧ Pv m' σ' H', ct := fun σ' H' => ∃ m', m' < m ∧ Pv m' σ' H', bk := D.nx } σ H1) ∧ (b = false → ∀ H1, Ex H H1 → D.nx σ H1)) : tWhile tc t D σ H := by
  refine ⟨Pv, ⟨m0, h0⟩, fun m σ H w => ?_⟩
  obtain ⟨b, h1, h2, h3⟩ := hs m σ H w
  refine h1 H (Ex.refl H) _ fun H1 e => ?_
  cases b with
  | true => exact ⟨_, fun _ _ q => q, h2 rfl H1 e⟩
  | false => exact h3 rfl H1 e
theorem q_while (Pv : Nat → L2.St → Hp → Prop) (m0 : Nat) (h0 : Pv m0 σ H)
    (hs : ∀ m σ H, Pv m σ H → ∃ b, EvT tc σ H b ∧ (b = true → ∀ H1, Ex H H1 → t { D with nx := fun σ' H' => ∃ m', m' < m ∧ Pv m' σ' H', ct := fun σ' H' => ∃ m', m' < m ∧ Pv m' σ' H', bk := tz D } σ H1) ∧ (b = false → ∀ H1, Ex H H1 → tz D σ H1)) : tSeq (tWhile tc t) tz D σ H := s_while (D := { D with nx := tz D }) Pv m0 h0 hs
theorem s_drop (h : EvD K te σ H d) (k : ∀ v H1, Ex H H1 → Dt K H1 v d → D.nx σ H1) : tDrop te D σ H := h H (Ex.refl H) _ k
/-- a list of one's own grows -/
theorem s_append {H0 : Hp} {i : Nat} (hv : σ[i]? = some (some (.ref p))) (w : Lw K H0 p ds H) (hl : ds.length < 50000) (h : EvD K te σ H d) (k : ∀ H1 H2, Ex H H1 → Lw K H0 p (ds ++ [d]) H2 → Tx K H1 H2 → (∀ b, b ≠ p → H2 b = H1 b) → D.nx σ H2) : tDrop (tBM K "list" rAppend (tVar i) (tCons te tNil)) D σ H := by
  obtain ⟨acc, hacc⟩ : ∃ acc, H p = some (.lst acc) := by
    obtain ⟨_, _, acc, h1, _⟩ := w
    exact ⟨acc, h1⟩
  refine ⟨.ref p, hv, .inl ⟨rfl, acc, SqL.of hacc⟩, h H (Ex.refl H) _ fun v H1 e t => ?_⟩
  obtain ⟨acc', h1, h2, h3⟩ := (w.ex e).snoc t hl
  refine ⟨p, acc', v, rfl, rfl, h1, h2, k H1 _ e h3 (Tx.lst h1) fun b hb => upd_ne hb⟩
theorem q_append {H0 : Hp} {i : Nat} (hv : σ[i]? = some (some (.ref p))) (w : Lw K H0 p ds H) (hl : ds.length < 50000) (h : EvD K te σ H d) (k : ∀ H1 H2, Ex H H1 → Lw K H0 p (ds ++ [d]) H2 → Tx K H1 H2 → (∀ b, b ≠ p → H2 b = H1 b) → tz D σ H2) : tSeq (tDrop (tBM K "list" rAppend (tVar i) (tCons te tNil))) tz D σ H := s_append (D := { D with nx := tz D }) hv w hl h k
/-- a tuple's items go to names -/
theorem tup_vals {x : V} (h : Dt K H x (.tuple ds)) : ∃ a xs, x = .ref a ∧ SqT K H a xs ∧ DtAll K H xs ds := h.tup_inv
theorem reach_one {g : TG} {x : V} {σ1 : L2.St} (h : Reach g x σ H σ1) : ReachS (gCons g gNil) [x] σ H σ1 := reach_cons h reach_nil
theorem reach2 {i j : Nat} {x : V} {d1 d2 : PyData} (h : Dt K H x (.tuple [d1, d2])) : ∃ u1 u2, Dt K H u1 d1 ∧ Dt K H u2 d2 ∧ Reach (gTup K 2 (gCons (gName i) (gCons (gName j) gNil))) x σ H ((σ.set i (some u1)).set j (some u2)) := by
  obtain ⟨a, xs, rfl, hs, hx⟩ := h.tup_inv
  obtain ⟨u1, r1, rfl, t1, hx⟩ := hx.cons_inv
  obtain ⟨u2, r2, rfl, t2, hx⟩ := hx.cons_inv
  have := hx.nil_inv
  subst this
  exact ⟨u1, u2, t1, t2, reach_tup hs rfl (reach_cons reach_name (reach_cons reach_name reach_nil))⟩
theorem reach3 {i j k : Nat} {x : V} {d1 d2 d3 : PyData} (h : Dt K H x (.tuple [d1, d2, d3])) : ∃ u1 u2 u3, Dt K H u1 d1 ∧ Dt K H u2 d2 ∧ Dt K H u3 d3 ∧ Reach (gTup K 3 (gCons (gName i) (gCons (gName j) (gCons (gName k) gNil)))) x σ H (((σ.set i (some u1)).set j (some u2)).set k (some u3)) := by
  obtain ⟨a, xs, rfl, hs, hx⟩ := h.tup_inv
  obtain ⟨u1, r1, rfl, t1, hx⟩ := hx.cons_inv
  obtain ⟨u2, r2, rfl, t2, hx⟩ := hx.cons_inv
  obtain ⟨u3, r3, rfl, t3, hx⟩ := hx.cons_inv
  have := hx.nil_inv
  subst this
  exact ⟨u1, u2, u3, t1, t2, t3, reach_tup hs rfl (reach_cons reach_name (reach_cons reach_name (reach_cons reach_name reach_nil)))⟩
theorem reach4 {i j k l : Nat} {x : V} {d1 d2 d3 d4 : PyData} (h : Dt K H x (.tuple [d1, d2, d3, d4])) : ∃ u1 u2 u3 u4, Dt K H u1 d1 ∧ Dt K H u2 d2 ∧ Dt K H u3 d3 ∧ Dt K H u4 d4 ∧ Reach (gTup K 4 (gCons (gName i) (gCons (gName j) (gCons (gName k) (gCons (gName l) gNil))))) x σ H ((((σ.set i (some u1)).set j (some u2)).set k (some u3)).set l (some u4)) := by
  obtain ⟨a, xs, rfl, hs, hx⟩ := h.tup_inv
  obtain ⟨u1, r1, rfl, t1, hx⟩ := hx.cons_inv
  obtain ⟨u2, r2, rfl, t2, hx⟩ := hx.cons_inv
  obtain ⟨u3, r3, rfl, t3, hx⟩ := hx.cons_inv
  obtain ⟨u4, r4, rfl, t4, hx⟩ := hx.cons_inv
  have := hx.nil_inv
  subst this
  exact ⟨u1, u2, u3, u4, t1, t2, t3, t4, reach_tup hs rfl (reach_cons reach_name (reach_cons reach_name (reach_cons reach_name (reach_cons reach_name reach_nil))))⟩
theorem Dt.fromTx (e : Ex H H') {v : V} {d : PyData} (h : Dt K H v d) : Dt K H' v d := h.ex e
/-- list.index, a text in a list of texts -/
theorem d_indexL {x : Str} {ys : List Str} (ha : Ev ta σ H (.ref p)) (hs : SqL K H p (ys.map V.str)) (hb : EvD K tb σ H (.str x)) (hm : x ∈ ys) : EvD K (tBM K "list" (rIndex K) ta (tCons tb tNil)) σ H (.int (ys.idxOf x : Nat)) := fun H1 e1 Q q =>
  ha H1 e1 _ fun H2 e2 => ⟨.inl ⟨rfl, _, ex_l (e1.trans e2) hs⟩, hb H2 (e1.trans e2) _ fun v H3 e3 t => by
    rw [t.str_inv]
    have hlt : ys.idxOf x < ys.length := List.idxOf_lt_length_iff.mpr hm
    refine ⟨p, ys.map V.str, .str x, ys.idxOf x, .str x, rfl, rfl, ex_l ((e1.trans e2).trans e3) hs, rfl, flat_strs _, ?_, ?_, fun m z' hlt' hz' => ?_, q _ H3 (e2.trans e3) (.int _)⟩
    · rw [List.getElem?_map, List.getElem?_eq_getElem hlt, List.getElem_idxOf]
      rfl
    · show (x == x) = true
      simp
    · rw [List.getElem?_map, List.getElem?_eq_getElem (Nat.lt_trans hlt' hlt)] at hz'
      cases hz'
      show (ys[m] == x) = false
      have := List.not_of_lt_findIdx (p := fun z => z == x) (xs := ys) hlt'
      simpa using this⟩
end
end AS


set_option Elab.async false
set_option linter.all false
set_option maxRecDepth 100000
set_option maxHeartbeats 4000000
/-! Instances: what stays but for some addresses (ExB), fields, dicts of lists, walks of a list of one's own, sorted by a key, the code of a def that makes lambdas. -/
namespace AS
open PySem L2 LamX
open PySem.W (Frag)
open RT
variable [TabsOf]

/-- a def of a class of the text -/
def inClass (c : Stmt) (j : Nat) : Stmt := match c with
  | .ClassDef (body := b) .. => b.getD j (.Pass ⟨0, 0, 0, 0⟩)
  | _ => .Pass ⟨0, 0, 0, 0⟩
/-! ### a def whose code object is known -/
structure FunC (K : Frag) (x qual : Str) (st : Stmt) (c f : Addr) (fd : FuncData) : Prop where
  ex : ∃ (oc : Value) (od : Option Addr) (kV doc pm : Value) (an : Option Addr) (ct : Value) (osl : Array (Option Value)),
    fd = PySem.W.fnOf x qual (defArgs st) (defBody st) (defScope st) .none kV doc pm an (.ref c) ct ∧ K.lookup f = some ⟨oc, od, .func fd, osl⟩ ∧ PySem.W.codeIn K (.ref c) qual = true
  kp : PySem.W.keepIn K (.ref f) = true
theorem FunC.fn {K : Frag} {x qual : Str} {st : Stmt} {c f : Addr} {fd : FuncData} (F : FunC K x qual st c f fd) : Fun K x qual st f fd := by
  obtain ⟨oc, od, kV, doc, pm, an, ct, osl, h1, h2, h3⟩ := F.ex
  exact ⟨⟨oc, od, kV, doc, pm, an, .ref c, ct, osl, h1, h2, h3⟩, F.kp⟩
theorem FunC.ok {P : Program} {w : World} {K : Frag} {mg : Str → Option Value} {base : Heap} {x qual : Str} {st : Stmt} {c f : Addr} {fd : FuncData} {N ps : List Str} {k : Nat} {sp : Sp} (F : FunC K x qual st c f fd) (S : FnScope N ps (defScope st)) (len : ∀ vs H Q E, sp vs H Q E → vs.length = ps.length)
    (hbody : ∀ (A : Around) (outer : List Env) (s : Shared) (H : Hp) (vs : List V) (Q : VK) (E : XK), Room k (A.deeper (PyProof.Rows.envOfC qual (defScope st) s.heap.objs.size f (.ref c))) → sp vs H Q E →
      ∃ t, PSs (cxOf CX0 P w K mg base N qual (defScope st) f (.ref c) A outer s H E).nox (defBody st) t ∧ t { nx := fun _ H' => Q .non H', rt := Q } (start N vs) H) : FnOk P w K mg base CX0 (k + 1) f fd ps sp := by
  obtain ⟨oc, od, kV, doc, pm, an, ct, osl, rfl, lk, hcd⟩ := F.ex
  refine fn_of lk hcd S len fun A outer s H vs Q E hr hsp => ?_
  obtain ⟨t, h, q⟩ := hbody A outer s H vs Q E hr hsp
  exact ⟨t, h.nox, q⟩

/-! ### all tables -/
def TabsOk (H : Hp) : Prop := ∀ p ∈ TabsOf.T, TabS H p.1 p.2
theorem TabsOk.ex {H H' : Hp} (t : TabsOk H) (e : Ex H H') : TabsOk H' := fun p hp => e.tab p hp (t p hp)

/-! ### but for the addresses S, all stays -/
structure ExB (S : Addr → Prop) (H H' : Hp) : Prop where
  keep : ∀ b o, ¬ S b → H b = some o → (∀ ps, o ≠ .tbl ps) → H' b = some o
  dom : ∀ b, H' b = none → H b = none
  tab : ∀ p ∈ TabsOf.T, TabS H p.1 p.2 → TabS H' p.1 p.2
section
variable {S T : Addr → Prop} {H H0 H1 H2 H' : Hp}
theorem ExB.refl : ExB S H H := ⟨fun _ _ _ h _ => h, fun _ h => h, fun _ _ h => h⟩
theorem ExB.of (e : Ex H H') : ExB S H H' := ⟨fun b o _ h n => e.keep b o h n, e.dom, e.tab⟩
theorem ExB.trans (a : ExB S H H1) (b : ExB S H1 H2) : ExB S H H2 := ⟨fun x o n h q => b.keep x o n (a.keep x o n h q) q, fun x h => a.dom x (b.dom x h), fun p hp h => b.tab p hp (a.tab p hp h)⟩
theorem ExB.mono (a : ExB S H H') (h : ∀ b, S b → T b) : ExB T H H' := ⟨fun b o n => a.keep b o fun s => n (h b s), a.dom, a.tab⟩
theorem ExB.at (e : ExB S H H') {b : Addr} {o : HO} (h : H b = some o) (hs : ¬ S b) (n : ∀ ps, o ≠ .tbl ps := by intro ps z; cases z) : H' b = some o := e.keep b o hs h n
theorem ExB.toEx (e : Ex H0 H) (a : ExB S H H') (h : ∀ b, S b → H0 b = none) : Ex H0 H' :=
  ⟨fun b o q n => a.keep b o (fun s => by rw [h b s] at q; cases q) (e.keep b o q n) n, fun b q => e.dom b (a.dom b q), fun p hp t => a.tab p hp (e.tab p hp t)⟩
theorem ExB.upd {p : Addr} {o o' : HO} (h : S p) (hp : H p = some o') (hc : Chg (some o')) : ExB S H (upd H p o) := by
  refine ⟨fun b u n q _ => ?_, fun b q => ?_, fun r hr t => tab_upd (by rw [hp]; exact hc) t⟩
  · rw [upd_ne (fun z => n (by rw [z]; exact h))]
    exact q
  · by_cases z : b = p
    · rw [z, upd_same] at q
      cases q
    · rw [upd_ne z] at q
      exact q
theorem ExB.mut {p : Addr} {o : HO} (e : ExB S H H') (h : H p = none) (hc : Chg (H' p)) : ExB S H (L2.upd H' p o) := by
  refine ⟨fun b u n q m => ?_, fun b q => ?_, fun r hr t => tab_upd hc (e.tab r hr t)⟩
  · rw [upd_ne (ne_of_none q h)]
    exact e.keep b u n q m
  · by_cases z : b = p
    · rw [z]
      exact h
    · rw [upd_ne z] at q
      exact e.dom b q
def NoTup (o : Option HO) : Prop := match o with
  | some (.tup _) => False
  | some (.frz _ (.tup _)) => False
  | _ => True
theorem ExB.tx {K : Frag} (e : ExB S H H') (h : ∀ b, S b → NoTup (H b)) : Tx K H H' := fun a zs q => by
  rcases q with (q | ⟨ob, q⟩) | q
  · refine .inl (.inl (e.at q fun s => ?_))
    have := h a s
    rw [q] at this
    exact this
  · refine .inl (.inr ⟨ob, e.at q fun s => ?_⟩)
    have := h a s
    rw [q] at this
    exact this
  · exact .inr q
theorem TabsOk.exB (t : TabsOk H) (e : ExB S H H') : TabsOk H' := fun p hp => e.tab p hp (t p hp)
end

/-! ### fields -/
section
variable {K : Frag} {σ : L2.St} {H : Hp} {ta tb te tl : TE} {d e : PyData} {ds es : List PyData} {v : V} {p a C dx : Addr} {xs : List V} {fs : List (Str × V)} {f : Str} {D : Ends} {tz : TS}
theorem ev_fld (h : Ev ta σ H (.ref a)) (e : H a = some (.ins C dx fs)) (c : Cls K C) (n : NoAttr K C f) (l : fs.lookup f = some v) : Ev (tFld K ta f) σ H v := fun H1 e1 Q q =>
  h H1 e1 _ fun H2 e2 => ⟨a, C, dx, fs, v, rfl, (e1.trans e2).at e, c, n, l, q H2 e2⟩
theorem d_fld (h : Ev ta σ H (.ref a)) (e : H a = some (.ins C dx fs)) (c : Cls K C) (n : NoAttr K C f) (l : fs.lookup f = some v) (t : Dt K H v d) : EvD K (tFld K ta f) σ H d := d_of (ev_fld h e c n l) t
/-- self.f = data, self in slot i -/
theorem s_fldD {i : Nat} (hv : σ[i]? = some (some (.ref a))) (e : H a = some (.ins C dx fs)) (c : Cls K C) (n : NoAttr K C f) (hl : fs.length < 1000) (h : EvD K te σ H d) (k : ∀ v H1, Ex H H1 → Dt K H1 v d → H1 a = some (.ins C dx fs) → D.nx σ (upd H1 a (.ins C dx (putF f v fs)))) : sFld K (tVar i) te f D σ H :=
  h H (Ex.refl H) _ fun v H1 e1 t => ⟨.ref a, hv, a, C, dx, fs, rfl, e1.at e, c, n, hl, k v H1 e1 t (e1.at e)⟩
theorem q_fldD {i : Nat} (hv : σ[i]? = some (some (.ref a))) (e : H a = some (.ins C dx fs)) (c : Cls K C) (n : NoAttr K C f) (hl : fs.length < 1000) (h : EvD K te σ H d) (k : ∀ v H1, Ex H H1 → Dt K H1 v d → H1 a = some (.ins C dx fs) → tz D σ (upd H1 a (.ins C dx (putF f v fs)))) : tSeq (sFld K (tVar i) te f) tz D σ H := s_fldD (D := { D with nx := tz D }) hv e c n hl h k
theorem q_fldDD {i : Nat} {us : List (Key × PyData)} (hv : σ[i]? = some (some (.ref a))) (e : H a = some (.ins C dx fs)) (c : Cls K C) (n : NoAttr K C f) (hl : fs.length < 1000) (h : EvDD K te σ H us) (k : ∀ p kvs H1, H p = none → Ex H H1 → H1 p = some (.dK kvs) → KAll K H1 kvs us → H1 a = some (.ins C dx fs) → tz D σ (upd H1 a (.ins C dx (putF f (.ref p) fs)))) : tSeq (sFld K (tVar i) te f) tz D σ H :=
  h H (Ex.refl H) _ fun p kvs H1 hp e1 h1 h2 => ⟨.ref a, hv, a, C, dx, fs, rfl, e1.at e, c, n, hl, k p kvs H1 hp e1 h1 h2 (e1.at e)⟩
theorem q_fldLD {i : Nat} (hv : σ[i]? = some (some (.ref a))) (e : H a = some (.ins C dx fs)) (c : Cls K C) (n : NoAttr K C f) (hl : fs.length < 1000) (h : EvLD K te σ H ds) (k : ∀ p vs H1, H p = none → Ex H H1 → H1 p = some (.lst vs) → DtAll K H1 vs ds → H1 a = some (.ins C dx fs) → tz D σ (upd H1 a (.ins C dx (putF f (.ref p) fs)))) : tSeq (sFld K (tVar i) te f) tz D σ H :=
  h H (Ex.refl H) _ fun p vs H1 hp e1 h1 h2 => ⟨.ref a, hv, a, C, dx, fs, rfl, e1.at e, c, n, hl, k p vs H1 hp e1 h1 h2 (e1.at e)⟩
/-! a list that stands, new or not -/
def EvR (K : Frag) (te : TE) (σ : L2.St) (H : Hp) (ds : List PyData) : Prop := ∀ H1, Ex H H1 → ∀ Q : VK, (∀ p vs H2, Ex H1 H2 → H2 p = some (.lst vs) → DtAll K H2 vs ds → Q (.ref p) H2) → te σ H1 Q
theorem EvLD.r (h : EvLD K te σ H ds) : EvR K te σ H ds := fun H1 e1 Q q => h H1 e1 Q fun p vs H2 _ e2 h2 hx => q p vs H2 e2 h2 hx
theorem r_of (h : Ev te σ H (.ref p)) (hs : H p = some (.lst xs)) (hx : DtAll K H xs ds) : EvR K te σ H ds := fun H1 e1 Q q => h H1 e1 Q fun H2 e2 => q p xs H2 e2 ((e1.trans e2).at hs) (hx.ex (e1.trans e2))
theorem r_if {t : TT} {b : Bool} (h : EvT t σ H b) (h1 : b = true → EvR K ta σ H ds) (h2 : b = false → EvR K tb σ H ds) : EvR K (tIf t ta tb) σ H ds := fun H1 e1 Q q => h H1 e1 _ fun H2 e2 => by
  cases b with
  | true =>
    show ta σ H2 Q
    exact h1 rfl H2 (e1.trans e2) Q fun p vs H3 e3 t => q p vs H3 (e2.trans e3) t
  | false =>
    show tb σ H2 Q
    exact h2 rfl H2 (e1.trans e2) Q fun p vs H3 e3 t => q p vs H3 (e2.trans e3) t
theorem q_asgR {i : Nat} (h : EvR K te σ H ds) (k : ∀ p vs H1, Ex H H1 → H1 p = some (.lst vs) → DtAll K H1 vs ds → tz D (σ.set i (some (.ref p))) H1) : tSeq (tAsg te (gName i)) tz D σ H := h H (Ex.refl H) _ fun p vs H1 e h1 ts => k p vs H1 e h1 ts
theorem q_asgV {i : Nat} (h : Ev te σ H v) (k : ∀ H1, Ex H H1 → tz D (σ.set i (some v)) H1) : tSeq (tAsg te (gName i)) tz D σ H := h H (Ex.refl H) _ fun H1 e => k H1 e
/-- d[k], a dict that stands in H, any value -/
theorem ev_getV {k : Key} {kvs : List (Key × V)} (ha : Ev ta σ H (.ref p)) (hb : EvD K tb σ H (kD k)) (hd : H p = some (.dK kvs)) (hg : valV kvs k = some v) : Ev (tDGet ta tb) σ H v := fun H1 e1 Q q =>
  ha H1 e1 _ fun H2 e2 => hb H2 (e1.trans e2) _ fun u H3 e3 t => by
    have e13 := (e1.trans e2).trans e3
    refine ⟨p, v, rfl, ?_, q H3 (e2.trans e3)⟩
    rw [dt_kD t, ← hg]
    exact DGet.k (e13.at hd)
/-! o.append(..), o.extend(..), o.update(..) -/
theorem q_appendV (ha : Ev ta σ H (.ref p)) (hp : H p = some (.lst xs)) (hl : xs.length < 50000) (h : EvD K te σ H d) (k : ∀ v H1, Ex H H1 → Dt K H1 v d → H1 p = some (.lst xs) → tz D σ (upd H1 p (.lst (xs ++ [v])))) : tSeq (tDrop (tBM K "list" rAppend ta (tCons te tNil))) tz D σ H :=
  ha H (Ex.refl H) _ fun H1 e1 => ⟨.inl ⟨rfl, xs, SqL.of (e1.at hp)⟩, h H1 e1 _ fun v H2 e2 t => ⟨p, xs, v, rfl, rfl, (e1.trans e2).at hp, sz_lt (by omega), k v H2 (e1.trans e2) t ((e1.trans e2).at hp)⟩⟩
theorem q_extendV {b : Addr} {zs : List V} (ha : Ev ta σ H (.ref p)) (hp : H p = some (.lst xs)) (hb : Ev tb σ H (.ref b)) (hz : H b = some (.lst zs)) (hl : xs.length + zs.length ≤ 50000) (k : ∀ H1, Ex H H1 → tz D σ (upd H1 p (.lst (xs ++ zs)))) : tSeq (tDrop (tBM K "list" rExtend ta (tCons tb tNil))) tz D σ H :=
  ha H (Ex.refl H) _ fun H1 e1 => ⟨.inl ⟨rfl, xs, SqL.of (e1.at hp)⟩, hb H1 e1 _ fun H2 e2 => ⟨p, b, xs, zs, rfl, rfl, (e1.trans e2).at hp, (e1.trans e2).at hz, sz_of (by omega), k H2 (e1.trans e2)⟩⟩
theorem s_updateV {kvs more : List (Key × V)} (ha : Ev ta σ H (.ref p)) (hp : H p = some (.dK kvs)) (hb : ∀ H1, Ex H H1 → ∀ Q : VK, (∀ q H2, H1 q = none → Ex H1 H2 → H2 q = some (.dK more) → Q (.ref q) H2) → te σ H1 Q) (hl : kvs.length + more.length ≤ sizeLine)
    (k : ∀ H1, Ex H H1 → H1 p = some (.dK kvs) → D.nx σ (upd H1 p (.dK (mergeK kvs more)))) : tDrop (tBM K "dict" rUpdate ta (tCons te tNil)) D σ H :=
  ha H (Ex.refl H) _ fun H1 e1 => ⟨.inr (.inr (.inl ⟨rfl, .inl ⟨kvs, e1.at hp⟩⟩)), hb H1 e1 _ fun q H2 hq e2 h2 => ⟨p, q, kvs, more, rfl, rfl, (fun z => by rw [← z, e1.at hp] at hq; cases hq), (e1.trans e2).at hp, h2, hl, k H2 (e1.trans e2) ((e1.trans e2).at hp)⟩⟩
/-! dicts of values that stand -/
theorem putK_A (kvs : List (Key × V)) (k : Key) (v : V) : putK kvs k v = putA kvs k v := rfl
theorem d_dcV {α : Type} {ys : List α} {F : α → PyData} {wi : TI} {g : TG} {tt : TT} {tk tv : TE} {ws : List Nat} (kf : α → Key) (f : α → V) (h : EvI K Ex wi σ H ys F) (hl : ys.length ≤ 40000)
    (hb : ∀ x y H1, Ex H H1 → y ∈ ys → Dt K H1 x (F y) → ∃ σ2, Reach g x (wipe σ ws) H1 σ2 ∧ wipe σ2 ws = wipe σ ws ∧ EvT tt σ2 H1 true ∧ EvD K tk σ2 H1 (kD (kf y)) ∧ Ev tv σ2 H1 (f y)) (H0 : Hp) (e0 : Ex H H0) (Q : VK)
    (q : ∀ p H2, H0 p = none → Ex H0 H2 → H2 p = some (.dK (mkA (ys.map fun y => (kf y, f y)))) → Q (.ref p) H2) : tDc wi g tt tk tv ws σ H0 Q := h H0 e0 _ fun J H1 e1 G g1 g2 w D hD => by
  refine ⟨fun i m H' => m = ys.length - i ∧ i ≤ ys.length ∧ Ex H1 H' ∧ H' D = some (.dK (mkA ((ys.take i).map fun y => (kf y, f y)))), ⟨_, rfl, Nat.zero_le _, Ex.new hD, upd_same⟩, ?_⟩
  rintro i m H' ⟨rfl, hi, ex, hk⟩
  by_cases hlt : i < ys.length
  · refine .inr ⟨w.goes i H' hlt (g2 _ ex), fun H'' => i + 1 ≤ ys.length ∧ Ex H1 H'' ∧ H'' D = some (.dK (mkA ((ys.take (i + 1)).map fun y => (kf y, f y)))), fun H'' r => ⟨ys.length - (i + 1), by omega, rfl, r⟩, fun x H'' hy => ?_⟩
    obtain ⟨ey, y, hy, ht⟩ := w.yields i H' x H'' hlt (g2 _ ex) hy
    have ex2 := ex.trans ey
    obtain ⟨σ2, r1, r2, r3, r4, r5⟩ := hb x y H'' ((e0.trans e1).trans ex2) (List.mem_of_getElem? hy) ht
    refine r1 _ ⟨r2, ?_⟩
    refine r3 H'' (Ex.refl _) _ fun H4 e4 => ?_
    rw [if_pos rfl]
    refine r4 H4 e4 _ fun u H5 e5 hu => r5 H5 (e4.trans e5) _ fun H6 e6 => ?_
    have eall := ((ey.trans e4).trans e5).trans e6
    have hk6 := eall.at hk
    refine ⟨_, kf y, dt_kD hu, hk6, ?_, hlt, (ex.trans eall).mut hD (by rw [hk6]; exact trivial), ?_⟩
    · have h2 := mkA_len ((ys.take i).map fun y => (kf y, f y))
      rw [List.length_map, List.length_take] at h2
      exact sz_lt (by omega)
    · rw [upd_same, putK_A, List.take_add_one, hy, List.map_append]
      show some (HO.dK (putA _ _ _)) = some (HO.dK (mkA (_ ++ [(kf y, f y)])))
      rw [mkA_snoc]
  · have e : i = ys.length := by omega
    subst e
    rw [List.take_length] at hk
    exact .inl ⟨w.stops H' (g2 _ ex), q D H' (fresh_back e1 hD) (e1.trans ex) hk⟩
/-- each value a new list of texts -/
theorem d_dcL {α : Type} {ys : List α} {F : α → PyData} {wi : TI} {g : TG} {tt : TT} {tk tv : TE} {ws : List Nat} (kf : α → Key) (f : α → List Str) (h : EvI K Ex wi σ H ys F) (hl : ys.length ≤ 40000) (hn : (ys.map kf).Nodup)
    (hb : ∀ x y H1, Ex H H1 → y ∈ ys → Dt K H1 x (F y) → ∃ σ2, Reach g x (wipe σ ws) H1 σ2 ∧ wipe σ2 ws = wipe σ ws ∧ EvT tt σ2 H1 true ∧ EvD K tk σ2 H1 (kD (kf y)) ∧ EvLD K tv σ2 H1 ((f y).map .str)) (H0 : Hp) (e0 : Ex H H0) (Q : VK)
    (q : ∀ (p : Addr) (as : List Addr) (H2 : Hp), H0 p = none → Ex H0 H2 → H2 p = some (.dK ((ys.map kf).zip (as.map V.ref))) → as.length = ys.length → as.Nodup → (∀ a ∈ as, H0 a = none ∧ a ≠ p) → (∀ (i : Nat) (a : Addr) (y : α), as[i]? = some a → ys[i]? = some y → H2 a = some (.lst ((f y).map V.str))) → Q (.ref p) H2) : tDc wi g tt tk tv ws σ H0 Q := h H0 e0 _ fun J H1 e1 G g1 g2 w D hD => by
  let W : Nat → Hp → Prop := fun i H' => i ≤ ys.length ∧ Ex H1 H' ∧ ∃ as : List Addr, H' D = some (.dK (((ys.take i).map kf).zip (as.map V.ref))) ∧ as.length = i ∧ as.Nodup ∧ (∀ a ∈ as, H1 a = none ∧ a ≠ D) ∧ ∀ (j : Nat) (a : Addr) (y : α), as[j]? = some a → ys[j]? = some y → H' a = some (.lst ((f y).map V.str))
  refine ⟨fun i m H' => m = ys.length - i ∧ W i H', ⟨_, rfl, Nat.zero_le _, Ex.new hD, [], upd_same, rfl, List.nodup_nil, fun a h => absurd h (by simp), fun j a y h => absurd h (by simp)⟩, ?_⟩
  rintro i m H' ⟨rfl, hi, ex, as, hk, hal, han, haf, hat⟩
  by_cases hlt : i < ys.length
  · refine .inr ⟨w.goes i H' hlt (g2 _ ex), W (i + 1), fun H'' r => ⟨ys.length - (i + 1), by omega, rfl, r⟩, fun x H'' hy => ?_⟩
    obtain ⟨ey, y, hy, ht⟩ := w.yields i H' x H'' hlt (g2 _ ex) hy
    have ex2 := ex.trans ey
    obtain ⟨σ2, r1, r2, r3, r4, r5⟩ := hb x y H'' ((e0.trans e1).trans ex2) (List.mem_of_getElem? hy) ht
    refine r1 _ ⟨r2, ?_⟩
    refine r3 H'' (Ex.refl _) _ fun H4 e4 => ?_
    rw [if_pos rfl]
    refine r4 H4 e4 _ fun u H5 e5 hu => r5 H5 (e4.trans e5) _ fun z vs H6 hz5 e6 hz6 hzx => ?_
    obtain rfl := hzx.strs_inv
    have e46 := (ey.trans e4).trans e5
    have eall := e46.trans e6
    have hk6 := eall.at hk
    have hz' : H' z = none := e46.dom z hz5
    have hzD : z ≠ D := fun q => by rw [q, hk] at hz'; cases hz'
    have hzas : z ∉ as := fun q => by
      obtain ⟨j, hj, hjz⟩ := List.getElem_of_mem q
      have h1 : as[j]? = some z := by rw [List.getElem?_eq_getElem hj, hjz]
      have h2 : j < ys.length := by omega
      have := hat j z ys[j] h1 (List.getElem?_eq_getElem h2)
      rw [hz'] at this
      cases this
    have hsn : (ys.take (i + 1)).map kf = (ys.take i).map kf ++ [kf y] := by
      rw [List.take_add_one, hy, List.map_append]
      rfl
    have hlen : ((ys.take i).map kf).length = (as.map V.ref).length := by
      rw [List.length_map, List.length_map, List.length_take]
      omega
    have hnew : kf y ∉ (((ys.take i).map kf).zip (as.map V.ref)).map (·.1) := by
      rw [List.map_fst_zip (Nat.le_of_eq hlen)]
      intro q
      have h1 : ((ys.take (i + 1)).map kf).Nodup := by
        exact hn.sublist (by rw [List.map_take]; exact List.take_sublist _ _)
      rw [hsn, List.nodup_append] at h1
      exact h1.2.2 _ q _ (by simp) rfl
    refine ⟨_, kf y, dt_kD hu, hk6, ?_, hlt, (ex.trans eall).mut hD (by rw [hk6]; exact trivial), as ++ [z], ?_, by rw [List.length_append, hal]; rfl, ?_, ?_, ?_⟩
    · rw [List.length_zip, List.length_map, List.length_take]
      exact sz_lt (by omega)
    · rw [upd_same, putK_A, putA_new hnew, hsn, List.map_append, List.zip_append hlen]
      rfl
    · rw [List.nodup_append]
      exact ⟨han, by simp, fun a ha b hb2 => by
        rw [List.mem_singleton] at hb2
        rintro rfl
        exact hzas (hb2 ▸ ha)⟩
    · intro a ha
      rcases List.mem_append.mp ha with q | q
      · exact haf a q
      · rw [List.mem_singleton] at q
        rw [q]
        exact ⟨ex.dom z hz', hzD⟩
    · intro j a y' hj hy'
      by_cases hji : j < as.length
      · rw [List.getElem?_append_left hji] at hj
        rw [upd_ne (haf a (List.mem_of_getElem? hj)).2]
        exact eall.at (hat j a y' hj hy')
      · rw [List.getElem?_append_right (by omega)] at hj
        have hj0 : j - as.length = 0 := by
          have := (List.getElem?_eq_some_iff.mp hj).1
          simp at this
          omega
        rw [hj0] at hj
        have hza : z = a := by simpa using hj
        subst hza
        have hje : j = i := by omega
        subst hje
        rw [hy] at hy'
        cases hy'
        rw [upd_ne hzD]
        exact hz6
  · have e : i = ys.length := by omega
    subst e
    rw [List.take_length] at hk
    exact .inl ⟨w.stops H' (g2 _ ex), q D as H' (fresh_back e1 hD) (e1.trans ex) hk hal han (fun a ha => ⟨e1.dom a (haf a ha).1, (haf a ha).2⟩) fun j a y h1 h2 => hat j a y h1 h2⟩
theorem q_fldDL {i : Nat} {α : Type} {ys : List α} {F : α → PyData} {wi : TI} {g : TG} {tt : TT} {tk tv : TE} {ws : List Nat} (kf : α → Key) (fl : α → List Str) (hv : σ[i]? = some (some (.ref a))) (e : H a = some (.ins C dx fs)) (c : Cls K C) (n : NoAttr K C f) (hlf : fs.length < 1000)
    (h : EvI K Ex wi σ H ys F) (hl : ys.length ≤ 40000) (hn : (ys.map kf).Nodup)
    (hb : ∀ x y H1, Ex H H1 → y ∈ ys → Dt K H1 x (F y) → ∃ σ2, Reach g x (wipe σ ws) H1 σ2 ∧ wipe σ2 ws = wipe σ ws ∧ EvT tt σ2 H1 true ∧ EvD K tk σ2 H1 (kD (kf y)) ∧ EvLD K tv σ2 H1 ((fl y).map .str))
    (q : ∀ (p : Addr) (as : List Addr) (H2 : Hp), H p = none → Ex H H2 → H2 p = some (.dK ((ys.map kf).zip (as.map V.ref))) → as.length = ys.length → as.Nodup → (∀ a ∈ as, H a = none ∧ a ≠ p) → (∀ (i : Nat) (a : Addr) (y : α), as[i]? = some a → ys[i]? = some y → H2 a = some (.lst ((fl y).map V.str))) → H2 a = some (.ins C dx fs) → tz D σ (upd H2 a (.ins C dx (putF f (.ref p) fs)))) :
    tSeq (sFld K (tVar i) (tDc wi g tt tk tv ws) f) tz D σ H := by
  show tDc wi g tt tk tv ws σ H fun y H1 => tVar i σ H1 fun x H2 => ∃ (a C dx : Addr) (fs : List (Str × V)), x = .ref a ∧ H2 a = some (.ins C dx fs) ∧ Cls K C ∧ NoAttr K C f ∧ fs.length < 1000 ∧ tz D σ (upd H2 a (.ins C dx (putF f y fs)))
  exact d_dcL (K := K) kf fl h hl hn hb H (Ex.refl H) _ fun p as H3 hp2 e3 hd3 hal han haf hat => ⟨.ref a, hv, a, C, dx, fs, rfl, e3.at e, c, n, hlf, q p as H3 hp2 e3 hd3 hal han haf hat (e3.at e)⟩
theorem q_updateL {α : Type} {ys : List α} {F : α → PyData} {wi : TI} {g : TG} {tt : TT} {tk tv : TE} {ws : List Nat} {kvs : List (Key × V)} (kf : α → Key) (fl : α → List Str) (ha : Ev ta σ H (.ref p)) (hp : H p = some (.dK kvs))
    (h : EvI K Ex wi σ H ys F) (hl : ys.length ≤ 40000) (hl2 : kvs.length ≤ 40000) (hn : (ys.map kf).Nodup)
    (hb : ∀ x y H1, Ex H H1 → y ∈ ys → Dt K H1 x (F y) → ∃ σ2, Reach g x (wipe σ ws) H1 σ2 ∧ wipe σ2 ws = wipe σ ws ∧ EvT tt σ2 H1 true ∧ EvD K tk σ2 H1 (kD (kf y)) ∧ EvLD K tv σ2 H1 ((fl y).map .str))
    (q : ∀ (as : List Addr) (H2 : Hp), Ex H H2 → as.length = ys.length → as.Nodup → (∀ a ∈ as, H a = none) → (∀ (i : Nat) (a : Addr) (y : α), as[i]? = some a → ys[i]? = some y → H2 a = some (.lst ((fl y).map V.str))) → H2 p = some (.dK kvs) → tz D σ (upd H2 p (.dK (mergeK kvs ((ys.map kf).zip (as.map V.ref)))))) :
    tSeq (tDrop (tBM K "dict" rUpdate ta (tCons (tDc wi g tt tk tv ws) tNil))) tz D σ H :=
  ha H (Ex.refl H) _ fun H1 e1 => ⟨.inr (.inr (.inl ⟨rfl, .inl ⟨kvs, e1.at hp⟩⟩)), d_dcL (K := K) kf fl h hl hn hb H1 e1 _ fun r as H2 hr e2 hd2 hal han haf hat =>
    ⟨p, r, kvs, _, rfl, rfl, (fun z => by rw [← z, e1.at hp] at hr; cases hr), (e1.trans e2).at hp, hd2, sz_of (by
      rw [List.length_zip, List.length_map, List.length_map, hal]
      omega), q as H2 (e1.trans e2) hal han (fun b hb => e1.dom b (haf b hb).1) hat ((e1.trans e2).at hp)⟩⟩
/-! dict.update: what it comes to -/
theorem valV_A2 (kvs : List (Key × V)) (k : Key) : valV kvs k = getA kvs k := rfl
theorem valV_merge (k : Key) : ∀ (more kvs : List (Key × V)), (more.map (·.1)).Nodup → valV (mergeK kvs more) k = (valV more k).or (valV kvs k)
  | [], kvs, _ => rfl
  | e :: more, kvs, h => by
    rw [List.map_cons, List.nodup_cons] at h
    show valV (mergeK (putK kvs e.1 e.2) more) k = _
    rw [valV_merge k more _ h.2, valV_put]
    by_cases he : e.1 = k
    · rw [valV_pos he]
      have : valV more k = none := by
        rw [valV_A2, getA_none_iff, ← he]
        exact h.1
      rw [this, if_pos he.symm]
      rfl
    · rw [valV_neg he, if_neg (fun z => he z.symm)]
theorem keys_merge : ∀ (more kvs : List (Key × V)), (∀ e ∈ more, e.1 ∈ kvs.map (·.1)) → (mergeK kvs more).map (·.1) = kvs.map (·.1)
  | [], kvs, _ => rfl
  | e :: more, kvs, h => by
    show (mergeK (putK kvs e.1 e.2) more).map (·.1) = _
    have h1 : (putK kvs e.1 e.2).map (·.1) = kvs.map (·.1) := by
      rw [putK_A, putA_keys, if_pos (h e (List.mem_cons_self ..))]
    rw [keys_merge more _ fun e' he' => by rw [h1]; exact h e' (List.mem_cons_of_mem _ he'), h1]
theorem keys_merge_new : ∀ (more kvs : List (Key × V)), (more.map (·.1)).Nodup → (∀ e ∈ more, e.1 ∉ kvs.map (·.1)) → mergeK kvs more = kvs ++ more
  | [], kvs, _, _ => (List.append_nil _).symm
  | e :: more, kvs, hn, h => by
    rw [List.map_cons, List.nodup_cons] at hn
    show mergeK (putK kvs e.1 e.2) more = _
    have h1 : putK kvs e.1 e.2 = kvs ++ [e] := by
      rw [putK_A, putA_new (h e (List.mem_cons_self ..))]
    rw [h1, keys_merge_new more _ hn.2 fun e' he' => ?_, List.append_assoc]
    · rfl
    · rw [List.map_append, List.mem_append]
      rintro (q | q)
      · exact h e' (List.mem_cons_of_mem _ he') q
      · have : e'.1 = e.1 := by simpa using q
        exact hn.1 (by rw [← this]; exact List.mem_map.mpr ⟨e', he', rfl⟩)
/-! a walk of a new list, though old objects change -/
def NewK (K : Frag) (H H2 H' : Hp) : Prop := (∀ b o, H b = none → H2 b = some o → (∀ ps, o ≠ .tbl ps) → H' b = some o) ∧ Tx K H2 H'
theorem i_listW {α : Type} {ys : List α} {F : α → PyData} (h : EvLD K tl σ H (ys.map F)) : EvI K (NewK K H) (iList K tl) σ H ys F := fun H1 e1 R q => h H1 e1 _ fun p xs H2 hp e2 h2 hx2 => by
  refine ⟨p, rfl, ⟨xs, SqL.of h2⟩, q _ H2 e2 (fun H' => NewK K H H2 H') ⟨fun _ _ _ h _ => h, Tx.refl _⟩ (fun H' t => t) ?_⟩
  have hl : ys.length = xs.length := by rw [hx2.length, List.length_map]
  rw [hl]
  refine Walk.mono walk_list (fun H' t => SqL.of (t.1 p _ (e1.dom p hp) h2 (by intro ps z; cases z))) fun i H' x H'' hi t y => ?_
  obtain ⟨rfl, hx'⟩ := y
  obtain ⟨y, h1, h2⟩ := getF (hx2.tx t.2) hx'
  exact ⟨Ex.refl _, y, h1, h2⟩
/-! sorted by a key -/
theorem byKeys_dt {α : Type} {ys : List α} {F : α → PyData} {κ : α → Int} (hx : DtAll K H xs (ys.map F)) : DtAll K H (byKeys xs (ys.map κ)) ((ys.mergeSort fun x y => decide (κ x ≤ κ y)).map F) := by
  have hl : xs.length = ys.length := by rw [hx.length, List.length_map]
  have hz := zip_fst hl
  have e1 : xs.zip (ys.map κ) = (xs.zip ys).map fun p => (p.1, κ p.2) := by
    rw [List.zip_map_right]
    apply List.map_congr_left
    intro p _
    rfl
  have e2 : (xs.zip (ys.map κ)).mergeSort (fun x y => decide (x.2 ≤ y.2)) = ((xs.zip ys).mergeSort fun p q => decide (κ p.2 ≤ κ q.2)).map fun p => (p.1, κ p.2) := by
    rw [e1]
    exact (PySem.W.sort_maps (r := fun p q => decide (κ p.2 ≤ κ q.2)) (s := fun x y => decide (x.2 ≤ y.2)) (fun p : V × α => (p.1, κ p.2)) (fun a _ b _ => rfl)).symm
  have e3 : ys.mergeSort (fun x y => decide (κ x ≤ κ y)) = ((xs.zip ys).mergeSort fun p q => decide (κ p.2 ≤ κ q.2)).map fun p => p.2 := by
    have := PySem.W.sort_maps (l := xs.zip ys) (r := fun p q => decide (κ p.2 ≤ κ q.2)) (s := fun x y => decide (κ x ≤ κ y)) (fun p : V × α => p.2) (fun a _ b _ => rfl)
    rw [show (xs.zip ys).map (fun p => p.2) = ys from hz.2] at this
    exact this.symm
  unfold byKeys
  rw [e2, e3, List.map_map, List.map_map]
  have := dtall_of (K := K) (H := H) (ps := ((xs.zip ys).mergeSort fun p q => decide (κ p.2 ≤ κ q.2)).map fun p => (p.1, F p.2)) fun p hp => by
    obtain ⟨q, hq, rfl⟩ := List.mem_map.mp hp
    have hq' := (List.mergeSort_perm _ _).mem_iff.mp hq
    have h1 : (q.1, F q.2) ∈ xs.zip (ys.map F) := by
      rw [List.zip_map_right]
      exact List.mem_map.mpr ⟨q, hq', rfl⟩
    exact dtall_zip hx _ h1
  rw [List.map_map, List.map_map] at this
  exact this
theorem l_sortedKeyT {X : Cx} {tk : TA} {α : Type} {ys : List α} {F : α → PyData} {κ : α → Int} (hK : X.K = K) (h : EvD K te σ H (.tuple (ys.map F)))
    (hk : ∀ H1, Ex H H1 → ∀ xs, DtAll K H1 xs (ys.map F) → ∀ R : List V → Hp → Prop, (∀ q H2, Ex H1 H2 → KeyR X q H2 xs (ys.map κ) → R [.ref q] H2) → tk σ H1 R) : EvLD K (tCKw (rSortedKey X) (tCons te tNil) tk) σ H ((ys.mergeSort fun x y => decide (κ x ≤ κ y)).map F) := fun H1 e1 Q q =>
  h H1 e1 _ fun v H2 e2 t => by
    obtain ⟨a, xs, rfl, hs, hx⟩ := t.tup_inv
    refine hk H2 (e1.trans e2) xs hx _ fun r H3 e3 hr => ⟨a, r, xs, ys.map κ, rfl, rfl, .inr (by rw [hK]; exact ex_t e3 hs), by rw [hx.length, List.length_map, List.length_map], hr, fun p H4 e4 hp => q p _ _ (e2.dom p (e3.dom p (e4.dom p hp))) (((e2.trans e3).trans e4).trans (Ex.new hp)) upd_same ?_⟩
    exact byKeys_dt (((hx.ex e3).ex e4).ex (Ex.new hp))
end
end AS


set_option Elab.async false
set_option linter.all false
set_option maxRecDepth 100000
set_option maxHeartbeats 4000000
/-! Comprehensions of two clauses; a bound method as a value. -/
namespace AS
open PySem L2 LamX
open PySem.W (Frag)
open RT
variable [TabsOf]
section
variable {K : Frag} {σ : L2.St} {H : Hp} {te : TE} {α β : Type} {ys : List α} {F : α → PyData} {wi wi1 : TI} {g g1 : TG} {tt tt1 : TT} {ws ws1 : List Nat}
theorem flat_take {γ : Type} {f : α → List γ} {i : Nat} {y : α} (h : ys[i]? = some y) : (ys.take (i + 1)).flatMap f = (ys.take i).flatMap f ++ f y := by
  rw [List.take_add_one, h, List.flatMap_append]
  show _ ++ List.flatMap f [y] = _
  simp
theorem flat_take_len {γ : Type} {f : α → List γ} {i : Nat} : ((ys.take i).flatMap f).length ≤ (ys.flatMap f).length := by
  have e : ys = ys.take i ++ ys.drop i := (List.take_append_drop i ys).symm
  rw [congrArg (fun z => (List.flatMap f z).length) e, List.flatMap_append, List.length_append]
  omega
/-- what the inner clause gives of y -/
def sel2 (c : α → Bool) (zs : α → List β) (k1 : α → β → Bool) (f : α → β → PyData) (y : α) : List PyData := if c y = true then sel (k1 y) (f y) (zs y) else []
theorem l_lc2 (c : α → Bool) (zs : α → List β) (k1 : α → β → Bool) (f : α → β → PyData) (F1 : α → β → PyData) (h : EvI K Ex wi σ H ys F) (hz : ∀ y ∈ ys, (zs y).length ≤ 10000) (hl : (ys.flatMap (sel2 c zs k1 f)).length ≤ 30000)
    (hb : ∀ x y H1, Ex H H1 → y ∈ ys → Dt K H1 x (F y) → ∃ σ2, Reach g x (wipe σ ws) H1 σ2 ∧ wipe σ2 ws = wipe σ ws ∧ EvT tt σ2 H1 (c y) ∧ (c y = true → EvI K (Tx K) wi1 σ2 H1 (zs y) (F1 y) ∧ ∀ x' z H3, Ex H H3 → Tx K H1 H3 → z ∈ zs y → Dt K H3 x' (F1 y z) →
      ∃ σ3, Reach g1 x' (wipe σ2 ws1) H3 σ3 ∧ wipe σ3 ws1 = wipe σ2 ws1 ∧ EvT tt1 σ3 H3 (k1 y z) ∧ (k1 y z = true → EvD K te σ3 H3 (f y z)))) :
    EvLD K (tLc2 wi g tt wi1 g1 tt1 te ws ws1) σ H (ys.flatMap (sel2 c zs k1 f)) := fun H0 e0 Q q => h H0 e0 _ fun J H1 e1 G g1' g2 w D hD => by
  refine ⟨fun i m H' => m = ys.length - i ∧ i ≤ ys.length ∧ Lw K H1 D ((ys.take i).flatMap (sel2 c zs k1 f)) H', ⟨_, rfl, Nat.zero_le _, hD, Ex.new hD, [], upd_same, .nil⟩, ?_⟩
  rintro i m H' ⟨rfl, hi, lw⟩
  by_cases hlt : i < ys.length
  · refine .inr ⟨w.goes i H' hlt (g2 _ lw.2.1), fun H'' => i + 1 ≤ ys.length ∧ Lw K H1 D ((ys.take (i + 1)).flatMap (sel2 c zs k1 f)) H'', fun H'' r => ⟨ys.length - (i + 1), by omega, rfl, r⟩, fun x H'' hy => ?_⟩
    obtain ⟨ey, y, hy, ht⟩ := w.yields i H' x H'' hlt (g2 _ lw.2.1) hy
    have hyl := flat_take (f := sel2 c zs k1 f) hy
    have hyll := flat_take_len (ys := ys) (f := sel2 c zs k1 f) (i := i + 1)
    have lw2 := lw.ex ey
    obtain ⟨σ2, r1, r2, r3, r4⟩ := hb x y H'' ((e0.trans e1).trans lw2.2.1) (List.mem_of_getElem? hy) ht
    refine r1 _ ⟨r2, ?_⟩
    refine r3 H'' (Ex.refl _) _ fun H4 e4 => ?_
    have lw4 := lw2.ex e4
    cases hc : c y with
    | false =>
      rw [if_neg Bool.false_ne_true]
      refine ⟨hlt, ?_⟩
      rw [hyl]
      have : sel2 c zs k1 f y = [] := by
        unfold sel2
        rw [hc, if_neg Bool.false_ne_true]
      rw [this, List.append_nil]
      exact lw4
    | true =>
      rw [if_pos rfl]
      obtain ⟨hi1, hb1⟩ := r4 hc
      have hs2 : sel2 c zs k1 f y = sel (k1 y) (f y) (zs y) := by
        unfold sel2
        rw [hc, if_pos rfl]
      rw [hyl, hs2] at hyll ⊢
      refine hi1 H4 e4 _ fun J1 H5 e5 G1 h1 h2 w1 => ?_
      refine ⟨fun j k H6 => k = (zs y).length - j ∧ j ≤ (zs y).length ∧ Tx K H5 H6 ∧ Lw K H1 D ((ys.take i).flatMap (sel2 c zs k1 f) ++ sel (k1 y) (f y) ((zs y).take j)) H6, ⟨_, rfl, Nat.zero_le _, Tx.refl _, ?_⟩, ?_⟩
      · show Lw K H1 D (_ ++ []) H5
        rw [List.append_nil]
        exact lw4.ex e5
      rintro j k H6 ⟨rfl, hj, e6, lw6⟩
      by_cases hjl : j < (zs y).length
      · refine .inr ⟨w1.goes j H6 hjl (h2 _ e6), fun H7 => j + 1 ≤ (zs y).length ∧ Tx K H5 H7 ∧ Lw K H1 D ((ys.take i).flatMap (sel2 c zs k1 f) ++ sel (k1 y) (f y) ((zs y).take (j + 1))) H7, fun H7 r => ⟨(zs y).length - (j + 1), by omega, rfl, r⟩, fun x' H7 hz' => ?_⟩
        obtain ⟨e7, z, hzj, htz⟩ := w1.yields j H6 x' H7 hjl (h2 _ e6) hz'
        have lw7 := lw6.ex e7
        have tx7 := e6.trans (Tx.ex e7)
        obtain ⟨σ3, p1, p2, p3, p4⟩ := hb1 x' z H7 ((e0.trans e1).trans lw7.2.1) (((Tx.ex (e4.trans e5))).trans tx7) (List.mem_of_getElem? hzj) htz
        refine p1 _ ⟨p2, ?_⟩
        have hlen : ((ys.take i).flatMap (sel2 c zs k1 f) ++ sel (k1 y) (f y) ((zs y).take j)).length < 50000 := by
          have h1 := sel_len (k := k1 y) (f := f y) (ys := zs y) (i := j)
          have h2 := hz y (List.mem_of_getElem? hy)
          rw [List.length_append] at hyll ⊢
          omega
        refine p3 H7 (Ex.refl _) _ fun H8 e8 => ?_
        have hst := sel_take (k := k1 y) (f := f y) hzj
        cases hk : k1 y z with
        | true =>
          rw [if_pos rfl]
          refine p4 hk H8 e8 _ fun v H9 e9 hv => ?_
          obtain ⟨acc, a1, a2, a3⟩ := (lw7.ex (e8.trans e9)).snoc hv hlen
          refine ⟨acc, a1, a2, hjl, (tx7.trans (Tx.ex (e8.trans e9))).trans (Tx.lst a1), ?_⟩
          rw [hst, hk, if_pos rfl, ← List.append_assoc]
          exact a3
        | false =>
          rw [if_neg Bool.false_ne_true]
          refine ⟨hjl, tx7.trans (Tx.ex e8), ?_⟩
          rw [hst, hk, if_neg Bool.false_ne_true, List.append_nil]
          exact lw7.ex e8
      · have ej : j = (zs y).length := by omega
        subst ej
        rw [List.take_length] at lw6
        exact .inl ⟨w1.stops H6 (h2 _ e6), hlt, lw6⟩
  · have e : i = ys.length := by omega
    subst e
    rw [List.take_length] at lw
    obtain ⟨w0, w1, acc, w2, w3⟩ := lw
    exact .inl ⟨w.stops H' (g2 _ w1), q D acc H' (fresh_back e1 hD) (e1.trans w1) w2 w3⟩
theorem sel2_all {zs : α → List β} {f : α → β → PyData} : ys.flatMap (sel2 (fun _ => true) zs (fun _ _ => true) f) = ys.flatMap fun y => (zs y).map (f y) := by
  congr 1
  funext y
  unfold sel2
  rw [if_pos rfl, sel_all]
end
/-! ### o.m as a value -/
def tBnd (m : Str) (g : Addr) (C : Addr) (ta : TE) : TE := fun σ H Q => ta σ H fun x H1 => ∃ a dx fs, x = .ref a ∧ H1 a = some (.ins C dx fs) ∧ fs.lookup m = none ∧ ∀ q, H1 q = none → Q (.ref q) (upd H1 q (.met g a))
theorem pe_bnd {X : Cx} {o : Expr} {ta : TE} {m : Str} {g C : Addr} {pos : Pos} (ho : PE X o ta) (c : Cls X.K C) (k : BMeth X.K C m g) (hb : attributeBase o m X.env (eval o X.env) = eval o X.env := by rfl) : PE X (.Attribute o m pos) (tBnd m g C ta) := by
  refine ⟨fun pins s σ H Q I h => ?_⟩
  refine attr_of hb (thn (ho.run pins s σ H _ I h) fun u s1 ⟨x, H1, I1, rx, a, dx, fs, ex, ea, l, q⟩ => ?_)
  subst ex
  obtain rfl : u = Value.ref a := rx
  exact getbound_ok I1 ea c k l fun p s' hp I' => ⟨.ref p, _, I', rfl, q p hp⟩
end AS


set_option Elab.async false
set_option linter.all false
set_option maxRecDepth 100000
set_option maxHeartbeats 4000000
/-! More rules: sorted(d.values()), text * number, sorted(set(list of numbers)). -/
namespace AS
open PySem L2 LamX PySem.W PyProof.Rows
variable [TabsOf]

/-! ### sorted(d.values()) -/
section
variable {X : Cx} {pins : List (Addr × Obj)} {σ : L2.St} {H : Hp} {s : Shared}
def tSortVals (K : Frag) (td : TE) : TE := fun σ H Q => td σ H fun x H1 => ∃ a kvs ds, x = V.ref a ∧ H1 a = some (.dK kvs) ∧ DtAll K H1 (kvs.map (·.2)) ds ∧ AllAlike ds ∧ Sortable ds ∧ (∀ d ∈ ds, d.depth ≤ 32) ∧
  ∀ ys p, H1 p = none → DtAll K H1 ys (ds.mergeSort dle) → Q (.ref p) (upd H1 p (.lst ys))
theorem vals_kv : ∀ {kvs : List (Key × V)} {vs : List (Key × Value)}, KV kvs vs → Vals (kvs.map (·.2)) (vs.map (·.2)) := by
  intro kvs vs r
  unfold KV at r
  induction r with
  | nil => exact .nil
  | cons h t ih => exact .cons h.2 ih
theorem xSortVals (K : Frag) {o : Expr} {td : TE} {p pos apos mpos : Pos} {k : Nat} (hr : L2.Room k X.A) (B : Blt X.mg) (hd : PE X o td) (hK : X.K = K := by rfl) (hc : X.calm = true := by rfl) (hg : Gl X "sorted" := by rfl) (hbase : attributeBase o "values" X.env (eval o X.env) = eval o X.env := by rfl) (hline : (apos.endLine == mpos.line) = true := by rfl)
    (hse : starEach [Expr.Call (.Attribute o "values" apos) [] [] mpos] X.env = [(false, eval (Expr.Call (.Attribute o "values" apos) [] [] mpos) X.env)] := by rfl) :
    PE X (.Call (.Name "sorted" p) [.Call (.Attribute o "values" apos) [] [] mpos] [] pos) (tSortVals K td) := by
  subst hK
  refine ⟨fun pins s σ H Q I h => ?_⟩
  refine wpAny_Call_Name_kw (ld_blt I hg B.sorted (u := .builtin "sorted") (by decide +kernel) ?_ (by decide +kernel) (by decide +kernel)); rw [hse]
  refine PySem.callWith_builtin1 (wpAny_Call_method0_late hbase hline (thn (hd.run pins s σ H _ I h) fun v s1 ⟨x, H1, I1, r1, a, kvs, ds, ex, ha, hx, hal, hsk, hdp, q⟩ => ?_))
  subst ex; obtain rfl : v = Value.ref a := r1
  obtain ⟨hz, hsys, vs, rel, dof⟩ := dk_of I1.hok ha
  obtain ⟨ep, dat⟩ := dof.dictAt
  have dat' := dat; obtain ⟨ob, es, ho, ex, hdat, hko, hpr, hnd⟩ := dat'
  refine ⟨"dict", "dict.values", F.plainAttrs_dict, F.slot_dict_values, F.type_dict_values, ⟨ob, ho, ex.1⟩, fun b e => ?_, Calls.callWith_builtin rfl (PySem.evalArgs_none ?_)⟩
  · cases e; exact ⟨ob, ho, ex.2.1⟩
  refine call_meetsIn F.slot_dict_values ⟨ob, ho, ex.1⟩ F.entry_dict_values (F.args_dict_values_1 _) (meets_dict_values (mixKind X.prog X.w) a hsys) ⟨⟨vs, dof⟩, ?_⟩
  have I2 : L2.Inv X pins σ H1 { s1 with heap := s1.heap.push { cls := .type "dict_values", data := .fields #[.ref a] } } := I1.kept (t' := s1.toks) fun b u e => Heap.get?_push_of_some _ e
  have dat1 : (s1.heap.push { cls := .type "dict_values", data := .fields #[.ref a] }).DictAt (mixKind X.prog X.w) a vs ep := dat.keep fun b u e => Heap.get?_push_of_some _ e
  have hl : kvs.length = vs.length := L2.KV.length rel
  have src := kdl_values (prog := X.prog) (w := X.w) (knd := mixKind X.prog X.w) (r := s1.heap.objs.size) (d := a) (kvs := vs) (ep := ep)
  refine sortedD_core hc hr.units I2 (xs := kvs.map (·.2)) (its := vs.map (·.2)) (vals_kv rel) (by rw [List.length_map]; exact hz) ?_ hx hal hsk hdp q
  intro A E R hh hR
  refine kdu_collect src hh ⟨⟨_, Heap.get?_push_size _ rfl, rfl, rfl⟩, dat1⟩ (by rw [← hl]; exact hz) fun h' tk acc kp it => ?_
  obtain ⟨hs, hv⟩ := it
  have : acc.toList = vs.map (·.2) := kdl_vals_eq acc.toList (by simpa using hs) fun j v hj => hv j v (by simpa using hj)
  rw [this]
  refine hR h' tk kp ?_
  have hlt := Heap.lt_size (kp s1.heap.objs.size _ (Heap.get?_push_size _ rfl))
  show (s1.heap.push _).objs.size ≤ _
  rw [size_push']
  exact hlt
end
end AS


set_option Elab.async false
set_option linter.all false
set_option maxRecDepth 100000
set_option maxHeartbeats 4000000
/-! set(a list of numbers), sorted of it; text * 0 or 1. -/
namespace AS
open PySem PySem.Builtin L2 LamX PySem.W PyProof.Rows
variable [TabsOf]
/-- a new set as the model lays it -/
abbrev st0 (w : World) : Obj := { cls := .type "set", dict := none, data := .set #[] 0 (.fresh 0 0 (!w.params.followText "set-order")) }
section
variable {P : Program} {w : World} {A : Around} {E : Value → Shared → Prop} {s : Shared}
theorem call_setLI {l : Addr} {items : Array Value} (ns : List Int) {Q : Value → Shared → Prop} (hh : A.handled = none) (hl : s.heap.IsList l items) (hit : IntsAre items.toList ns) (hb : ns.length + 1 < scanBound)
    (h : ∀ (h' : Heap) (tk c : Nat), SetR w h' s.heap.objs.size (fun j => decide (j ∈ ns)) c → c ≤ ns.length → (∀ b o, s.heap.get? b = some o → h'.get? b = some o) → Q (.ref s.heap.objs.size) { s with heap := h', toks := tk }) : wpAny (model P w) A (call (.type "set") [.ref l]) Q E s := by
  have hisz : items.size = ns.length := (Array.length_toList (xs := items)).symm.trans (IntsAre.length hit)
  obtain ⟨c, tl, hmro⟩ := F.called_set.mro
  have g1 := F.called_set.made; have g2 := F.called_set.sub; have g3 := F.called_set.notType; have g4 := F.called_set.canCreate; have g5 := F.typeCall_set_1 (.ref l)
  refine wpAny_call (codeAny_of_tree ?_); show wpAny _ _ (callAny (.type "set") _) _ _ _
  refine wpAny_pure ⟨Code.quiet_builtin _ (by decide +kernel), codeAny_builtin PySem.F.entry_type_call ?_⟩; rw [Around.under_plain (weight_type_call_type "set" [.ref l] []) rfl]
  repeat (any_goals (first | assumption | wp_step))
  refine codeAny_mono (code_set_led1 (.ref l) (E := E) (Q₁ := fun obj s₁ => obj = .ref s.heap.objs.size ∧ s₁ = { s with heap := s.heap.push (st0 w) }) ⟨rfl, rfl⟩) fun r s₁ hr => ?_
  have no : ∀ {R : Prop}, False → R := fun z => z.elim
  cases r with
  | error e => exact hr
  | ok fl =>
    cases fl with
    | next => exact no hr
    | brk => exact no hr
    | cont => exact no hr
    | ret obj =>
      obtain ⟨rfl, rfl⟩ := hr
      have hS : (s.heap.push (st0 w)).get? s.heap.objs.size = some (st0 w) := Heap.get?_push_size _ rfl
      have hT : Shared.TypeIs { s with heap := s.heap.push (st0 w) } (.ref s.heap.objs.size) "set" := ⟨_, hS, rfl⟩
      have g6 := F.called_set.init.lookup; have g7 := F.called_set.init.bind (.ref s.heap.objs.size)
      repeat (any_goals (first | assumption | wp_step))
      refine codeAny_mono (codeAny_call_builtin (R := wants (fun r s₂ => r = .none ∧ ∃ h' tk c, s₂ = { s with heap := h', toks := tk } ∧ SetR w h' s.heap.objs.size (fun j => decide (j ∈ ns)) c ∧ c ≤ ns.length ∧ (∀ b o, s.heap.get? b = some o → h'.get? b = some o)) E) F.called_set.init.plain F.entry_set_init (check_set_init_1 hT ?_)) fun r₂ s₂ hr₂ => ?_
      · obtain ⟨⟨ocls, odict, odata, oslots⟩, hol, hcl, nl, hdl⟩ := hl
        simp only at hcl hdl; subst hcl; subst hdl
        have hol' : (s.heap.push (st0 w)).get? l = some { cls := .type "list", dict := odict, data := .seq items nl, slots := oslots } := Heap.get?_push_of_some _ hol
        have k1 := F.sub_list_set; have k2 := F.sub_list_frozenset
        have k3 : (Value.type "list" == Value.type "dict") = false := by decide
        have hl1 : (s.heap.push (st0 w)).IsList l items := ⟨_, hol', rfl, nl, rfl⟩
        unfold Builtin.«set.__init__» noKeywords Builtin.Frozenset.updateFrom
        generalize hPI : pyIter = PI; wp_walk; subst hPI
        refine wpAny_pyIter_list hl1 (wpAny_bind (wpAny_runValue ?_))
        have hlS : l < s.heap.objs.size := Heap.lt_size hol
        have sz : (s.heap.push (st0 w)).objs.size = s.heap.objs.size + 1 := Heap.size_push ..
        have hneI : l ≠ (s.heap.push (st0 w)).objs.size := by rw [sz]; exact Nat.ne_of_lt (Nat.lt_succ_of_lt hlS)
        have hSf : s.heap.objs.size ∉ [(s.heap.push (st0 w)).objs.size, l] := by
          rw [sz]; simp only [List.mem_cons, List.not_mem_nil, or_false, not_or]; exact ⟨Nat.ne_of_lt (Nat.lt_succ_self _), Nat.ne_of_gt hlS⟩
        have hval : ∀ (i : Nat) (v : Value), items[i]? = some v → ∃ k t, ns[i]? = some k ∧ v = .int k t := fun i v hv => by
          have hi : i < ns.length := by rw [← hisz]; exact (Array.getElem?_eq_some_iff.mp hv).1
          obtain ⟨t, e⟩ := IntsAre.int_at hit i v (by rw [Array.getElem?_toList]; exact hv)
          exact ⟨ns[i], t, List.getElem?_eq_getElem hi, by rw [e, List.getD_eq_getElem?_getD, List.getElem?_eq_getElem hi]; rfl⟩
        refine set_update_ints ((Walks.list (by simp [hh]) _ l hneI items).toS) s.heap.objs.size hSf ns hisz hb hval (items.size - 0) 0 _ (by omega) (Nat.zero_le _) ⟨⟨_, Heap.get?_push_size _ rfl, rfl, rfl⟩, (hl1.push _)⟩ ⟨0, Nat.le_refl 0, setR_new_at (Heap.get?_push_of_some _ hS)⟩ ?_
        rintro ⟨h', g2, d', tk', os'⟩ c' hm hc' hS'
        have eg : g2 = s.gens := hm.gens
        have ed : d' = s.drawn := hm.drawn
        have eo : os' = s.os := hm.os
        subst eg; subst ed; subst eo
        show wpAny _ _ _ _ _ _
        refine wpAny_pure ?_; show wpAny _ _ (ret Value.none) _ _ _
        rw [hisz] at hc'
        refine wpAny_pure ⟨rfl, h', tk', c', rfl, hS', hc', fun b o e => ?_⟩
        have hb0 : b < s.heap.objs.size := Heap.lt_size e
        refine hm.heap b o (fun q => ?_) (Heap.get?_push_of_some _ (Heap.get?_push_of_some _ e))
        simp only [List.mem_cons, List.not_mem_nil, or_false] at q
        rw [sz] at q
        rcases q with z | z
        · exact absurd z (Nat.ne_of_lt hb0)
        · exact absurd z (Nat.ne_of_lt (Nat.lt_succ_of_lt hb0))
      · cases r₂ with
        | error e => exact hr₂
        | ok fl₂ =>
          cases fl₂ with
          | next => exact no hr₂
          | brk => exact no hr₂
          | cont => exact no hr₂
          | ret r =>
            obtain ⟨rfl, h', tk, c', rfl, hS', hc', hk'⟩ := hr₂
            repeat (any_goals (first | assumption | wp_step))
            exact h _ _ _ hS' hc' hk'
end
section
variable {X : Cx} {pins : List (Addr × Obj)} {σ : L2.St} {H : Hp} {s : Shared}
/-- set(l), l a list of numbers -/
def rSetLI (K : Frag) (w : World) : List V → Hp → VK → Prop := fun xs H Q => ∃ (a : Addr) (ns : List Int), xs = [.ref a] ∧ SqL K H a (ns.map V.int) ∧ ns.length + 1 < scanBound ∧ ∀ p c, H p = none → c ≤ ns.length → Q (.ref p) (upd H p (SetO w p (fun j => decide (j ∈ ns)) c))
theorem ints_of_vals : ∀ {ns : List Int} {us : List Value}, Vals (ns.map V.int) us → IntsAre us ns
  | [], _, .nil => .nil
  | n :: ns, _, .cons r t => by
    obtain ⟨k, rfl⟩ := r
    exact .cons n k (ints_of_vals t)
theorem cr_setLI (hc : X.calm = true) : CallR X (.type "set") (rSetLI X.K X.w) := by
  intro pins s σ H xs us Q I r h
  obtain ⟨a, ns, rfl, hs, hb, q⟩ := h
  obtain rfl := Vals.ref1 r
  obtain ⟨its, rv, pl, hz⟩ := I.list hs
  refine call_setLI ns (I.ok.hd hc) pl.isList (by simpa using ints_of_vals rv) hb fun h' tk c R hcn kp => ?_
  exact ⟨.ref _, _, I.laid (t' := tk) kp (Nat.le_refl _) (setO_new R), rfl, q _ c (I.hok.fresh (Nat.le_refl _)) hcn⟩
theorem xSetLI (K : Frag) {e : Expr} {te : TE} {p pos : Pos} (B : Blt X.mg) (ha : PE X e te) (hK : X.K = K := by rfl) (hc : X.calm = true := by rfl) (hg : Gl X "set" := by rfl) (hs : starEach [e] X.env = (false, eval e X.env) :: starEach [] X.env := by rfl) : PE X (.Call (.Name "set" p) [e] [] pos) (tCB (rSetLI K X.w) (tCons te tNil)) := by
  subst hK
  exact pe_callTy (cr_setLI hc) hg B.set (by decide +kernel) (pa_cons ha pa_nil hs) (he := hs)
theorem xSortedSet {e : Expr} {te : TE} {p pos : Pos} (B : Blt X.mg) (ha : PE X e te) (hc : X.calm = true := by rfl) (hg : Gl X "sorted" := by rfl) (hs : starEach [e] X.env = (false, eval e X.env) :: starEach [] X.env := by rfl) : PE X (.Call (.Name "sorted" p) [e] [] pos) (tCB (rSortedSet X.w) (tCons te tNil)) :=
  pe_callB (cr_sortedSet hc) hg B.sorted (by decide +kernel) (pa_cons ha pa_nil hs) (he := hs)
/-- text * n, n 0 or 1 -/
def rMulS : R2 := fun x y H Q => ∃ (a : Str) (n : Int), x = .str a ∧ y = .int n ∧ ((n = 0 ∧ Q (.str Str.empty) H) ∨ (n = 1 ∧ Q (.str a) H))
theorem op_mulS : OpR X (binaryOp .Mult) rMulS := by
  intro pins s σ H x y v u Q I rx ry h
  obtain ⟨a, n, rfl, rfl, h⟩ := h
  obtain ⟨t, rfl⟩ := rx
  obtain ⟨t2, rfl⟩ := ry
  rcases h with ⟨rfl, q⟩ | ⟨rfl, q⟩
  · exact PySem.P.mul_str_none (by decide) (by decide) ⟨.str Str.empty, H, I.tok _, ⟨_, rfl⟩, q⟩
  · refine PySem.P.mul_str (by decide) (fun _ z => absurd z (by simp)) (fun _ z => absurd z (by simp)) ?_
    rw [if_neg (by decide), if_pos (by simp)]
    exact ⟨.str a, H, I, ⟨_, rfl⟩, q⟩
theorem xMulS {a b : Expr} {ta tb : TE} {pos : Pos} (ha : PE X a ta) (hb : PE X b tb) : PE X (.BinOp a .Mult b pos) (tOp rMulS ta tb) := pe_op op_mulS ha hb
end
section
variable {K : Frag} {σ : L2.St} {H : Hp} {ta tb te : TE}
theorem d_mulS {a : Str} {n : Int} (ha : EvD K ta σ H (.str a)) (hb : EvD K tb σ H (.int n)) (hn : n = 0 ∨ n = 1) : EvD K (tOp rMulS ta tb) σ H (.str (if n = 0 then Str.empty else a)) := d_op ha hb fun u v H1 _ t t' Q q => by
  refine ⟨a, n, t.str_inv, t'.int_inv, ?_⟩
  rcases hn with rfl | rfl
  · exact .inl ⟨rfl, q _ H1 (Ex.refl _) (.str _)⟩
  · exact .inr ⟨rfl, q _ H1 (Ex.refl _) (.str _)⟩
/-- sorted(set(l)): the numbers, each once, rising -/
theorem l_sortedSet {w : World} {ns : List Int} (h : EvLD K te σ H (ns.map .int)) (hl : ns.length < 64) (H1 : Hp) (e1 : Ex H H1) (Q : VK)
    (q : ∀ (ms : List Int) (p : Addr) (vs : List V) (H2 : Hp), ms.Pairwise (· < ·) → (∀ k, k ∈ ms ↔ k ∈ ns) → H1 p = none → Ex H1 H2 → H2 p = some (.lst vs) → DtAll K H2 vs (ms.map .int) → Q (.ref p) H2) :
    tCB (rSortedSet w) (tCons (tCB (rSetLI K w) (tCons te tNil)) tNil) σ H1 Q :=
  h H1 e1 _ fun p vs H2 hp e2 h2 hx => by
    obtain rfl := hx.ints_inv
    refine ⟨p, ns, rfl, SqL.of h2, by unfold scanBound; omega, fun r c hr hc => ⟨r, _, c, rfl, upd_same, by omega, fun ms t hm hk hl2 ht => ?_⟩⟩
    refine q ms t _ _ hm (fun k => (hk k).trans decide_eq_true_iff) ?_ ((e2.trans (Ex.new hr)).trans (Ex.new ht)) upd_same (.ints ms)
    exact e2.dom t ((Ex.new hr).dom t ht)
end
end AS


set_option Elab.async false
set_option linter.all false
set_option maxRecDepth 100000
set_option maxHeartbeats 4000000
/-! Dicts that grow: d[k] = v; a new dict as written; a list taken apart by names; the order of data. -/
namespace AS
open PySem L2 LamX
open PySem.W (Frag)
open RT PySem.W
variable [TabsOf]
section
variable {K : Frag} {σ : L2.St} {H : Hp} {ta tb td tk tv te : TE} {d e : PyData} {k : Key} {p : Addr} {kvs : List (Key × V)} {es : List (Key × PyData)} {D : Ends} {tz : TS}
theorem s_dputV (ht : Ev td σ H (.ref p)) (hp : H p = some (.dK kvs)) (hl : kvs.length < 40000) (hk : EvD K tk σ H (kD k)) (hv : EvD K tv σ H d) (c : ∀ v H1, Ex H H1 → Dt K H1 v d → H1 p = some (.dK kvs) → D.nx σ (upd H1 p (.dK (putK kvs k v)))) : sDPut td tk tv D σ H :=
  hv H (Ex.refl H) _ fun v H1 e1 t => ht H1 e1 _ fun H2 e2 => hk H2 (e1.trans e2) _ fun y H3 e3 ty => by
    have e13 := (e1.trans e2).trans e3
    rw [dt_kD ty]
    exact ⟨p, _, rfl, DPut.k (e13.at hp) (sz_lt (by omega)), c v H3 e13 ((t.ex e2).ex e3) (e13.at hp)⟩
theorem q_dputV (ht : Ev td σ H (.ref p)) (hp : H p = some (.dK kvs)) (hl : kvs.length < 40000) (hk : EvD K tk σ H (kD k)) (hv : EvD K tv σ H d) (c : ∀ v H1, Ex H H1 → Dt K H1 v d → H1 p = some (.dK kvs) → tz D σ (upd H1 p (.dK (putK kvs k v)))) : tSeq (sDPut td tk tv) tz D σ H := s_dputV (D := { D with nx := tz D }) ht hp hl hk hv c
theorem d_getRd (ha : Ev ta σ H (.ref p)) (hb : EvD K tb σ H (kD k)) (hd : Rd H p (.dK kvs)) (hk : KAll K H kvs es) (hg : getA es k = some d) : EvD K (tDGet ta tb) σ H d := fun H1 e1 Q q =>
  ha H1 e1 _ fun H2 e2 => hb H2 (e1.trans e2) _ fun v H3 e3 t => by
    have e13 := (e1.trans e2).trans e3
    rcases (hk.tx (Tx.ex e13)).get (k := k) with ⟨h1, _⟩ | ⟨v', d', h1, h2, h3⟩
    · rw [hg] at h1
      cases h1
    · rw [hg] at h1
      cases h1
      refine ⟨p, v', rfl, ?_, q _ H3 (e2.trans e3) h3⟩
      rw [dt_kD t, ← h2]
      exact .inl ⟨kvs, k, ex_rd e13 hd, rfl, rfl⟩
/-- {} goes to a name -/
theorem q_asgD0 {i : Nat} (c : ∀ p, H p = none → tz D (σ.set i (some (.ref p))) (upd H p (.dK []))) : tSeq (tAsg tDNewK (gName i)) tz D σ H := fun p hp => c p hp
/-- {k: v} goes to a name -/
theorem q_asgD1 {i : Nat} (hk : ∀ H1, Ex H H1 → EvD K tk σ H1 (kD k)) (hv : ∀ H1, Ex H H1 → EvD K tv σ H1 d) (c : ∀ p v H1, H p = none → Ex H H1 → Dt K H1 v d → H1 p = some (.dK [(k, v)]) → tz D (σ.set i (some (.ref p))) H1) : tSeq (tAsg (tDisp [(tk, tv)]) (gName i)) tz D σ H := fun p hp => by
  have e0 : Ex H (upd H p (.dK [])) := Ex.new hp
  refine hk _ e0 _ (Ex.refl _) _ fun y H1 e1 ty => hv H1 (e0.trans e1) _ (Ex.refl _) _ fun v H2 e2 t => ?_
  have h2 : H2 p = some (.dK []) := (e1.trans e2).at upd_same
  refine ⟨h2, [(k, v)], by rw [dt_kD ty]; rfl, (show 1 ≤ 15 by decide), ?_⟩
  have e3 : Ex H (upd H2 p (.dK [(k, v)])) := (e0.trans (e1.trans e2)).mut hp (by rw [h2]; exact trivial)
  exact c p v _ hp e3 (t.tx (Tx.dk h2 _)) upd_same
end
theorem pg_tupL (K : Frag) {X : Cx} {ts : List Expr} {k n : Nat} {tt : TGs} {pos : Pos} (h : PGs X ts tt) (hK : X.K = K := by rfl) (hc : X.calm = true := by rfl) (hn : (assignEach ts X.env).length = n := by rfl) (hst : (assignEach ts X.env).findIdx? (·.1) = none := by rfl) : PG X (.Tuple ts k pos) (gUnl K n tt) := by
  subst hK
  exact pg_unl hc h hn hst
/-! ### the order of data -/
theorem dle_total : PySem.W.TotalLe dle := PySem.W.sortLe_total (PyProof.Rows.listOrd PyProof.Rows.itemOrd) false (fun x : PyData => PySem.W.keyToks x)
theorem dle_sorted (ds : List PyData) : (ds.mergeSort dle).Pairwise fun a b => dle a b = true := PySem.W.sort_pairwise dle_total ds
theorem dle_def (x y : PyData) : dle x y = !dataLt y x := rfl
theorem dle_cons_int {a b : Int} {xs ys : List PyData} (h : dle (.tuple (.int a :: xs)) (.tuple (.int b :: ys)) = true) : a ≤ b := by
  rw [dle_def, dataLt_tuple, PySem.W.dataLt_cons (by simp [alike])] at h
  by_cases e : PyData.eqv (.int b) (.int a) = true
  · have : b = a := by simpa [PyData.eqv] using e
    omega
  · rw [if_neg e, dataLt_int] at h
    simp at h
    exact h
theorem dle_cons_str {a b : Str} {xs ys : List PyData} (h : dle (.tuple (.str a :: xs)) (.tuple (.str b :: ys)) = true) : dle (.str a) (.str b) = true := by
  rw [dle_def, dataLt_tuple, PySem.W.dataLt_cons (by simp [alike])] at h
  by_cases e : PyData.eqv (.str b) (.str a) = true
  · have : b = a := by simpa [PyData.eqv] using e
    subst this
    have := dle_total.total (.str b) (.str b)
    simpa using this
  · rw [if_neg e] at h
    exact h
end AS
/-! ### dict([(k, v), ..]) -/
namespace AS
open PySem L2 LamX
open PySem.W (Frag)
open RT
variable [TabsOf]
section
variable {K : Frag} {H : Hp}
theorem kall_fold {more : List (Key × V)} {em : List (Key × PyData)} (h : KAll K H more em) : ∀ {kvs : List (Key × V)} {es : List (Key × PyData)}, KAll K H kvs es → KAll K H (mergeK kvs more) (em.foldl (fun acc e => putA acc e.1 e.2) es) := by
  induction h with
  | nil => intro kvs es a; exact a
  | cons h r ih => intro kvs es a; exact ih (a.put h)
theorem pairs_dt {α : Type} {kf : α → Key} {F : α → PyData} : ∀ {ys : List α} {vs : List V}, DtAll K H vs (ys.map fun y => .tuple [kD (kf y), F y]) → ∃ (ps : List Addr) (kvs : List (Key × V)), vs = ps.map V.ref ∧ Paired (fun p kv => SqT K H p [kV kv.1, kv.2]) ps kvs ∧ KAll K H kvs (ys.map fun y => (kf y, F y)) ∧ kvs.length = ys.length
  | [], vs, h => by
    obtain rfl := h.nil_inv
    exact ⟨[], [], rfl, .nil, .nil, rfl⟩
  | y :: ys, vs, h => by
    obtain ⟨v, us, rfl, hv, hu⟩ := h.cons_inv
    obtain ⟨ps, kvs, rfl, h1, h2, h3⟩ := pairs_dt (kf := kf) (F := F) hu
    obtain ⟨a, xs, rfl, hs, hx⟩ := hv.tup_inv
    obtain ⟨k, r, rfl, hk, hx⟩ := hx.cons_inv
    obtain ⟨u, r, rfl, hu', hx⟩ := hx.cons_inv
    obtain rfl := hx.nil_inv
    rw [dt_kD hk] at hs
    exact ⟨a :: ps, (kf y, u) :: kvs, rfl, .cons hs h1, .cons hu' h2, congrArg (· + 1) h3⟩
end
def rDictP (K : Frag) : List V → Hp → VK → Prop := fun xs H Q => ∃ (a : Addr) (ps : List Addr) (kvs : List (Key × V)), xs = [.ref a] ∧ SqL K H a (ps.map V.ref) ∧ Paired (fun p kv => SqT K H p [kV kv.1, kv.2]) ps kvs ∧ ∀ p, H p = none → Q (.ref p) (upd H p (.dK (mergeK [] kvs)))
theorem xDict (K : Frag) {X : Cx} {e : Expr} {te : TE} {p pos : Pos} (B : Blt X.mg) (ha : PE X e te) (hK : X.K = K := by rfl) (hc : X.calm = true := by rfl) (hg : Gl X "dict" := by rfl) (hs : starEach [e] X.env = (false, eval e X.env) :: starEach [] X.env := by rfl) : PE X (.Call (.Name "dict" p) [e] [] pos) (tCB (rDictP K) (tCons te tNil)) := by
  subst hK
  exact pe_callTy (call_dictP hc) hg B.dict (by decide +kernel) (pa_cons ha pa_nil hs) (he := hs)
theorem d_dictP {K : Frag} {te : TE} {σ : L2.St} {H : Hp} {α : Type} {ys : List α} {kf : α → Key} {F : α → PyData} (h : EvLD K te σ H (ys.map fun y => .tuple [kD (kf y), F y])) : EvDD K (tCB (rDictP K) (tCons te tNil)) σ H (mkA (ys.map fun y => (kf y, F y))) := fun H1 e1 Q q =>
  h H1 e1 _ fun p vs H2 hp e2 h2 hx => by
    obtain ⟨ps, kvs, rfl, h3, h4, _⟩ := pairs_dt (kf := kf) (F := F) hx
    exact ⟨p, ps, kvs, rfl, SqL.of h2, h3, fun r hr => q r _ _ (e2.dom r hr) (e2.trans (Ex.new hr)) upd_same (kall_fold (h4.tx (Tx.new hr)) .nil)⟩
end AS


/-! The lore as functions, and what the program's defs compute of it (mirrors). Plain Lean. -/
namespace AS
/-- who is here, in the rows' order; when each came, last looked, whom they saw -/
structure Lore (α : Type) where
  N : List α
  c : α → Int
  l : α → Int
  s : α → α
section
variable {α : Type} [DecidableEq α]
/-- first occurrences -/
def keysOf (xs : List α) : List α := xs.foldl (fun acc x => if x ∈ acc then acc else acc ++ [x]) []
/-- names that were seen and aren't here, sorted -/
def Lore.goneU (L : Lore α) (hd : α) : List α := (keysOf ((L.N.map L.s).filter fun x => !decide (x = hd))).filter fun x => !decide (x ∈ L.N)
def Lore.gone (L : Lore α) (hd : α) (le : α → α → Bool) : List α := (L.goneU hd).mergeSort le
/-- a clash -/
inductive Clash (α : Type) where
  | late (x : α)
  | ring (xs : List α)
  | between (xs : List α)
def Lore.cameOr (L : Lore α) (x : α) : Int := if x ∈ L.N then L.c x else 0
def Lore.lateClash (L : Lore α) : Option (Clash α) := (L.N.find? fun x => decide (L.l x < L.cameOr (L.s x))).map .late
/-- from a name on, whom each saw, until one isn't here or was met -/
def Lore.roundFrom (L : Lore α) : Nat → List α → α → List α × α
  | 0, met, x => (met, x)
  | n + 1, met, x => if x ∈ L.N ∧ x ∉ met then L.roundFrom n (met ++ [x]) (L.s x) else (met, x)
def Lore.ringAt (L : Lore α) (x : α) : Option (List α) :=
  let r := L.roundFrom (L.N.length + 1) [] x
  if r.2 ∈ r.1 then some (r.1.drop (r.1.idxOf r.2)) else none
def Lore.ringClash (L : Lore α) : Option (Clash α) := (L.N.findSome? L.ringAt).map .ring
/-- from one who saw somebody, each by whom the next one saw them, to a name -/
def Lore.stepsUp (L : Lore α) (seen : α) : Nat → List α → α → List α
  | 0, found, _ => found
  | n + 1, found, x => if L.s x = seen then found else L.stepsUp seen n (found ++ [L.s x]) (L.s x)
def Lore.stepsTo (L : Lore α) (x seen : α) : List α := (L.stepsUp seen (L.N.length + 1) [x] x).reverse
/-- the blocks while they are glued: the key of each one's block, each key's names, the told looks, a clash -/
structure Glue (α : Type) where
  own : α → α
  cont : α → List α
  glued : List (α × α × α)
  clash : Option (Clash α)
def setF {β : Type} (f : α → β) (x : α) (b : β) : α → β := fun y => if y = x then b else f y
def Lore.behind (L : Lore α) (g : Glue α) (y : α) : List α :=
  let b := g.cont (g.own y)
  if y ∈ L.N then b.drop (b.idxOf y + 1) else b
def Lore.put (L : Lore α) (g : Glue α) (x : α) : Glue α :=
  let y := L.s x
  let b := g.cont (g.own y)
  match (L.behind g y).find? fun o => decide (L.c o < L.l x) with
  | some o => { g with clash := some (.between (x :: L.stepsTo o y)) }
  | none =>
    let m := g.cont (g.own x)
    { own := fun z => if z ∈ m then g.own y else g.own z, cont := setF g.cont (g.own y) (b ++ m), glued := g.glued ++ [(x, y, b.getLast?.getD y)], clash := none }
def Lore.glue0 (L : Lore α) : Glue α := { own := id, cont := fun x => if x ∈ L.N then [x] else [], glued := [], clash := L.lateClash.or L.ringClash }
/-- the latest look first -/
def Lore.byLook (L : Lore α) : List α := L.N.mergeSort fun x y => decide (-(L.l x) ≤ -(L.l y))
def Lore.glue (L : Lore α) : Glue α := L.byLook.foldl (fun g x => if g.clash.isNone then L.put g x else g) L.glue0
end
end AS


/-! Quiet by places, and the three deeds that keep it. Plain Lean. -/
namespace AS
section
variable {α : Type}
/-- somebody who isn't here, nor the head -/
def Gone (here : α → Prop) (hd g : α) : Prop := g ≠ hd ∧ ¬ here g
/-- f is the last of those here who look where f looks -/
def Lst (here : α → Prop) (l : α → Int) (s : α → α) (f : α) : Prop := ∀ v, here v → s v = s f → l v ≤ l f
structure Qt (here : α → Prop) (pos : α → Nat) (c l : α → Int) (s : α → α) (hd : α) : Prop where
  hh : ¬ here hd
  inj : ∀ x y, here x → here y → pos x = pos y → x = y
  cl : ∀ x, here x → c x ≤ l x
  q1 : ∀ z, here z → here (s z) → pos (s z) < pos z ∧ c (s z) ≤ l z ∧ (∀ w, here w → pos (s z) < pos w → pos w < pos z → l z < c w) ∧
    ∀ f v, here f → Gone here hd (s f) → Lst here l s f → pos (s z) < pos f → pos f < pos z → here v → s v = s f → l z < l v
  q2 : ∀ z, here z → s z = hd → (∀ w, here w → pos w < pos z → l z < c w) ∧ ∀ f v, here f → Gone here hd (s f) → Lst here l s f → pos f < pos z → here v → s v = s f → l z < l v
  q3 : ∀ z f, here z → Gone here hd (s z) → here f → Lst here l s f → s f = s z → (f = z ∨ pos f < pos z) ∧ (∀ w, here w → (w = f ∨ pos f < pos w) → pos w < pos z → l z < c w) ∧
    ∀ f' v, here f' → Gone here hd (s f') → s f' ≠ s z → Lst here l s f' → pos f < pos f' → pos f' < pos z → here v → s v = s f' → l z < l v
variable {here : α → Prop} {pos pos' : α → Nat} {c l : α → Int} {s : α → α} {hd x y : α} {n : Int}
theorem Qt.repos (q : Qt here pos c l s hd) (h : ∀ a b, here a → here b → (pos a < pos b ↔ pos' a < pos' b)) : Qt here pos' c l s hd where
  hh := q.hh
  inj := fun x y hx hy e => q.inj x y hx hy (by
    have h1 := h x y hx hy
    have h2 := h y x hy hx
    omega)
  cl := q.cl
  q1 := fun z hz hs => by
    obtain ⟨h1, h2, h3, h4⟩ := q.q1 z hz hs
    exact ⟨(h _ _ hs hz).mp h1, h2, fun w hw a b => h3 w hw ((h _ _ hs hw).mpr a) ((h _ _ hw hz).mpr b), fun f v hf g F a b => h4 f v hf g F ((h _ _ hs hf).mpr a) ((h _ _ hf hz).mpr b)⟩
  q2 := fun z hz hs => by
    obtain ⟨h3, h4⟩ := q.q2 z hz hs
    exact ⟨fun w hw b => h3 w hw ((h _ _ hw hz).mpr b), fun f v hf g F b => h4 f v hf g F ((h _ _ hf hz).mpr b)⟩
  q3 := fun z f hz g hf F e => by
    obtain ⟨h1, h2, h3⟩ := q.q3 z f hz g hf F e
    exact ⟨h1.imp id fun a => (h _ _ hf hz).mp a, fun w hw a b => h2 w hw (a.imp id fun a => (h _ _ hf hw).mpr a) ((h _ _ hw hz).mpr b), fun f' v hf' g' ne F' a b => h3 f' v hf' g' ne F' ((h _ _ hf hf').mpr a) ((h _ _ hf' hz).mpr b)⟩
/-- only what those here bear counts -/
theorem Qt.congr {here' : α → Prop} {c' l' : α → Int} {s' : α → α} (q : Qt here pos c l s hd) (h : ∀ z, here' z ↔ here z) (h1 : ∀ z, here z → c' z = c z) (h2 : ∀ z, here z → l' z = l z) (h3 : ∀ z, here z → s' z = s z) : Qt here' pos c' l' s' hd := by
  have e : here' = here := funext fun z => propext (h z)
  subst e
  have F : ∀ f, here' f → Lst here' l' s' f → Lst here' l s f := fun f hf F v hv e => by
    have := F v hv (by rw [h3 v hv, h3 f hf]; exact e)
    rw [h2 v hv, h2 f hf] at this
    exact this
  refine ⟨q.hh, q.inj, fun x hx => by rw [h1 x hx, h2 x hx]; exact q.cl x hx, fun z hz hs => ?_, fun z hz hs => ?_, fun z f hz g hf Ff e => ?_⟩
  · rw [h3 z hz] at hs ⊢
    obtain ⟨a1, a2, a3, a4⟩ := q.q1 z hz hs
    rw [h1 _ hs, h2 z hz]
    refine ⟨a1, a2, fun w hw a b => by rw [h1 w hw]; exact a3 w hw a b, fun f v hf g Ff a b hv e => ?_⟩
    rw [h2 v hv]
    rw [h3 f hf] at g e
    rw [h3 v hv] at e
    exact a4 f v hf g (F f hf Ff) a b hv e
  · rw [h3 z hz] at hs
    obtain ⟨a3, a4⟩ := q.q2 z hz hs
    rw [h2 z hz]
    refine ⟨fun w hw b => by rw [h1 w hw]; exact a3 w hw b, fun f v hf g Ff b hv e => ?_⟩
    rw [h2 v hv]
    rw [h3 f hf] at g e
    rw [h3 v hv] at e
    exact a4 f v hf g (F f hf Ff) b hv e
  · rw [h3 z hz] at g e
    rw [h3 f hf] at e
    obtain ⟨a1, a2, a3⟩ := q.q3 z f hz g hf (F f hf Ff) e
    rw [h2 z hz]
    refine ⟨a1, fun w hw a b => by rw [h1 w hw]; exact a2 w hw a b, fun f' v hf' g' ne Ff' a b hv e' => ?_⟩
    rw [h2 v hv]
    rw [h3 f' hf'] at g' e' ne
    rw [h3 z hz] at ne
    rw [h3 v hv] at e'
    exact a3 f' v hf' g' ne (F f' hf' Ff') a b hv e'
variable [DecidableEq α]
/-- whom x sees: the one next ahead, or the head -/
def Pred (here : α → Prop) (pos : α → Nat) (hd x y : α) : Prop := (y = hd ∧ ∀ w, here w → w ≠ x → pos x < pos w) ∨ (here y ∧ y ≠ x ∧ pos y < pos x ∧ ∀ w, here w → w ≠ x → pos w ≤ pos y ∨ pos x < pos w)
theorem Pred.not_gone (h : Pred here pos hd x y) : ¬ Gone here hd y := by
  rintro ⟨g1, g2⟩
  rcases h with ⟨h, _⟩ | ⟨h, _⟩
  · exact g1 h
  · exact g2 h
/-- x looks -/
theorem Qt.look (q : Qt here pos c l s hd) (hx : here x) (hy : Pred here pos hd x y) (hn : ∀ z, here z → l z < n) : Qt here pos c (fun z => if z = x then n else l z) (fun z => if z = x then y else s z) hd := by
  have ng := hy.not_gone
  -- who looks at a gone one now isn't x
  have nx : ∀ f, Gone here hd (if f = x then y else s f) → f ≠ x := fun f g e => by
    rw [if_pos e] at g
    exact ng g
  -- the last one of now: of then, or x was the last one
  have last : ∀ f, here f → f ≠ x → Gone here hd (s f) → Lst here (fun z => if z = x then n else l z) (fun z => if z = x then y else s z) f → Lst here l s f ∨ (s x = s f ∧ l f < l x ∧ Lst here l s x) := fun f hf hfx g F => by
    by_cases h : Lst here l s f
    · exact .inl h
    · have h' : ∃ v, here v ∧ s v = s f ∧ l f < l v := Classical.byContradiction fun no => h fun v hv e => by
        apply Int.not_lt.mp
        intro lt
        exact no ⟨v, hv, e, lt⟩
      obtain ⟨v, hv, e, lt⟩ := h'
      have hvx : v = x := Classical.byContradiction fun ne => by
        have := F v hv (by simp only [if_neg ne, if_neg hfx]; exact e)
        simp only [if_neg ne, if_neg hfx] at this
        omega
      subst hvx
      refine .inr ⟨e, lt, fun u hu e2 => ?_⟩
      by_cases hux : u = v
      · rw [hux]
        exact Int.le_refl _
      · have := F u hu (by simp only [if_neg hux, if_neg hfx]; rw [e2]; exact e)
        simp only [if_neg hux, if_neg hfx] at this
        omega
  refine ⟨q.hh, q.inj, fun z hz => ?_, fun z hz hs => ?_, fun z hz hs => ?_, fun z f hz g hf F e => ?_⟩
  · show c z ≤ if z = x then n else l z
    have := q.cl z hz
    have := hn z hz
    split <;> omega
  · by_cases hzx : z = x
    · subst hzx
      simp only [if_true] at hs ⊢
      rcases hy with ⟨rfl, _⟩ | ⟨h1, h2, h3, h4⟩
      · exact absurd hs q.hh
      · have b : ∀ w, here w → pos y < pos w → ¬ pos w < pos z := fun w hw a a2 => by
          have hne : w ≠ z := fun e => by rw [e] at a2; omega
          rcases h4 w hw hne with h | h <;> omega
        refine ⟨h3, ?_, fun w hw a a2 => absurd a2 (b w hw a), fun f v hf _ _ a a2 => absurd a2 (b f hf a)⟩
        have := q.cl y h1
        have := hn y h1
        omega
    · simp only [if_neg hzx] at hs ⊢
      obtain ⟨a1, a2, a3, a4⟩ := q.q1 z hz hs
      refine ⟨a1, a2, a3, fun f v hf g F a b hv e => ?_⟩
      have hfx := nx f g
      rw [if_neg hfx] at g e
      have hvx : v ≠ x := fun z => by
        rw [if_pos z] at e
        exact ng (e ▸ g)
      rw [if_neg hvx] at e ⊢
      rcases last f hf hfx g F with o | ⟨e1, lt, o⟩
      · exact a4 f v hf g o a b hv e
      · obtain ⟨b1, b2, b3⟩ := q.q3 f x hf g hx o e1
        have hxf : pos x < pos f := b1.resolve_left fun z => hfx z.symm
        by_cases hp : pos (s z) < pos x
        · exact a4 x v hx (e1 ▸ g) o hp (by omega) hv (e.trans e1.symm)
        · exfalso
          have hw : s z = x ∨ pos x < pos (s z) := by
            by_cases h : pos x < pos (s z)
            · exact .inr h
            · exact .inl (q.inj _ _ hs hx (by omega))
          have k1 := b2 (s z) hs hw a
          have k2 := a3 f hf a b
          have k3 := q.cl f hf
          omega
  · by_cases hzx : z = x
    · subst hzx
      simp only [if_true] at hs ⊢
      rcases hy with ⟨_, h⟩ | ⟨h1, _⟩
      · have b : ∀ w, here w → ¬ pos w < pos z := fun w hw a => by
          have hne : w ≠ z := fun e => by rw [e] at a; omega
          have := h w hw hne
          omega
        exact ⟨fun w hw a => absurd a (b w hw), fun f v hf _ _ a => absurd a (b f hf)⟩
      · rw [hs] at h1
        exact absurd h1 q.hh
    · simp only [if_neg hzx] at hs ⊢
      obtain ⟨a3, a4⟩ := q.q2 z hz hs
      refine ⟨a3, fun f v hf g F b hv e => ?_⟩
      have hfx := nx f g
      rw [if_neg hfx] at g e
      have hvx : v ≠ x := fun z => by
        rw [if_pos z] at e
        exact ng (e ▸ g)
      rw [if_neg hvx] at e ⊢
      rcases last f hf hfx g F with o | ⟨e1, lt, o⟩
      · exact a4 f v hf g o b hv e
      · obtain ⟨b1, b2, b3⟩ := q.q3 f x hf g hx o e1
        have hxf : pos x < pos f := b1.resolve_left fun z => hfx z.symm
        exact a4 x v hx (e1 ▸ g) o (by omega) hv (e.trans e1.symm)
  · have hzx := nx z g
    simp only [if_neg hzx] at g e ⊢
    have hfx : f ≠ x := fun z => by
      rw [if_pos z] at e
      exact ng (e ▸ g)
    rw [if_neg hfx] at e
    have gf : Gone here hd (s f) := e ▸ g
    rcases last f hf hfx gf F with o | ⟨e1, lt, o⟩
    · obtain ⟨a1, a2, a3⟩ := q.q3 z f hz g hf o e
      refine ⟨a1, a2, fun f' v hf' g' ne F' a b hv e' => ?_⟩
      have hfx' := nx f' g'
      rw [if_neg hfx'] at g' e' ne
      have hvx : v ≠ x := fun z => by
        rw [if_pos z] at e'
        exact ng (e' ▸ g')
      rw [if_neg hvx] at e' ⊢
      rcases last f' hf' hfx' g' F' with o' | ⟨e1', lt', o'⟩
      · exact a3 f' v hf' g' ne o' a b hv e'
      · obtain ⟨b1, b2, b3⟩ := q.q3 f' x hf' g' hx o' e1'
        have hxf : pos x < pos f' := b1.resolve_left fun z => hfx' z.symm
        by_cases hp : pos f < pos x
        · exact a3 x v hx (e1' ▸ g') (e1' ▸ ne) o' hp (by omega) hv (e'.trans e1'.symm)
        · exfalso
          have hxf2 : pos x < pos f := by
            rcases Nat.lt_or_ge (pos x) (pos f) with h | h
            · exact h
            · exact absurd (q.inj f x hf hx (by omega)) hfx
          have k1 := b3 f z hf gf (fun z => ne (z.symm.trans e)) o hxf2 a hz e.symm
          have k2 := a2 f' hf' (.inr a) b
          have k3 := q.cl f' hf'
          omega
    · have gx : Gone here hd (s x) := e1 ▸ gf
      obtain ⟨a1, a2, a3⟩ := q.q3 z x hz g hx o (e1.trans e)
      obtain ⟨b1, b2, b3⟩ := q.q3 f x hf gf hx o e1
      have hxz : pos x < pos z := a1.resolve_left fun z => hzx z.symm
      have hxf : pos x < pos f := b1.resolve_left fun z => hfx z.symm
      have lz : l z ≤ l f := by
        have := F z hz (by simp only [if_neg hzx, if_neg hfx]; exact e.symm)
        simp only [if_neg hzx, if_neg hfx] at this
        exact this
      refine ⟨?_, fun w hw a b => ?_, fun f' v hf' g' ne F' a b hv e' => ?_⟩
      · rcases Nat.lt_trichotomy (pos f) (pos z) with h | h | h
        · exact .inr h
        · exact .inl (q.inj f z hf hz h)
        · exfalso
          have k1 := b2 z hz (.inr hxz) h
          have k2 := q.cl z hz
          omega
      · refine a2 w hw (.inr ?_) b
        rcases a with rfl | a
        · exact hxf
        · omega
      · have hfx' := nx f' g'
        rw [if_neg hfx'] at g' e' ne
        have hvx : v ≠ x := fun z => by
          rw [if_pos z] at e'
          exact ng (e' ▸ g')
        rw [if_neg hvx] at e' ⊢
        rcases last f' hf' hfx' g' F' with o' | ⟨e1', _, _⟩
        · exact a3 f' v hf' g' ne o' (by omega) b hv e'
        · exact absurd (e1'.symm.trans (e1.trans e)) ne
/-- x, who sees somebody here or the head, leaves -/
theorem Qt.leave (q : Qt here pos c l s hd) (hx : here x) (hs : here (s x) ∨ s x = hd) : Qt (fun z => here z ∧ z ≠ x) pos c l s hd := by
  have sx : ∀ g, Gone here hd g → s x ≠ g := fun g h e => by
    rcases hs with h1 | h1
    · exact h.2 (e ▸ h1)
    · exact h.1 (e ▸ h1)
  have old : ∀ g, Gone (fun z => here z ∧ z ≠ x) hd g → g ≠ x → Gone here hd g := fun g h ne => ⟨h.1, fun z => h.2 ⟨z, ne⟩⟩
  have lst : ∀ f, Gone here hd (s f) → Lst (fun z => here z ∧ z ≠ x) l s f → Lst here l s f := fun f g F v hv e => F v ⟨hv, fun z => sx _ g (z ▸ e)⟩ e
  have ltx : ∀ z, here z → s z = x → pos x < pos z ∧ c x ≤ l z := fun z hz e => by
    have := q.q1 z hz (by rw [e]; exact hx)
    rw [e] at this
    exact ⟨this.1, this.2.1⟩
  refine ⟨fun h => q.hh h.1, fun a b ha hb => q.inj a b ha.1 hb.1, fun z hz => q.cl z hz.1, ?_, ?_, ?_⟩
  · rintro z ⟨hz, hzx⟩ ⟨hsz, hszx⟩
    obtain ⟨a1, a2, a3, a4⟩ := q.q1 z hz hsz
    refine ⟨a1, a2, fun w hw => a3 w hw.1, ?_⟩
    rintro f v ⟨hf, hfx⟩ g F a b ⟨hv, hvx⟩ e
    by_cases hsf : s f = x
    · obtain ⟨b1, b2, b3, b4⟩ := q.q1 f hf (by rw [hsf]; exact hx)
      rw [hsf] at b1 b2 b3
      have hcv := (ltx v hv (e.trans hsf)).2
      rcases Nat.lt_trichotomy (pos (s z)) (pos x) with h | h | h
      · have := a3 x hx h (by omega)
        omega
      · exact absurd (q.inj _ _ hsz hx h) hszx
      · exfalso
        have k1 := b3 (s z) hsz h a
        have k2 := a3 f hf a b
        have k3 := q.cl f hf
        omega
    · have g' := old _ g hsf
      exact a4 f v hf g' (lst f g' F) a b hv e
  · rintro z ⟨hz, hzx⟩ hsz
    obtain ⟨a3, a4⟩ := q.q2 z hz hsz
    refine ⟨fun w hw => a3 w hw.1, ?_⟩
    rintro f v ⟨hf, hfx⟩ g F b ⟨hv, hvx⟩ e
    by_cases hsf : s f = x
    · have h1 := (ltx f hf hsf).1
      have hcv := (ltx v hv (e.trans hsf)).2
      have := a3 x hx (by omega)
      omega
    · have g' := old _ g hsf
      exact a4 f v hf g' (lst f g' F) b hv e
  · rintro z f ⟨hz, hzx⟩ g ⟨hf, hfx⟩ F e
    by_cases hsz : s z = x
    · have hsf : s f = x := e.trans hsz
      obtain ⟨a1, a2, a3, a4⟩ := q.q1 z hz (by rw [hsz]; exact hx)
      obtain ⟨b1, b2, b3, b4⟩ := q.q1 f hf (by rw [hsf]; exact hx)
      rw [hsz] at a1 a2 a3 a4
      rw [hsf] at b1 b2 b3
      have lz := F z ⟨hz, hzx⟩ e.symm
      refine ⟨?_, ?_, ?_⟩
      · rcases Nat.lt_trichotomy (pos f) (pos z) with h | h | h
        · exact .inr h
        · exact .inl (q.inj f z hf hz h)
        · exfalso
          have k1 := b3 z hz a1 h
          have k2 := q.cl z hz
          omega
      · rintro w ⟨hw, hwx⟩ a b
        refine a3 w hw ?_ b
        rcases a with rfl | a
        · exact b1
        · omega
      · rintro f' v ⟨hf', hfx'⟩ g' ne F' a b ⟨hv, hvx⟩ e'
        rw [hsz] at ne
        have g'' := old _ g' ne
        exact a4 f' v hf' g'' (lst f' g'' F') (by omega) b hv e'
    · have g0 := old _ g hsz
      have gf : Gone here hd (s f) := e ▸ g0
      have o := lst f gf F
      obtain ⟨a1, a2, a3⟩ := q.q3 z f hz g0 hf o e
      refine ⟨a1, fun w hw => a2 w hw.1, ?_⟩
      rintro f' v ⟨hf', hfx'⟩ g' ne F' a b ⟨hv, hvx⟩ e'
      by_cases hsf' : s f' = x
      · obtain ⟨b1, b2, b3, b4⟩ := q.q1 f' hf' (by rw [hsf']; exact hx)
        rw [hsf'] at b1 b2 b3 b4
        have hcv := (ltx v hv (e'.trans hsf')).2
        rcases Nat.lt_trichotomy (pos f) (pos x) with h | h | h
        · have := a2 x hx (.inr h) (by omega)
          omega
        · exact absurd (q.inj _ _ hf hx h) hfx
        · exfalso
          have k1 := b4 f z hf gf o h a hz e.symm
          have k2 := a2 f' hf' (.inr a) b
          have k3 := q.cl f' hf'
          omega
      · have g'' := old _ g' hsf'
        exact a3 f' v hf' g'' ne (lst f' g'' F') a b hv e'
/-- x comes -/
theorem Qt.come (q : Qt here pos c l s hd) (hx : ¬ here x) (hxh : x ≠ hd) (hsx : ∀ z, here z → s z ≠ x) (hy : Pred here pos hd x y) (hp : ∀ z, here z → pos z ≠ pos x) (hn : ∀ z, here z → l z < n) :
    Qt (fun z => here z ∨ z = x) pos (fun z => if z = x then n else c z) (fun z => if z = x then n else l z) (fun z => if z = x then y else s z) hd := by
  have ne : ∀ z, here z → z ≠ x := fun z hz e => hx (e ▸ hz)
  have ng : ¬ Gone (fun z => here z ∨ z = x) hd y := fun g => by
    rcases hy with ⟨h, _⟩ | ⟨h, _⟩
    · exact g.1 h
    · exact g.2 (.inl h)
  have nx : ∀ f, Gone (fun z => here z ∨ z = x) hd (if f = x then y else s f) → f ≠ x := fun f g e => by
    rw [if_pos e] at g
    exact ng g
  have old : ∀ g, Gone (fun z => here z ∨ z = x) hd g → Gone here hd g := fun g h => ⟨h.1, fun z => h.2 (.inl z)⟩
  have lst : ∀ f, f ≠ x → Lst (fun z => here z ∨ z = x) (fun z => if z = x then n else l z) (fun z => if z = x then y else s z) f → Lst here l s f := fun f hf F v hv e => by
    have := F v (.inl hv) (by simp only [if_neg (ne v hv), if_neg hf]; exact e)
    simp only [if_neg (ne v hv), if_neg hf] at this
    exact this
  -- a looker v at a gone one is one of then
  have vo : ∀ g v, Gone (fun z => here z ∨ z = x) hd g → (here v ∨ v = x) → (if v = x then y else s v) = g → here v ∧ s v = g := fun g v hg hv e => by
    by_cases h : v = x
    · rw [if_pos h] at e
      exact absurd (e ▸ hg) ng
    · rw [if_neg h] at e
      exact ⟨hv.resolve_right h, e⟩
  refine ⟨fun h => h.elim q.hh fun e => hxh e.symm, fun a b ha hb e => ?_, fun z hz => ?_, fun z hz hs => ?_, fun z hz hs => ?_, fun z f hz g hf F e => ?_⟩
  · rcases ha with ha | rfl <;> rcases hb with hb | rfl
    · exact q.inj a b ha hb e
    · exact absurd e (hp a ha)
    · exact absurd e.symm (hp b hb)
    · rfl
  · show (if z = x then n else c z) ≤ if z = x then n else l z
    by_cases h : z = x
    · rw [if_pos h, if_pos h]
      exact Int.le_refl _
    · rw [if_neg h, if_neg h]
      exact q.cl z (hz.resolve_right h)
  · by_cases hzx : z = x
    · subst hzx
      simp only [if_true] at hs ⊢
      rcases hy with ⟨rfl, _⟩ | ⟨h1, h2, h3, h4⟩
      · exact absurd hs fun h => h.elim q.hh fun e => hxh e.symm
      · have b : ∀ w, (here w ∨ w = z) → pos y < pos w → ¬ pos w < pos z := fun w hw a a2 => by
          rcases hw with hw | rfl
          · rcases h4 w hw (ne w hw) with h | h <;> omega
          · omega
        rw [if_neg h2]
        refine ⟨h3, ?_, fun w hw a a2 => absurd a2 (b w hw a), fun f v hf _ _ a a2 => absurd a2 (b f hf a)⟩
        have := q.cl y h1
        have := hn y h1
        omega
    · have hz' := hz.resolve_right hzx
      simp only [if_neg hzx] at hs ⊢
      have hs' := hs.resolve_right (hsx z hz')
      obtain ⟨a1, a2, a3, a4⟩ := q.q1 z hz' hs'
      rw [if_neg (hsx z hz')]
      refine ⟨a1, a2, fun w hw a b => ?_, fun f v hf g F a b hv e => ?_⟩
      · rcases hw with hw | rfl
        · rw [if_neg (ne w hw)]
          exact a3 w hw a b
        · rw [if_pos rfl]
          exact hn z hz'
      · have hfx := nx f g
        simp only [if_neg hfx] at g e
        obtain ⟨hv', e'⟩ := vo _ v g hv e
        rw [if_neg (ne v hv')]
        exact a4 f v (hf.resolve_right hfx) (old _ g) (lst f hfx F) a b hv' e'
  · by_cases hzx : z = x
    · subst hzx
      simp only [if_true] at hs ⊢
      rcases hy with ⟨_, h⟩ | ⟨h1, _⟩
      · have b : ∀ w, (here w ∨ w = z) → ¬ pos w < pos z := fun w hw a => by
          rcases hw with hw | rfl
          · have := h w hw (ne w hw)
            omega
          · omega
        exact ⟨fun w hw a => absurd a (b w hw), fun f v hf _ _ a => absurd a (b f hf)⟩
      · rw [hs] at h1
        exact absurd h1 q.hh
    · have hz' := hz.resolve_right hzx
      simp only [if_neg hzx] at hs ⊢
      obtain ⟨a3, a4⟩ := q.q2 z hz' hs
      refine ⟨fun w hw b => ?_, fun f v hf g F b hv e => ?_⟩
      · rcases hw with hw | rfl
        · rw [if_neg (ne w hw)]
          exact a3 w hw b
        · rw [if_pos rfl]
          exact hn z hz'
      · have hfx := nx f g
        simp only [if_neg hfx] at g e
        obtain ⟨hv', e'⟩ := vo _ v g hv e
        rw [if_neg (ne v hv')]
        exact a4 f v (hf.resolve_right hfx) (old _ g) (lst f hfx F) b hv' e'
  · have hzx := nx z g
    have hz' := hz.resolve_right hzx
    simp only [if_neg hzx] at g e ⊢
    obtain ⟨hf', e0⟩ := vo _ f g hf e
    have hfx := ne f hf'
    obtain ⟨a1, a2, a3⟩ := q.q3 z f hz' (old _ g) hf' (lst f hfx F) e0
    refine ⟨a1, fun w hw a b => ?_, fun f' v hf2 g' nf F' a b hv e' => ?_⟩
    · rcases hw with hw | rfl
      · rw [if_neg (ne w hw)]
        exact a2 w hw a b
      · rw [if_pos rfl]
        exact hn z hz'
    · have hfx' := nx f' g'
      simp only [if_neg hfx'] at g' e' nf
      obtain ⟨hv', e2⟩ := vo _ v g' hv e'
      rw [if_neg (ne v hv')]
      exact a3 f' v (hf2.resolve_right hfx') (old _ g') nf (lst f' hfx' F') a b hv' e2
end
end AS


/-! Where a quiet line is, the gluing clashes nowhere; what it comes to. Plain Lean. -/
namespace AS
section
variable {α : Type} [DecidableEq α]
def Lore.upN (L : Lore α) : Nat → α → α
  | 0, x => x
  | n + 1, x => L.s (L.upN n x)
theorem Lore.upN_add (L : Lore α) (a b : Nat) (x : α) : L.upN a (L.upN b x) = L.upN (a + b) x := by
  induction a with
  | zero => rw [Nat.zero_add]; rfl
  | succ a ih => rw [Nat.succ_add]; exact congrArg L.s ih
/-- b's looks, all glued, lead to a -/
def Lore.Anc (L : Lore α) (Pd : List α) (a b : α) : Prop := ∃ n, L.upN (n + 1) b = a ∧ ∀ j, j ≤ n → L.upN j b ∈ Pd
theorem Lore.Anc.trans {L : Lore α} {Pd : List α} {a b d : α} (h : L.Anc Pd a b) (k : L.Anc Pd b d) : L.Anc Pd a d := by
  obtain ⟨n, h1, h2⟩ := h
  obtain ⟨m, k1, k2⟩ := k
  refine ⟨n + 1 + m, ?_, fun j hj => ?_⟩
  · rw [← h1, ← k1, L.upN_add]
    congr 1
    try omega
  · by_cases q : j ≤ m
    · exact k2 j q
    · have e : L.upN j d = L.upN (j - (m + 1)) b := by
        rw [← k1, L.upN_add]
        congr 1
        omega
      rw [e]
      exact h2 _ (by omega)
theorem Lore.Anc.mono {L : Lore α} {Pd Pd' : List α} {a b : α} (h : L.Anc Pd a b) (k : ∀ z ∈ Pd, z ∈ Pd') : L.Anc Pd' a b := by
  obtain ⟨n, h1, h2⟩ := h
  exact ⟨n, h1, fun j hj => k _ (h2 j hj)⟩
def Lore.full (L : Lore α) (g : Glue α) (k : α) : List α := if k ∈ L.N then g.cont k else k :: g.cont k
structure GInv (L : Lore α) (Pd : List α) (g : Glue α) : Prop where
  cl : g.clash = none
  rt : ∀ z, g.own (g.own z) = g.own z
  out : ∀ z, z ∉ L.N → g.own z = z
  un : ∀ z ∈ L.N, z ∉ Pd → g.own z = z
  rn : ∀ z ∈ L.N, g.own z = z → z ∉ Pd
  ch : ∀ z ∈ L.N, g.own z ≠ z → L.Anc Pd (g.own z) z
  mem : ∀ k z, g.own k = k → (z ∈ g.cont k ↔ z ∈ L.N ∧ g.own z = k)
  nd : ∀ k, g.own k = k → (g.cont k).Nodup
  hd : ∀ k ∈ L.N, g.own k = k → ∃ r, g.cont k = k :: r
  look : ∀ k, g.own k = k → ∀ z ∈ g.cont k, z ∈ Pd → ∃ A M R, L.full g k = A ++ L.s z :: (M ++ z :: R) ∧ ∀ w ∈ M, L.l z < L.c w
  ord : ∀ k, g.own k = k → (g.cont k).Pairwise fun a b => L.Anc Pd a b ∨ ∀ x ∈ L.N, x ∉ Pd → L.l x < L.c a
  gl : g.glued.length ≤ Pd.length
/-- what is asked of a lore -/
structure Lore.Ok (L : Lore α) (hd : α) : Prop where
  nd : L.N.Nodup
  hd : hd ∉ L.N
  cl : ∀ x ∈ L.N, L.c x ≤ L.l x
  lp : ∀ x ∈ L.N, 0 ≤ L.l x
  ap : ∀ x ∈ L.N, ∀ y ∈ L.N, L.l x = L.l y → x = y
/-- a last one of those who look where x looks -/
theorem last_of (l : α → Int) (p : α → Bool) : ∀ (N : List α), (∃ x ∈ N, p x = true) → ∃ f ∈ N, p f = true ∧ ∀ v ∈ N, p v = true → l v ≤ l f
  | [], h => by
    obtain ⟨x, h, _⟩ := h
    cases h
  | a :: N, h => by
    by_cases hN : ∃ x ∈ N, p x = true
    · obtain ⟨f, h1, h2, h3⟩ := last_of l p N hN
      by_cases ha : p a = true ∧ l f < l a
      · refine ⟨a, List.mem_cons_self .., ha.1, fun v hv hp => ?_⟩
        rcases List.mem_cons.mp hv with rfl | hv
        · exact Int.le_refl _
        · have := h3 v hv hp
          omega
      · refine ⟨f, List.mem_cons_of_mem _ h1, h2, fun v hv hp => ?_⟩
        rcases List.mem_cons.mp hv with rfl | hv
        · have : ¬ l f < l v := fun q => ha ⟨hp, q⟩
          omega
        · exact h3 v hv hp
    · obtain ⟨x, hx, hp⟩ := h
      rcases List.mem_cons.mp hx with rfl | hx
      · refine ⟨x, List.mem_cons_self .., hp, fun v hv hpv => ?_⟩
        rcases List.mem_cons.mp hv with rfl | hv
        · exact Int.le_refl _
        · exact absurd ⟨v, hv, hpv⟩ hN
      · exact absurd ⟨x, hx, hp⟩ hN
variable {L : Lore α} {hd : α} {pos : α → Nat} {Pd : List α} {g : Glue α} {x : α}
theorem Qt.anc_pos (q : Qt (· ∈ L.N) pos L.c L.l L.s hd) (hP : ∀ z ∈ Pd, z ∈ L.N) {a b : α} (h : L.Anc Pd a b) (ha : a ∈ L.N) : pos a < pos b := by
  obtain ⟨n, h1, h2⟩ := h
  induction n generalizing a with
  | zero =>
    rw [← h1]
    exact (q.q1 b (hP _ (h2 0 (Nat.le_refl _))) (by rw [show L.s b = a from h1]; exact ha)).1
  | succ n ih =>
    have hm : L.upN (n + 1) b ∈ L.N := hP _ (h2 (n + 1) (Nat.le_refl _))
    have k1 := ih hm rfl (fun j hj => h2 j (by omega))
    have k2 := (q.q1 (L.upN (n + 1) b) hm (by rw [show L.s (L.upN (n + 1) b) = a from h1]; exact ha)).1
    rw [show L.s (L.upN (n + 1) b) = a from h1] at k2
    omega
/-- whoever's glued looks lead to whom x sees came behind that look -/
theorem Qt.behind (q : Qt (· ∈ L.N) pos L.c L.l L.s hd) (hP : ∀ z ∈ Pd, z ∈ L.N ∧ L.l x < L.l z) (hx : x ∈ L.N) {o : α} (h : L.Anc Pd (L.s x) o) : L.l x < L.c o := by
  obtain ⟨n, h1, h2⟩ := h
  have hcx := q.cl x hx
  -- the region
  have key : ∃ Rg : α → Prop, (∀ w ∈ L.N, Rg w → pos w < pos x → L.l x < L.c w) ∧ (∀ w v, Rg w → pos w < pos v → Rg v) ∧ ∀ d ∈ L.N, L.s d = L.s x → L.l x < L.l d → Rg d ∧ pos d < pos x := by
    by_cases hs : L.s x ∈ L.N
    · obtain ⟨a1, a2, a3, _⟩ := q.q1 x hx hs
      refine ⟨fun w => pos (L.s x) < pos w, fun w hw r b => a3 w hw r b, fun w v r b => Nat.lt_trans r b, fun d hd' e lt => ?_⟩
      obtain ⟨b1, b2, b3, _⟩ := q.q1 d hd' (by rw [e]; exact hs)
      rw [e] at b1 b3
      refine ⟨b1, ?_⟩
      rcases Nat.lt_trichotomy (pos d) (pos x) with h | h | h
      · exact h
      · have := q.inj d x hd' hx h
        rw [this] at lt
        omega
      · have := b3 x hx a1 h
        omega
    · by_cases hh : L.s x = hd
      · obtain ⟨a3, _⟩ := q.q2 x hx hh
        refine ⟨fun _ => True, fun w hw _ b => a3 w hw b, fun _ _ _ _ => trivial, fun d hd' e lt => ⟨trivial, ?_⟩⟩
        obtain ⟨b3, _⟩ := q.q2 d hd' (e.trans hh)
        rcases Nat.lt_trichotomy (pos d) (pos x) with h | h | h
        · exact h
        · have := q.inj d x hd' hx h
          rw [this] at lt
          omega
        · have := b3 x hx h
          omega
      · have gn : Gone (· ∈ L.N) hd (L.s x) := ⟨hh, hs⟩
        obtain ⟨f, f1, f2, f3⟩ := last_of L.l (fun v => decide (L.s v = L.s x)) L.N ⟨x, hx, by simp⟩
        have f2' : L.s f = L.s x := by simpa using f2
        have F : Lst (· ∈ L.N) L.l L.s f := fun v hv e => f3 v hv (by simpa using e.trans f2')
        obtain ⟨a1, a2, _⟩ := q.q3 x f hx gn f1 F f2'
        refine ⟨fun w => w = f ∨ pos f < pos w, fun w hw r b => a2 w hw r b, fun w v r b => ?_, fun d hd' e lt => ?_⟩
        · rcases r with rfl | r
          · exact .inr b
          · exact .inr (by omega)
        · obtain ⟨b1, b2, _⟩ := q.q3 d f hd' (e ▸ gn) f1 F (f2'.trans e.symm)
          refine ⟨b1.imp Eq.symm id, ?_⟩
          rcases Nat.lt_trichotomy (pos d) (pos x) with h | h | h
          · exact h
          · have := q.inj d x hd' hx h
            rw [this] at lt
            omega
          · have := b2 x hx (a1.imp Eq.symm id) h
            omega
  obtain ⟨Rg, r1, r2, r3⟩ := key
  -- down the chain
  have down : ∀ i, i ≤ n → Rg (L.upN (n - i) o) ∧ pos (L.upN (n - i) o) < pos x := by
    intro i
    induction i with
    | zero =>
      intro _
      obtain ⟨p1, p2⟩ := hP _ (h2 n (Nat.le_refl _))
      exact r3 _ p1 h1 p2
    | succ i ih =>
      intro hi
      obtain ⟨k1, k2⟩ := ih (by omega)
      obtain ⟨p1, p2⟩ := hP _ (h2 (n - (i + 1)) (by omega))
      obtain ⟨p3, _⟩ := hP _ (h2 (n - i) (by omega))
      have e : L.s (L.upN (n - (i + 1)) o) = L.upN (n - i) o := by
        have : n - i = n - (i + 1) + 1 := by omega
        rw [this]
        rfl
      obtain ⟨b1, b2, b3, _⟩ := q.q1 _ p1 (by rw [e]; exact p3)
      rw [e] at b1 b3
      refine ⟨r2 _ _ k1 b1, ?_⟩
      rcases Nat.lt_trichotomy (pos (L.upN (n - (i + 1)) o)) (pos x) with h | h | h
      · exact h
      · have := q.inj _ x p1 hx h
        rw [this] at p2
        omega
      · have := b3 x hx k2 h
        omega
  obtain ⟨k1, k2⟩ := down n (Nat.le_refl _)
  rw [Nat.sub_self] at k1 k2
  exact r1 o (hP _ (h2 0 (Nat.zero_le _))).1 k1 k2
/-- one look is glued -/
theorem GInv.put (I : GInv L Pd g) (q : Qt (· ∈ L.N) pos L.c L.l L.s hd) (hP : ∀ z ∈ Pd, z ∈ L.N ∧ L.l x < L.l z) (hU : ∀ z ∈ L.N, z ∉ Pd → L.l z ≤ L.l x) (hx : x ∈ L.N) (hxp : x ∉ Pd) :
    GInv L (Pd ++ [x]) (L.put g x) ∧ (L.s x ∈ L.N → L.s x ∈ g.cont (g.own (L.s x))) ∧ (∀ o ∈ L.behind g (L.s x), o ∈ L.N ∧ L.l x < L.c o) ∧ g.own x ≠ g.own (L.s x) ∧ (∀ o ∈ g.cont (g.own x), o ∈ L.N) ∧ (g.cont (g.own (L.s x)) ++ g.cont (g.own x)).Nodup ∧ ∀ o ∈ g.cont (g.own (L.s x)), o ∈ L.N := by
  have hP' : ∀ z ∈ Pd, z ∈ L.N := fun z hz => (hP z hz).1
  have ox : g.own x = x := I.un x hx hxp
  have rk : g.own (g.own (L.s x)) = g.own (L.s x) := I.rt _
  have hcx := q.cl x hx
  have sawIn : L.s x ∈ L.N → L.s x ∈ g.cont (g.own (L.s x)) := fun h => (I.mem _ _ rk).mpr ⟨h, rfl⟩
  -- whom x sees leads to the block's root
  have toRoot : L.s x ∈ L.N → L.s x = g.own (L.s x) ∨ L.Anc Pd (g.own (L.s x)) (L.s x) := fun h => by
    by_cases e : g.own (L.s x) = L.s x
    · exact .inl e.symm
    · exact .inr (I.ch _ h e)
  have ne : g.own x ≠ g.own (L.s x) := by
    rw [ox]
    intro e
    by_cases h : L.s x ∈ L.N
    · have h1 := (q.q1 x hx h).1
      rcases toRoot h with k | k
      · rw [← k] at e
        rw [← e] at h1
        omega
      · rw [← e] at k
        have := q.anc_pos hP' k hx
        omega
    · rw [I.out _ h] at e
      exact h (e ▸ hx)
  have beh : ∀ o ∈ L.behind g (L.s x), o ∈ L.N ∧ L.l x < L.c o := fun o ho => by
    unfold Lore.behind at ho
    simp only [] at ho
    by_cases h : L.s x ∈ L.N
    · rw [if_pos h] at ho
      have hob : o ∈ g.cont (g.own (L.s x)) := List.mem_of_mem_drop ho
      refine ⟨((I.mem _ _ rk).mp hob).1, ?_⟩
      have hlt := List.idxOf_lt_length_iff.mpr (sawIn h)
      have hsp : g.cont (g.own (L.s x)) = (g.cont (g.own (L.s x))).take ((g.cont (g.own (L.s x))).idxOf (L.s x)) ++ L.s x :: (g.cont (g.own (L.s x))).drop ((g.cont (g.own (L.s x))).idxOf (L.s x) + 1) := by
        have e := List.getElem_idxOf hlt
        conv => lhs; rw [← List.take_append_drop ((g.cont (g.own (L.s x))).idxOf (L.s x)) (g.cont (g.own (L.s x)))]
        rw [List.drop_eq_getElem_cons hlt, e]
      have hpw := I.ord _ rk
      rw [hsp, List.pairwise_append, List.pairwise_cons] at hpw
      rcases hpw.2.1.1 o ho with k | k
      · exact q.behind hP hx k
      · have k1 := k x hx hxp
        have k2 := (q.q1 x hx h).2.1
        omega
    · rw [if_neg h] at ho
      obtain ⟨h1, h2⟩ := (I.mem _ _ rk).mp ho
      refine ⟨h1, ?_⟩
      have e := I.out _ h
      rw [e] at h2
      have hne : g.own o ≠ o := fun z => h (by rw [← h2, z]; exact h1)
      have := I.ch o h1 hne
      rw [h2] at this
      exact q.behind hP hx this
  have hm : ∀ z, z ∈ g.cont (g.own x) ↔ z ∈ L.N ∧ g.own z = x := fun z => by
    rw [ox]
    exact I.mem x z ox
  have hb : ∀ z, z ∈ g.cont (g.own (L.s x)) ↔ z ∈ L.N ∧ g.own z = g.own (L.s x) := fun z => I.mem _ z rk
  have hxm : x ∈ g.cont (g.own x) := (hm x).mpr ⟨hx, ox⟩
  have dis : (g.cont (g.own (L.s x)) ++ g.cont (g.own x)).Nodup := by
    rw [List.nodup_append]
    refine ⟨I.nd _ rk, I.nd _ (by rw [ox, ox]), fun a ha b hb' e => ?_⟩
    subst e
    exact ne (ox.trans (((hm a).mp hb').2.symm.trans ((hb a).mp ha).2))
  refine ⟨?_, sawIn, beh, ne, fun o ho => ((hm o).mp ho).1, dis, fun o ho => ((hb o).mp ho).1⟩
  have hfind : (L.behind g (L.s x)).find? (fun o => decide (L.c o < L.l x)) = none := List.find?_eq_none.mpr fun o ho => by
    have := (beh o ho).2
    simp only [decide_eq_true_eq]
    omega
  have hput : L.put g x = { own := fun z => if z ∈ g.cont (g.own x) then g.own (L.s x) else g.own z, cont := setF g.cont (g.own (L.s x)) (g.cont (g.own (L.s x)) ++ g.cont (g.own x)), glued := g.glued ++ [(x, L.s x, (g.cont (g.own (L.s x))).getLast?.getD (L.s x))], clash := none } := by
    unfold Lore.put
    simp only [hfind]
  rw [hput]
  -- the roots of now
  have nkm : g.own (L.s x) ∉ g.cont (g.own x) := fun h => by
    have := ((hm _).mp h).2
    rw [rk] at this
    exact ne (by rw [ox, this])
  have root : ∀ k, (if k ∈ g.cont (g.own x) then g.own (L.s x) else g.own k) = k → k ∉ g.cont (g.own x) ∧ g.own k = k := fun k h => by
    by_cases hk : k ∈ g.cont (g.own x)
    · rw [if_pos hk] at h
      rw [← h] at hk
      exact absurd hk nkm
    · rw [if_neg hk] at h
      exact ⟨hk, h⟩
  have anc' : ∀ {a b : α}, L.Anc Pd a b → L.Anc (Pd ++ [x]) a b := fun h => h.mono fun z hz => List.mem_append_left _ hz
  have ancx : L.Anc (Pd ++ [x]) (g.own (L.s x)) x := by
    have one : L.Anc (Pd ++ [x]) (L.s x) x := ⟨0, rfl, fun j hj => by
      have : j = 0 := by omega
      rw [this]
      exact List.mem_append_right _ (List.mem_singleton.mpr rfl)⟩
    by_cases h : L.s x ∈ L.N
    · rcases toRoot h with k | k
      · rw [← k]
        exact one
      · exact (anc' k).trans one
    · rw [I.out _ h]
      exact one
  have hfull : ∀ k, k ∉ g.cont (g.own x) → L.full { own := fun z => if z ∈ g.cont (g.own x) then g.own (L.s x) else g.own z, cont := setF g.cont (g.own (L.s x)) (g.cont (g.own (L.s x)) ++ g.cont (g.own x)), glued := g.glued ++ [(x, L.s x, (g.cont (g.own (L.s x))).getLast?.getD (L.s x))], clash := none } k = if k = g.own (L.s x) then L.full g k ++ g.cont (g.own x) else L.full g k := fun k hk => by
    unfold Lore.full setF
    simp only []
    by_cases e : k = g.own (L.s x)
    · have ek : g.cont k = g.cont (g.own (L.s x)) := congrArg g.cont e
      rw [if_pos e, if_pos e, ek]
      split <;> rfl
    · rw [if_neg e, if_neg e]
  refine ⟨rfl, fun z => ?_, fun z hz => ?_, fun z hz hzp => ?_, fun z hz h => ?_, fun z hz h => ?_, fun k z h => ?_, fun k h => ?_, fun k hk h => ?_, fun k h z hz hzp => ?_, fun k h => ?_, ?_⟩
  · show (if (if z ∈ g.cont (g.own x) then g.own (L.s x) else g.own z) ∈ g.cont (g.own x) then g.own (L.s x) else g.own (if z ∈ g.cont (g.own x) then g.own (L.s x) else g.own z)) = (if z ∈ g.cont (g.own x) then g.own (L.s x) else g.own z)
    by_cases hz : z ∈ g.cont (g.own x)
    · rw [if_pos hz, if_neg nkm, rk]
    · rw [if_neg hz, if_neg, I.rt]
      intro h
      have h2 := ((hm _).mp h).2
      rw [I.rt] at h2
      by_cases hzN : z ∈ L.N
      · exact hz ((hm z).mpr ⟨hzN, h2⟩)
      · rw [I.out z hzN] at h2
        exact hzN (h2 ▸ hx)
  · show (if z ∈ g.cont (g.own x) then _ else g.own z) = z
    rw [if_neg fun h => hz ((hm z).mp h).1]
    exact I.out z hz
  · show (if z ∈ g.cont (g.own x) then _ else g.own z) = z
    have hzP : z ∉ Pd := fun h => hzp (List.mem_append_left _ h)
    have oz := I.un z hz hzP
    rw [if_neg fun h => hzp (List.mem_append_right _ (List.mem_singleton.mpr (oz.symm.trans ((hm z).mp h).2)))]
    exact oz
  · obtain ⟨h1, h2⟩ := root z h
    intro hp
    rcases List.mem_append.mp hp with hp | hp
    · exact I.rn z hz h2 hp
    · rw [List.mem_singleton] at hp
      exact h1 (hp ▸ hxm)
  · show L.Anc (Pd ++ [x]) (if z ∈ g.cont (g.own x) then g.own (L.s x) else g.own z) z
    by_cases hzm : z ∈ g.cont (g.own x)
    · rw [if_pos hzm]
      have oz := ((hm z).mp hzm).2
      by_cases e : g.own z = z
      · rw [← oz.symm.trans e]
        exact ancx
      · have := I.ch z hz e
        rw [oz] at this
        exact ancx.trans (anc' this)
    · rw [if_neg hzm]
      have h' : (if z ∈ g.cont (g.own x) then g.own (L.s x) else g.own z) ≠ z := h
      rw [if_neg hzm] at h'
      exact anc' (I.ch z hz h')
  · obtain ⟨h1, h2⟩ := root k h
    show z ∈ setF g.cont (g.own (L.s x)) _ k ↔ z ∈ L.N ∧ (if z ∈ g.cont (g.own x) then g.own (L.s x) else g.own z) = k
    unfold setF
    by_cases e : k = g.own (L.s x)
    · rw [if_pos e, List.mem_append]
      by_cases hzm : z ∈ g.cont (g.own x)
      · rw [if_pos hzm]
        exact ⟨fun _ => ⟨((hm z).mp hzm).1, e.symm⟩, fun _ => .inr hzm⟩
      · rw [if_neg hzm]
        rw [e]
        exact ⟨fun q => (hb z).mp (q.resolve_right hzm), fun q => .inl ((hb z).mpr q)⟩
    · rw [if_neg e, I.mem k z h2]
      by_cases hzm : z ∈ g.cont (g.own x)
      · rw [if_pos hzm]
        refine ⟨fun q => absurd ?_ h1, fun q => absurd q.2.symm e⟩
        have oz := ((hm z).mp hzm).2
        rw [oz] at q
        rw [← q.2]
        exact hxm
      · rw [if_neg hzm]
  · obtain ⟨h1, h2⟩ := root k h
    show (setF g.cont (g.own (L.s x)) _ k).Nodup
    unfold setF
    by_cases e : k = g.own (L.s x)
    · rw [if_pos e]
      exact dis
    · rw [if_neg e]
      exact I.nd k h2
  · obtain ⟨h1, h2⟩ := root k h
    obtain ⟨r, hr⟩ := I.hd k hk h2
    show ∃ r, setF g.cont (g.own (L.s x)) _ k = k :: r
    unfold setF
    by_cases e : k = g.own (L.s x)
    · rw [if_pos e, ← e, hr]
      exact ⟨_, rfl⟩
    · rw [if_neg e]
      exact ⟨r, hr⟩
  · obtain ⟨h1, h2⟩ := root k h
    rw [hfull k h1]
    have hz' : z ∈ setF g.cont (g.own (L.s x)) (g.cont (g.own (L.s x)) ++ g.cont (g.own x)) k := hz
    unfold setF at hz'
    by_cases e : k = g.own (L.s x)
    · rw [if_pos e] at hz' ⊢
      rcases List.mem_append.mp hz' with hzb | hzm
      · have hzP : z ∈ Pd := by
          rcases List.mem_append.mp hzp with q | q
          · exact q
          · rw [List.mem_singleton] at q
            rw [q] at hzb
            exact absurd (((hb x).mp hzb).2.symm.trans ox) fun w => ne (by rw [ox]; exact w.symm)
        obtain ⟨A, M, R, e1, e2⟩ := I.look k h2 z (by rw [e]; exact hzb) hzP
        exact ⟨A, M, R ++ g.cont (g.own x), by rw [e1]; simp, e2⟩
      · by_cases hzx : z = x
        · subst hzx
          obtain ⟨r, hr⟩ := I.hd z hx ox
          rw [ox, hr]
          by_cases hs : L.s z ∈ L.N
          · have hlt := List.idxOf_lt_length_iff.mpr (sawIn hs)
            have hsp : g.cont (g.own (L.s z)) = (g.cont (g.own (L.s z))).take ((g.cont (g.own (L.s z))).idxOf (L.s z)) ++ L.s z :: L.behind g (L.s z) := by
              have e := List.getElem_idxOf hlt
              unfold Lore.behind
              simp only []
              rw [if_pos hs]
              conv => lhs; rw [← List.take_append_drop ((g.cont (g.own (L.s z))).idxOf (L.s z)) (g.cont (g.own (L.s z)))]
              rw [List.drop_eq_getElem_cons hlt, e]
            have hf : ∃ A, L.full g k = A ++ L.s z :: L.behind g (L.s z) := by
              unfold Lore.full
              rw [e]
              split
              · exact ⟨_, hsp⟩
              · exact ⟨_ :: _, by rw [List.cons_append, ← hsp]⟩
            obtain ⟨A, hA⟩ := hf
            exact ⟨A, L.behind g (L.s z), r, by rw [hA]; simp, fun w hw => (beh w hw).2⟩
          · have hk : k = L.s z := by rw [e, I.out _ hs]
            refine ⟨[], L.behind g (L.s z), r, ?_, fun w hw => (beh w hw).2⟩
            unfold Lore.full Lore.behind
            simp only []
            rw [hk, if_neg hs, if_neg hs, I.out _ hs]
            simp
        · have hzP : z ∈ Pd := by
            rcases List.mem_append.mp hzp with q | q
            · exact q
            · exact absurd (List.mem_singleton.mp q) hzx
          obtain ⟨A, M, R, e1, e2⟩ := I.look x ox z (by rw [ox] at hzm; exact hzm) hzP
          have : L.full g x = g.cont (g.own x) := by
            unfold Lore.full
            rw [if_pos hx, ox]
          rw [this] at e1
          exact ⟨L.full g k ++ A, M, R, by rw [e1]; simp, e2⟩
    · rw [if_neg e] at hz' ⊢
      have hzP : z ∈ Pd := by
        rcases List.mem_append.mp hzp with q | q
        · exact q
        · rw [List.mem_singleton] at q
          rw [q] at hz'
          have := ((I.mem k x h2).mp hz').2
          rw [ox] at this
          rw [← this] at h1
          exact absurd hxm h1
      exact I.look k h2 z hz' hzP
  · obtain ⟨h1, h2⟩ := root k h
    have up : ∀ a b, (L.Anc Pd a b ∨ ∀ u ∈ L.N, u ∉ Pd → L.l u < L.c a) → (L.Anc (Pd ++ [x]) a b ∨ ∀ u ∈ L.N, u ∉ Pd ++ [x] → L.l u < L.c a) := fun a b h => h.imp anc' fun k u hu hup => k u hu fun z => hup (List.mem_append_left _ z)
    show (setF g.cont (g.own (L.s x)) _ k).Pairwise _
    unfold setF
    by_cases e : k = g.own (L.s x)
    · rw [if_pos e, List.pairwise_append]
      refine ⟨(I.ord _ rk).imp fun {a b} => up a b, (I.ord _ (by rw [ox, ox])).imp fun {a b} => up a b, fun a ha b hb' => ?_⟩
      -- b's looks lead to x
      have bx : b = x ∨ L.Anc (Pd ++ [x]) x b := by
        obtain ⟨b1, b2⟩ := (hm b).mp hb'
        by_cases e : g.own b = b
        · exact .inl (e.symm.trans b2)
        · have := I.ch b b1 e
          rw [b2] at this
          exact .inr (anc' this)
      have one : L.Anc (Pd ++ [x]) (L.s x) x := ⟨0, rfl, fun j hj => by
        have : j = 0 := by omega
        rw [this]
        exact List.mem_append_right _ (List.mem_singleton.mpr rfl)⟩
      have yb : L.Anc (Pd ++ [x]) (L.s x) b := by
        rcases bx with rfl | bx
        · exact one
        · exact one.trans bx
      have late : ∀ o ∈ L.behind g (L.s x), ∀ u ∈ L.N, u ∉ Pd ++ [x] → L.l u < L.c o := fun o ho u hu hup => by
        have k1 := hU u hu fun z => hup (List.mem_append_left _ z)
        have k2 := (beh o ho).2
        omega
      by_cases hs : L.s x ∈ L.N
      · have hlt := List.idxOf_lt_length_iff.mpr (sawIn hs)
        have hsp : g.cont (g.own (L.s x)) = (g.cont (g.own (L.s x))).take ((g.cont (g.own (L.s x))).idxOf (L.s x)) ++ L.s x :: L.behind g (L.s x) := by
          have e := List.getElem_idxOf hlt
          unfold Lore.behind
          simp only []
          rw [if_pos hs]
          conv => lhs; rw [← List.take_append_drop ((g.cont (g.own (L.s x))).idxOf (L.s x)) (g.cont (g.own (L.s x)))]
          rw [List.drop_eq_getElem_cons hlt, e]
        have hpw := I.ord _ rk
        rw [hsp, List.pairwise_append] at hpw
        rw [hsp] at ha
        rcases List.mem_append.mp ha with q1 | q1
        · rcases up _ _ (hpw.2.2 a q1 (L.s x) (List.mem_cons_self ..)) with k | k
          · exact .inl (k.trans yb)
          · exact .inr k
        · rcases List.mem_cons.mp q1 with rfl | q1
          · exact .inl yb
          · exact .inr (late a q1)
      · refine .inr (late a ?_)
        unfold Lore.behind
        simp only []
        rw [if_neg hs]
        exact ha
    · rw [if_neg e]
      exact (I.ord k h2).imp fun {a b} => up a b
  · show (g.glued ++ [_]).length ≤ _
    rw [List.length_append, List.length_append]
    have := I.gl
    simp only [List.length_cons, List.length_nil]
    omega
end
end AS


namespace AS
open PySem
def top (i : Nat) : Stmt := PySem.Challenge.pw_aheadseen_k43_first_line_quiet.main.body.getD i (.Pass ⟨0, 0, 0, 0⟩)
abbrev n_AheadError : Nat := 2
abbrev n_NotHere : Nat := 3
abbrev n_NotHere_init : Nat := 0
abbrev n_NoLine : Nat := 4
abbrev n_NoLine_init : Nat := 0
abbrev n_here : Nat := 6
abbrev n_gone : Nat := 7
abbrev n_place_of : Nat := 8
abbrev n_row_of : Nat := 9
abbrev n_late_clash : Nat := 14
abbrev n_ring_clash : Nat := 15
abbrev n_steps_to : Nat := 16
abbrev n_Gluer : Nat := 17
abbrev n_Gluer_init : Nat := 0
abbrev n_Gluer_put : Nat := 1
abbrev n_Gluer_least_of : Nat := 2
abbrev n_clash_of : Nat := 18
abbrev n_glued_lore : Nat := 19
abbrev n_blocks : Nat := 20
abbrev n_first_line : Nat := 21
abbrev n_law_state : Nat := 23
abbrev n_law_next : Nat := 24
abbrev n_law_names : Nat := 25
abbrev n_law_real : Nat := 26
abbrev n_law_since : Nat := 27
abbrev n_law_laid : Nat := 28
abbrev n_law_protests : Nat := 29
abbrev n_law_spread : Nat := 30
abbrev n_law : Nat := 31
end AS


set_option Elab.async false
set_option linter.all false
set_option maxRecDepth 100000
set_option maxHeartbeats 4000000
/-! The program's lores: here, gone, place_of, row_of. -/
namespace AS
open PySem L2 LamX
open PySem.W (Frag)
open RT
variable [TabsOf]

/-! ### names and rows as data -/
abbrev hdS : Str := ""
def leS (x y : Str) : Bool := decide (x.cps.toList ≤ y.cps.toList)
def namesD (xs : List Str) : PyData := .tuple (xs.map .str)
def Lore.row (L : Lore Str) (x : Str) : PyData := .tuple [.str x, .int (L.c x), .int (L.l x), .str (L.s x)]
def Lore.d (L : Lore Str) : PyData := .tuple (L.N.map L.row)
theorem dle_str (x y : Str) : dle (.str x) (.str y) = leS x y := congrFun (congrFun (PySem.W.dataLe_str (fun z : Str => z)) x) y
theorem sort_strs (xs : List Str) : (xs.map PyData.str).mergeSort dle = (xs.mergeSort leS).map .str := (PySem.W.sort_maps (r := leS) (s := dle) PyData.str (fun a _ b _ => (dle_str a b).symm)).symm
theorem sortOk_strs (xs : List Str) : SortOk (xs.map PyData.str) where
  al := fun d hd e he => by
    obtain ⟨x, _, rfl⟩ := List.mem_map.mp hd
    obtain ⟨y, _, rfl⟩ := List.mem_map.mp he
    rfl
  so := .inr fun d hd => by
    obtain ⟨x, _, rfl⟩ := List.mem_map.mp hd
    exact ⟨by simp, by simp⟩
  dp := fun d hd => by
    obtain ⟨x, _, rfl⟩ := List.mem_map.mp hd
    show (PyData.str x).depth ≤ 32
    simp [PyData.depth]
theorem keysOf_aux {κ β : Type} [DecidableEq κ] : ∀ (es acc : List (κ × β)), (es.foldl (fun acc e => putA acc e.1 e.2) acc).map (·.1) = (es.map (·.1)).foldl (fun acc x => if x ∈ acc then acc else acc ++ [x]) (acc.map (·.1))
  | [], acc => rfl
  | e :: es, acc => by rw [List.foldl_cons, List.map_cons, List.foldl_cons, keysOf_aux es, putA_keys]
theorem keys_mkA {κ β : Type} [DecidableEq κ] (es : List (κ × β)) : (mkA es).map (·.1) = keysOf (es.map (·.1)) := keysOf_aux es []
theorem keysOf_map {α β : Type} [DecidableEq α] [DecidableEq β] (f : α → β) (hf : ∀ x y, f x = f y → x = y) : ∀ (xs acc : List α), (xs.map f).foldl (fun acc x => if x ∈ acc then acc else acc ++ [x]) (acc.map f) = (xs.foldl (fun acc x => if x ∈ acc then acc else acc ++ [x]) acc).map f
  | [], acc => rfl
  | x :: xs, acc => by
    rw [List.map_cons, List.foldl_cons, List.foldl_cons, ← keysOf_map f hf xs]
    congr 1
    by_cases h : x ∈ acc
    · rw [if_pos h, if_pos (List.mem_map.mpr ⟨x, h, rfl⟩)]
    · rw [if_neg h, if_neg, List.map_append]
      · rfl
      · intro q
        obtain ⟨y, h1, h2⟩ := List.mem_map.mp q
        exact h (hf _ _ h2 ▸ h1)
theorem keysOf_len {α : Type} [DecidableEq α] (xs : List α) : (keysOf xs).length ≤ xs.length := by
  have : ∀ (xs acc : List α), (xs.foldl (fun acc x => if x ∈ acc then acc else acc ++ [x]) acc).length ≤ acc.length + xs.length := by
    intro xs
    induction xs with
    | nil => intro acc; exact Nat.le_refl _
    | cons x xs ih =>
      intro acc
      rw [List.foldl_cons, List.length_cons]
      refine Nat.le_trans (ih _) ?_
      split
      · omega
      · rw [List.length_append, List.length_singleton]
        omega
  have h := this xs []
  simpa [keysOf] using h

/-! ### the promises -/
def relHere (ds : List PyData) (d : PyData) : Prop := ∃ L : Lore Str, L.N.length ≤ 1000 ∧ ds = [L.d] ∧ d = namesD L.N
def relGone (ds : List PyData) (d : PyData) : Prop := ∃ L : Lore Str, L.N.length ≤ 1000 ∧ ds = [L.d] ∧ d = namesD (L.gone hdS leS)
def placeOf (N : List Str) (d : PyData) : PyData := match d with
  | .str x => if x ∈ N then .int (N.idxOf x : Nat) else .none
  | _ => .none
def relPlaceOf (ds : List PyData) (d : PyData) : Prop := ∃ (L : Lore Str) (x : PyData), L.N.length ≤ 1000 ∧ ds = [L.d, x] ∧ d = placeOf L.N x
def relRowOf (ds : List PyData) (d : PyData) : Prop := ∃ (L : Lore Str) (x : Str), L.N.length ≤ 1000 ∧ x ∈ L.N ∧ ds = [L.d, .str x] ∧ d = L.row x

section
variable {P : Program} {w : World} {K : Frag} {mg : Str → Option Value} {base : Heap}
/-! ### here -/
abbrev s_here : Stmt := top n_here
theorem sc_here : FnScope ["lore", "row"] ["lore"] (defScope s_here) := ⟨rfl, rfl, rfl, by decide +kernel, rfl, by decide +kernel, by decide +kernel⟩
theorem ok_here {f : Addr} {fd : FuncData} (F : Fun K "here" "here" s_here f fd) (B : Blt mg) : FnOk P w K mg base CX0 1 f fd ["lore"] (spR K relHere) := by
  refine F.ok sc_here (fun vs H Q E h => ?_) (fun cdv A outer s H vs Q E hr h => ?_)
  · obtain ⟨ds, d, h1, ⟨L, _, rfl, rfl⟩, _⟩ := h
    exact h1.length
  · obtain ⟨ds, d, h1, ⟨L, hl, rfl, rfl⟩, k⟩ := h
    obtain ⟨v, _, rfl, hv, h2⟩ := h1.cons_inv
    cases h2.nil_inv
    refine ⟨_, (pss_one (ps_ret (xTuple K B (pe_lc (own := [("row", 1)]) (g := gName 1) (tt := tYes) rfl sc_here.nd (wTup K (pv 0)) (blkOk_by (N := ["lore", "row"]) (sc := defScope s_here) (by decide +kernel)) (fun _ _ _ _ _ => pg_name (i := 1) sc_here.nd rfl (Or.inl rfl)) (fun _ _ _ _ _ => pts_nil) (fun _ _ _ _ _ => xIxT K (pv 1) pe_int))))), ?_⟩
    refine s_retD (K := K) (d_tupleNL (l_lcA (fun x => .str x) (i_tup (ys := L.N) (F := L.row) (d_var rfl hv)).ex (by omega) fun x y H1 e1 hy t => ⟨_, reach_name, rfl, d_ixT (d_var rfl t) d_cI rfl⟩)) (k := fun v H1 e t => k v H1 e t)
/-! ### gone -/
abbrev s_gone : Stmt := top n_gone
theorem sc_gone : FnScope ["lore", "names", "row", "name"] ["lore"] (defScope s_gone) := ⟨rfl, rfl, rfl, by decide +kernel, rfl, by decide +kernel, by decide +kernel⟩
theorem ok_gone {f : Addr} {fd : FuncData} (F : Fun K "gone" "gone" s_gone f fd) (B : Blt mg) (g_HEAD : GloS mg "HEAD" "") (C_here : Cal P w K mg base "here" 1 ["lore"] (spR K relHere)) : FnOk P w K mg base CX0 2 f fd ["lore"] (spR K relGone) := by
  refine F.ok sc_gone (fun vs H Q E h => ?_) (fun cdv A outer s H vs Q E hr h => ?_)
  · obtain ⟨ds, d, h1, ⟨L, _, rfl, rfl⟩, _⟩ := h
    exact h1.length
  · obtain ⟨ds, d, h1, ⟨L, hl, rfl, rfl⟩, k⟩ := h
    obtain ⟨v, _, rfl, hv, h2⟩ := h1.cons_inv
    cases h2.nil_inv
    refine ⟨_, (pss_cons (ps_setDc (i := 1) (own := [("row", 2)]) (g := gName 2) rfl sc_gone.nd rfl rfl (swd_true rfl rfl rfl (by decide +kernel)) (wTup K (pv 0)) (blkOk_by (N := ["lore", "names", "row", "name"]) (sc := defScope s_gone) (by decide +kernel)) (fun _ _ _ _ _ => pg_name (i := 2) sc_gone.nd rfl (Or.inl rfl)) (fun _ _ _ _ _ => pts_one (yNe (xIxT K (pv 2) pe_int) (xGloS g_HEAD))) (fun _ _ _ _ _ => xIxT K (pv 2) pe_int) (fun _ _ _ _ _ => pe_bl))
      (pss_one (ps_ret (xTuple K B (xSorted K hr B (pe_lock (pe_lc (own := [("name", 3)]) (g := gName 3) rfl sc_gone.nd (pi_keys (pv 1)) (blkOk_by (N := ["lore", "names", "row", "name"]) (sc := defScope s_gone) (by decide +kernel)) (fun _ _ _ _ _ => pg_name (i := 3) sc_gone.nd rfl (Or.inl rfl)) (fun _ _ _ _ _ => pts_one (yNotIn K (pv 3) (xCal C_here (hr.mono (by decide)) (pa_cons (pv 0) pa_nil)))) (fun _ _ _ _ _ => pv 3)))))))), ?_⟩
    refine q_asgDD (K := K) (d_dc (fun x => !decide (L.s x = hdS)) (fun x => .inr (L.s x)) (fun _ => .bool true) (i_tup (ys := L.N) (F := L.row) (d_var rfl hv)).ex (by omega) fun x y H1 e1 hy t => ⟨_, reach_name, rfl, et_D (d_neS (d_ixT (d_var rfl t) d_cI rfl) d_cS), fun _ => ⟨d_ixT (d_var rfl t) d_cI rfl, d_cB⟩⟩) fun p kvs H1 hp e1 hd hk => ?_
    have hks : kvs.map (·.1) = (keysOf ((L.N.map L.s).filter fun x => !decide (x = hdS))).map Sum.inr := by
      rw [hk.keys, keys_mkA, List.map_map]
      have e : ((L.N.filter fun x => !decide (L.s x = hdS)).map ((fun e : Key × PyData => e.1) ∘ fun x => ((.inr (L.s x) : Key), PyData.bool true))) = ((L.N.map L.s).filter fun x => !decide (x = hdS)).map Sum.inr := by
        rw [List.filter_map, List.map_map]
        rfl
      rw [e]
      exact keysOf_map Sum.inr (fun x y h => Sum.inr.inj h) _ []
    have hlen : (keysOf ((L.N.map L.s).filter fun x => !decide (x = hdS))).length ≤ 1000 := by
      refine Nat.le_trans (keysOf_len _) (Nat.le_trans (List.length_filter_le _ _) ?_)
      rw [List.length_map]
      exact hl
    have hin : EvLD K (tLockE (tLc (iKeys (tVar 1)) (gName 3) (tTest (tOp (rIn K true) (tVar 3) (tCall (spR K relHere) [] E0 (tCons (tVar 0) tNil)))) (tVar 3) [3])) [some v, some (.ref p), none, none] H1 ((L.goneU hdS).map .str) := by
      refine EvLD.to (l_lcD (fun k => match k with | .inr x => !decide (x ∈ L.N) | _ => false) kD rfl hd hks (by rw [List.length_map]; omega) fun k H2 tx rd hk2 => ?_) ?_
      · obtain ⟨x, hx, rfl⟩ := List.mem_map.mp hk2
        refine ⟨_, reach_name, rfl, et_D (d_notInT (d_var rfl (.str x)) (d_call (da_cons (d_var rfl ((hv.ex e1).tx tx)) da_nil) (spR_pure ⟨L, hl, rfl, rfl⟩))), fun _ => d_var rfl (.str x)⟩
      · rw [List.filter_map, List.map_map]
        rfl
    refine s_retD (K := K) (EvD.to (d_tupleNL (l_sortedNL hin (sortOk_strs _))) ?_) (k := fun u H2 e2 t => k u H2 (e1.trans e2) t)
    rw [sort_strs]
    rfl
end
end AS


set_option Elab.async false
set_option linter.all false
set_option maxRecDepth 100000
set_option maxHeartbeats 4000000
/-! place_of, row_of, late_clash, ring_clash, steps_to. -/
namespace AS
open PySem L2 LamX
open PySem.W (Frag)
open RT
variable [TabsOf]

/-! ### plain -/
theorem find_yes {α : Type} {p : α → Bool} {N : List α} {i : Nat} {y : α} (h : N[i]? = some y) (h0 : (N.take i).find? p = none) (hp : p y = true) : N.find? p = some y := by
  have e : N = N.take i ++ y :: N.drop (i + 1) := by
    have := List.getElem?_eq_some_iff.mp h
    obtain ⟨hl, rfl⟩ := this
    rw [List.getElem_cons_drop, List.take_append_drop]
  rw [e, List.find?_append, h0, Option.none_or, List.find?_cons_of_pos hp]
theorem find_no {α : Type} {p : α → Bool} {N : List α} {i : Nat} {y : α} (h : N[i]? = some y) (h0 : (N.take i).find? p = none) (hp : p y = false) : (N.take (i + 1)).find? p = none := by
  rw [List.take_add_one, h, List.find?_append, h0, Option.none_or]
  show List.find? p [y] = none
  rw [List.find?_cons_of_neg (by rw [hp]; exact Bool.false_ne_true)]
  rfl
theorem findS_yes {α β : Type} {p : α → Option β} {N : List α} {i : Nat} {y : α} {b : β} (h : N[i]? = some y) (h0 : (N.take i).findSome? p = none) (hp : p y = some b) : N.findSome? p = some b := by
  have e : N = N.take i ++ y :: N.drop (i + 1) := by
    have := List.getElem?_eq_some_iff.mp h
    obtain ⟨hl, rfl⟩ := this
    rw [List.getElem_cons_drop, List.take_append_drop]
  rw [e, List.findSome?_append, h0, Option.none_or, List.findSome?_cons, hp]
theorem findS_no {α β : Type} {p : α → Option β} {N : List α} {i : Nat} {y : α} (h : N[i]? = some y) (h0 : (N.take i).findSome? p = none) (hp : p y = none) : (N.take (i + 1)).findSome? p = none := by
  rw [List.take_add_one, h, List.findSome?_append, h0, Option.none_or]
  show List.findSome? p [y] = none
  rw [List.findSome?_cons, hp]
  rfl
theorem getA_mkF {α κ β : Type} [DecidableEq α] [DecidableEq κ] (g : α → κ) (f : α → β) (hg : ∀ x y, g x = g y → x = y) (N : List α) (y : α) : getA (mkA (N.map fun x => (g x, f x))) (g y) = if y ∈ N then some (f y) else none := by
  have : ∀ (n : Nat) (N : List α), N.length = n → getA (mkA (N.map fun x => (g x, f x))) (g y) = if y ∈ N then some (f y) else none := by
    intro n
    induction n with
    | zero =>
      intro N h
      have : N = [] := List.length_eq_zero_iff.mp h
      subst this
      rfl
    | succ n ih =>
      intro N h
      have hne : N ≠ [] := by
        intro z
        rw [z] at h
        cases h
      have e : N = N.dropLast ++ [N.getLast hne] := (List.dropLast_concat_getLast hne).symm
      rw [e, List.map_append, List.map_cons, List.map_nil, mkA_snoc, getA_put, ih N.dropLast (by rw [List.length_dropLast, h]; rfl)]
      by_cases hy : y = N.getLast hne
      · rw [if_pos (by rw [hy]), if_pos (by rw [hy]; simp), hy]
      · rw [if_neg (fun z => hy (hg _ _ z))]
        have hm : y ∈ N.dropLast ++ [N.getLast hne] ↔ y ∈ N.dropLast := by
          simp [hy]
        by_cases h' : y ∈ N.dropLast
        · rw [if_pos h', if_pos (hm.mpr h')]
        · rw [if_neg h', if_neg (fun z => h' (hm.mp z))]
  exact this _ N rfl
theorem valV_A {K : Frag} {H : Hp} {kvs : List (Key × V)} {es : List (Key × PyData)} (h : KAll K H kvs es) (k : Key) : (valV kvs k).isSome = (getA es k).isSome := by
  rcases h.get (k := k) with ⟨h1, h2⟩ | ⟨v, d, h1, h2, _⟩
  · rw [h1, h2]; rfl
  · rw [h1, h2]; rfl
/-- a clash as data -/
def clashD : Option (Clash Str) → PyData
  | none => .none
  | some (.late x) => .tuple [.str "late", .str x]
  | some (.ring xs) => .tuple [.str "ring", namesD xs]
  | some (.between xs) => .tuple [.str "between", namesD xs]
def Lore.up {α : Type} (L : Lore α) : Nat → α → α
  | 0, x => x
  | n + 1, x => L.s (L.up n x)
theorem Lore.up_s {α : Type} (L : Lore α) (n : Nat) (x : α) : L.up n (L.s x) = L.up (n + 1) x := by
  induction n with
  | zero => rfl
  | succ n ih => exact congrArg L.s ih
/-! ### the promises -/
def relLate (ds : List PyData) (d : PyData) : Prop := ∃ L : Lore Str, L.N.length ≤ 1000 ∧ ds = [L.d] ∧ d = clashD L.lateClash
def relRing (ds : List PyData) (d : PyData) : Prop := ∃ L : Lore Str, L.N.length ≤ 1000 ∧ ds = [L.d] ∧ d = clashD L.ringClash
def relSteps (ds : List PyData) (d : PyData) : Prop := ∃ (L : Lore Str) (x y : Str) (k : Nat), L.N.length ≤ 1000 ∧ k ≤ L.N.length ∧ (∀ j, j ≤ k → L.up j x ∈ L.N) ∧ L.s (L.up k x) = y ∧ ds = [L.d, .str x, .str y] ∧ d = namesD (L.stepsTo x y)

section
variable {P : Program} {w : World} {K : Frag} {mg : Str → Option Value} {base : Heap}
/-! ### place_of -/
abbrev s_place_of : Stmt := top n_place_of
theorem sc_place_of : FnScope ["lore", "name", "at", "row"] ["lore", "name"] (defScope s_place_of) := ⟨rfl, rfl, rfl, by decide +kernel, rfl, by decide +kernel, by decide +kernel⟩
/-- is the name at hand the one that is looked for -/
def isAt (x : PyData) (y : Str) : Bool := match x with
  | .str z => decide (y = z)
  | _ => false
theorem isAt_dec {x : PyData} {y : Str} (h : isAt x y = true) : x = .str y := by
  cases x <;> first | cases h | (rw [of_decide_eq_true h])
theorem placeOf_find (x : PyData) : ∀ (N : List Str), N.find? (isAt x) = none → placeOf N x = .none := by
  intro N h
  cases x with
  | str z =>
    show (if z ∈ N then _ else _) = _
    rw [if_neg]
    intro hz
    have := List.find?_eq_none.mp h z hz
    exact this (by show decide (z = z) = true; simp)
  | _ => rfl
theorem placeOf_at {x : PyData} {N : List Str} {i : Nat} {y : Str} (h : N[i]? = some y) (h0 : (N.take i).find? (isAt x) = none) (hp : isAt x y = true) : placeOf N x = .int (i : Nat) := by
  rw [isAt_dec hp]
  show (if y ∈ N then _ else _) = _
  rw [if_pos (List.mem_of_getElem? h)]
  have hi : i < N.length := (List.getElem?_eq_some_iff.mp h).1
  have e : N = N.take i ++ y :: N.drop (i + 1) := by
    obtain ⟨hl, rfl⟩ := List.getElem?_eq_some_iff.mp h
    rw [List.getElem_cons_drop, List.take_append_drop]
  have hn : y ∉ N.take i := fun q => List.find?_eq_none.mp h0 y q hp
  have : N.idxOf y = i := by
    rw [e, List.idxOf_append, if_neg hn, List.idxOf_cons_self, List.length_take]
    omega
  rw [this]
theorem ok_place_of {f : Addr} {fd : FuncData} (F : Fun K "place_of" "place_of" s_place_of f fd) (B : Blt mg) : FnOk P w K mg base CX0 1 f fd ["lore", "name"] (spR K relPlaceOf) := by
  refine F.ok sc_place_of (fun vs H Q E h => ?_) (fun cdv A outer s H vs Q E hr h => ?_)
  · obtain ⟨ds, d, h1, ⟨L, x, _, rfl, rfl⟩, _⟩ := h
    exact h1.length
  · obtain ⟨ds, d, h1, ⟨L, x, hl, rfl, rfl⟩, k⟩ := h
    obtain ⟨v, _, rfl, hv, h2⟩ := h1.cons_inv
    obtain ⟨u, _, rfl, hu, h2⟩ := h2.cons_inv
    cases h2.nil_inv
    refine ⟨_, (pss_cons (ps_for PassesOwn.never rfl (wEnumT K B (pv 0)) (gTupK K (pgs_cons (pg_name (i := 2) sc_place_of.nd rfl (Or.inl rfl)) (pgs_cons (pg_name (i := 3) sc_place_of.nd rfl (Or.inl rfl)) pgs_nil)))
      (pss_one (ps_if (PW.pt (pw_and (xT (xIsi K (n := "str") B (pv 1) B.str (by decide +kernel))) (pw_and1 (yEq (xIxT K (pv 3) pe_int) (pv 1))))) (pss_one (ps_ret (pv 2)))
      pss_nil)))
      (pss_one (ps_ret pe_non))), ?_⟩
    refine q_for (K := K) (i_enumT (ys := L.N) (F := L.row) (d_var rfl hv)) (fun H1 i σ' H' => Tx K H H' ∧ Ex H1 H' ∧ (∃ a b, σ' = [some v, some u, a, b]) ∧ (L.N.take i).find? (isAt x) = none) (fun H1 e => ⟨Tx.ex e, Ex.refl _, ⟨_, _, rfl⟩, rfl⟩) (fun H1 i σ' H' _ _ q => Tx.ex q.2.1) ?_ ?_
    · rintro H1 i z y σ' H' H'' e1 hy ⟨t, ex, ⟨a, b, rfl⟩, hn⟩ ey ht
      obtain ⟨n, j⟩ := y
      rw [List.getElem?_zipIdx] at hy
      obtain ⟨hy', hj⟩ : L.N[i]? = some n ∧ i = j := by
        cases q : L.N[i]? with
        | none => rw [q] at hy; cases hy
        | some m =>
          rw [q] at hy
          simpa using hy
      subst hj
      obtain ⟨u1, u2, t1, t2, r⟩ := reach2 (i := 2) (j := 3) (σ := [some v, some u, a, b]) ht
      refine r _ ?_
      have hu2 := (hu.tx t).ex ey
      refine s_if (et_and (et_DB (d_isi (n := "str") (b := match x with | .str _ => true | _ => false) (d_var rfl hu2) ?_)) fun hb => et_D (K := K) (b := isAt x n) ?_) (fun hb H2 e2 => ?_) (fun hb H2 e2 => ?_)
      · cases x <;> rfl
      · cases x with
        | str z => exact d_eqS (d_ixT (d_var rfl t2) d_cI rfl) (d_var rfl hu2)
        | _ => cases hb
      · have hp : isAt x n = true := by
          cases x with
          | str z => simpa using hb
          | _ => cases hb
        have := placeOf_at hy' hn hp
        refine s_retD (K := K) (d_var rfl (t1.ex e2)) fun v' H3 e3 t3 => k v' H3 ((((e1.trans ex).trans ey).trans e2).trans e3) (this ▸ t3)
      · have hp : isAt x n = false := by
          cases x with
          | str z => simpa using hb
          | _ => rfl
        exact ⟨(t.trans (Tx.ex ey)).trans (Tx.ex e2), (ex.trans ey).trans e2, ⟨_, _, rfl⟩, find_no hy' hn hp⟩
    · rintro H1 σ' H' e1 ⟨t, ex, ⟨a, b, rfl⟩, hn⟩
      rw [List.length_zipIdx, List.take_length] at hn
      refine s_retD (K := K) d_cN fun v' H3 e3 t3 => k v' H3 ((e1.trans ex).trans e3) ((placeOf_find x _ hn).symm ▸ t3)
/-! ### row_of -/
abbrev s_row_of : Stmt := top n_row_of
theorem sc_row_of : FnScope ["lore", "name", "at"] ["lore", "name"] (defScope s_row_of) := ⟨rfl, rfl, rfl, by decide +kernel, rfl, by decide +kernel, by decide +kernel⟩
theorem atI_row {L : Lore Str} {x : Str} (hx : x ∈ L.N) : atI (L.N.map L.row) (L.N.idxOf x : Nat) = some (L.row x) := by
  have hlt : L.N.idxOf x < L.N.length := List.idxOf_lt_length_iff.mpr hx
  unfold atI
  have : ixN (L.N.map L.row).length (L.N.idxOf x : Nat) = some (L.N.idxOf x) := by
    unfold ixN
    rw [List.length_map]
    rw [if_pos (by omega), if_pos (by omega)]
    simp
  rw [this]
  show (L.N.map L.row)[L.N.idxOf x]? = some (L.row x)
  rw [List.getElem?_map, List.getElem?_eq_getElem hlt, List.getElem_idxOf]
  rfl
theorem ok_row_of {f : Addr} {fd : FuncData} (F : Fun K "row_of" "row_of" s_row_of f fd) (B : Blt mg) (C_place_of : Cal P w K mg base "place_of" 1 ["lore", "name"] (spR K relPlaceOf)) : FnOk P w K mg base CX0 2 f fd ["lore", "name"] (spR K relRowOf) := by
  refine F.ok sc_row_of (fun vs H Q E h => ?_) (fun cdv A outer s H vs Q E hr h => ?_)
  · obtain ⟨ds, d, h1, ⟨L, x, _, _, rfl, rfl⟩, _⟩ := h
    exact h1.length
  · obtain ⟨ds, d, h1, ⟨L, x, hl, hx, rfl, rfl⟩, k⟩ := h
    obtain ⟨v, _, rfl, hv, h2⟩ := h1.cons_inv
    obtain ⟨u, _, rfl, hu, h2⟩ := h2.cons_inv
    cases h2.nil_inv
    refine ⟨_, (pss_cons (ps_set (i := 2) sc_row_of.nd rfl (Or.inl rfl) (xCal C_place_of (hr.mono (by decide)) (pa_cons (pv 0) (pa_cons (pv 1) pa_nil))))
      (pss_cons (ps_if (yIsN (pv 2)) (pss_one (ps_never))
      pss_nil)
      (pss_one (ps_ret (xIxT K (pv 0) (pv 2)))))), ?_⟩
    refine q_asgD (K := K) (d := .int (L.N.idxOf x : Nat)) (d_call (da_cons (d_var rfl hv) (da_cons (d_var rfl hu) da_nil)) (spR_pure ⟨L, .str x, hl, rfl, ?_⟩)) fun z H1 e1 hz => ?_
    · show _ = if x ∈ L.N then _ else _
      rw [if_pos hx]
    · refine q_if (b := false) (et_D (K := K) (d_isNone (d_var (i := 2) rfl hz) rfl)) (fun hb => nomatch hb) fun _ H2 e2 => ?_
      refine s_retD (K := K) (d_ixT (d_var rfl ((hv.ex e1).ex e2)) (d_var rfl (hz.ex e2)) (atI_row hx)) fun v' H3 e3 t3 => k v' H3 ((e1.trans e2).trans e3) t3
/-! ### late_clash -/
abbrev s_late_clash : Stmt := top n_late_clash
theorem sc_late_clash : FnScope ["lore", "came", "row", "name", "begun", "looked", "saw"] ["lore"] (defScope s_late_clash) := ⟨rfl, rfl, rfl, by decide +kernel, rfl, by decide +kernel, by decide +kernel⟩
theorem ok_late_clash {f : Addr} {fd : FuncData} (F : Fun K "late_clash" "late_clash" s_late_clash f fd) (B : Blt mg) (g_LATE : GloS mg "LATE" "late") : FnOk P w K mg base CX0 1 f fd ["lore"] (spR K relLate) := by
  refine F.ok sc_late_clash (fun vs H Q E h => ?_) (fun cdv A outer s H vs Q E hr h => ?_)
  · obtain ⟨ds, d, h1, ⟨L, _, rfl, rfl⟩, _⟩ := h
    exact h1.length
  · obtain ⟨ds, d, h1, ⟨L, hl, rfl, rfl⟩, k⟩ := h
    obtain ⟨v, _, rfl, hv, h2⟩ := h1.cons_inv
    cases h2.nil_inv
    refine ⟨_, (pss_cons (ps_setDc (i := 1) (own := [("row", 2)]) (g := gName 2) (tt := tYes) rfl sc_late_clash.nd rfl rfl (swd_true rfl rfl rfl (by decide +kernel)) (wTup K (pv 0)) (blkOk_by (N := ["lore", "came", "row", "name", "begun", "looked", "saw"]) (sc := defScope s_late_clash) (by decide +kernel)) (fun _ _ _ _ _ => pg_name (i := 2) sc_late_clash.nd rfl (Or.inl rfl)) (fun _ _ _ _ _ => pts_nil) (fun _ _ _ _ _ => xIxT K (pv 2) pe_int) (fun _ _ _ _ _ => xIxT K (pv 2) pe_int))
      (pss_cons (ps_for PassesOwn.never rfl (wTup K (pv 0)) (gTupK K (pgs_cons (pg_name (i := 3) sc_late_clash.nd rfl (Or.inl rfl)) (pgs_cons (pg_name (i := 4) sc_late_clash.nd rfl (Or.inl rfl)) (pgs_cons (pg_name (i := 5) sc_late_clash.nd rfl (Or.inl rfl)) (pgs_cons (pg_name (i := 6) sc_late_clash.nd rfl (Or.inl rfl)) pgs_nil)))))
      (pss_one (ps_if (yGt (pe_dget2 (hu_of hr) (pv 1) (pv 6) pe_int ⟨rfl, rfl, rfl, rfl⟩) (pv 5)) (pss_one (ps_ret (pe_tup (pa_cons (xGloS g_LATE) (pa_cons (pv 3) pa_nil)))))
      pss_nil)))
      (pss_one (ps_ret pe_non)))), ?_⟩
    refine q_asgDD (K := K) (d_dc (fun _ => true) (fun x => .inr x) (fun x => .int (L.c x)) (i_tup (ys := L.N) (F := L.row) (d_var rfl hv)).ex (by omega) fun x y H1 e1 hy t => ⟨_, reach_name, rfl, et_yes, fun _ => ⟨d_ixT (d_var rfl t) d_cI rfl, d_ixT (d_var rfl t) d_cI rfl⟩⟩) fun p kvs H1 hp e1 hd hk => ?_
    rw [List.filter_eq_self.mpr (fun _ _ => rfl)] at hk
    refine q_for (K := K) (i_tup (ys := L.N) (F := L.row) (d_var rfl (hv.ex e1))) (fun H2 i σ' H' => Ex H2 H' ∧ (∃ a b c d e, σ' = [some v, some (.ref p), a, b, c, d, e]) ∧ (L.N.take i).find? (fun x => decide (L.l x < L.cameOr (L.s x))) = none) (fun H2 e => ⟨Ex.refl _, ⟨_, _, _, _, _, rfl⟩, rfl⟩) (fun H2 i σ' H' e _ q => Tx.ex q.1) ?_ ?_
    · rintro H2 i z y σ' H' H'' e2 hy ⟨ex, ⟨a, b, c, d, e, rfl⟩, hn⟩ ey ht
      obtain ⟨u1, u2, u3, u4, t1, t2, t3, t4, r⟩ := reach4 (i := 3) (j := 4) (k := 5) (l := 6) (σ := [some v, some (.ref p), a, b, c, d, e]) ht
      refine r _ ?_
      have ex' := (e2.trans ex).trans ey
      have hg : PyData.int (L.cameOr (L.s y)) = (getA (mkA (L.N.map fun x => ((.inr x : Key), PyData.int (L.c x)))) (.inr (L.s y))).getD (.int 0) := by
        have := getA_mkF (fun x : Str => (.inr x : Key)) (fun x => PyData.int (L.c x)) (fun x y h => Sum.inr.inj h) L.N (L.s y)
        rw [this]
        unfold Lore.cameOr
        by_cases h : L.s y ∈ L.N
        · rw [if_pos h, if_pos h]; rfl
        · rw [if_neg h, if_neg h]; rfl
      refine s_if (et_D (K := K) (d_opIB (d_get2 (k := .inr (L.s y)) (ev_var (i := 1) rfl) (d_var (i := 6) rfl t4) d_cI (ex'.at hd) (hk.tx (Tx.ex ex')) hg) (d_var (i := 5) rfl t3))) (fun hb H3 e3 => ?_) (fun hb H3 e3 => ?_)
      · have : L.lateClash = some (.late y) := by
          unfold Lore.lateClash
          rw [find_yes hy hn hb]
          rfl
        refine s_retD (K := K) (d_tup (da_cons d_cS (da_cons (d_var rfl (t1.ex e3)) da_nil)) (show 2 ≤ 100000 by decide)) fun v' H4 e4 t4 => k v' H4 (((e1.trans ex').trans e3).trans e4) (by rw [this]; exact t4)
      · exact ⟨(ex.trans ey).trans e3, ⟨_, _, _, _, _, rfl⟩, find_no hy hn hb⟩
    · rintro H2 σ' H' e2 ⟨ex, ⟨a, b, c, d, e, rfl⟩, hn⟩
      rw [List.take_length] at hn
      have : L.lateClash = none := by
        unfold Lore.lateClash
        rw [hn]
        rfl
      refine s_retD (K := K) d_cN fun v' H3 e3 t3 => k v' H3 (((e1.trans e2).trans ex).trans e3) (by rw [this]; exact t3)
end
end AS


set_option Elab.async false
set_option linter.all false
set_option maxRecDepth 100000
set_option maxHeartbeats 4000000
/-! ring_clash, steps_to. -/
namespace AS
open PySem L2 LamX
open PySem.W (Frag)
open RT
variable [TabsOf]

/-! ### plain -/
theorem Lore.round_stop (L : Lore Str) {met : List Str} {x : Str} (h : ¬ (x ∈ L.N ∧ x ∉ met)) : ∀ n, L.roundFrom n met x = (met, x)
  | 0 => rfl
  | n + 1 => by
    show (if x ∈ L.N ∧ x ∉ met then _ else _) = _
    rw [if_neg h]
theorem nodup_len {α : Type} [DecidableEq α] : ∀ {xs ys : List α}, xs.Nodup → (∀ x ∈ xs, x ∈ ys) → xs.length ≤ ys.length
  | [], _, _, _ => Nat.zero_le _
  | x :: xs, ys, hn, h => by
    rw [List.nodup_cons] at hn
    have hx : x ∈ ys := h x (List.mem_cons_self ..)
    have h1 : xs.length ≤ (ys.erase x).length := nodup_len hn.2 fun y hy => by
      have hne : y ≠ x := fun z => hn.1 (z ▸ hy)
      exact (List.mem_erase_of_ne hne).mpr (h y (List.mem_cons_of_mem _ hy))
    rw [List.length_erase_of_mem hx] at h1
    have : 0 < ys.length := List.length_pos_of_mem hx
    rw [List.length_cons]
    omega
theorem cutD_from {ds : List PyData} {n : Nat} (h : n ≤ ds.length) : cutD ds (some (n : Nat)) none = ds.drop n := by
  unfold cutD
  have h1 : HT.sIx ds.length 0 (some ((n : Nat) : Int)) = n := by
    rw [HT.sIx_nat]
    omega
  have h2 : HT.sIx ds.length ds.length none = ds.length := rfl
  rw [h1, h2, List.take_of_length_le]
  rw [List.length_drop]
  omega
section
variable {P : Program} {w : World} {K : Frag} {mg : Str → Option Value} {base : Heap}
/-! ### ring_clash -/
abbrev s_ring_clash : Stmt := top n_ring_clash
theorem sc_ring_clash : FnScope ["lore", "saw", "row", "name", "met"] ["lore"] (defScope s_ring_clash) := ⟨rfl, rfl, rfl, by decide +kernel, rfl, by decide +kernel, by decide +kernel⟩
theorem ok_ring_clash {f : Addr} {fd : FuncData} (F : Fun K "ring_clash" "ring_clash" s_ring_clash f fd) (B : Blt mg) (g_RING : GloS mg "RING" "ring") (C_here : Cal P w K mg base "here" 1 ["lore"] (spR K relHere)) : FnOk P w K mg base CX0 2 f fd ["lore"] (spR K relRing) := by
  refine F.ok sc_ring_clash (fun vs H Q E h => ?_) (fun cdv A outer s H vs Q E hr h => ?_)
  · obtain ⟨ds, d, h1, ⟨L, _, rfl, rfl⟩, _⟩ := h
    exact h1.length
  · obtain ⟨ds, d, h1, ⟨L, hl, rfl, rfl⟩, k⟩ := h
    obtain ⟨v, _, rfl, hv, h2⟩ := h1.cons_inv
    cases h2.nil_inv
    refine ⟨_, (pss_cons (ps_setDc (i := 1) (own := [("row", 2)]) (g := gName 2) (tt := tYes) rfl sc_ring_clash.nd rfl rfl (swd_true rfl rfl rfl (by decide +kernel)) (wTup K (pv 0)) (blkOk_by (N := ["lore", "saw", "row", "name", "met"]) (sc := defScope s_ring_clash) (by decide +kernel)) (fun _ _ _ _ _ => pg_name (i := 2) sc_ring_clash.nd rfl (Or.inl rfl)) (fun _ _ _ _ _ => pts_nil) (fun _ _ _ _ _ => xIxT K (pv 2) pe_int) (fun _ _ _ _ _ => xIxT K (pv 2) pe_int))
      (pss_cons (ps_for PassesOwn.never rfl (wTup K (xCal C_here (hr.mono (by decide)) (pa_cons (pv 0) pa_nil))) (pg_name (i := 3) sc_ring_clash.nd rfl (Or.inl rfl))
      (pss_cons (ps_set (i := 4) sc_ring_clash.nd rfl (Or.inl rfl) (pe_lst pa_nil))
      (pss_cons (ps_while PassesOwn.never (PW.pt (pw_and (yInD hr (pv 3) (pv 1)) (pw_and1 (yNotIn K (pv 3) (pv 4)))))
      (pss_cons (ps_expr (xBM K PySem.F.plainAttrs_list PySem.F.slot_list_append PySem.F.type_list_append mt_append (pv 4) (pa_cons (pv 3) pa_nil)))
      (pss_one (ps_set (i := 3) sc_ring_clash.nd rfl (Or.inl rfl) (xIxD hr (pv 1) (pv 3))))))
      (pss_one (ps_if (yIn K (pv 3) (pv 4)) (pss_one (ps_ret (pe_tup (pa_cons (xGloS g_RING) (pa_cons (xTuple K B (xSlL K (pv 4) (po_some (xBM K (r := rIndex K) PySem.F.plainAttrs_list PySem.F.slot_list_index PySem.F.type_list_index mt_index (pv 4) (pa_cons (pv 3) pa_nil))) po_none)) pa_nil)))))
      pss_nil)))))
      (pss_one (ps_ret pe_non)))), ?_⟩
    refine q_asgDD (K := K) (d_dc (fun _ => true) (fun x => .inr x) (fun x => .str (L.s x)) (i_tup (ys := L.N) (F := L.row) (d_var rfl hv)).ex (by omega) fun x y H1 e1 hy t => ⟨_, reach_name, rfl, et_yes, fun _ => ⟨d_ixT (d_var rfl t) d_cI rfl, d_ixT (d_var rfl t) d_cI rfl⟩⟩) fun p kvs H1 hp e1 hd hk => ?_
    rw [List.filter_eq_self.mpr (fun _ _ => rfl)] at hk
    have hget : ∀ x : Str, getA (mkA (L.N.map fun x => ((.inr x : Key), PyData.str (L.s x)))) (.inr x) = if x ∈ L.N then some (.str (L.s x)) else none := getA_mkF (fun x : Str => (.inr x : Key)) (fun x => PyData.str (L.s x)) (fun x y h => Sum.inr.inj h) L.N
    refine q_for (K := K) (i_tup (ys := L.N) (F := PyData.str) (d_call (da_cons (d_var rfl (hv.ex e1)) da_nil) (spR_pure ⟨L, hl, rfl, rfl⟩))) (fun H2 i σ' H' => Ex H2 H' ∧ (∃ a b c, σ' = [some v, some (.ref p), a, b, c]) ∧ (L.N.take i).findSome? L.ringAt = none) (fun H2 e => ⟨Ex.refl _, ⟨_, _, _, rfl⟩, rfl⟩) (fun H2 i σ' H' e _ q => Tx.ex q.1) ?_ ?_
    · rintro H2 i z y σ' H' H'' e2 hy ⟨ex, ⟨a, b, c, rfl⟩, hn⟩ ey ht
      obtain rfl := ht.str_inv
      refine reach_name _ ?_
      have ex' := (e2.trans ex).trans ey
      refine q_asgLD (K := K) (l_lst da_nil (by decide)) fun l vs H3 hl3 e3 h3 hx3 => ?_
      obtain rfl := hx3.nil_inv
      have ex3 := ex'.trans e3
      refine q_while (fun m σ'' H4 => ∃ met x, m = L.N.length - met.length ∧ σ'' = [some v, some (.ref p), a, some (.str x), some (.ref l)] ∧ Lw K H'' l (met.map .str) H4 ∧ met.Nodup ∧ (∀ u ∈ met, u ∈ L.N) ∧ L.roundFrom (L.N.length + 1 - met.length) met x = L.roundFrom (L.N.length + 1) [] y) _ ⟨[], y, rfl, rfl, ⟨hl3, e3, _, h3, .nil⟩, List.nodup_nil, (fun _ h => absurd h (by simp)), rfl⟩ ?_
      rintro m σ'' H4 ⟨met, x, rfl, rfl, lw, nd, hsub, hr'⟩
      have hml := nodup_len nd hsub
      have ex4 := ex'.trans lw.2.1
      obtain ⟨acc, hacc, hax⟩ := lw.2.2
      obtain rfl := hax.strs_inv
      refine ⟨_, et_and (et_DB (K := K) (d_inD (k := .inr x) (d_var (i := 3) rfl (.str x)) (ev_var (i := 1) rfl) (ex4.at hd))) fun _ => et_D (K := K) (d_notInL (d_var (i := 3) rfl (.str x)) (ev_var (i := 4) rfl) (SqL.of hacc)), fun hb H5 e5 => ?_, fun hb H5 e5 => ?_⟩
      · rw [valV_A (hk.tx (Tx.ex ex4)), hget] at hb
        have hb' : x ∈ L.N ∧ x ∉ met := by
          by_cases h : x ∈ L.N
          · rw [if_pos h] at hb
            exact ⟨h, by simpa using hb⟩
          · rw [if_neg h] at hb
            exact absurd hb (by simp)
        refine q_append (K := K) (i := 4) (p := l) rfl (lw.ex e5) (by rw [List.length_map]; omega) (d_var (i := 3) rfl (.str x)) fun H6 H7 e6 lw7 tx7 _ => ?_
        have ex7 := ex'.trans lw7.2.1
        refine s_asgD (K := K) (d_getD (k := .inr x) (d := .str (L.s x)) (ev_var (i := 1) rfl) (d_var (i := 3) rfl (.str x)) (ex7.at hd) (hk.tx (Tx.ex ex7)) (by rw [hget, if_pos hb'.1])) fun v8 H8 e8 t8 => ?_
        obtain rfl := t8.str_inv
        have nd' : (met ++ [x]).Nodup := by
          rw [List.nodup_append]
          refine ⟨nd, by simp, fun a ha b hb2 => ?_⟩
          rw [List.mem_singleton] at hb2
          rintro rfl
          exact hb'.2 (hb2 ▸ ha)
        have hsub' : ∀ u ∈ met ++ [x], u ∈ L.N := fun u hu => by
          rcases List.mem_append.mp hu with q | q
          · exact hsub u q
          · rw [List.mem_singleton] at q
            rw [q]
            exact hb'.1
        have hml' := nodup_len nd' hsub'
        rw [List.length_append, List.length_singleton] at hml'
        refine ⟨L.N.length - (met ++ [x]).length, by rw [List.length_append, List.length_singleton]; omega, met ++ [x], L.s x, rfl, rfl, ?_, nd', hsub', ?_⟩
        · rw [List.map_append]
          exact lw7.ex e8
        · rw [← hr', List.length_append, List.length_singleton]
          have e1 : L.N.length + 1 - met.length = (L.N.length + 1 - (met.length + 1)) + 1 := by omega
          rw [e1]
          show _ = if x ∈ L.N ∧ x ∉ met then _ else _
          rw [if_pos hb']
      · rw [valV_A (hk.tx (Tx.ex ex4)), hget] at hb
        have hb' : ¬ (x ∈ L.N ∧ x ∉ met) := by
          rintro ⟨h1, h2⟩
          rw [if_pos h1, decide_eq_false h2] at hb
          exact absurd hb (by simp)
        rw [L.round_stop hb'] at hr'
        have hra : L.ringAt y = if x ∈ met then some (met.drop (met.idxOf x)) else none := by
          unfold Lore.ringAt
          rw [← hr']
        have ex5 := ex4.trans e5
        refine s_if (et_D (K := K) (d_inL (d_var (i := 3) rfl (.str x)) (ev_var (i := 4) rfl) (SqL.of (e5.at hacc)))) (fun hb2 H6 e6 => ?_) (fun hb2 H6 e6 => ?_)
        · have hx := of_decide_eq_true hb2
          rw [if_pos hx] at hra
          have hrc : L.ringClash = some (.ring (met.drop (met.idxOf x))) := by
            unfold Lore.ringClash
            rw [findS_yes hy hn hra]
            rfl
          have hacc6 := (e5.trans e6).at hacc
          refine s_retD (K := K) (d_tup (da_cons d_cS (da_cons (d_tupleNL (l_slL (ev_var (i := 4) rfl) (SqL.of hacc6) (.strs met) (o_some (d_indexL (ev_var (i := 4) rfl) (SqL.of hacc6) (d_var (i := 3) rfl (.str x)) hx)) o_none)) da_nil)) (show 2 ≤ 100000 by decide)) fun v' H7 e7 t7 => k v' H7 (((e1.trans ex5).trans e6).trans e7) ?_
          rw [hrc]
          have : cutD (met.map PyData.str) (some ((met.idxOf x : Nat) : Int)) none = (met.drop (met.idxOf x)).map .str := by
            rw [cutD_from (by rw [List.length_map]; exact Nat.le_of_lt (List.idxOf_lt_length_iff.mpr hx)), List.map_drop]
          rw [this] at t7
          exact t7
        · have hx := of_decide_eq_false hb2
          rw [if_neg hx] at hra
          exact ⟨(((ex.trans ey).trans lw.2.1).trans e5).trans e6, ⟨_, _, _, rfl⟩, findS_no hy hn hra⟩
    · rintro H2 σ' H' e2 ⟨ex, ⟨a, b, c, rfl⟩, hn⟩
      rw [List.take_length] at hn
      have : L.ringClash = none := by
        unfold Lore.ringClash
        rw [hn]
        rfl
      refine s_retD (K := K) d_cN fun v' H3 e3 t3 => k v' H3 (((e1.trans e2).trans ex).trans e3) (by rw [this]; exact t3)
/-! ### steps_to -/
abbrev s_steps_to : Stmt := top n_steps_to
theorem sc_steps_to : FnScope ["lore", "name", "seen", "found"] ["lore", "name", "seen"] (defScope s_steps_to) := ⟨rfl, rfl, rfl, by decide +kernel, rfl, by decide +kernel, by decide +kernel⟩
theorem atI_last {ds : List PyData} {d : PyData} : atI (ds ++ [d]) (-1) = some d := by
  unfold atI
  have : ixN (ds ++ [d]).length (-1) = some ds.length := by
    unfold ixN
    rw [List.length_append, List.length_singleton]
    rw [if_neg (by omega), if_pos (by omega)]
    congr 1
    omega
  rw [this]
  simp
theorem ok_steps_to {f : Addr} {fd : FuncData} (F : Fun K "steps_to" "steps_to" s_steps_to f fd) (B : Blt mg) (C_row_of : Cal P w K mg base "row_of" 2 ["lore", "name"] (spR K relRowOf)) : FnOk P w K mg base CX0 3 f fd ["lore", "name", "seen"] (spR K relSteps) := by
  refine F.ok sc_steps_to (fun vs H Q E h => ?_) (fun cdv A outer s H vs Q E hr h => ?_)
  · obtain ⟨ds, d, h1, ⟨L, x, y, n, _, _, _, _, rfl, rfl⟩, _⟩ := h
    exact h1.length
  · obtain ⟨ds, d, h1, ⟨L, x, y, n, hl, hn, hin, hto, rfl, rfl⟩, k⟩ := h
    obtain ⟨v, _, rfl, hv, h2⟩ := h1.cons_inv
    obtain ⟨u, _, rfl, hu, h2⟩ := h2.cons_inv
    obtain ⟨z, _, rfl, hz, h2⟩ := h2.cons_inv
    cases h2.nil_inv
    obtain rfl := hu.str_inv
    obtain rfl := hz.str_inv
    refine ⟨_, (pss_cons (ps_set (i := 3) sc_steps_to.nd rfl (Or.inl rfl) (pe_lst (pa_cons (pv 1) pa_nil)))
      (pss_cons (ps_while PassesOwn.never (yNe (xIxT K (xCal C_row_of (hr.mono (by decide)) (pa_cons (pv 0) (pa_cons (xIxL K (pv 3) (xNeg pe_int)) pa_nil))) pe_int) (pv 2))
      (pss_one (ps_expr (xBM K PySem.F.plainAttrs_list PySem.F.slot_list_append PySem.F.type_list_append mt_append (pv 3) (pa_cons (xIxT K (xCal C_row_of (hr.mono (by decide)) (pa_cons (pv 0) (pa_cons (xIxL K (pv 3) (xNeg pe_int)) pa_nil))) pe_int) pa_nil)))))
      (pss_one (ps_ret (xTupRev K B (pv 3)))))), ?_⟩
    refine q_asgLD (K := K) (l_lst (da_cons (d_var (i := 1) rfl (.str x)) da_nil) (show 1 ≤ 100000 by decide)) fun l vs H1 hl1 e1 h1 hx1 => ?_
    refine q_while (fun m σ' H2 => ∃ found j, m = n - j ∧ j ≤ n ∧ σ' = [some v, some (.str x), some (.str y), some (.ref l)] ∧ Lw K H l ((found ++ [L.up j x]).map .str) H2 ∧ found.length = j ∧ L.stepsUp y (L.N.length + 1 - j) (found ++ [L.up j x]) (L.up j x) = L.stepsUp y (L.N.length + 1) [x] x) _ ⟨[], 0, rfl, Nat.zero_le _, rfl, ⟨hl1, e1, _, h1, hx1⟩, rfl, rfl⟩ ?_
    rintro m σ' H2 ⟨found, j, rfl, hj, rfl, lw, hfl, hst⟩
    obtain ⟨acc, hacc, hax⟩ := lw.2.2
    have hd : ∀ {H3 : Hp}, Ex H2 H3 → EvD K (tOp (rIxT K) (tCall (spR K relRowOf) [] E0 (tCons (tVar 0) (tCons (tOp (rIxL K) (tVar 3) (tUn (rU fun i => .int (-i)) (tC (.int 1)))) tNil))) (tC (.int 3))) [some v, some (.str x), some (.str y), some (.ref l)] H3 (.str (L.s (L.up j x))) := fun {H3} e3 => by
      refine d_ixT (d_call (da_cons (d_var rfl ((hv.ex lw.2.1).ex e3)) (da_cons (d_ixL (ev_var (i := 3) rfl) (d_neg d_cI) (SqL.of (e3.at hacc)) (hax.ex e3) ?_) da_nil)) (spR_pure ⟨L, L.up j x, hl, hin j hj, rfl, rfl⟩)) d_cI rfl
      rw [List.map_append]
      exact atI_last
    have hfuel : L.N.length + 1 - j = (L.N.length + 1 - (j + 1)) + 1 := by omega
    refine ⟨_, et_D (K := K) (d_neS (hd (Ex.refl _)) (d_var (i := 2) rfl (.str y))), fun hb H3 e3 => ?_, fun hb H3 e3 => ?_⟩
    · have hne : L.s (L.up j x) ≠ y := by simpa using hb
      have hjn : j < n := by
        rcases Nat.lt_or_ge j n with q | q
        · exact q
        · exfalso
          have : j = n := Nat.le_antisymm hj q
          rw [this] at hne
          exact hne hto
      refine s_append (K := K) (i := 3) (p := l) rfl (lw.ex e3) (by rw [List.length_map, List.length_append, List.length_singleton]; omega) (hd e3) fun H4 H5 e4 lw5 _ _ => ?_
      refine ⟨n - (j + 1), by omega, found ++ [L.up j x], j + 1, rfl, hjn, rfl, ?_, by rw [List.length_append, List.length_singleton, hfl], ?_⟩
      · rw [List.map_append]
        exact lw5
      · rw [← hst, hfuel]
        show _ = if L.s (L.up j x) = y then _ else _
        rw [if_neg hne]
        rfl
    · have he : L.s (L.up j x) = y := by simpa using hb
      have : L.stepsUp y (L.N.length + 1) [x] x = found ++ [L.up j x] := by
        rw [← hst, hfuel]
        show (if L.s (L.up j x) = y then _ else _) = _
        rw [if_pos he]
      refine s_retD (K := K) (d_tupRevL (ev_var (i := 3) rfl) (SqL.of (e3.at hacc)) (hax.ex e3)) fun v' H4 e4 t4 => k v' H4 ((lw.2.1.trans e3).trans e4) ?_
      unfold Lore.stepsTo
      rw [this]
      show Dt K H4 v' (.tuple ((found ++ [L.up j x]).reverse.map .str))
      rw [List.map_reverse]
      exact t4
end
end AS


set_option Elab.async false
set_option linter.all false
set_option maxRecDepth 100000
set_option maxHeartbeats 4000000
/-! The gluer: what it is in the heap; put, least_of. -/
namespace AS
open PySem L2 LamX
open PySem.W (Frag)
open RT
variable [TabsOf]

/-- all names of a lore: those here, the head, those gone -/
def Lore.dom (L : Lore Str) : List Str := L.N ++ hdS :: L.gone hdS leS
theorem mem_keysOf {α : Type} [DecidableEq α] (x : α) : ∀ (xs acc : List α), x ∈ xs.foldl (fun acc x => if x ∈ acc then acc else acc ++ [x]) acc ↔ x ∈ acc ∨ x ∈ xs
  | [], acc => by simp
  | y :: xs, acc => by
    rw [List.foldl_cons, mem_keysOf x xs]
    by_cases h : y ∈ acc
    · rw [if_pos h]
      constructor
      · rintro (q | q)
        · exact .inl q
        · exact .inr (List.mem_cons_of_mem _ q)
      · rintro (q | q)
        · exact .inl q
        · rcases List.mem_cons.mp q with z | z
          · rw [z]
            exact .inl h
          · exact .inr z
    · rw [if_neg h, List.mem_append, List.mem_singleton, List.mem_cons]
      constructor
      · rintro ((q | q) | q)
        · exact .inl q
        · exact .inr (.inl q)
        · exact .inr (.inr q)
      · rintro (q | q | q)
        · exact .inl (.inl q)
        · exact .inl (.inr q)
        · exact .inr q
theorem nodup_keysOf {α : Type} [DecidableEq α] : ∀ (xs acc : List α), acc.Nodup → (xs.foldl (fun acc x => if x ∈ acc then acc else acc ++ [x]) acc).Nodup
  | [], acc, h => h
  | y :: xs, acc, h => by
    rw [List.foldl_cons]
    refine nodup_keysOf xs _ ?_
    by_cases q : y ∈ acc
    · rw [if_pos q]
      exact h
    · rw [if_neg q, List.nodup_append]
      exact ⟨h, by simp, fun a ha b hb => by
        rw [List.mem_singleton] at hb
        rintro rfl
        exact q (hb ▸ ha)⟩
theorem Lore.mem_goneU {α : Type} [DecidableEq α] (L : Lore α) (hd x : α) : x ∈ L.goneU hd ↔ (∃ y ∈ L.N, L.s y = x) ∧ x ≠ hd ∧ x ∉ L.N := by
  unfold Lore.goneU keysOf
  rw [List.mem_filter, mem_keysOf, List.mem_filter, List.mem_map]
  constructor
  · rintro ⟨h1 | ⟨⟨y, h1, h2⟩, h3⟩, h4⟩
    · cases h1
    · exact ⟨⟨y, h1, h2⟩, by simpa using h3, by simpa using h4⟩
  · rintro ⟨⟨y, h1, h2⟩, h3, h4⟩
    exact ⟨.inr ⟨⟨y, h1, h2⟩, by simpa using h3⟩, by simpa using h4⟩
theorem Lore.goneU_nodup {α : Type} [DecidableEq α] (L : Lore α) (hd : α) : (L.goneU hd).Nodup := (nodup_keysOf _ _ List.nodup_nil).filter _
theorem Lore.mem_gone (L : Lore Str) (x : Str) : x ∈ L.gone hdS leS ↔ (∃ y ∈ L.N, L.s y = x) ∧ x ≠ hdS ∧ x ∉ L.N := by
  unfold Lore.gone
  rw [(List.mergeSort_perm _ _).mem_iff, L.mem_goneU]
theorem Lore.gone_nodup (L : Lore Str) : (L.gone hdS leS).Nodup := (List.mergeSort_perm _ _).nodup_iff.mpr (L.goneU_nodup hdS)
theorem Lore.gone_len (L : Lore Str) : (L.gone hdS leS).length ≤ L.N.length := by
  unfold Lore.gone
  rw [(List.mergeSort_perm _ _).length_eq]
  unfold Lore.goneU
  refine Nat.le_trans (List.length_filter_le _ _) (Nat.le_trans (keysOf_len _) (Nat.le_trans (List.length_filter_le _ _) ?_))
  rw [List.length_map]
  exact Nat.le_refl _
theorem Lore.saw_dom (L : Lore Str) {x : Str} (h : x ∈ L.N) : L.s x ∈ L.dom := by
  unfold Lore.dom
  by_cases h1 : L.s x ∈ L.N
  · exact List.mem_append_left _ h1
  · refine List.mem_append_right _ ?_
    by_cases h2 : L.s x = hdS
    · rw [h2]
      exact List.mem_cons_self ..
    · exact List.mem_cons_of_mem _ ((L.mem_gone _).mpr ⟨⟨x, h, rfl⟩, h2, h1⟩)
theorem Lore.here_dom (L : Lore Str) {x : Str} (h : x ∈ L.N) : x ∈ L.dom := List.mem_append_left _ h

/-- where the gluer's things are -/
structure GA where
  a : Addr
  dx : Addr
  pc : Addr
  ph : Addr
  pg : Addr
  ad : Str → Addr
def GA.S (A : GA) (L : Lore Str) : Addr → Prop := fun b => b = A.a ∨ b = A.ph ∨ b = A.pg ∨ ∃ x ∈ L.dom, b = A.ad x
def gluedD (t : Str × Str × Str) : PyData := .tuple [.str t.1, .str t.2.1, .str t.2.2]
def Lore.cameA (L : Lore Str) : List (Key × PyData) := mkA (L.N.map fun x => ((.inr x : Key), PyData.int (L.c x)))
theorem Lore.cameA_get (L : Lore Str) (x : Str) : getA L.cameA (.inr x) = if x ∈ L.N then some (.int (L.c x)) else none := getA_mkF (fun x : Str => (.inr x : Key)) (fun x => PyData.int (L.c x)) (fun x y h => Sum.inr.inj h) L.N x
abbrev lkF (fs : List (Str × V)) (f : Str) : Option V := fs.lookup f
structure GlH (K : Frag) (C : Addr) (A : GA) (L : Lore Str) (G : Glue Str) (H : Hp) : Prop where
  ins : ∃ fs v u, H A.a = some (.ins C A.dx fs) ∧ fs.length < 10 ∧ lkF fs "put" = none ∧ lkF fs "least_of" = none ∧ lkF fs "of_lore" = some v ∧ Dt K H v L.d ∧ lkF fs "came" = some (.ref A.pc) ∧ lkF fs "held" = some (.ref A.ph) ∧ lkF fs "glued" = some (.ref A.pg) ∧ lkF fs "clash" = some u ∧ Dt K H u (clashD G.clash)
  came : ∃ kvs, H A.pc = some (.dK kvs) ∧ KAll K H kvs L.cameA
  held : ∃ hs, H A.ph = some (.dK hs) ∧ hs.map (·.1) = L.dom.map .inr ∧ ∀ x ∈ L.dom, valV hs (.inr x) = some (.ref (A.ad (G.own x)))
  lists : ∀ k ∈ L.dom, H (A.ad k) = some (.lst ((G.cont k).map V.str))
  glued : ∃ gs, H A.pg = some (.lst gs) ∧ DtAll K H gs (G.glued.map gluedD)
  inj : ∀ x ∈ L.dom, ∀ y ∈ L.dom, A.ad x = A.ad y → x = y
  sep : (∀ k ∈ L.dom, A.ad k ≠ A.pg) ∧ A.ph ≠ A.pc
  ownD : ∀ x ∈ L.dom, G.own x ∈ L.dom
section
variable {K : Frag} {C : Addr} {A : GA} {L : Lore Str} {G : Glue Str} {H H' : Hp}
theorem GlH.noTup (g : GlH K C A L G H) : ∀ b, A.S L b → NoTup (H b) := by
  rintro b (rfl | rfl | rfl | ⟨x, hx, rfl⟩)
  · obtain ⟨fs, v, u, h, _⟩ := g.ins
    rw [h]
    trivial
  · obtain ⟨fs, h, _⟩ := g.held
    rw [h]
    trivial
  · obtain ⟨fs, h, _⟩ := g.glued
    rw [h]
    trivial
  · rw [g.lists x hx]
    trivial
theorem GlH.known (g : GlH K C A L G H) : ∀ b, A.S L b → H b ≠ none := by
  rintro b (rfl | rfl | rfl | ⟨x, hx, rfl⟩)
  · obtain ⟨fs, v, u, h, _⟩ := g.ins
    rw [h]
    exact fun z => nomatch z
  · obtain ⟨fs, h, _⟩ := g.held
    rw [h]
    exact fun z => nomatch z
  · obtain ⟨fs, h, _⟩ := g.glued
    rw [h]
    exact fun z => nomatch z
  · rw [g.lists x hx]
    exact fun z => nomatch z
theorem GlH.ex (g : GlH K C A L G H) (e : Ex H H') : GlH K C A L G H' where
  ins := by
    obtain ⟨fs, v, u, h1, h2, h3, h4, h5, h6, h7, h8, h9, h10, h11⟩ := g.ins
    exact ⟨fs, v, u, e.at h1, h2, h3, h4, h5, h6.ex e, h7, h8, h9, h10, h11.ex e⟩
  came := by
    obtain ⟨kvs, h1, h2⟩ := g.came
    exact ⟨kvs, e.at h1, h2.tx (Tx.ex e)⟩
  held := by
    obtain ⟨hs, h1, h2⟩ := g.held
    exact ⟨hs, e.at h1, h2⟩
  lists := fun k hk => e.at (g.lists k hk)
  glued := by
    obtain ⟨gs, h1, h2⟩ := g.glued
    exact ⟨gs, e.at h1, h2.ex e⟩
  inj := g.inj
  sep := g.sep
  ownD := g.ownD
end
theorem lkF_put (f g : Str) (v : V) (fs : List (Str × V)) : lkF (putF f v fs) g = if g = f then some v else lkF fs g := lookup_putF f g v fs
theorem putF_len {f : Str} {v : V} : ∀ {fs : List (Str × V)}, (lkF fs f).isSome = true → (putF f v fs).length = fs.length
  | [], q => by cases q
  | (n, w') :: fs, q => by
    show (if n = f then (n, v) :: fs else (n, w') :: putF f v fs).length = _
    by_cases z : n = f
    · rw [if_pos z]
      rfl
    · rw [if_neg z]
      have hne : (f == n) = false := by
        rw [beq_eq_false_iff_ne]
        exact fun t => z t.symm
      have e : lkF ((n, w') :: fs) f = lkF fs f := by
        show List.lookup f ((n, w') :: fs) = _
        rw [List.lookup_cons, hne]
      rw [e] at q
      simp only [List.length_cons]
      rw [putF_len q]
section
variable {K : Frag} {C : Addr} {A : GA} {L : Lore Str} {G : Glue Str} {H : Hp}
theorem ne_obj {H : Hp} {b p : Addr} {o u : HO} (hb : H b = some o) (hp : H p = some u) (h : o ≠ u) : b ≠ p := fun z => h (Option.some.inj (by rw [← hb, z, hp]))
/-- the field clash is written -/
theorem GlH.setClash {cl : Option (Clash Str)} {u : V} {fs : List (Str × V)} (g : GlH K C A L G H) (hi : H A.a = some (.ins C A.dx fs)) (t : Dt K H u (clashD cl)) : GlH K C A L { G with clash := cl } (upd H A.a (.ins C A.dx (putF "clash" u fs))) := by
  obtain ⟨fs', v0, u0, hi', hfl, hp, hlo, ho, htl, hca, hhe, hgl, hcs, htc⟩ := g.ins
  rw [hi] at hi'
  cases hi'
  have tx : Tx K H (upd H A.a (.ins C A.dx (putF "clash" u fs))) := Tx.ins hi _
  refine { ins := ⟨putF "clash" u fs, v0, u, upd_same, ?_, ?_, ?_, ?_, htl.tx tx, ?_, ?_, ?_, ?_, t.tx tx⟩, came := ?_, held := ?_, lists := fun k hk => ?_, glued := ?_, inj := g.inj, sep := g.sep, ownD := g.ownD }
  · rw [putF_len (by rw [hcs]; rfl)]
    exact hfl
  · rw [lkF_put, if_neg (by decide)]; exact hp
  · rw [lkF_put, if_neg (by decide)]; exact hlo
  · rw [lkF_put, if_neg (by decide)]; exact ho
  · rw [lkF_put, if_neg (by decide)]; exact hca
  · rw [lkF_put, if_neg (by decide)]; exact hhe
  · rw [lkF_put, if_neg (by decide)]; exact hgl
  · rw [lkF_put, if_pos rfl]
  · obtain ⟨kvs, h1, h2⟩ := g.came
    refine ⟨kvs, ?_, h2.tx tx⟩
    rw [upd_ne (ne_obj h1 hi (by intro z; cases z))]
    exact h1
  · obtain ⟨hs, h1, h2⟩ := g.held
    refine ⟨hs, ?_, h2⟩
    rw [upd_ne (ne_obj h1 hi (by intro z; cases z))]
    exact h1
  · have := g.lists k hk
    rw [upd_ne (ne_obj this hi (by intro z; cases z))]
    exact this
  · obtain ⟨gs, h1, h2⟩ := g.glued
    refine ⟨gs, ?_, h2.tx tx⟩
    rw [upd_ne (ne_obj h1 hi (by intro z; cases z))]
    exact h1
theorem GlH.addGlued {t : Str × Str × Str} {u : V} {gs : List V} (g : GlH K C A L G H) (hg : H A.pg = some (.lst gs)) (ht : Dt K H u (gluedD t)) : GlH K C A L { G with glued := G.glued ++ [t] } (upd H A.pg (.lst (gs ++ [u]))) := by
  have tx : Tx K H (upd H A.pg (.lst (gs ++ [u]))) := Tx.lst hg
  obtain ⟨gs', hg', hgx⟩ := g.glued
  rw [hg] at hg'
  cases hg'
  refine { ins := ?_, came := ?_, held := ?_, lists := fun k hk => ?_, glued := ?_, inj := g.inj, sep := g.sep, ownD := g.ownD }
  · obtain ⟨fs, v, u, h1, h2, h3, h4, h5, h6, h7, h8, h9, h10, h11⟩ := g.ins
    refine ⟨fs, v, u, ?_, h2, h3, h4, h5, h6.tx tx, h7, h8, h9, h10, h11.tx tx⟩
    rw [upd_ne (ne_obj h1 hg (by intro z; cases z))]
    exact h1
  · obtain ⟨kvs, h1, h2⟩ := g.came
    refine ⟨kvs, ?_, h2.tx tx⟩
    rw [upd_ne (ne_obj h1 hg (by intro z; cases z))]
    exact h1
  · obtain ⟨hs, h1, h2⟩ := g.held
    refine ⟨hs, ?_, h2⟩
    rw [upd_ne (ne_obj h1 hg (by intro z; cases z))]
    exact h1
  · rw [upd_ne (g.sep.1 k hk)]
    exact g.lists k hk
  · refine ⟨_, upd_same, ?_⟩
    rw [List.map_append]
    exact (hgx.tx tx).append (.one (ht.tx tx))
theorem GlH.grow {k : Str} {m : List Str} (g : GlH K C A L G H) (hk : k ∈ L.dom) : GlH K C A L { G with cont := setF G.cont k (G.cont k ++ m) } (upd H (A.ad k) (.lst ((G.cont k ++ m).map V.str))) := by
  have hl := g.lists k hk
  have tx : Tx K H (upd H (A.ad k) (.lst ((G.cont k ++ m).map V.str))) := Tx.lst hl
  refine { ins := ?_, came := ?_, held := ?_, lists := fun j hj => ?_, glued := ?_, inj := g.inj, sep := g.sep, ownD := g.ownD }
  · obtain ⟨fs, v, u, h1, h2, h3, h4, h5, h6, h7, h8, h9, h10, h11⟩ := g.ins
    refine ⟨fs, v, u, ?_, h2, h3, h4, h5, h6.tx tx, h7, h8, h9, h10, h11.tx tx⟩
    rw [upd_ne (ne_obj h1 hl (by intro z; cases z))]
    exact h1
  · obtain ⟨kvs, h1, h2⟩ := g.came
    refine ⟨kvs, ?_, h2.tx tx⟩
    rw [upd_ne (ne_obj h1 hl (by intro z; cases z))]
    exact h1
  · obtain ⟨hs, h1, h2⟩ := g.held
    refine ⟨hs, ?_, h2⟩
    rw [upd_ne (ne_obj h1 hl (by intro z; cases z))]
    exact h1
  · show _ = some (HO.lst ((setF G.cont k (G.cont k ++ m) j).map V.str))
    unfold setF
    by_cases z : j = k
    · rw [if_pos z, z, upd_same]
    · rw [if_neg z, upd_ne (fun q => z (g.inj j hj k hk q))]
      exact g.lists j hj
  · obtain ⟨gs, h1, h2⟩ := g.glued
    refine ⟨gs, ?_, h2.tx tx⟩
    rw [upd_ne (fun z => g.sep.1 k hk z.symm)]
    exact h1
theorem GlH.setOwn {own : Str → Str} {hs hs' : List (Key × V)} (g : GlH K C A L G H) (hh : H A.ph = some (.dK hs)) (h1 : hs'.map (·.1) = L.dom.map .inr) (h2 : ∀ x ∈ L.dom, valV hs' (.inr x) = some (.ref (A.ad (own x)))) (h3 : ∀ x ∈ L.dom, own x ∈ L.dom) : GlH K C A L { G with own := own } (upd H A.ph (.dK hs')) := by
  have tx : Tx K H (upd H A.ph (.dK hs')) := Tx.dk hh _
  refine { ins := ?_, came := ?_, held := ⟨hs', upd_same, h1, h2⟩, lists := fun j hj => ?_, glued := ?_, inj := g.inj, sep := g.sep, ownD := h3 }
  · obtain ⟨fs, v, u, h1, h2, h3, h4, h5, h6, h7, h8, h9, h10, h11⟩ := g.ins
    refine ⟨fs, v, u, ?_, h2, h3, h4, h5, h6.tx tx, h7, h8, h9, h10, h11.tx tx⟩
    rw [upd_ne (ne_obj h1 hh (by intro z; cases z))]
    exact h1
  · obtain ⟨kvs, h1, h2⟩ := g.came
    refine ⟨kvs, ?_, h2.tx tx⟩
    rw [upd_ne (fun z => g.sep.2 z.symm)]
    exact h1
  · have := g.lists j hj
    rw [upd_ne (ne_obj this hh (by intro z; cases z))]
    exact this
  · obtain ⟨gs, h1, h2⟩ := g.glued
    refine ⟨gs, ?_, h2.tx tx⟩
    rw [upd_ne (ne_obj h1 hh (by intro z; cases z))]
    exact h1
end
/-- what putting a row asks -/
structure PutOk (L : Lore Str) (G : Glue Str) (x : Str) : Prop where
  mem : x ∈ L.N
  saw : L.s x ∈ L.N → L.s x ∈ G.cont (G.own (L.s x))
  beh : ∀ o ∈ L.behind G (L.s x), o ∈ L.N
  chain : ∀ o, (L.behind G (L.s x)).find? (fun o => decide (L.c o < L.l x)) = some o → ∃ k, k ≤ L.N.length ∧ (∀ j, j ≤ k → L.up j o ∈ L.N) ∧ L.s (L.up k o) = L.s x
  short : ∀ o, (L.behind G (L.s x)).find? (fun o => decide (L.c o < L.l x)) = some o → (L.stepsTo o (L.s x)).length ≤ 2000
  ne : G.own x ≠ G.own (L.s x)
  m : ∀ o ∈ G.cont (G.own x), o ∈ L.N
  len : (G.cont (G.own (L.s x))).length + (G.cont (G.own x)).length ≤ 1000
  gl : G.glued.length ≤ 1000
def spPut (K : Frag) (C : Addr) : Sp := fun vs H Q _ => ∃ (A : GA) (L : Lore Str) (G : Glue Str) (x : Str) (v : V), vs = [.ref A.a, v] ∧ L.N.length ≤ 1000 ∧ GlH K C A L G H ∧ G.clash = none ∧ Dt K H v (L.row x) ∧ PutOk L G x ∧
  ∀ H', ExB (A.S L) H H' → GlH K C A L (L.put G x) H' → Q .non H'

section
variable {P : Program} {w : World} {K : Frag} {mg : Str → Option Value} {base : Heap}
/-! ### put -/
abbrev s_Gluer_put : Stmt := inClass (top n_Gluer) n_Gluer_put
theorem sc_Gluer_put : FnScope ["self", "row", "name", "came", "looked", "saw", "block", "behind", "other", "one"] ["self", "row"] (defScope s_Gluer_put) := ⟨rfl, rfl, rfl, by decide +kernel, rfl, by decide +kernel, by decide +kernel⟩
theorem ok_Gluer_put {C f : Addr} {fd : FuncData} (F : Fun K "put" "Gluer.put" s_Gluer_put f fd) (B : Blt mg) (c : Cls K C) (n1 : NoAttr K C "held") (n2 : NoAttr K C "came") (n3 : NoAttr K C "clash") (n4 : NoAttr K C "of_lore") (n5 : NoAttr K C "glued") (g_BETWEEN : GloS mg "BETWEEN" "between")
    (C_steps_to : Cal P w K mg base "steps_to" 3 ["lore", "name", "seen"] (spR K relSteps)) : FnOk P w K mg base CX0 4 f fd ["self", "row"] (spPut K C) := by
  refine F.ok sc_Gluer_put (fun vs H Q E h => ?_) (fun cdv A0 outer s H vs Q E hr h => ?_)
  · obtain ⟨A, L, G, x, v, rfl, _⟩ := h
    rfl
  · obtain ⟨A, L, G, x, v, rfl, hl, g, hcl, hv, ok, k⟩ := h
    refine ⟨_, (pss_cons (ps_asg (pv 1) (gTupK K (pgs_cons (pg_name (i := 2) sc_Gluer_put.nd rfl (Or.inl rfl)) (pgs_cons (pg_name (i := 3) sc_Gluer_put.nd rfl (Or.inl rfl)) (pgs_cons (pg_name (i := 4) sc_Gluer_put.nd rfl (Or.inl rfl)) (pgs_cons (pg_name (i := 5) sc_Gluer_put.nd rfl (Or.inl rfl)) pgs_nil))))))
      (pss_cons (ps_set (i := 6) sc_Gluer_put.nd rfl (Or.inr rfl) (xIxD hr (xFld K (pv 0)) (pv 5)))
      (pss_cons (ps_set (i := 7) sc_Gluer_put.nd rfl (Or.inl rfl) (pe_ifExp (yInD hr (pv 5) (xFld K (pv 0))) (xSlL K (pv 6) (po_some (xAdd (xBM K (r := rIndex K) PySem.F.plainAttrs_list PySem.F.slot_list_index PySem.F.type_list_index mt_index (pv 6) (pa_cons (pv 5) pa_nil)) pe_int)) po_none) (pv 6)))
      (pss_cons (ps_for PassesOwn.never rfl (wList K (pv 7)) (pg_name (i := 8) sc_Gluer_put.nd rfl (Or.inl rfl))
      (pss_one (ps_if (yLt (xIxD hr (xFld K (pv 0)) (pv 8)) (pv 4)) (pss_cons (ps_fld (pv 0) (pe_tup (pa_cons (xGloS g_BETWEEN) (pa_cons (xAddT K (pe_tup (pa_cons (pv 2) pa_nil)) (xCal C_steps_to (hr.mono (by decide)) (pa_cons (xFld K (pv 0)) (pa_cons (pv 8) (pa_cons (pv 5) pa_nil))))) pa_nil))) rfl)
      (pss_one (ps_retN)))
      pss_nil)))
      (pss_cons (ps_expr (xBM K PySem.F.plainAttrs_list PySem.F.slot_list_append PySem.F.type_list_append mt_append (xFld K (pv 0)) (pa_cons (pe_tup (pa_cons (pv 2) (pa_cons (pv 5) (pa_cons (pe_ifExp (xTru K (pv 6)) (xIxL K (pv 6) (xNeg pe_int)) (pv 5)) pa_nil)))) pa_nil)))
      (pss_cons (ps_expr (xBM K PySem.F.plainAttrs_list PySem.F.slot_list_extend PySem.F.type_list_extend mt_extend (pv 6) (pa_cons (xIxD hr (xFld K (pv 0)) (pv 2)) pa_nil)))
      (pss_one (ps_expr (xBM K PySem.F.plainAttrs_dict PySem.F.slot_dict_update PySem.F.type_dict_update mt_update (xFld K (pv 0)) (pa_cons (pe_dc (own := [("one", 9)]) (g := gName 9) (tt := tYes) rfl sc_Gluer_put.nd (wList K (xIxD hr (xFld K (pv 0)) (pv 2))) (blkOk_by (N := ["self", "row", "name", "came", "looked", "saw", "block", "behind", "other", "one"]) (sc := defScope s_Gluer_put) (by decide +kernel)) (fun _ _ _ _ _ => pg_name (i := 9) sc_Gluer_put.nd rfl (Or.inl rfl)) (fun _ _ _ _ _ => pts_nil) (fun _ _ _ _ _ => pv 9) (fun _ _ _ _ _ => pv 6)) pa_nil)))))))))), ?_⟩
    obtain ⟨u1, u2, u3, u4, t1, t2, t3, t4, r⟩ := reach4 (i := 2) (j := 3) (k := 4) (l := 5) (σ := start ["self", "row", "name", "came", "looked", "saw", "block", "behind", "other", "one"] [.ref A.a, v]) hv
    obtain rfl := t1.str_inv
    obtain rfl := t2.int_inv
    obtain rfl := t3.int_inv
    obtain rfl := t4.str_inv
    refine ⟨v, rfl, r _ ?_⟩
    have hx := ok.mem
    have hy := L.saw_dom hx
    obtain ⟨fs, v0, u0, hi, hfl, hp, hlo, ho, htl, hca, hhe, hgl, hcs, htc⟩ := g.ins
    obtain ⟨kvs, hkc, hka⟩ := g.came
    obtain ⟨hs, hh, hhk, hhv⟩ := g.held
    have hself : ∀ {σ : L2.St} {H2 : Hp}, σ[0]? = some (some (.ref A.a)) → Ev (tVar 0) σ H2 (.ref A.a) := fun q => ev_var q
    -- block
    have hb1 := hhv (L.s x) hy
    have hbl := g.lists _ (g.ownD _ hy)
    refine q_asgV (v := .ref (A.ad (G.own (L.s x)))) (ev_getV (k := .inr (L.s x)) (ev_fld (hself rfl) hi c n1 hhe) (d_var (K := K) (i := 5) rfl (.str _)) hh hb1) fun H1 e1 => ?_
    -- behind
    refine q_asgR (K := K) (ds := (L.behind G (L.s x)).map .str) (r_if (b := (valV kvs (.inr (L.s x))).isSome) (et_DB (K := K) (d_inD (k := .inr (L.s x)) (d_var (i := 5) rfl (.str _)) (ev_fld (hself rfl) (e1.at hi) c n2 hca) (e1.at hkc))) (fun hb => ?_) fun hb => ?_) fun pb vb H2 e2 hpb hxb => ?_
    · rw [valV_A hka, L.cameA_get] at hb
      have hyN : L.s x ∈ L.N := by
        by_cases q : L.s x ∈ L.N
        · exact q
        · rw [if_neg q] at hb
          cases hb
      have hin := ok.saw hyN
      refine EvLD.r (EvLD.to (l_slL (ev_var (i := 6) rfl) (SqL.of (e1.at hbl)) (.strs _) (o_some (d_opII (g := fun i j => i + j) (d_indexL (ev_var (i := 6) rfl) (SqL.of (e1.at hbl)) (d_var (i := 5) rfl (.str _)) hin) d_cI)) o_none) ?_)
      have hlt := List.idxOf_lt_length_iff.mpr hin
      have : (((G.cont (G.own (L.s x))).idxOf (L.s x) : Nat) : Int) + 1 = (((G.cont (G.own (L.s x))).idxOf (L.s x) + 1 : Nat) : Int) := rfl
      rw [this, cutD_from (by rw [List.length_map]; exact hlt)]
      unfold Lore.behind
      simp only []
      rw [if_pos hyN, List.map_drop]
    · rw [valV_A hka, L.cameA_get] at hb
      have hyN : L.s x ∉ L.N := fun q => by
        rw [if_pos q] at hb
        cases hb
      have : L.behind G (L.s x) = G.cont (G.own (L.s x)) := by
        unfold Lore.behind
        simp only []
        rw [if_neg hyN]
      rw [this]
      exact r_of (ev_var (i := 6) rfl) (e1.at hbl) (.strs _)
    obtain rfl := hxb.strs_inv
    have e12 := e1.trans e2
    -- the loop
    refine q_for (K := K) (i_list (ys := L.behind G (L.s x)) (F := PyData.str) (ev_var (i := 7) rfl) (SqL.of hpb) hxb) (fun H3 i σ' H' => Ex H3 H' ∧ (∃ a b, σ' = [some (.ref A.a), some v, some (.str x), some (.int (L.c x)), some (.int (L.l x)), some (.str (L.s x)), some (.ref (A.ad (G.own (L.s x)))), some (.ref pb), a, b]) ∧ ((L.behind G (L.s x)).take i).find? (fun o => decide (L.c o < L.l x)) = none) (fun H3 e => ⟨Ex.refl _, ⟨_, _, rfl⟩, rfl⟩) (fun H3 i σ' H' e _ q => q.1) ?_ ?_
    · rintro H3 i z o σ' H' H'' e3 ho' ⟨ex, ⟨a, b, rfl⟩, hn⟩ ey ht
      obtain rfl := ht.str_inv
      refine reach_name _ ?_
      have eall := ((e12.trans e3).trans ex).trans ey
      have hoN := ok.beh o (List.mem_of_getElem? ho')
      refine s_if (et_D (K := K) (d_opIB (g := fun i j => decide (i < j)) (d_getD (k := .inr o) (d := .int (L.c o)) (ev_fld (hself rfl) (eall.at hi) c n2 hca) (d_var (i := 8) rfl (.str o)) (eall.at hkc) (hka.tx (Tx.ex eall)) (by rw [L.cameA_get, if_pos hoN])) (d_var (i := 4) rfl (.int _)))) (fun hb H4 e4 => ?_) (fun hb H4 e4 => ?_)
      · have hf := find_yes ho' hn hb
        obtain ⟨n, hn1, hn2, hn3⟩ := ok.chain o hf
        have eall := eall.trans e4
        refine q_fldD (K := K) (i := 0) rfl (eall.at hi) c n3 (by omega) (d_tup (da_cons d_cS (da_cons (d_catT (d_tup (da_cons (d_var (i := 2) rfl (.str x)) da_nil) (show 1 ≤ 100000 by decide)) (d_call (da_cons (d_fld (hself rfl) (eall.at hi) c n4 ho (htl.ex eall)) (da_cons (d_var (i := 8) rfl (.str o)) (da_cons (d_var (i := 5) rfl (.str _)) da_nil))) (spR_pure ⟨L, o, L.s x, n, hl, hn1, hn2, hn3, rfl, rfl⟩)) ?_) da_nil)) (show 2 ≤ 100000 by decide)) fun u5 H5 e5 t5 hi5 => ?_
        · have := ok.short o hf
          simp only [namesD, List.length_map, List.length_cons, List.length_nil]
          omega
        have e05 := eall.trans e5
        have hput : L.put G x = { G with clash := some (.between (x :: L.stepsTo o (L.s x))) } := by
          unfold Lore.put
          simp only [hf]
        refine k _ ((ExB.of e05).trans (ExB.upd (.inl rfl) hi5 trivial)) ?_
        rw [hput]
        exact (g.ex e05).setClash hi5 t5
      · exact ⟨(ex.trans ey).trans e4, ⟨_, _, rfl⟩, find_no ho' hn hb⟩
    · rintro H3 σ' H' e3 ⟨ex, ⟨a, b, rfl⟩, hn⟩
      rw [List.take_length] at hn
      have e03 := (e12.trans e3).trans ex
      obtain ⟨gs, hg1, hg2⟩ := g.glued
      have hm := g.lists _ (g.ownD x (L.here_dom hx))
      have hput : L.put G x = { own := fun z => if z ∈ G.cont (G.own x) then G.own (L.s x) else G.own z, cont := setF G.cont (G.own (L.s x)) (G.cont (G.own (L.s x)) ++ G.cont (G.own x)), glued := G.glued ++ [(x, L.s x, (G.cont (G.own (L.s x))).getLast?.getD (L.s x))], clash := none } := by
        unfold Lore.put
        simp only [hn]
      rw [hput] at k
      -- glued.append
      have hap : EvD K (tTup (tCons (tVar 2) (tCons (tVar 5) (tCons (tIf (tTru K (tVar 6)) (tOp (rIxL K) (tVar 6) (tUn (rU fun i => .int (-i)) (tC (.int 1)))) (tVar 5)) tNil)))) [some (.ref A.a), some v, some (.str x), some (.int (L.c x)), some (.int (L.l x)), some (.str (L.s x)), some (.ref (A.ad (G.own (L.s x)))), some (.ref pb), a, b] H' (gluedD (x, L.s x, (G.cont (G.own (L.s x))).getLast?.getD (L.s x))) := by
        refine d_tup (da_cons (d_var (i := 2) rfl (.str x)) (da_cons (d_var (i := 5) rfl (.str _)) (da_cons (d_if (et_truL (K := K) (ev_var (i := 6) rfl) (SqL.of (e03.at hbl)) rfl) (fun hb => ?_) fun hb => ?_) da_nil))) (show 3 ≤ 100000 by decide)
        · have hne : G.cont (G.own (L.s x)) ≠ [] := fun z => by
            rw [z] at hb
            cases hb
          rw [List.getLast?_eq_some_getLast hne, Option.getD_some]
          refine d_ixL (ev_var (i := 6) rfl) (d_neg d_cI) (SqL.of (e03.at hbl)) (.strs _) ?_
          have e : (G.cont (G.own (L.s x))).map PyData.str = (G.cont (G.own (L.s x))).dropLast.map .str ++ [.str ((G.cont (G.own (L.s x))).getLast hne)] := by
            rw [← List.map_singleton, ← List.map_append, List.dropLast_concat_getLast]
          rw [e]
          exact atI_last
        · have hem : G.cont (G.own (L.s x)) = [] := by
            cases q : G.cont (G.own (L.s x)) with
            | nil => rfl
            | cons _ _ =>
              rw [q] at hb
              cases hb
          rw [hem]
          exact d_var (i := 5) rfl (.str _)
      have g3 := g.ex e03
      refine q_appendV (K := K) (p := A.pg) (ev_fld (hself rfl) (e03.at hi) c n5 hgl) (e03.at hg1) (by rw [hg2.length, List.length_map]; have := ok.gl; omega) hap fun vt H4 e4 t4 hg4 => ?_
      have ga : GlH K C A L ⟨G.own, G.cont, G.glued ++ [(x, L.s x, (G.cont (G.own (L.s x))).getLast?.getD (L.s x))], none⟩ (upd H4 A.pg (.lst (gs ++ [vt]))) := by
        have := (g3.ex e4).addGlued hg4 t4
        rw [hcl] at this
        exact this
      have eb4 : ExB (A.S L) H (upd H4 A.pg (.lst (gs ++ [vt]))) := (ExB.of (e03.trans e4)).trans (ExB.upd (.inr (.inr (.inl rfl))) hg4 trivial)
      have hmo : (upd H4 A.pg (.lst (gs ++ [vt]))) (A.ad (G.own x)) = some (.lst ((G.cont (G.own x)).map V.str)) := ga.lists _ (ga.ownD x (L.here_dom hx))
      have hyo : (upd H4 A.pg (.lst (gs ++ [vt]))) (A.ad (G.own (L.s x))) = some (.lst ((G.cont (G.own (L.s x))).map V.str)) := ga.lists _ (ga.ownD _ hy)
      obtain ⟨hs4, hh4, hhk4, hhv4⟩ := ga.held
      obtain ⟨fs4, v4, u4, hi4, _, _, _, _, _, _, hhe4, _, _, _⟩ := ga.ins
      refine q_extendV (K := K) (p := A.ad (G.own (L.s x))) (b := A.ad (G.own x)) (ev_var (i := 6) rfl) hyo (ev_getV (k := .inr x) (ev_fld (hself rfl) hi4 c n1 hhe4) (d_var (K := K) (i := 2) rfl (.str x)) hh4 (hhv4 x (L.here_dom hx))) hmo (by rw [List.length_map, List.length_map]; have := ok.len; omega) fun H5 e5 => ?_
      rw [← List.map_append]
      have gb : GlH K C A L ⟨G.own, setF G.cont (G.own (L.s x)) (G.cont (G.own (L.s x)) ++ G.cont (G.own x)), G.glued ++ [(x, L.s x, (G.cont (G.own (L.s x))).getLast?.getD (L.s x))], none⟩ (upd H5 (A.ad (G.own (L.s x))) (.lst ((G.cont (G.own (L.s x)) ++ G.cont (G.own x)).map V.str))) := (ga.ex e5).grow (m := G.cont (G.own x)) (ga.ownD _ hy)
      have eb5 : ExB (A.S L) H (upd H5 (A.ad (G.own (L.s x))) (.lst ((G.cont (G.own (L.s x)) ++ G.cont (G.own x)).map V.str))) := (eb4.trans (ExB.of e5)).trans (ExB.upd (.inr (.inr (.inr ⟨_, g.ownD _ hy, rfl⟩))) (e5.at hyo) trivial)
      obtain ⟨hs5, hh5, hhk5, hhv5⟩ := gb.held
      obtain ⟨fs5, v5, u5, hi5, _, _, _, _, _, _, hhe5, _, _, _⟩ := gb.ins
      have hm5 : (upd H5 (A.ad (G.own (L.s x))) (.lst ((G.cont (G.own (L.s x)) ++ G.cont (G.own x)).map V.str))) (A.ad (G.own x)) = some (.lst (((setF G.cont (G.own (L.s x)) (G.cont (G.own (L.s x)) ++ G.cont (G.own x))) (G.own x)).map V.str)) := gb.lists _ (gb.ownD x (L.here_dom hx))
      have hm5' : (setF G.cont (G.own (L.s x)) (G.cont (G.own (L.s x)) ++ G.cont (G.own x))) (G.own x) = G.cont (G.own x) := by
        unfold setF
        rw [if_neg ok.ne]
      have hm6 : (upd H5 (A.ad (G.own (L.s x))) (.lst ((G.cont (G.own (L.s x)) ++ G.cont (G.own x)).map V.str))) (A.ad (G.own x)) = some (.lst ((G.cont (G.own x)).map V.str)) := by
        rw [hm5'] at hm5
        exact hm5
      refine s_updateV (K := K) (p := A.ph) (more := mkA ((G.cont (G.own x)).map fun z => ((.inr z : Key), V.ref (A.ad (G.own (L.s x)))))) (ev_fld (hself rfl) hi5 c n1 hhe5) hh5 (fun H6 e6 Q q => ?_) ?_ fun H6 e6 hh6 => ?_
      · refine d_dcV (K := K) (ys := G.cont (G.own x)) (F := PyData.str) (fun z => .inr z) (fun _ => .ref (A.ad (G.own (L.s x)))) (i_list (p := A.ad (G.own x)) (xs := (G.cont (G.own x)).map V.str) (ev_getV (k := .inr x) (ev_fld (hself rfl) hi5 c n1 hhe5) (d_var (K := K) (i := 2) rfl (.str x)) hh5 (hhv5 x (L.here_dom hx))) (SqL.of hm6) (.strs _)) (by have := ok.len; omega) (fun u z H7 e7 hz t => ⟨_, reach_name, rfl, et_yes, d_var rfl t, ev_var (i := 6) rfl⟩) H6 e6 Q q
      · have h1 := mkA_len ((G.cont (G.own x)).map fun z => ((.inr z : Key), V.ref (A.ad (G.own (L.s x)))))
        rw [List.length_map] at h1
        have h2 : hs5.length = L.dom.length := by
          have := congrArg List.length hhk5
          rw [List.length_map, List.length_map] at this
          exact this
        have h3 : L.dom.length ≤ 2 * 1000 + 1 := by
          unfold Lore.dom
          have := L.gone_len
          rw [List.length_append, List.length_cons]
          omega
        have := ok.len
        exact sz_of (by omega)
      · have hmk : (mkA ((G.cont (G.own x)).map fun z => ((.inr z : Key), V.ref (A.ad (G.own (L.s x)))))).map (·.1) = keysOf ((G.cont (G.own x)).map .inr) := by
          rw [keys_mkA, List.map_map]
          rfl
        refine k _ (((eb5.trans (ExB.of e6)).trans (ExB.upd (.inr (.inl rfl)) hh6 trivial))) ((gb.ex e6).setOwn (own := fun z => if z ∈ G.cont (G.own x) then G.own (L.s x) else G.own z) hh6 ?_ (fun z hz => ?_) fun z hz => ?_)
        · rw [keys_merge _ _ fun e he => ?_, hhk5]
          rw [hhk5]
          have : e.1 ∈ (mkA ((G.cont (G.own x)).map fun z => ((.inr z : Key), V.ref (A.ad (G.own (L.s x)))))).map (·.1) := List.mem_map.mpr ⟨e, he, rfl⟩
          rw [hmk] at this
          unfold keysOf at this
          rw [mem_keysOf] at this
          rcases this with q | q
          · cases q
          · obtain ⟨z, hz, hze⟩ := List.mem_map.mp q
            exact List.mem_map.mpr ⟨z, L.here_dom (ok.m z hz), hze⟩
        · rw [valV_merge _ _ _ (by rw [hmk]; exact nodup_keysOf _ _ List.nodup_nil), hhv5 z hz]
          have := getA_mkF (fun z : Str => (.inr z : Key)) (fun _ => V.ref (A.ad (G.own (L.s x)))) (fun x y h => Sum.inr.inj h) (G.cont (G.own x)) z
          rw [valV_A2, this]
          by_cases q : z ∈ G.cont (G.own x)
          · rw [if_pos q, if_pos q]
            rfl
          · rw [if_neg q, if_neg q]
            rfl
        · show (if z ∈ G.cont (G.own x) then G.own (L.s x) else G.own z) ∈ L.dom
          by_cases q : z ∈ G.cont (G.own x)
          · rw [if_pos q]
            exact g.ownD _ hy
          · rw [if_neg q]
            exact g.ownD z hz
end
end AS


set_option Elab.async false
set_option linter.all false
set_option maxRecDepth 100000
set_option maxHeartbeats 4000000
/-! The gluer's making, least_of, clash_of, glued_lore. -/
namespace AS
open PySem L2 LamX
open PySem.W (Frag)
open RT
variable [TabsOf]

/-- the gluing's state behind i of the looks -/
def Lore.glueTo (L : Lore Str) (i : Nat) : Glue Str := (L.byLook.take i).foldl (fun g x => if g.clash.isNone then L.put g x else g) L.glue0
theorem Lore.glueTo_all (L : Lore Str) : L.glueTo L.byLook.length = L.glue := by
  unfold Lore.glueTo Lore.glue
  rw [List.take_length]
theorem Lore.glueTo_next (L : Lore Str) {i : Nat} {x : Str} (h : L.byLook[i]? = some x) : L.glueTo (i + 1) = if (L.glueTo i).clash.isNone then L.put (L.glueTo i) x else L.glueTo i := by
  unfold Lore.glueTo
  rw [List.take_add_one, h, List.foldl_append]
  rfl
/-- each row may be put -/
structure Lore.Gl (L : Lore Str) : Prop where
  nd : L.N.Nodup
  hd : hdS ∉ L.N
  put : ∀ (i : Nat) (x : Str), L.byLook[i]? = some x → (L.glueTo i).clash = none → PutOk L (L.glueTo i) x
def spInit (K : Frag) (C : Addr) : Sp := fun vs H Q _ => ∃ (a dx : Addr) (L : Lore Str) (v : V), vs = [.ref a, v] ∧ H a = some (.ins C dx []) ∧ Dt K H v L.d ∧ L.N.length ≤ 1000 ∧ L.Gl ∧ TabsOk H ∧
  ∀ A H', A.a = a → ExB (fun b => b = a) H H' → (∀ b, A.S L b → b = a ∨ H b = none) → GlH K C A L L.glue H' → Q .non H'
def isNoneD : PyData → Bool
  | .none => true
  | _ => false
theorem d_isNoneC {K : Frag} {te : TE} {σ : L2.St} {H : Hp} {d : PyData} (h : EvD K te σ H d) : EvD K (tOp rIsN te (tC .non)) σ H (.bool (isNoneD d)) := d_isNone h (by cases d <;> rfl)
theorem d_isNotNoneC {K : Frag} {te : TE} {σ : L2.St} {H : Hp} {d : PyData} (h : EvD K te σ H d) : EvD K (tOp rIsNN te (tC .non)) σ H (.bool (!isNoneD d)) := d_isNotNone h (by cases d <;> rfl)
theorem clashD_none {c : Option (Clash Str)} : isNoneD (clashD c) = c.isNone := by
  cases c with
  | none => rfl
  | some c => cases c <;> rfl
theorem nodup_at {α : Type} : ∀ {xs : List α}, xs.Nodup → ∀ {i j : Nat} {a : α}, xs[i]? = some a → xs[j]? = some a → i = j
  | [], _, i, j, a, h, _ => by simp at h
  | x :: xs, hn, i, j, a, h, h2 => by
    rw [List.nodup_cons] at hn
    cases i with
    | zero =>
      cases j with
      | zero => rfl
      | succ j =>
        simp at h h2
        subst h
        exact absurd (List.mem_of_getElem? h2) hn.1
    | succ i =>
      cases j with
      | zero =>
        simp at h h2
        subst h2
        exact absurd (List.mem_of_getElem? h) hn.1
      | succ j =>
        simp at h h2
        rw [nodup_at hn.2 h h2]
theorem valV_zip {ks : List Str} : ∀ {as : List Addr}, ks.length = as.length → ∀ {i : Nat} {k : Str} {a : Addr}, ks.Nodup → ks[i]? = some k → as[i]? = some a → valV ((ks.map fun k => (.inr k : Key)).zip (as.map V.ref)) (.inr k) = some (.ref a) := by
  induction ks with
  | nil => intro as _ i k a _ h _; simp at h
  | cons x ks ih =>
    intro as hl i k a hn h h2
    cases as with
    | nil => simp at h2
    | cons b as =>
      rw [List.nodup_cons] at hn
      cases i with
      | zero =>
        simp at h h2
        subst h h2
        exact valV_pos rfl
      | succ i =>
        have hk : ks[i]? = some k := by simpa using h
        have hne : ¬ ((.inr x : Key) = .inr k) := fun z => hn.1 (by
          cases z
          exact List.mem_of_getElem? hk)
        show valV ((Sum.inr x, V.ref b) :: (ks.map fun k => (.inr k : Key)).zip (as.map V.ref)) (.inr k) = _
        rw [valV_neg hne]
        exact ih (by simpa using hl) hn.2 hk (by simpa using h2)
theorem valV_zip_none {ks : List Str} {as : List Addr} {k : Str} (h : k ∉ ks) : valV ((ks.map fun k => (.inr k : Key)).zip (as.map V.ref)) (.inr k) = none := by
  rw [valV_A2, getA_none_iff]
  intro q
  obtain ⟨e, he, hk⟩ := List.mem_map.mp q
  have h1 := (List.of_mem_zip he).1
  obtain ⟨z, hz, hze⟩ := List.mem_map.mp h1
  rw [hk] at hze
  cases hze
  exact h hz
theorem d_orC {K : Frag} {ta tb : TE} {σ : L2.St} {H : Hp} {a b : Option (Clash Str)} (ha : EvD K ta σ H (clashD a)) (hb : EvD K tb σ H (clashD b)) : EvD K (tOrT K ta tb) σ H (clashD (a.or b)) := fun H1 e1 Q q =>
  ha H1 e1 _ fun v H2 e2 t => by
    have tup : ∀ {x y : PyData}, Dt K H2 v (.tuple [x, y]) → TruV K v H2 true := fun {x y} t => by
      obtain ⟨a, xs, rfl, hs, hx⟩ := t.tup_inv
      obtain ⟨u, us, rfl, _, _⟩ := hx.cons_inv
      exact .inr (.inl ⟨_, hs, rfl⟩)
    cases a with
    | none =>
      obtain rfl := t.non_inv
      refine ⟨false, rfl, ?_⟩
      rw [if_neg Bool.false_ne_true]
      exact hb H2 (e1.trans e2) Q fun v H3 e3 t => q v H3 (e2.trans e3) t
    | some z =>
      refine ⟨true, ?_, ?_⟩
      · cases z with
        | late x => exact tup t
        | ring xs => exact tup t
        | between xs => exact tup t
      · rw [if_pos rfl]
        exact q v H2 e2 t
section
variable {P : Program} {w : World} {K : Frag} {mg : Str → Option Value} {base : Heap}
/-! ### __init__ -/
abbrev s_Gluer_init : Stmt := inClass (top n_Gluer) n_Gluer_init
theorem sc_Gluer_init : FnScope ["self", "lore", "row", "root"] ["self", "lore"] (defScope s_Gluer_init) := ⟨rfl, rfl, rfl, by decide +kernel, rfl, by decide +kernel, by decide +kernel⟩
theorem ok_Gluer_init {C f cd PT : Addr} {fd : FuncData} (F : FunC K "__init__" "Gluer.__init__" s_Gluer_init cd f fd) (B : Blt mg) (TB : TabB base mg cd PT) (hT : (PT, ((("Gluer.__init__" : Str) ++ ".<locals>.") ++ "<lambda>" : Str)) ∈ TabsOf.T) (hTu : ∀ p ∈ TabsOf.T, p.1 = PT → p.2 = ((("Gluer.__init__" : Str) ++ ".<locals>.") ++ "<lambda>" : Str))
    (c : Cls K C) (n1 : NoAttr K C "held") (n2 : NoAttr K C "came") (n3 : NoAttr K C "clash") (n4 : NoAttr K C "of_lore") (n5 : NoAttr K C "glued") (g_HEAD : GloS mg "HEAD" "")
    (C_gone : Cal P w K mg base "gone" 2 ["lore"] (spR K relGone)) (C_late_clash : Cal P w K mg base "late_clash" 1 ["lore"] (spR K relLate)) (C_ring_clash : Cal P w K mg base "ring_clash" 2 ["lore"] (spR K relRing)) (CM_put : CalM P w K mg base C "put" 4 ["self", "row"] (spPut K C)) : FnOk P w K mg base CX0 5 f fd ["self", "lore"] (spInit K C) := by
  refine F.ok sc_Gluer_init (fun vs H Q E h => ?_) (fun A0 outer s H vs Q E hr h => ?_)
  · obtain ⟨a, dx, L, v, rfl, _⟩ := h
    rfl
  · obtain ⟨a, dx, L, v, rfl, hi, hv, hl, gl, tb, k⟩ := h
    refine ⟨_, (pss_cons (ps_fld (pv 0) (pv 1) rfl)
      (pss_cons (ps_fld (pv 0) (pe_dc (own := [("row", 2)]) (g := gName 2) (tt := tYes) rfl sc_Gluer_init.nd (wTup K (pv 1)) (blkOk_by (N := ["self", "lore", "row", "root"]) (sc := defScope s_Gluer_init) (by decide +kernel)) (fun _ _ _ _ _ => pg_name (i := 2) sc_Gluer_init.nd rfl (Or.inl rfl)) (fun _ _ _ _ _ => pts_nil) (fun _ _ _ _ _ => xIxT K (pv 2) pe_int) (fun _ _ _ _ _ => xIxT K (pv 2) pe_int)) rfl)
      (pss_cons (ps_fld (pv 0) (pe_dc (own := [("row", 2)]) (g := gName 2) (tt := tYes) rfl sc_Gluer_init.nd (wTup K (pv 1)) (blkOk_by (N := ["self", "lore", "row", "root"]) (sc := defScope s_Gluer_init) (by decide +kernel)) (fun _ _ _ _ _ => pg_name (i := 2) sc_Gluer_init.nd rfl (Or.inl rfl)) (fun _ _ _ _ _ => pts_nil) (fun _ _ _ _ _ => xIxT K (pv 2) pe_int) (fun _ _ _ _ _ => pe_lst (pa_cons (xIxT K (pv 2) pe_int) pa_nil))) rfl)
      (pss_cons (ps_expr (xBM K PySem.F.plainAttrs_dict PySem.F.slot_dict_update PySem.F.type_dict_update mt_update (xFld K (pv 0)) (pa_cons (pe_dc (own := [("root", 3)]) (g := gName 3) (tt := tYes) rfl sc_Gluer_init.nd (wTup K (xAddT K (pe_tup (pa_cons (xGloS g_HEAD) pa_nil)) (xCal C_gone (hr.mono (by decide)) (pa_cons (pv 1) pa_nil)))) (blkOk_by (N := ["self", "lore", "row", "root"]) (sc := defScope s_Gluer_init) (by decide +kernel)) (fun _ _ _ _ _ => pg_name (i := 3) sc_Gluer_init.nd rfl (Or.inl rfl)) (fun _ _ _ _ _ => pts_nil) (fun _ _ _ _ _ => pv 3) (fun _ _ _ _ _ => pe_lst pa_nil)) pa_nil)))
      (pss_cons (ps_fld (pv 0) (pe_lst pa_nil) rfl)
      (pss_cons (ps_fld (pv 0) (xOrT K (xCal C_late_clash (hr.mono (by decide)) (pa_cons (pv 1) pa_nil)) (pe_one (xCal C_ring_clash (hr.mono (by decide)) (pa_cons (pv 1) pa_nil)))) rfl)
      (pss_one (ps_for PassesOwn.never rfl (wList K (xSortedKey hr B (pv 1) (pk_cons (pe_lambda TB rfl hT hTu rfl (by decide +kernel)) pk_nil))) (pg_name (i := 2) sc_Gluer_init.nd rfl (Or.inl rfl))
        (pss_one (ps_if (yIsN (xFld K (pv 0))) (pss_one (ps_expr (xMeth CM_put c (hr.mono (by decide)) (pv 0) (pa_cons (pv 2) pa_nil)))) pss_nil)))))))))), ?_⟩
    have hse : ∀ {σ : L2.St} {H2 : Hp}, σ[0]? = some (some (.ref a)) → Ev (tVar 0) σ H2 (.ref a) := fun q => ev_var q
    -- of_lore
    refine q_fldD (K := K) (i := 0) rfl hi c n4 (by decide) (d_var (i := 1) rfl hv) fun v1 H1 e1 t1 hi1 => ?_
    have tx1 : Tx K H1 (upd H1 a (.ins C dx (putF "of_lore" v1 []))) := Tx.ins hi1 _
    have eb1 : ExB (fun b => b = a) H (upd H1 a (.ins C dx (putF "of_lore" v1 []))) := (ExB.of e1).trans (ExB.upd rfl hi1 trivial)
    have hv1 := (hv.ex e1).tx tx1
    have t1' := t1.tx tx1
    -- came
    refine q_fldDD (K := K) (i := 0) (a := a) rfl upd_same c n2 (show 1 < 1000 by decide) (d_dc (fun _ => true) (fun x => .inr x) (fun x => .int (L.c x)) (i_tup (ys := L.N) (F := L.row) (d_var (i := 1) rfl hv1)).ex (by omega) fun x y H1 e1 hy t => ⟨_, reach_name, rfl, et_yes, fun _ => ⟨d_ixT (d_var rfl t) d_cI rfl, d_ixT (d_var rfl t) d_cI rfl⟩⟩) fun p1 kvs H2 hp1 e2 hd2 hk2 hi2 => ?_
    rw [List.filter_eq_self.mpr (fun _ _ => rfl)] at hk2
    have hp1a : p1 ≠ a := fun z => by rw [z, hi2] at hd2; cases hd2
    have tx2 : Tx K H2 (upd H2 a (.ins C dx (putF "came" (.ref p1) (putF "of_lore" v1 [])))) := Tx.ins hi2 _
    have eb2 : ExB (fun b => b = a) H (upd H2 a (.ins C dx (putF "came" (.ref p1) (putF "of_lore" v1 [])))) := (eb1.trans (ExB.of e2)).trans (ExB.upd rfl hi2 trivial)
    have hv2 := (hv1.ex e2).tx tx2
    have t2' := (t1'.ex e2).tx tx2
    have hk2' := hk2.tx tx2
    have hd2' : (upd H2 a (.ins C dx (putF "came" (.ref p1) (putF "of_lore" v1 [])))) p1 = some (.dK kvs) := by rw [upd_ne hp1a]; exact hd2
    have hpH1 : H p1 = none := eb1.dom p1 hp1
    -- held
    refine q_fldDL (K := K) (i := 0) (a := a) (fun x => .inr x) (fun x => [x]) rfl upd_same c n1 (show 2 < 1000 by decide) (i_tup (ys := L.N) (F := L.row) (d_var (i := 1) rfl hv2)).ex (by omega) (by
      have := gl.nd
      exact List.pairwise_map.mpr (this.imp fun h z => h (Sum.inr.inj z))) (fun x y H1 e1 hy t => ⟨_, reach_name, rfl, et_yes, d_ixT (d_var rfl t) d_cI rfl, l_lst (da_cons (d_ixT (d_var rfl t) d_cI rfl) da_nil) (show 1 ≤ 100000 by decide)⟩) fun p2 as H3 hp2 e3 hd3 hal han haf hat hi3 => ?_
    have hp2a : p2 ≠ a := fun z => by rw [z, hi3] at hd3; cases hd3
    have hp12 : p2 ≠ p1 := fun z => by rw [z, hd2'] at hp2; cases hp2
    have tx3 : Tx K H3 (upd H3 a (.ins C dx (putF "held" (.ref p2) (putF "came" (.ref p1) (putF "of_lore" v1 []))))) := Tx.ins hi3 _
    have eb3 : ExB (fun b => b = a) H (upd H3 a (.ins C dx (putF "held" (.ref p2) (putF "came" (.ref p1) (putF "of_lore" v1 []))))) := (eb2.trans (ExB.of e3)).trans (ExB.upd rfl hi3 trivial)
    have hv3 := (hv2.ex e3).tx tx3
    have t3' := (t2'.ex e3).tx tx3
    have hk3' := (hk2'.tx (Tx.ex e3)).tx tx3
    have hpH2 : H p2 = none := eb2.dom p2 hp2
    have haH : ∀ b ∈ as, H b = none ∧ b ≠ p2 ∧ b ≠ a := fun b hb => by
      have h1 := haf b hb
      refine ⟨eb2.dom b h1.1, h1.2, fun z => ?_⟩
      rw [z, upd_same] at h1
      cases h1.1
    generalize hH3 : upd H3 a (.ins C dx (putF "held" (.ref p2) (putF "came" (.ref p1) (putF "of_lore" v1 [])))) = H3' at *
    have hi3' : H3' a = some (.ins C dx (putF "held" (.ref p2) (putF "came" (.ref p1) (putF "of_lore" v1 [])))) := by rw [← hH3, upd_same]
    have hd3' : H3' p2 = some (.dK ((L.N.map fun x => (.inr x : Key)).zip (as.map V.ref))) := by rw [← hH3, upd_ne hp2a]; exact hd3
    have hc3' : H3' p1 = some (.dK kvs) := by rw [← hH3, upd_ne hp1a]; exact e3.at hd2'
    have hat' : ∀ (i : Nat) (b : Addr) (y : Str), as[i]? = some b → L.N[i]? = some y → H3' b = some (.lst ([y].map V.str)) := fun i b y h1 h2 => by
      rw [← hH3, upd_ne (haH b (List.mem_of_getElem? h1)).2.2]
      exact hat i b y h1 h2
    -- held.update
    have hgn : L.N.length ≤ 1000 := hl
    have hroots : EvD K (tOp (rCatA K) (tTup (tCons (tC (.str "")) tNil)) (tCall (spR K relGone) [] E0 (tCons (tVar 1) tNil))) [some (.ref a), some v, none, none] H3' (.tuple ((hdS :: L.gone hdS leS).map .str)) :=
      d_catT (ds := [.str ""]) (d_tup (da_cons d_cS da_nil) (show 1 ≤ 100000 by decide)) (d_call (da_cons (d_var (i := 1) rfl hv3) da_nil) (spR_pure ⟨L, hl, rfl, rfl⟩)) (by rw [List.length_map]; have := L.gone_len; show 1 + _ ≤ _; omega)
    have hgnd : (hdS :: L.gone hdS leS).Nodup := List.nodup_cons.mpr ⟨fun q => ((L.mem_gone _).mp q).2.1 rfl, L.gone_nodup⟩
    refine q_updateL (K := K) (p := p2) (fun x => .inr x) (fun _ => []) (ev_fld (hse rfl) hi3' c n1 rfl) hd3' (i_tup (ys := hdS :: L.gone hdS leS) (F := PyData.str) hroots).ex (by have := L.gone_len; rw [List.length_cons]; omega) (by rw [List.length_zip, List.length_map]; omega) (List.pairwise_map.mpr (hgnd.imp fun h z => h (Sum.inr.inj z))) (fun x y H1 e1 hy t => ⟨_, reach_name, rfl, et_yes, d_var rfl t, l_lst da_nil (by decide)⟩) fun bs H5 e45 hbl hbn hbf hbt hd5' => ?_
    have hkz1 : ((L.N.map fun x => (.inr x : Key)).zip (as.map V.ref)).map (·.1) = L.N.map (fun x => (.inr x : Key)) := List.map_fst_zip (by rw [List.length_map, List.length_map, hal]; exact Nat.le_refl _)
    have hkz2 : (((hdS :: L.gone hdS leS).map fun x => (.inr x : Key)).zip (bs.map V.ref)).map (·.1) = (hdS :: L.gone hdS leS).map (fun x => (.inr x : Key)) := List.map_fst_zip (by rw [List.length_map, List.length_map, hbl]; exact Nat.le_refl _)
    have hmk : mergeK ((L.N.map fun x => (.inr x : Key)).zip (as.map V.ref)) (((hdS :: L.gone hdS leS).map fun x => (.inr x : Key)).zip (bs.map V.ref)) = (L.dom.map fun x => (.inr x : Key)).zip ((as ++ bs).map V.ref) := by
      rw [keys_merge_new _ _ (by rw [hkz2]; exact List.pairwise_map.mpr (hgnd.imp fun h z => h (Sum.inr.inj z))) fun e he => ?_]
      · unfold Lore.dom
        rw [List.map_append, List.map_append, List.zip_append (by rw [List.length_map, List.length_map, hal])]
      · rw [hkz1]
        intro q
        have h1 : e.1 ∈ (hdS :: L.gone hdS leS).map fun x => (.inr x : Key) := by
          rw [← hkz2]
          exact List.mem_map.mpr ⟨e, he, rfl⟩
        obtain ⟨y, hy, hye⟩ := List.mem_map.mp h1
        obtain ⟨z, hz, hze⟩ := List.mem_map.mp q
        rw [← hye] at hze
        cases hze
        rcases List.mem_cons.mp hy with r | r
        · exact gl.hd (r ▸ hz)
        · exact ((L.mem_gone _).mp r).2.2 hz
    have hdn : L.dom.Nodup := by
      unfold Lore.dom
      rw [List.nodup_append]
      refine ⟨gl.nd, hgnd, fun x hx y hy z => ?_⟩
      subst z
      rcases List.mem_cons.mp hy with r | r
      · exact gl.hd (r ▸ hx)
      · exact ((L.mem_gone _).mp r).2.2 hx
    have hdl : L.dom.length = (as ++ bs).length := by
      unfold Lore.dom
      rw [List.length_append, List.length_append, hal, hbl]
    rw [hmk]
    have hb5 : ∀ b ∈ bs, H b = none ∧ b ≠ p2 ∧ b ≠ a ∧ b ∉ as := fun b hb => by
      have h2 : H3' b = none := hbf b hb
      refine ⟨eb3.dom b h2, fun z => ?_, fun z => ?_, fun z => ?_⟩
      · rw [z, hd3'] at h2
        cases h2
      · rw [z, hi3'] at h2
        cases h2
      · obtain ⟨j, hj, hjz⟩ := List.getElem_of_mem z
        have h3 := hat' j b L.N[j] (by rw [List.getElem?_eq_getElem hj, hjz]) (List.getElem?_eq_getElem (by omega))
        rw [h2] at h3
        cases h3
    have habn : (as ++ bs).Nodup := List.nodup_append.mpr ⟨han, hbn, fun x hx y hy z => (hb5 y hy).2.2.2 (z ▸ hx)⟩
    let A : GA := ⟨a, dx, p1, p2, 0, fun x => match valV ((L.dom.map fun x => (.inr x : Key)).zip ((as ++ bs).map V.ref)) (.inr x) with
      | some (.ref b) => b
      | _ => 0⟩
    have hAd : ∀ (i : Nat) (x : Str) (b : Addr), L.dom[i]? = some x → (as ++ bs)[i]? = some b → A.ad x = b := fun i x b h1 h2 => by
      have e := valV_zip hdl hdn h1 h2
      simp only [A, e]
    have hAdm : ∀ x ∈ L.dom, ∃ i : Nat, L.dom[i]? = some x ∧ (as ++ bs)[i]? = some (A.ad x) := fun x hx => by
      obtain ⟨j, hj, hjz⟩ := List.getElem_of_mem hx
      have h1 : L.dom[j]? = some x := by rw [List.getElem?_eq_getElem hj, hjz]
      have h2 : (as ++ bs)[j]? = some (as ++ bs)[j] := List.getElem?_eq_getElem (by omega)
      exact ⟨j, h1, by rw [hAd j x _ h1 h2]; exact h2⟩
    have hAdab : ∀ x ∈ L.dom, A.ad x ∈ as ++ bs := fun x hx => by
      obtain ⟨i, _, h2⟩ := hAdm x hx
      exact List.mem_of_getElem? h2
    have hlist5 : ∀ x ∈ L.dom, H5 (A.ad x) = some (.lst ((L.glue0.cont x).map V.str)) := fun x hx => by
      obtain ⟨i, h1, h2⟩ := hAdm x hx
      by_cases hia : i < as.length
      · rw [List.getElem?_append_left hia] at h2
        have h1' : L.N[i]? = some x := by
          unfold Lore.dom at h1
          rw [List.getElem?_append_left (by omega)] at h1
          exact h1
        have : L.glue0.cont x = [x] := if_pos (List.mem_of_getElem? h1')
        rw [this]
        exact e45.at (hat' i _ x h2 h1')
      · rw [List.getElem?_append_right (by omega)] at h2
        have h1' : (hdS :: L.gone hdS leS)[i - as.length]? = some x := by
          unfold Lore.dom at h1
          rw [List.getElem?_append_right (by omega)] at h1
          rw [hal]
          exact h1
        have hx' : x ∉ L.N := fun q => by
          rcases List.mem_cons.mp (List.mem_of_getElem? h1') with r | r
          · exact gl.hd (r ▸ q)
          · exact ((L.mem_gone _).mp r).2.2 q
        have : L.glue0.cont x = [] := if_neg hx'
        rw [this]
        exact hbt _ _ x h2 h1'
    have hi5 : H5 a = some (.ins C dx (putF "held" (.ref p2) (putF "came" (.ref p1) (putF "of_lore" v1 [])))) := e45.at hi3'
    have tx5 : Tx K H5 (upd H5 p2 (.dK ((L.dom.map fun x => (.inr x : Key)).zip ((as ++ bs).map V.ref)))) := Tx.dk hd5' _
    have eb5 : ExB (fun b => b = a) H (upd H5 p2 (.dK ((L.dom.map fun x => (.inr x : Key)).zip ((as ++ bs).map V.ref)))) := (eb3.trans (ExB.of e45)).mut hpH2 (by rw [hd5']; exact trivial)
    have hv5 := (hv3.ex e45).tx tx5
    have t5' := (t3'.ex e45).tx tx5
    have hk5' := (hk3'.tx (Tx.ex e45)).tx tx5
    have hne2 : ∀ b ∈ as ++ bs, b ≠ p2 ∧ b ≠ a ∧ H b = none := fun b hb => by
      rcases List.mem_append.mp hb with q | q
      · exact ⟨(haH b q).2.1, (haH b q).2.2, (haH b q).1⟩
      · exact ⟨(hb5 b q).2.1, (hb5 b q).2.2.1, (hb5 b q).1⟩
    generalize hH5 : upd H5 p2 (.dK ((L.dom.map fun x => (.inr x : Key)).zip ((as ++ bs).map V.ref))) = H5' at *
    have hi5' : H5' a = some (.ins C dx (putF "held" (.ref p2) (putF "came" (.ref p1) (putF "of_lore" v1 [])))) := by rw [← hH5, upd_ne (fun z => hp2a z.symm)]; exact hi5
    have hd5'' : H5' p2 = some (.dK ((L.dom.map fun x => (.inr x : Key)).zip ((as ++ bs).map V.ref))) := by rw [← hH5, upd_same]
    have hc5' : H5' p1 = some (.dK kvs) := by rw [← hH5, upd_ne (fun z => hp12 z.symm)]; exact e45.at hc3'
    have hl5' : ∀ x ∈ L.dom, H5' (A.ad x) = some (.lst ((L.glue0.cont x).map V.str)) := fun x hx => by
      rw [← hH5, upd_ne (hne2 _ (hAdab x hx)).1]
      exact hlist5 x hx
    -- glued
    refine q_fldLD (K := K) (i := 0) (a := a) rfl hi5' c n5 (show 3 < 1000 by decide) (l_lst da_nil (by decide)) fun p4 vs4 H6 hp4 e6 hp4' hx4 hi6 => ?_
    obtain rfl := hx4.nil_inv
    have tx6 : Tx K H6 (upd H6 a (.ins C dx (putF "glued" (.ref p4) (putF "held" (.ref p2) (putF "came" (.ref p1) (putF "of_lore" v1 [])))))) := Tx.ins hi6 _
    have hp4a : p4 ≠ a := fun z => by rw [z, hi6] at hp4'; cases hp4'
    have eb6 : ExB (fun b => b = a) H (upd H6 a (.ins C dx (putF "glued" (.ref p4) (putF "held" (.ref p2) (putF "came" (.ref p1) (putF "of_lore" v1 [])))))) := (eb5.trans (ExB.of e6)).trans (ExB.upd rfl hi6 trivial)
    have hv6 := (hv5.ex e6).tx tx6
    have t6' := (t5'.ex e6).tx tx6
    have hk6' := (hk5'.tx (Tx.ex e6)).tx tx6
    have hpH4 : H p4 = none := eb5.dom p4 hp4
    have hp4d : ∀ x ∈ L.dom, A.ad x ≠ p4 := fun x hx z => by
      have := hl5' x hx
      rw [z, hp4] at this
      cases this
    generalize hH6 : upd H6 a (.ins C dx (putF "glued" (.ref p4) (putF "held" (.ref p2) (putF "came" (.ref p1) (putF "of_lore" v1 []))))) = H6' at *
    have hi6' : H6' a = some (.ins C dx (putF "glued" (.ref p4) (putF "held" (.ref p2) (putF "came" (.ref p1) (putF "of_lore" v1 []))))) := by rw [← hH6, upd_same]
    have hd6' : H6' p2 = some (.dK ((L.dom.map fun x => (.inr x : Key)).zip ((as ++ bs).map V.ref))) := by rw [← hH6, upd_ne hp2a]; exact e6.at hd5''
    have hc6' : H6' p1 = some (.dK kvs) := by rw [← hH6, upd_ne hp1a]; exact e6.at hc5'
    have hg6' : H6' p4 = some (.lst []) := by rw [← hH6, upd_ne hp4a]; exact hp4'
    have hl6' : ∀ x ∈ L.dom, H6' (A.ad x) = some (.lst ((L.glue0.cont x).map V.str)) := fun x hx => by
      rw [← hH6, upd_ne (hne2 _ (hAdab x hx)).2.1]
      exact e6.at (hl5' x hx)
    -- clash
    refine q_fldD (K := K) (i := 0) (a := a) rfl hi6' c n3 (show 4 < 1000 by decide) (d_orC (a := L.lateClash) (b := L.ringClash) (d_call (da_cons (d_var (i := 1) rfl hv6) da_nil) (spR_pure ⟨L, hl, rfl, rfl⟩)) (d_call (da_cons (d_var (i := 1) rfl hv6) da_nil) (spR_pure ⟨L, hl, rfl, rfl⟩))) fun u7 H7 e7 t7 hi7 => ?_
    have tx7 : Tx K H7 (upd H7 a (.ins C dx (putF "clash" u7 (putF "glued" (.ref p4) (putF "held" (.ref p2) (putF "came" (.ref p1) (putF "of_lore" v1 []))))))) := Tx.ins hi7 _
    have eb7 : ExB (fun b => b = a) H (upd H7 a (.ins C dx (putF "clash" u7 (putF "glued" (.ref p4) (putF "held" (.ref p2) (putF "came" (.ref p1) (putF "of_lore" v1 []))))))) := (eb6.trans (ExB.of e7)).trans (ExB.upd rfl hi7 trivial)
    have hv7 := (hv6.ex e7).tx tx7
    have g7 : GlH K C ⟨a, dx, p1, p2, p4, A.ad⟩ L L.glue0 (upd H7 a (.ins C dx (putF "clash" u7 (putF "glued" (.ref p4) (putF "held" (.ref p2) (putF "came" (.ref p1) (putF "of_lore" v1 []))))))) := by
      refine { ins := ⟨_, v1, u7, upd_same, (show 5 < 10 by decide), rfl, rfl, rfl, (t6'.ex e7).tx tx7, rfl, rfl, rfl, rfl, t7.tx tx7⟩, came := ⟨kvs, ?_, (hk6'.tx (Tx.ex e7)).tx tx7⟩, held := ⟨(L.dom.map fun x => (.inr x : Key)).zip ((as ++ bs).map V.ref), ?_, ?_, fun x hx => ?_⟩, lists := fun x hx => ?_, glued := ⟨[], ?_, .nil⟩, inj := fun x hx y hy z => ?_, sep := ⟨hp4d, hp12⟩, ownD := fun x hx => hx }
      · rw [upd_ne hp1a]; exact e7.at hc6'
      · rw [upd_ne hp2a]; exact e7.at hd6'
      · exact List.map_fst_zip (by rw [List.length_map, List.length_map, hdl]; exact Nat.le_refl _)
      · obtain ⟨i, h1, h2⟩ := hAdm x hx
        exact valV_zip hdl hdn h1 h2
      · rw [upd_ne (hne2 _ (hAdab x hx)).2.1]
        exact e7.at (hl6' x hx)
      · rw [upd_ne hp4a]; exact e7.at hg6'
      · obtain ⟨i, h1, h2⟩ := hAdm x hx
        obtain ⟨j, h3, h4⟩ := hAdm y hy
        have hz : A.ad x = A.ad y := z
        rw [← hz] at h4
        rw [nodup_at habn h2 h4] at h1
        rw [h1] at h3
        exact Option.some.inj h3
    generalize hH7 : upd H7 a (.ins C dx (putF "clash" u7 (putF "glued" (.ref p4) (putF "held" (.ref p2) (putF "came" (.ref p1) (putF "of_lore" v1 [])))))) = H7' at *
    have hfresh : ∀ b, GA.S ⟨a, dx, p1, p2, p4, A.ad⟩ L b → b = a ∨ H b = none := by
      rintro b (z | z | z | ⟨x, hx, z⟩)
      · exact .inl z
      · rw [z]
        exact .inr hpH2
      · rw [z]
        exact .inr hpH4
      · rw [z]
        exact .inr (hne2 _ (hAdab x hx)).2.2
    have hi7' : H7' a = some (.ins C dx (putF "clash" u7 (putF "glued" (.ref p4) (putF "held" (.ref p2) (putF "came" (.ref p1) (putF "of_lore" v1 [])))))) := by rw [← hH7, upd_same]
    have tb7 : TabsOk H7' := tb.exB eb7
    -- the looks
    refine s_for (K := K) (i_listW (ys := L.byLook) (F := L.row) ?srt) (fun H1 i σ' H' => ExB (GA.S ⟨a, dx, p1, p2, p4, A.ad⟩ L) H1 H' ∧ (∃ x y, σ' = [some (.ref a), some v, x, y]) ∧ GlH K C ⟨a, dx, p1, p2, p4, A.ad⟩ L (L.glueTo i) H') (fun H1 e => ⟨ExB.refl, ⟨_, _, rfl⟩, g7.ex e⟩) (fun H1 i σ' H' e _ q => ⟨fun b o n hb nt => q.1.at hb (fun s => g7.known b s n) nt, q.1.tx (g7.ex e).noTup⟩) ?_ ?_
    case srt =>
      refine l_sortedKeyT (K := K) (κ := fun x => -(L.l x)) rfl (d_var (i := 1) rfl hv7) fun H8 e8 xs hx R hR => ⟨(tb7.ex e8) _ hT, fun q c' H9 e9 hq h9 h9' => hR q H9 e9 ?_⟩
      refine keyR_lam (k := 0) (te := tUn (rU fun i => .int (-i)) (tOp (rIxT K) (tVar 0) (tC (.int 2)))) (x := "one") ⟨rfl, rfl, rfl, by decide +kernel, rfl, by decide +kernel, by decide +kernel⟩ (hr.mono (by decide)) (fun pm cd ct v => rfl) (fun A1 outer1 s1 H1 hr1 => xNeg (xIxT K (pv 0) pe_int)) h9 h9' fun i y n hy hn H10 e10 => ?_
      obtain ⟨d, hd, ht⟩ := (hx.ex (e9.trans e10)).getV hy
      rw [List.getElem?_map] at hd hn
      cases hNi : L.N[i]? with
      | none =>
        rw [hNi] at hd
        cases hd
      | some z =>
        rw [hNi] at hd hn
        cases hd
        cases hn
        refine d_neg (K := K) (d_ixT (d_var (i := 0) rfl ht) d_cI rfl) H10 (Ex.refl _) _ fun u H11 e11 tu => ⟨tu.int_inv, e11⟩
    · rintro H1 i z x σ' H' H'' e1 hx ⟨eb, ⟨y1, y2, rfl⟩, g⟩ ey ht
      refine reach_name _ ?_
      have g' := g.ex ey
      obtain ⟨fs, v0, u0, hi8, hfl, hput, hlo, ho, htl, hca, hhe, hgl, hcs, htc⟩ := g'.ins
      refine s_if (b := (L.glueTo i).clash.isNone) (et_D (K := K) ((d_isNoneC (d_fld (hse rfl) hi8 c n3 hcs htc)).to (congrArg PyData.bool clashD_none))) (fun hb H2 e2 => ?_) (fun hb H2 e2 => ?_)
      · have hcl : (L.glueTo i).clash = none := Option.isNone_iff_eq_none.mp hb
        refine ⟨.ref a, rfl, a, dx, fs, rfl, e2.at hi8, hput, z, rfl, ?_⟩
        refine ⟨⟨a, dx, p1, p2, p4, A.ad⟩, L, L.glueTo i, x, z, rfl, hl, g'.ex e2, hcl, ht.ex e2, gl.put i x hx hcl, fun H3 eb3 g3 => ?_⟩
        refine ⟨((eb.trans (ExB.of ey)).trans (ExB.of e2)).trans eb3, ⟨_, _, rfl⟩, ?_⟩
        rw [L.glueTo_next hx, if_pos hb]
        exact g3
      · refine ⟨(eb.trans (ExB.of ey)).trans (ExB.of e2), ⟨_, _, rfl⟩, ?_⟩
        rw [L.glueTo_next hx, if_neg (by rw [hb]; exact Bool.false_ne_true)]
        exact g'.ex e2
    · rintro H1 σ' H' e1 ⟨eb, ⟨y1, y2, rfl⟩, g⟩
      rw [L.glueTo_all] at g
      refine k ⟨a, dx, p1, p2, p4, A.ad⟩ H' rfl ?_ hfresh g
      refine ⟨fun b o nb hb nt => ?_, fun b hb => eb7.dom b (e1.dom b (eb.dom b hb)), fun p hp t => eb.tab p hp (e1.tab p hp (eb7.tab p hp t))⟩
      refine eb.at (e1.keep b o (eb7.keep b o nb hb nt) nt) (fun s => ?_) nt
      rcases hfresh b s with q | q
      · exact nb q
      · rw [q] at hb
        cases hb
end
end AS


set_option Elab.async false
set_option linter.all false
set_option maxRecDepth 100000
set_option maxHeartbeats 4000000
/-! least_of, clash_of, glued_lore, blocks, first_line. -/
namespace AS
open PySem L2 LamX
open PySem.W (Frag)
open RT
variable [TabsOf]

def minI : List Int → Int
  | [] => 0
  | [x] => x
  | x :: y :: xs => let m := minI (y :: xs); if x ≤ m then x else m
theorem minI_spec : ∀ {xs : List Int}, xs ≠ [] → minI xs ∈ xs ∧ ∀ y ∈ xs, minI xs ≤ y
  | [], h => absurd rfl h
  | [x], _ => ⟨List.mem_singleton.mpr rfl, fun y hy => by rw [List.mem_singleton.mp hy]; exact Int.le_refl _⟩
  | x :: y :: xs, _ => by
    have ih := minI_spec (xs := y :: xs) (by simp)
    show (if x ≤ minI (y :: xs) then x else minI (y :: xs)) ∈ _ ∧ ∀ z ∈ _, (if x ≤ minI (y :: xs) then x else minI (y :: xs)) ≤ z
    split
    · rename_i h
      exact ⟨List.mem_cons_self .., fun z hz => by
        rcases List.mem_cons.mp hz with q | q
        · rw [q]; exact Int.le_refl _
        · exact Int.le_trans h (ih.2 z q)⟩
    · rename_i h
      exact ⟨List.mem_cons_of_mem _ ih.1, fun z hz => by
        rcases List.mem_cons.mp hz with q | q
        · rw [q]; omega
        · exact ih.2 z q⟩
def Lore.least (L : Lore Str) (G : Glue Str) (r : Str) : Int := minI ((G.cont (G.own r)).map L.c)
def Lore.roots (L : Lore Str) (G : Glue Str) : List Str := (L.gone hdS leS).mergeSort fun x y => decide (L.least G x ≤ L.least G y)
def Lore.blocks (L : Lore Str) : List (Str × List Str) := (hdS :: L.roots L.glue).map fun r => (r, L.glue.cont (L.glue.own r))
def Lore.line (L : Lore Str) : List Str := L.blocks.flatMap (·.2)
def blockD (b : Str × List Str) : PyData := .tuple [.str b.1, namesD b.2]
def blocksD (bs : List (Str × List Str)) : PyData := .tuple (bs.map blockD)
/-- the gluing comes to an end well -/
structure Lore.Fine (L : Lore Str) : Prop where
  gl : L.Gl
  nc : L.glue.clash = none
  ne : ∀ r ∈ L.gone hdS leS, L.glue.cont (L.glue.own r) ≠ []
  sub : ∀ r ∈ L.dom, ∀ o ∈ L.glue.cont (L.glue.own r), o ∈ L.N
  len : ∀ r ∈ L.dom, (L.glue.cont (L.glue.own r)).length ≤ 1000
  tot : L.line.length ≤ 10000
def spT (K : Frag) (rel : List PyData → PyData → Prop) : Sp := fun vs H Q _ => TabsOk H ∧ ∃ ds d, DtAll K H vs ds ∧ rel ds d ∧ ∀ v H', Ex H H' → Dt K H' v d → Q v H'
theorem d_callT {K : Frag} {rel : List PyData → PyData → Prop} {E : XK} {ta : TA} {σ : L2.St} {H : Hp} {ds : List PyData} {d : PyData} (h : EvDA K ta σ H ds) (tb : TabsOk H) (hr : rel ds d) : EvD K (tCall (spT K rel) [] E ta) σ H d := fun H1 e1 Q q => h H1 e1 _ fun vs H2 e2 ts => by
  show spT K rel (vs ++ []) H2 Q E
  rw [List.append_nil]
  exact ⟨tb.ex (e1.trans e2), ds, d, ts, hr, fun v H3 e3 t => q v H3 (e2.trans e3) t⟩
def relClashOf (ds : List PyData) (d : PyData) : Prop := ∃ L : Lore Str, L.N.length ≤ 1000 ∧ L.Gl ∧ ds = [L.d] ∧ d = clashD L.glue.clash
def relBlocks (ds : List PyData) (d : PyData) : Prop := ∃ L : Lore Str, L.N.length ≤ 1000 ∧ L.Fine ∧ ds = [L.d] ∧ d = blocksD L.blocks
def relFirst (ds : List PyData) (d : PyData) : Prop := ∃ L : Lore Str, L.N.length ≤ 1000 ∧ L.Fine ∧ ds = [L.d] ∧ d = namesD L.line
def spLeast (K : Frag) (C : Addr) : Sp := fun vs H Q _ => ∃ (A : GA) (L : Lore Str) (G : Glue Str) (r : Str), vs = [.ref A.a, .str r] ∧ GlH K C A L G H ∧ r ∈ L.dom ∧ G.cont (G.own r) ≠ [] ∧ (∀ o ∈ G.cont (G.own r), o ∈ L.N) ∧ (G.cont (G.own r)).length ≤ 1000 ∧
  ∀ H', Ex H H' → Q (.int (L.least G r)) H'
def spGlued (K : Frag) (C : Addr) : Sp := fun vs H Q _ => TabsOk H ∧ ∃ (L : Lore Str) (v : V), vs = [v] ∧ Dt K H v L.d ∧ L.N.length ≤ 1000 ∧ L.Gl ∧ L.glue.clash = none ∧ ∀ A H', Ex H H' → GlH K C A L L.glue H' → Q (.ref A.a) H'
/-- a method taken as a value -/
structure BM (P : Program) (w : World) (K : Frag) (mg : Str → Option Value) (base : Heap) (C : Addr) (m : Str) (k : Nat) (g : Addr) (sp : Sp) : Prop where
  b : BMeth K C m g
  f : FnR P w K mg base CX0 k g sp
theorem ev_gluer {K : Frag} {C : Addr} {te : TE} {σ : L2.St} {H : Hp} {L : Lore Str} {E : XK} (h : EvD K te σ H L.d) (hl : L.N.length ≤ 1000) (gl : L.Gl) (tb : TabsOk H) (H1 : Hp) (e1 : Ex H H1) (Q : VK) (q : ∀ A H2, Ex H1 H2 → GlH K C A L L.glue H2 → Q (.ref A.a) H2) : tMake C (spInit K C) [] E (tCons te tNil) σ H1 Q :=
  h H1 e1 _ fun v H2 e2 t x dx hx hdx hne => by
    have hx' : (upd H2 dx (.own x)) x = none := by rw [upd_ne (fun z => hne z.symm)]; exact hx
    have ex1 : Ex H2 (upd (upd H2 dx (.own x)) x (.ins C dx [])) := (Ex.new hdx).trans (Ex.new hx')
    refine ⟨x, dx, L, v, rfl, upd_same, t.ex ex1, hl, gl, tb.ex ((e1.trans e2).trans ex1), fun A H3 ha eb hf g => ⟨rfl, ?_⟩⟩
    subst ha
    exact q A H3 (e2.trans (ExB.toEx ex1 eb fun b hb => by rw [hb]; exact hx)) g

theorem s_retF {K : Frag} {ta : TE} {σ : L2.St} {H : Hp} {D : Ends} {f : Str} (h : ta σ H fun x H1 => ∃ a C dx fs v, x = .ref a ∧ H1 a = some (.ins C dx fs) ∧ Cls K C ∧ NoAttr K C f ∧ fs.lookup f = some v ∧ D.rt v H1) : tRet (tFld K ta f) D σ H := h
theorem q_asgK {te : TE} {σ : L2.St} {H : Hp} {D : Ends} {tz : TS} {i : Nat} (h : te σ H fun x H1 => tz D (σ.set i (some x)) H1) : tSeq (tAsg te (gName i)) tz D σ H := h
section
variable {P : Program} {w : World} {K : Frag} {mg : Str → Option Value} {base : Heap}
/-! ### least_of -/
abbrev s_Gluer_least_of : Stmt := inClass (top n_Gluer) n_Gluer_least_of
theorem sc_Gluer_least_of : FnScope ["self", "root", "name"] ["self", "root"] (defScope s_Gluer_least_of) := ⟨rfl, rfl, rfl, by decide +kernel, rfl, by decide +kernel, by decide +kernel⟩
theorem ok_Gluer_least_of {C f : Addr} {fd : FuncData} (F : Fun K "least_of" "Gluer.least_of" s_Gluer_least_of f fd) (B : Blt mg) (c : Cls K C) (n1 : NoAttr K C "held") (n2 : NoAttr K C "came") : FnOk P w K mg base CX0 1 f fd ["self", "root"] (spLeast K C) := by
  refine F.ok sc_Gluer_least_of (fun vs H Q E h => ?_) (fun cdv A0 outer s H vs Q E hr h => ?_)
  · obtain ⟨A, L, G, r, rfl, _⟩ := h
    rfl
  · obtain ⟨A, L, G, r, rfl, g, hrd, hne, hsub, hlen, k⟩ := h
    refine ⟨_, (pss_one (ps_ret (xMin K B (pe_lc (own := [("name", 2)]) (g := gName 2) (tt := tYes) rfl sc_Gluer_least_of.nd (wList K (xIxD hr (xFld K (pv 0)) (pv 1))) (blkOk_by (N := ["self", "root", "name"]) (sc := defScope s_Gluer_least_of) (by decide +kernel)) (fun _ _ _ _ _ => pg_name (i := 2) sc_Gluer_least_of.nd rfl (Or.inl rfl)) (fun _ _ _ _ _ => pts_nil) (fun _ _ _ _ _ => xIxD hr (xFld K (pv 0)) (pv 2)))))), ?_⟩
    obtain ⟨fs, v0, u0, hi, hfl, hp, hlo, ho, htl, hca, hhe, hgl, hcs, htc⟩ := g.ins
    obtain ⟨kvs, hkc, hka⟩ := g.came
    obtain ⟨hs, hh, hhk, hhv⟩ := g.held
    have hl := g.lists _ (g.ownD r hrd)
    have hsp := minI_spec (xs := (G.cont (G.own r)).map L.c) (by simpa using hne)
    have hL : EvLD K (tLc (iList K (tDGet (tFld K (tVar 0) "held") (tVar 1))) (gName 2) tYes (tDGet (tFld K (tVar 0) "came") (tVar 2)) [2]) [some (.ref A.a), some (.str r), none] H (((G.cont (G.own r)).map L.c).map .int) := by
      rw [List.map_map]
      refine l_lcA (fun x => .int (L.c x)) (i_list (ys := G.cont (G.own r)) (F := PyData.str) (ev_getV (k := .inr r) (ev_fld (ev_var rfl) hi c n1 hhe) (d_var (K := K) (i := 1) rfl (.str r)) hh (hhv r hrd)) (SqL.of hl) (.strs _)) (by omega) fun x y H1 e1 hy t => ⟨_, reach_name, rfl, ?_⟩
      exact d_getD (k := .inr y) (ev_fld (ev_var rfl) (e1.at hi) c n2 hca) (d_var (i := 2) rfl t) (e1.at hkc) (hka.tx (Tx.ex e1)) (by rw [L.cameA_get, if_pos (hsub y hy)])
    refine s_retD (K := K) (d_minNL hL hsp.1 hsp.2) (k := fun v H1 e t => ?_)
    rw [t.int_inv]
    exact k H1 e
/-! ### clash_of -/
abbrev s_clash_of : Stmt := top n_clash_of
theorem sc_clash_of : FnScope ["lore"] ["lore"] (defScope s_clash_of) := ⟨rfl, rfl, rfl, by decide +kernel, rfl, by decide +kernel, by decide +kernel⟩
theorem ok_clash_of {C f : Addr} {fd : FuncData} (F : Fun K "clash_of" "clash_of" s_clash_of f fd) (B : Blt mg) (c : Cls K C) (n3 : NoAttr K C "clash") (C_Gluer : CalC P w K mg base "Gluer" C 5 ["self", "lore"] (spInit K C)) : FnOk P w K mg base CX0 7 f fd ["lore"] (spT K relClashOf) := by
  refine F.ok sc_clash_of (fun vs H Q E h => ?_) (fun cdv A0 outer s H vs Q E hr h => ?_)
  · obtain ⟨_, ds, d, h1, ⟨L, _, _, rfl, rfl⟩, _⟩ := h
    exact h1.length
  · obtain ⟨tb, ds, d, h1, ⟨L, hl, gl, rfl, rfl⟩, k⟩ := h
    obtain ⟨v, _, rfl, hv, h2⟩ := h1.cons_inv
    cases h2.nil_inv
    refine ⟨_, (pss_one (ps_ret (xFld K (xMake C_Gluer (hr.mono (by decide)) (pa_cons (pv 0) pa_nil))))), ?_⟩
    refine s_retF (ev_gluer (K := K) (d_var (i := 0) rfl hv) hl gl tb H (Ex.refl _) _ fun A H2 e2 g => ?_)
    obtain ⟨fs, v0, u0, hi, hfl, hp, hlo, ho, htl, hca, hhe, hgl, hcs, htc⟩ := g.ins
    exact ⟨A.a, C, A.dx, fs, u0, rfl, hi, c, n3, hcs, k u0 H2 e2 htc⟩
/-! ### glued_lore -/
abbrev s_glued_lore : Stmt := top n_glued_lore
theorem sc_glued_lore : FnScope ["lore", "gluer"] ["lore"] (defScope s_glued_lore) := ⟨rfl, rfl, rfl, by decide +kernel, rfl, by decide +kernel, by decide +kernel⟩
theorem ok_glued_lore {C f : Addr} {fd : FuncData} (F : Fun K "glued_lore" "glued_lore" s_glued_lore f fd) (B : Blt mg) (c : Cls K C) (n3 : NoAttr K C "clash") (C_Gluer : CalC P w K mg base "Gluer" C 5 ["self", "lore"] (spInit K C)) : FnOk P w K mg base CX0 7 f fd ["lore"] (spGlued K C) := by
  refine F.ok sc_glued_lore (fun vs H Q E h => ?_) (fun cdv A0 outer s H vs Q E hr h => ?_)
  · obtain ⟨_, L, v, rfl, _⟩ := h
    rfl
  · obtain ⟨tb, L, v, rfl, hv, hl, gl, hnc, k⟩ := h
    refine ⟨_, (pss_cons (ps_set (i := 1) sc_glued_lore.nd rfl (Or.inl rfl) (xMake C_Gluer (hr.mono (by decide)) (pa_cons (pv 0) pa_nil)))
      (pss_cons (ps_if (yIsNN (xFld K (pv 1))) (pss_one (ps_never))
      pss_nil)
      (pss_one (ps_ret (pv 1))))), ?_⟩
    refine q_asgK (ev_gluer (K := K) (d_var (i := 0) rfl hv) hl gl tb H (Ex.refl _) _ fun A H2 e2 g => ?_)
    obtain ⟨fs, v0, u0, hi, hfl, hp, hlo, ho, htl, hca, hhe, hgl, hcs, htc⟩ := g.ins
    refine q_if (b := false) (et_D (K := K) ((d_isNotNoneC (d_fld (ev_var (i := 1) rfl) hi c n3 hcs htc)).to ?_)) (fun hb => nomatch hb) fun _ H3 e3 => ?_
    · rw [clashD_none, hnc]
      rfl
    · exact ⟨.ref A.a, rfl, k A H3 (e2.trans e3) (g.ex e3)⟩
/-! ### blocks -/
abbrev s_blocks : Stmt := top n_blocks
theorem sc_blocks : FnScope ["lore", "gluer", "roots", "root"] ["lore"] (defScope s_blocks) := ⟨rfl, rfl, rfl, by decide +kernel, rfl, by decide +kernel, by decide +kernel⟩
theorem ok_blocks {C f gL : Addr} {fd : FuncData} (F : Fun K "blocks" "blocks" s_blocks f fd) (B : Blt mg) (c : Cls K C) (n1 : NoAttr K C "held") (g_HEAD : GloS mg "HEAD" "") (C_glued_lore : Cal P w K mg base "glued_lore" 7 ["lore"] (spGlued K C)) (C_gone : Cal P w K mg base "gone" 2 ["lore"] (spR K relGone))
    (CB : BM P w K mg base C "least_of" 1 gL (spLeast K C)) : FnOk P w K mg base CX0 8 f fd ["lore"] (spT K relBlocks) := by
  refine F.ok sc_blocks (fun vs H Q E h => ?_) (fun cdv A0 outer s H vs Q E hr h => ?_)
  · obtain ⟨_, ds, d, h1, ⟨L, _, _, rfl, rfl⟩, _⟩ := h
    exact h1.length
  · obtain ⟨tb, ds, d, h1, ⟨L, hl, fine, rfl, rfl⟩, k⟩ := h
    obtain ⟨v, _, rfl, hv, h2⟩ := h1.cons_inv
    cases h2.nil_inv
    refine ⟨_, (pss_cons (ps_set (i := 1) sc_blocks.nd rfl (Or.inr rfl) (xCal C_glued_lore (hr.mono (by decide)) (pa_cons (pv 0) pa_nil)))
      (pss_cons (ps_set (i := 2) sc_blocks.nd rfl (Or.inl rfl) (xSortedKey hr B (xCal C_gone (hr.mono (by decide)) (pa_cons (pv 0) pa_nil)) (pk_cons (pe_bnd (pv 1) c CB.b) pk_nil)))
      (pss_one (ps_ret (xTuple K B (pe_lc (own := [("root", 3)]) (g := gName 3) (tt := tYes) rfl sc_blocks.nd (wList K (xAddL (pe_lst (pa_cons (xGloS g_HEAD) pa_nil)) (pv 2))) (blkOk_by (N := ["lore", "gluer", "roots", "root"]) (sc := defScope s_blocks) (by decide +kernel)) (fun _ _ _ _ _ => pg_name (i := 3) sc_blocks.nd rfl (Or.inl rfl)) (fun _ _ _ _ _ => pts_nil) (fun _ _ _ _ _ => pe_tup (pa_cons (pv 3) (pa_cons (xTuple K B (xIxD hr (xFld K (pv 1)) (pv 3))) pa_nil))))))))), ?_⟩
    refine ⟨v, rfl, tb, L, v, rfl, hv, hl, fine.gl, fine.nc, fun A H1 e1 g => ?_⟩
    obtain ⟨fs, v0, u0, hi, hfl, hp, hlo, ho, htl, hca, hhe, hgl, hcs, htc⟩ := g.ins
    obtain ⟨hs, hh, hhk, hhv⟩ := g.held
    have hdomg : ∀ r ∈ L.gone hdS leS, r ∈ L.dom := fun r hr => List.mem_append_right _ (List.mem_cons_of_mem _ hr)
    refine q_asgLD (K := K) (ds := (L.roots L.glue).map .str) (l_sortedKeyT (K := K) (ys := L.gone hdS leS) (F := PyData.str) (κ := L.least L.glue) rfl (d_call (da_cons (d_var rfl (hv.ex e1)) da_nil) (spR_pure ⟨L, hl, rfl, rfl⟩)) fun H2 e2 xs hx R hR => ?_) fun p vs H2 hp2 e2 h2 hx2 => ?_
    · refine ⟨.ref A.a, rfl, A.a, A.dx, fs, rfl, e2.at hi, hlo, fun q hq => hR q _ (Ex.new hq) ?_⟩
      refine keyR_met CB.f (hr.mono (by decide)) upd_same fun i x n hxi hni H3 e3 => ?_
      obtain ⟨d, hd, ht⟩ := hx.getV hxi
      rw [List.getElem?_map] at hd hni
      cases hg : (L.gone hdS leS)[i]? with
      | none =>
        rw [hg] at hd
        cases hd
      | some r =>
        rw [hg] at hd hni
        cases hd
        cases hni
        obtain rfl := ht.str_inv
        have hrg := List.mem_of_getElem? hg
        exact ⟨A, L, L.glue, r, rfl, (g.ex (e2.trans (Ex.new hq))).ex e3, hdomg r hrg, fine.ne r hrg, fine.sub r (hdomg r hrg), fine.len r (hdomg r hrg), fun H4 e4 => ⟨rfl, e4⟩⟩
    · have hrl : (L.roots L.glue).length ≤ 1000 := by
        unfold Lore.roots
        rw [(List.mergeSort_perm _ _).length_eq]
        exact Nat.le_trans L.gone_len hl
      have hdr : ∀ r ∈ hdS :: L.roots L.glue, r ∈ L.dom := fun r hr => by
        rcases List.mem_cons.mp hr with q | q
        · rw [q]
          exact List.mem_append_right _ (List.mem_cons_self ..)
        · exact hdomg r ((List.mergeSort_perm _ _).mem_iff.mp q)
      have hL : EvLD K (tLc (iList K (tOp rCat (tLst (tCons (tC (.str "")) tNil)) (tVar 2))) (gName 3) tYes (tTup (tCons (tVar 3) (tCons (tCB (rTupleOf K) (tCons (tDGet (tFld K (tVar 1) "held") (tVar 3)) tNil)) tNil))) [3]) [some v, some (.ref A.a), some (.ref p), none] H2 (L.blocks.map blockD) := by
        unfold Lore.blocks
        rw [List.map_map]
        refine l_lcA (fun r => blockD (r, L.glue.cont (L.glue.own r))) (i_listN (ys := hdS :: L.roots L.glue) (F := PyData.str) (l_catNL (ds := [.str ""]) (l_lst (da_cons d_cS da_nil) (show 1 ≤ 100000 by decide)) (ev_var (i := 2) rfl) h2 hx2 (by rw [List.length_map]; show 1 + _ ≤ _; omega))) (by rw [List.length_cons]; omega) fun x r H3 e3 hr3 t => ⟨_, reach_name, rfl, ?_⟩
        have e13 := e2.trans e3
        have hrd := hdr r hr3
        refine d_tup (da_cons (d_var (i := 3) rfl t) (da_cons (d_tupleL (ev_getV (k := .inr r) (ev_fld (ev_var (i := 1) rfl) (e13.at hi) c n1 hhe) (d_var (K := K) (i := 3) rfl t) (e13.at hh) (hhv r hrd)) (SqL.of (e13.at (g.lists _ (g.ownD r hrd)))) (.strs _)) da_nil)) (show 2 ≤ 100000 by decide)
      exact s_retD (K := K) (d_tupleNL hL) fun v' H4 e4 t4 => k v' H4 ((e1.trans e2).trans e4) t4
/-! ### first_line -/
abbrev s_first_line : Stmt := top n_first_line
theorem sc_first_line : FnScope ["lore", "root", "names", "name"] ["lore"] (defScope s_first_line) := ⟨rfl, rfl, rfl, by decide +kernel, rfl, by decide +kernel, by decide +kernel⟩
theorem ok_first_line {f : Addr} {fd : FuncData} (F : Fun K "first_line" "first_line" s_first_line f fd) (B : Blt mg) (C_blocks : Cal P w K mg base "blocks" 8 ["lore"] (spT K relBlocks)) : FnOk P w K mg base CX0 9 f fd ["lore"] (spT K relFirst) := by
  refine F.ok sc_first_line (fun vs H Q E h => ?_) (fun cdv A0 outer s H vs Q E hr h => ?_)
  · obtain ⟨_, ds, d, h1, ⟨L, _, _, rfl, rfl⟩, _⟩ := h
    exact h1.length
  · obtain ⟨tb, ds, d, h1, ⟨L, hl, fine, rfl, rfl⟩, k⟩ := h
    obtain ⟨v, _, rfl, hv, h2⟩ := h1.cons_inv
    cases h2.nil_inv
    refine ⟨_, (pss_one (ps_ret (xTuple K B (pe_lc2 (own := [("root", 1), ("names", 2), ("name", 3)]) (vs1 := [3]) (g := gTup K 2 (gCons (gName 1) (gCons (gName 2) gNil))) (g1 := gName 3) (tt := tYes) (tt1 := tYes) rfl sc_first_line.nd (wTup K (xCal C_blocks (hr.mono (by decide)) (pa_cons (pv 0) pa_nil))) (blkOk_by (N := ["lore", "root", "names", "name"]) (sc := defScope s_first_line) (by decide +kernel)) (by decide)
      (fun _ _ _ _ _ => gTupK K (pgs_cons (pg_name (i := 1) sc_first_line.nd rfl (Or.inl rfl)) (pgs_cons (pg_name (i := 2) sc_first_line.nd rfl (Or.inl rfl)) pgs_nil))) (fun _ _ _ _ _ => pts_nil) (fun _ _ _ _ _ => wTup K (pv 2)) (fun _ _ _ _ _ => pg_name (i := 3) sc_first_line.nd rfl (Or.inl rfl)) (fun _ _ _ _ _ => pts_nil) (fun _ _ _ _ _ => pv 3))))), ?_⟩
    have htot := fine.tot
    have hlen : ∀ b ∈ L.blocks, b.2.length ≤ 10000 := fun b hb => by
      refine Nat.le_trans ?_ htot
      unfold Lore.line
      have : ∀ bs : List (Str × List Str), b ∈ bs → b.2.length ≤ (bs.flatMap (·.2)).length := by
        intro bs
        induction bs with
        | nil => intro h; cases h
        | cons c bs ih =>
          intro h
          rw [List.flatMap_cons, List.length_append]
          rcases List.mem_cons.mp h with q | q
          · rw [q]; omega
          · have := ih q; omega
      exact this _ hb
    have hml : (L.blocks.flatMap fun b => b.2.map PyData.str) = L.line.map .str := by
      unfold Lore.line
      rw [List.map_flatMap]
    refine s_retD (K := K) (EvD.to (d_tupleNL (l_lc2 (K := K) (ys := L.blocks) (F := blockD) (fun _ => true) (fun b => b.2) (fun _ _ => true) (fun _ x => .str x) (fun _ x => .str x) (i_tup (d_callT (da_cons (d_var rfl hv) da_nil) tb ⟨L, hl, fine, rfl, rfl⟩)).ex hlen ?_ fun x b H1 e1 hb t => ?_)) ?_) fun v' H4 e4 t4 => k v' H4 e4 t4
    · rw [sel2_all, hml, List.length_map]
      omega
    · obtain ⟨u1, u2, t1, t2, r⟩ := reach2 (i := 1) (j := 2) (σ := wipe [some v, none, none, none] [1, 2, 3]) t
      refine ⟨_, r, rfl, et_yes, fun _ => ⟨i_tup (d_var (i := 2) rfl t2), fun x' z H3 e3 tx3 hz t3 => ⟨_, reach_name, rfl, et_yes, fun _ => d_var (i := 3) rfl t3⟩⟩⟩
    · rw [sel2_all, hml]
      rfl
end
end AS


set_option Elab.async false
set_option linter.all false
set_option maxRecDepth 100000
set_option maxHeartbeats 4000000
/-! The laws' own draws: the state, the next number. -/
namespace AS
open PySem L2 LamX
open PySem.W (Frag)
open RT
variable [TabsOf]

/-- the state of the draws at p, its cells at pc -/
def StH (p pc : Addr) (H : Hp) : Prop := ∃ (cells : List Int) (a b e : Int), H p = some (.lst [.ref pc, .int a, .int b, .int e]) ∧ H pc = some (.lst (cells.map V.int)) ∧ cells ≠ [] ∧ cells.length ≤ 63
/-- what a draw leaves: all but the state -/
structure Es (p pc : Addr) (H H' : Hp) : Prop where
  b : ExB (fun x => x = p) H H'
  s : StH p pc H'
section
variable {p pc : Addr} {H H1 H2 H' : Hp} {K : Frag}
theorem StH.ex (s : StH p pc H) (e : Ex H H') : StH p pc H' := by
  obtain ⟨cells, a, b, e', h1, h2, h3, h4⟩ := s
  exact ⟨cells, a, b, e', e.at h1, e.at h2, h3, h4⟩
theorem StH.ne (s : StH p pc H) : p ≠ pc := by
  obtain ⟨cells, a, b, e', h1, h2, h3, h4⟩ := s
  rintro rfl
  rw [h1] at h2
  cases cells with
  | nil => exact h3 rfl
  | cons c cs => simp at h2
theorem StH.noTup (s : StH p pc H) : ∀ b, b = p → NoTup (H b) := by
  obtain ⟨cells, a, b, e', h1, h2, h3, h4⟩ := s
  rintro b rfl
  rw [h1]
  trivial
theorem Es.refl (s : StH p pc H) : Es p pc H H := ⟨ExB.refl, s⟩
theorem Es.of (s : StH p pc H) (e : Ex H H') : Es p pc H H' := ⟨ExB.of e, s.ex e⟩
theorem Es.trans (a : Es p pc H H1) (b : Es p pc H1 H2) : Es p pc H H2 := ⟨a.b.trans b.b, b.s⟩
theorem Es.ex (a : Es p pc H H1) (b : Ex H1 H2) : Es p pc H H2 := a.trans (.of a.s b)
theorem Es.tx (s : StH p pc H) (e : Es p pc H H') : Tx K H H' := e.b.tx s.noTup
theorem Es.at (e : Es p pc H H') {b : Addr} {o : HO} (h : H b = some o) (hb : b ≠ p) (n : ∀ ps, o ≠ .tbl ps := by intro ps z; cases z) : H' b = some o := e.b.at h hb n
theorem Es.tab (e : Es p pc H H') (t : TabsOk H) : TabsOk H' := t.exB e.b
end
/-- the promise of a draw -/
def spNext : Sp := fun vs H Q _ => ∃ (p pc : Addr) (n : Int), vs = [.ref p, .int n] ∧ StH p pc H ∧ 0 < n ∧ n < 1073741824 ∧ ∀ r H', 0 ≤ r → r < n → Es p pc H H' → Q (.int r) H'
def spState (K : Frag) : Sp := fun vs H Q _ => ∃ (a : Addr) (ns : List Int), vs = [.ref a] ∧ SqL K H a (ns.map V.int) ∧ ∀ p pc H', Ex H H' → StH p pc H' → H p = none → H pc = none → Q (.ref p) H'
section
variable {K : Frag} {σ : L2.St} {H : Hp} {ta tb te : TE} {v : V} {p : Addr} {xs : List V} {i : Int} {D : Ends} {tz : TS}
theorem ev_ixL (ha : Ev ta σ H (.ref p)) (hb : EvD K tb σ H (.int i)) (hs : H p = some (.lst xs)) (hi : atI xs i = some v) : Ev (tOp (rIxL K) ta tb) σ H v := fun H1 e1 Q q =>
  ha H1 e1 _ fun H2 e2 => hb H2 (e1.trans e2) _ fun y H3 e3 u => ⟨p, xs, i, v, rfl, u.int_inv, SqL.of (((e1.trans e2).trans e3).at hs), hi, q H3 (e2.trans e3)⟩
/-- p[i] = data -/
theorem q_setL {d : PyData} {j : Nat} (h : EvD K te σ H d) (ha : ∀ H1, Ex H H1 → Ev ta σ H1 (.ref p)) (hb : ∀ H1, Ex H H1 → EvD K tb σ H1 (.int i)) (hs : H p = some (.lst xs)) (hi : ixN xs.length i = some j) (k : ∀ v H1, Ex H H1 → Dt K H1 v d → tz D σ (upd H1 p (.lst (xs.set j v)))) : tSeq (tAsg te (gSub ta tb rSetL)) tz D σ H :=
  h H (Ex.refl H) _ fun v H1 e1 t => ha H1 e1 H1 (Ex.refl _) _ fun H2 e2 => hb H2 (e1.trans e2) H2 (Ex.refl _) _ fun y H3 e3 u => ⟨p, xs, i, j, rfl, u.int_inv, ((e1.trans e2).trans e3).at hs, hi, k v H3 ((e1.trans e2).trans e3) ((t.ex e2).ex e3)⟩
end
section
variable {P : Program} {w : World} {K : Frag} {mg : Str → Option Value} {base : Heap}
abbrev s_law_state : Stmt := top n_law_state
theorem sc_law_state : FnScope ["script", "cells"] ["script"] (defScope s_law_state) := ⟨rfl, rfl, rfl, by decide +kernel, rfl, by decide +kernel, by decide +kernel⟩
theorem ints_map (ns : List Int) : ∀ {H : Hp}, DtAll K H (ns.map V.int) (ns.map PyData.int) := DtAll.ints ns
theorem ok_law_state {f : Addr} {fd : FuncData} (F : Fun K "_law_state" "_law_state" s_law_state f fd) (B : Blt mg) : FnOk P w K mg base CX0 1 f fd ["script"] (spState K) := by
  refine F.ok sc_law_state (fun vs H Q E h => ?_) (fun cdv A0 outer s H vs Q E hr h => ?_)
  · obtain ⟨a, ns, rfl, _⟩ := h
    rfl
  · obtain ⟨a, ns, rfl, hs, k⟩ := h
    refine ⟨_, (pss_cons (ps_set (i := 1) sc_law_state.nd rfl (Or.inl rfl) (xList K B (xSlL K (pv 0) po_none (po_some pe_int))))
      (pss_cons (ps_if (yEq (xLen K B (pv 1)) pe_int) (pss_one (ps_set (i := 1) sc_law_state.nd rfl (Or.inl rfl) (pe_lst (pa_cons pe_int pa_nil))))
      pss_nil)
      (pss_one (ps_ret (pe_lst (pa_cons (pv 1) (pa_cons pe_int (pa_cons pe_int (pa_cons pe_int pa_nil))))))))), ?_⟩
    refine q_asgLD (K := K) (ds := cutD (ns.map .int) none (some 63)) (l_listNL (l_slL (ev_var (i := 0) rfl) hs (.ints ns) o_none (o_some d_cI))) fun q vs H1 hq e1 h1 hx => ?_
    have hcut : cutD (ns.map PyData.int) none (some 63) = (ns.take 63).map .int := by
      unfold cutD
      rw [HT.sIx_none, show (some (63 : Int)) = some ((63 : Nat) : Int) from rfl, HT.sIx_nat, List.drop_zero, Nat.sub_zero, List.length_map, List.map_take]
      by_cases h : 63 ≤ ns.length
      · rw [Nat.min_eq_left h]
      · rw [Nat.min_eq_right (by omega), List.take_of_length_le (by rw [List.length_map]; exact Nat.le_refl _), List.take_of_length_le (by rw [List.length_map]; omega)]
    rw [hcut] at hx
    obtain rfl := hx.ints_inv
    have fin : ∀ (q : Addr) (cs : List Int) (H2 : Hp), Ex H H2 → H q = none → H2 q = some (.lst (cs.map V.int)) → cs ≠ [] → cs.length ≤ 63 → tRet (tLst (tCons (tVar 1) (tCons (tC (.int 0)) (tCons (tC (.int 0)) (tCons (tC (.int 57)) tNil))))) { nx := fun x H' => Q V.non H', rt := Q } [some (.ref a), some (.ref q)] H2 := fun q cs H2 e2 hq h2 hne hl => by
      refine ⟨.ref q, rfl, (show 4 ≤ sizeLine by decide), fun r hr2 => ?_⟩
      refine k r q _ (e2.trans (Ex.new hr2)) ⟨cs, 0, 0, 57, upd_same, ?_, hne, hl⟩ (e2.dom r hr2) hq
      rw [upd_ne (ne_of_none h2 hr2)]
      exact h2
    refine q_if (et_D (K := K) (d_eqI (d_lenL (ev_var (i := 1) rfl) (SqL.of h1)) d_cI)) (fun hb H2 e2 => ?_) fun hb H2 e2 => ?_
    · refine s_asgLD (K := K) (ds := [.int 0]) (l_lst (da_cons d_cI da_nil) (show 1 ≤ 100000 by decide)) fun q2 vs2 H3 hq2 e3 h3 hx3 => ?_
      have : vs2 = [0].map V.int := hx3.ints_inv (xs := [0])
      subst this
      exact fin q2 [0] H3 ((e1.trans e2).trans e3) ((e1.trans e2).dom q2 hq2) h3 (by simp) (by simp)
    · refine fin q (ns.take 63) H2 (e1.trans e2) hq (e2.at h1) (fun z => ?_) (by rw [List.length_take]; omega)
      rw [z] at hb
      simp at hb
abbrev s_law_next : Stmt := top n_law_next
theorem sc_law_next : FnScope ["state", "below", "found", "cells", "cell"] ["state", "below"] (defScope s_law_next) := ⟨rfl, rfl, rfl, by decide +kernel, rfl, by decide +kernel, by decide +kernel⟩
theorem atI_mod {cells : List Int} (h : cells ≠ []) (a : Int) : ∃ c, atI (cells.map V.int) (a % (cells.length : Nat)) = some (.int c) := by
  have hl : 0 < cells.length := List.length_pos_iff.mpr h
  have h0 : 0 ≤ a % (cells.length : Nat) := Int.emod_nonneg _ (by omega)
  have h1 : a % (cells.length : Nat) < cells.length := Int.emod_lt_of_pos _ (by omega)
  have hn : (a % (cells.length : Nat)).toNat < cells.length := by omega
  refine ⟨cells[(a % (cells.length : Nat)).toNat], ?_⟩
  unfold atI
  have : ixN (cells.map V.int).length (a % (cells.length : Nat)) = some (a % (cells.length : Nat)).toNat := by
    unfold ixN
    rw [List.length_map, if_pos h0, if_pos (by omega)]
  rw [this]
  show (cells.map V.int)[_]? = _
  rw [List.getElem?_map, List.getElem?_eq_getElem hn]
  rfl
theorem ok_law_next {f : Addr} {fd : FuncData} (F : Fun K "_law_next" "_law_next" s_law_next f fd) (B : Blt mg) : FnOk P w K mg base CX0 1 f fd ["state", "below"] spNext := by
  refine F.ok sc_law_next (fun vs H Q E h => ?_) (fun cdv A0 outer s H vs Q E hr h => ?_)
  · obtain ⟨p, pc, n, rfl, _⟩ := h
    rfl
  · obtain ⟨p, pc, n, rfl, st, hn0, hn1, k⟩ := h
    refine ⟨_, (pss_cons (ps_if (yGt (xIxL K (pv 0) pe_int) pe_int) (pss_cons (ps_set (i := 2) sc_law_next.nd rfl (Or.inl rfl) (xMod (xIxL K (pv 0) pe_int) (pv 1)))
      (pss_cons (ps_asg (xDiv (xIxL K (pv 0) pe_int) (pv 1)) (pg_sub (pv 0) pe_int set_list))
      (pss_one (ps_ret (pv 2)))))
      pss_nil)
      (pss_cons (ps_set (i := 3) sc_law_next.nd rfl (Or.inl rfl) (xIxL K (pv 0) pe_int))
      (pss_cons (ps_set (i := 4) sc_law_next.nd rfl (Or.inl rfl) (xIxL K (pv 3) (xMod (xIxL K (pv 0) pe_int) (xLen K B (pv 3)))))
      (pss_cons (ps_asg (xAdd (xIxL K (pv 0) pe_int) pe_int) (pg_sub (pv 0) pe_int set_list))
      (pss_cons (ps_if (PW.pt (pw_and (yGe (pv 4) (xPow pe_int pe_int)) (pw_and1 (yLe (xIxL K (pv 0) pe_int) (xLen K B (pv 3)))))) (pss_cons (ps_asg (xDiv (pv 4) (pv 1)) (pg_sub (pv 0) pe_int set_list))
      (pss_one (ps_ret (xMod (pv 4) (pv 1)))))
      pss_nil)
      (pss_cons (ps_asg (xMod (xAdd (xAdd (xMul (xIxL K (pv 0) pe_int) pe_int) (xMod (pv 4) pe_int)) (xMul pe_int (xIxL K (pv 0) pe_int))) pe_int) (pg_sub (pv 0) pe_int set_list))
      (pss_one (ps_ret (xMod (xDiv (xMod (xMul (xIxL K (pv 0) pe_int) pe_int) pe_int) pe_int) (pv 1)))))))))), ?_⟩
    have hne := st.ne
    obtain ⟨cells, a, b, e, hp, hpc, hc, hcl⟩ := st
    have hmod : ∀ i : Int, 0 ≤ i % n ∧ i % n < n := fun i => ⟨Int.emod_nonneg _ (by omega), Int.emod_lt_of_pos _ hn0⟩
    -- the state's items
    have it : ∀ {σ : L2.St} {H1 : Hp} {a b e : Int}, σ[0]? = some (some (.ref p)) → H1 p = some (.lst [.ref pc, .int a, .int b, .int e]) →
        EvD K (tOp (rIxL K) (tVar 0) (tC (.int 1))) σ H1 (.int a) ∧ EvD K (tOp (rIxL K) (tVar 0) (tC (.int 2))) σ H1 (.int b) ∧ EvD K (tOp (rIxL K) (tVar 0) (tC (.int 3))) σ H1 (.int e) := fun h1 h2 =>
      ⟨d_int (ev_ixL (ev_var h1) d_cI h2 rfl), d_int (ev_ixL (ev_var h1) d_cI h2 rfl), d_int (ev_ixL (ev_var h1) d_cI h2 rfl)⟩
    -- writes
    have es : ∀ {H1 H2 : Hp} {a b e a' b' e' : Int}, Es p pc H H1 → Ex H1 H2 → H1 p = some (.lst [.ref pc, .int a, .int b, .int e]) → Es p pc H (upd H2 p (.lst [.ref pc, .int a', .int b', .int e'])) := fun {H1 H2 a b e a' b' e'} h e2 hp => by
      obtain ⟨cells, _, _, _, h1, h2, h3, h4⟩ := h.s
      refine ⟨(h.b.trans (ExB.of e2)).trans (ExB.upd rfl (e2.at hp) trivial), cells, a', b', e', upd_same, ?_, h3, h4⟩
      rw [upd_ne (fun z => hne z.symm)]
      exact e2.at h2
    have st0 : Es p pc H H := Es.refl ⟨cells, a, b, e, hp, hpc, hc, hcl⟩
    refine q_if (et_D (K := K) (d_opIB (it rfl hp).2.1 d_cI)) (fun hb H1 e1 => ?_) fun hb H1 e1 => ?_
    · refine q_asgD (K := K) (d_opCI (it rfl (e1.at hp)).2.1 (d_var (i := 1) rfl (.int n)) hn0) fun v2 H2 e2 t2 => ?_
      obtain rfl := t2.int_inv
      refine q_setL (K := K) (p := p) (j := 2) (d_opCI (it rfl ((e1.trans e2).at hp)).2.1 (d_var (i := 1) rfl (.int n)) ⟨hn0, hn1⟩) (fun _ _ => ev_var rfl) (fun _ _ => d_cI) ((e1.trans e2).at hp) rfl fun v3 H3 e3 t3 => ?_
      obtain rfl := t3.int_inv
      refine ⟨_, rfl, k _ _ (hmod b).1 (hmod b).2 ?_⟩
      exact es (Es.of st0.s (e1.trans e2)) e3 ((e1.trans e2).at hp)
    · refine q_asgV (v := .ref pc) (ev_ixL (K := K) (ev_var (i := 0) rfl) d_cI (e1.at hp) rfl) fun H2 e2 => ?_
      have e12 := e1.trans e2
      obtain ⟨c, hcx⟩ := atI_mod hc a
      have hlen : ∀ {σ : L2.St} {H3 : Hp}, σ[3]? = some (some (.ref pc)) → H3 pc = some (.lst (cells.map V.int)) → EvD K (tCB (rLenA K) (tCons (tVar 3) tNil)) σ H3 (.int (cells.length : Nat)) := fun h1 h2 => by
        have := d_lenL (K := K) (ev_var h1) (SqL.of h2)
        rw [List.length_map] at this
        exact this
      refine q_asgV (v := .int c) (ev_ixL (K := K) (ev_var (i := 3) rfl) (d_opCI (it rfl (e12.at hp)).1 (hlen rfl (e12.at hpc)) (by have := List.length_pos_iff.mpr hc; omega)) (e12.at hpc) hcx) fun H3 e3 => ?_
      have e13 := e12.trans e3
      refine q_setL (K := K) (p := p) (j := 1) (d_opII (it rfl (e13.at hp)).1 d_cI) (fun _ _ => ev_var rfl) (fun _ _ => d_cI) (e13.at hp) rfl fun v4 H4 e4 t4 => ?_
      obtain rfl := t4.int_inv
      have es4 := es (a' := a + 1) (b' := b) (e' := e) (Es.of st0.s e13) e4 (e13.at hp)
      have hp4 : (upd H4 p (.lst [.ref pc, .int (a + 1), .int b, .int e])) p = some (.lst [.ref pc, .int (a + 1), .int b, .int e]) := upd_same
      have hpc4 : (upd H4 p (.lst [.ref pc, .int (a + 1), .int b, .int e])) pc = some (.lst (cells.map V.int)) := by
        rw [upd_ne (fun z => hne z.symm)]
        exact (e13.trans e4).at hpc
      show tSeq _ _ _ _ (upd H4 p (.lst [.ref pc, .int (a + 1), .int b, .int e]))
      refine q_if (et_and (et_D (K := K) (d_opIB (d_var (i := 4) rfl (.int c)) (d_opCI (g := fun i j => i ^ j.toNat) d_cI d_cI ⟨by decide, by decide, by decide⟩))) fun _ => et_D (K := K) (d_opIB (it rfl hp4).1 (hlen rfl hpc4))) (fun hb H5 e5 => ?_) fun hb H5 e5 => ?_
      · refine q_setL (K := K) (p := p) (j := 2) (d_opCI (d_var (i := 4) rfl (.int c)) (d_var (i := 1) rfl (.int n)) ⟨hn0, hn1⟩) (fun _ _ => ev_var rfl) (fun _ _ => d_cI) (e5.at hp4) rfl fun v6 H6 e6 t6 => ?_
        obtain rfl := t6.int_inv
        have es6 := es (a' := a + 1) (b' := c / n) (e' := e) (es4.ex e5) e6 (e5.at hp4)
        refine s_retD (K := K) (d_opCI (g := fun i j => i % j) (d_var (i := 4) rfl (.int c)) (d_var (i := 1) rfl (.int n)) hn0) fun v7 H7 e7 t7 => ?_
        rw [t7.int_inv]
        exact k _ _ (hmod c).1 (hmod c).2 (es6.ex e7)
      · have hp5 := e5.at hp4
        have cm : ∀ {i j : Int}, (-(2 ^ 64) < j ∧ j < 2 ^ 64) → CMul i j := fun h => .inr h
        refine q_setL (K := K) (p := p) (j := 3) (d_opCI (g := fun i j => i % j) (d_opII (d_opII (d_opCI (it rfl hp5).2.2 d_cI (cm (by decide))) (d_opCI (g := fun i j => i % j) (d_var (i := 4) rfl (.int c)) d_cI (by decide))) (d_opCI (g := fun i j => i * j) d_cI (it rfl hp5).1 (.inl (by decide)))) d_cI (by decide)) (fun _ _ => ev_var rfl) (fun _ _ => d_cI) hp5 rfl fun v6 H6 e6 t6 => ?_
        obtain rfl := t6.int_inv
        have es6 := es (a' := a + 1) (b' := b) (e' := (e * 48271 + c % 2147483629 + 7 * (a + 1)) % 2147483647) (es4.ex e5) e6 hp5
        have hp6 : (upd H6 p (.lst [.ref pc, .int (a + 1), .int b, .int ((e * 48271 + c % 2147483629 + 7 * (a + 1)) % 2147483647)])) p = some (.lst [.ref pc, .int (a + 1), .int b, .int ((e * 48271 + c % 2147483629 + 7 * (a + 1)) % 2147483647)]) := upd_same
        refine s_retD (K := K) (d_opCI (g := fun i j => i % j) (d_opCI (g := fun i j => i / j) (d_opCI (g := fun i j => i % j) (d_opCI (it rfl hp6).2.2 d_cI (cm (by decide))) d_cI (by decide)) d_cI ⟨by decide, by decide⟩) (d_var (i := 1) rfl (.int n)) hn0) fun v7 H7 e7 t7 => ?_
        rw [t7.int_inv]
        exact k _ _ (hmod _).1 (hmod _).2 (es6.ex e7)
end
end AS


set_option linter.all false
/-! From the first look to the last one; the line. -/
namespace AS
open PySem
variable [TabsOf]
section
variable {L : Lore Str} {pos : Str → Nat}
theorem up_upN (L : Lore Str) : ∀ n x, L.up n x = L.upN n x
  | 0, _ => rfl
  | n + 1, x => congrArg L.s (up_upN L n x)
theorem late_none (q : Qt (· ∈ L.N) pos L.c L.l L.s hdS) (ok : L.Ok hdS) : L.lateClash = none := by
  unfold Lore.lateClash
  rw [List.find?_eq_none.mpr]
  · rfl
  · intro x hx
    rw [decide_eq_true_eq]
    unfold Lore.cameOr
    by_cases h : L.s x ∈ L.N
    · rw [if_pos h]
      have := (q.q1 x hx h).2.1
      omega
    · rw [if_neg h]
      have := ok.lp x hx
      omega
theorem round_ok (q : Qt (· ∈ L.N) pos L.c L.l L.s hdS) : ∀ (n : Nat) (met : List Str) (x : Str), (∀ m ∈ met, m ∈ L.N ∧ (x ∈ L.N → pos x < pos m)) → (L.roundFrom n met x).2 ∉ (L.roundFrom n met x).1
  | 0, met, x, h => fun z => by
    have := h x z
    exact absurd (this.2 this.1) (Nat.lt_irrefl _)
  | n + 1, met, x, h => by
    show (if x ∈ L.N ∧ x ∉ met then L.roundFrom n (met ++ [x]) (L.s x) else (met, x)).2 ∉ (if x ∈ L.N ∧ x ∉ met then L.roundFrom n (met ++ [x]) (L.s x) else (met, x)).1
    by_cases hx : x ∈ L.N ∧ x ∉ met
    · rw [if_pos hx]
      refine round_ok q n _ _ fun m hm => ?_
      rcases List.mem_append.mp hm with k | k
      · refine ⟨(h m k).1, fun hs => ?_⟩
        have := (h m k).2 hx.1
        have := (q.q1 x hx.1 hs).1
        omega
      · rw [List.mem_singleton] at k
        rw [k]
        exact ⟨hx.1, fun hs => (q.q1 x hx.1 hs).1⟩
    · rw [if_neg hx]
      intro z
      have := h x z
      exact absurd (this.2 this.1) (Nat.lt_irrefl _)
theorem ring_none (q : Qt (· ∈ L.N) pos L.c L.l L.s hdS) : L.ringClash = none := by
  unfold Lore.ringClash
  rw [List.findSome?_eq_none_iff.mpr]
  · rfl
  · intro x hx
    unfold Lore.ringAt
    simp only []
    rw [if_neg]
    exact round_ok q _ [] x fun m hm => by cases hm
theorem ginv0 (q : Qt (· ∈ L.N) pos L.c L.l L.s hdS) (ok : L.Ok hdS) : GInv L [] L.glue0 where
  cl := by
    show L.lateClash.or L.ringClash = none
    rw [late_none q ok, ring_none q]
    rfl
  rt := fun _ => rfl
  out := fun _ _ => rfl
  un := fun _ _ _ => rfl
  rn := fun _ _ _ h => by cases h
  ch := fun z _ h => absurd rfl h
  mem := fun k z _ => by
    show z ∈ (if k ∈ L.N then [k] else []) ↔ z ∈ L.N ∧ z = k
    by_cases h : k ∈ L.N
    · rw [if_pos h, List.mem_singleton]
      exact ⟨fun e => ⟨e ▸ h, e⟩, And.right⟩
    · rw [if_neg h]
      exact ⟨fun e => (by cases e), fun e => absurd (e.2 ▸ e.1) h⟩
  nd := fun k _ => by
    show (if k ∈ L.N then [k] else []).Nodup
    split <;> simp
  hd := fun k hk _ => ⟨[], by show (if k ∈ L.N then [k] else []) = _; rw [if_pos hk]⟩
  look := fun k _ z _ h => by cases h
  ord := fun k _ => by
    show (if k ∈ L.N then [k] else []).Pairwise _
    split <;> simp
  gl := Nat.le_refl _
/-! the order of the looks -/
theorem byLook_perm (L : Lore Str) : L.byLook.Perm L.N := List.mergeSort_perm _ _
theorem byLook_sorted (L : Lore Str) : L.byLook.Pairwise fun x y => L.l y ≤ L.l x := by
  have := List.pairwise_mergeSort (le := fun x y => decide (-(L.l x) ≤ -(L.l y))) (fun a b c h1 h2 => by simp at h1 h2 ⊢; omega) (fun a b => by simp; omega) L.N
  exact this.imp fun {a b} h => by simp at h; omega
theorem at_split {γ : Type} {xs : List γ} {i : Nat} {x : γ} (h : xs[i]? = some x) : xs = xs.take i ++ x :: xs.drop (i + 1) := by
  obtain ⟨hl, rfl⟩ := List.getElem?_eq_some_iff.mp h
  rw [List.getElem_cons_drop, List.take_append_drop]
theorem byLook_at (ok : L.Ok hdS) {i : Nat} {x : Str} (h : L.byLook[i]? = some x) : x ∈ L.N ∧ x ∉ L.byLook.take i ∧ (∀ z ∈ L.byLook.take i, z ∈ L.N ∧ L.l x < L.l z) ∧ ∀ z ∈ L.N, z ∉ L.byLook.take i → L.l z ≤ L.l x := by
  have hp := byLook_perm L
  have hs := byLook_sorted L
  have hn : L.byLook.Nodup := hp.nodup_iff.mpr ok.nd
  have e := at_split h
  have hx : x ∈ L.N := hp.mem_iff.mp (List.mem_of_getElem? h)
  rw [e] at hs hn
  rw [List.pairwise_append, List.pairwise_cons] at hs
  rw [List.nodup_append] at hn
  have hxt : x ∉ L.byLook.take i := fun z => hn.2.2 x z x (List.mem_cons_self ..) rfl
  refine ⟨hx, hxt, fun z hz => ?_, fun z hz hzt => ?_⟩
  · have hzN : z ∈ L.N := hp.mem_iff.mp (List.mem_of_mem_take hz)
    have h1 := hs.2.2 z hz x (List.mem_cons_self ..)
    have h2 : L.l z ≠ L.l x := fun q => hxt (ok.ap z hzN x hx q ▸ hz)
    exact ⟨hzN, by omega⟩
  · have hzb : z ∈ L.byLook := hp.mem_iff.mpr hz
    rw [e] at hzb
    rcases List.mem_append.mp hzb with k | k
    · exact absurd k hzt
    · rcases List.mem_cons.mp k with rfl | k
      · exact Int.le_refl _
      · exact hs.2.1.1 z k
theorem ginv_to (q : Qt (· ∈ L.N) pos L.c L.l L.s hdS) (ok : L.Ok hdS) : ∀ i, i ≤ L.byLook.length → GInv L (L.byLook.take i) (L.glueTo i)
  | 0, _ => ginv0 q ok
  | i + 1, h => by
    have I := ginv_to q ok i (Nat.le_of_succ_le h)
    have hx : L.byLook[i]? = some L.byLook[i] := List.getElem?_eq_getElem h
    obtain ⟨a1, a2, a3, a4⟩ := byLook_at ok hx
    rw [L.glueTo_next hx, if_pos (by rw [I.cl]; rfl), List.take_add_one, hx]
    exact (I.put q a3 a4 a1 a2).1
theorem len_sub {xs ys : List Str} (hn : xs.Nodup) (h : ∀ x ∈ xs, x ∈ ys) : xs.length ≤ ys.length := nodup_len hn h
theorem quiet_gl (q : Qt (· ∈ L.N) pos L.c L.l L.s hdS) (ok : L.Ok hdS) (hl : L.N.length ≤ 1000) : L.Gl where
  nd := ok.nd
  hd := ok.hd
  put := fun i x hx _ => by
    have hi : i < L.byLook.length := (List.getElem?_eq_some_iff.mp hx).1
    have I := ginv_to q ok i (Nat.le_of_lt hi)
    obtain ⟨a1, a2, a3, a4⟩ := byLook_at ok hx
    obtain ⟨_, b1, b2, b3, b4, b5, b6⟩ := I.put q a3 a4 a1 a2
    have hf : (L.behind (L.glueTo i) (L.s x)).find? (fun o => decide (L.c o < L.l x)) = none := List.find?_eq_none.mpr fun o ho => by
      have := (b2 o ho).2
      simp only [decide_eq_true_eq]
      omega
    refine ⟨a1, b1, fun o ho => (b2 o ho).1, fun o ho => ?_, fun o ho => ?_, b3, b4, ?_, ?_⟩
    · rw [hf] at ho
      cases ho
    · rw [hf] at ho
      cases ho
    · rw [← List.length_append]
      refine Nat.le_trans (len_sub b5 fun z hz => ?_) hl
      rcases List.mem_append.mp hz with k | k
      · exact b6 z k
      · exact b4 z k
    · refine Nat.le_trans I.gl (Nat.le_trans ?_ hl)
      rw [List.length_take, (byLook_perm L).length_eq]
      omega
/-- the end of the gluing -/
theorem ginv_end (q : Qt (· ∈ L.N) pos L.c L.l L.s hdS) (ok : L.Ok hdS) : GInv L L.byLook L.glue := by
  have := ginv_to q ok L.byLook.length (Nat.le_refl _)
  rw [List.take_length, L.glueTo_all] at this
  exact this
end
/-! ### what a gluing without a clash comes to -/
section
variable {L : Lore Str} {g : Glue Str}
theorem GInv.own_out (I : GInv L L.byLook g) (z : Str) : g.own z ∉ L.N := fun h => I.rn _ h (I.rt z) ((byLook_perm L).mem_iff.mpr h)
theorem GInv.own_dom (I : GInv L L.byLook g) {z : Str} (hz : z ∈ L.N) : g.own z = hdS ∨ g.own z ∈ L.gone hdS leS := by
  have ho := I.own_out z
  obtain ⟨n, h1, h2⟩ := I.ch z hz fun e => ho (by rw [e]; exact hz)
  by_cases h : g.own z = hdS
  · exact .inl h
  · exact .inr ((L.mem_gone _).mpr ⟨⟨L.upN n z, (byLook_perm L).mem_iff.mp (h2 n (Nat.le_refl _)), h1⟩, h, ho⟩)
theorem GInv.own_saw (I : GInv L L.byLook g) {z : Str} (hz : z ∈ L.N) (hs : L.s z ∉ L.N) : g.own z = L.s z := by
  have ho := I.own_out z
  have hm := (I.mem (g.own z) z (I.rt z)).mpr ⟨hz, rfl⟩
  obtain ⟨A, M, R, e, _⟩ := I.look _ (I.rt z) z hm ((byLook_perm L).mem_iff.mpr hz)
  have : L.s z ∈ L.full g (g.own z) := by rw [e]; simp
  unfold Lore.full at this
  rw [if_neg ho] at this
  rcases List.mem_cons.mp this with k | k
  · exact k.symm
  · exact absurd ((I.mem _ _ (I.rt z)).mp k).1 hs
theorem roots_mem (L : Lore Str) (g : Glue Str) (x : Str) : x ∈ L.roots g ↔ x ∈ L.gone hdS leS := (List.mergeSort_perm _ _).mem_iff
theorem roots_nodup (L : Lore Str) (g : Glue Str) : (hdS :: L.roots g).Nodup := by
  rw [List.nodup_cons]
  exact ⟨fun h => ((L.mem_gone _).mp ((roots_mem L g _).mp h)).2.1 rfl, (List.mergeSort_perm _ _).nodup_iff.mpr L.gone_nodup⟩
theorem line_eq (L : Lore Str) : L.line = (hdS :: L.roots L.glue).flatMap fun k => L.glue.cont (L.glue.own k) := by
  unfold Lore.line Lore.blocks
  rw [List.flatMap_map]
theorem GInv.out_root (I : GInv L L.byLook L.glue) (hh : hdS ∉ L.N) {k : Str} (hk : k ∈ hdS :: L.roots L.glue) : L.glue.own k = k ∧ k ∉ L.N := by
  have hn : k ∉ L.N := by
    rcases List.mem_cons.mp hk with rfl | h
    · exact hh
    · exact ((L.mem_gone _).mp ((roots_mem L _ _).mp h)).2.2
  exact ⟨I.out k hn, hn⟩
theorem GInv.line_mem (I : GInv L L.byLook L.glue) (hh : hdS ∉ L.N) (x : Str) : x ∈ L.line ↔ x ∈ L.N := by
  rw [line_eq, List.mem_flatMap]
  constructor
  · rintro ⟨k, hk, hx⟩
    obtain ⟨h1, h2⟩ := I.out_root hh hk
    rw [h1] at hx
    exact ((I.mem k x h1).mp hx).1
  · intro hx
    refine ⟨L.glue.own x, ?_, ?_⟩
    · rcases I.own_dom hx with h | h
      · rw [h]
        exact List.mem_cons_self ..
      · exact List.mem_cons_of_mem _ ((roots_mem L _ _).mpr h)
    · rw [I.rt]
      exact (I.mem _ x (I.rt x)).mpr ⟨hx, rfl⟩
theorem nodup_flat {α β : Type} {f : α → List β} : ∀ {ks : List α}, ks.Nodup → (∀ k ∈ ks, (f k).Nodup) → (∀ j ∈ ks, ∀ k ∈ ks, j ≠ k → ∀ x ∈ f j, x ∉ f k) → (ks.flatMap f).Nodup
  | [], _, _, _ => List.nodup_nil
  | k :: ks, hn, h1, h2 => by
    rw [List.nodup_cons] at hn
    rw [List.flatMap_cons, List.nodup_append]
    refine ⟨h1 k (List.mem_cons_self ..), nodup_flat hn.2 (fun j hj => h1 j (List.mem_cons_of_mem _ hj)) (fun i hi j hj => h2 i (List.mem_cons_of_mem _ hi) j (List.mem_cons_of_mem _ hj)), fun x hx y hy e => ?_⟩
    subst e
    obtain ⟨j, hj, hxj⟩ := List.mem_flatMap.mp hy
    exact h2 k (List.mem_cons_self ..) j (List.mem_cons_of_mem _ hj) (fun z => hn.1 (z ▸ hj)) x hx hxj
theorem GInv.line_nodup (I : GInv L L.byLook L.glue) (hh : hdS ∉ L.N) : L.line.Nodup := by
  rw [line_eq]
  refine nodup_flat (roots_nodup L _) (fun k hk => ?_) fun j hj k hk hne x hx hx2 => hne ?_
  · obtain ⟨h1, h2⟩ := I.out_root hh hk
    rw [h1]
    exact I.nd k h1
  · obtain ⟨h1, _⟩ := I.out_root hh hj
    obtain ⟨h3, _⟩ := I.out_root hh hk
    rw [h1] at hx
    rw [h3] at hx2
    exact ((I.mem j x h1).mp hx).2.symm.trans ((I.mem k x h3).mp hx2).2
theorem perm_of_mem {xs ys : List Str} (hx : xs.Nodup) (hy : ys.Nodup) (h : ∀ x, x ∈ xs ↔ x ∈ ys) : xs.Perm ys := by
  refine (List.perm_ext_iff_of_nodup hx hy).mpr h
theorem GInv.line_perm (I : GInv L L.byLook L.glue) (ok : L.Ok hdS) : L.line.Perm L.N := perm_of_mem (I.line_nodup ok.hd) ok.nd (I.line_mem ok.hd)
end
theorem quiet_fine {L : Lore Str} {pos : Str → Nat} (q : Qt (· ∈ L.N) pos L.c L.l L.s hdS) (ok : L.Ok hdS) (hl : L.N.length ≤ 1000) : L.Fine := by
  have I := ginv_end q ok
  have sub : ∀ r, ∀ o ∈ L.glue.cont (L.glue.own r), o ∈ L.N := fun r o ho => ((I.mem _ o (I.rt r)).mp ho).1
  refine ⟨quiet_gl q ok hl, I.cl, fun r hr e => ?_, fun r _ => sub r, fun r _ => Nat.le_trans (len_sub (I.nd _ (I.rt r)) (sub r)) hl, ?_⟩
  · obtain ⟨⟨z, hz, hzr⟩, h1, h2⟩ := (L.mem_gone r).mp hr
    have o1 := I.own_saw hz (by rw [hzr]; exact h2)
    have : z ∈ L.glue.cont (L.glue.own r) := by
      rw [I.out r h2]
      exact (I.mem r z (I.out r h2)).mpr ⟨hz, o1.trans hzr⟩
    rw [e] at this
    cases this
  · rw [(I.line_perm ok).length_eq]
    omega
end AS


set_option Elab.async false
set_option linter.all false
set_option maxRecDepth 100000
set_option maxHeartbeats 4000000
/-! Numbers that are drawn within expressions; the drawn names. -/
namespace AS
open PySem L2 LamX
open PySem.W (Frag)
open RT
variable [TabsOf]

/-! ### numbers that are drawn -/
/-- it tells some number with P, and draws -/
def EvZ (p pc : Addr) (te : TE) (σ : L2.St) (H : Hp) (P : Int → Prop) : Prop := ∀ H1, Es p pc H H1 → ∀ Q : VK, (∀ i H2, Es p pc H1 H2 → P i → Q (.int i) H2) → te σ H1 Q
section
variable {K : Frag} {p pc : Addr} {σ : L2.St} {H : Hp} {ta tb te tl : TE} {P R S : Int → Prop} {D : Ends} {tz : TS} {ms : List Int}
theorem z_D {i : Int} (h : ∀ H1, Es p pc H H1 → EvD K te σ H1 (.int i)) : EvZ p pc te σ H (· = i) := fun H1 e1 Q q => h H1 e1 H1 (Ex.refl _) _ fun v H2 e2 t => by
  rw [t.int_inv]
  exact q i H2 (Es.of e1.s e2) rfl
theorem z_c {i : Int} : EvZ p pc (tC (.int i)) σ H (· = i) := fun H1 e1 Q q => q i H1 (Es.refl e1.s) rfl
theorem z_var {i : Int} {n : Nat} (h : σ[n]? = some (some (.int i))) : EvZ p pc (tVar n) σ H (· = i) := fun H1 e1 Q q => ⟨.int i, h, q i H1 (Es.refl e1.s) rfl⟩
theorem EvZ.imp (h : EvZ p pc te σ H P) (f : ∀ i, P i → R i) : EvZ p pc te σ H R := fun H1 e1 Q q => h H1 e1 Q fun i H2 e2 hi => q i H2 e2 (f i hi)
theorem EvZ.mono {H' : Hp} (h : EvZ p pc te σ H P) (e : Es p pc H H') : EvZ p pc te σ H' P := fun H1 e1 Q q => h H1 (e.trans e1) Q q
theorem z_op {g : Int → Int → Int} (ha : EvZ p pc ta σ H P) (hb : EvZ p pc tb σ H R) (hs : ∀ i j, P i → R j → S (g i j)) : EvZ p pc (tOp (rI0 fun i j => .int (g i j)) ta tb) σ H S := fun H1 e1 Q q =>
  ha H1 e1 _ fun i H2 e2 hi => hb H2 (e1.trans e2) _ fun j H3 e3 hj => ⟨i, j, rfl, rfl, q _ H3 (e2.trans e3) (hs i j hi hj)⟩
theorem z_opC {C : Int → Int → Prop} {g : Int → Int → Int} (ha : EvZ p pc ta σ H P) (hb : EvZ p pc tb σ H R) (hc : ∀ i j, P i → R j → C i j) (hs : ∀ i j, P i → R j → S (g i j)) : EvZ p pc (tOp (rI C fun i j => .int (g i j)) ta tb) σ H S := fun H1 e1 Q q =>
  ha H1 e1 _ fun i H2 e2 hi => hb H2 (e1.trans e2) _ fun j H3 e3 hj => ⟨i, j, rfl, rfl, hc i j hi hj, q _ H3 (e2.trans e3) (hs i j hi hj)⟩
theorem z_next {n : Nat} (hv : σ[n]? = some (some (.ref p))) (h : EvZ p pc te σ H P) (hp : ∀ i, P i → 0 < i ∧ i < 1073741824) : EvZ p pc (tCall spNext [] E0 (tCons (tVar n) (tCons te tNil))) σ H (fun r => ∃ i, P i ∧ 0 ≤ r ∧ r < i) := fun H1 e1 Q q =>
  ⟨.ref p, hv, h H1 e1 _ fun i H2 e2 hi => ⟨p, pc, i, rfl, e2.s, (hp i hi).1, (hp i hi).2, fun r H3 h0 h1 e3 => q r H3 (e2.trans e3) ⟨i, hi, h0, h1⟩⟩⟩
/-- draws below a number that is written -/
theorem z_nextC {n : Nat} {b : Int} (hv : σ[n]? = some (some (.ref p))) (h0 : 0 < b) (h1 : b < 1073741824) : EvZ p pc (tCall spNext [] E0 (tCons (tVar n) (tCons (tC (.int b)) tNil))) σ H (fun r => 0 ≤ r ∧ r < b) :=
  (z_next hv z_c (P := (· = b)) fun i hi => by rw [hi]; exact ⟨h0, h1⟩).imp fun r ⟨i, hi, h2, h3⟩ => by rw [hi] at h3; exact ⟨h2, h3⟩
/-- one of some written numbers -/
theorem z_pick (hl : ∀ H1, Es p pc H H1 → EvLD K tl σ H1 (ms.map .int)) (h : EvZ p pc te σ H P) (hs : ∀ i, P i → ∃ m, atI ms i = some m ∧ S m) : EvZ p pc (tOp (rIxL K) tl te) σ H S := fun H1 e1 Q q =>
  hl H1 e1 H1 (Ex.refl _) _ fun l vs H2 hl2 e2 h2 hx => h H2 (e1.ex e2) _ fun i H3 e3 hi => by
    obtain rfl := hx.ints_inv
    obtain ⟨m, hm, hs⟩ := hs i hi
    have hlp : l ≠ p := fun z => by
      obtain ⟨cells, a, b, e', h1, _⟩ := e1.s
      rw [z, h1] at hl2
      cases hl2
    refine ⟨l, ms.map V.int, i, .int m, rfl, rfl, SqL.of (e3.at h2 hlp), ?_, q m H3 ((Es.of e1.s e2).trans e3) hs⟩
    unfold atI at hm ⊢
    rw [List.length_map]
    cases hq : ixN ms.length i with
    | none => rw [hq] at hm; cases hm
    | some j =>
      rw [hq] at hm
      show (ms.map V.int)[j]? = _
      have hm' : ms[j]? = some m := hm
      rw [List.getElem?_map, hm']
      rfl
theorem q_asgZ {n : Nat} (h : EvZ p pc te σ H P) (st : StH p pc H) (k : ∀ i H1, Es p pc H H1 → P i → tz D (σ.set n (some (.int i))) H1) : tSeq (tAsg te (gName n)) tz D σ H := h H (Es.refl st) _ fun i H1 e1 hi => k i H1 e1 hi
theorem s_asgZ {n : Nat} (h : EvZ p pc te σ H P) (st : StH p pc H) (k : ∀ i H1, Es p pc H H1 → P i → D.nx (σ.set n (some (.int i))) H1) : tAsg te (gName n) D σ H := h H (Es.refl st) _ fun i H1 e1 hi => k i H1 e1 hi
/-- a range whose end is drawn -/
def EvIZ (p pc : Addr) (wi : TI) (σ : L2.St) (H : Hp) (P : Int → Prop) : Prop := ∀ H1, Es p pc H H1 → ∀ R : It → Hp → Prop, (∀ n J H2, Es p pc H1 H2 → P n → Walk J n.toNat (fun _ => True) (YFn fun i => .int (i : Nat)) → R J H2) → wi σ H1 R
theorem z_range (h : EvZ p pc te σ H P) (hp : ∀ i, P i → -(2 ^ 62) ≤ i ∧ i < 2 ^ 62) : EvIZ p pc (iRng1 (tCons te tNil)) σ H P := fun H1 e1 R q =>
  h H1 e1 _ fun n H2 e2 hn => ⟨n, rfl, (hp n hn).1, (hp n hn).2, q n _ H2 e2 hn (Walk.mono walk_range (fun _ _ => trivial) fun i H x H' _ _ y => ⟨y.1, by
    have hx : x = V.int (0 + (i : Nat)) := y.2
    rw [Int.zero_add] at hx
    exact hx⟩)⟩
/-- the new list at D while it is made -/
def Lz (p pc : Addr) (H1 : Hp) (D : Addr) (n : Nat) (H' : Hp) : Prop := H1 D = none ∧ Es p pc H1 H' ∧ ∃ ys : List Str, H' D = some (.lst (ys.map V.str)) ∧ ys.length = n ∧ ∀ y ∈ ys, y.length = 1 ∧ PyData.strOk y = true
/-- [a sign that is drawn for k in range(..)] -/
theorem z_signs {i : Nat} {ws : List Nat} {wi : TI} (hw : EvIZ p pc wi σ H P) (hp : ∀ n, P n → n.toNat ≤ 1000) (hb : ∀ (k : Nat) (H1 : Hp), Es p pc H H1 → (wipe ((wipe σ ws).set i (some (.int (k : Nat)))) ws = wipe σ ws) ∧ ∀ Q : VK, (∀ (y : Str) H2, Es p pc H1 H2 → y.length = 1 ∧ PyData.strOk y = true → Q (.str y) H2) → te ((wipe σ ws).set i (some (.int (k : Nat)))) H1 Q) (H0 : Hp) (e0 : Es p pc H H0) (Q : VK)
    (q : ∀ (n : Int) (D : Addr) (ys : List Str) (H2 : Hp), P n → H0 D = none → Es p pc H0 H2 → H2 D = some (.lst (ys.map V.str)) → ys.length = n.toNat → (∀ y ∈ ys, y.length = 1 ∧ PyData.strOk y = true) → Q (.ref D) H2) : tLc wi (gName i) tYes te ws σ H0 Q := hw H0 e0 _ fun n J H1 e1 hn w D hD => by
  have hDp : D ≠ p := fun z => by
    obtain ⟨cells, a, b, e', h1, _⟩ := e1.s
    rw [z, h1] at hD
    cases hD
  refine lc_it w (fun j H' => Lz p pc H1 D j H') ⟨hD, Es.of e1.s (Ex.new hD), [], upd_same, rfl, fun y hy => by cases hy⟩ (fun _ _ _ _ => trivial) (fun j x H' H'' hj l y => ?_) fun H' l => ?_
  · obtain ⟨rfl, rfl⟩ := y
    obtain ⟨h0, e, ys, h1, h2, h3⟩ := l
    refine ⟨(hb j H'' ((e0.trans e1).trans e)).1, et_yes H'' (Ex.refl _) _ fun H3 e3 => ?_⟩
    rw [if_pos rfl]
    refine (hb j H3 (((e0.trans e1).trans e).ex e3)).2 _ fun y H2 e2' hy => ?_
    have e2 := (Es.of e.s e3).trans e2'
    have h1' := e2.at h1 hDp
    refine ⟨ys.map V.str, h1', sz_lt (by rw [List.length_map, h2]; have := hp n hn; omega), h0, ?_, ys ++ [y], by rw [upd_same, List.map_append]; rfl, by rw [List.length_append, h2]; rfl, fun z hz => ?_⟩
    · have e3 := e.trans e2
      refine ⟨e3.b.mut hD (by rw [h1']; trivial), ?_⟩
      obtain ⟨cells, a, b, e', s1, s2, s3, s4⟩ := e3.s
      have hDpc : D ≠ pc := fun z => by
        obtain ⟨cells, a, b, e', h1, h2, _⟩ := e1.s
        rw [z, h2] at hD
        cases hD
      exact ⟨cells, a, b, e', by rw [upd_ne (fun z => hDp z.symm)]; exact s1, by rw [upd_ne (fun z => hDpc z.symm)]; exact s2, s3, s4⟩
    · rcases List.mem_append.mp hz with r | r
      · exact h3 z r
      · rw [List.mem_singleton.mp r]
        exact hy
  · obtain ⟨h0, e, ys, h1, h2, h3⟩ := l
    exact q n D ys H' hn (e1.b.dom D hD) (e1.trans e) h1 h2 h3
end

/-! ### the drawn names -/
abbrev abc : Str := "abcdefghijklmnopqrstuvwxyz"
theorem abc_at (n : Nat) (h : n < 26) : atI abc.cps.toList (n : Nat) = some (97 + n) := by
  have : ∀ n : Fin 26, atI abc.cps.toList (n.val : Nat) = some (97 + n.val) := by decide +kernel
  exact this ⟨n, h⟩
theorem abc_atI (i : Int) (h0 : 0 ≤ i) (h : i < 26) : atI abc.cps.toList i = some (97 + i.toNat) := by
  have := abc_at i.toNat (by omega)
  rw [show ((i.toNat : Nat) : Int) = i by omega] at this
  exact this
theorem join_len (e : Str) (he : e.length = 0) : ∀ ys : List Str, (Str.join e ys).length ≤ (ys.map (·.length)).sum
  | [] => Nat.le_refl _
  | [x] => by simp [Str.join]
  | x :: y :: r => by
    have ih := join_len e he (y :: r)
    show (x ++ e ++ Str.join e (y :: r)).length ≤ _
    have h1 : ∀ a b : Str, (a ++ b).length = a.length + b.length := fun a b => by
      show (a.cps ++ b.cps).size = _
      rw [Array.size_append]
      rfl
    rw [h1, h1, he, List.map_cons, List.sum_cons]
    omega
theorem str_app_len (a b : Str) : (a ++ b).length = a.length + b.length := by
  show (a.cps ++ b.cps).size = _
  rw [Array.size_append]
  rfl
theorem str_app_list (a b : Str) : (a ++ b).cps.toList = a.cps.toList ++ b.cps.toList := by
  show (a.cps ++ b.cps).toList = _
  rw [Array.toList_append]
theorem ok_app (a b : Str) : PyData.strOk (a ++ b) = (PyData.strOk a && PyData.strOk b) := by
  show (a.cps ++ b.cps).all (· < 0x110000) = _
  rw [Array.all_append]
  rfl
theorem ok_empty : PyData.strOk Str.empty = true := by decide +kernel
theorem ok_hd : PyData.strOk hdS = true := by decide +kernel
theorem join_ok : ∀ ys : List Str, (∀ y ∈ ys, PyData.strOk y = true) → PyData.strOk (Str.join "" ys) = true
  | [], _ => ok_empty
  | [x], h => h x (List.mem_cons_self ..)
  | x :: y :: r, h => by
    have ih := join_ok (y :: r) fun z hz => h z (List.mem_cons_of_mem _ hz)
    show PyData.strOk (x ++ "" ++ Str.join "" (y :: r)) = true
    rw [ok_app, ok_app, ih, h x (List.mem_cons_self ..), ok_hd]
    rfl
/-- the k-th drawn name -/
def nmAt (first behind : Int) (stem : Str) (k : Nat) : Str :=
  let c : Str := ⟨#[97 + ((first + 5 * (k : Nat)) % 26).toNat]⟩
  (if behind = 0 then c ++ stem else stem ++ c) ++ (if ((k : Nat) : Int) % 2 = 0 then Str.empty else c)
theorem nmAt_inj {first behind : Int} {stem : Str} {j k : Nat} (hj : j < 26) (hk : k < 26) (h : nmAt first behind stem j = nmAt first behind stem k) : j = k := by
  have hl := congrArg (fun z : Str => z.cps.toList) h
  have key : ((first + 5 * (j : Nat)) % 26).toNat = ((first + 5 * (k : Nat)) % 26).toNat → j = k := by omega
  unfold nmAt at hl
  simp only [str_app_list] at hl
  by_cases hb : behind = 0
  · simp only [if_pos hb, str_app_list] at hl
    apply key
    have := congrArg List.head? hl
    simp at this
    omega
  · simp only [if_neg hb, str_app_list] at hl
    apply key
    have e : ∀ n : Nat, ∀ c : Nat, (stem.cps.toList ++ [c] ++ (if ((n : Nat) : Int) % 2 = 0 then Str.empty else (⟨#[c]⟩ : Str)).cps.toList).getLast? = some c := fun n c => by
      by_cases hn : ((n : Nat) : Int) % 2 = 0
      · rw [if_pos hn]
        show (stem.cps.toList ++ [c] ++ []).getLast? = some c
        rw [List.append_nil, List.getLast?_concat]
      · rw [if_neg hn]
        show (stem.cps.toList ++ [c] ++ [c]).getLast? = some c
        rw [List.getLast?_concat]
    have := congrArg List.getLast? hl
    rw [e, e] at this
    have := Option.some.inj this
    omega
theorem nmAt_len {first behind : Int} {stem : Str} {k : Nat} (hs : stem.length ≤ 6) : (nmAt first behind stem k).length ≤ 8 ∧ nmAt first behind stem k ≠ hdS := by
  have h1 : ∀ c : Nat, (⟨#[c]⟩ : Str).length = 1 := fun _ => rfl
  have h0 : Str.empty.length = 0 := rfl
  have hlen : 1 ≤ (nmAt first behind stem k).length ∧ (nmAt first behind stem k).length ≤ 8 := by
    unfold nmAt
    simp only []
    rw [str_app_len]
    split <;> split <;> rw [str_app_len] <;> simp only [h1, h0] <;> omega
  refine ⟨hlen.2, fun z => ?_⟩
  have := hlen.1
  rw [z] at this
  exact absurd this (by decide)
theorem nmAt_ok {first behind : Int} {stem : Str} {k : Nat} (hs : PyData.strOk stem = true) : PyData.strOk (nmAt first behind stem k) = true := by
  have h1 : PyData.strOk (⟨#[97 + ((first + 5 * (k : Nat)) % 26).toNat]⟩ : Str) = true := by
    have : ((first + 5 * (k : Nat)) % 26).toNat < 26 := by
      have := Int.emod_lt_of_pos (first + 5 * (k : Nat)) (show (0 : Int) < 26 by decide)
      omega
    show (#[97 + ((first + 5 * (k : Nat)) % 26).toNat] : Array Nat).all (· < 0x110000) = true
    simp
    omega
  have h0 : PyData.strOk Str.empty = true := ok_empty
  unfold nmAt
  simp only []
  rw [ok_app]
  split <;> split <;> rw [ok_app] <;> simp only [h1, h0, hs] <;> rfl
def spNames (K : Frag) : Sp := fun vs H Q _ => ∃ (p pc : Addr) (n : Nat), vs = [.ref p, .int (n : Nat)] ∧ StH p pc H ∧ n ≤ 26 ∧ ∀ (q : Addr) (xs : List Str) H', Es p pc H H' → H q = none → H' q = some (.lst (xs.map V.str)) → xs.length = n → xs.Nodup → (∀ x ∈ xs, x ≠ hdS ∧ x.length ≤ 8 ∧ PyData.strOk x = true) → Q (.ref q) H'
section
variable {P : Program} {w : World} {K : Frag} {mg : Str → Option Value} {base : Heap}
abbrev s_law_names : Stmt := top n_law_names
theorem sc_law_names : FnScope ["state", "many", "letters", "stem", "k", "first", "behind", "found", "letter"] ["state", "many"] (defScope s_law_names) := ⟨rfl, rfl, rfl, by decide +kernel, rfl, by decide +kernel, by decide +kernel⟩
theorem ok_law_names {f : Addr} {fd : FuncData} (F : Fun K "_law_names" "_law_names" s_law_names f fd) (B : Blt mg) (C__law_next : Cal P w K mg base "_law_next" 1 ["state", "below"] spNext) : FnOk P w K mg base CX0 2 f fd ["state", "many"] (spNames K) := by
  refine F.ok sc_law_names (fun vs H Q E h => ?_) (fun cdv A0 outer s H vs Q E hr h => ?_)
  · obtain ⟨p, pc, n, rfl, _⟩ := h
    rfl
  · obtain ⟨p, pc, n, rfl, st, hn, k⟩ := h
    refine ⟨_, (pss_cons (ps_set (i := 2) sc_law_names.nd rfl (Or.inr rfl) pe_str)
      (pss_cons (ps_set (i := 3) sc_law_names.nd rfl (Or.inl rfl) (xBM K PySem.F.plainAttrs_str PySem.F.slot_str_join PySem.F.type_str_join mt_join pe_str (pa_cons (pe_lc (own := [("k", 4)]) (g := gName 4) (tt := tYes) rfl sc_law_names.nd (wRange1 B (xIxL K (pe_lst (pa_cons pe_int (pa_cons pe_int (pa_cons pe_int (pa_cons pe_int (pa_cons pe_int pa_nil)))))) (xCal C__law_next (hr.mono (by decide)) (pa_cons (pv 0) (pa_cons pe_int pa_nil))))) (blkOk_by (N := ["state", "many", "letters", "stem", "k", "first", "behind", "found", "letter"]) (sc := defScope s_law_names) (by decide +kernel)) (fun _ _ _ _ _ => pg_name (i := 4) sc_law_names.nd rfl (Or.inl rfl)) (fun _ _ _ _ _ => pts_nil) (fun _ _ _ _ _ => xIxS (pv 2) (xCal C__law_next (hr.mono (by decide)) (pa_cons (pv 0) (pa_cons pe_int pa_nil))))) pa_nil)))
      (pss_cons (ps_set (i := 5) sc_law_names.nd rfl (Or.inl rfl) (xCal C__law_next (hr.mono (by decide)) (pa_cons (pv 0) (pa_cons pe_int pa_nil))))
      (pss_cons (ps_set (i := 6) sc_law_names.nd rfl (Or.inl rfl) (xCal C__law_next (hr.mono (by decide)) (pa_cons (pv 0) (pa_cons pe_int pa_nil))))
      (pss_cons (ps_set (i := 7) sc_law_names.nd rfl (Or.inl rfl) (pe_lst pa_nil))
      (pss_cons (ps_for PassesOwn.never rfl (wRange1 B (pv 1)) (pg_name (i := 4) sc_law_names.nd rfl (Or.inl rfl))
      (pss_cons (ps_set (i := 8) sc_law_names.nd rfl (Or.inl rfl) (xIxS (pv 2) (xMod (xAdd (pv 5) (xMul pe_int (pv 4))) pe_int)))
      (pss_one (ps_expr (xBM K PySem.F.plainAttrs_list PySem.F.slot_list_append PySem.F.type_list_append mt_append (pv 7) (pa_cons (xAddS (xIxL K (pe_lst (pa_cons (xAddS (pv 8) (pv 3)) (pa_cons (xAddS (pv 3) (pv 8)) pa_nil))) (pv 6)) (xMulS (pv 8) (xMod (pv 4) pe_int))) pa_nil))))))
      (pss_one (ps_ret (pv 7))))))))), ?_⟩
    refine q_asgV (v := .str abc) ev_c fun H0 e0 => ?_
    have st0 := st.ex e0
    -- the stem
    show tSeq (tAsg (tBM K "str" _ (tC (.str "")) (tCons (tLc _ _ _ _ _) tNil)) (gName 3)) _ _ _ _
    refine ⟨rfl, z_signs (p := p) (pc := pc) (H := H0) (P := fun i => 0 ≤ i ∧ i ≤ 6) (z_range (z_pick (K := K) (ms := [0, 0, 1, 3, 6]) (fun H1 e1 => l_lst (da_cons d_cI (da_cons d_cI (da_cons d_cI (da_cons d_cI (da_cons d_cI da_nil))))) (show 5 ≤ 100000 by decide)) (z_nextC (b := 5) (n := 0) rfl (by decide) (by decide)) fun i ⟨h0, h1⟩ => ?_) fun i ⟨h0, h1⟩ => ⟨by omega, by omega⟩) (fun i ⟨h0, h1⟩ => by omega) (fun j H1 e1 => ⟨rfl, fun Q' q' => ?_⟩) H0 (Es.refl st0) _ fun m D ys H1 hm hD e1 hDl hyl hy1 => ?_⟩
    · have : i = 0 ∨ i = 1 ∨ i = 2 ∨ i = 3 ∨ i = 4 := by omega
      rcases this with rfl | rfl | rfl | rfl | rfl
      · exact ⟨0, rfl, by decide⟩
      · exact ⟨0, rfl, by decide⟩
      · exact ⟨1, rfl, by decide⟩
      · exact ⟨3, rfl, by decide⟩
      · exact ⟨6, rfl, by decide⟩
    · refine ⟨.str abc, rfl, z_nextC (p := p) (pc := pc) (H := H1) (n := 0) (b := 26) rfl (by decide) (by decide) H1 (Es.refl e1.s) _ fun i H2 e2 ⟨h0, h1⟩ => ?_⟩
      exact ⟨abc, i, 97 + i.toNat, rfl, rfl, (show 26 ≤ sizeLine by decide), abc_atI i h0 h1, q' _ H2 e2 ⟨rfl, by
        show (#[97 + i.toNat] : Array Nat).all (· < 0x110000) = true
        simp
        omega⟩⟩
    · have hsum : (ys.map (·.length)).sum ≤ 6 := by
        have : ∀ ys : List Str, (∀ y ∈ ys, y.length = 1) → (ys.map (·.length)).sum = ys.length := by
          intro ys
          induction ys with
          | nil => intro _; rfl
          | cons y ys ih =>
            intro h
            rw [List.map_cons, List.sum_cons, h y (List.mem_cons_self ..), ih (fun z hz => h z (List.mem_cons_of_mem _ hz)), List.length_cons]
            omega
        rw [this ys (fun y hy => (hy1 y hy).1), hyl]
        omega
      refine ⟨"", D, ys, rfl, rfl, .inl (SqL.of hDl), by show _ + ys.length * 0 ≤ _; omega, ?_⟩
      rw [TL.join_eq]
      have hstem : (Str.join "" ys).length ≤ 6 := Nat.le_trans (join_len "" rfl ys) hsum
      have hsok : PyData.strOk (Str.join "" ys) = true := join_ok ys fun y hy => (hy1 y hy).2
      generalize Str.join "" ys = stem at hstem hsok
      show tSeq _ _ _ [some (.ref p), some (.int (n : Nat)), some (.str abc), some (.str stem), none, none, none, none, none] H1
      refine q_asgZ (p := p) (pc := pc) (z_nextC (b := 26) (n := 0) rfl (by decide) (by decide)) e1.s fun first H2 e2 hf => ?_
      refine q_asgZ (p := p) (pc := pc) (z_nextC (b := 2) (n := 0) rfl (by decide) (by decide)) e2.s fun behind H3 e3 hbh => ?_
      have e03 := ((Es.of st e0).trans e1).trans (e2.trans e3)
      refine q_asgLD (K := K) (ds := []) (l_lst da_nil (by decide)) fun l vs H4 hl4 e4 h4 hx4 => ?_
      obtain rfl := hx4.nil_inv
      have hlH := e03.b.dom l hl4
      refine q_for (K := K) (i_range1 (n := (n : Nat)) (d_var (i := 1) rfl (.int _)) (by omega) (by omega)) (fun H5 i σ' H' => (∃ a b, σ' = [some (.ref p), some (.int (n : Nat)), some (.str abc), some (.str stem), a, some (.int first), some (.int behind), some (.ref l), b]) ∧ Tx K H5 H' ∧ Lw K H3 l (((List.range i).map (nmAt first behind stem)).map .str) H') (fun H5 e5 => ⟨⟨_, _, rfl⟩, Tx.refl _, hl4, e4.trans e5, [], e5.at h4, .nil⟩) (fun H5 i σ' H' e5 _ q => q.2.1) ?_ ?_
      · rintro H5 i z y σ' H' H'' e5 hy ⟨⟨a, b, rfl⟩, tx, lw⟩ ey ht
        have hin : i < n := by
          have := (List.getElem?_eq_some_iff.mp hy).1
          rw [List.length_range] at this
          omega
        rw [List.getElem?_range (by omega)] at hy
        cases hy
        obtain rfl := ht.int_inv
        refine reach_name _ ?_
        have hmod : 0 ≤ (first + 5 * (i : Nat)) % 26 ∧ (first + 5 * (i : Nat)) % 26 < 26 := ⟨Int.emod_nonneg _ (by decide), Int.emod_lt_of_pos _ (by decide)⟩
        refine q_asgD (K := K) (d_ixS (x := abc) (c := 97 + ((first + 5 * (i : Nat)) % 26).toNat) (d_var (i := 2) rfl (.str _)) (d_opCI (g := fun i j => i % j) (d_opII (d_var (i := 5) rfl (.int _)) (d_opCI (g := fun i j => i * j) d_cI (d_var (i := 4) rfl (.int _)) (.inl (by decide)))) d_cI (by decide)) (by decide) (abc_atI _ hmod.1 hmod.2)) fun v6 H6 e6 t6 => ?_
        obtain rfl := t6.str_inv
        have lw6 := (lw.ex ey).ex e6
        refine s_append (K := K) (i := 7) (p := l) (d := .str (nmAt first behind stem i)) rfl lw6 (by rw [List.length_map, List.length_map, List.length_range]; omega) ?_ fun H7 H8 e7 lw8 tx8 _ => ?_
        · have hc1 : (⟨#[97 + ((first + 5 * (i : Nat)) % 26).toNat]⟩ : Str).length = 1 := rfl
          refine d_addS (d_ixNL (ds := [.str (⟨#[97 + ((first + 5 * (i : Nat)) % 26).toNat]⟩ ++ stem), .str (stem ++ ⟨#[97 + ((first + 5 * (i : Nat)) % 26).toNat]⟩)]) (l_lst (da_cons (d_addS (d_var (i := 8) rfl (.str _)) (d_var (i := 3) rfl (.str _)) (by rw [hc1]; omega)) (da_cons (d_addS (d_var (i := 3) rfl (.str _)) (d_var (i := 8) rfl (.str _)) (by rw [hc1]; omega)) da_nil)) (show 2 ≤ 100000 by decide)) (d_var (i := 6) rfl (.int behind)) ?_) (d_mulS (d_var (i := 8) rfl (.str _)) (d_opCI (g := fun i j => i % j) (d_var (i := 4) rfl (.int _)) d_cI (by decide)) (by omega)) ?_
          · have : behind = 0 ∨ behind = 1 := by omega
            rcases this with rfl | rfl <;> rfl
          · have h0 : Str.empty.length = 0 := rfl
            split <;> split <;> rw [str_app_len] <;> simp only [hc1, h0] <;> omega
        · refine ⟨⟨_, _, rfl⟩, ((tx.trans (Tx.ex ey)).trans (Tx.ex (e6.trans e7))).trans tx8, ?_⟩
          rw [List.range_succ, List.map_append, List.map_append]
          exact lw8
      · rintro H5 σ' H' e5 ⟨⟨a, b, rfl⟩, tx, lw⟩
        rw [List.length_range] at lw
        obtain ⟨_, ex, acc, h1, h2⟩ := lw
        obtain rfl := h2.strs_inv
        refine ⟨.ref l, rfl, k l _ H' (e03.trans (Es.of e03.s ex)) hlH h1 (by rw [List.length_map, List.length_range]; omega) ?_ fun x hx => ?_⟩
        · refine List.pairwise_map.mpr (List.Pairwise.imp_of_mem (fun {a b} ha hb hab z => hab ?_) List.nodup_range)
          rw [List.mem_range] at ha hb
          exact nmAt_inj (by omega) (by omega) z
        · obtain ⟨j, _, rfl⟩ := List.mem_map.mp hx
          exact ⟨(nmAt_len hstem).2, (nmAt_len hstem).1, nmAt_ok hsok⟩
end
end AS


set_option Elab.async false
set_option linter.all false
set_option maxRecDepth 100000
set_option maxHeartbeats 4000000
/-! The law's own look: who began when, the laid order, the protests. -/
namespace AS
open PySem L2 LamX
open PySem.W (Frag)
open RT
variable [TabsOf]

/-! ### mirrors -/
def Lore.tri (L : Lore Str) (x : Str) : PyData := .tuple [.int (L.l x), .str x, .str (L.s x)]
/-- those here, the earliest look first -/
def Lore.looks (L : Lore Str) : List Str := L.N.mergeSort fun x y => dle (L.tri x) (L.tri y)
def Lore.begunIn (L : Lore Str) (T : List Str) (y : Str) : Option Int := if y = hdS then some 0 else if y ∈ L.N then some (L.c y) else (T.find? fun x => decide (L.s x = y)).map L.l
def Lore.lastIn (L : Lore Str) (T : List Str) (y : Str) : Option Str := if y = hdS ∨ y ∈ L.N then none else (T.filter fun x => decide (L.s x = y)).getLast?
def Lore.begun (L : Lore Str) (y : Str) : Option Int := L.begunIn L.looks y
def Lore.lastBy (L : Lore Str) (y : Str) : Option Str := L.lastIn L.looks y
def Lore.laid (L : Lore Str) (line : List Str) : List Str := line.flatMap fun x => (if L.lastBy (L.s x) = some x then [L.s x] else []) ++ [x]
def Lore.order (L : Lore Str) (line : List Str) : List Str := hdS :: L.laid line
def protD (z : Str) (k : Str) (o : Str) : PyData := .tuple [.str z, .str k, .str o]
def Lore.protestsAt (L : Lore Str) (line : List Str) (z : Str) : List PyData :=
  let o := L.order line
  if o.idxOf z < o.idxOf (L.s z) then [protD z "ahead" (L.s z)] else
    (if L.l z < (L.begun (L.s z)).getD 0 then [protD z "late" (L.s z)] else []) ++ (((o.take (o.idxOf z)).drop (o.idxOf (L.s z) + 1)).filter fun x => decide ((L.begun x).getD 0 ≤ L.l z)).map fun x => protD z "between" x
def Lore.protests (L : Lore Str) (line : List Str) : List PyData := line.flatMap (L.protestsAt line)
/-- the keys of last_by and what they tell -/
structure LastOk (L : Lore Str) (T : List Str) (el : List (Key × PyData)) (gl : List Str) : Prop where
  keys : el.map (·.1) = gl.map .inr
  nd : gl.Nodup
  get : ∀ y, getA el (.inr y) = (L.lastIn T y).map .str
def spSince (K : Frag) : Sp := fun vs H Q _ => ∃ (L : Lore Str) (v : V), vs = [v] ∧ Dt K H v L.d ∧ L.N.length ≤ 1000 ∧ hdS ∉ L.N ∧ ∀ (q pf pl : Addr) (kf kl : List (Key × V)) (ef el : List (Key × PyData)) (gl : List Str) H', Ex H H' → H' q = some (.lst [.ref pf, .ref pl]) →
  H' pf = some (.dK kf) → KAll K H' kf ef → (∀ y, getA ef (.inr y) = (L.begun y).map .int) → H' pl = some (.dK kl) → KAll K H' kl el → LastOk L L.looks el gl → Q (.ref q) H'
def spLaid (K : Frag) : Sp := fun vs H Q _ => ∃ (L : Lore Str) (line : List Str) (v : V) (pl : Addr) (kl : List (Key × V)) (el : List (Key × PyData)) (gl : List Str), vs = [v, .ref pl] ∧ Dt K H v (namesD line) ∧ line.length ≤ 1000 ∧ H pl = some (.dK kl) ∧ KAll K H kl el ∧ LastOk L L.looks el gl ∧ gl.length ≤ 2000 ∧
  ∀ q H', Ex H H' → H' q = some (.lst ((L.laid line).map V.str)) → Q (.ref q) H'
def relProtests (ds : List PyData) (d : PyData) : Prop := ∃ (L : Lore Str) (line : List Str), L.N.length ≤ 1000 ∧ line.length ≤ 60 ∧ hdS ∉ L.N ∧ (∀ z ∈ line, z ∈ L.N ∧ L.s z ∈ L.order line) ∧ ds = [L.d, namesD line] ∧ d = .tuple (L.protests line)
/-! ### plain -/
theorem begun_next (L : Lore Str) {T : List Str} {i : Nat} {x : Str} (h : T[i]? = some x) (y : Str) : L.begunIn (T.take (i + 1)) y = if y = L.s x ∧ L.begunIn (T.take i) y = none then some (L.l x) else L.begunIn (T.take i) y := by
  unfold Lore.begunIn
  by_cases h1 : y = hdS
  · rw [if_pos h1, if_pos h1, if_neg (fun q => by cases q.2)]
  · rw [if_neg h1, if_neg h1]
    by_cases h2 : y ∈ L.N
    · rw [if_pos h2, if_pos h2, if_neg (fun q => by cases q.2)]
    · rw [if_neg h2, if_neg h2, List.take_add_one, h, List.find?_append]
      cases hf : (T.take i).find? (fun x => decide (L.s x = y)) with
      | some z =>
        rw [if_neg (fun q => by cases q.2)]
        rfl
      | none =>
        by_cases e : L.s x = y
        · rw [if_pos ⟨e.symm, rfl⟩]
          show Option.map L.l ((none : Option Str).or (List.find? _ [x])) = _
          rw [Option.none_or, List.find?_cons_of_pos (by simpa using e)]
          rfl
        · rw [if_neg (fun q => e q.1.symm)]
          show Option.map L.l ((none : Option Str).or (List.find? _ [x])) = _
          rw [Option.none_or, List.find?_cons_of_neg (by simpa using e)]
          rfl
theorem last_next (L : Lore Str) {T : List Str} {i : Nat} {x : Str} (h : T[i]? = some x) (y : Str) : L.lastIn (T.take (i + 1)) y = if y = L.s x ∧ ¬ (y = hdS ∨ y ∈ L.N) then some x else L.lastIn (T.take i) y := by
  unfold Lore.lastIn
  by_cases h1 : y = hdS ∨ y ∈ L.N
  · rw [if_pos h1, if_pos h1, if_neg (fun q => q.2 h1)]
  · rw [if_neg h1, if_neg h1, List.take_add_one, h, List.filter_append]
    by_cases e : L.s x = y
    · rw [if_pos ⟨e.symm, h1⟩]
      show (_ ++ List.filter _ [x]).getLast? = _
      rw [List.filter_cons_of_pos (by simpa using e)]
      show (_ ++ [x]).getLast? = _
      rw [List.getLast?_concat]
    · rw [if_neg (fun q => e q.1.symm)]
      show (_ ++ List.filter _ [x]).getLast? = _
      rw [List.filter_cons_of_neg (by simpa using e)]
      show (_ ++ []).getLast? = _
      rw [List.append_nil]
theorem last_begun (L : Lore Str) (T : List Str) (y : Str) : L.lastIn T y = none ↔ (y = hdS ∨ y ∈ L.N) ∨ L.begunIn T y = none := by
  unfold Lore.lastIn Lore.begunIn
  by_cases h1 : y = hdS
  · rw [if_pos (.inl h1)]
    exact ⟨fun _ => .inl (.inl h1), fun _ => rfl⟩
  · by_cases h2 : y ∈ L.N
    · rw [if_pos (.inr h2)]
      exact ⟨fun _ => .inl (.inr h2), fun _ => rfl⟩
    · rw [if_neg (fun q => q.elim h1 h2), if_neg h1, if_neg h2, List.getLast?_eq_none_iff, List.filter_eq_nil_iff, Option.map_eq_none_iff, List.find?_eq_none]
      exact ⟨fun q => .inr q, fun q => (q.resolve_left fun q => q.elim h1 h2)⟩
theorem LastOk.put {L : Lore Str} {T : List Str} {el : List (Key × PyData)} {gl : List Str} {i : Nat} {x : Str} (o : LastOk L (T.take i) el gl) (h : T[i]? = some x) (hs : ¬ (L.s x = hdS ∨ L.s x ∈ L.N)) : LastOk L (T.take (i + 1)) (putA el (.inr (L.s x)) (.str x)) (if L.s x ∈ gl then gl else gl ++ [L.s x]) where
  keys := by
    rw [putA_keys, o.keys]
    by_cases q : L.s x ∈ gl
    · rw [if_pos q, if_pos (List.mem_map.mpr ⟨_, q, rfl⟩)]
    · rw [if_neg q, if_neg, List.map_append]
      · rfl
      · intro z
        obtain ⟨a, b, c⟩ := List.mem_map.mp z
        cases c
        exact q b
  nd := by
    by_cases q : L.s x ∈ gl
    · rw [if_pos q]
      exact o.nd
    · rw [if_neg q, List.nodup_append]
      exact ⟨o.nd, by simp, fun a ha b hb e => by
        rw [List.mem_singleton] at hb
        exact q (hb ▸ e ▸ ha)⟩
  get := fun y => by
    rw [getA_put, last_next L h y, o.get y]
    by_cases e : y = L.s x
    · rw [if_pos (by rw [e]), if_pos ⟨e, by rw [e]; exact hs⟩]
      rfl
    · rw [if_neg (fun z => e (Sum.inr.inj z)), if_neg (fun z => e z.1)]
theorem looks_perm (L : Lore Str) : L.looks.Perm L.N := List.mergeSort_perm _ _
theorem LastOk.len {L : Lore Str} {T : List Str} {el : List (Key × PyData)} {gl : List Str} (o : LastOk L T el gl) (hT : T.length ≤ 1000) : gl.length ≤ 1000 := by
  have : ∀ g ∈ gl, g ∈ T.map L.s := fun g hg => by
    have h1 : (Sum.inr g : Key) ∈ el.map (·.1) := by
      rw [o.keys]
      exact List.mem_map.mpr ⟨g, hg, rfl⟩
    have h2 : getA el (.inr g) ≠ none := fun z => getA_none_iff.mp z h1
    rw [o.get] at h2
    unfold Lore.lastIn at h2
    split at h2
    · exact absurd rfl h2
    · cases q : (T.filter fun x => decide (L.s x = g)).getLast? with
      | none =>
        rw [q] at h2
        exact absurd rfl h2
      | some z =>
        have := List.mem_filter.mp (List.mem_of_getLast? q)
        exact List.mem_map.mpr ⟨z, this.1, of_decide_eq_true this.2⟩
  have := nodup_len o.nd this
  rw [List.length_map] at this
  omega
section
variable {P : Program} {w : World} {K : Frag} {mg : Str → Option Value} {base : Heap}
/-! ### _law_since -/
abbrev s_law_since : Stmt := top n_law_since
theorem sc_law_since : FnScope ["lore", "found", "name", "came", "looked", "saw", "last_by", "row"] ["lore"] (defScope s_law_since) := ⟨rfl, rfl, rfl, by decide +kernel, rfl, by decide +kernel, by decide +kernel⟩
theorem sortOk_tri (L : Lore Str) : SortOk (L.N.map L.tri) where
  al := fun d hd e he => by
    obtain ⟨x, _, rfl⟩ := List.mem_map.mp hd
    obtain ⟨y, _, rfl⟩ := List.mem_map.mp he
    rfl
  so := .inl fun d hd => by
    obtain ⟨x, _, rfl⟩ := List.mem_map.mp hd
    exact ⟨_, _, rfl⟩
  dp := fun d hd => by
    obtain ⟨x, _, rfl⟩ := List.mem_map.mp hd
    show (PyData.tuple [.int (L.l x), .str x, .str (L.s x)]).depth ≤ 32
    simp [PyData.depth, PyData.depthAll]
theorem ok_law_since {f : Addr} {fd : FuncData} (F : Fun K "_law_since" "_law_since" s_law_since f fd) (B : Blt mg) : FnOk P w K mg base CX0 1 f fd ["lore"] (spSince K) := by
  refine F.ok sc_law_since (fun vs H Q E h => ?_) (fun cdv A0 outer s H vs Q E hr h => ?_)
  · obtain ⟨L, v, rfl, _⟩ := h
    rfl
  · obtain ⟨L, v, rfl, hv, hl, hhd, k⟩ := h
    refine ⟨_, (pss_cons (ps_set (i := 1) sc_law_since.nd rfl (Or.inl rfl) (pe_disp (pps_cons pe_str pe_int pps_nil) rfl rfl (List.cons_ne_nil _ _) (Nat.le_of_ble_eq_true rfl)))
      (pss_cons (ps_for PassesOwn.never rfl (wTup K (pv 0)) (gTupK K (pgs_cons (pg_name (i := 2) sc_law_since.nd rfl (Or.inl rfl)) (pgs_cons (pg_name (i := 3) sc_law_since.nd rfl (Or.inl rfl)) (pgs_cons (pg_name (i := 4) sc_law_since.nd rfl (Or.inl rfl)) (pgs_cons (pg_name (i := 5) sc_law_since.nd rfl (Or.inl rfl)) pgs_nil)))))
      (pss_one (ps_dput (hu_of hr) (pv 1) (pv 2) (pv 3) rfl)))
      (pss_cons (ps_set (i := 6) sc_law_since.nd rfl (Or.inl rfl) pe_dnewK)
      (pss_cons (ps_for PassesOwn.never rfl (wList K (xSorted K hr B (pe_lc (own := [("row", 7)]) (g := gName 7) (tt := tYes) rfl sc_law_since.nd (wTup K (pv 0)) (blkOk_by (N := ["lore", "found", "name", "came", "looked", "saw", "last_by", "row"]) (sc := defScope s_law_since) (by decide +kernel)) (fun _ _ _ _ _ => pg_name (i := 7) sc_law_since.nd rfl (Or.inl rfl)) (fun _ _ _ _ _ => pts_nil) (fun _ _ _ _ _ => pe_tup (pa_cons (xIxT K (pv 7) pe_int) (pa_cons (xIxT K (pv 7) pe_int) (pa_cons (xIxT K (pv 7) pe_int) pa_nil))))))) (gTupK K (pgs_cons (pg_name (i := 4) sc_law_since.nd rfl (Or.inl rfl)) (pgs_cons (pg_name (i := 2) sc_law_since.nd rfl (Or.inl rfl)) (pgs_cons (pg_name (i := 5) sc_law_since.nd rfl (Or.inl rfl)) pgs_nil))))
      (pss_one (ps_if (yNotInD hr (pv 5) (pv 1)) (pss_cons (ps_dput (hu_of hr) (pv 1) (pv 5) (pv 4) rfl)
      (pss_one (ps_dput (hu_of hr) (pv 6) (pv 5) (pv 2) rfl)))
      (pss_one (ps_if (yInD hr (pv 5) (pv 6)) (pss_one (ps_dput (hu_of hr) (pv 6) (pv 5) (pv 2) rfl))
      pss_nil)))))
      (pss_one (ps_ret (pe_lst (pa_cons (pv 1) (pa_cons (pv 6) pa_nil))))))))), ?_⟩
    refine q_asgD1 (K := K) (k := .inr hdS) (d := .int 0) (fun _ _ => d_cS) (fun _ _ => d_cI) fun pf v1 H1 hpf e1 t1 hd1 => ?_
    obtain rfl := t1.int_inv
    -- found[name] = came
    refine q_for (K := K) (i_tup (ys := L.N) (F := L.row) (d_var (i := 0) rfl (hv.ex e1))) (fun H2 i σ' H' => (∃ a b c d, σ' = [some v, some (.ref pf), a, b, c, d, none, none]) ∧ Tx K H2 H' ∧ Ex H H' ∧ ∃ kf ef, H' pf = some (.dK kf) ∧ KAll K H' kf ef ∧ ef.length ≤ i + 1 ∧ ∀ y, getA ef (.inr y) = if y = hdS then some (.int 0) else if y ∈ L.N.take i then some (.int (L.c y)) else none)
      (fun H2 e2 => ⟨⟨_, _, _, _, rfl⟩, Tx.refl _, e1.trans e2, _, [(.inr hdS, .int 0)], e2.at hd1, .cons (.int 0) .nil, Nat.le_refl _, fun y => ?_⟩) (fun H2 i σ' H' e _ q => q.2.1) ?_ ?_
    · rw [getA_cons, getA_nil]
      by_cases e : y = hdS
      · rw [if_pos (by rw [e]), if_pos e]
      · rw [if_neg (fun z => e (Sum.inr.inj z).symm), if_neg e]
        rfl
    · rintro H2 i z y σ' H' H'' e2 hy ⟨⟨a, b, c, d, rfl⟩, tx, ex, kf, ef, hf, hka, hkl, hget⟩ ey ht
      obtain ⟨u1, u2, u3, u4, w1, w2, w3, w4, r⟩ := reach4 (i := 2) (j := 3) (k := 4) (l := 5) (σ := [some v, some (.ref pf), a, b, c, d, none, none]) ht
      refine r _ ?_
      have hi : i < L.N.length := (List.getElem?_eq_some_iff.mp hy).1
      have hkk := hka.length
      refine s_dputV (K := K) (p := pf) (k := .inr y) (d := .int (L.c y)) (ev_var (i := 1) rfl) (ey.at hf) (by omega) (d_var (i := 2) rfl w1) (d_var (i := 3) rfl w2) fun v3 H3 e3 t3 h3 => ?_
      have exx := (ex.trans ey).trans e3
      refine ⟨⟨_, _, _, _, rfl⟩, ((tx.trans (Tx.ex ey)).trans (Tx.ex e3)).trans (Tx.dk h3 _), exx.mut hpf (by rw [h3]; exact trivial), _, putA ef (.inr y) (.int (L.c y)), upd_same, ?_, ?_, fun x => ?_⟩
      · exact ((hka.tx (Tx.ex (ey.trans e3))).put t3).tx (Tx.dk h3 _)
      · have := putA_len ef (.inr y) (.int (L.c y))
        omega
      · have hyN : y ∈ L.N := List.mem_of_getElem? hy
        rw [getA_put, hget x, List.take_add_one, hy]
        by_cases e : x = y
        · have hne : ¬ x = hdS := fun z => hhd (by rw [← z, e]; exact hyN)
          rw [if_pos (by rw [e]), if_neg hne, if_pos (by rw [e]; simp), e]
        · rw [if_neg (fun z => e (Sum.inr.inj z))]
          by_cases h1 : x = hdS
          · rw [if_pos h1, if_pos h1]
          · rw [if_neg h1, if_neg h1]
            have : x ∈ L.N.take i ++ (some y).toList ↔ x ∈ L.N.take i := by simp [e]
            by_cases h2 : x ∈ L.N.take i
            · rw [if_pos h2, if_pos (this.mpr h2)]
            · rw [if_neg h2, if_neg (fun z => h2 (this.mp z))]
    · rintro H2 σ' H' e2 ⟨⟨a, b, c, d, rfl⟩, tx, ex, kf, ef, hf, hka, hkl, hget⟩
      rw [List.take_length] at hget
      refine q_asgD0 fun pl hpl => ?_
      have hplf : pl ≠ pf := fun z => by rw [z, hf] at hpl; cases hpl
      have hplH := ex.dom pl hpl
      have ex3 : Ex H (upd H' pl (.dK [])) := ex.trans (Ex.new hpl)
      have tx3 : Tx K H' (upd H' pl (.dK [])) := Tx.new hpl
      have hf3 : (upd H' pl (.dK [])) pf = some (.dK kf) := by rw [upd_ne (fun z => hplf z.symm)]; exact hf
      -- the looks
      refine q_for (K := K) (i_listW (ys := L.looks) (F := L.tri) (EvLD.to (l_sortedNL (l_lcA (F := L.row) (ys := L.N) L.tri (i_tup (d_var (i := 0) rfl (hv.ex ex3))).ex (by omega) fun x y H1 e1 hy t => ⟨_, reach_name, rfl, d_tup (da_cons (d_ixT (d_var (i := 7) rfl t) d_cI rfl) (da_cons (d_ixT (d_var (i := 7) rfl t) d_cI rfl) (da_cons (d_ixT (d_var (i := 7) rfl t) d_cI rfl) da_nil))) (show 3 ≤ 100000 by decide)⟩) (sortOk_tri L)) ?_)) (fun H4 i σ' H'' => (∃ a b c d, σ' = [some v, some (.ref pf), a, b, c, d, some (.ref pl), none]) ∧ NewK K (upd H' pl (.dK [])) H4 H'' ∧ Ex H H'' ∧ ∃ kf ef kl el gl, H'' pf = some (.dK kf) ∧ KAll K H'' kf ef ∧ ef.length ≤ L.N.length + 1 + i ∧ (∀ y, getA ef (.inr y) = (L.begunIn (L.looks.take i) y).map .int) ∧ H'' pl = some (.dK kl) ∧ KAll K H'' kl el ∧ LastOk L (L.looks.take i) el gl)
        (fun H4 e4 => ⟨⟨_, _, _, _, rfl⟩, ⟨fun _ _ _ h _ => h, Tx.refl _⟩, ex3.trans e4, kf, ef, [], [], [], e4.at hf3, (hka.tx tx3).tx (Tx.ex e4), by omega, fun y => ?_, e4.at upd_same, .nil, ⟨rfl, List.nodup_nil, fun y => ?_⟩⟩) (fun H4 i σ' H'' e _ q => q.2.1) ?_ ?_
      · exact (PySem.W.sort_maps (r := fun x y => dle (L.tri x) (L.tri y)) (s := dle) L.tri (fun a _ b _ => rfl)).symm
      · rw [hget y]
        unfold Lore.begunIn
        by_cases h1 : y = hdS
        · rw [if_pos h1, if_pos h1]
          rfl
        · rw [if_neg h1, if_neg h1]
          by_cases h2 : y ∈ L.N
          · rw [if_pos h2, if_pos h2]
            rfl
          · rw [if_neg h2, if_neg h2]
            rfl
      · unfold Lore.lastIn
        rw [getA_nil]
        split <;> rfl
      · rintro H4 i z y σ' H'' H5 e4 hy ⟨⟨a, b, c, d, rfl⟩, nk, ex, kf, ef, kl, el, gl, hf, hka, hkl, hget, hl2, hla, ok⟩ ey ht
        obtain ⟨u1, u2, u3, w1, w2, w3, r⟩ := reach3 (i := 4) (j := 2) (k := 5) (σ := [some v, some (.ref pf), a, b, c, d, some (.ref pl), none]) ht
        refine r _ ?_
        have hi : i < L.N.length := by
          have := (List.getElem?_eq_some_iff.mp hy).1
          rw [(looks_perm L).length_eq] at this
          exact this
        have hkk := hka.length
        have hll := hla.length
        have hgl : gl.length ≤ 1000 := ok.len (by rw [List.length_take, (looks_perm L).length_eq]; omega)
        have hel : el.length = gl.length := by
          have := congrArg List.length ok.keys
          rw [List.length_map, List.length_map] at this
          exact this
        have nk5 : ∀ {H6 : Hp}, (∀ b o, (upd H' pl (.dK [])) b = none → H5 b = some o → (∀ ps, o ≠ .tbl ps) → H6 b = some o) → Tx K H5 H6 → NewK K (upd H' pl (.dK [])) H4 H6 := fun h1 h2 => ⟨fun b o hb ho nt => h1 b o hb (ey.keep b o (nk.1 b o hb ho nt) nt) nt, (nk.2.trans (Tx.ex ey)).trans h2⟩
        have fne : ∀ b, (upd H' pl (.dK [])) b = none → b ≠ pf ∧ b ≠ pl := fun b hb => ⟨(fun z => by rw [z, hf3] at hb; cases hb), (fun z => by rw [z, upd_same] at hb; cases hb)⟩
        have e05 := ex.trans ey
        refine s_if (et_DB (K := K) (d_notInD (k := .inr (L.s y)) (d_var (i := 5) rfl w3) (ev_var (i := 1) rfl) (ey.at hf))) (fun hb H6 e6 => ?_) (fun hb H6 e6 => ?_)
        · rw [valV_A hka, hget] at hb
          have hbn : L.begunIn (L.looks.take i) (L.s y) = none := by
            cases q : L.begunIn (L.looks.take i) (L.s y) with
            | none => rfl
            | some _ => rw [q] at hb; cases hb
          have hs : ¬ (L.s y = hdS ∨ L.s y ∈ L.N) := fun q => by
            unfold Lore.begunIn at hbn
            rcases q with q | q
            · rw [if_pos q] at hbn
              cases hbn
            · by_cases q2 : L.s y = hdS
              · rw [if_pos q2] at hbn
                cases hbn
              · rw [if_neg q2, if_pos q] at hbn
                cases hbn
          refine q_dputV (K := K) (p := pf) (k := .inr (L.s y)) (d := .int (L.l y)) (ev_var (i := 1) rfl) ((ey.trans e6).at hf) (by omega) (d_var (i := 5) rfl (w3.ex e6)) (d_var (i := 4) rfl (w1.ex e6)) fun v7 H7 e7 t7 h7 => ?_
          have e57 := e6.trans e7
          have t57 := (Tx.ex (K := K) e57).trans (Tx.dk h7 (HO.dK (putK kf (.inr (L.s y)) v7)))
          have hl7 : (upd H7 pf (.dK (putK kf (.inr (L.s y)) v7))) pl = some (.dK kl) := by rw [upd_ne hplf]; exact (ey.trans e57).at hl2
          refine s_dputV (K := K) (p := pl) (k := .inr (L.s y)) (d := .str y) (ev_var (i := 6) rfl) hl7 (by omega) (d_var (i := 5) rfl (w3.tx t57)) (d_var (i := 2) rfl (w2.tx t57)) fun v8 H8 e8 t8 h8 => ?_
          have t8' : Tx K H8 (upd H8 pl (.dK (putK kl (.inr (L.s y)) v8))) := Tx.dk h8 _
          have hf8 : H8 pf = some (.dK (putK kf (.inr (L.s y)) v7)) := e8.at upd_same
          refine ⟨⟨_, _, _, _, rfl⟩, nk5 (fun b o hb ho nt => ?_) ((t57.trans (Tx.ex e8)).trans t8'), ?_, putK kf (.inr (L.s y)) v7, putA ef (.inr (L.s y)) (.int (L.l y)), _, putA el (.inr (L.s y)) (.str y), _, ?_, ?_, ?_, fun x => ?_, upd_same, ?_, ok.put hy hs⟩
          · rw [upd_ne (fne b hb).2]
            refine e8.keep b o ?_ nt
            rw [upd_ne (fne b hb).1]
            exact e57.keep b o ho nt
          · exact (((e05.trans e57).mut hpf (by rw [h7]; exact trivial)).trans e8).mut hplH (by rw [h8]; exact trivial)
          · rw [upd_ne (fun z => hplf z.symm)]
            exact hf8
          · exact ((((hka.tx (Tx.ex (ey.trans e57))).put t7).tx (Tx.dk h7 _)).tx (Tx.ex e8)).tx t8'
          · have := putA_len ef (.inr (L.s y)) (.int (L.l y))
            omega
          · rw [getA_put, begun_next L hy x, hget x]
            by_cases e : x = L.s y
            · rw [if_pos (by rw [e]), if_pos ⟨e, by rw [e]; exact hbn⟩]
              rfl
            · rw [if_neg (fun z => e (Sum.inr.inj z)), if_neg (fun z => e z.1)]
          · exact (((hla.tx (Tx.ex ey)).tx (t57.trans (Tx.ex e8))).put t8).tx t8'
        · rw [valV_A hka, hget] at hb
          have hbs : ∃ b0, L.begunIn (L.looks.take i) (L.s y) = some b0 := by
            cases q : L.begunIn (L.looks.take i) (L.s y) with
            | none => rw [q] at hb; cases hb
            | some b0 => exact ⟨b0, rfl⟩
          have hb0 : ¬ (L.s y = L.s y ∧ L.begunIn (L.looks.take i) (L.s y) = none) := fun q => by
            obtain ⟨b0, h0⟩ := hbs
            rw [h0] at q
            cases q.2
          have hbeg : ∀ x, L.begunIn (L.looks.take (i + 1)) x = L.begunIn (L.looks.take i) x := fun x => by
            rw [begun_next L hy x, if_neg]
            rintro ⟨rfl, q⟩
            exact hb0 ⟨rfl, q⟩
          refine s_if (et_DB (K := K) (d_inD (k := .inr (L.s y)) (d_var (i := 5) rfl (w3.ex e6)) (ev_var (i := 6) rfl) ((ey.trans e6).at hl2))) (fun hb2 H7 e7 => ?_) (fun hb2 H7 e7 => ?_)
          · rw [valV_A hla, ok.get] at hb2
            have hs : ¬ (L.s y = hdS ∨ L.s y ∈ L.N) := fun q => by
              rw [(last_begun L _ _).mpr (.inl q)] at hb2
              cases hb2
            have e67 := e6.trans e7
            refine s_dputV (K := K) (p := pl) (k := .inr (L.s y)) (d := .str y) (ev_var (i := 6) rfl) ((ey.trans e67).at hl2) (by omega) (d_var (i := 5) rfl (w3.ex e67)) (d_var (i := 2) rfl (w2.ex e67)) fun v8 H8 e8 t8 h8 => ?_
            have e68 := e67.trans e8
            have t8' : Tx K H8 (upd H8 pl (.dK (putK kl (.inr (L.s y)) v8))) := Tx.dk h8 _
            refine ⟨⟨_, _, _, _, rfl⟩, nk5 (fun b o hb ho nt => ?_) ((Tx.ex e68).trans t8'), ?_, kf, ef, _, putA el (.inr (L.s y)) (.str y), _, ?_, ?_, by omega, fun x => by rw [hbeg x]; exact hget x, upd_same, ?_, ok.put hy hs⟩
            · rw [upd_ne (fne b hb).2]
              exact e68.keep b o ho nt
            · exact (e05.trans e68).mut hplH (by rw [h8]; exact trivial)
            · rw [upd_ne (fun z => hplf z.symm)]
              exact (ey.trans e68).at hf
            · exact (hka.tx (Tx.ex (ey.trans e68))).tx t8'
            · exact ((hla.tx (Tx.ex (ey.trans e68))).put t8).tx t8'
          · rw [valV_A hla, ok.get] at hb2
            have hln : L.lastIn (L.looks.take i) (L.s y) = none := by
              cases q : L.lastIn (L.looks.take i) (L.s y) with
              | none => rfl
              | some _ => rw [q] at hb2; cases hb2
            have hs : L.s y = hdS ∨ L.s y ∈ L.N := ((last_begun L _ _).mp hln).resolve_right fun q => hb0 ⟨rfl, q⟩
            have e67 := e6.trans e7
            refine ⟨⟨_, _, _, _, rfl⟩, nk5 (fun b o hb ho nt => e67.keep b o ho nt) (Tx.ex e67), e05.trans e67, kf, ef, kl, el, gl, (ey.trans e67).at hf, hka.tx (Tx.ex (ey.trans e67)), by omega, fun x => by rw [hbeg x]; exact hget x, (ey.trans e67).at hl2, hla.tx (Tx.ex (ey.trans e67)), ok.keys, ok.nd, fun x => ?_⟩
            rw [last_next L hy x, if_neg (fun q => q.2 (q.1 ▸ hs))]
            exact ok.get x
      · rintro H4 σ' H'' e4 ⟨⟨a, b, c, d, rfl⟩, nk, ex, kf, ef, kl, el, gl, hf, hka, hkl, hget, hl2, hla, ok⟩
        rw [List.take_length] at hget ok
        refine ⟨.ref pf, rfl, .ref pl, rfl, (show 2 ≤ sizeLine by decide), fun q hq => ?_⟩
        exact k q pf pl kf kl ef el gl _ (ex.trans (Ex.new hq)) upd_same ((Ex.new hq).at hf) (hka.tx (Tx.new hq)) hget ((Ex.new hq).at hl2) (hla.tx (Tx.new hq)) ok
end
end AS


set_option Elab.async false
set_option linter.all false
set_option maxRecDepth 100000
set_option maxHeartbeats 4000000
/-! _law_laid, _law_protests. -/
namespace AS
open PySem L2 LamX
open PySem.W (Frag)
open RT
variable [TabsOf]
section
variable {K : Frag} {σ : L2.St} {H : Hp} {ta tb te : TE} {ds es : List PyData} {D : Ends} {tz : TS}
theorem l_catNR (ha : EvLD K ta σ H ds) (hb : EvR K tb σ H es) (hl : ds.length + es.length ≤ 100000) : EvLD K (tOp rCat ta tb) σ H (ds ++ es) := fun H1 e1 Q q =>
  ha H1 e1 _ fun a zs H2 hp e2 h2 hx => hb H2 (e1.trans e2) _ fun b ws H3 e3 h3 hx' => ⟨a, b, zs, ws, rfl, rfl, e3.at h2, h3, sz_of (by rw [hx.length, hx'.length]; exact hl), fun l hl => q l _ _ (fresh_back (e2.trans e3) hl) ((e2.trans e3).trans (Ex.new hl)) upd_same (((hx.ex e3).append hx').ex (Ex.new hl))⟩
theorem q_asgT2 {i j : Nat} {d1 d2 : PyData} (h : EvD K te σ H (.tuple [d1, d2])) (c : ∀ u1 u2 H1, Ex H H1 → Dt K H1 u1 d1 → Dt K H1 u2 d2 → tz D ((σ.set i (some u1)).set j (some u2)) H1) : tSeq (tAsg te (gTup K 2 (gCons (gName i) (gCons (gName j) gNil)))) tz D σ H := h H (Ex.refl H) _ fun x H1 e1 t => by
  obtain ⟨u1, u2, t1, t2, r⟩ := reach2 (i := i) (j := j) (σ := σ) t
  exact r _ (c u1 u2 H1 e1 t1 t2)
theorem q_parD {i j : Nat} {ta : TA} {d1 d2 : PyData} (h : EvDA K ta σ H [d1, d2]) (c : ∀ u1 u2 H1, Ex H H1 → Dt K H1 u1 d1 → Dt K H1 u2 d2 → tz D ((σ.set i (some u1)).set j (some u2)) H1) : tSeq (tPar i j ta) tz D σ H := h H (Ex.refl H) _ fun vs H1 e1 t => by
  obtain ⟨u1, r, rfl, t1, t⟩ := t.cons_inv
  obtain ⟨u2, r, rfl, t2, t⟩ := t.cons_inv
  obtain rfl := t.nil_inv
  exact ⟨u1, u2, rfl, c u1 u2 H1 e1 t1 t2⟩
theorem q_asgT3 {i j k : Nat} {d1 d2 d3 : PyData} (h : EvD K te σ H (.tuple [d1, d2, d3])) (c : ∀ u1 u2 u3 H1, Ex H H1 → Dt K H1 u1 d1 → Dt K H1 u2 d2 → Dt K H1 u3 d3 → tz D (((σ.set i (some u1)).set j (some u2)).set k (some u3)) H1) : tSeq (tAsg te (gTup K 3 (gCons (gName i) (gCons (gName j) (gCons (gName k) gNil))))) tz D σ H := h H (Ex.refl H) _ fun x H1 e1 t => by
  obtain ⟨u1, u2, u3, t1, t2, t3, r⟩ := reach3 (i := i) (j := j) (k := k) (σ := σ) t
  exact r _ (c u1 u2 u3 H1 e1 t1 t2 t3)
end
/-! ### plain -/
theorem last_saw {L : Lore Str} {T : List Str} {o x : Str} (h : L.lastIn T o = some x) : L.s x = o ∧ x ∈ T := by
  unfold Lore.lastIn at h
  split at h
  · cases h
  · have := List.mem_filter.mp (List.mem_of_getLast? h)
    exact ⟨of_decide_eq_true this.2, this.1⟩
theorem LastOk.mem {L : Lore Str} {T : List Str} {el : List (Key × PyData)} {gl : List Str} (o : LastOk L T el gl) (g : Str) : g ∈ gl ↔ L.lastIn T g ≠ none := by
  have h1 : g ∈ gl ↔ (Sum.inr g : Key) ∈ el.map (·.1) := by
    rw [o.keys]
    constructor
    · exact fun h => List.mem_map.mpr ⟨g, h, rfl⟩
    · intro h
      obtain ⟨a, ha, e⟩ := List.mem_map.mp h
      cases e
      exact ha
  rw [h1]
  have h2 : (Sum.inr g : Key) ∈ el.map (·.1) ↔ getA el (.inr g) ≠ none := by
    rw [ne_eq, getA_none_iff]
    exact ⟨fun h k => k h, fun h => Classical.byContradiction h⟩
  rw [h2, o.get]
  cases L.lastIn T g <;> simp
theorem nodup_one {x : Str} : ∀ {xs : List Str}, xs.Nodup → (∀ y ∈ xs, y = x) → x ∈ xs → xs = [x]
  | [], _, _, h => by cases h
  | y :: ys, hn, h, _ => by
    have h1 := h y (List.mem_cons_self ..)
    rw [List.nodup_cons] at hn
    cases ys with
    | nil => rw [h1]
    | cons z zs =>
      have h2 := h z (List.mem_cons_of_mem _ (List.mem_cons_self ..))
      exact absurd (by rw [h1, h2]; exact List.mem_cons_self ..) hn.1
theorem laid_one {L : Lore Str} {T : List Str} {el : List (Key × PyData)} {gl : List Str} (o : LastOk L T el gl) (x : Str) : gl.filter (fun g => decide (L.lastIn T g = some x)) = if L.lastIn T (L.s x) = some x then [L.s x] else [] := by
  by_cases h : L.lastIn T (L.s x) = some x
  · rw [if_pos h]
    refine nodup_one (o.nd.filter _) (fun y hy => ?_) ?_
    · exact (last_saw (of_decide_eq_true (List.mem_filter.mp hy).2)).1.symm
    · exact List.mem_filter.mpr ⟨(o.mem _).mpr (by rw [h]; exact fun z => nomatch z), decide_eq_true h⟩
  · rw [if_neg h, List.filter_eq_nil_iff]
    intro g _ hg
    have h1 := of_decide_eq_true hg
    have h2 := (last_saw h1).1
    rw [← h2] at h1
    exact h h1
section
variable {P : Program} {w : World} {K : Frag} {mg : Str → Option Value} {base : Heap}
/-! ### _law_laid -/
abbrev s_law_laid : Stmt := top n_law_laid
theorem sc_law_laid : FnScope ["line", "last_by", "found", "name", "other"] ["line", "last_by"] (defScope s_law_laid) := ⟨rfl, rfl, rfl, by decide +kernel, rfl, by decide +kernel, by decide +kernel⟩
theorem ok_law_laid {f : Addr} {fd : FuncData} (F : Fun K "_law_laid" "_law_laid" s_law_laid f fd) (B : Blt mg) : FnOk P w K mg base CX0 1 f fd ["line", "last_by"] (spLaid K) := by
  refine F.ok sc_law_laid (fun vs H Q E h => ?_) (fun cdv A0 outer s H vs Q E hr h => ?_)
  · obtain ⟨L, line, v, pl, kl, el, gl, rfl, _⟩ := h
    rfl
  · obtain ⟨L, line, v, pl, kl, el, gl, rfl, hv, hll, hpl, hka, ok, hgl, k⟩ := h
    refine ⟨_, (pss_cons (ps_set (i := 2) sc_law_laid.nd rfl (Or.inl rfl) (pe_lst pa_nil))
      (pss_cons (ps_for PassesOwn.never rfl (wTup K (pv 0)) (pg_name (i := 3) sc_law_laid.nd rfl (Or.inr rfl))
      (pss_one (ps_set (i := 2) sc_law_laid.nd rfl (Or.inl rfl) (xAddL (xAddL (pv 2) (pe_lock (pe_lc (own := [("other", 4)]) (g := gName 4) rfl sc_law_laid.nd (pi_keys (pv 1)) (blkOk_by (N := ["line", "last_by", "found", "name", "other"]) (sc := defScope s_law_laid) (by decide +kernel)) (fun _ _ _ _ _ => pg_name (i := 4) sc_law_laid.nd rfl (Or.inl rfl)) (fun _ _ _ _ _ => pts_one (yEq (xIxD hr (pv 1) (pv 4)) (pv 3))) (fun _ _ _ _ _ => pv 4)))) (pe_lst (pa_cons (pv 3) pa_nil))))))
      (pss_one (ps_ret (pv 2))))), ?_⟩
    have one : ∀ x, (if L.lastBy (L.s x) = some x then [L.s x] else []) = gl.filter fun g => decide (L.lastBy g = some x) := fun x => (laid_one ok x).symm
    have hlen : ∀ i, (L.laid (line.take i)).length ≤ 2 * i := fun i => by
      unfold Lore.laid
      have : ∀ xs : List Str, (xs.flatMap fun x => (if L.lastBy (L.s x) = some x then [L.s x] else []) ++ [x]).length ≤ 2 * xs.length := by
        intro xs
        induction xs with
        | nil => exact Nat.le_refl _
        | cons x xs ih =>
          rw [List.flatMap_cons, List.length_append, List.length_append, List.length_cons]
          split <;> simp only [List.length_cons, List.length_nil] <;> omega
      have := this (line.take i)
      rw [List.length_take] at this
      omega
    refine q_asgLD (K := K) (ds := []) (l_lst da_nil (by decide)) fun q0 vs H1 hq0 e1 h1 hx1 => ?_
    obtain rfl := hx1.nil_inv
    refine q_for (K := K) (i_tup (ys := line) (F := PyData.str) (d_var (i := 0) rfl (hv.ex e1))) (fun H2 i σ' H' => Tx K H2 H' ∧ ∃ q a, σ' = [some v, some (.ref pl), some (.ref q), a, none] ∧ Lw K H q ((L.laid (line.take i)).map .str) H') (fun H2 e2 => ⟨Tx.refl _, q0, _, rfl, hq0, e1.trans e2, [], e2.at h1, .nil⟩) (fun H2 i σ' H' e _ q => q.1) ?_ ?_
    · rintro H2 i z x σ' H' H'' e2 hx ⟨tx, q, a, rfl, lw⟩ ey ht
      obtain rfl := ht.str_inv
      refine reach_name _ ?_
      have hi : i < line.length := (List.getElem?_eq_some_iff.mp hx).1
      have lw2 := lw.ex ey
      obtain ⟨hqH, ex, acc, hacc, hax⟩ := lw2
      have hlt : L.laid (line.take (i + 1)) = L.laid (line.take i) ++ ((if L.lastBy (L.s x) = some x then [L.s x] else []) ++ [x]) := flat_take hx
      have hin : EvLD K (tLockE (tLc (iKeys (tVar 1)) (gName 4) (tTest (tOp rEq (tDGet (tVar 1) (tVar 4)) (tVar 3))) (tVar 4) [4])) [some v, some (.ref pl), some (.ref q), some (.str x), none] H'' ((gl.filter fun g => decide (L.lastBy g = some x)).map .str) := by
        refine EvLD.to (l_lcD (K := K) (i := 1) (p := pl) (ks := gl.map .inr) (fun k => match k with | .inr g => decide (L.lastBy g = some x) | _ => false) kD rfl (ex.at hpl) (by rw [hka.keys]; exact ok.keys) (by rw [List.length_map]; omega) fun k H3 tx3 rd hk3 => ?_) ?_
        · obtain ⟨g, hg, rfl⟩ := List.mem_map.mp hk3
          obtain ⟨z, hz⟩ := Option.ne_none_iff_exists'.mp ((ok.mem g).mp hg)
          refine ⟨_, reach_name, rfl, et_D (K := K) (EvD.to (d_eqS (x := z) (d_getRd (k := .inr g) (ev_var (i := 1) rfl) (d_var (i := 4) rfl (.str g)) rd ((hka.tx (Tx.ex ex)).tx tx3) (by rw [ok.get g, hz]; rfl)) (d_var (i := 3) rfl (.str x))) ?_), fun _ => d_var (i := 4) rfl (.str g)⟩
          show PyData.bool (decide (z = x)) = PyData.bool (decide (L.lastBy g = some x))
          have : L.lastBy g = some z := hz
          rw [this]
          congr 1
          simp
        · rw [List.filter_map, List.map_map]
          rfl
      have hgf : (gl.filter fun g => decide (L.lastBy g = some x)).length ≤ 2000 := Nat.le_trans (List.length_filter_le _ _) hgl
      have hli := hlen i
      refine s_asgLD (K := K) (l_catNN (l_catLN (ev_var (i := 2) rfl) hacc hax hin (by rw [List.length_map, List.length_map]; omega)) (l_lst (da_cons (d_var (i := 3) rfl (.str x)) da_nil) (show 1 ≤ 100000 by decide)) (by rw [List.length_append, List.length_map, List.length_map]; show _ + 1 ≤ _; omega)) fun q2 vs2 H3 hq2 e3 h3 hx3 => ?_
      refine ⟨(tx.trans (Tx.ex ey)).trans (Tx.ex e3), q2, _, rfl, ex.dom q2 hq2, ex.trans e3, vs2, h3, ?_⟩
      rw [hlt, one, List.map_append, List.map_append]
      rw [List.append_assoc] at hx3
      exact hx3
    · rintro H2 σ' H' e2 ⟨tx, q, a, rfl, lw⟩
      rw [List.take_length] at lw
      obtain ⟨hqH, ex, acc, hacc, hax⟩ := lw
      obtain rfl := hax.strs_inv
      exact ⟨.ref q, rfl, k q H' ex hacc⟩
/-! ### _law_protests -/
abbrev s_law_protests : Stmt := top n_law_protests
theorem sc_law_protests : FnScope ["lore", "line", "begun_at", "last_by", "order", "rows", "row", "found", "name", "came", "looked", "saw", "at", "there", "other"] ["lore", "line"] (defScope s_law_protests) := ⟨rfl, rfl, rfl, by decide +kernel, rfl, by decide +kernel, by decide +kernel⟩
theorem laid_len (L : Lore Str) : ∀ xs : List Str, (L.laid xs).length ≤ 2 * xs.length := by
  intro xs
  unfold Lore.laid
  induction xs with
  | nil => exact Nat.le_refl _
  | cons x xs ih =>
    rw [List.flatMap_cons, List.length_append, List.length_append, List.length_cons]
    split <;> simp only [List.length_cons, List.length_nil] <;> omega
theorem order_begun {L : Lore Str} {line : List Str} (hl : ∀ z ∈ line, z ∈ L.N) {o : Str} (h : o ∈ L.order line) : ∃ b, L.begun o = some b := by
  have nn : L.begun o ≠ none := by
    intro hn
    unfold Lore.begun Lore.begunIn at hn
    rcases List.mem_cons.mp h with e | h
    · rw [if_pos e] at hn
      cases hn
    · obtain ⟨x, hx, h⟩ := List.mem_flatMap.mp h
      rcases List.mem_append.mp h with h | h
      · by_cases q : L.lastBy (L.s x) = some x
        · rw [if_pos q, List.mem_singleton] at h
          have : L.lastIn L.looks o = none := (last_begun L _ _).mpr (.inr hn)
          have q' : L.lastIn L.looks o = some x := by rw [h]; exact q
          rw [this] at q'
          cases q'
        · rw [if_neg q] at h
          cases h
      · rw [List.mem_singleton] at h
        by_cases e : o = hdS
        · rw [if_pos e] at hn
          cases hn
        · rw [if_neg e, if_pos (h ▸ hl x hx)] at hn
          cases hn
  exact Option.ne_none_iff_exists'.mp nn
theorem protAt_len (L : Lore Str) (line : List Str) (z : Str) : (L.protestsAt line z).length ≤ 2 * line.length + 3 := by
  unfold Lore.protestsAt
  simp only []
  split
  · simp
  · rw [List.length_append, List.length_map]
    have h1 := List.length_filter_le (fun x => decide ((L.begun x).getD 0 ≤ L.l z)) (((L.order line).take ((L.order line).idxOf z)).drop ((L.order line).idxOf (L.s z) + 1))
    rw [List.length_drop, List.length_take] at h1
    have h2 : (L.order line).length ≤ 2 * line.length + 1 := by
      unfold Lore.order
      rw [List.length_cons]
      have := laid_len L line
      omega
    have h3 : (if L.l z < (L.begun (L.s z)).getD 0 then [protD z "late" (L.s z)] else []).length ≤ 1 := by
      split <;> simp
    omega
theorem cutD_fromTo {ds : List PyData} {a b : Nat} : cutD ds (some ((a : Nat) : Int)) (some ((b : Nat) : Int)) = (ds.take b).drop a := by
  unfold cutD
  rw [HT.sIx_nat, HT.sIx_nat, List.drop_take]
  by_cases h : a ≤ ds.length
  · rw [Nat.min_eq_left h]
    by_cases h2 : b ≤ ds.length
    · rw [Nat.min_eq_left h2]
    · rw [Nat.min_eq_right (by omega), List.take_of_length_le (by rw [List.length_drop]; exact Nat.le_refl _), List.take_of_length_le (by rw [List.length_drop]; omega)]
  · have e1 : min a ds.length = ds.length := Nat.min_eq_right (by omega)
    rw [e1, List.drop_of_length_le (Nat.le_refl _), List.drop_of_length_le (by omega : ds.length ≤ a)]
    simp
theorem ok_law_protests {f : Addr} {fd : FuncData} (F : Fun K "_law_protests" "_law_protests" s_law_protests f fd) (B : Blt mg) (C__law_since : Cal P w K mg base "_law_since" 1 ["lore"] (spSince K)) (C__law_laid : Cal P w K mg base "_law_laid" 1 ["line", "last_by"] (spLaid K)) : FnOk P w K mg base CX0 2 f fd ["lore", "line"] (spR K relProtests) := by
  refine F.ok sc_law_protests (fun vs H Q E h => ?_) (fun cdv A0 outer s H vs Q E hr h => ?_)
  · obtain ⟨ds, d, h1, ⟨L, line, _, _, _, _, rfl, rfl⟩, _⟩ := h
    exact h1.length
  · obtain ⟨ds, d, h1, ⟨L, line, hl, hll, hhd, hin, rfl, rfl⟩, k⟩ := h
    obtain ⟨v, _, rfl, hv, h2⟩ := h1.cons_inv
    obtain ⟨u, _, rfl, hu, h2⟩ := h2.cons_inv
    cases h2.nil_inv
    refine ⟨_, (pss_cons (ps_asg (xCal C__law_since (hr.mono (by decide)) (pa_cons (pv 0) pa_nil)) (pg_tupL K (pgs_cons (pg_name (i := 2) sc_law_protests.nd rfl (Or.inr rfl)) (pgs_cons (pg_name (i := 3) sc_law_protests.nd rfl (Or.inl rfl)) pgs_nil))))
      (pss_cons (ps_set (i := 4) sc_law_protests.nd rfl (Or.inl rfl) (xAddL (pe_lst (pa_cons pe_str pa_nil)) (xCal C__law_laid (hr.mono (by decide)) (pa_cons (pv 1) (pa_cons (pv 3) pa_nil)))))
      (pss_cons (ps_set (i := 5) sc_law_protests.nd rfl (Or.inl rfl) (xDict K B (pe_lc (own := [("row", 6)]) (g := gName 6) (tt := tYes) rfl sc_law_protests.nd (wTup K (pv 0)) (blkOk_by (N := ["lore", "line", "begun_at", "last_by", "order", "rows", "row", "found", "name", "came", "looked", "saw", "at", "there", "other"]) (sc := defScope s_law_protests) (by decide +kernel)) (fun _ _ _ _ _ => pg_name (i := 6) sc_law_protests.nd rfl (Or.inl rfl)) (fun _ _ _ _ _ => pts_nil) (fun _ _ _ _ _ => pe_tup (pa_cons (xIxT K (pv 6) pe_int) (pa_cons (pv 6) pa_nil))))))
      (pss_cons (ps_set (i := 7) sc_law_protests.nd rfl (Or.inl rfl) (pe_lst pa_nil))
      (pss_cons (ps_for PassesOwn.never rfl (wTup K (pv 1)) (pg_name (i := 8) sc_law_protests.nd rfl (Or.inr rfl))
      (pss_cons (ps_asg (xSlT K (xIxD hr (pv 5) (pv 8)) (po_some pe_int) po_none) (gTupK K (pgs_cons (pg_name (i := 9) sc_law_protests.nd rfl (Or.inl rfl)) (pgs_cons (pg_name (i := 10) sc_law_protests.nd rfl (Or.inr rfl)) (pgs_cons (pg_name (i := 11) sc_law_protests.nd rfl (Or.inl rfl)) pgs_nil)))))
      (pss_cons (ps_par (i := 12) (j := 13) rfl sc_law_protests.nd rfl rfl (by decide) rfl rfl (pa_cons (xBM K (r := rIndex K) PySem.F.plainAttrs_list PySem.F.slot_list_index PySem.F.type_list_index mt_index (pv 4) (pa_cons (pv 8) pa_nil)) (pa_cons (xBM K (r := rIndex K) PySem.F.plainAttrs_list PySem.F.slot_list_index PySem.F.type_list_index mt_index (pv 4) (pa_cons (pv 11) pa_nil)) pa_nil)) rfl)
      (pss_one (ps_if (yGt (pv 13) (pv 12)) (pss_one (ps_expr (xBM K PySem.F.plainAttrs_list PySem.F.slot_list_append PySem.F.type_list_append mt_append (pv 7) (pa_cons (pe_tup (pa_cons (pv 8) (pa_cons pe_str (pa_cons (pv 11) pa_nil)))) pa_nil))))
      (pss_cons (ps_if (yGt (xIxD hr (pv 2) (pv 11)) (pv 10)) (pss_one (ps_expr (xBM K PySem.F.plainAttrs_list PySem.F.slot_list_append PySem.F.type_list_append mt_append (pv 7) (pa_cons (pe_tup (pa_cons (pv 8) (pa_cons pe_str (pa_cons (pv 11) pa_nil)))) pa_nil))))
      pss_nil)
      (pss_one (ps_set (i := 7) sc_law_protests.nd rfl (Or.inl rfl) (xAddL (pv 7) (pe_lc (own := [("other", 14)]) (g := gName 14) rfl sc_law_protests.nd (wList K (xSlL K (pv 4) (po_some (xAdd (pv 13) pe_int)) (po_some (pv 12)))) (blkOk_by (N := ["lore", "line", "begun_at", "last_by", "order", "rows", "row", "found", "name", "came", "looked", "saw", "at", "there", "other"]) (sc := defScope s_law_protests) (by decide +kernel)) (fun _ _ _ _ _ => pg_name (i := 14) sc_law_protests.nd rfl (Or.inl rfl)) (fun _ _ _ _ _ => pts_one (yLe (xIxD hr (pv 2) (pv 14)) (pv 10))) (fun _ _ _ _ _ => pe_tup (pa_cons (pv 8) (pa_cons pe_str (pa_cons (pv 14) pa_nil))))))))))))))
      (pss_one (ps_ret (xTuple K B (pv 7))))))))), ?_⟩
    have hlN : ∀ z ∈ line, z ∈ L.N := fun z hz => (hin z hz).1
    refine ⟨v, rfl, L, v, rfl, hv, hl, hhd, fun q pf pl kf kl ef el gl H1 e1 hq hf hka hget hpl hla ok => ?_⟩
    refine ⟨q, _, rfl, SqL.of hq, rfl, (reach_cons reach_name (reach_cons reach_name reach_nil)) _ ?_⟩
    have hgl : gl.length ≤ 1000 := ok.len (by rw [(looks_perm L).length_eq]; exact hl)
    have hlaid := laid_len L line
    -- order
    refine q_asgLD (K := K) (ds := (L.order line).map .str) (EvLD.to (l_catNR (ds := [.str hdS]) (es := (L.laid line).map .str) (l_lst (da_cons d_cS da_nil) (show 1 ≤ 100000 by decide)) (fun H2 e2 Q' q' => ?_) (by rw [List.length_map]; show 1 + _ ≤ _; omega)) rfl) fun po vo H2 hpo e2 ho hox => ?_
    · refine ⟨u, rfl, .ref pl, rfl, L, line, u, pl, kl, el, gl, rfl, (hu.ex e1).ex e2, by omega, e2.at hpl, hla.tx (Tx.ex e2), ok, by omega, fun r H3 e3 h3 => q' r _ H3 e3 h3 (.strs _)⟩
    obtain rfl := hox.strs_inv
    have e12 := e1.trans e2
    -- rows
    refine q_asgDD (K := K) (d_dictP (ys := L.N) (kf := fun y => .inr y) (F := L.row) (l_lcA (F := L.row) (ys := L.N) (fun y => .tuple [.str y, L.row y]) (i_tup (d_var (i := 0) rfl (hv.ex e12))).ex (by omega) fun x y H3 e3 hy t => ⟨_, reach_name, rfl, d_tup (da_cons (d_ixT (d_var (i := 6) rfl t) d_cI rfl) (da_cons (d_var (i := 6) rfl t) da_nil)) (show 2 ≤ 100000 by decide)⟩)) fun pr kr H3 hpr e3 hr3 hkr => ?_
    have hrow : ∀ y ∈ L.N, getA (mkA (L.N.map fun y => ((.inr y : Key), L.row y))) (.inr y) = some (L.row y) := fun y hy => by
      rw [getA_mkF (fun z : Str => (.inr z : Key)) L.row (fun a b h => Sum.inr.inj h) L.N y, if_pos hy]
    have e13 := e12.trans e3
    -- found
    refine q_asgLD (K := K) (ds := []) (l_lst da_nil (by decide)) fun q0 vs4 H4 hq0 e4 h4 hx4 => ?_
    obtain rfl := hx4.nil_inv
    have hf3 : H3 pf = some (.dK kf) := (e2.trans e3).at hf
    have ho3 : H3 po = some (.lst ((L.order line).map V.str)) := e3.at ho
    have hka3 := hka.tx (Tx.ex (e2.trans e3))
    have hbnd : ∀ i, (L.protests (line.take i)).length ≤ 0 ∨ True := fun _ => .inr trivial
    refine q_for (K := K) (i_tup (ys := line) (F := PyData.str) (d_var (i := 1) rfl (hu.ex (e13.trans e4)))) (fun H5 i σ' H' => Tx K H5 H' ∧ ∃ q a b c d e f, σ' = [some v, some u, some (.ref pf), some (.ref pl), some (.ref po), some (.ref pr), none, some (.ref q), a, b, c, d, e, f, none] ∧ Lw K H3 q ((line.take i).flatMap (L.protestsAt line)) H') (fun H5 e5 => ⟨Tx.refl _, q0, _, _, _, _, _, _, rfl, hq0, e4.trans e5, [], e5.at h4, .nil⟩) (fun H5 i σ' H' e _ q => q.1) ?_ ?_
    · rintro H5 i z x σ' H' H'' e5 hx ⟨tx, q, a, b, c, d, e, f, rfl, lw⟩ ey ht
      obtain rfl := ht.str_inv
      refine reach_name _ ?_
      have hi : i < line.length := (List.getElem?_eq_some_iff.mp hx).1
      have hxl := List.mem_of_getElem? hx
      obtain ⟨hxN, hxs⟩ := hin x hxl
      have lw2 := lw.ex ey
      have ex := lw2.2.1
      have hnext : (line.take (i + 1)).flatMap (L.protestsAt line) = (line.take i).flatMap (L.protestsAt line) ++ L.protestsAt line x := flat_take hx
      have hacl : ((line.take i).flatMap (L.protestsAt line)).length ≤ 10000 := by
        have : ∀ xs : List Str, (xs.flatMap (L.protestsAt line)).length ≤ xs.length * (2 * line.length + 3) := by
          intro xs
          induction xs with
          | nil => simp
          | cons y xs ih =>
            rw [List.flatMap_cons, List.length_append, List.length_cons, Nat.succ_mul]
            have := protAt_len L line y
            omega
        refine Nat.le_trans (this _) ?_
        rw [List.length_take]
        refine Nat.le_trans (Nat.mul_le_mul (Nat.le_trans (Nat.min_le_right ..) hll) (show 2 * line.length + 3 ≤ 123 by omega)) (by decide)
      have hxo : x ∈ L.order line := List.mem_cons_of_mem _ (List.mem_flatMap.mpr ⟨x, hxl, List.mem_append_right _ (List.mem_singleton.mpr rfl)⟩)
      refine q_asgT3 (K := K) (d1 := .int (L.c x)) (d2 := .int (L.l x)) (d3 := .str (L.s x)) (d_slT (K := K) (ds := [.str x, .int (L.c x), .int (L.l x), .str (L.s x)]) (d_getD (k := .inr x) (d := L.row x) (ev_var (i := 5) rfl) (d_var (i := 8) rfl (.str x)) (ex.at hr3) (hkr.tx (Tx.ex ex)) (hrow x hxN)) (o_some d_cI) o_none) fun w1 w2 w3 H6 e6 t1 t2 t3 => ?_
      obtain rfl := t1.int_inv
      obtain rfl := t2.int_inv
      obtain rfl := t3.str_inv
      have ex6 := ex.trans e6
      refine q_parD (K := K) (d1 := .int ((L.order line).idxOf x : Nat)) (d2 := .int ((L.order line).idxOf (L.s x) : Nat)) (da_cons (d_indexL (ev_var (i := 4) rfl) (SqL.of (ex6.at ho3)) (d_var (i := 8) rfl (.str x)) hxo) (da_cons (d_indexL (ev_var (i := 4) rfl) (SqL.of (ex6.at ho3)) (d_var (i := 11) rfl (.str _)) hxs) da_nil)) fun w4 w5 H7 e7 t4 t5 => ?_
      obtain rfl := t4.int_inv
      obtain rfl := t5.int_inv
      have e67 := e6.trans e7
      have lw7 := lw2.ex e67
      have txx : Tx K H5 H7 := (tx.trans (Tx.ex ey)).trans (Tx.ex e67)
      refine s_if (et_D (K := K) (d_opIB (g := fun i j => decide (j < i)) (d_var (i := 13) rfl (.int _)) (d_var (i := 12) rfl (.int _)))) (fun hb H8 e8 => ?_) (fun hb H8 e8 => ?_)
      · have hlt : (L.order line).idxOf x < (L.order line).idxOf (L.s x) := by
          have := of_decide_eq_true hb
          omega
        have hat : L.protestsAt line x = [protD x "ahead" (L.s x)] := if_pos hlt
        refine s_append (K := K) (i := 7) (p := q) (d := protD x "ahead" (L.s x)) rfl (lw7.ex e8) (by omega) (d_tup (da_cons (d_var (i := 8) rfl (.str x)) (da_cons d_cS (da_cons (d_var (i := 11) rfl (.str _)) da_nil))) (show 3 ≤ 100000 by decide)) fun H9 H10 e9 lw10 tx10 _ => ?_
        refine ⟨((txx.trans (Tx.ex e8)).trans (Tx.ex e9)).trans tx10, q, _, _, _, _, _, _, rfl, ?_⟩
        rw [hnext, hat]
        exact lw10
      · have hnlt : ¬ (L.order line).idxOf x < (L.order line).idxOf (L.s x) := by
          have := of_decide_eq_false hb
          omega
        have hat : L.protestsAt line x = (if L.l x < (L.begun (L.s x)).getD 0 then [protD x "late" (L.s x)] else []) ++ ((((L.order line).take ((L.order line).idxOf x)).drop ((L.order line).idxOf (L.s x) + 1)).filter fun y => decide ((L.begun y).getD 0 ≤ L.l x)).map fun y => protD x "between" y := if_neg hnlt
        obtain ⟨bs, hbs⟩ := order_begun hlN hxs
        have ex8 := (ex.trans e67).trans e8
        -- the last statement
        have fin : ∀ (late : List PyData) (H9 : Hp), late.length ≤ 1 → Tx K H5 H9 → Lw K H3 q ((line.take i).flatMap (L.protestsAt line) ++ late) H9 → L.protestsAt line x = late ++ ((((L.order line).take ((L.order line).idxOf x)).drop ((L.order line).idxOf (L.s x) + 1)).filter fun y => decide ((L.begun y).getD 0 ≤ L.l x)).map (fun y => protD x "between" y) →
            tAsg (tOp rCat (tVar 7) (tLc (iList K (tSl (rSlL K) (tVar 4) (tPart (tOp (rI0 fun i j => .int (i + j)) (tVar 13) (tC (.int 1)))) (tPart (tVar 12)))) (gName 14) (tTest (tOp (rI0 fun i j => .bl (decide (i ≤ j))) (tDGet (tVar 2) (tVar 14)) (tVar 10))) (tTup (tCons (tVar 8) (tCons (tC (.str "between")) (tCons (tVar 14) tNil)))) [14])) (gName 7)
              { nx := fun σ' H' => Tx K H5 H' ∧ ∃ q a b c d e f, σ' = [some v, some u, some (.ref pf), some (.ref pl), some (.ref po), some (.ref pr), none, some (.ref q), a, b, c, d, e, f, none] ∧ Lw K H3 q ((line.take (i + 1)).flatMap (L.protestsAt line)) H', rt := Q }
              [some v, some u, some (.ref pf), some (.ref pl), some (.ref po), some (.ref pr), none, some (.ref q), some (.str x), some (.int (L.c x)), some (.int (L.l x)), some (.str (L.s x)), some (.int ((L.order line).idxOf x : Nat)), some (.int ((L.order line).idxOf (L.s x) : Nat)), none] H9 := fun late H9 hll2 tx9 lw9 hpr2 => by
          obtain ⟨hq3, ex9, acc, hacc, hax⟩ := lw9
          have hcut : cutD ((L.order line).map PyData.str) (some (((L.order line).idxOf (L.s x) : Nat) + 1)) (some ((L.order line).idxOf x : Nat)) = (((L.order line).take ((L.order line).idxOf x)).drop ((L.order line).idxOf (L.s x) + 1)).map .str := by
            have : ((((L.order line).idxOf (L.s x) : Nat) : Int) + 1) = (((L.order line).idxOf (L.s x) + 1 : Nat) : Int) := rfl
            rw [this, cutD_fromTo, ← List.map_take, ← List.map_drop]
          have hsub : (((L.order line).take ((L.order line).idxOf x)).drop ((L.order line).idxOf (L.s x) + 1)).length ≤ 2 * line.length + 1 := by
            rw [List.length_drop, List.length_take]
            have : (L.order line).length ≤ 2 * line.length + 1 := by
              unfold Lore.order
              rw [List.length_cons]
              omega
            omega
          refine s_asgLD (K := K) (l_catLN (ev_var (i := 7) rfl) hacc hax (l_lc (K := K) (ys := ((L.order line).take ((L.order line).idxOf x)).drop ((L.order line).idxOf (L.s x) + 1)) (F := PyData.str) (fun y => decide ((L.begun y).getD 0 ≤ L.l x)) (fun y => protD x "between" y) (i_listN (EvLD.to (l_slL (ev_var (i := 4) rfl) (SqL.of (ex9.at ho3)) (.strs _) (o_some (d_opII (g := fun i j => i + j) (d_var (i := 13) rfl (.int _)) d_cI)) (o_some (d_var (i := 12) rfl (.int _)))) hcut)) (by omega) fun y0 y H10 e10 hy t => ?_) ?_) fun q2 vs2 H10 hq10 e10 h10 hx10 => ?_
          · obtain rfl := t.str_inv
            have hyo : y ∈ L.order line := List.mem_of_mem_take (List.mem_of_mem_drop hy)
            obtain ⟨by0, hby⟩ := order_begun hlN hyo
            refine ⟨_, reach_name, rfl, et_D (K := K) (EvD.to (d_opIB (g := fun i j => decide (i ≤ j)) (d_getD (k := .inr y) (d := .int by0) (ev_var (i := 2) rfl) (d_var (i := 14) rfl (.str y)) ((ex9.trans e10).at hf3) (hka3.tx (Tx.ex (ex9.trans e10))) (by rw [hget y, hby]; rfl)) (d_var (i := 10) rfl (.int _))) (by rw [hby]; rfl)), fun _ => d_tup (da_cons (d_var (i := 8) rfl (.str x)) (da_cons d_cS (da_cons (d_var (i := 14) rfl (.str y)) da_nil))) (show 3 ≤ 100000 by decide)⟩
          · rw [List.length_append]
            have : (sel (fun y => decide ((L.begun y).getD 0 ≤ L.l x)) (fun y => protD x "between" y) (((L.order line).take ((L.order line).idxOf x)).drop ((L.order line).idxOf (L.s x) + 1))).length ≤ 2 * line.length + 1 := by
              unfold sel
              rw [List.length_map]
              exact Nat.le_trans (List.length_filter_le _ _) hsub
            omega
          · refine ⟨tx9.trans (Tx.ex e10), q2, _, _, _, _, _, _, rfl, ex9.dom q2 hq10, ex9.trans e10, vs2, h10, ?_⟩
            rw [hnext, hpr2]
            rw [List.append_assoc] at hx10
            exact hx10
        refine q_if (et_D (K := K) (d_opIB (g := fun i j => decide (j < i)) (d_getD (k := .inr (L.s x)) (d := .int bs) (ev_var (i := 2) rfl) (d_var (i := 11) rfl (.str _)) (ex8.at hf3) (hka3.tx (Tx.ex ex8)) (by rw [hget, hbs]; rfl)) (d_var (i := 10) rfl (.int _)))) (fun hb2 H9 e9 => ?_) (fun hb2 H9 e9 => ?_)
        · have h2 : L.l x < (L.begun (L.s x)).getD 0 := by
            rw [hbs]
            exact of_decide_eq_true hb2
          rw [if_pos h2] at hat
          refine s_append (K := K) (i := 7) (p := q) (d := protD x "late" (L.s x)) rfl ((lw7.ex e8).ex e9) (by omega) (d_tup (da_cons (d_var (i := 8) rfl (.str x)) (da_cons d_cS (da_cons (d_var (i := 11) rfl (.str _)) da_nil))) (show 3 ≤ 100000 by decide)) fun H10 H11 e10 lw11 tx11 _ => ?_
          exact fin [protD x "late" (L.s x)] H11 (Nat.le_refl _) ((((txx.trans (Tx.ex e8)).trans (Tx.ex e9)).trans (Tx.ex e10)).trans tx11) lw11 hat
        · have h2 : ¬ L.l x < (L.begun (L.s x)).getD 0 := by
            rw [hbs]
            exact of_decide_eq_false hb2
          rw [if_neg h2] at hat
          refine fin [] H9 (Nat.zero_le _) ((txx.trans (Tx.ex e8)).trans (Tx.ex e9)) ?_ hat
          rw [List.append_nil]
          exact (lw7.ex e8).ex e9
    · rintro H5 σ' H' e5 ⟨tx, q, a, b, c, d, e, f, rfl, lw⟩
      rw [List.take_length] at lw
      obtain ⟨hq3, ex, acc, hacc, hax⟩ := lw
      exact s_retD (K := K) (d_tupleL (ev_var (i := 7) rfl) (SqL.of hacc) hax) fun v' H6 e6 t6 => k v' H6 ((e13.trans ex).trans e6) t6
end
end AS


set_option linter.all false
/-! Nobody protests at the line that the gluing gives. -/
namespace AS
open PySem
variable [TabsOf]
section
variable {L : Lore Str}
theorem looks_sorted (L : Lore Str) : L.looks.Pairwise fun x y => L.l x ≤ L.l y := by
  have := PySem.W.sort_pairwise (le := fun x y => dle (L.tri x) (L.tri y)) ⟨fun a b c => dle_total.trans _ _ _, fun a b => dle_total.total _ _⟩ L.N
  exact this.imp fun {a b} h => dle_cons_int h
theorem last_max {L : Lore Str} {g f : Str} (h : L.lastBy g = some f) : f ∈ L.N ∧ L.s f = g ∧ ∀ v ∈ L.N, L.s v = g → L.l v ≤ L.l f := by
  have h0 := h
  unfold Lore.lastBy Lore.lastIn at h
  split at h
  · cases h
  · have hf := List.mem_filter.mp (List.mem_of_getLast? h)
    refine ⟨(looks_perm L).mem_iff.mp hf.1, of_decide_eq_true hf.2, fun v hv hs => ?_⟩
    have hvf : v ∈ L.looks.filter fun x => decide (L.s x = g) := List.mem_filter.mpr ⟨(looks_perm L).mem_iff.mpr hv, decide_eq_true hs⟩
    have hp : (L.looks.filter fun x => decide (L.s x = g)).Pairwise fun x y => L.l x ≤ L.l y := (looks_sorted L).filter _
    obtain ⟨ys, hys⟩ := List.getLast?_eq_some_iff.mp h
    rw [hys] at hvf hp
    rw [List.pairwise_append] at hp
    rcases List.mem_append.mp hvf with q | q
    · exact hp.2.2 v q f (List.mem_singleton.mpr rfl)
    · rw [List.mem_singleton.mp q]
      exact Int.le_refl _
theorem begun_gone {L : Lore Str} {g z : Str} (hz : z ∈ L.N) (hs : L.s z = g) (h1 : g ≠ hdS) (h2 : g ∉ L.N) : ∃ b, L.begun g = some b ∧ b ≤ L.l z := by
  unfold Lore.begun Lore.begunIn
  rw [if_neg h1, if_neg h2]
  have hzl : z ∈ L.looks := (looks_perm L).mem_iff.mpr hz
  cases hf : L.looks.find? (fun x => decide (L.s x = g)) with
  | none => exact absurd (decide_eq_true hs) (List.find?_eq_none.mp hf z hzl)
  | some x =>
    refine ⟨L.l x, rfl, ?_⟩
    obtain ⟨hp, as, bs, hab, hno⟩ := List.find?_eq_some_iff_append.mp hf
    have hsort := looks_sorted L
    rw [hab, List.pairwise_append, List.pairwise_cons] at hsort
    rw [hab] at hzl
    rcases List.mem_append.mp hzl with q | q
    · have := hno z q
      simp [hs] at this
    · rcases List.mem_cons.mp q with rfl | q
      · exact Int.le_refl _
      · exact hsort.2.1.1 z q
theorem two_split {k w : Str} {X A M R : List Str} {y : Str} (hn : (k :: w :: X).Nodup) (e : k :: w :: X = A ++ y :: (M ++ w :: R)) : y = k := by
  cases A with
  | nil =>
    simp at e
    exact e.1.symm
  | cons a A =>
    rw [List.cons_append] at e
    have e2 := (List.cons.inj e).2
    rw [List.nodup_cons, List.nodup_cons] at hn
    exfalso
    cases A with
    | nil =>
      have := (List.cons.inj e2).2
      exact hn.2.1 (by rw [this]; simp)
    | cons b A =>
      have := (List.cons.inj e2).2
      exact hn.2.1 (by rw [this]; simp)
theorem head_split {k z : Str} {X A M R : List Str} (hn : (k :: X).Nodup) (e : k :: X = A ++ k :: (M ++ z :: R)) : X = M ++ z :: R := by
  cases A with
  | nil => exact (List.cons.inj e).2
  | cons a A =>
    rw [List.nodup_cons] at hn
    have := (List.cons.inj e).2
    exact absurd (by rw [this]; simp) hn.1
/-- the last one who looked at a gone one stands first in its block -/
theorem GInv.head (I : GInv L L.byLook L.glue) (ok : L.Ok hdS) {k : Str} (hk : k ∈ L.gone hdS leS) : ∃ f r, L.glue.cont k = f :: r ∧ L.lastBy k = some f := by
  obtain ⟨⟨z, hz, hzs⟩, h1, h2⟩ := (L.mem_gone k).mp hk
  have ro := I.out k h2
  have nn : L.lastBy k ≠ none := fun q => by
    rcases (last_begun L _ _).mp q with q | q
    · exact q.elim h1 h2
    · obtain ⟨b, hb, _⟩ := begun_gone hz hzs h1 h2
      have hb' : L.begunIn L.looks k = some b := hb
      rw [q] at hb'
      cases hb'
  obtain ⟨f, hf⟩ := Option.ne_none_iff_exists'.mp nn
  obtain ⟨f1, f2, f3⟩ := last_max hf
  have of : L.glue.own f = k := by
    rw [I.own_saw f1 (by rw [f2]; exact h2), f2]
  have hfm : f ∈ L.glue.cont k := (I.mem k f ro).mpr ⟨f1, of⟩
  have pd : ∀ x ∈ L.N, x ∈ L.byLook := fun x hx => (byLook_perm L).mem_iff.mpr hx
  have hfull : L.full L.glue k = k :: L.glue.cont k := if_neg h2
  have hnd : (k :: L.glue.cont k).Nodup := List.nodup_cons.mpr ⟨fun q => h2 ((I.mem k k ro).mp q).1, I.nd k ro⟩
  obtain ⟨A, M, R, e, hM⟩ := I.look k ro f hfm (pd f f1)
  rw [hfull, f2] at e
  have e1 := head_split hnd e
  cases M with
  | nil => exact ⟨f, R, e1, hf⟩
  | cons w M =>
    exfalso
    have hw : w ∈ L.glue.cont k := by rw [e1]; simp
    have hwN := ((I.mem k w ro).mp hw).1
    obtain ⟨A2, M2, R2, e2, _⟩ := I.look k ro w hw (pd w hwN)
    rw [hfull, e1, List.cons_append] at e2
    have hnd2 := hnd
    rw [e1, List.cons_append] at hnd2
    have hsw := two_split hnd2 e2
    have k1 := f3 w hwN hsw
    have k2 := ok.cl w hwN
    have k3 := hM w (List.mem_cons_self ..)
    omega
theorem laid_app (L : Lore Str) (a b : List Str) : L.laid (a ++ b) = L.laid a ++ L.laid b := List.flatMap_append ..
theorem laid_plain {L : Lore Str} : ∀ {xs : List Str}, (∀ x ∈ xs, L.lastBy (L.s x) ≠ some x) → L.laid xs = xs
  | [], _ => rfl
  | x :: xs, h => by
    unfold Lore.laid
    rw [List.flatMap_cons, if_neg (h x (List.mem_cons_self ..))]
    have := laid_plain (L := L) (xs := xs) fun y hy => h y (List.mem_cons_of_mem _ hy)
    unfold Lore.laid at this
    rw [this]
    rfl
/-- the order of the law's look, block by block -/
theorem GInv.order (I : GInv L L.byLook L.glue) (ok : L.Ok hdS) : L.order L.line = (hdS :: L.roots L.glue).flatMap fun k => k :: L.glue.cont k := by
  have blk : ∀ k ∈ hdS :: L.roots L.glue, k ≠ hdS → L.laid (L.glue.cont (L.glue.own k)) = k :: L.glue.cont k := fun k hk hne => by
    obtain ⟨r1, r2⟩ := I.out_root ok.hd hk
    have hg : k ∈ L.gone hdS leS := (roots_mem L _ _).mp ((List.mem_cons.mp hk).resolve_left hne)
    obtain ⟨f, r, e, hf⟩ := I.head ok hg
    obtain ⟨f1, f2, f3⟩ := last_max hf
    rw [r1, e]
    have hnd := I.nd k r1
    rw [e, List.nodup_cons] at hnd
    unfold Lore.laid
    rw [List.flatMap_cons, if_pos (by rw [f2]; exact hf), f2]
    have := laid_plain (L := L) (xs := r) fun x hx q => by
      have hxk : x ∈ L.glue.cont k := by rw [e]; exact List.mem_cons_of_mem _ hx
      obtain ⟨x1, x2⟩ := (I.mem k x r1).mp hxk
      have hsx : L.s x = k := by
        have hn : L.s x ∉ L.N := fun h => by
          have : L.lastBy (L.s x) = none := (last_begun L _ _).mpr (.inl (.inr h))
          rw [this] at q
          cases q
        rw [← I.own_saw x1 hn, x2]
      rw [hsx, hf] at q
      exact hnd.1 ((Option.some.inj q) ▸ hx)
    unfold Lore.laid at this
    rw [this]
    rfl
  have hh : L.laid (L.glue.cont (L.glue.own hdS)) = L.glue.cont hdS := by
    rw [I.out hdS ok.hd]
    refine laid_plain fun x hx q => ?_
    obtain ⟨x1, x2⟩ := (I.mem hdS x (I.out hdS ok.hd)).mp hx
    by_cases h : L.s x ∈ L.N
    · have : L.lastBy (L.s x) = none := (last_begun L _ _).mpr (.inl (.inr h))
      rw [this] at q
      cases q
    · have hs := I.own_saw x1 h
      rw [x2] at hs
      have : L.lastBy (L.s x) = none := (last_begun L _ _).mpr (.inl (.inl hs.symm))
      rw [this] at q
      cases q
  unfold Lore.order
  rw [line_eq, List.flatMap_cons, laid_app, hh, List.flatMap_cons, List.cons_append]
  congr 2
  have : ∀ ks : List Str, (∀ k ∈ ks, k ∈ hdS :: L.roots L.glue ∧ k ≠ hdS) → L.laid (ks.flatMap fun k => L.glue.cont (L.glue.own k)) = ks.flatMap fun k => k :: L.glue.cont k := by
    intro ks
    induction ks with
    | nil => intro _; rfl
    | cons k ks ih =>
      intro h
      rw [List.flatMap_cons, laid_app, blk k (h k (List.mem_cons_self ..)).1 (h k (List.mem_cons_self ..)).2, ih fun j hj => h j (List.mem_cons_of_mem _ hj), List.flatMap_cons]
  exact this _ fun k hk => ⟨List.mem_cons_of_mem _ hk, fun e => ((L.mem_gone _).mp ((roots_mem L _ _).mp hk)).2.1 e⟩
theorem GInv.order_nodup (I : GInv L L.byLook L.glue) (ok : L.Ok hdS) : (L.order L.line).Nodup := by
  rw [I.order ok]
  have sub : ∀ k ∈ hdS :: L.roots L.glue, ∀ x ∈ L.glue.cont k, x ∈ L.N ∧ L.glue.own x = k := fun k hk x hx => (I.mem k x (I.out_root ok.hd hk).1).mp hx
  refine nodup_flat (roots_nodup L _) (fun k hk => List.nodup_cons.mpr ⟨fun q => (I.out_root ok.hd hk).2 (sub k hk k q).1, I.nd k (I.out_root ok.hd hk).1⟩) fun j hj k hk hne x hx hx2 => ?_
  rcases List.mem_cons.mp hx with e1 | h1 <;> rcases List.mem_cons.mp hx2 with e2 | h2
  · exact hne (e1.symm.trans e2)
  · exact (I.out_root ok.hd hj).2 (e1 ▸ (sub k hk x h2).1)
  · exact (I.out_root ok.hd hk).2 (e2 ▸ (sub j hj x h1).1)
  · exact hne ((sub j hj x h1).2.symm.trans (sub k hk x h2).2)
theorem idx_at {P Q : List Str} {y : Str} (hn : (P ++ y :: Q).Nodup) : (P ++ y :: Q).idxOf y = P.length := by
  rw [List.nodup_append] at hn
  rw [List.idxOf_append, if_neg (fun h => hn.2.2 y h y (List.mem_cons_self ..) rfl), List.idxOf_cons_self, Nat.zero_add]
theorem no_protests {pos : Str → Nat} (q : Qt (· ∈ L.N) pos L.c L.l L.s hdS) (ok : L.Ok hdS) : L.protests L.line = [] := by
  have I := ginv_end q ok
  unfold Lore.protests
  rw [List.flatMap_eq_nil_iff]
  intro z hz
  have hzN := (I.line_mem ok.hd z).mp hz
  have hnd := I.order_nodup ok
  have hor := I.order ok
  have rk := I.rt z
  have hkn := I.own_out z
  have hzc : z ∈ L.glue.cont (L.glue.own z) := (I.mem _ z rk).mpr ⟨hzN, rfl⟩
  have hkr : L.glue.own z ∈ hdS :: L.roots L.glue := by
    rcases I.own_dom hzN with h | h
    · rw [h]
      exact List.mem_cons_self ..
    · exact List.mem_cons_of_mem _ ((roots_mem L _ _).mpr h)
  obtain ⟨A, M, R, e, hM⟩ := I.look _ rk z hzc ((byLook_perm L).mem_iff.mpr hzN)
  have hfull : L.full L.glue (L.glue.own z) = L.glue.own z :: L.glue.cont (L.glue.own z) := if_neg hkn
  rw [hfull] at e
  obtain ⟨ks1, ks2, hks⟩ := List.append_of_mem hkr
  obtain ⟨X, Y, hXY⟩ : ∃ X Y, L.order L.line = X ++ L.s z :: (M ++ z :: Y) := by
    rw [hor, hks, List.flatMap_append, List.flatMap_cons, e]
    exact ⟨(ks1.flatMap fun k => k :: L.glue.cont k) ++ A, R ++ ks2.flatMap fun k => k :: L.glue.cont k, by simp⟩
  rw [hXY] at hnd
  have i1 : (X ++ L.s z :: (M ++ z :: Y)).idxOf (L.s z) = X.length := idx_at hnd
  have e2 : X ++ L.s z :: (M ++ z :: Y) = (X ++ L.s z :: M) ++ z :: Y := by simp
  have i2 : (X ++ L.s z :: (M ++ z :: Y)).idxOf z = X.length + 1 + M.length := by
    rw [e2] at hnd ⊢
    rw [idx_at hnd]
    simp
    omega
  have hMN : ∀ w ∈ M, w ∈ L.N := fun w hw => by
    have hwf : w ∈ L.glue.own z :: L.glue.cont (L.glue.own z) := by rw [e]; simp [hw]
    rcases List.mem_cons.mp hwf with h | h
    · exfalso
      have hnk : (L.glue.own z :: L.glue.cont (L.glue.own z)).Nodup := List.nodup_cons.mpr ⟨fun q => hkn ((I.mem _ _ rk).mp q).1, I.nd _ rk⟩
      cases A with
      | nil =>
        have h1 := (List.cons.inj e).1
        rw [e] at hnk
        rw [List.nil_append, List.nodup_cons] at hnk
        exact hnk.1 (by rw [← h1, ← h]; simp [hw])
      | cons a A =>
        have h1 := (List.cons.inj e).1
        rw [e] at hnk
        rw [List.cons_append, List.nodup_cons] at hnk
        exact hnk.1 (by rw [← h1, ← h]; simp [hw])
    · exact ((I.mem _ w rk).mp h).1
  unfold Lore.protestsAt
  simp only []
  rw [hXY, i1, i2, if_neg (by omega)]
  have hbeg : ¬ L.l z < (L.begun (L.s z)).getD 0 := by
    by_cases h1 : L.s z = hdS
    · unfold Lore.begun Lore.begunIn
      rw [if_pos h1]
      have := ok.lp z hzN
      show ¬ L.l z < 0
      omega
    · by_cases h2 : L.s z ∈ L.N
      · unfold Lore.begun Lore.begunIn
        rw [if_neg h1, if_pos h2]
        have := (q.q1 z hzN h2).2.1
        show ¬ L.l z < L.c (L.s z)
        omega
      · obtain ⟨b, hb, hle⟩ := begun_gone hzN rfl h1 h2
        rw [hb]
        show ¬ L.l z < b
        omega
  rw [if_neg hbeg]
  have hsl : ((X ++ L.s z :: (M ++ z :: Y)).take (X.length + 1 + M.length)).drop (X.length + 1) = M := by
    have e3 : X ++ L.s z :: (M ++ z :: Y) = (X ++ [L.s z]) ++ (M ++ z :: Y) := by simp
    have hl : (X ++ [L.s z]).length = X.length + 1 := by simp
    rw [List.drop_take, e3, ← hl, List.drop_left]
    have : (X ++ [L.s z]).length + M.length - (X ++ [L.s z]).length = M.length := by omega
    rw [this, List.take_left]
  rw [hsl, List.nil_append, List.map_eq_nil_iff, List.filter_eq_nil_iff]
  intro w hw hb
  have hwN := hMN w hw
  have hwh : ¬ w = hdS := fun h => ok.hd (h ▸ hwN)
  have : L.begun w = some (L.c w) := by
    unfold Lore.begun Lore.begunIn
    rw [if_neg hwh, if_pos hwN]
  rw [this] at hb
  have h1 := hM w hw
  have h2 := of_decide_eq_true hb
  simp at h2
  omega
end
end AS


set_option linter.all false
/-! Other numbers in the same order: the same line. -/
namespace AS
open PySem
variable [TabsOf]
def Lore.spread (L : Lore Str) (φ : Int → Int) : Lore Str := ⟨L.N, fun x => φ (L.c x), fun x => φ (L.l x), L.s⟩
def Lore.used (L : Lore Str) (a : Int) : Prop := ∃ x ∈ L.N, a = L.c x ∨ a = L.l x
structure Rising (L : Lore Str) (φ : Int → Int) : Prop where
  lt : ∀ a b, L.used a → L.used b → a < b → φ a < φ b
  pos : ∀ a, L.used a → 0 ≤ φ a
section
variable {L : Lore Str} {φ : Int → Int} {pos : Str → Nat}
theorem Rising.iff (r : Rising L φ) {a b : Int} (ha : L.used a) (hb : L.used b) : a < b ↔ φ a < φ b := by
  constructor
  · exact r.lt a b ha hb
  · intro h
    rcases Int.lt_trichotomy a b with k | k | k
    · exact k
    · rw [k] at h
      omega
    · have := r.lt b a hb ha k
      omega
theorem Rising.le (r : Rising L φ) {a b : Int} (ha : L.used a) (hb : L.used b) : a ≤ b ↔ φ a ≤ φ b := by
  have := r.iff hb ha
  omega
theorem usedC {x : Str} (h : x ∈ L.N) : L.used (L.c x) := ⟨x, h, .inl rfl⟩
theorem usedL {x : Str} (h : x ∈ L.N) : L.used (L.l x) := ⟨x, h, .inr rfl⟩
theorem Rising.ok (r : Rising L φ) (ok : L.Ok hdS) : (L.spread φ).Ok hdS where
  nd := ok.nd
  hd := ok.hd
  cl := fun x hx => (r.le (usedC hx) (usedL hx)).mp (ok.cl x hx)
  lp := fun x hx => r.pos _ (usedL hx)
  ap := fun x hx y hy e => ok.ap x hx y hy (by
    have h1 := r.le (usedL hx) (usedL hy)
    have h2 := r.le (usedL hy) (usedL hx)
    have : φ (L.l x) = φ (L.l y) := e
    omega)
theorem Rising.qt (r : Rising L φ) (q : Qt (· ∈ L.N) pos L.c L.l L.s hdS) : Qt (· ∈ (L.spread φ).N) pos (L.spread φ).c (L.spread φ).l (L.spread φ).s hdS := by
  have lst : ∀ f, f ∈ L.N → Lst (· ∈ L.N) (L.spread φ).l L.s f → Lst (· ∈ L.N) L.l L.s f := fun f hf F v hv e => (r.le (usedL hv) (usedL hf)).mpr (F v hv e)
  refine ⟨q.hh, q.inj, fun x hx => (r.le (usedC hx) (usedL hx)).mp (q.cl x hx), fun z hz hs => ?_, fun z hz hs => ?_, fun z f hz g hf F e => ?_⟩
  · obtain ⟨a1, a2, a3, a4⟩ := q.q1 z hz hs
    exact ⟨a1, (r.le (usedC hs) (usedL hz)).mp a2, fun w hw a b => (r.iff (usedL hz) (usedC hw)).mp (a3 w hw a b), fun f v hf g F a b hv e => (r.iff (usedL hz) (usedL hv)).mp (a4 f v hf g (lst f hf F) a b hv e)⟩
  · obtain ⟨a3, a4⟩ := q.q2 z hz hs
    exact ⟨fun w hw b => (r.iff (usedL hz) (usedC hw)).mp (a3 w hw b), fun f v hf g F b hv e => (r.iff (usedL hz) (usedL hv)).mp (a4 f v hf g (lst f hf F) b hv e)⟩
  · obtain ⟨a1, a2, a3⟩ := q.q3 z f hz g hf (lst f hf F) e
    exact ⟨a1, fun w hw a b => (r.iff (usedL hz) (usedC hw)).mp (a2 w hw a b), fun f' v hf' g' ne F' a b hv e' => (r.iff (usedL hz) (usedL hv)).mp (a3 f' v hf' g' ne (lst f' hf' F') a b hv e')⟩
theorem Rising.byLook (r : Rising L φ) : (L.spread φ).byLook = L.byLook := by
  unfold Lore.byLook
  refine PySem.W.sort_congr fun a ha b hb => ?_
  show decide (-(φ (L.l a)) ≤ -(φ (L.l b))) = decide (-(L.l a) ≤ -(L.l b))
  have := r.le (usedL hb) (usedL ha)
  rw [decide_eq_decide]
  omega
/-- what a put without a clash does to the blocks -/
theorem put_blocks {L : Lore Str} {g : Glue Str} {x : Str} (h : ∀ o ∈ L.behind g (L.s x), L.l x < L.c o) : (L.put g x).own = (fun z => if z ∈ g.cont (g.own x) then g.own (L.s x) else g.own z) ∧ (L.put g x).cont = setF g.cont (g.own (L.s x)) (g.cont (g.own (L.s x)) ++ g.cont (g.own x)) := by
  have hf : (L.behind g (L.s x)).find? (fun o => decide (L.c o < L.l x)) = none := List.find?_eq_none.mpr fun o ho => by
    have := h o ho
    simp only [decide_eq_true_eq]
    omega
  unfold Lore.put
  simp only [hf]
  exact ⟨trivial, trivial⟩
theorem Rising.glueTo (r : Rising L φ) (q : Qt (· ∈ L.N) pos L.c L.l L.s hdS) (ok : L.Ok hdS) : ∀ i, i ≤ L.byLook.length → ((L.spread φ).glueTo i).own = (L.glueTo i).own ∧ ((L.spread φ).glueTo i).cont = (L.glueTo i).cont
  | 0, _ => ⟨rfl, rfl⟩
  | i + 1, h => by
    obtain ⟨ih1, ih2⟩ := r.glueTo q ok i (Nat.le_of_succ_le h)
    have hx : L.byLook[i]? = some L.byLook[i] := List.getElem?_eq_getElem h
    have hx' : (L.spread φ).byLook[i]? = some L.byLook[i] := by rw [r.byLook]; exact hx
    have I := ginv_to q ok i (Nat.le_of_succ_le h)
    have I' := ginv_to (r.qt q) (r.ok ok) i (by rw [r.byLook]; exact Nat.le_of_succ_le h)
    obtain ⟨a1, a2, a3, a4⟩ := byLook_at ok hx
    obtain ⟨a1', a2', a3', a4'⟩ := byLook_at (r.ok ok) hx'
    obtain ⟨_, _, b2, _⟩ := I.put q a3 a4 a1 a2
    obtain ⟨_, _, b2', _⟩ := I'.put (r.qt q) a3' a4' a1' a2'
    rw [L.glueTo_next hx, if_pos (by rw [I.cl]; rfl), (L.spread φ).glueTo_next hx', if_pos (by rw [I'.cl]; rfl)]
    obtain ⟨p1, p2⟩ := put_blocks fun o ho => (b2 o ho).2
    obtain ⟨p1', p2'⟩ := put_blocks fun o ho => (b2' o ho).2
    rw [p1, p2, p1', p2', ih1, ih2]
    exact ⟨rfl, rfl⟩
theorem minI_map (φ : Int → Int) : ∀ {xs : List Int}, xs ≠ [] → (∀ a ∈ xs, ∀ b ∈ xs, a ≤ b ↔ φ a ≤ φ b) → minI (xs.map φ) = φ (minI xs) := by
  intro xs hne h
  obtain ⟨h1, h2⟩ := minI_spec hne
  obtain ⟨h3, h4⟩ := minI_spec (xs := xs.map φ) (by simpa using hne)
  have h5 := h4 (φ (minI xs)) (List.mem_map.mpr ⟨_, h1, rfl⟩)
  obtain ⟨a, ha, hae⟩ := List.mem_map.mp h3
  have h6 := (h _ h1 a ha).mp (h2 a ha)
  omega
theorem Rising.line (r : Rising L φ) (q : Qt (· ∈ L.N) pos L.c L.l L.s hdS) (ok : L.Ok hdS) (hl : L.N.length ≤ 1000) : (L.spread φ).line = L.line := by
  obtain ⟨g1, g2⟩ := r.glueTo q ok L.byLook.length (Nat.le_refl _)
  have e1 : (L.spread φ).glue.own = L.glue.own := by
    rw [← L.glueTo_all, ← (L.spread φ).glueTo_all, r.byLook]
    exact g1
  have e2 : (L.spread φ).glue.cont = L.glue.cont := by
    rw [← L.glueTo_all, ← (L.spread φ).glueTo_all, r.byLook]
    exact g2
  have fine := quiet_fine q ok hl
  have least : ∀ x ∈ L.gone hdS leS, (L.spread φ).least (L.spread φ).glue x = φ (L.least L.glue x) := fun x hx => by
    unfold Lore.least
    rw [e1, e2]
    have hd : x ∈ L.dom := List.mem_append_right _ (List.mem_cons_of_mem _ hx)
    have hu : ∀ a ∈ (L.glue.cont (L.glue.own x)).map L.c, L.used a := fun a ha => by
      obtain ⟨z, hz, rfl⟩ := List.mem_map.mp ha
      exact usedC (fine.sub x hd z hz)
    rw [← minI_map φ (by simpa using fine.ne x hx) fun a ha b hb => r.le (hu a ha) (hu b hb), List.map_map]
    rfl
  have usedM : ∀ x ∈ L.gone hdS leS, L.used (L.least L.glue x) := fun x hx => by
    have hd : x ∈ L.dom := List.mem_append_right _ (List.mem_cons_of_mem _ hx)
    obtain ⟨h1, _⟩ := minI_spec (xs := (L.glue.cont (L.glue.own x)).map L.c) (by simpa using fine.ne x hx)
    obtain ⟨z, hz, hze⟩ := List.mem_map.mp h1
    exact ⟨z, fine.sub x hd z hz, .inl hze.symm⟩
  have hroots : (L.spread φ).roots (L.spread φ).glue = L.roots L.glue := by
    unfold Lore.roots
    have hg : (L.spread φ).gone hdS leS = L.gone hdS leS := rfl
    rw [hg]
    refine PySem.W.sort_congr fun a ha b hb => ?_
    rw [least a ha, least b hb, decide_eq_decide]
    exact (r.le (usedM a ha) (usedM b hb)).symm
  rw [line_eq, line_eq, hroots, e1, e2]
end
end AS


set_option Elab.async false
set_option linter.all false
set_option maxRecDepth 100000
set_option maxHeartbeats 4000000
/-! _law_spread. -/
namespace AS
open PySem L2 LamX
open PySem.W (Frag)
open RT
variable [TabsOf]
section
variable {K : Frag} {σ : L2.St} {H : Hp} {tl : TE} {p pc : Addr}
/-- a list that stands at a known place -/
theorem i_listA {α : Type} {ys : List α} {F : α → PyData} {pn : Addr} {xs : List V} (h : Ev tl σ H (.ref pn)) (hs : H pn = some (.lst xs)) (hx : DtAll K H xs (ys.map F)) : EvI K (fun H2 H' => (∀ o, H2 pn = some (.lst o) → H' pn = some (.lst o)) ∧ Tx K H2 H') (iList K tl) σ H ys F := fun H1 e1 R q => h H1 e1 _ fun H2 e2 => by
  have hs2 := (e1.trans e2).at hs
  have hx2 := hx.ex (e1.trans e2)
  refine ⟨pn, rfl, ⟨xs, SqL.of hs2⟩, q _ H2 e2 (fun H' => H' pn = some (.lst xs) ∧ Tx K H2 H') ⟨hs2, Tx.refl _⟩ (fun H' t => ⟨t.1 xs hs2, t.2⟩) ?_⟩
  have hl : ys.length = xs.length := by rw [hx.length, List.length_map]
  rw [hl]
  refine Walk.mono walk_list (fun H' t => SqL.of t.1) fun i H' x H'' hi t y => ?_
  obtain ⟨rfl, hx'⟩ := y
  obtain ⟨y, h1, h2⟩ := getF (hx2.tx t.2) hx'
  exact ⟨Ex.refl _, y, h1, h2⟩
theorem EsSt (s : StH p pc H) {H0 H' : Hp} (h : ∀ b, b = p ∨ b = pc → H' b = H b) : StH p pc H' := by
  obtain ⟨cells, a, b, e, h1, h2, h3, h4⟩ := s
  exact ⟨cells, a, b, e, by rw [h p (.inl rfl)]; exact h1, by rw [h pc (.inr rfl)]; exact h2, h3, h4⟩
/-- an object of one's own is written -/
theorem Es.own {H0 H' : Hp} (e : Es p pc H0 H') {r : Addr} {o : HO} (h0 : H0 r = none) (hc : Chg (H' r)) (hs : StH p pc H0) : Es p pc H0 (upd H' r o) := by
  have hrp : p ≠ r := fun z => by
    obtain ⟨_, _, _, _, h1, _⟩ := hs
    rw [z, h0] at h1
    cases h1
  have hrc : pc ≠ r := fun z => by
    obtain ⟨_, _, _, _, _, h2, _⟩ := hs
    rw [z, h0] at h2
    cases h2
  refine ⟨e.b.mut h0 hc, EsSt (H0 := H0) e.s fun b hb => ?_⟩
  rcases hb with rfl | rfl
  · exact upd_ne hrp
  · exact upd_ne hrc
end
def spSpread (K : Frag) : Sp := fun vs H Q _ => ∃ (p pc : Addr) (L : Lore Str) (v : V), vs = [.ref p, v] ∧ StH p pc H ∧ Dt K H v L.d ∧ L.N.length ≤ 31 ∧ ∀ φ u H', Rising L φ → Es p pc H H' → Dt K H' u (L.spread φ).d → Q u H'
/-- the numbers' places -/
theorem getA_zip {ms : List Int} : ∀ {fs : List Int} {i : Nat} {m f : Int}, ms.Pairwise (· < ·) → ms[i]? = some m → fs[i]? = some f → getA ((ms.map fun n => (.inl n : Key)).zip (fs.map PyData.int)) (.inl m) = some (.int f) := by
  induction ms with
  | nil => intro fs i m f _ h _; simp at h
  | cons a ms ih =>
    intro fs i m f hp h h2
    cases fs with
    | nil => simp at h2
    | cons b fs =>
      rw [List.pairwise_cons] at hp
      show getA ((Sum.inl a, PyData.int b) :: (ms.map fun n => (.inl n : Key)).zip (fs.map PyData.int)) (.inl m) = _
      rw [getA_cons]
      cases i with
      | zero =>
        simp at h h2
        subst h h2
        rw [if_pos rfl]
      | succ i =>
        have hm : ms[i]? = some m := by simpa using h
        have := hp.1 m (List.mem_of_getElem? hm)
        rw [if_neg (fun z => by cases z; omega)]
        exact ih hp.2 hm (by simpa using h2)
theorem pair_lt {fs : List Int} (h : fs.Pairwise (· < ·)) {i j : Nat} {a b : Int} (hi : fs[i]? = some a) (hj : fs[j]? = some b) (hij : i < j) : a < b := by
  obtain ⟨h1, rfl⟩ := List.getElem?_eq_some_iff.mp hi
  obtain ⟨h2, rfl⟩ := List.getElem?_eq_some_iff.mp hj
  exact List.pairwise_iff_getElem.mp h i j h1 h2 hij
theorem rising_of {L : Lore Str} {ms fs : List Int} (hm : ms.Pairwise (· < ·)) (hf : fs.Pairwise (· < ·)) (hl : fs.length = ms.length) (hp : ∀ f ∈ fs, 0 ≤ f) (hu : ∀ a, L.used a → a ∈ ms) : Rising L fun a => match getA ((ms.map fun n => (.inl n : Key)).zip (fs.map PyData.int)) (.inl a) with
    | some (.int f) => f
    | _ => 0 := by
  have at' : ∀ a, L.used a → ∃ (i : Nat) (f : Int), ms[i]? = some a ∧ fs[i]? = some f ∧ getA ((ms.map fun n => (.inl n : Key)).zip (fs.map PyData.int)) (.inl a) = some (.int f) := fun a ha => by
    obtain ⟨i, hi, hia⟩ := List.getElem_of_mem (hu a ha)
    have h1 : ms[i]? = some a := by rw [List.getElem?_eq_getElem hi, hia]
    have h2 : fs[i]? = some fs[i] := List.getElem?_eq_getElem (by omega)
    exact ⟨i, _, h1, h2, getA_zip hm h1 h2⟩
  refine ⟨fun a b ha hb hab => ?_, fun a ha => ?_⟩
  · obtain ⟨i, f, h1, h2, h3⟩ := at' a ha
    obtain ⟨j, g, k1, k2, k3⟩ := at' b hb
    simp only [h3, k3]
    refine pair_lt hf h2 k2 ?_
    rcases Nat.lt_trichotomy i j with h | h | h
    · exact h
    · rw [h, k1] at h1
      have := Option.some.inj h1
      omega
    · have := pair_lt hm k1 h1 h
      omega
  · obtain ⟨i, f, h1, h2, h3⟩ := at' a ha
    simp only [h3]
    exact hp f (List.mem_of_getElem? h2)
section
variable {P : Program} {w : World} {K : Frag} {mg : Str → Option Value} {base : Heap}
abbrev s_law_spread : Stmt := top n_law_spread
theorem sc_law_spread : FnScope ["state", "lore", "numbers", "row", "far", "put", "number", "name", "came", "looked", "saw"] ["state", "lore"] (defScope s_law_spread) := ⟨rfl, rfl, rfl, by decide +kernel, rfl, by decide +kernel, by decide +kernel⟩
theorem ok_law_spread {f : Addr} {fd : FuncData} (F : Fun K "_law_spread" "_law_spread" s_law_spread f fd) (B : Blt mg) (C__law_next : Cal P w K mg base "_law_next" 1 ["state", "below"] spNext) : FnOk P w K mg base CX0 2 f fd ["state", "lore"] (spSpread K) := by
  refine F.ok sc_law_spread (fun vs H Q E h => ?_) (fun cdv A0 outer s H vs Q E hr h => ?_)
  · obtain ⟨p, pc, L, v, rfl, _⟩ := h
    rfl
  · obtain ⟨p, pc, L, v, rfl, st, hv, hl, k⟩ := h
    refine ⟨_, (pss_cons (ps_set (i := 2) sc_law_spread.nd rfl (Or.inl rfl) (xSortedSet B (xSetLI K B (xAddL (pe_lc (own := [("row", 3)]) (g := gName 3) (tt := tYes) rfl sc_law_spread.nd (wTup K (pv 1)) (blkOk_by (N := ["state", "lore", "numbers", "row", "far", "put", "number", "name", "came", "looked", "saw"]) (sc := defScope s_law_spread) (by decide +kernel)) (fun _ _ _ _ _ => pg_name (i := 3) sc_law_spread.nd rfl (Or.inl rfl)) (fun _ _ _ _ _ => pts_nil) (fun _ _ _ _ _ => xIxT K (pv 3) pe_int)) (pe_lc (own := [("row", 3)]) (g := gName 3) (tt := tYes) rfl sc_law_spread.nd (wTup K (pv 1)) (blkOk_by (N := ["state", "lore", "numbers", "row", "far", "put", "number", "name", "came", "looked", "saw"]) (sc := defScope s_law_spread) (by decide +kernel)) (fun _ _ _ _ _ => pg_name (i := 3) sc_law_spread.nd rfl (Or.inl rfl)) (fun _ _ _ _ _ => pts_nil) (fun _ _ _ _ _ => xIxT K (pv 3) pe_int))))))
      (pss_cons (ps_set (i := 4) sc_law_spread.nd rfl (Or.inl rfl) pe_int)
      (pss_cons (ps_set (i := 5) sc_law_spread.nd rfl (Or.inr rfl) pe_dnewK)
      (pss_cons (ps_for PassesOwn.never rfl (wList K (pv 2)) (pg_name (i := 6) sc_law_spread.nd rfl (Or.inl rfl))
      (pss_cons (ps_set (i := 4) sc_law_spread.nd rfl (Or.inl rfl) (xAdd (xAdd (pv 4) pe_int) (xCal C__law_next (hr.mono (by decide)) (pa_cons (pv 0) (pa_cons (xIxL K (pe_lst (pa_cons pe_int (pa_cons pe_int (pa_cons (xPow pe_int pe_int) pa_nil)))) (xCal C__law_next (hr.mono (by decide)) (pa_cons (pv 0) (pa_cons pe_int pa_nil)))) pa_nil)))))
      (pss_one (ps_dput (hu_of hr) (pv 5) (pv 6) (pv 4) rfl))))
      (pss_one (ps_ret (xTuple K B (pe_lc (own := [("name", 7), ("came", 8), ("looked", 9), ("saw", 10)]) (g := gTup K 4 (gCons (gName 7) (gCons (gName 8) (gCons (gName 9) (gCons (gName 10) gNil))))) (tt := tYes) rfl sc_law_spread.nd (wTup K (pv 1)) (blkOk_by (N := ["state", "lore", "numbers", "row", "far", "put", "number", "name", "came", "looked", "saw"]) (sc := defScope s_law_spread) (by decide +kernel)) (fun _ _ _ _ _ => gTupK K (pgs_cons (pg_name (i := 7) sc_law_spread.nd rfl (Or.inl rfl)) (pgs_cons (pg_name (i := 8) sc_law_spread.nd rfl (Or.inl rfl)) (pgs_cons (pg_name (i := 9) sc_law_spread.nd rfl (Or.inl rfl)) (pgs_cons (pg_name (i := 10) sc_law_spread.nd rfl (Or.inl rfl)) pgs_nil))))) (fun _ _ _ _ _ => pts_nil) (fun _ _ _ _ _ => pe_tup (pa_cons (pv 7) (pa_cons (xIxD hr (pv 5) (pv 8)) (pa_cons (xIxD hr (pv 5) (pv 9)) (pa_cons (pv 10) pa_nil))))))))))))), ?_⟩
    refine q_asgK (l_sortedSet (K := K) (ns := L.N.map L.c ++ L.N.map L.l) (EvLD.to (l_catNN (l_lcA (F := L.row) (ys := L.N) (fun y => .int (L.c y)) (i_tup (d_var (i := 1) rfl hv)).ex (by omega) fun x y H3 e3 hy t => ⟨_, reach_name, rfl, d_ixT (d_var (i := 3) rfl t) d_cI rfl⟩) (l_lcA (F := L.row) (ys := L.N) (fun y => .int (L.l y)) (i_tup (d_var (i := 1) rfl hv)).ex (by omega) fun x y H3 e3 hy t => ⟨_, reach_name, rfl, d_ixT (d_var (i := 3) rfl t) d_cI rfl⟩) (by rw [List.length_map, List.length_map]; omega)) (by rw [List.map_append, List.map_map, List.map_map]; rfl)) (by rw [List.length_append, List.length_map, List.length_map]; omega) H (Ex.refl _) _ fun ms pn vs H1 hms hmem hpn e1 h1 hx1 => ?_)
    refine q_asgV (v := .int 0) ev_c fun H2 e2 => ?_
    refine q_asgD0 fun pd hpd => ?_
    have e02 := e1.trans e2
    have hpn2 := e2.at h1
    have hx2 := hx1.ex e2
    have hpnd : pn ≠ pd := fun z => by rw [← z, hpn2] at hpd; cases hpd
    have st2 := st.ex e02
    have hpnp : pn ≠ p := fun z => by
      obtain ⟨_, _, _, _, s1, _⟩ := st
      rw [z, s1] at hpn
      cases hpn
    have hpdp : pd ≠ p := fun z => by
      obtain ⟨_, _, _, _, s1, _⟩ := st2
      rw [z, s1] at hpd
      cases hpd
    have hused : ∀ a, L.used a → a ∈ ms := fun a ⟨x, hx, h⟩ => (hmem a).mpr (by
      rcases h with h | h
      · exact List.mem_append_left _ (List.mem_map.mpr ⟨x, hx, h.symm⟩)
      · exact List.mem_append_right _ (List.mem_map.mpr ⟨x, hx, h.symm⟩))
    have e3 : Ex H2 (upd H2 pd (.dK [])) := Ex.new hpd
    refine q_for (K := K) (i_listA (pn := pn) (ys := ms) (F := PyData.int) (ev_var (i := 2) rfl) (e3.at hpn2) (hx2.ex e3)) (fun H4 i σ' H' => ((∀ o, H4 pn = some (.lst o) → H' pn = some (.lst o)) ∧ Tx K H4 H') ∧ Es p pc H H' ∧ ∃ far a fs kvs, σ' = [some (.ref p), some v, some (.ref pn), none, some (.int far), some (.ref pd), a, none, none, none, none] ∧ H' pd = some (.dK kvs) ∧ KAll K H' kvs (((ms.take i).map fun n => (.inl n : Key)).zip (fs.map PyData.int)) ∧ fs.length = i ∧ fs.Pairwise (· < ·) ∧ 0 ≤ far ∧ ∀ f ∈ fs, 0 ≤ f ∧ f ≤ far)
      (fun H4 e4 => ⟨⟨fun _ h => h, Tx.refl _⟩, Es.of st ((e02.trans e3).trans e4), 0, _, [], [], rfl, e4.at upd_same, .nil, rfl, .nil, Int.le_refl _, fun f hf => by cases hf⟩) (fun H4 i σ' H' e _ q => q.1) ?_ ?_
    · rintro H4 i z n σ' H' H'' e4 hn ⟨⟨hk1, tx⟩, es, far, a, fs, kvs, rfl, hd, hka, hfl, hfp, hfar, hfb⟩ ey ht
      obtain rfl := ht.int_inv
      refine reach_name _ ?_
      have es2 := es.ex ey
      have hi : i < ms.length := (List.getElem?_eq_some_iff.mp hn).1
      refine q_asgZ (p := p) (pc := pc) (P := fun r => far + 1 ≤ r) (z_op (P := (· = far + 1)) (R := fun r => 0 ≤ r) (g := fun i j => i + j) (z_op (P := (· = far)) (R := (· = 1)) (g := fun i j => i + j) (z_var (n := 4) rfl) z_c fun i j h1 h2 => by omega) ((z_next (n := 0) rfl (z_pick (K := K) (ms := [1, 9, 10 ^ (7 : Int).toNat]) (S := fun m => 0 < m ∧ m < 1073741824) (fun H1 e1 => l_lst (da_cons d_cI (da_cons d_cI (da_cons (d_opCI (g := fun i j => i ^ j.toNat) d_cI d_cI ⟨by decide, by decide, by decide⟩) da_nil))) (show 3 ≤ 100000 by decide)) (z_nextC (b := 3) (n := 0) rfl (by decide) (by decide)) fun i ⟨h0, h1⟩ => ?_) fun i h => h).imp fun r ⟨i, _, h, _⟩ => h) fun i j h1 h2 => by omega) es2.s fun far' H5 e5 hf' => ?_
      · have : i = 0 ∨ i = 1 ∨ i = 2 := by omega
        rcases this with rfl | rfl | rfl
        · exact ⟨1, rfl, by decide⟩
        · exact ⟨9, rfl, by decide⟩
        · exact ⟨10 ^ (7 : Int).toNat, rfl, by decide⟩
      have hd5 : H5 pd = some (.dK kvs) := e5.at (ey.at hd) hpdp
      have tx5 := (Tx.ex (K := K) ey).trans (Es.tx es2.s e5)
      have hkl := hka.length
      have hll : ((ms.take i).map fun n => (.inl n : Key)).length = (fs.map PyData.int).length := by
        rw [List.length_map, List.length_map, List.length_take, hfl]
        omega
      rw [List.length_zip, List.length_map, List.length_take, List.length_map] at hkl
      have hmsl : ms.length ≤ 62 := by
        have hnd : ms.Nodup := hms.imp fun h e => by omega
        have := nodup_len hnd (ys := L.N.map L.c ++ L.N.map L.l) fun x hx => (hmem x).mp hx
        rw [List.length_append, List.length_map, List.length_map] at this
        omega
      refine s_dputV (K := K) (p := pd) (k := .inl n) (d := .int far') (ev_var (i := 5) rfl) hd5 (by omega) (d_var (i := 6) rfl (.int n)) (d_var (i := 4) rfl (.int far')) fun v6 H6 e6 t6 h6 => ?_
      obtain rfl := t6.int_inv
      have es6 : Es p pc H (upd H6 pd (.dK (putK kvs (.inl n) (.int far')))) := ((es2.trans e5).ex e6).own (e02.dom pd hpd) (by rw [h6]; exact trivial) st
      have txd : Tx K H6 (upd H6 pd (.dK (putK kvs (.inl n) (.int far')))) := Tx.dk h6 _
      refine ⟨⟨fun o ho => ?_, ((tx.trans tx5).trans (Tx.ex e6)).trans txd⟩, es6, far', _, fs ++ [far'], _, rfl, upd_same, ?_, by rw [List.length_append, hfl]; rfl, ?_, by omega, fun f hf => ?_⟩
      · rw [upd_ne hpnd]
        exact e6.at (e5.at (ey.at (hk1 o ho)) hpnp)
      · have hnew : (Sum.inl n : Key) ∉ (((ms.take i).map fun n => (.inl n : Key)).zip (fs.map PyData.int)).map (·.1) := by
          rw [List.map_fst_zip (Nat.le_of_eq hll)]
          intro q
          obtain ⟨m, hm, e⟩ := List.mem_map.mp q
          cases e
          have hms2 := hms
          rw [at_split hn, List.pairwise_append] at hms2
          have := hms2.2.2 n hm n (List.mem_cons_self ..)
          omega
        have := ((hka.tx (tx5.trans (Tx.ex e6))).put (k := .inl n) (.int far')).tx txd
        rw [putA_new hnew] at this
        rw [List.take_add_one, hn, List.map_append, List.map_append, List.zip_append hll]
        exact this
      · rw [List.pairwise_append]
        refine ⟨hfp, List.pairwise_singleton _ _, fun x hx y hy => ?_⟩
        rw [List.mem_singleton] at hy
        have := (hfb x hx).2
        omega
      · rcases List.mem_append.mp hf with q | q
        · have := hfb f q
          omega
        · rw [List.mem_singleton] at q
          omega
    · rintro H4 σ' H' e4 ⟨⟨hk1, tx⟩, es, far, a, fs, kvs, rfl, hd, hka, hfl, hfp, hfar, hfb⟩
      rw [List.take_length] at hka
      have ris := rising_of (L := L) hms hfp hfl (fun f hf => (hfb f hf).1) hused
      have hval : ∀ b, L.used b → getA ((ms.map fun n => (.inl n : Key)).zip (fs.map PyData.int)) (.inl b) = some (.int ((fun a => match getA ((ms.map fun n => (.inl n : Key)).zip (fs.map PyData.int)) (.inl a) with
          | some (.int f) => f
          | _ => 0) b)) := fun b hb => by
        obtain ⟨i, hi, hib⟩ := List.getElem_of_mem (hused b hb)
        have g1 : ms[i]? = some b := by rw [List.getElem?_eq_getElem hi, hib]
        have g2 : fs[i]? = some fs[i] := List.getElem?_eq_getElem (by omega)
        simp only [getA_zip hms g1 g2]
      refine s_retD (K := K) (d := (L.spread _).d) (EvD.to (d_tupleNL (l_lcA (F := L.row) (ys := L.N) (L.spread _).row (i_tup (d_var (i := 1) rfl (hv.tx (Es.tx st es)))).ex (by omega) fun x y H5 e5 hy t => ?_)) rfl) fun u H6 e6 t6 => k _ u H6 ris (es.ex e6) t6
      obtain ⟨u1, u2, u3, u4, w1, w2, w3, w4, r⟩ := reach4 (i := 7) (j := 8) (k := 9) (l := 10) (σ := wipe [some (.ref p), some v, some (.ref pn), none, some (.int far), some (.ref pd), a, none, none, none, none] [7, 8, 9, 10]) t
      refine ⟨_, r, rfl, ?_⟩
      exact d_tup (da_cons (d_var (i := 7) rfl w1) (da_cons (d_getD (k := .inl (L.c y)) (ev_var (i := 5) rfl) (d_var (i := 8) rfl w2) (e5.at hd) (hka.tx (Tx.ex e5)) (hval _ (usedC hy))) (da_cons (d_getD (k := .inl (L.l y)) (ev_var (i := 5) rfl) (d_var (i := 9) rfl w3) (e5.at hd) (hka.tx (Tx.ex e5)) (hval _ (usedL hy))) (da_cons (d_var (i := 10) rfl w4) da_nil)))) (show 4 ≤ 100000 by decide)
end
end AS


set_option linter.all false
/-! A line that people come to, look in, leave: what they keep is quiet. -/
namespace AS
open PySem
variable [TabsOf]
/-- the line as it stands, what its people keep, those who may still come -/
structure SimOk (line : List Str) (c l : Str → Int) (s : Str → Str) (n : Int) (remain : List Str) : Prop where
  nd : line.Nodup
  qt : Qt (· ∈ line) line.idxOf c l s hdS
  lim : ∀ z ∈ line, 0 ≤ l z ∧ l z ≤ n
  ap : ∀ x ∈ line, ∀ y ∈ line, l x = l y → x = y
  n0 : 0 ≤ n
  rn : remain.Nodup
  rm : ∀ x ∈ remain, x ≠ hdS ∧ x ∉ line ∧ ∀ z ∈ line, s z ≠ x
  ch : (∀ z ∈ line, PyData.strOk z = true ∧ PyData.strOk (s z) = true) ∧ ∀ z ∈ remain, PyData.strOk z = true
section
variable {A B line : List Str} {x y : Str} {c l : Str → Int} {s : Str → Str} {n m : Int} {remain : List Str}
/-- whom the one behind A sees -/
def seen (A : List Str) : Str := A.getLast?.getD hdS
theorem seen_at (A B : List Str) : (hdS :: (A ++ B))[A.length]? = some (seen A) := by
  unfold seen
  cases h : A.getLast? with
  | none =>
    rw [List.getLast?_eq_none_iff] at h
    subst h
    rfl
  | some z =>
    obtain ⟨ys, rfl⟩ := List.getLast?_eq_some_iff.mp h
    rw [List.length_append, List.length_singleton, List.getElem?_cons_succ, List.append_assoc, List.getElem?_append_right (Nat.le_refl _), Nat.sub_self]
    rfl
theorem pos_A {z : Str} (h : z ∈ A) : (A ++ B).idxOf z < A.length ∧ (A ++ B).idxOf z = A.idxOf z := by
  have h1 : (A ++ B).idxOf z = A.idxOf z := by rw [List.idxOf_append, if_pos h]
  exact ⟨by rw [h1]; exact List.idxOf_lt_length_iff.mpr h, h1⟩
theorem pos_B {z : Str} (h : z ∉ A) : (A ++ B).idxOf z = B.idxOf z + A.length := by rw [List.idxOf_append, if_neg h]
theorem pos_x (hn : (A ++ x :: B).Nodup) : (A ++ x :: B).idxOf x = A.length := idx_at hn
theorem pos_after (hn : (A ++ x :: B).Nodup) {z : Str} (h : z ∈ B) : A.length < (A ++ x :: B).idxOf z := by
  rw [List.nodup_append] at hn
  have h1 : z ∉ A := fun q => hn.2.2 z q z (List.mem_cons_of_mem _ h) rfl
  have h2 : x ≠ z := fun e => (List.nodup_cons.mp hn.2.1).1 (e ▸ h)
  rw [pos_B h1, List.idxOf_cons, show (x == z) = false from beq_eq_false_iff_ne.mpr h2, cond_false]
  omega
/-- who stands behind A sees the last of A, or the head -/
theorem pred_of (hn : (A ++ x :: B).Nodup) : Pred (· ∈ A ++ x :: B) (A ++ x :: B).idxOf hdS x (seen A) := by
  have hx := pos_x hn
  unfold seen
  cases h : A.getLast? with
  | none =>
    rw [List.getLast?_eq_none_iff] at h
    subst h
    refine .inl ⟨rfl, fun w hw hne => ?_⟩
    show ([] ++ x :: B).idxOf x < ([] ++ x :: B).idxOf w
    rw [hx]
    exact pos_after hn ((List.mem_cons.mp hw).resolve_left hne)
  | some z =>
    obtain ⟨ys, rfl⟩ := List.getLast?_eq_some_iff.mp h
    have hz : (ys ++ [z] ++ x :: B).idxOf z = ys.length := by
      have e : ys ++ [z] ++ x :: B = ys ++ z :: (x :: B) := by simp
      rw [e] at hn ⊢
      exact idx_at hn
    refine .inr ⟨by simp, ?_, ?_, fun w hw hne => ?_⟩
    · rintro rfl
      rw [List.nodup_append] at hn
      exact hn.2.2 z (by simp) z (List.mem_cons_self ..) rfl
    · show (ys ++ [z] ++ x :: B).idxOf z < (ys ++ [z] ++ x :: B).idxOf x
      rw [hz, hx]
      simp
    · show (ys ++ [z] ++ x :: B).idxOf w ≤ (ys ++ [z] ++ x :: B).idxOf z ∨ (ys ++ [z] ++ x :: B).idxOf x < (ys ++ [z] ++ x :: B).idxOf w
      rw [hz, hx]
      rcases List.mem_append.mp hw with q | q
      · have := (pos_A (B := x :: B) q).1
        simp at this ⊢
        omega
      · exact .inr (pos_after hn ((List.mem_cons.mp q).resolve_left hne))
/-- one more between A and B keeps the order of the others -/
theorem ins_order (hn : (A ++ x :: B).Nodup) {a b : Str} (ha : a ∈ A ++ B) (hb : b ∈ A ++ B) : (A ++ B).idxOf a < (A ++ B).idxOf b ↔ (A ++ x :: B).idxOf a < (A ++ x :: B).idxOf b := by
  have hx : ∀ z ∈ A ++ B, (A ++ x :: B).idxOf z = if z ∈ A then (A ++ B).idxOf z else (A ++ B).idxOf z + 1 := fun z hz => by
    by_cases h : z ∈ A
    · rw [if_pos h, (pos_A h).2, (pos_A h).2]
    · have hzB := (List.mem_append.mp hz).resolve_left h
      rw [if_neg h, pos_B h, pos_B h, List.idxOf_cons]
      have : x ≠ z := fun e => by
        rw [List.nodup_append] at hn
        exact (List.nodup_cons.mp hn.2.1).1 (e ▸ hzB)
      rw [show (x == z) = false from beq_eq_false_iff_ne.mpr this, cond_false]
      omega
  have hlt : ∀ z ∈ A ++ B, (z ∈ A → (A ++ B).idxOf z < A.length) ∧ (z ∉ A → A.length ≤ (A ++ B).idxOf z) := fun z hz => ⟨fun h => (pos_A h).1, fun h => by rw [pos_B h]; omega⟩
  rw [hx a ha, hx b hb]
  have h1 := hlt a ha
  have h2 := hlt b hb
  by_cases ka : a ∈ A <;> by_cases kb : b ∈ A
  · rw [if_pos ka, if_pos kb]
  · rw [if_pos ka, if_neg kb]
    have := h1.1 ka
    have := h2.2 kb
    omega
  · rw [if_neg ka, if_pos kb]
    have := h1.2 ka
    have := h2.1 kb
    omega
  · rw [if_neg ka, if_neg kb]
    omega
theorem mem_ins {z : Str} : z ∈ A ++ x :: B ↔ z ∈ A ++ B ∨ z = x := by
  simp only [List.mem_append, List.mem_cons]
  constructor
  · rintro (h | h | h)
    · exact .inl (.inl h)
    · exact .inr h
    · exact .inl (.inr h)
  · rintro ((h | h) | h)
    · exact .inl h
    · exact .inr (.inr h)
    · exact .inr (.inl h)
theorem nodup_ins (hn : (A ++ B).Nodup) (hx : x ∉ A ++ B) : (A ++ x :: B).Nodup := by
  have hp : (A ++ x :: B).Perm (x :: (A ++ B)) := List.perm_middle
  exact hp.nodup_iff.mpr (List.nodup_cons.mpr ⟨hx, hn⟩)
theorem seen_ok (h : ∀ z ∈ A, PyData.strOk z = true) : PyData.strOk (seen A) = true := by
  unfold seen
  cases q : A.getLast? with
  | none => exact ok_hd
  | some z => exact h z (List.mem_of_getLast? q)
theorem SimOk.come (o : SimOk (A ++ B) c l s n (remain ++ [x])) (hm : n < m) : SimOk (A ++ x :: B) (fun z => if z = x then m else c z) (fun z => if z = x then m else l z) (fun z => if z = x then seen A else s z) m remain := by
  obtain ⟨x1, x2, x3⟩ := o.rm x (by simp)
  have hn := nodup_ins o.nd x2
  have ne : ∀ z ∈ A ++ B, z ≠ x := fun z hz e => x2 (e ▸ hz)
  have q := o.qt.repos (pos' := (A ++ x :: B).idxOf) fun a b ha hb => ins_order hn ha hb
  have hp : ∀ z ∈ A ++ B, (A ++ x :: B).idxOf z ≠ (A ++ x :: B).idxOf x := fun z hz e => by
    rw [pos_x hn] at e
    rcases List.mem_append.mp hz with h | h
    · have := (pos_A (B := x :: B) h).1
      omega
    · have := pos_after hn h
      omega
  have hpred : Pred (· ∈ A ++ B) (A ++ x :: B).idxOf hdS x (seen A) := by
    rcases pred_of hn with ⟨h1, h2⟩ | ⟨h1, h2, h3, h4⟩
    · exact .inl ⟨h1, fun w hw hne => h2 w (mem_ins.mpr (.inl hw)) hne⟩
    · exact .inr ⟨(mem_ins.mp h1).resolve_right h2, h2, h3, fun w hw hne => h4 w (mem_ins.mpr (.inl hw)) hne⟩
  have qc := q.come x2 x1 x3 hpred hp fun z hz => Int.lt_of_le_of_lt (o.lim z hz).2 hm
  refine ⟨hn, qc.congr (fun z => mem_ins) (fun _ _ => rfl) (fun _ _ => rfl) (fun _ _ => rfl), fun z hz => ?_, fun a ha b hb e => ?_, ?_, ?_, fun z hz => ?_, ?_⟩
  · show 0 ≤ (if z = x then m else l z) ∧ (if z = x then m else l z) ≤ m
    by_cases h : z = x
    · rw [if_pos h]
      have := o.n0
      omega
    · rw [if_neg h]
      have := o.lim z ((mem_ins.mp hz).resolve_right h)
      omega
  · have e' : (if a = x then m else l a) = if b = x then m else l b := e
    by_cases h1 : a = x <;> by_cases h2 : b = x
    · rw [h1, h2]
    · rw [if_pos h1, if_neg h2] at e'
      have := (o.lim b ((mem_ins.mp hb).resolve_right h2)).2
      omega
    · rw [if_neg h1, if_pos h2] at e'
      have := (o.lim a ((mem_ins.mp ha).resolve_right h1)).2
      omega
    · rw [if_neg h1, if_neg h2] at e'
      exact o.ap a ((mem_ins.mp ha).resolve_right h1) b ((mem_ins.mp hb).resolve_right h2) e'
  · have := o.n0
    omega
  · have := o.rn
    rw [List.nodup_append] at this
    exact this.1
  · have hr := o.rn
    rw [List.nodup_append] at hr
    have hzx : z ≠ x := fun e => hr.2.2 z hz x (by simp) e
    obtain ⟨z1, z2, z3⟩ := o.rm z (List.mem_append_left _ hz)
    refine ⟨z1, fun h => (mem_ins.mp h).elim z2 hzx, fun u hu => ?_⟩
    show (if u = x then seen A else s u) ≠ z
    by_cases h : u = x
    · rw [if_pos h]
      intro e
      rcases hpred with ⟨h1, _⟩ | ⟨h1, _⟩
      · exact z1 (e ▸ h1)
      · exact z2 (e ▸ h1)
    · rw [if_neg h]
      exact z3 u ((mem_ins.mp hu).resolve_right h)
  · have hx := o.ch.2 x (by simp)
    refine ⟨fun z hz => ?_, fun z hz => o.ch.2 z (List.mem_append_left _ hz)⟩
    show PyData.strOk z = true ∧ PyData.strOk (if z = x then seen A else s z) = true
    by_cases h : z = x
    · rw [if_pos h, h]
      exact ⟨hx, seen_ok fun u hu => (o.ch.1 u (List.mem_append_left _ hu)).1⟩
    · rw [if_neg h]
      exact o.ch.1 z ((mem_ins.mp hz).resolve_right h)
theorem SimOk.look (o : SimOk (A ++ x :: B) c l s n remain) (hm : n < m) : SimOk (A ++ x :: B) c (fun z => if z = x then m else l z) (fun z => if z = x then seen A else s z) m remain := by
  have hp := pred_of o.nd
  have hxm : x ∈ A ++ x :: B := by simp
  refine ⟨o.nd, o.qt.look hxm hp fun z hz => Int.lt_of_le_of_lt (o.lim z hz).2 hm, fun z hz => ?_, fun a ha b hb e => ?_, ?_, o.rn, fun z hz => ?_, ?_⟩
  · show 0 ≤ (if z = x then m else l z) ∧ (if z = x then m else l z) ≤ m
    have h1 := o.n0
    have h2 := o.lim z hz
    split <;> omega
  · have e' : (if a = x then m else l a) = if b = x then m else l b := e
    by_cases h1 : a = x <;> by_cases h2 : b = x
    · rw [h1, h2]
    · rw [if_pos h1, if_neg h2] at e'
      have := (o.lim b hb).2
      omega
    · rw [if_neg h1, if_pos h2] at e'
      have := (o.lim a ha).2
      omega
    · rw [if_neg h1, if_neg h2] at e'
      exact o.ap a ha b hb e'
  · have := o.n0
    omega
  · obtain ⟨z1, z2, z3⟩ := o.rm z hz
    refine ⟨z1, z2, fun u hu => ?_⟩
    show (if u = x then seen A else s u) ≠ z
    by_cases h : u = x
    · rw [if_pos h]
      intro e
      rcases hp with ⟨h1, _⟩ | ⟨h1, _⟩
      · exact z1 (e ▸ h1)
      · exact z2 (e ▸ h1)
    · rw [if_neg h]
      exact z3 u hu
  · refine ⟨fun z hz => ?_, o.ch.2⟩
    show PyData.strOk z = true ∧ PyData.strOk (if z = x then seen A else s z) = true
    by_cases h : z = x
    · rw [if_pos h]
      exact ⟨(o.ch.1 z hz).1, seen_ok fun u hu => (o.ch.1 u (List.mem_append_left _ hu)).1⟩
    · rw [if_neg h]
      exact o.ch.1 z hz
theorem SimOk.leave (o : SimOk (A ++ x :: B) c l s n remain) (hm : n < m) : SimOk (A ++ B) c l s m remain := by
  have hxm : x ∈ A ++ x :: B := by simp
  have hp := pred_of o.nd
  have o2 := o.look hm
  have hn : (A ++ B).Nodup ∧ x ∉ A ++ B := by
    have hp : (A ++ x :: B).Perm (x :: (A ++ B)) := List.perm_middle
    have := hp.nodup_iff.mp o.nd
    rw [List.nodup_cons] at this
    exact ⟨this.2, this.1⟩
  have ne : ∀ z ∈ A ++ B, z ≠ x := fun z hz e => hn.2 (e ▸ hz)
  have sub : ∀ z ∈ A ++ B, z ∈ A ++ x :: B := fun z hz => mem_ins.mpr (.inl hz)
  have q := o2.qt.leave hxm (by
    simp only [if_pos]
    rcases hp with ⟨h1, _⟩ | ⟨h1, _⟩
    · exact .inr h1
    · exact .inl h1)
  have q2 : Qt (· ∈ A ++ B) (A ++ x :: B).idxOf c l s hdS := q.congr (fun z => ⟨fun h => ⟨sub z h, ne z h⟩, fun h => (mem_ins.mp h.1).resolve_right h.2⟩) (fun _ _ => rfl) (fun z hz => by show l z = if z = x then m else l z; rw [if_neg hz.2]) (fun z hz => by show s z = if z = x then seen A else s z; rw [if_neg hz.2])
  refine ⟨hn.1, q2.repos fun a b ha hb => (ins_order o.nd ha hb).symm, fun z hz => ?_, fun a ha b hb e => o.ap a (sub a ha) b (sub b hb) e, ?_, o.rn, fun z hz => ?_, ?_⟩
  · have := o.lim z (sub z hz)
    omega
  · have := o.n0
    omega
  · obtain ⟨z1, z2, z3⟩ := o.rm z hz
    exact ⟨z1, fun h => z2 (sub z h), fun u hu => z3 u (sub u hu)⟩
  · exact ⟨fun z hz => o.ch.1 z (sub z hz), o.ch.2⟩
end
/-- a lore that a line keeps -/
structure Lore.Good (L : Lore Str) : Prop where
  q : ∃ pos, Qt (· ∈ L.N) pos L.c L.l L.s hdS
  ok : L.Ok hdS
  srt : L.N.Pairwise fun x y => leS x y = true
  len : L.N.length ≤ 24
  ch : ∀ z ∈ L.N, PyData.strOk z = true ∧ PyData.strOk (L.s z) = true
theorem Lore.Good.erase {L : Lore Str} (g : L.Good) (i : Nat) : Lore.Good { L with N := L.N.eraseIdx i } := by
  by_cases hi : i < L.N.length
  · obtain ⟨pos, q⟩ := g.q
    have hx : L.N[i]? = some L.N[i] := List.getElem?_eq_getElem hi
    generalize L.N[i] = x at hx
    have hxm := List.mem_of_getElem? hx
    have he : L.N.eraseIdx i = L.N.take i ++ L.N.drop (i + 1) := by rw [List.eraseIdx_eq_take_drop_succ]
    have hs := at_split hx
    have hnd := g.ok.nd
    rw [hs] at hnd
    have hn : (L.N.take i ++ L.N.drop (i + 1)).Nodup ∧ x ∉ L.N.take i ++ L.N.drop (i + 1) := by
      have hp : (L.N.take i ++ x :: L.N.drop (i + 1)).Perm (x :: (L.N.take i ++ L.N.drop (i + 1))) := List.perm_middle
      have := hp.nodup_iff.mp hnd
      rw [List.nodup_cons] at this
      exact ⟨this.2, this.1⟩
    have mem : ∀ z, z ∈ L.N ↔ z ∈ L.N.take i ++ L.N.drop (i + 1) ∨ z = x := fun z => by
      conv => lhs; rw [hs]
      exact mem_ins
    have mem' : ∀ z, z ∈ L.N.eraseIdx i ↔ z ∈ L.N ∧ z ≠ x := fun z => by
      rw [he]
      exact ⟨fun h => ⟨(mem z).mpr (.inl h), fun e => hn.2 (e ▸ h)⟩, fun h => ((mem z).mp h.1).resolve_right h.2⟩
    -- somebody stands next ahead of x, or the head
    have pr : ∃ y, Pred (· ∈ L.N) pos hdS x y := by
      by_cases h : ∃ w ∈ L.N, decide (pos w < pos x) = true
      · obtain ⟨y, y1, y2, y3⟩ := last_of (fun w => ((pos w : Nat) : Int)) (fun w => decide (pos w < pos x)) L.N h
        have y2' := of_decide_eq_true y2
        refine ⟨y, .inr ⟨y1, fun e => by rw [e] at y2'; omega, y2', fun w hw hne => ?_⟩⟩
        rcases Nat.lt_trichotomy (pos w) (pos x) with k | k | k
        · have := y3 w hw (decide_eq_true k)
          omega
        · exact absurd (q.inj w x hw hxm k) hne
        · exact .inr k
      · refine ⟨hdS, .inl ⟨rfl, fun w hw hne => ?_⟩⟩
        rcases Nat.lt_trichotomy (pos w) (pos x) with k | k | k
        · exact absurd ⟨w, hw, decide_eq_true k⟩ h
        · exact absurd (q.inj w x hw hxm k) hne
        · exact k
    obtain ⟨y, hy⟩ := pr
    obtain ⟨mx, hmx⟩ : ∃ mx : Int, ∀ z ∈ L.N, L.l z < mx := by
      have : ∀ xs : List Str, ∃ mx : Int, ∀ z ∈ xs, L.l z < mx := by
        intro xs
        induction xs with
        | nil => exact ⟨0, fun z hz => by cases hz⟩
        | cons a xs ih =>
          obtain ⟨mx, h⟩ := ih
          refine ⟨if mx ≤ L.l a then L.l a + 1 else mx, fun z hz => ?_⟩
          rcases List.mem_cons.mp hz with rfl | hz
          · split <;> omega
          · have := h z hz
            split <;> omega
      exact this _
    have q1 := q.look hxm hy hmx
    have q2 := q1.leave hxm (by
      simp only [if_pos]
      rcases hy with ⟨h1, _⟩ | ⟨h1, _⟩
      · exact .inr h1
      · exact .inl h1)
    refine ⟨⟨pos, q2.congr (fun z => mem' z) (fun _ _ => rfl) (fun z hz => by show L.l z = if z = x then mx else L.l z; rw [if_neg hz.2]) (fun z hz => by show L.s z = if z = x then y else L.s z; rw [if_neg hz.2])⟩, ⟨by show (L.N.eraseIdx i).Nodup; rw [he]; exact hn.1, fun h => g.ok.hd ((mem' _).mp h).1, fun z hz => g.ok.cl z ((mem' z).mp hz).1, fun z hz => g.ok.lp z ((mem' z).mp hz).1, fun a ha b hb e => g.ok.ap a ((mem' a).mp ha).1 b ((mem' b).mp hb).1 e⟩, g.srt.sublist (List.eraseIdx_sublist _ _), Nat.le_trans (List.length_eraseIdx_le _ _) g.len, fun z hz => g.ch z ((mem' z).mp hz).1⟩
  · have : L.N.eraseIdx i = L.N := List.eraseIdx_of_length_le (by omega)
    have e : ({ L with N := L.N.eraseIdx i } : Lore Str) = L := by rw [this]
    rw [e]
    exact g
end AS


set_option Elab.async false
set_option linter.all false
set_option maxRecDepth 100000
set_option maxHeartbeats 4000000
/-! _law_real: a line by drawn deeds. -/
namespace AS
open PySem L2 LamX
open PySem.W (Frag)
open RT
variable [TabsOf]
section
variable {K : Frag} {σ : L2.St} {H : Hp} {ta tb td te : TE} {p : Addr} {xs : List Str} {kvs : List (Key × V)} {ds : List PyData}
theorem strs_lay : ∀ {xs : List Str}, (∀ x ∈ xs, PyData.strOk x = true) → PyData.canLayAll0 (xs.map PyData.str) = true
  | [], _ => rfl
  | x :: xs, h => by
    show (PyData.canLay0 (.str x) && PyData.canLayAll0 (xs.map PyData.str)) = true
    rw [strs_lay fun y hy => h y (List.mem_cons_of_mem _ hy)]
    have : PyData.canLay0 (.str x) = true := h x (List.mem_cons_self ..)
    rw [this]
    rfl
theorem strs_depth : ∀ xs : List Str, PyData.depthAll (xs.map PyData.str) ≤ 1
  | [] => by simp [PyData.depthAll]
  | x :: xs => by
    have := strs_depth xs
    simp only [List.map_cons, PyData.depthAll, PyData.depth]
    omega
theorem shaped_strs (h : ∀ x ∈ xs, PyData.strOk x = true) : SeqAt.shaped (.list (xs.map .str)) = true := by
  unfold SeqAt.shaped
  have h1 := strs_depth xs
  have h2 : PyData.canLay0 (.list (xs.map .str)) = true := by
    simp only [PyData.canLay0]
    exact strs_lay h
  rw [h2, Bool.true_and, decide_eq_true_eq]
  simp only [PyData.depth]
  omega
theorem dp_strs {K : Frag} {H : Hp} : ∀ xs : List Str, DpAll K H (xs.map V.str) (xs.map PyData.str)
  | [] => .nil
  | x :: xs => .cons (.str x) (dp_strs xs)
theorem eqv_nil (xs : List Str) : PyData.eqv (.list (xs.map .str)) (.list []) = xs.isEmpty := by
  cases xs <;> simp [PyData.eqv, PyData.eqvAll]
theorem d_eqL0 (ha : Ev ta σ H (.ref p)) (hs : H p = some (.lst (xs.map V.str))) (hok : ∀ x ∈ xs, PyData.strOk x = true) : EvD K (tOp (rEqD K) ta (tLst tNil)) σ H (.bool xs.isEmpty) := fun H1 e1 Q q =>
  ha H1 e1 _ fun H2 e2 => ⟨Nat.zero_le _, fun r hr => ⟨.list (xs.map .str), .list [], .lst (SqL.of (((e1.trans e2).trans (Ex.new hr)).at hs)) (dp_strs xs), .lst (SqL.of upd_same) .nil, shaped_strs hok, shaped_strs (xs := []) (fun x h => by cases h), by rw [eqv_nil]; exact q _ _ (e2.trans (Ex.new hr)) (.bl _)⟩⟩
theorem d_neL0 (ha : Ev ta σ H (.ref p)) (hs : H p = some (.lst (xs.map V.str))) (hok : ∀ x ∈ xs, PyData.strOk x = true) : EvD K (tOp (rNeD K) ta (tLst tNil)) σ H (.bool (!xs.isEmpty)) := fun H1 e1 Q q =>
  ha H1 e1 _ fun H2 e2 => ⟨Nat.zero_le _, fun r hr => ⟨.list (xs.map .str), .list [], .lst (SqL.of (((e1.trans e2).trans (Ex.new hr)).at hs)) (dp_strs xs), .lst (SqL.of upd_same) .nil, shaped_strs hok, shaped_strs (xs := []) (fun x h => by cases h), by rw [eqv_nil]; exact q _ _ (e2.trans (Ex.new hr)) (.bl _)⟩⟩
theorem l_sortVals (ht : Ev td σ H (.ref p)) (hp : H p = some (.dK kvs)) (hx : DtAll K H (kvs.map (·.2)) ds) (ok : SortOk ds) : EvLD K (tSortVals K td) σ H (ds.mergeSort dle) := fun H1 e1 Q q =>
  ht H1 e1 _ fun H2 e2 => ⟨p, kvs, ds, rfl, (e1.trans e2).at hp, hx.ex (e1.trans e2), ok.al, ok.so, ok.dp, fun ys r hr hy => q r ys _ (e2.dom r hr) (e2.trans (Ex.new hr)) upd_same (hy.ex (Ex.new hr))⟩
theorem kall_snd {es : List (Key × PyData)} (h : KAll K H kvs es) : DtAll K H (kvs.map (·.2)) (es.map (·.2)) := by
  induction h with
  | nil => exact .nil
  | cons h _ ih => exact .cons h ih
theorem KAll.drop {es : List (Key × PyData)} (k : Key) (h : KAll K H kvs es) : KAll K H (dropK kvs k) (es.filter fun e => decide (e.1 ≠ k)) := by
  unfold dropK
  induction h with
  | nil => exact .nil
  | @cons j v d kvs es h _ ih =>
    by_cases e : j ≠ k
    · rw [List.filter_cons_of_pos (by simpa using e), List.filter_cons_of_pos (by simpa using e)]
      exact .cons h ih
    · rw [List.filter_cons_of_neg (by simpa using e), List.filter_cons_of_neg (by simpa using e)]
      exact ih
end
/-- a row -/
def rw4 (c l : Str → Int) (s : Str → Str) (x : Str) : PyData := .tuple [.str x, .int (c x), .int (l x), .str (s x)]
def rowsE (T : List Str) (c l : Str → Int) (s : Str → Str) : List (Key × PyData) := T.map fun x => (.inr x, rw4 c l s x)
theorem rowsE_get {c l : Str → Int} {s : Str → Str} {x : Str} : ∀ {T : List Str}, x ∈ T → getA (rowsE T c l s) (.inr x) = some (rw4 c l s x) := by
  intro T
  induction T with
  | nil => intro h; cases h
  | cons y T ih =>
    intro h
    show getA ((Sum.inr y, rw4 c l s y) :: rowsE T c l s) (.inr x) = _
    rw [getA_cons]
    by_cases e : y = x
    · rw [if_pos (by rw [e]), e]
    · rw [if_neg (fun z => e (Sum.inr.inj z))]
      exact ih ((List.mem_cons.mp h).resolve_left fun z => e z.symm)
theorem rowsE_keys (T : List Str) (c l : Str → Int) (s : Str → Str) : (rowsE T c l s).map (·.1) = T.map fun x => (.inr x : Key) := by
  unfold rowsE
  rw [List.map_map]
  rfl
theorem rowsE_new {T : List Str} {c l : Str → Int} {s : Str → Str} {x : Str} {a b : Int} {y : Str} (h : x ∉ T) : putA (rowsE T c l s) (.inr x) (.tuple [.str x, .int a, .int b, .str y]) = rowsE (T ++ [x]) (fun z => if z = x then a else c z) (fun z => if z = x then b else l z) (fun z => if z = x then y else s z) := by
  rw [putA_new]
  · unfold rowsE
    rw [List.map_append]
    congr 1
    · apply List.map_congr_left
      intro z hz
      have hne : z ≠ x := fun e => h (e ▸ hz)
      show (_, rw4 c l s z) = (_, rw4 _ _ _ z)
      simp only [rw4, if_neg hne]
    · show [(_, _)] = [(_, rw4 _ _ _ x)]
      simp only [rw4, if_true]
  · rw [rowsE_keys]
    intro q
    obtain ⟨z, hz, e⟩ := List.mem_map.mp q
    cases e
    exact h hz
theorem rowsE_old {T : List Str} {c l : Str → Int} {s : Str → Str} {x : Str} {b : Int} {y : Str} (h : x ∈ T) : putA (rowsE T c l s) (.inr x) (.tuple [.str x, .int (c x), .int b, .str y]) = rowsE T c (fun z => if z = x then b else l z) (fun z => if z = x then y else s z) := by
  unfold putA
  rw [if_pos]
  · unfold rowsE
    rw [List.map_map]
    apply List.map_congr_left
    intro z hz
    show (if (Sum.inr z : Key) = .inr x then _ else _) = _
    by_cases e : z = x
    · rw [if_pos (by rw [e]), e]
      simp only [rw4, if_true]
    · rw [if_neg (fun q => e (Sum.inr.inj q))]
      simp only [rw4, if_neg e]
  · refine List.any_eq_true.mpr ⟨(.inr x, rw4 c l s x), List.mem_map.mpr ⟨x, h, rfl⟩, by simp⟩
theorem rowsE_drop {T : List Str} {c l : Str → Int} {s : Str → Str} {x : Str} : (rowsE T c l s).filter (fun e => decide (e.1 ≠ .inr x)) = rowsE (T.filter fun z => decide (z ≠ x)) c l s := by
  unfold rowsE
  rw [List.filter_map]
  congr 1
  apply List.filter_congr
  intro z _
  show decide ((Sum.inr z : Key) ≠ .inr x) = decide (z ≠ x)
  rw [decide_eq_decide]
  exact not_congr ⟨Sum.inr.inj, fun e => by rw [e]⟩
/-- the walk's three objects -/
structure RealH (K : Frag) (pl pr pm : Addr) (line T : List Str) (c l : Str → Int) (s : Str → Str) (remain : List Str) (H : Hp) : Prop where
  hl : H pl = some (.lst (line.map V.str))
  hr : ∃ kvs, H pr = some (.dK kvs) ∧ KAll K H kvs (rowsE T c l s)
  hm : H pm = some (.lst (remain.map V.str))
section
variable {K : Frag} {p pc pl pr pm : Addr} {line T : List Str} {c l : Str → Int} {s : Str → Str} {remain : List Str} {H H' : Hp} {n m : Int}
theorem RealH.es (r : RealH K pl pr pm line T c l s remain H) (st : StH p pc H) (e : Es p pc H H') (h1 : pl ≠ p) (h2 : pr ≠ p) (h3 : pm ≠ p) : RealH K pl pr pm line T c l s remain H' := by
  obtain ⟨kvs, h4, h5⟩ := r.hr
  exact ⟨e.at r.hl h1, ⟨kvs, e.at h4 h2, h5.tx (Es.tx st e)⟩, e.at r.hm h3⟩
theorem RealH.ex (r : RealH K pl pr pm line T c l s remain H) (e : Ex H H') : RealH K pl pr pm line T c l s remain H' := by
  obtain ⟨kvs, h4, h5⟩ := r.hr
  exact ⟨e.at r.hl, ⟨kvs, e.at h4, h5.tx (Tx.ex e)⟩, e.at r.hm⟩
theorem SimOk.up (o : SimOk line c l s n remain) (h : n ≤ m) : SimOk line c l s m remain :=
  ⟨o.nd, o.qt, fun z hz => ⟨(o.lim z hz).1, Int.le_trans (o.lim z hz).2 h⟩, o.ap, Int.le_trans o.n0 h, o.rn, o.rm, o.ch⟩
theorem SimOk.good {N : List Str} (o : SimOk line c l s n remain) (hN : ∀ x, x ∈ N ↔ x ∈ line) (hn : N.Nodup) (hs : N.Pairwise fun x y => leS x y = true) (hl : line.length ≤ 24) : Lore.Good ⟨N, c, l, s⟩ where
  q := ⟨line.idxOf, o.qt.congr hN (fun _ _ => rfl) (fun _ _ => rfl) (fun _ _ => rfl)⟩
  ok := ⟨hn, fun h => o.qt.hh ((hN _).mp h), fun x hx => o.qt.cl x ((hN x).mp hx), fun x hx => (o.lim x ((hN x).mp hx)).1, fun x hx y hy e => o.ap x ((hN x).mp hx) y ((hN y).mp hy) e⟩
  srt := hs
  len := Nat.le_trans (nodup_len hn fun x hx => (hN x).mp hx) hl
  ch := fun z hz => o.ch.1 z ((hN z).mp hz)
end
def spReal (K : Frag) : Sp := fun vs H Q _ => ∃ (p pc pn : Addr) (names : List Str) (most deeds : Int), vs = [.ref p, .ref pn, .int most, .int deeds] ∧ StH p pc H ∧ H pn = some (.lst (names.map V.str)) ∧ names.Nodup ∧ names.length ≤ 1000 ∧ (∀ x ∈ names, x ≠ hdS ∧ PyData.strOk x = true) ∧ most ≤ 24 ∧ 0 ≤ deeds ∧ deeds ≤ 1000 ∧
  ∀ (q : Addr) (L : Lore Str) (v1 v2 : V) H', L.Good → Es p pc H H' → H' q = some (.lst [v1, v2]) → Dt K H' v2 L.d → Q (.ref q) H'
theorem sortOk_rows {T : List Str} {c l : Str → Int} {s : Str → Str} : SortOk (T.map (rw4 c l s)) where
  al := fun d hd e he => by
    obtain ⟨x, _, rfl⟩ := List.mem_map.mp hd
    obtain ⟨y, _, rfl⟩ := List.mem_map.mp he
    rfl
  so := .inl fun d hd => by
    obtain ⟨x, _, rfl⟩ := List.mem_map.mp hd
    exact ⟨_, _, rfl⟩
  dp := fun d hd => by
    obtain ⟨x, _, rfl⟩ := List.mem_map.mp hd
    show (PyData.tuple [.str x, .int (c x), .int (l x), .str (s x)]).depth ≤ 32
    simp [PyData.depth, PyData.depthAll]
theorem atI_nat {ds : List PyData} {n : Nat} {d : PyData} (h : ds[n]? = some d) : atI ds (n : Nat) = some d := by
  have hl := (List.getElem?_eq_some_iff.mp h).1
  unfold atI ixN
  rw [if_pos (by omega), if_pos (by omega)]
  show ds[((n : Nat) : Int).toNat]? = some d
  simp [h]
end AS


set_option Elab.async false
set_option linter.all false
set_option maxRecDepth 100000
set_option maxHeartbeats 8000000
/-! _law_real: the walk. -/
namespace AS
open PySem L2 LamX
open PySem.W (Frag)
open RT
variable [TabsOf]
section
variable {P : Program} {w : World} {K : Frag} {mg : Str → Option Value} {base : Heap}
abbrev s_law_real : Stmt := top n_law_real
theorem sc_law_real : FnScope ["state", "names", "most", "deeds", "line", "rows", "remain", "number", "step", "turn", "fork", "at"] ["state", "names", "most", "deeds"] (defScope s_law_real) := ⟨rfl, rfl, rfl, by decide +kernel, rfl, by decide +kernel, by decide +kernel⟩
theorem seqIndex_nat {k n : Nat} (h : k < n) : seqIndex? (k : Nat) n = some k := by
  have h1 : ¬ ((k : Nat) : Int) < 0 := by omega
  have h2 : ((k : Nat) : Int) < (n : Nat) := by omega
  simp [seqIndex?, h1, h]
theorem sim_nil {names : List Str} (hnd : names.Nodup) (hnx : ∀ x ∈ names, x ≠ hdS ∧ PyData.strOk x = true) : SimOk [] (fun _ => 0) (fun _ => 0) (fun _ => hdS) 0 names where
  nd := List.nodup_nil
  qt := ⟨(fun h => by cases h), (fun x y h => by cases h), (fun x h => by cases h), (fun z h => by cases h), (fun z h => by cases h), (fun z f h => by cases h)⟩
  lim := fun z h => by cases h
  ap := fun x h => by cases h
  n0 := Int.le_refl _
  rn := hnd
  rm := fun x hx => ⟨(hnx x hx).1, (fun h => by cases h), (fun z h => by cases h)⟩
  ch := ⟨(fun z h => by cases h), fun z hz => (hnx z hz).2⟩
/-- what stands ahead of each deed -/
structure RealP (K : Frag) (p pc pl pr pm : Addr) (H0 : Hp) (σ : L2.St) (v0 v1 : V) (most deeds step : Int) (H : Hp) : Prop where
  ex : ∃ (line T remain : List Str) (c l : Str → Int) (s : Str → Str) (number : Int) (a b d : Option V), σ = [some (.ref p), some v1, some (.int most), some (.int deeds), some (.ref pl), some (.ref pr), some (.ref pm), some (.int number), some (.int step), a, b, d] ∧ RealH K pl pr pm line T c l s remain H ∧ SimOk line c l s number remain ∧ T.Nodup ∧ (∀ x, x ∈ T ↔ x ∈ line) ∧ line.length ≤ 24
  es : Es p pc H0 H
theorem ok_law_real {f : Addr} {fd : FuncData} (F : Fun K "_law_real" "_law_real" s_law_real f fd) (B : Blt mg) (C__law_next : Cal P w K mg base "_law_next" 1 ["state", "below"] spNext) : FnOk P w K mg base CX0 2 f fd ["state", "names", "most", "deeds"] (spReal K) := by
  refine F.ok sc_law_real (fun vs H Q E h => ?_) (fun cdv A0 outer s0 H vs Q E hr h => ?_)
  · obtain ⟨p, pc, pn, names, most, deeds, rfl, _⟩ := h
    rfl
  · obtain ⟨p, pc, pn, names, most, deeds, rfl, st, hn, hnd, hnl, hnx, hmost, hd0, hd1, k⟩ := h
    refine ⟨_, (pss_cons (ps_asg (pe_tup (pa_cons (pe_lst pa_nil) (pa_cons pe_dnewK (pa_cons (xList K B (pv 1)) (pa_cons pe_int pa_nil))))) (gTupK K (pgs_cons (pg_name (i := 4) sc_law_real.nd rfl (Or.inl rfl)) (pgs_cons (pg_name (i := 5) sc_law_real.nd rfl (Or.inl rfl)) (pgs_cons (pg_name (i := 6) sc_law_real.nd rfl (Or.inl rfl)) (pgs_cons (pg_name (i := 7) sc_law_real.nd rfl (Or.inl rfl)) pgs_nil))))))
      (pss_cons (ps_set (i := 8) sc_law_real.nd rfl (Or.inl rfl) (xIxL K (pe_lst (pa_cons pe_int (pa_cons pe_int (pa_cons (xPow pe_int pe_int) pa_nil)))) (xCal C__law_next (hr.mono (by decide)) (pa_cons (pv 0) (pa_cons pe_int pa_nil)))))
      (pss_cons (ps_for PassesOwn.never rfl (wRange1 B (pv 3)) (pg_name (i := 9) sc_law_real.nd rfl (Or.inl rfl))
      (pss_cons (ps_set (i := 7) sc_law_real.nd rfl (Or.inl rfl) (xAdd (xAdd (pv 7) pe_int) (xCal C__law_next (hr.mono (by decide)) (pa_cons (pv 0) (pa_cons (pv 8) pa_nil)))))
      (pss_cons (ps_set (i := 10) sc_law_real.nd rfl (Or.inl rfl) (xCal C__law_next (hr.mono (by decide)) (pa_cons (pv 0) (pa_cons pe_int pa_nil))))
      (pss_cons (ps_set (i := 11) sc_law_real.nd rfl (Or.inl rfl) (xCal C__law_next (hr.mono (by decide)) (pa_cons (pv 0) (pa_cons (xMax2 B pe_int (xLen K B (pv 4))) pa_nil))))
      (pss_one (ps_if (PW.pt (pw_and (PW.pt (pw_or (yLt (pv 10) pe_int) (pw_or1 (yEqD K hr (pv 4) (pe_lst pa_nil))))) (pw_and (yNeD K hr (pv 6) (pe_lst pa_nil)) (pw_and1 (yLt (xLen K B (pv 4)) (pv 2)))))) (pss_cons (ps_set (i := 11) sc_law_real.nd rfl (Or.inl rfl) (xCal C__law_next (hr.mono (by decide)) (pa_cons (pv 0) (pa_cons (xAdd (xLen K B (pv 4)) pe_int) pa_nil))))
      (pss_cons (ps_expr (xBM K PySem.F.plainAttrs_list PySem.F.slot_list_insert PySem.F.type_list_insert mt_insert (pv 4) (pa_cons (pv 11) (pa_cons (xBM0 K PySem.F.plainAttrs_list PySem.F.slot_list_pop PySem.F.type_list_pop mt_pop (pv 6)) pa_nil))))
      (pss_one (ps_dput (hu_of hr) (pv 5) (xIxL K (pv 4) (pv 11)) (pe_tup (pa_cons (xIxL K (pv 4) (pv 11)) (pa_cons (pv 7) (pa_cons (pv 7) (pa_cons (xIxL K (xAddL (pe_lst (pa_cons pe_str pa_nil)) (pv 4)) (pv 11)) pa_nil))))) rfl))))
      (pss_one (ps_if (PW.pt (pw_and (yEq (pv 10) pe_int) (pw_and1 (yGt (xLen K B (pv 4)) pe_int)))) (pss_one (ps_expr (pe_dpop1 (pv 5) (xBM K PySem.F.plainAttrs_list PySem.F.slot_list_pop PySem.F.type_list_pop mt_popAt (pv 4) (pa_cons (pv 11) pa_nil)) ⟨rfl, rfl, rfl, rfl⟩)))
      (pss_one (ps_if (yNeD K hr (pv 4) (pe_lst pa_nil)) (pss_one (ps_dput (hu_of hr) (pv 5) (xIxL K (pv 4) (pv 11)) (pe_tup (pa_cons (xIxL K (pv 4) (pv 11)) (pa_cons (xIxT K (xIxD hr (pv 5) (xIxL K (pv 4) (pv 11))) pe_int) (pa_cons (pv 7) (pa_cons (xIxL K (xAddL (pe_lst (pa_cons pe_str pa_nil)) (pv 4)) (pv 11)) pa_nil))))) rfl))
      pss_nil))))))))))
      (pss_one (ps_ret (pe_lst (pa_cons (xTuple K B (pv 4)) (pa_cons (xTuple K B (xSortVals K hr B (pv 5))) pa_nil)))))))), ?_⟩
    refine ⟨Nat.zero_le _, fun pl hpl pr hpr => ⟨.ref pn, rfl, pn, names.map V.str, rfl, .inl (SqL.of (((Ex.new hpl).trans (Ex.new hpr)).at hn)), fun pm hpm => ⟨(show 4 ≤ sizeLine by decide), fun pt hpt => ?_⟩⟩⟩
    refine (reach_tup (K := K) (SqT.of upd_same) rfl (reach_cons reach_name (reach_cons reach_name (reach_cons reach_name (reach_cons reach_name reach_nil))))) _ ?_
    have E1 : Ex H (upd H pl (.lst [])) := Ex.new hpl
    have E2 : Ex (upd H pl (.lst [])) (upd (upd H pl (.lst [])) pr (.dK [])) := Ex.new hpr
    have E3 := Ex.new (o := HO.lst (names.map V.str)) hpm
    have E4 := Ex.new (o := HO.tup [.ref pl, .ref pr, .ref pm, .int 0]) hpt
    have hrH := E1.dom pr hpr
    have hmH := E1.dom pm (E2.dom pm hpm)
    have nrl : pr ≠ pl := fun z => by rw [z, upd_same] at hpr; cases hpr
    have nml : pm ≠ pl := fun z => by rw [z, E2.at upd_same] at hpm; cases hpm
    have nmr : pm ≠ pr := fun z => by rw [z, upd_same] at hpm; cases hpm
    have np : ∀ r, H r = none → r ≠ p := fun r h z => by
      obtain ⟨_, _, _, _, s1, _⟩ := st
      rw [z, s1] at h
      cases h
    have real0 : RealH K pl pr pm [] [] (fun _ => 0) (fun _ => 0) (fun _ => hdS) names (upd (upd (upd (upd H pl (.lst [])) pr (.dK [])) pm (.lst (names.map V.str))) pt (.tup [.ref pl, .ref pr, .ref pm, .int 0])) := ⟨E4.at (E3.at (E2.at upd_same)), ⟨[], E4.at (E3.at upd_same), .nil⟩, E4.at upd_same⟩
    have sim0 := sim_nil hnd hnx
    have EE := ((E1.trans E2).trans E3).trans E4
    have st4 := st.ex EE
    generalize upd (upd (upd (upd H pl (.lst [])) pr (.dK [])) pm (.lst (names.map V.str))) pt (.tup [.ref pl, .ref pr, .ref pm, .int 0]) = H4 at real0 EE st4
    show tSeq _ _ _ [some (.ref p), some (.ref pn), some (.int most), some (.int deeds), some (.ref pl), some (.ref pr), some (.ref pm), some (.int 0), none, none, none, none] H4
    refine q_asgZ (p := p) (pc := pc) (z_pick (K := K) (ms := [1, 4, 10 ^ (6 : Int).toNat]) (S := fun m => 0 < m ∧ m < 1073741824) (fun H1 e1 => l_lst (da_cons d_cI (da_cons d_cI (da_cons (d_opCI (g := fun i j => i ^ j.toNat) d_cI d_cI ⟨by decide, by decide, by decide⟩) da_nil))) (show 3 ≤ 100000 by decide)) (z_nextC (b := 3) (n := 0) rfl (by decide) (by decide)) fun i ⟨h0, h1⟩ => ?_) st4 fun step H5 e5 hstep => ?_
    · have : i = 0 ∨ i = 1 ∨ i = 2 := by omega
      rcases this with rfl | rfl | rfl
      · exact ⟨1, rfl, by decide⟩
      · exact ⟨4, rfl, by decide⟩
      · exact ⟨10 ^ (6 : Int).toNat, rfl, by decide⟩
    have es5 : Es p pc H H5 := (Es.of st EE).trans e5
    have real5 := real0.es st4 e5 (np pl hpl) (np pr hrH) (np pm hmH)
    refine q_for (K := K) (i_range1 (n := deeds) (d_var (i := 3) rfl (.int _)) (by omega) (by omega)) (fun H6 i σ' H' => Tx K H6 H' ∧ RealP K p pc pl pr pm H σ' (.ref p) (.ref pn) most deeds step H') (fun H6 e6 => ⟨Tx.refl _, ⟨[], [], names, _, _, _, 0, _, _, _, rfl, real5.ex e6, sim0, List.nodup_nil, fun x => Iff.rfl, Nat.zero_le _⟩, es5.ex e6⟩) (fun H6 i σ' H' e6 _ q => q.1) ?_ ?_
    · rintro H6 i z y σ' H' H'' e6 hy ⟨tx, ⟨line, T, remain, c, l, s, number, a, b, d, rfl, real, sim, tnd, tmem, hlen⟩, es⟩ ey ht
      obtain ⟨t0, rfl⟩ : ∃ t0 : Int, z = .int t0 := ⟨_, ht.int_inv⟩
      refine reach_name _ ?_
      have es0 := es.ex ey
      have real0 := real.ex ey
      have tx0 := tx.trans (Tx.ex ey)
      refine q_asgZ (p := p) (pc := pc) (P := fun r => number + 1 ≤ r) (z_op (P := (· = number + 1)) (R := fun r => 0 ≤ r) (g := fun i j => i + j) (z_op (P := (· = number)) (R := (· = 1)) (g := fun i j => i + j) (z_var (n := 7) rfl) z_c fun i j h1 h2 => by omega) ((z_next (n := 0) rfl (z_var (n := 8) rfl) fun i h => by rw [h]; exact hstep).imp fun r ⟨i, _, h, _⟩ => h) fun i j h1 h2 => by omega) es0.s fun m H7 e7 hm => ?_
      refine q_asgZ (p := p) (pc := pc) (z_nextC (b := 5) (n := 0) rfl (by decide) (by decide)) e7.s fun fork H8 e8 hfork => ?_
      have e78 := e7.trans e8
      have real8 := real0.es es0.s e78 (np pl hpl) (np pr hrH) (np pm hmH)
      have es8 := es0.trans e78
      refine q_asgZ (p := p) (pc := pc) (z_next (n := 0) rfl (z_D (K := K) (i := if ((line.map V.str).length : Int) > 1 then ((line.map V.str).length : Int) else 1) fun H1 e1 => d_max2 d_cI (d_lenL (ev_var (i := 4) rfl) (SqL.of (e1.at real8.hl (np pl hpl))))) fun i h => ?_) es8.s fun at0 H9 e9 ⟨bnd, hbnd, hat0, hat1⟩ => ?_
      · rw [h, List.length_map]
        split <;> omega
      rw [List.length_map] at hbnd
      have real9 := real8.es es8.s e9 (np pl hpl) (np pr hrH) (np pm hmH)
      have es9 := es8.trans e9
      have tx9 := ((tx0.trans (Es.tx es0.s e78))).trans (Es.tx es8.s e9)
      have lok : ∀ x ∈ line, PyData.strOk x = true := fun x hx => (sim.ch.1 x hx).1
      -- the end of a turn
      have fin : ∀ (H' : Hp) (line' T' remain' : List Str) (c' l' : Str → Int) (s' : Str → Str) (at1 : Int), Tx K H6 H' → Es p pc H H' → RealH K pl pr pm line' T' c' l' s' remain' H' → SimOk line' c' l' s' m remain' → T'.Nodup → (∀ x, x ∈ T' ↔ x ∈ line') → line'.length ≤ 24 →
          Tx K H6 H' ∧ RealP K p pc pl pr pm H [some (.ref p), some (.ref pn), some (.int most), some (.int deeds), some (.ref pl), some (.ref pr), some (.ref pm), some (.int m), some (.int step), some (.int t0), some (.int fork), some (.int at1)] (.ref p) (.ref pn) most deeds step H' :=
        fun H' line' T' remain' c' l' s' at1 t e r o n1 n2 n3 => ⟨t, ⟨line', T', remain', c', l', s', m, _, _, _, rfl, r, o, n1, n2, n3⟩, e⟩
      -- the place's name and whom it sees
      have ixs : ∀ {σ : L2.St} {H1 : Hp} {A B : List Str} {x : Str}, σ[4]? = some (some (.ref pl)) → σ[11]? = some (some (.int (A.length : Nat))) → H1 pl = some (.lst ((A ++ x :: B).map V.str)) → (A ++ x :: B).length ≤ 1000 →
          EvD K (tOp (rIxL K) (tVar 4) (tVar 11)) σ H1 (.str x) ∧ EvD K (tOp (rIxL K) (tOp rCat (tLst (tCons (tC (.str "")) tNil)) (tVar 4)) (tVar 11)) σ H1 (.str (seen A)) := fun {σ H1 A B x} g4 g11 hl hle => by
        refine ⟨d_ixL (ev_var g4) (d_var g11 (.int _)) (SqL.of hl) (.strs _) (atI_nat ?_), d_ixNL (l_catNL (ds := [.str hdS]) (l_lst (da_cons d_cS da_nil) (show 1 ≤ 100000 by decide)) (ev_var g4) hl (.strs _) ?_) (d_var g11 (.int _)) (atI_nat ?_)⟩
        · rw [List.getElem?_map, List.getElem?_append_right (Nat.le_refl _), Nat.sub_self]
          rfl
        · rw [List.length_map]
          show 1 + _ ≤ _
          omega
        · have := seen_at A (x :: B)
          show ((hdS :: (A ++ x :: B)).map PyData.str)[A.length]? = _
          rw [List.getElem?_map, this]
          rfl
      refine s_if (et_and (et_or (et_D (K := K) (d_opIB (g := fun i j => decide (i < j)) (d_var (i := 10) rfl (.int _)) d_cI)) fun _ => et_D (K := K) (d_eqL0 (ev_var (i := 4) rfl) real9.hl lok)) fun _ => et_and (et_D (K := K) (d_neL0 (ev_var (i := 6) rfl) real9.hm sim.ch.2)) fun _ => et_D (K := K) (d_opIB (g := fun i j => decide (i < j)) (d_lenL (ev_var (i := 4) rfl) (SqL.of real9.hl)) (d_var (i := 2) rfl (.int _)))) (fun hb H10 e10 => ?_) (fun hb H10 e10 => ?_)
      · -- somebody comes
        rw [Bool.and_eq_true, Bool.and_eq_true, decide_eq_true_eq, List.length_map] at hb
        obtain ⟨_, hb1, hb2⟩ := hb
        have hne : remain ≠ [] := fun z => by rw [z] at hb1; cases hb1
        have real10 := real9.ex e10
        have es10 := es9.ex e10
        refine q_asgZ (p := p) (pc := pc) (z_next (n := 0) rfl (z_D (K := K) (i := ((line.map V.str).length : Int) + 1) fun H1 e1 => d_opII (g := fun i j => i + j) (d_lenL (ev_var (i := 4) rfl) (SqL.of (e1.at real10.hl (np pl hpl)))) d_cI) fun i h => ?_) es10.s fun at1 H11 e11 ⟨bnd1, hbnd1, h0, h1⟩ => ?_
        · rw [h, List.length_map]
          omega
        rw [List.length_map] at hbnd1
        obtain ⟨k0, rfl⟩ := Int.eq_ofNat_of_zero_le h0
        have hk0 : k0 ≤ line.length := by omega
        have real11 := real10.es es10.s e11 (np pl hpl) (np pr hrH) (np pm hmH)
        have es11 := es10.trans e11
        have hrem : remain = remain.dropLast ++ [remain.getLast hne] := (List.dropLast_concat_getLast hne).symm
        generalize hx : remain.getLast hne = x at hrem
        have hli : line = line.take k0 ++ line.drop k0 := (List.take_append_drop k0 line).symm
        obtain ⟨kvs, hrk, hka⟩ := real11.hr
        refine ⟨.ref pl, rfl, .inl ⟨rfl, _, SqL.of real11.hl⟩, .int (k0 : Nat), rfl, .ref pm, rfl, .inl ⟨rfl, _, SqL.of real11.hm⟩, pm, remain.map V.str, .str x, rfl, rfl, real11.hm, ?_, pl, line.map V.str, (k0 : Nat), .str x, rfl, rfl, ?_, sz_lt (by rw [List.length_map]; omega), by omega, by omega, ?_⟩
        · conv => lhs; rw [hrem]
          rw [List.map_append, List.length_append]
          show (List.map V.str remain.dropLast ++ [V.str x])[(List.map V.str remain.dropLast).length + 1 - 1]? = _
          rw [Nat.add_sub_cancel, List.getElem?_append_right (Nat.le_refl _), Nat.sub_self]
          rfl
        · rw [upd_ne (fun z => nml z.symm)]
          exact real11.hl
        have elist : (line.map V.str).take ((k0 : Nat) : Int).toNat ++ [V.str x] ++ (line.map V.str).drop ((k0 : Nat) : Int).toNat = (line.take k0 ++ x :: line.drop k0).map V.str := by
          rw [Int.toNat_natCast, List.map_append, List.map_cons, List.map_take, List.map_drop, List.append_assoc]
          rfl
        rw [elist]
        have hA : (line.take k0).length = k0 := by rw [List.length_take]; omega
        -- the heap behind
        have es12 : Es p pc H (upd (upd H11 pm (.lst (remain.map V.str).dropLast)) pl (.lst ((line.take k0 ++ x :: line.drop k0).map V.str))) := (es11.own hmH (by rw [real11.hm]; exact trivial) st).own hpl (by rw [upd_ne (fun z => nml z.symm), real11.hl]; exact trivial) st
        have tx12 : Tx K H11 (upd (upd H11 pm (.lst (remain.map V.str).dropLast)) pl (.lst ((line.take k0 ++ x :: line.drop k0).map V.str))) := (Tx.lst real11.hm).trans (Tx.lst (by rw [upd_ne (fun z => nml z.symm)]; exact real11.hl))
        have hl12 : (upd (upd H11 pm (.lst (remain.map V.str).dropLast)) pl (.lst ((line.take k0 ++ x :: line.drop k0).map V.str))) pl = some (.lst ((line.take k0 ++ x :: line.drop k0).map V.str)) := upd_same
        have hr12 : (upd (upd H11 pm (.lst (remain.map V.str).dropLast)) pl (.lst ((line.take k0 ++ x :: line.drop k0).map V.str))) pr = some (.dK kvs) := by rw [upd_ne nrl, upd_ne (fun z => nmr z.symm)]; exact hrk
        have hm12 : (upd (upd H11 pm (.lst (remain.map V.str).dropLast)) pl (.lst ((line.take k0 ++ x :: line.drop k0).map V.str))) pm = some (.lst (remain.map V.str).dropLast) := by rw [upd_ne nml, upd_same]
        generalize upd (upd H11 pm (.lst (remain.map V.str).dropLast)) pl (.lst ((line.take k0 ++ x :: line.drop k0).map V.str)) = H12 at es12 tx12 hl12 hr12 hm12
        have hlen2 : (line.take k0 ++ x :: line.drop k0).length = line.length + 1 := by
          rw [List.length_append, List.length_cons, List.length_take, List.length_drop]
          omega
        have hTl : T.length ≤ 24 := Nat.le_trans (nodup_len tnd fun z hz => (tmem z).mp hz) hlen
        have hkl := hka.length
        have hre : (rowsE T c l s).length = T.length := by unfold rowsE; rw [List.length_map]
        have g11 : ([some (.ref p), some (.ref pn), some (.int most), some (.int deeds), some (.ref pl), some (.ref pr), some (.ref pm), some (.int m), some (.int step), some (.int t0), some (.int fork), some (.int (k0 : Nat))] : L2.St)[11]? = some (some (.int ((line.take k0).length : Nat))) := by rw [hA]; rfl
        have ix12 := fun {H1 : Hp} (h : H1 pl = some (.lst ((line.take k0 ++ x :: line.drop k0).map V.str))) => ixs (σ := [some (.ref p), some (.ref pn), some (.int most), some (.int deeds), some (.ref pl), some (.ref pr), some (.ref pm), some (.int m), some (.int step), some (.int t0), some (.int fork), some (.int (k0 : Nat))]) rfl g11 h (by rw [hlen2]; omega)
        have simc : SimOk (line.take k0 ++ line.drop k0) c l s number (remain.dropLast ++ [x]) := by rw [← hli, ← hrem]; exact sim
        have hxl : x ∉ T := fun h => (simc.rm x (by simp)).2.1 (by rw [← hli]; exact (tmem x).mp h)
        refine s_dputV (K := K) (p := pr) (k := .inr x) (d := .tuple [.str x, .int m, .int m, .str (seen (line.take k0))]) (ev_var (i := 5) rfl) hr12 (by omega) (ix12 hl12).1 (d_tup (da_cons (ix12 hl12).1 (da_cons (d_var (i := 7) rfl (.int m)) (da_cons (d_var (i := 7) rfl (.int m)) (da_cons (ix12 hl12).2 da_nil)))) (show 4 ≤ 100000 by decide)) fun v13 H13 e13 t13 h13 => ?_
        have tx13 : Tx K H13 (upd H13 pr (.dK (putK kvs (.inr x) v13))) := Tx.dk h13 _
        refine fin _ (line.take k0 ++ x :: line.drop k0) (T ++ [x]) remain.dropLast _ _ _ _ ((((((tx9.trans (Tx.ex e10)).trans (Es.tx es10.s e11))).trans tx12).trans (Tx.ex e13)).trans tx13) ((es12.ex e13).own hrH (by rw [h13]; exact trivial) st) ⟨?_, ⟨_, upd_same, ?_⟩, ?_⟩ (simc.come (by omega)) ?_ (fun z => ?_) (by rw [hlen2]; omega)
        · rw [upd_ne (fun z => nrl z.symm)]
          exact e13.at hl12
        · have := ((hka.tx (tx12.trans (Tx.ex e13))).put (k := .inr x) t13).tx tx13
          rw [rowsE_new hxl] at this
          exact this
        · rw [upd_ne nmr, e13.at hm12, List.map_dropLast]
        · rw [List.nodup_append]
          exact ⟨tnd, by simp, fun a ha b hb e => by
            rw [List.mem_singleton] at hb
            exact hxl (hb ▸ e ▸ ha)⟩
        · have hmi : z ∈ line.take k0 ++ x :: line.drop k0 ↔ z ∈ line.take k0 ++ line.drop k0 ∨ z = x := mem_ins
          rw [hmi, ← hli, List.mem_append, tmem, List.mem_singleton]
      · have es10 := es9.ex e10
        have real10 := real9.ex e10
        have tx10 := tx9.trans (Tx.ex e10)
        refine s_if (et_and (et_D (K := K) (d_eqI (d_var (i := 10) rfl (.int _)) d_cI)) fun _ => et_D (K := K) (d_opIB (g := fun i j => decide (j < i)) (d_lenL (ev_var (i := 4) rfl) (SqL.of real10.hl)) d_cI)) (fun hb2 H11 e11 => ?_) (fun hb2 H11 e11 => ?_)
        · -- somebody leaves
          rw [Bool.and_eq_true, decide_eq_true_eq, decide_eq_true_eq, List.length_map] at hb2
          obtain ⟨k0, rfl⟩ := Int.eq_ofNat_of_zero_le hat0
          have hk0 : k0 < line.length := by
            rw [hbnd] at hat1
            have := List.length_map (as := line) V.str
            split at hat1 <;> omega
          have hx : line[k0]? = some line[k0] := List.getElem?_eq_getElem hk0
          generalize line[k0] = x at hx
          have hsp := at_split hx
          have real11 := real10.ex e11
          have es11 := es10.ex e11
          have tx11 := tx10.trans (Tx.ex e11)
          obtain ⟨kvs, hrk, hka⟩ := real11.hr
          have hxT : x ∈ T := (tmem x).mpr (List.mem_of_getElem? hx)
          obtain ⟨vx, hvx⟩ : ∃ vx, valV kvs (.inr x) = some vx := by
            rcases hka.get (k := .inr x) with ⟨q1, _⟩ | ⟨v, _, _, q2, _⟩
            · rw [rowsE_get hxT] at q1
              cases q1
            · exact ⟨v, q2⟩
          refine ⟨.ref pr, rfl, pr, rfl, .inl ⟨kvs, .inl hrk⟩, .ref pl, rfl, .inl ⟨rfl, _, SqL.of real11.hl⟩, .int (k0 : Nat), rfl, pl, line.map V.str, (k0 : Nat), k0, .str x, rfl, rfl, real11.hl, by omega, by omega, ?_, ?_, kvs, .inr x, vx, ?_, rfl, hvx, ?_⟩
          · rw [List.length_map]
            exact seqIndex_nat hk0
          · rw [List.getElem?_map, hx]
            rfl
          · rw [upd_ne nrl]
            exact hrk
          have simx : SimOk (line.take k0 ++ x :: line.drop (k0 + 1)) c l s number remain := by rw [← hsp]; exact sim
          have hmi : ∀ z, z ∈ line ↔ z ∈ line.take k0 ++ line.drop (k0 + 1) ∨ z = x := fun z => by
            conv => lhs; rw [hsp]
            exact mem_ins
          have hxn : x ∉ line.take k0 ++ line.drop (k0 + 1) := by
            have hp : (line.take k0 ++ x :: line.drop (k0 + 1)).Perm (x :: (line.take k0 ++ line.drop (k0 + 1))) := List.perm_middle
            exact (List.nodup_cons.mp (hp.nodup_iff.mp simx.nd)).1
          have t1 : Tx K H11 (upd H11 pl (.lst ((line.map V.str).eraseIdx k0))) := Tx.lst real11.hl
          have hr12 : (upd H11 pl (.lst ((line.map V.str).eraseIdx k0))) pr = some (.dK kvs) := by rw [upd_ne nrl]; exact hrk
          have t2 : Tx K (upd H11 pl (.lst ((line.map V.str).eraseIdx k0))) (upd (upd H11 pl (.lst ((line.map V.str).eraseIdx k0))) pr (.dK (dropK kvs (.inr x)))) := Tx.dk hr12 _
          refine fin _ (line.take k0 ++ line.drop (k0 + 1)) (T.filter fun z => decide (z ≠ x)) remain c l s _ ((tx11.trans t1).trans t2) ((es11.own hpl (by rw [real11.hl]; exact trivial) st).own hrH (by rw [hr12]; exact trivial) st) ⟨?_, ⟨_, upd_same, ?_⟩, ?_⟩ (simx.leave (by omega)) (tnd.filter _) (fun z => ?_) ?_
          · rw [upd_ne (fun z => nrl z.symm), upd_same, List.eraseIdx_eq_take_drop_succ, ← List.map_take, ← List.map_drop, ← List.map_append]
          · rw [← rowsE_drop]
            exact ((hka.tx t1).tx t2).drop (.inr x)
          · rw [upd_ne nmr, upd_ne nml]
            exact real11.hm
          · rw [List.mem_filter, tmem, hmi z, decide_eq_true_eq]
            exact ⟨fun h => h.1.resolve_right h.2, fun h => ⟨.inl h, fun e => hxn (e ▸ h)⟩⟩
          · rw [List.length_append, List.length_take, List.length_drop]
            omega
        · have es11 := es10.ex e11
          have real11 := real10.ex e11
          have tx11 := tx10.trans (Tx.ex e11)
          refine s_if (et_D (K := K) (d_neL0 (ev_var (i := 4) rfl) real11.hl lok)) (fun hb3 H12 e12 => ?_) (fun hb3 H12 e12 => ?_)
          · -- somebody looks
            have hne : 0 < line.length := by
              cases line with
              | nil => cases hb3
              | cons _ _ => simp
            obtain ⟨k0, rfl⟩ := Int.eq_ofNat_of_zero_le hat0
            have hk0 : k0 < line.length := by
              rw [hbnd] at hat1
              split at hat1 <;> omega
            have hx : line[k0]? = some line[k0] := List.getElem?_eq_getElem hk0
            generalize line[k0] = x at hx
            have hsp := at_split hx
            have real12 := real11.ex e12
            have es12 := es11.ex e12
            have tx12 := tx11.trans (Tx.ex e12)
            obtain ⟨kvs, hrk, hka⟩ := real12.hr
            have hxT : x ∈ T := (tmem x).mpr (List.mem_of_getElem? hx)
            have simx : SimOk (line.take k0 ++ x :: line.drop (k0 + 1)) c l s number remain := by rw [← hsp]; exact sim
            have hA : (line.take k0).length = k0 := by rw [List.length_take]; omega
            have g11 : ([some (.ref p), some (.ref pn), some (.int most), some (.int deeds), some (.ref pl), some (.ref pr), some (.ref pm), some (.int m), some (.int step), some (.int t0), some (.int fork), some (.int (k0 : Nat))] : L2.St)[11]? = some (some (.int ((line.take k0).length : Nat))) := by rw [hA]; rfl
            have hl12 : H12 pl = some (.lst ((line.take k0 ++ x :: line.drop (k0 + 1)).map V.str)) := by rw [← hsp]; exact real12.hl
            have ix12 := ixs (σ := [some (.ref p), some (.ref pn), some (.int most), some (.int deeds), some (.ref pl), some (.ref pr), some (.ref pm), some (.int m), some (.int step), some (.int t0), some (.int fork), some (.int (k0 : Nat))]) rfl g11 hl12 (by rw [← hsp]; omega)
            have hTl : T.length ≤ 24 := Nat.le_trans (nodup_len tnd fun z hz => (tmem z).mp hz) hlen
            have hkl := hka.length
            have hre : (rowsE T c l s).length = T.length := by unfold rowsE; rw [List.length_map]
            refine s_dputV (K := K) (p := pr) (k := .inr x) (d := .tuple [.str x, .int (c x), .int m, .str (seen (line.take k0))]) (ev_var (i := 5) rfl) hrk (by omega) ix12.1 (d_tup (da_cons ix12.1 (da_cons (d_ixT (d_getD (k := .inr x) (d := rw4 c l s x) (ev_var (i := 5) rfl) ix12.1 hrk hka (rowsE_get hxT)) d_cI rfl) (da_cons (d_var (i := 7) rfl (.int m)) (da_cons ix12.2 da_nil)))) (show 4 ≤ 100000 by decide)) fun v13 H13 e13 t13 h13 => ?_
            have tx13 : Tx K H13 (upd H13 pr (.dK (putK kvs (.inr x) v13))) := Tx.dk h13 _
            refine fin _ (line.take k0 ++ x :: line.drop (k0 + 1)) T remain _ _ _ _ ((tx12.trans (Tx.ex e13)).trans tx13) ((es12.ex e13).own hrH (by rw [h13]; exact trivial) st) ⟨?_, ⟨_, upd_same, ?_⟩, ?_⟩ (simx.look (by omega)) tnd (fun z => by rw [← hsp]; exact tmem z) (by rw [← hsp]; exact hlen)
            · rw [upd_ne (fun z => nrl z.symm)]
              exact e13.at hl12
            · have := ((hka.tx (Tx.ex e13)).put (k := .inr x) t13).tx tx13
              rw [rowsE_old hxT] at this
              exact this
            · rw [upd_ne nmr]
              exact e13.at real12.hm
          · exact fin _ line T remain c l s _ (tx11.trans (Tx.ex e12)) (es11.ex e12) (real11.ex e12) (sim.up (by omega)) tnd tmem hlen
    · rintro H6 σ' H' e6 ⟨tx, ⟨line, T, remain, c, l, s, number, a, b, d, rfl, real, sim, tnd, tmem, hlen⟩, es⟩
      obtain ⟨kvs, hrk, hka⟩ := real.hr
      have hds := kall_snd hka
      have hm : (rowsE T c l s).map (·.2) = T.map (rw4 c l s) := by
        unfold rowsE
        rw [List.map_map]
        rfl
      rw [hm] at hds
      have hsort : (T.map (rw4 c l s)).mergeSort dle = (T.mergeSort fun x y => dle (rw4 c l s x) (rw4 c l s y)).map (rw4 c l s) := (PySem.W.sort_maps (r := fun x y => dle (rw4 c l s x) (rw4 c l s y)) (s := dle) (rw4 c l s) (fun a _ b _ => rfl)).symm
      have hperm := List.mergeSort_perm T fun x y => dle (rw4 c l s x) (rw4 c l s y)
      have hsrt : (T.mergeSort fun x y => dle (rw4 c l s x) (rw4 c l s y)).Pairwise fun x y => leS x y = true := by
        have := PySem.W.sort_pairwise (le := fun x y => dle (rw4 c l s x) (rw4 c l s y)) ⟨fun a b c => dle_total.trans _ _ _, fun a b => dle_total.total _ _⟩ T
        exact this.imp fun {a b} h => by
          have := dle_cons_str h
          rw [dle_str] at this
          exact this
      refine s_retLD (K := K) (l_lst (da_cons (d_tupleL (ev_var (i := 4) rfl) (SqL.of real.hl) (.strs line)) (da_cons (d_tupleNL (l_sortVals (ev_var (i := 5) rfl) hrk hds sortOk_rows)) da_nil)) (show 2 ≤ 100000 by decide)) fun q vs H7 hq e7 h7 hx7 => ?_
      obtain ⟨v1, r, rfl, _, hx7⟩ := hx7.cons_inv
      obtain ⟨v2, r, rfl, h2, hx7⟩ := hx7.cons_inv
      obtain rfl := hx7.nil_inv
      refine k q ⟨_, c, l, s⟩ v1 v2 H7 (sim.good (fun x => hperm.mem_iff.trans (tmem x)) (hperm.nodup_iff.mpr tnd) hsrt hlen) (es.ex e7) h7 ?_
      rw [hsort] at h2
      exact h2
end
end AS


set_option Elab.async false
set_option linter.all false
set_option maxRecDepth 100000
set_option maxHeartbeats 8000000
/-! The law. -/
namespace AS
open PySem L2 LamX
open PySem.W (Frag)
open RT
variable [TabsOf]
section
variable {K : Frag} {p pc : Addr} {σ : L2.St} {H : Hp} {ta tb te : TE} {wi : TI} {P : Int → Prop} {ds es : List PyData}
theorem s_forZ {g : TG} {tb : TS} {D : Ends} (h : EvIZ p pc wi σ H P) (st : StH p pc H) (Pv : L2.St → Hp → Prop) (h0 : ∀ H1, Es p pc H H1 → Pv σ H1) (hs : ∀ (i : Nat) σ' H', Pv σ' H' → g (.int (i : Nat)) σ' H' fun σ2 H2 => tb { D with nx := Pv, ct := Pv, bk := D.nx } σ2 H2) (hd : ∀ σ' H', Pv σ' H' → D.nx σ' H') : tFor wi g tb D σ H :=
  h H (Es.refl st) _ fun n J H1 e1 hn w => for_it w (fun _ => Pv) (h0 H1 e1) (fun _ _ _ _ _ => trivial) (fun i x σ' H' H'' hi p y => by
    obtain ⟨rfl, rfl⟩ := y
    exact hs i σ' _ p) fun σ' H' p => hd σ' H' p
theorem q_forZ {g : TG} {tb tz : TS} {D : Ends} (h : EvIZ p pc wi σ H P) (st : StH p pc H) (Pv : L2.St → Hp → Prop) (h0 : ∀ H1, Es p pc H H1 → Pv σ H1) (hs : ∀ (i : Nat) σ' H', Pv σ' H' → g (.int (i : Nat)) σ' H' fun σ2 H2 => tb { D with nx := Pv, ct := Pv, bk := tz D } σ2 H2) (hd : ∀ σ' H', Pv σ' H' → tz D σ' H') : tSeq (tFor wi g tb) tz D σ H := s_forZ (D := { D with nx := tz D }) h st Pv h0 hs hd
theorem d_neLL (ha : EvLD K ta σ H ds) (hb : EvLD K tb σ H es) (h1 : SeqAt.shaped (.list ds) = true) (h2 : SeqAt.shaped (.list es) = true) : EvD K (tOp (rNeD K) ta tb) σ H (.bool (!PyData.eqv (.list ds) (.list es))) := fun H1 e1 Q q =>
  ha H1 e1 _ fun a xs H2 ha2 e2 h3 hx => hb H2 (e1.trans e2) _ fun b ys H3 hb3 e3 h4 hy => ⟨.list ds, .list es, .lst (SqL.of (e3.at h3)) (hx.ex e3).dp, .lst (SqL.of h4) hy.dp, h1, h2, q _ H3 (e2.trans e3) (.bl _)⟩
end
theorem shaped_names {xs : List Str} (h : ∀ x ∈ xs, PyData.strOk x = true) : SeqAt.shaped (namesD xs) = true := by
  have h1 := strs_depth xs
  have h2 : PyData.canLay0 (namesD xs) = true := by
    simp only [namesD, PyData.canLay0]
    exact strs_lay h
  unfold SeqAt.shaped
  rw [h2, Bool.true_and, decide_eq_true_eq]
  simp only [namesD, PyData.depth]
  omega
theorem eqv_same {d : PyData} (h : SeqAt.shaped d = true) : PyData.eqv d d = true := PySem.SeqAt.eqv_refl d (SeqAt.canLay_of_shaped h)
theorem leS_total : PySem.W.TotalLe leS := ⟨fun a b c h1 h2 => by
  rw [← dle_str] at *
  exact dle_total.trans _ _ _ h1 h2, fun a b => by
  rw [← dle_str, ← dle_str]
  exact dle_total.total _ _⟩
theorem leS_anti {a b : Str} (h1 : leS a b = true) (h2 : leS b a = true) : a = b := by
  have h1 := of_decide_eq_true h1
  have h2 := of_decide_eq_true h2
  have := List.le_antisymm h1 h2
  cases a with
  | mk a =>
    cases b with
    | mk b =>
      congr 1
      exact Array.toList_inj.mp this
theorem sorted_uniq : ∀ {xs ys : List Str}, xs.Perm ys → (xs.Pairwise fun a b => leS a b = true) → (ys.Pairwise fun a b => leS a b = true) → xs = ys
  | [], ys, h, _, _ => (List.nil_perm.mp h).symm
  | x :: xs, [], h, _, _ => absurd (List.perm_nil.mp h) (by simp)
  | x :: xs, y :: ys, h, h1, h2 => by
    rw [List.pairwise_cons] at h1 h2
    have e : x = y := by
      have hx : x ∈ y :: ys := h.mem_iff.mp (List.mem_cons_self ..)
      have hy : y ∈ x :: xs := h.mem_iff.mpr (List.mem_cons_self ..)
      rcases List.mem_cons.mp hx with q | q
      · exact q
      · rcases List.mem_cons.mp hy with r | r
        · exact r.symm
        · exact leS_anti (h1.1 y r) (h2.1 x q)
    subst e
    rw [sorted_uniq ((List.perm_cons x).mp h) h1.2 h2.2]
theorem row_depth (L : Lore Str) (x : Str) : (L.row x).depth ≤ 2 := by
  show (PyData.tuple [.str x, .int (L.c x), .int (L.l x), .str (L.s x)]).depth ≤ 2
  simp [PyData.depth, PyData.depthAll]
theorem rows_depth (L : Lore Str) : ∀ N : List Str, PyData.depthAll (N.map L.row) ≤ 3
  | [] => by simp [PyData.depthAll]
  | x :: N => by
    have h1 := rows_depth L N
    have h2 := row_depth L x
    simp only [List.map_cons, PyData.depthAll]
    omega
theorem rows_lay {L : Lore Str} : ∀ {N : List Str}, (∀ x ∈ N, PyData.strOk x = true ∧ PyData.strOk (L.s x) = true) → PyData.canLayAll0 (N.map L.row) = true
  | [], _ => rfl
  | x :: N, h => by
    show (PyData.canLay0 (L.row x) && PyData.canLayAll0 (N.map L.row)) = true
    rw [rows_lay fun y hy => h y (List.mem_cons_of_mem _ hy)]
    obtain ⟨h1, h2⟩ := h x (List.mem_cons_self ..)
    simp [Lore.row, PyData.canLay0, PyData.canLayAll0, h1, h2]
theorem shaped_lore {L : Lore Str} (g : L.Good) : SeqAt.shaped L.d = true := by
  have h1 := rows_depth L L.N
  have h2 : PyData.canLay0 L.d = true := by
    simp only [Lore.d, PyData.canLay0]
    exact rows_lay g.ch
  unfold SeqAt.shaped
  rw [h2, Bool.true_and, decide_eq_true_eq]
  simp only [Lore.d, PyData.depth]
  omega
def spLaw (K : Frag) : Sp := fun vs H Q _ => TabsOk H ∧ ∃ (a : Addr) (ns : List Int), vs = [.ref a] ∧ SqL K H a (ns.map V.int) ∧ ∀ H', Q (.bl true) H'
section
variable {P : Program} {w : World} {K : Frag} {mg : Str → Option Value} {base : Heap}
abbrev s_law : Stmt := top n_law
theorem sc_law : FnScope ["script", "state", "turn", "names", "lore", "part", "line", "row", "at"] ["script"] (defScope s_law) := ⟨rfl, rfl, rfl, by decide +kernel, rfl, by decide +kernel, by decide +kernel⟩
theorem ok_law {f : Addr} {fd : FuncData} (F : Fun K "law" "law" s_law f fd) (B : Blt mg) (C__law_state : Cal P w K mg base "_law_state" 1 ["script"] (spState K)) (C__law_names : Cal P w K mg base "_law_names" 2 ["state", "many"] (spNames K)) (C__law_next : Cal P w K mg base "_law_next" 1 ["state", "below"] spNext)
    (C__law_real : Cal P w K mg base "_law_real" 2 ["state", "names", "most", "deeds"] (spReal K)) (C_first_line : Cal P w K mg base "first_line" 9 ["lore"] (spT K relFirst)) (C__law_protests : Cal P w K mg base "_law_protests" 2 ["lore", "line"] (spR K relProtests)) (C_clash_of : Cal P w K mg base "clash_of" 7 ["lore"] (spT K relClashOf))
    (C__law_spread : Cal P w K mg base "_law_spread" 2 ["state", "lore"] (spSpread K)) : FnOk P w K mg base CX0 10 f fd ["script"] (spLaw K) := by
  refine F.ok sc_law (fun vs H Q E h => ?_) (fun cdv A0 outer s0 H vs Q E hr h => ?_)
  · obtain ⟨_, a, ns, rfl, _⟩ := h
    rfl
  · obtain ⟨tb, a, ns, rfl, hs, k⟩ := h
    refine ⟨_, (pss_cons (ps_set (i := 1) sc_law.nd rfl (Or.inl rfl) (xCal C__law_state (hr.mono (by decide)) (pa_cons (pv 0) pa_nil)))
      (pss_cons (ps_for PassesOwn.never rfl (wRange1 B pe_int) (pg_name (i := 2) sc_law.nd rfl (Or.inl rfl))
      (pss_cons (ps_set (i := 3) sc_law.nd rfl (Or.inl rfl) (xCal C__law_names (hr.mono (by decide)) (pa_cons (pv 1) (pa_cons pe_int pa_nil))))
      (pss_cons (ps_set (i := 4) sc_law.nd rfl (Or.inl rfl) (xIxL K (xCal C__law_real (hr.mono (by decide)) (pa_cons (pv 1) (pa_cons (pv 3) (pa_cons (xAdd pe_int (xCal C__law_next (hr.mono (by decide)) (pa_cons (pv 1) (pa_cons pe_int pa_nil)))) (pa_cons (xAdd pe_int (xCal C__law_next (hr.mono (by decide)) (pa_cons (pv 1) (pa_cons pe_int pa_nil)))) pa_nil))))) pe_int))
      (pss_one (ps_for PassesOwn.never rfl (wRange1 B (xAdd pe_int (xCal C__law_next (hr.mono (by decide)) (pa_cons (pv 1) (pa_cons pe_int pa_nil))))) (pg_name (i := 5) sc_law.nd rfl (Or.inl rfl))
      (pss_cons (ps_set (i := 6) sc_law.nd rfl (Or.inl rfl) (xCal C_first_line (hr.mono (by decide)) (pa_cons (pv 4) pa_nil)))
      (pss_cons (ps_if (PW.pt (pw_or (pt_not (xT (xIsi K (n := "tuple") B (pv 6) B.tuple (by decide +kernel)))) (pw_or1 (yNeD K hr (xSorted K hr B (pv 6)) (pe_lc (own := [("row", 7)]) (g := gName 7) (tt := tYes) rfl sc_law.nd (wTup K (pv 4)) (blkOk_by (N := ["script", "state", "turn", "names", "lore", "part", "line", "row", "at"]) (sc := defScope s_law) (by decide +kernel)) (fun _ _ _ _ _ => pg_name (i := 7) sc_law.nd rfl (Or.inl rfl)) (fun _ _ _ _ _ => pts_nil) (fun _ _ _ _ _ => xIxT K (pv 7) pe_int)))))) (pss_one (ps_ret pe_bl))
      pss_nil)
      (pss_cons (ps_if (PW.pt (pw_or (yNeD K hr (xCal C__law_protests (hr.mono (by decide)) (pa_cons (pv 4) (pa_cons (pv 6) pa_nil))) (pe_tup pa_nil)) (pw_or1 (yIsNN (xCal C_clash_of (hr.mono (by decide)) (pa_cons (pv 4) pa_nil)))))) (pss_one (ps_ret pe_bl))
      pss_nil)
      (pss_cons (ps_if (PW.pt (pw_or (yNeD K hr (xCal C_first_line (hr.mono (by decide)) (pa_cons (xCal C__law_spread (hr.mono (by decide)) (pa_cons (pv 1) (pa_cons (pv 4) pa_nil))) pa_nil)) (pv 6)) (pw_or1 (yNeD K hr (xCal C_first_line (hr.mono (by decide)) (pa_cons (pv 4) pa_nil)) (pv 6))))) (pss_one (ps_ret pe_bl))
      pss_nil)
      (pss_one (ps_if (yNeD K hr (pv 4) (pe_tup pa_nil)) (pss_cons (ps_set (i := 8) sc_law.nd rfl (Or.inl rfl) (xCal C__law_next (hr.mono (by decide)) (pa_cons (pv 1) (pa_cons (xLen K B (pv 4)) pa_nil))))
      (pss_one (ps_set (i := 4) sc_law.nd rfl (Or.inl rfl) (xAddT K (xSlT K (pv 4) po_none (po_some (pv 8))) (xSlT K (pv 4) (po_some (xAdd (pv 8) pe_int)) po_none)))))
      pss_nil)))))))))))
      (pss_one (ps_ret pe_bl)))), ?_⟩
    refine ⟨.ref a, rfl, a, ns, rfl, hs, fun p pc H1 e1 st _ _ => ?_⟩
    have tb1 := tb.ex e1
    show tSeq _ _ _ [some (.ref a), some (.ref p), none, none, none, none, none, none, none] H1
    refine q_forZ (p := p) (pc := pc) (z_range (P := (· = 2)) z_c fun i h => by rw [h]; decide) st (fun σ' H' => (∃ x2 x3 x4 x5 x6 x8, σ' = [some (.ref a), some (.ref p), x2, x3, x4, x5, x6, none, x8]) ∧ Es p pc H1 H') (fun H2 e2 => ⟨⟨_, _, _, _, _, _, rfl⟩, e2⟩) ?_ ?_
    · rintro i σ' H2 ⟨⟨x2, x3, x4, x5, x6, x8, rfl⟩, es2⟩
      refine reach_name _ ?_
      -- names
      refine ⟨.ref p, rfl, p, pc, 26, rfl, es2.s, Nat.le_refl _, fun q xs H3 e3 hq hq3 hxl hxn hxx => ?_⟩
      have es3 := es2.trans e3
      have hqp : q ≠ p := fun z => by
        obtain ⟨_, _, _, _, s1, _⟩ := es2.s
        rw [z, s1] at hq
        cases hq
      -- lore
      refine ⟨.ref p, rfl, .ref q, rfl, z_op (p := p) (pc := pc) (P := (· = 6)) (R := fun r => 0 ≤ r ∧ r < 19) (S := fun r => r ≤ 24) (g := fun i j => i + j) z_c (z_nextC (b := 19) (n := 1) rfl (by decide) (by decide)) (fun i j h1 h2 => by omega) H3 (Es.refl es3.s) _ fun most H4 e4 hmost => z_op (p := p) (pc := pc) (P := (· = 20)) (R := fun r => 0 ≤ r ∧ r < 60) (S := fun r => 0 ≤ r ∧ r ≤ 1000) (g := fun i j => i + j) z_c (z_nextC (b := 60) (n := 1) rfl (by decide) (by decide)) (fun i j h1 h2 => by omega) H4 (Es.refl e4.s) _ fun deeds H5 e5 hdeeds => ?_⟩
      refine ⟨p, pc, q, xs, most, deeds, rfl, e5.s, e5.at (e4.at hq3 hqp) hqp, hxn, by omega, fun x hx => ⟨(hxx x hx).1, (hxx x hx).2.2⟩, hmost, hdeeds.1, hdeeds.2, fun r L v1 v2 H6 good e6 h6 d6 => ?_⟩
      refine ⟨r, [v1, v2], 1, v2, rfl, rfl, SqL.of h6, rfl, ?_⟩
      have es6 := es3.trans ((e4.trans e5).trans e6)
      -- the parts
      refine s_forZ (p := p) (pc := pc) (z_range (P := fun r => 0 ≤ r ∧ r ≤ 10) (z_op (P := (· = 1)) (R := fun r => 0 ≤ r ∧ r < 6) (g := fun i j => i + j) z_c (z_nextC (b := 6) (n := 1) rfl (by decide) (by decide)) fun i j h1 h2 => by omega) fun i h => by omega) es6.s (fun σ' H' => (∃ x2 x3 x5 x6 x8 lv L, σ' = [some (.ref a), some (.ref p), x2, x3, some lv, x5, x6, none, x8] ∧ L.Good ∧ Dt K H' lv L.d) ∧ Es p pc H1 H') (fun H7 e7 => ⟨⟨_, _, _, _, _, v2, L, rfl, good, d6.tx (Es.tx es6.s e7)⟩, es6.trans e7⟩) ?_ ?_
      · rintro i2 σ' H7 ⟨⟨x2, x3, x5, x6, x8, lv, L, rfl, good, dl⟩, es7⟩
        refine reach_name _ ?_
        have tb7 : TabsOk H7 := es7.tab tb1
        obtain ⟨pos, qt⟩ := good.q
        have hl1000 : L.N.length ≤ 1000 := Nat.le_trans good.len (by decide)
        have fine := quiet_fine qt good.ok hl1000
        have I := ginv_end qt good.ok
        have lmem := I.line_mem good.ok.hd
        have lok : ∀ x ∈ L.line, PyData.strOk x = true := fun x hx => (good.ch x ((lmem x).mp hx)).1
        have nok : ∀ x ∈ L.N, PyData.strOk x = true := fun x hx => (good.ch x hx).1
        have nil0 : SeqAt.shaped (.tuple []) = true := by decide
        -- line
        refine q_asgD (K := K) (d := namesD L.line) (d_callT (da_cons (d_var (i := 4) rfl dl) da_nil) tb7 ⟨L, hl1000, fine, rfl, rfl⟩) fun nv H8 e8 dn => ?_
        have es8 := es7.ex e8
        have dl8 := dl.ex e8
        have hsort : (L.line.map PyData.str).mergeSort dle = L.N.map .str := by
          rw [sort_strs, sorted_uniq ((List.mergeSort_perm _ _).trans (I.line_perm good.ok)) (PySem.W.sort_pairwise leS_total _) good.srt]
        refine q_if (b := false) (et_is (et_or (et_not (et_DB (K := K) (d_isi (n := "tuple") (b := true) (d_var (i := 6) rfl dn) rfl))) fun _ => et_D (K := K) (d_neLL (ds := L.N.map .str) (es := L.N.map .str) (EvLD.to (l_sortedT (d_var (i := 6) rfl dn) (sortOk_strs _)) hsort) (EvLD.to (l_lcA (F := L.row) (ys := L.N) (fun x => .str x) (i_tup (d_var (i := 4) rfl dl8)).ex (by omega) fun x y H9 e9 hy t => ⟨_, reach_name, rfl, d_ixT (d_var (i := 7) rfl t) d_cI rfl⟩) rfl) (shaped_strs nok) (shaped_strs nok))) (by rw [eqv_same (shaped_strs nok)]; rfl)) (fun hb => nomatch hb) fun _ H9 e9 => ?_
        have es9 := es8.ex e9
        have dl9 := dl8.ex e9
        have dn9 := dn.ex e9
        have tb9 : TabsOk H9 := es9.tab tb1
        refine q_if (b := false) (et_is (et_or (et_D (K := K) (d_neD (d := .tuple []) (e := .tuple []) (EvD.to (d_call (da_cons (d_var (i := 4) rfl dl9) (da_cons (d_var (i := 6) rfl dn9) da_nil)) (spR_pure ⟨L, L.line, hl1000, ?_, good.ok.hd, fun z hz => ⟨(lmem z).mp hz, ?_⟩, rfl, rfl⟩)) (by rw [no_protests qt good.ok])) (d_tup da_nil (by decide)) nil0 nil0)) fun _ => et_D (K := K) (d_isNotNoneC (d := .none) (EvD.to (d_callT (da_cons (d_var (i := 4) rfl dl9) da_nil) tb9 ⟨L, hl1000, fine.gl, rfl, rfl⟩) (by rw [fine.nc]; rfl)))) rfl) (fun hb => nomatch hb) fun _ H10 e10 => ?_
        · have := (I.line_perm good.ok).length_eq
          have := good.len
          omega
        · have hor := I.order good.ok
          have hzN := (lmem z).mp hz
          have hzf : z ∈ L.glue.cont (L.glue.own z) := (I.mem _ z (I.rt z)).mpr ⟨hzN, rfl⟩
          obtain ⟨A, M, R, e, _⟩ := I.look _ (I.rt z) z hzf ((byLook_perm L).mem_iff.mpr hzN)
          have hfull : L.full L.glue (L.glue.own z) = L.glue.own z :: L.glue.cont (L.glue.own z) := if_neg (I.own_out z)
          rw [hor, List.mem_flatMap]
          refine ⟨L.glue.own z, ?_, ?_⟩
          · rcases I.own_dom hzN with h | h
            · rw [h]
              exact List.mem_cons_self ..
            · exact List.mem_cons_of_mem _ ((roots_mem L _ _).mpr h)
          · rw [← hfull, e]
            simp
        have es10 := es9.ex e10
        have dl10 := dl9.ex e10
        have dn10 := dn9.ex e10
        have tb10 : TabsOk H10 := es10.tab tb1
        -- the spread lore
        refine ⟨.ref p, rfl, lv, rfl, p, pc, L, lv, rfl, es10.s, dl10, Nat.le_trans good.len (by decide), fun φ u H11 ris e11 du => ?_⟩
        have es11 := es10.trans e11
        have tb11 : TabsOk H11 := es11.tab tb1
        refine ⟨tb11, [(L.spread φ).d], namesD (L.spread φ).line, .cons du .nil, ⟨L.spread φ, hl1000, quiet_fine (ris.qt qt) (ris.ok good.ok) hl1000, rfl, rfl⟩, fun v12 H12 e12 d12 => ?_⟩
        rw [ris.line qt good.ok hl1000] at d12
        have es12 := es11.ex e12
        have dl12 := (dl10.tx (Es.tx es10.s e11)).ex e12
        have dn12 := (dn10.tx (Es.tx es10.s e11)).ex e12
        refine ⟨nv, rfl, namesD L.line, namesD L.line, d12.dp, dn12.dp, shaped_names lok, shaped_names lok, false, by rw [eqv_same (shaped_names lok)]; rfl, ?_⟩
        show (if false = true then _ else _)
        rw [if_neg Bool.false_ne_true]
        have tb12 : TabsOk H12 := es12.tab tb1
        refine et_D (K := K) (b := false) (EvD.to (d_neD (d_callT (da_cons (d_var (i := 4) rfl dl12) da_nil) tb12 ⟨L, hl1000, fine, rfl, rfl⟩) (d_var (i := 6) rfl dn12) (shaped_names lok) (shaped_names lok)) (by rw [eqv_same (shaped_names lok)]; rfl)) H12 (Ex.refl _) _ fun H13 e13 => ?_
        show (if false = true then _ else _)
        rw [if_neg Bool.false_ne_true]
        have es13 := es12.ex e13
        have dl13 := dl12.ex e13
        refine s_if (et_D (K := K) (d_neD (d_var (i := 4) rfl dl13) (d_tup da_nil (by decide)) (shaped_lore good) nil0)) (fun hb H14 e14 => ?_) (fun hb H14 e14 => ?_)
        · have es14 := es13.ex e14
          have dl14 := dl13.ex e14
          have hne : 0 < L.N.length := by
            cases hN : L.N with
            | nil =>
              unfold Lore.d at hb
              rw [hN] at hb
              simp [PyData.eqv, PyData.eqvAll] at hb
            | cons _ _ => simp
          refine q_asgZ (p := p) (pc := pc) (z_next (n := 1) rfl (z_D (K := K) (i := ((L.N.map L.row).length : Nat)) fun H15 e15 => d_lenT (d_var (i := 4) rfl (dl14.tx (Es.tx es14.s e15)))) fun i h => by rw [h, List.length_map]; omega) es14.s fun at0 H15 e15 ⟨bnd, hbnd, h0, h1⟩ => ?_
          rw [List.length_map] at hbnd
          obtain ⟨k0, rfl⟩ := Int.eq_ofNat_of_zero_le h0
          have hk0 : k0 < L.N.length := by omega
          have es15 := es14.trans e15
          have dl15 := dl14.tx (Es.tx es14.s e15)
          refine s_asgD (K := K) (d := ({ L with N := L.N.eraseIdx k0 } : Lore Str).d) (EvD.to (d_catT (d_slT (ds := L.N.map L.row) (d_var (i := 4) rfl dl15) o_none (o_some (d_var (i := 8) rfl (.int (k0 : Nat))))) (d_slT (ds := L.N.map L.row) (d_var (i := 4) rfl dl15) (o_some (d_opII (g := fun i j => i + j) (d_var (i := 8) rfl (.int (k0 : Nat))) d_cI)) o_none) ?_) ?_) fun v16 H16 e16 d16 => ?_
          · have h1 : (cutD (L.N.map L.row) none (some ((k0 : Nat) : Int))).length ≤ 24 := by
              unfold cutD
              refine Nat.le_trans (List.length_take_le _ _) ?_
              rw [HT.sIx_nat, List.length_map, HT.sIx_none]
              have := good.len
              omega
            have h2 : (cutD (L.N.map L.row) (some (((k0 : Nat) : Int) + 1)) none).length ≤ 24 := by
              unfold cutD
              refine Nat.le_trans (List.length_take_le _ _) ?_
              rw [List.length_map, HT.sIx_none]
              have := good.len
              omega
            omega
          · have h1 : cutD (L.N.map L.row) none (some ((k0 : Nat) : Int)) = (L.N.take k0).map L.row := by
              unfold cutD
              rw [HT.sIx_nat, HT.sIx_none, List.drop_zero, Nat.sub_zero, List.length_map, Nat.min_eq_left (Nat.le_of_lt hk0), List.map_take]
            have h2 : cutD (L.N.map L.row) (some (((k0 : Nat) : Int) + 1)) none = (L.N.drop (k0 + 1)).map L.row := by
              have : (((k0 : Nat) : Int) + 1) = ((k0 + 1 : Nat) : Int) := rfl
              rw [this, cutD_from (by rw [List.length_map]; omega), List.map_drop]
            rw [h1, h2, ← List.map_append, ← List.eraseIdx_eq_take_drop_succ]
            rfl
          · exact ⟨⟨_, _, _, _, _, v16, _, rfl, good.erase k0, d16⟩, es15.ex e16⟩
        · exact ⟨⟨_, _, _, _, _, lv, L, rfl, good, dl13.ex e14⟩, es13.ex e14⟩
      · rintro σ' H7 ⟨⟨x2, x3, x5, x6, x8, lv, L, rfl, good, dl⟩, es7⟩
        exact ⟨⟨_, _, _, _, _, _, rfl⟩, es7⟩
    · rintro σ' H2 ⟨⟨x2, x3, x4, x5, x6, x8, rfl⟩, es2⟩
      exact k H2
end
end AS


set_option Elab.async false
set_option linter.all false
set_option maxRecDepth 100000
set_option maxHeartbeats 8000000
/-! The head of the law: the defs by names, the run of the top, the end. -/
namespace AS
open PySem L2 LamX
open PySem.W (Frag)
open RT
/-! ### the defs, the facts -/
def d_here : He.DefD := ⟨("here", none), "here", "here", defArgs s_here, defBody s_here, defScope s_here, [], []⟩
def d_gone : He.DefD := ⟨("gone", none), "gone", "gone", defArgs s_gone, defBody s_gone, defScope s_gone, [], []⟩
def d_place_of : He.DefD := ⟨("place_of", none), "place_of", "place_of", defArgs s_place_of, defBody s_place_of, defScope s_place_of, [], []⟩
def d_row_of : He.DefD := ⟨("row_of", none), "row_of", "row_of", defArgs s_row_of, defBody s_row_of, defScope s_row_of, [], []⟩
def d_late_clash : He.DefD := ⟨("late_clash", none), "late_clash", "late_clash", defArgs s_late_clash, defBody s_late_clash, defScope s_late_clash, [], []⟩
def d_ring_clash : He.DefD := ⟨("ring_clash", none), "ring_clash", "ring_clash", defArgs s_ring_clash, defBody s_ring_clash, defScope s_ring_clash, [], []⟩
def d_steps_to : He.DefD := ⟨("steps_to", none), "steps_to", "steps_to", defArgs s_steps_to, defBody s_steps_to, defScope s_steps_to, [], []⟩
def d_Gluer_init : He.DefD := ⟨("Gluer", some "__init__"), "__init__", "Gluer.__init__", defArgs s_Gluer_init, defBody s_Gluer_init, defScope s_Gluer_init, [], []⟩
def d_Gluer_put : He.DefD := ⟨("Gluer", some "put"), "put", "Gluer.put", defArgs s_Gluer_put, defBody s_Gluer_put, defScope s_Gluer_put, [], []⟩
def d_Gluer_least_of : He.DefD := ⟨("Gluer", some "least_of"), "least_of", "Gluer.least_of", defArgs s_Gluer_least_of, defBody s_Gluer_least_of, defScope s_Gluer_least_of, [], []⟩
def d_clash_of : He.DefD := ⟨("clash_of", none), "clash_of", "clash_of", defArgs s_clash_of, defBody s_clash_of, defScope s_clash_of, [], []⟩
def d_glued_lore : He.DefD := ⟨("glued_lore", none), "glued_lore", "glued_lore", defArgs s_glued_lore, defBody s_glued_lore, defScope s_glued_lore, [], []⟩
def d_blocks : He.DefD := ⟨("blocks", none), "blocks", "blocks", defArgs s_blocks, defBody s_blocks, defScope s_blocks, [], []⟩
def d_first_line : He.DefD := ⟨("first_line", none), "first_line", "first_line", defArgs s_first_line, defBody s_first_line, defScope s_first_line, [], []⟩
def d_law_state : He.DefD := ⟨("_law_state", none), "_law_state", "_law_state", defArgs s_law_state, defBody s_law_state, defScope s_law_state, [], []⟩
def d_law_next : He.DefD := ⟨("_law_next", none), "_law_next", "_law_next", defArgs s_law_next, defBody s_law_next, defScope s_law_next, [], []⟩
def d_law_names : He.DefD := ⟨("_law_names", none), "_law_names", "_law_names", defArgs s_law_names, defBody s_law_names, defScope s_law_names, [], []⟩
def d_law_real : He.DefD := ⟨("_law_real", none), "_law_real", "_law_real", defArgs s_law_real, defBody s_law_real, defScope s_law_real, [], []⟩
def d_law_since : He.DefD := ⟨("_law_since", none), "_law_since", "_law_since", defArgs s_law_since, defBody s_law_since, defScope s_law_since, [], []⟩
def d_law_laid : He.DefD := ⟨("_law_laid", none), "_law_laid", "_law_laid", defArgs s_law_laid, defBody s_law_laid, defScope s_law_laid, [], []⟩
def d_law_protests : He.DefD := ⟨("_law_protests", none), "_law_protests", "_law_protests", defArgs s_law_protests, defBody s_law_protests, defScope s_law_protests, [], []⟩
def d_law_spread : He.DefD := ⟨("_law_spread", none), "_law_spread", "_law_spread", defArgs s_law_spread, defBody s_law_spread, defScope s_law_spread, [], []⟩
def d_law : He.DefD := ⟨("law", none), "law", "law", defArgs s_law, defBody s_law, defScope s_law, [], []⟩
def hfn : List He.DefD := [d_here, d_gone, d_place_of, d_row_of, d_late_clash, d_ring_clash, d_steps_to, d_Gluer_init, d_Gluer_put, d_Gluer_least_of, d_clash_of, d_glued_lore, d_blocks, d_first_line, d_law_state, d_law_next, d_law_names, d_law_real, d_law_since, d_law_laid, d_law_protests, d_law_spread, d_law]
def hfa : List He.Fa := [.glo "here", .glo "gone", .glo "place_of", .glo "row_of", .glo "late_clash", .glo "ring_clash", .glo "steps_to", .glo "clash_of", .glo "glued_lore", .glo "blocks", .glo "first_line", .glo "_law_state", .glo "_law_next", .glo "_law_names", .glo "_law_real", .glo "_law_since", .glo "_law_laid", .glo "_law_protests", .glo "_law_spread", .glo "law", .glo "Gluer", .free "tuple", .free "list", .free "len", .free "sorted", .free "enumerate", .free "isinstance", .free "str", .free "min", .free "max"] ++ [.free "range", .free "reversed", .free "int", .free "dict", .free "set", .free "zip", .free "all", .free "any", .str "HEAD" "", .str "LATE" "late", .str "RING" "ring", .str "BETWEEN" "between", .cls "Gluer", .noat "Gluer" "held", .noat "Gluer" "came", .noat "Gluer" "clash", .noat "Gluer" "of_lore", .noat "Gluer" "glued", .meth "Gluer" "put", .meth "Gluer" "least_of", .mkr "Gluer"]

def htf : List He.Defn := [("Gluer", some "__init__")]
def hC (K : Frag) : Addr := He.ga K "Gluer"
def hL (K : Frag) : Addr := He.ma K (hC K) "least_of"
def hex (K : Frag) : Bool := decide (PySem.W.specialIn K (.ref (hL K)) "__get__" = some (some (.builtin "function.__get__"))) && (decide (PySem.W.takesIn K (.ref (hL K)) = some false) && PySem.W.fnIn K (hL K))
theorem fun_ofD {K : Frag} {x q : Str} {st : Stmt} {f : Addr} {fd : FuncData} (F : FunD K x q (defArgs st) (defBody st) (defScope st) [] [] f fd) : Fun K x q st f fd := by
  obtain ⟨oc, od, dV, kV, doc, pm, an, cdv, ct, osl, h1, h2, h3, h4, _⟩ := F.ex
  rcases h4 with ⟨_, rfl⟩ | ⟨e, _⟩
  · exact ⟨⟨oc, od, kV, doc, pm, an, cdv, ct, osl, h1, h2, h3⟩, F.kp⟩
  · exact absurd rfl e
theorem funC_ofD {K : Frag} {x q : Str} {st : Stmt} {p : He.Defn} {fd : FuncData} (F : FunD K x q (defArgs st) (defBody st) (defScope st) [] [] (He.fAd K p) fd) : FunC K x q st (He.codeOf K p) (He.fAd K p) fd := by
  obtain ⟨oc, od, dV, kV, doc, pm, an, cdv, ct, osl, h1, h2, h3, h4, _⟩ := F.ex
  rcases h4 with ⟨_, rfl⟩ | ⟨e, _⟩
  · obtain ⟨c, hc⟩ := He.codeIn_ref h3
    have e : He.codeOf K p = c := He.codeOf_eq h2 (by rw [h1]; exact hc)
    rw [e]
    subst hc
    exact ⟨⟨oc, od, kV, doc, pm, an, ct, osl, h1, h2, h3⟩, F.kp⟩
  · exact absurd rfl e
abbrev hT (K : Frag) : Addr × Addr := He.cT K ("Gluer", some "__init__")
abbrev hq : Str := (("Gluer.__init__" : Str) ++ ".<locals>.") ++ "<lambda>"
abbrev hI (K : Frag) : TabsOf := ⟨[((hT K).2, hq)]⟩
section
variable {w : World} {K : Frag} {mg : Str → Option Value} {h : Heap} {f : Addr}
theorem hfacts {l : PySem.W.OpenLaw} (X : K.In h) (G : h.Ns mainGlobals mg) (hfa : mg ("law" : Str) = some (.ref f)) (c : He.SaysX AS.hfa hfn [] htf hex w h K) : LawAtS l w K CX0 10 63 "script" mg f h := by
  have cd := c.t.d
  obtain ⟨f_here, F_here⟩ := cd.def_ 0 (d := d_here) rfl
  have b_here : Binds K f_here ["lore"] [] := FunD.bindsN (ps := ["lore"]) F_here fun _ _ _ _ _ _ us hl => match us, hl with | [_], _ => rfl
  have g_here := He.glo_ok X G (cd.fact 0 (f := .glo "here") rfl)
  obtain ⟨f_gone, F_gone⟩ := cd.def_ 1 (d := d_gone) rfl
  have b_gone : Binds K f_gone ["lore"] [] := FunD.bindsN (ps := ["lore"]) F_gone fun _ _ _ _ _ _ us hl => match us, hl with | [_], _ => rfl
  have g_gone := He.glo_ok X G (cd.fact 1 (f := .glo "gone") rfl)
  obtain ⟨f_place_of, F_place_of⟩ := cd.def_ 2 (d := d_place_of) rfl
  have b_place_of : Binds K f_place_of ["lore", "name"] [] := FunD.bindsN (ps := ["lore", "name"]) F_place_of fun _ _ _ _ _ _ us hl => match us, hl with | [_, _], _ => rfl
  have g_place_of := He.glo_ok X G (cd.fact 2 (f := .glo "place_of") rfl)
  obtain ⟨f_row_of, F_row_of⟩ := cd.def_ 3 (d := d_row_of) rfl
  have b_row_of : Binds K f_row_of ["lore", "name"] [] := FunD.bindsN (ps := ["lore", "name"]) F_row_of fun _ _ _ _ _ _ us hl => match us, hl with | [_, _], _ => rfl
  have g_row_of := He.glo_ok X G (cd.fact 3 (f := .glo "row_of") rfl)
  obtain ⟨f_late_clash, F_late_clash⟩ := cd.def_ 4 (d := d_late_clash) rfl
  have b_late_clash : Binds K f_late_clash ["lore"] [] := FunD.bindsN (ps := ["lore"]) F_late_clash fun _ _ _ _ _ _ us hl => match us, hl with | [_], _ => rfl
  have g_late_clash := He.glo_ok X G (cd.fact 4 (f := .glo "late_clash") rfl)
  obtain ⟨f_ring_clash, F_ring_clash⟩ := cd.def_ 5 (d := d_ring_clash) rfl
  have b_ring_clash : Binds K f_ring_clash ["lore"] [] := FunD.bindsN (ps := ["lore"]) F_ring_clash fun _ _ _ _ _ _ us hl => match us, hl with | [_], _ => rfl
  have g_ring_clash := He.glo_ok X G (cd.fact 5 (f := .glo "ring_clash") rfl)
  obtain ⟨f_steps_to, F_steps_to⟩ := cd.def_ 6 (d := d_steps_to) rfl
  have b_steps_to : Binds K f_steps_to ["lore", "name", "seen"] [] := FunD.bindsN (ps := ["lore", "name", "seen"]) F_steps_to fun _ _ _ _ _ _ us hl => match us, hl with | [_, _, _], _ => rfl
  have g_steps_to := He.glo_ok X G (cd.fact 6 (f := .glo "steps_to") rfl)
  obtain ⟨f_Gluer_init, F_Gluer_init⟩ := cd.def_ 7 (d := d_Gluer_init) rfl
  have b_Gluer_init : Binds K f_Gluer_init ["self", "lore"] [] := FunD.bindsN (ps := ["self", "lore"]) F_Gluer_init fun _ _ _ _ _ _ us hl => match us, hl with | [_, _], _ => rfl
  obtain ⟨f_Gluer_put, F_Gluer_put⟩ := cd.def_ 8 (d := d_Gluer_put) rfl
  have b_Gluer_put : Binds K f_Gluer_put ["self", "row"] [] := FunD.bindsN (ps := ["self", "row"]) F_Gluer_put fun _ _ _ _ _ _ us hl => match us, hl with | [_, _], _ => rfl
  obtain ⟨f_Gluer_least_of, F_Gluer_least_of⟩ := cd.def_ 9 (d := d_Gluer_least_of) rfl
  have b_Gluer_least_of : Binds K f_Gluer_least_of ["self", "root"] [] := FunD.bindsN (ps := ["self", "root"]) F_Gluer_least_of fun _ _ _ _ _ _ us hl => match us, hl with | [_, _], _ => rfl
  obtain ⟨f_clash_of, F_clash_of⟩ := cd.def_ 10 (d := d_clash_of) rfl
  have b_clash_of : Binds K f_clash_of ["lore"] [] := FunD.bindsN (ps := ["lore"]) F_clash_of fun _ _ _ _ _ _ us hl => match us, hl with | [_], _ => rfl
  have g_clash_of := He.glo_ok X G (cd.fact 7 (f := .glo "clash_of") rfl)
  obtain ⟨f_glued_lore, F_glued_lore⟩ := cd.def_ 11 (d := d_glued_lore) rfl
  have b_glued_lore : Binds K f_glued_lore ["lore"] [] := FunD.bindsN (ps := ["lore"]) F_glued_lore fun _ _ _ _ _ _ us hl => match us, hl with | [_], _ => rfl
  have g_glued_lore := He.glo_ok X G (cd.fact 8 (f := .glo "glued_lore") rfl)
  obtain ⟨f_blocks, F_blocks⟩ := cd.def_ 12 (d := d_blocks) rfl
  have b_blocks : Binds K f_blocks ["lore"] [] := FunD.bindsN (ps := ["lore"]) F_blocks fun _ _ _ _ _ _ us hl => match us, hl with | [_], _ => rfl
  have g_blocks := He.glo_ok X G (cd.fact 9 (f := .glo "blocks") rfl)
  obtain ⟨f_first_line, F_first_line⟩ := cd.def_ 13 (d := d_first_line) rfl
  have b_first_line : Binds K f_first_line ["lore"] [] := FunD.bindsN (ps := ["lore"]) F_first_line fun _ _ _ _ _ _ us hl => match us, hl with | [_], _ => rfl
  have g_first_line := He.glo_ok X G (cd.fact 10 (f := .glo "first_line") rfl)
  obtain ⟨f_law_state, F_law_state⟩ := cd.def_ 14 (d := d_law_state) rfl
  have b_law_state : Binds K f_law_state ["script"] [] := FunD.bindsN (ps := ["script"]) F_law_state fun _ _ _ _ _ _ us hl => match us, hl with | [_], _ => rfl
  have g_law_state := He.glo_ok X G (cd.fact 11 (f := .glo "_law_state") rfl)
  obtain ⟨f_law_next, F_law_next⟩ := cd.def_ 15 (d := d_law_next) rfl
  have b_law_next : Binds K f_law_next ["state", "below"] [] := FunD.bindsN (ps := ["state", "below"]) F_law_next fun _ _ _ _ _ _ us hl => match us, hl with | [_, _], _ => rfl
  have g_law_next := He.glo_ok X G (cd.fact 12 (f := .glo "_law_next") rfl)
  obtain ⟨f_law_names, F_law_names⟩ := cd.def_ 16 (d := d_law_names) rfl
  have b_law_names : Binds K f_law_names ["state", "many"] [] := FunD.bindsN (ps := ["state", "many"]) F_law_names fun _ _ _ _ _ _ us hl => match us, hl with | [_, _], _ => rfl
  have g_law_names := He.glo_ok X G (cd.fact 13 (f := .glo "_law_names") rfl)
  obtain ⟨f_law_real, F_law_real⟩ := cd.def_ 17 (d := d_law_real) rfl
  have b_law_real : Binds K f_law_real ["state", "names", "most", "deeds"] [] := FunD.bindsN (ps := ["state", "names", "most", "deeds"]) F_law_real fun _ _ _ _ _ _ us hl => match us, hl with | [_, _, _, _], _ => rfl
  have g_law_real := He.glo_ok X G (cd.fact 14 (f := .glo "_law_real") rfl)
  obtain ⟨f_law_since, F_law_since⟩ := cd.def_ 18 (d := d_law_since) rfl
  have b_law_since : Binds K f_law_since ["lore"] [] := FunD.bindsN (ps := ["lore"]) F_law_since fun _ _ _ _ _ _ us hl => match us, hl with | [_], _ => rfl
  have g_law_since := He.glo_ok X G (cd.fact 15 (f := .glo "_law_since") rfl)
  obtain ⟨f_law_laid, F_law_laid⟩ := cd.def_ 19 (d := d_law_laid) rfl
  have b_law_laid : Binds K f_law_laid ["line", "last_by"] [] := FunD.bindsN (ps := ["line", "last_by"]) F_law_laid fun _ _ _ _ _ _ us hl => match us, hl with | [_, _], _ => rfl
  have g_law_laid := He.glo_ok X G (cd.fact 16 (f := .glo "_law_laid") rfl)
  obtain ⟨f_law_protests, F_law_protests⟩ := cd.def_ 20 (d := d_law_protests) rfl
  have b_law_protests : Binds K f_law_protests ["lore", "line"] [] := FunD.bindsN (ps := ["lore", "line"]) F_law_protests fun _ _ _ _ _ _ us hl => match us, hl with | [_, _], _ => rfl
  have g_law_protests := He.glo_ok X G (cd.fact 17 (f := .glo "_law_protests") rfl)
  obtain ⟨f_law_spread, F_law_spread⟩ := cd.def_ 21 (d := d_law_spread) rfl
  have b_law_spread : Binds K f_law_spread ["state", "lore"] [] := FunD.bindsN (ps := ["state", "lore"]) F_law_spread fun _ _ _ _ _ _ us hl => match us, hl with | [_, _], _ => rfl
  have g_law_spread := He.glo_ok X G (cd.fact 18 (f := .glo "_law_spread") rfl)
  obtain ⟨f_law, F_law⟩ := cd.def_ 22 (d := d_law) rfl
  have b_law : Binds K f_law ["script"] [] := FunD.bindsN (ps := ["script"]) F_law fun _ _ _ _ _ _ us hl => match us, hl with | [_], _ => rfl
  have g_law := He.glo_ok X G (cd.fact 19 (f := .glo "law") rfl)
  have e0 := hfa.symm.trans g_law
  cases e0
  have B : Blt mg := ⟨He.free_ok X G (cd.fact 21 (f := .free "tuple") rfl), He.free_ok X G (cd.fact 22 (f := .free "list") rfl), He.free_ok X G (cd.fact 23 (f := .free "len") rfl), He.free_ok X G (cd.fact 24 (f := .free "sorted") rfl), He.free_ok X G (cd.fact 25 (f := .free "enumerate") rfl), He.free_ok X G (cd.fact 26 (f := .free "isinstance") rfl), He.free_ok X G (cd.fact 27 (f := .free "str") rfl), He.free_ok X G (cd.fact 28 (f := .free "min") rfl), He.free_ok X G (cd.fact 29 (f := .free "max") rfl), He.free_ok X G (cd.fact 30 (f := .free "range") rfl), He.free_ok X G (cd.fact 31 (f := .free "reversed") rfl), He.free_ok X G (cd.fact 32 (f := .free "int") rfl), He.free_ok X G (cd.fact 33 (f := .free "dict") rfl), He.free_ok X G (cd.fact 34 (f := .free "set") rfl), He.free_ok X G (cd.fact 35 (f := .free "zip") rfl), He.free_ok X G (cd.fact 36 (f := .free "all") rfl), He.free_ok X G (cd.fact 37 (f := .free "any") rfl)⟩
  obtain ⟨x1, x23⟩ := He.ba c.more
  obtain ⟨x2, x3⟩ := He.ba x23
  letI I : TabsOf := hI K
  have hc : Cls K (hC K) := He.cls_ok (cd.fact 42 (f := .cls "Gluer") rfl)
  have n1 : NoAttr K (hC K) "held" := He.noat_ok (cd.fact 43 (f := .noat "Gluer" "held") rfl)
  have n2 : NoAttr K (hC K) "came" := He.noat_ok (cd.fact 44 (f := .noat "Gluer" "came") rfl)
  have n3 : NoAttr K (hC K) "clash" := He.noat_ok (cd.fact 45 (f := .noat "Gluer" "clash") rfl)
  have n4 : NoAttr K (hC K) "of_lore" := He.noat_ok (cd.fact 46 (f := .noat "Gluer" "of_lore") rfl)
  have n5 : NoAttr K (hC K) "glued" := He.noat_ok (cd.fact 47 (f := .noat "Gluer" "glued") rfl)
  have gH : GloS mg "HEAD" "" := He.str_ok X G (cd.fact 38 (f := .str "HEAD" "") rfl)
  have gLt : GloS mg "LATE" "late" := He.str_ok X G (cd.fact 39 (f := .str "LATE" "late") rfl)
  have gRi : GloS mg "RING" "ring" := He.str_ok X G (cd.fact 40 (f := .str "RING" "ring") rfl)
  have gBe : GloS mg "BETWEEN" "between" := He.str_ok X G (cd.fact 41 (f := .str "BETWEEN" "between") rfl)
  have gGl : mg "Gluer" = some (.ref (hC K)) := He.glo_ok X G (cd.fact 20 (f := .glo "Gluer") rfl)
  have mPut : Meth K (hC K) "put" (He.ma K (hC K) "put") := He.meth_ok (cd.fact 48 (f := .meth "Gluer" "put") rfl)
  have mLe : Meth K (hC K) "least_of" (hL K) := He.meth_ok (cd.fact 49 (f := .meth "Gluer" "least_of") rfl)
  have mk : Mk K (hC K) (He.ma K (hC K) "__init__") := He.mkr_ok (cd.fact 50 (f := .mkr "Gluer") rfl)
  have bm : BMeth K (hC K) "least_of" (hL K) := ⟨mLe, of_decide_eq_true x1, of_decide_eq_true x2, rfl, x3⟩
  refine ⟨f_law, [hT K], spLaw K, fun p hp => ?_, fun p hp => ?_, fun p hp => ?_, fun s u => ?_, fun H a ns _ _ hH hS => ?_, fun base Xb Gb TB => ?_⟩
  · cases List.mem_singleton.mp hp
    exact c.empty _ (List.mem_singleton.mpr rfl)
  · cases List.mem_singleton.mp hp
    exact c.out _ (List.mem_singleton.mpr rfl)
  · cases List.mem_singleton.mp hp
    exact PySem.W.codeHd_of_K X (c.hd _ (List.mem_singleton.mpr rfl))
  · exact FunD.bindsA (ps := ["script"]) F_law (fun _ _ _ _ _ _ us hl => match us, hl with | [_], _ => rfl) s [u] rfl
  · refine ⟨fun p hp => ?_, a, ns, rfl, hS, fun _ => rfl⟩
    cases List.mem_singleton.mp hp
    exact TabS.nil (hH _ (List.mem_singleton.mpr rfl))
  · have TB1 := TB _ (List.mem_singleton.mpr rfl)
    have C_here : Cal l.prog w K mg base "here" 1 ["lore"] (spR K relHere) := ⟨⟨_, _, ok_here (fun_ofD F_here) B, g_here, F_here.kp, b_here⟩⟩
    have C_gone : Cal l.prog w K mg base "gone" 2 ["lore"] (spR K relGone) := ⟨⟨_, _, ok_gone (fun_ofD F_gone) B gH C_here, g_gone, F_gone.kp, b_gone⟩⟩
    have C_place_of : Cal l.prog w K mg base "place_of" 1 ["lore", "name"] (spR K relPlaceOf) := ⟨⟨_, _, ok_place_of (fun_ofD F_place_of) B, g_place_of, F_place_of.kp, b_place_of⟩⟩
    have C_row_of : Cal l.prog w K mg base "row_of" 2 ["lore", "name"] (spR K relRowOf) := ⟨⟨_, _, ok_row_of (fun_ofD F_row_of) B C_place_of, g_row_of, F_row_of.kp, b_row_of⟩⟩
    have C_late_clash : Cal l.prog w K mg base "late_clash" 1 ["lore"] (spR K relLate) := ⟨⟨_, _, ok_late_clash (fun_ofD F_late_clash) B gLt, g_late_clash, F_late_clash.kp, b_late_clash⟩⟩
    have C_ring_clash : Cal l.prog w K mg base "ring_clash" 2 ["lore"] (spR K relRing) := ⟨⟨_, _, ok_ring_clash (fun_ofD F_ring_clash) B gRi C_here, g_ring_clash, F_ring_clash.kp, b_ring_clash⟩⟩
    have C_steps_to : Cal l.prog w K mg base "steps_to" 3 ["lore", "name", "seen"] (spR K relSteps) := ⟨⟨_, _, ok_steps_to (fun_ofD F_steps_to) B C_row_of, g_steps_to, F_steps_to.kp, b_steps_to⟩⟩
    have CM_put : CalM l.prog w K mg base (hC K) "put" 4 ["self", "row"] (spPut K (hC K)) := ⟨⟨_, _, ok_Gluer_put (fun_ofD F_Gluer_put) B hc n1 n2 n3 n4 n5 gBe C_steps_to, mPut, b_Gluer_put⟩⟩
    have C_Gluer : CalC l.prog w K mg base "Gluer" (hC K) 5 ["self", "lore"] (spInit K (hC K)) := ⟨⟨_, _, ok_Gluer_init (funC_ofD (p := ("Gluer", some "__init__")) F_Gluer_init) B TB1 (List.mem_singleton.mpr rfl) (fun p hp _ => by cases List.mem_singleton.mp hp; rfl) hc n1 n2 n3 n4 n5 gH C_gone C_late_clash C_ring_clash CM_put, gGl, mk, b_Gluer_init⟩⟩
    have CB : BM l.prog w K mg base (hC K) "least_of" 1 (hL K) (spLeast K (hC K)) := ⟨bm, by
      have z := (ok_Gluer_least_of (P := l.prog) (w := w) (base := base) (fun_ofD F_Gluer_least_of) B hc n1 n2).raw (ds := []) (dvs := []) b_Gluer_least_of .nil
      exact z.imp fun vs H Q E q => by rw [List.append_nil]; exact q⟩
    have C_clash_of : Cal l.prog w K mg base "clash_of" 7 ["lore"] (spT K relClashOf) := ⟨⟨_, _, ok_clash_of (fun_ofD F_clash_of) B hc n3 C_Gluer, g_clash_of, F_clash_of.kp, b_clash_of⟩⟩
    have C_glued_lore : Cal l.prog w K mg base "glued_lore" 7 ["lore"] (spGlued K (hC K)) := ⟨⟨_, _, ok_glued_lore (fun_ofD F_glued_lore) B hc n3 C_Gluer, g_glued_lore, F_glued_lore.kp, b_glued_lore⟩⟩
    have C_blocks : Cal l.prog w K mg base "blocks" 8 ["lore"] (spT K relBlocks) := ⟨⟨_, _, ok_blocks (fun_ofD F_blocks) B hc n1 gH C_glued_lore C_gone CB, g_blocks, F_blocks.kp, b_blocks⟩⟩
    have C_first_line : Cal l.prog w K mg base "first_line" 9 ["lore"] (spT K relFirst) := ⟨⟨_, _, ok_first_line (fun_ofD F_first_line) B C_blocks, g_first_line, F_first_line.kp, b_first_line⟩⟩
    have C_law_state : Cal l.prog w K mg base "_law_state" 1 ["script"] (spState K) := ⟨⟨_, _, ok_law_state (fun_ofD F_law_state) B, g_law_state, F_law_state.kp, b_law_state⟩⟩
    have C_law_next : Cal l.prog w K mg base "_law_next" 1 ["state", "below"] spNext := ⟨⟨_, _, ok_law_next (fun_ofD F_law_next) B, g_law_next, F_law_next.kp, b_law_next⟩⟩
    have C_law_names : Cal l.prog w K mg base "_law_names" 2 ["state", "many"] (spNames K) := ⟨⟨_, _, ok_law_names (fun_ofD F_law_names) B C_law_next, g_law_names, F_law_names.kp, b_law_names⟩⟩
    have C_law_real : Cal l.prog w K mg base "_law_real" 2 ["state", "names", "most", "deeds"] (spReal K) := ⟨⟨_, _, ok_law_real (fun_ofD F_law_real) B C_law_next, g_law_real, F_law_real.kp, b_law_real⟩⟩
    have C_law_since : Cal l.prog w K mg base "_law_since" 1 ["lore"] (spSince K) := ⟨⟨_, _, ok_law_since (fun_ofD F_law_since) B, g_law_since, F_law_since.kp, b_law_since⟩⟩
    have C_law_laid : Cal l.prog w K mg base "_law_laid" 1 ["line", "last_by"] (spLaid K) := ⟨⟨_, _, ok_law_laid (fun_ofD F_law_laid) B, g_law_laid, F_law_laid.kp, b_law_laid⟩⟩
    have C_law_protests : Cal l.prog w K mg base "_law_protests" 2 ["lore", "line"] (spR K relProtests) := ⟨⟨_, _, ok_law_protests (fun_ofD F_law_protests) B C_law_since C_law_laid, g_law_protests, F_law_protests.kp, b_law_protests⟩⟩
    have C_law_spread : Cal l.prog w K mg base "_law_spread" 2 ["state", "lore"] (spSpread K) := ⟨⟨_, _, ok_law_spread (fun_ofD F_law_spread) B C_law_next, g_law_spread, F_law_spread.kp, b_law_spread⟩⟩
    exact ok_law (fun_ofD F_law) B C_law_state C_law_names C_law_next C_law_real C_first_line C_law_protests C_clash_of C_law_spread
end
abbrev hR : PySem.W.OpenRow := PySem.W.OpenLaw.row PySem.Challenge.rw_aheadseen_k43_first_line_quiet
abbrev hk : PySem.W.Hook := He.hookX 6 hfa hfn [] htf hex
def hob (s : PySem.W.SharedT) : He.AlX := He.obsX 6 hfa hfn [] htf hex (HandSHeadRun.getT s)
theorem hob_eq (s : PySem.W.SharedT) : hob s = hk.obs s.abs := He.obsX_eq (HandSHeadRun.getT_eq s)
def hloose : List Str := ["HEAD", "__name__", "AheadError", "NotHere", "NoLine", "here", "gone", "place_of", "row_of", "LATE", "RING", "BETWEEN", "late_clash", "ring_clash", "steps_to", "Gluer", "clash_of", "glued_lore", "blocks", "first_line", "_law_state", "_law_next", "_law_names", "_law_real", "_law_since", "_law_laid", "_law_protests", "_law_spread"]
end AS


set_option Elab.async false
set_option linter.all false
set_option maxRecDepth 100000
set_option maxHeartbeats 0
/-! The run of the top, the law. -/
namespace AS
open PySem L2 LamX
theorem hrun (w : World) : HandSHeadRun.RunEq hR (PySem.W.view hR.prog [31]) hk hob 2400 hloose w := by
  intro os
  kernel_rfl
end AS
open PySem PySem.W PySem.Calls PyProof.Rows
theorem PySem.Challenge.cw_aheadseen_k43_first_line_quiet_holds : PySem.Challenge.rw_aheadseen_k43_first_line_quiet.Holds := by
  w_on; o_law
  refine HandSHeadRun.head_any (r := AS.hR) (q := view AS.hR.prog [31]) (H := AS.hk) (ob := AS.hob) (M := 2400) (loose := AS.hloose) (d := HandSHeadRun.topDef AS.hR.prog 31) (kwd := []) AS.hob_eq
    (by kernel_rfl) (fun s => by kernel_rfl) AS.hrun (by kernel_rfl) (by kernel_rfl) (by kernel_rfl) (by rfl) (by first | assumption | decide +kernel) (by decide +kernel) ⟨rfl, rfl, rfl, rfl, rfl, by decide +kernel⟩ ?hw ?hc
  case hw => w_witness2
  case hc =>
    refine LamX.walk_ofTsE (l := PySem.Challenge.rw_aheadseen_k43_first_line_quiet) (n := 63) (k := 10) (x := "script") (CX := fun _ => L2.CX0) rfl (by decide) (by kernel_rfl) ⟨rfl, by decide, by decide⟩ ?F (fun _ _ _ _ _ z => z)
    intro w mg fa h Y G hmg0
    obtain ⟨K, KX, c⟩ := Y
    have hmg : mg ("law" : PySem.Str) = some (.ref fa) := by
      have e : (HandSHeadRun.topDef AS.hR.prog 31).name = ("law" : PySem.Str) := by kernel_rfl
      rw [← e]
      exact hmg0
    exact ⟨K, KX, AS.hfacts KX G hmg c⟩

