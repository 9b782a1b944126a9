import PyProof.Rows.All
import Wide.All
import OpenK.AllK
import Wide.FinOn
import KE.KStateDown
import Lean
import HandS.ForMost
import HandS.Evl
import HandS.Flow
import HandS.IsInst
import HandS.Wide
import HandS.TupMul
import HandS.TupAny
import HandS.More
import HandS.Conv
import HandS.Words
import HandS.WordsExc
import HandS.Defaults
import HandS.Ends
import HandS.Head0
import HandS.Head1
import HandS.Head2
import HandS.HeadEnd
import HandS.HeadHook1
import HandS.HeadHook2
import HandS.Strs
import KE.GoesEnum
import KE.GoesZip
import KE.GoesMore
import HandS.HeadHook3
import HandS.Text
import KE.KSortTupG
import HandS.Sort
import HandS.Lambda
import HandS.Nested
import KE.KLam
import HandS.EndTab
import PySem.Challenge.RW_growbox_k08_lists_anywhere
set_option Elab.async false
set_option linter.all false
set_option maxRecDepth 100000
set_option maxHeartbeats 0

/-! DLay1: the value layer, its core: frozen heap, environments, judgements. -/
namespace DL
open PySem PySem.Spec PyProof.Rows L2 Evl

abbrev D := PyData

/-! ### data: as the library's, and dicts whose keys are ints and texts -/
def keyD : Key → D
  | .inl i => .int i
  | .inr x => .str x
mutual
inductive Dp (K : PySem.W.Frag) (H : Hp) : V → PyData → Prop
  | non : Dp K H .non .none
  | bl (b : Bool) : Dp K H (.bl b) (.bool b)
  | int (i : Int) : Dp K H (.int i) (.int i)
  | str (x : Str) : Dp K H (.str x) (.str x)
  | lst {a : Addr} {xs : List V} {ds : List PyData} : SqL K H a xs → DpAll K H xs ds → Dp K H (.ref a) (.list ds)
  | tup {a : Addr} {xs : List V} {ds : List PyData} : SqT K H a xs → DpAll K H xs ds → Dp K H (.ref a) (.tuple ds)
  | dic {a : Addr} {kvs : List (Key × V)} {ds : List (PyData × PyData)} : Rd H a (.dK kvs) → DpKv K H kvs ds → Dp K H (.ref a) (.dict ds)
inductive DpAll (K : PySem.W.Frag) (H : Hp) : List V → List PyData → Prop
  | nil : DpAll K H [] []
  | cons {v : V} {vs : List V} {d : PyData} {ds : List PyData} : Dp K H v d → DpAll K H vs ds → DpAll K H (v :: vs) (d :: ds)
inductive DpKv (K : PySem.W.Frag) (H : Hp) : List (Key × V) → List (PyData × PyData) → Prop
  | nil : DpKv K H [] []
  | cons {k : Key} {v : V} {kvs : List (Key × V)} {d : PyData} {ds : List (PyData × PyData)} : Dp K H v d → DpKv K H kvs ds → DpKv K H ((k, v) :: kvs) ((keyD k, d) :: ds)
end
mutual
theorem dp_l2 {K : PySem.W.Frag} {H : Hp} : ∀ {v : V} {d : D}, Dp K H v d → d.canLay0 = true → L2.Dp K H v d
  | _, _, .non, _ => .non
  | _, _, .bl b, _ => .bl b
  | _, _, .int i, _ => .int i
  | _, _, .str s, _ => .str s
  | _, _, .lst h hs, q => .lst h (dpa_l2 hs (by simpa [PyData.canLay0] using q))
  | _, _, .tup h hs, q => .tup h (dpa_l2 hs (by simpa [PyData.canLay0] using q))
  | _, _, .dic h hs, q => by simp [PyData.canLay0] at q
theorem dpa_l2 {K : PySem.W.Frag} {H : Hp} : ∀ {vs : List V} {ds : List D}, DpAll K H vs ds → PyData.canLayAll0 ds = true → L2.DpAll K H vs ds
  | _, _, .nil, _ => .nil
  | _, _, .cons h hs, q => by
    simp only [PyData.canLayAll0, Bool.and_eq_true] at q
    exact .cons (dp_l2 h q.1) (dpa_l2 hs q.2)
end
theorem dp_sh {K : PySem.W.Frag} {H : Hp} {v : V} {d : D} (h : Dp K H v d) (q : SeqAt.shaped d = true) : L2.Dp K H v d := dp_l2 h (SeqAt.canLay_of_shaped q)
/-! ### data under growing heaps -/
theorem rd_mono {F F' : Hp} (x : Ex F F') {a : Addr} {u : HO} (h : Rd F a u) : Rd F' a u := ex_rd x h
mutual
theorem dp_mono {K : PySem.W.Frag} {F F' : Hp} (x : Ex F F') : ∀ {v : V} {d : D}, Dp K F v d → Dp K F' v d
  | _, _, .non => .non
  | _, _, .bl b => .bl b
  | _, _, .int i => .int i
  | _, _, .str s => .str s
  | _, _, .lst h hs => .lst (ex_l x h) (dpa_mono x hs)
  | _, _, .tup h hs => .tup (ex_t x h) (dpa_mono x hs)
  | _, _, .dic h hs => .dic (rd_mono x h) (dpk_mono x hs)
theorem dpa_mono {K : PySem.W.Frag} {F F' : Hp} (x : Ex F F') : ∀ {vs : List V} {ds : List D}, DpAll K F vs ds → DpAll K F' vs ds
  | _, _, .nil => .nil
  | _, _, .cons h hs => .cons (dp_mono x h) (dpa_mono x hs)
theorem dpk_mono {K : PySem.W.Frag} {F F' : Hp} (x : Ex F F') : ∀ {vs : List (Key × V)} {ds : List (D × D)}, DpKv K F vs ds → DpKv K F' vs ds
  | _, _, .nil => .nil
  | _, _, .cons h hs => .cons (dp_mono x h) (dpk_mono x hs)
end

section
variable {K : PySem.W.Frag} {F : Hp}
theorem dpa_len : ∀ {vs : List V} {ds : List D}, DpAll K F vs ds → vs.length = ds.length
  | _, _, .nil => rfl
  | _, _, .cons _ hs => congrArg (· + 1) (dpa_len hs)
theorem dpa_get : ∀ {vs : List V} {ds : List D} {i : Nat} {d : D}, DpAll K F vs ds → ds[i]? = some d → ∃ v, vs[i]? = some v ∧ Dp K F v d
  | _, _, _, _, .nil, e => by simp at e
  | _, _, 0, _, .cons h _, e => by simp at e; subst e; exact ⟨_, rfl, h⟩
  | _, _, i + 1, d, .cons _ hs, e => by
    obtain ⟨v, e1, h⟩ := dpa_get (i := i) (d := d) hs (by simpa using e)
    exact ⟨v, by simpa using e1, h⟩
theorem dpa_getV : ∀ {vs : List V} {ds : List D} {i : Nat} {v : V}, DpAll K F vs ds → vs[i]? = some v → ∃ d, ds[i]? = some d ∧ Dp K F v d
  | _, _, _, _, .nil, e => by simp at e
  | _, _, 0, _, .cons h _, e => by simp at e; subst e; exact ⟨_, rfl, h⟩
  | _, _, i + 1, v, .cons _ hs, e => by
    obtain ⟨d, e1, h⟩ := dpa_getV (i := i) (v := v) hs (by simpa using e)
    exact ⟨d, by simpa using e1, h⟩
theorem dpa_append : ∀ {vs us : List V} {ds es : List D}, DpAll K F vs ds → DpAll K F us es → DpAll K F (vs ++ us) (ds ++ es)
  | _, _, _, _, .nil, s => s
  | _, _, _, _, .cons h hs, s => .cons h (dpa_append hs s)
theorem dpa_take : ∀ {vs : List V} {ds : List D} (n : Nat), DpAll K F vs ds → DpAll K F (vs.take n) (ds.take n)
  | _, _, 0, _ => .nil
  | _, _, _ + 1, .nil => .nil
  | _, _, n + 1, .cons h hs => .cons h (dpa_take n hs)
theorem dpa_drop : ∀ {vs : List V} {ds : List D} (n : Nat), DpAll K F vs ds → DpAll K F (vs.drop n) (ds.drop n)
  | _, _, 0, h => h
  | _, _, _ + 1, .nil => .nil
  | _, _, n + 1, .cons _ hs => dpa_drop n hs
theorem dpa_set {v : V} {d : D} (h : Dp K F v d) : ∀ {vs : List V} {ds : List D} (n : Nat), DpAll K F vs ds → DpAll K F (vs.set n v) (ds.set n d)
  | _, _, _, .nil => .nil
  | _, _, 0, .cons _ hs => .cons h hs
  | _, _, n + 1, .cons q hs => .cons q (dpa_set h n hs)
theorem dpa_ints : ∀ (ns : List Int), DpAll K F (ns.map V.int) (ns.map PyData.int)
  | [] => .nil
  | n :: ns => .cons (.int n) (dpa_ints ns)
theorem dp_int {v : V} {i : Int} (h : Dp K F v (.int i)) : v = .int i := by cases h; rfl
theorem dp_bl {v : V} {b : Bool} (h : Dp K F v (.bool b)) : v = .bl b := by cases h; rfl
theorem dp_str {v : V} {x : Str} (h : Dp K F v (.str x)) : v = .str x := by cases h; rfl
theorem dp_non {v : V} (h : Dp K F v .none) : v = .non := by cases h; rfl
theorem dp_tup {v : V} {ds : List D} (h : Dp K F v (.tuple ds)) : ∃ a vs, v = .ref a ∧ SqT K F a vs ∧ DpAll K F vs ds := by
  cases h with
  | tup h hs => exact ⟨_, _, rfl, h, hs⟩
theorem dp_lst {v : V} {ds : List D} (h : Dp K F v (.list ds)) : ∃ a vs, v = .ref a ∧ SqL K F a vs ∧ DpAll K F vs ds := by
  cases h with
  | lst h hs => exact ⟨_, _, rfl, h, hs⟩
theorem dpa_map_int : ∀ {vs : List V} {ns : List Int}, DpAll K F vs (ns.map PyData.int) → vs = ns.map V.int
  | _, [], .nil => rfl
  | _, _ :: _, .cons h hs => by rw [dp_int h, dpa_map_int hs]; rfl
theorem dpa_map_bl : ∀ {vs : List V} {ns : List Bool}, DpAll K F vs (ns.map PyData.bool) → vs = ns.map V.bl
  | _, [], .nil => rfl
  | _, _ :: _, .cons h hs => by rw [dp_bl h, dpa_map_bl hs]; rfl
theorem dpa_map_str : ∀ {vs : List V} {ns : List Str}, DpAll K F vs (ns.map PyData.str) → vs = ns.map V.str
  | _, [], .nil => rfl
  | _, _ :: _, .cons h hs => by rw [dp_str h, dpa_map_str hs]; rfl
end

/-! ### how heaps grow: H tracked, F frozen within H; tables of code objects may grow -/
/-- the name of the lambda that a law makes: none, unless its walk says so -/
def lamQ : Str := "_law_spoilt.<locals>.<lambda>"
def NTb (o : HO) : Prop := ∀ ps, o ≠ .tbl ps
def NT (F : Hp) : Prop := ∀ a ps, F a ≠ some (.tbl ps)
structure ExT (H H' : Hp) : Prop where
  keep : ∀ a o, H a = some o → NTb o → H' a = some o
  dom : ∀ a, H' a = none → H a = none
  tab : ∀ P, LamX.TabS H P lamQ → LamX.TabS H' P lamQ
theorem ExT.of {H H' : Hp} (x : Ex H H') : ExT H H' := ⟨fun a o e _ => x a o e, fun a e => fresh_back x e, fun P t => t.ext x⟩
theorem ExT.refl (H : Hp) : ExT H H := .of (Ex.refl H)
theorem ExT.trans {H H1 H2 : Hp} (a : ExT H H1) (b : ExT H1 H2) : ExT H H2 := ⟨fun x o e n => b.keep x o (a.keep x o e n) n, fun x e => a.dom x (b.dom x e), fun P t => b.tab P (a.tab P t)⟩
theorem ext_rd {H H' : Hp} {a : Addr} {u : HO} (x : ExT H H') (h : Rd H a u) (n : NTb u := by intro _ z; cases z) : Rd H' a u := by
  rcases h with h | ⟨o, h⟩
  · exact .inl (x.keep _ _ h n)
  · exact .inr ⟨o, x.keep _ _ h (by intro _ z; cases z)⟩
theorem ext_l {K : PySem.W.Frag} {H H' : Hp} {a : Addr} {xs : List V} (x : ExT H H') (h : SqL K H a xs) : SqL K H' a xs := by
  rcases h with h | h
  · exact .inl (ext_rd x h)
  · exact .inr h
theorem ext_t {K : PySem.W.Frag} {H H' : Hp} {a : Addr} {xs : List V} (x : ExT H H') (h : SqT K H a xs) : SqT K H' a xs := by
  rcases h with h | h
  · exact .inl (ext_rd x h)
  · exact .inr h
structure Gr (F H F' H' : Hp) : Prop where
  hx : ExT H H'
  ff : Ex F F'
  fh : Ex F' H'
  nf : ∀ a o, H a = some o → F' a = F a
  nt : NT F → NT F'
theorem Gr.hh {F H F' H' : Hp} (g : Gr F H F' H') (a : Addr) (o : HO) (h : H a = some o) (n : NTb o := by intro _ z; cases z) : H' a = some o := g.hx.keep a o h n
theorem Gr.fb {F H F' H' : Hp} (g : Gr F H F' H') {a : Addr} (h : H' a = none) : H a = none := g.hx.dom a h
theorem Gr.refl {F H : Hp} (h : Ex F H) : Gr F H F H := ⟨ExT.refl _, Ex.refl _, h, fun _ _ _ => rfl, id⟩
theorem Gr.trans {F H F1 H1 F2 H2 : Hp} (a : Gr F H F1 H1) (b : Gr F1 H1 F2 H2) : Gr F H F2 H2 :=
  ⟨a.hx.trans b.hx, a.ff.trans b.ff, b.fh, fun x o e => by
    cases h : H1 x with
    | none => rw [a.hx.dom x h] at e; cases e
    | some o' => exact (b.nf x o' h).trans (a.nf x o e), fun n => b.nt (a.nt n)⟩
theorem nt_upd {F : Hp} {p : Addr} {o : HO} (n : NT F) (h : NTb o) : NT (upd F p o) := fun a ps e => by
  by_cases q : a = p
  · subst q; rw [upd_same] at e; cases e; exact h _ rfl
  · rw [upd_ne q] at e; exact n a ps e
/-- a new object, frozen at once -/
theorem Gr.new {F H : Hp} (h : Ex F H) {p : Addr} {o : HO} (hp : H p = none) (n : NTb o := by intro _ z; cases z) : Gr F H (upd F p o) (upd H p o) :=
  ⟨.of (Ex.new hp), Ex.new (fresh_back h hp), fun a u e => by
    by_cases q : a = p
    · subst q; rw [upd_same] at e ⊢; exact e
    · rw [upd_ne q] at e ⊢; exact h a u e, fun a u e => by rw [upd_ne (ne_of_none e hp)], fun m => nt_upd m n⟩
/-- a new object, not frozen -/
theorem Gr.loose {F H : Hp} (h : Ex F H) {p : Addr} {o : HO} (hp : H p = none) : Gr F H F (upd H p o) :=
  ⟨.of (Ex.new hp), Ex.refl _, fun a u e => by rw [upd_ne (ne_of_none (h a u e) hp)]; exact h a u e, fun _ _ _ => rfl, id⟩
/-- freezing what was new at H -/
theorem Gr.frz {F H F' H' : Hp} (g : Gr F H F' H') {p : Addr} {o : HO} (hp : H p = none) (hf : F' p = none) (ho : H' p = some o) (n : NTb o := by intro _ z; cases z) : Gr F H (upd F' p o) H' :=
  ⟨g.hx, g.ff.trans (Ex.new hf), fun a u e => by
    by_cases q : a = p
    · subst q; rw [upd_same] at e; rw [← e]; exact ho
    · rw [upd_ne q] at e; exact g.fh a u e, fun a u e => by rw [upd_ne (ne_of_none e hp)]; exact g.nf a u e, fun m => nt_upd (g.nt m) n⟩
/-- objects that the tables do not speak of -/
def NEx (o : HO) : Prop := NTb o ∧ ∀ φ, o ≠ .ext φ
theorem tabS_upd {H : Hp} {p P : Addr} {q : Str} {u o : HO} (t : LamX.TabS H P q) (hu : H p = some u) (nu : NEx u) : LamX.TabS (upd H p o) P q := by
  obtain ⟨ps, h1, h2, h3⟩ := t
  have nP : P ≠ p := fun z => by rw [z, hu] at h1; cases h1; exact nu.1 _ rfl
  refine ⟨ps, by rw [upd_ne nP]; exact h1, h2, fun pos cv hc => ?_⟩
  obtain ⟨c, e1, e2⟩ := h3 pos cv hc
  have nc : c ≠ p := fun z => by rw [z, hu] at e2; cases e2; exact nu.2 _ rfl
  exact ⟨c, e1, by rw [upd_ne nc]; exact e2⟩
/-- an unfrozen object changes -/
theorem Gr.mut {F H F' H' : Hp} (g : Gr F H F' H') {p : Addr} {o u : HO} (hp : H p = none) (hf : F' p = none) (hu : H' p = some u) (nu : NEx u := by exact ⟨(by intro _ z; cases z), (by intro _ z; cases z)⟩) : Gr F H F' (upd H' p o) :=
  ⟨⟨fun a v e n => by rw [upd_ne (ne_of_none e hp)]; exact g.hx.keep a v e n, fun a e => g.hx.dom a (by
      by_cases q : a = p
      · subst q; rw [upd_same] at e; cases e
      · rw [upd_ne q] at e; exact e), fun P t => tabS_upd (g.hx.tab P t) hu nu⟩, g.ff, fun a u e => by rw [upd_ne (ne_of_none e hf)]; exact g.fh a u e, g.nf, g.nt⟩

/-- all but the tables -/
def ntH (H : Hp) : Hp := fun a => match H a with
  | some (.tbl _) => none
  | o => o
theorem ntH_some {H : Hp} {a : Addr} {o : HO} (h : H a = some o) (n : NTb o := by intro _ z; cases z) : ntH H a = some o := by
  unfold ntH
  rw [h]
  cases o <;> first | rfl | exact absurd rfl (n _)
theorem ntH_ex (H : Hp) : Ex (ntH H) H := fun a o e => by
  unfold ntH at e
  split at e
  · cases e
  · exact e
theorem ntH_nt (H : Hp) : NT (ntH H) := fun a ps e => by
  unfold ntH at e
  split at e
  · cases e
  · rename_i h
    exact h _ e
theorem ntH_sql {K : PySem.W.Frag} {H : Hp} {a : Addr} {xs : List V} (h : SqL K H a xs) : SqL K (ntH H) a xs := by
  rcases h with (h | ⟨o, h⟩) | h
  · exact .inl (.inl (ntH_some h))
  · exact .inl (.inr ⟨o, ntH_some h⟩)
  · exact .inr h
/-! ### functions of one captured number -/
/-- the words of a lambda that captures one name -/
structure LamT where
  params : Arguments
  body : Expr
  scope : Scope
  q : Str
  y : Str
/-- the object at a is o -/
def PinO (a : Addr) (o : Obj) : HO := .ext fun h => h.get? a = some o
def lamObj (L : LamT) (c c0 : Addr) (pm ctv : Value) : Obj := PySem.W.kla_obj "<lambda>" L.q L.params L.body L.scope [(L.y, c0)] pm c ctv
/-- at f such a lambda stands, with the number n in its cell -/
def LamAt (F H : Hp) (f : Addr) (L : LamT) (n : Int) : Prop := ∃ (c c0 : Addr) (pm ctv : Value) (oc : Obj) (t : Tok), H f = some (PinO f (lamObj L c c0 pm ctv)) ∧ H c = some (LamX.CodeO c L.q) ∧ H c0 = some (PinO c0 oc) ∧ oc.data = .cell (some (.int n t)) ∧ F c0 = none
theorem LamAt.grow {F H F' H' : Hp} {f : Addr} {L : LamT} {n : Int} (g : Gr F H F' H') (h : LamAt F H f L n) : LamAt F' H' f L n := by
  obtain ⟨c, c0, pm, ctv, oc, t, h1, h2, h3, h4, h5⟩ := h
  exact ⟨c, c0, pm, ctv, oc, t, g.hx.keep _ _ h1 (by intro _ z; cases z), g.hx.keep _ _ h2 (by intro _ z; cases z), g.hx.keep _ _ h3 (by intro _ z; cases z), h4, (g.nf _ _ h3).trans h5⟩
theorem LamAt.upd {F H : Hp} {f a : Addr} {L : LamT} {n : Int} {u o : HO} (h : LamAt F H f L n) (hu : H a = some u) (nu : ∀ φ, u ≠ .ext φ := by intro _ z; cases z) : LamAt F (L2.upd H a o) f L n := by
  obtain ⟨c, c0, pm, ctv, oc, t, h1, h2, h3, h4, h5⟩ := h
  have ne : ∀ {b φ}, H b = some (.ext φ) → b ≠ a := fun {b φ} e z => by rw [z, hu] at e; cases e; exact nu _ rfl
  exact ⟨c, c0, pm, ctv, oc, t, by rw [upd_ne (ne h1)]; exact h1, by rw [upd_ne (ne h2)]; exact h2, by rw [upd_ne (ne h3)]; exact h3, h4, h5⟩
theorem LamAt.updF {F H : Hp} {f a : Addr} {L : LamT} {n : Int} {u o : HO} (h : LamAt F H f L n) (hu : H a = some u) (nu : ∀ φ, u ≠ .ext φ := by intro _ z; cases z) : LamAt (L2.upd F a o) H f L n := by
  obtain ⟨c, c0, pm, ctv, oc, t, h1, h2, h3, h4, h5⟩ := h
  have ne : c0 ≠ a := fun z => by rw [z, hu] at h3; cases h3; exact nu _ rfl
  exact ⟨c, c0, pm, ctv, oc, t, h1, h2, h3, h4, by rw [upd_ne ne]; exact h5⟩

/-- tables that are known of K's functions: none, unless a law's walk says so -/
def tabR (K : PySem.W.Frag) (P : Addr) : Prop := ∃ (o : Obj) (fd : FuncData) (c : Addr) (oc : Obj) (vs : Array Value), K.lookup (He.ga K "_law_spoilt") = some o ∧ o.data = .func fd ∧ fd.code = .ref c ∧ K.lookup c = some oc ∧ oc.data = .fields vs ∧ vs[11]? = some (.ref P)
def TbK (K : PySem.W.Frag) (H : Hp) : Prop := ∀ P, tabR K P → LamX.TabS H P lamQ
theorem TbK.grow {K : PySem.W.Frag} {H H' : Hp} (t : TbK K H) (x : ExT H H') : TbK K H' := fun P r => x.tab P (t P r)
theorem TbK.upd {K : PySem.W.Frag} {H : Hp} {a : Addr} {u o : HO} (t : TbK K H) (hu : H a = some u) (nu : NEx u := by exact ⟨(by intro _ z; cases z), (by intro _ z; cases z)⟩) : TbK K (L2.upd H a o) := fun P r => tabS_upd (t P r) hu nu
/-! ### environments -/
/-- a slot: frozen data, or a list of its own -/
inductive Sl where
  | sh (d : D)
  | ow (xs : List D)
  | od (ds : List (D × D))
  | fn (L : LamT) (n : Int)
abbrev DEnv := List (Option Sl)

structure Ok (K : PySem.W.Frag) (B F0 F : Hp) (σ : L2.St) (H : Hp) (e : DEnv) : Prop where
  gr : Gr F0 B F H
  sh : ∀ (i : Nat) d, e[i]? = some (some (.sh d)) → ∃ v, σ[i]? = some (some v) ∧ Dp K F v d
  ow : ∀ (i : Nat) xs, e[i]? = some (some (.ow xs)) → ∃ a vs, σ[i]? = some (some (.ref a)) ∧ H a = some (.lst vs) ∧ B a = none ∧ F a = none ∧ DpAll K F vs xs
  inj : ∀ (i j : Nat) xs ys a, e[i]? = some (some (.ow xs)) → e[j]? = some (some (.ow ys)) → σ[i]? = some (some (.ref a)) → σ[j]? = some (some (.ref a)) → i = j
  od : ∀ (i : Nat) ds, e[i]? = some (some (.od ds)) → ∃ a kvs, σ[i]? = some (some (.ref a)) ∧ H a = some (.dK kvs) ∧ B a = none ∧ F a = none ∧ DpKv K F kvs ds
  ijd : ∀ (i j : Nat) ds es a, e[i]? = some (some (.od ds)) → e[j]? = some (some (.od es)) → σ[i]? = some (some (.ref a)) → σ[j]? = some (some (.ref a)) → i = j
  fn : ∀ (i : Nat) L n, e[i]? = some (some (.fn L n)) → ∃ f, σ[i]? = some (some (.ref f)) ∧ LamAt F H f L n
  nt : NT F
  tb : TbK K H
  len : e.length = σ.length

section
variable {K : PySem.W.Frag} {B F0 F F' : Hp} {σ : L2.St} {H H' : Hp} {e : DEnv}
theorem Ok.fh (o : Ok K B F0 F σ H e) : Ex F H := o.gr.fh
theorem Ok.grow (o : Ok K B F0 F σ H e) (g : Gr F H F' H') : Ok K B F0 F' σ H' e where
  gr := o.gr.trans g
  sh := fun i d h => let ⟨v, h1, h2⟩ := o.sh i d h; ⟨v, h1, dp_mono g.ff h2⟩
  ow := fun i xs h => let ⟨a, vs, h1, h2, h3, h4, h5⟩ := o.ow i xs h; ⟨a, vs, h1, g.hh _ _ h2, h3, (g.nf _ _ h2).trans h4, dpa_mono g.ff h5⟩
  inj := o.inj
  od := fun i xs h => let ⟨a, vs, h1, h2, h3, h4, h5⟩ := o.od i xs h; ⟨a, vs, h1, g.hh _ _ h2, h3, (g.nf _ _ h2).trans h4, dpk_mono g.ff h5⟩
  ijd := o.ijd
  fn := fun i L n h => let ⟨f, h1, h2⟩ := o.fn i L n h; ⟨f, h1, h2.grow g⟩
  nt := g.nt o.nt
  tb := o.tb.grow g.hx
  len := o.len
/-- a slot gets frozen data -/
theorem Ok.set {i : Nat} {v : V} {d : D} (o : Ok K B F0 F σ H e) (h : Dp K F v d) : Ok K B F0 F (σ.set i (some v)) H (e.set i (some (.sh d))) where
  gr := o.gr
  sh := fun j d' q => by
    by_cases hj : i = j
    · subst hj
      have hl : i < e.length := by
        have := (List.getElem?_eq_some_iff.mp q).1
        simpa using this
      rw [List.getElem?_set_self hl] at q
      cases q
      exact ⟨v, by rw [List.getElem?_set_self (by rw [← o.len]; exact hl)], h⟩
    · rw [List.getElem?_set_ne hj] at q ⊢
      exact o.sh j d' q
  ow := fun j xs q => by
    by_cases hj : i = j
    · subst hj
      have hl : i < e.length := by
        have := (List.getElem?_eq_some_iff.mp q).1
        simpa using this
      rw [List.getElem?_set_self hl] at q
      cases q
    · rw [List.getElem?_set_ne hj] at q ⊢
      exact o.ow j xs q
  inj := fun j k xs ys a q1 q2 q3 q4 => by
    have n1 : i ≠ j := by
      rintro rfl
      have hl : i < e.length := by simpa using (List.getElem?_eq_some_iff.mp q1).1
      rw [List.getElem?_set_self hl] at q1; cases q1
    have n2 : i ≠ k := by
      rintro rfl
      have hl : i < e.length := by simpa using (List.getElem?_eq_some_iff.mp q2).1
      rw [List.getElem?_set_self hl] at q2; cases q2
    rw [List.getElem?_set_ne n1] at q1 q3
    rw [List.getElem?_set_ne n2] at q2 q4
    exact o.inj j k xs ys a q1 q2 q3 q4
  od := fun j xs q => by
    have n1 : i ≠ j := by
      rintro rfl
      have hl : i < e.length := by simpa using (List.getElem?_eq_some_iff.mp q).1
      rw [List.getElem?_set_self hl] at q; cases q
    rw [List.getElem?_set_ne n1] at q ⊢
    exact o.od j xs q
  ijd := fun j k xs ys a q1 q2 q3 q4 => by
    have n1 : i ≠ j := by
      rintro rfl
      have hl : i < e.length := by simpa using (List.getElem?_eq_some_iff.mp q1).1
      rw [List.getElem?_set_self hl] at q1; cases q1
    have n2 : i ≠ k := by
      rintro rfl
      have hl : i < e.length := by simpa using (List.getElem?_eq_some_iff.mp q2).1
      rw [List.getElem?_set_self hl] at q2; cases q2
    rw [List.getElem?_set_ne n1] at q1 q3
    rw [List.getElem?_set_ne n2] at q2 q4
    exact o.ijd j k xs ys a q1 q2 q3 q4
  fn := fun j L n q => by
    have n1 : i ≠ j := by
      rintro rfl
      have hl : i < e.length := by simpa using (List.getElem?_eq_some_iff.mp q).1
      rw [List.getElem?_set_self hl] at q; cases q
    rw [List.getElem?_set_ne n1] at q ⊢
    exact o.fn j L n q
  nt := o.nt
  tb := o.tb
  len := by simpa using o.len
/-- a slot is forgotten -/
theorem Ok.del {i : Nat} {w : Option V} (o : Ok K B F0 F σ H e) : Ok K B F0 F (σ.set i w) H (e.set i none) where
  gr := o.gr
  sh := fun j d' q => by
    have n1 : i ≠ j := by
      rintro rfl
      have hl : i < e.length := by simpa using (List.getElem?_eq_some_iff.mp q).1
      rw [List.getElem?_set_self hl] at q; cases q
    rw [List.getElem?_set_ne n1] at q ⊢
    exact o.sh j d' q
  ow := fun j xs q => by
    have n1 : i ≠ j := by
      rintro rfl
      have hl : i < e.length := by simpa using (List.getElem?_eq_some_iff.mp q).1
      rw [List.getElem?_set_self hl] at q; cases q
    rw [List.getElem?_set_ne n1] at q ⊢
    exact o.ow j xs q
  inj := fun j k xs ys a q1 q2 q3 q4 => by
    have n1 : i ≠ j := by
      rintro rfl
      have hl : i < e.length := by simpa using (List.getElem?_eq_some_iff.mp q1).1
      rw [List.getElem?_set_self hl] at q1; cases q1
    have n2 : i ≠ k := by
      rintro rfl
      have hl : i < e.length := by simpa using (List.getElem?_eq_some_iff.mp q2).1
      rw [List.getElem?_set_self hl] at q2; cases q2
    rw [List.getElem?_set_ne n1] at q1 q3
    rw [List.getElem?_set_ne n2] at q2 q4
    exact o.inj j k xs ys a q1 q2 q3 q4
  od := fun j xs q => by
    have n1 : i ≠ j := by
      rintro rfl
      have hl : i < e.length := by simpa using (List.getElem?_eq_some_iff.mp q).1
      rw [List.getElem?_set_self hl] at q; cases q
    rw [List.getElem?_set_ne n1] at q ⊢
    exact o.od j xs q
  ijd := fun j k xs ys a q1 q2 q3 q4 => by
    have n1 : i ≠ j := by
      rintro rfl
      have hl : i < e.length := by simpa using (List.getElem?_eq_some_iff.mp q1).1
      rw [List.getElem?_set_self hl] at q1; cases q1
    have n2 : i ≠ k := by
      rintro rfl
      have hl : i < e.length := by simpa using (List.getElem?_eq_some_iff.mp q2).1
      rw [List.getElem?_set_self hl] at q2; cases q2
    rw [List.getElem?_set_ne n1] at q1 q3
    rw [List.getElem?_set_ne n2] at q2 q4
    exact o.ijd j k xs ys a q1 q2 q3 q4
  fn := fun j L n q => by
    have n1 : i ≠ j := by
      rintro rfl
      have hl : i < e.length := by simpa using (List.getElem?_eq_some_iff.mp q).1
      rw [List.getElem?_set_self hl] at q; cases q
    rw [List.getElem?_set_ne n1] at q ⊢
    exact o.fn j L n q
  nt := o.nt
  tb := o.tb
  len := by simpa using o.len
/-- a slot gets a list of its own, new -/
theorem Ok.setOw {i : Nat} {a : Addr} {vs : List V} {xs : List D} (o : Ok K B F0 F σ H e) (h0 : ∀ (j : Nat) ys b, e[j]? = some (some (.ow ys)) → σ[j]? = some (some (.ref b)) → j ≠ i → b ≠ a)
    (h1 : H a = some (.lst vs)) (h2 : B a = none) (h3 : F a = none) (h : DpAll K F vs xs) : Ok K B F0 F (σ.set i (some (.ref a))) H (e.set i (some (.ow xs))) where
  gr := o.gr
  sh := fun j d' q => by
    have n1 : i ≠ j := by
      rintro rfl
      have hl : i < e.length := by simpa using (List.getElem?_eq_some_iff.mp q).1
      rw [List.getElem?_set_self hl] at q; cases q
    rw [List.getElem?_set_ne n1] at q ⊢
    exact o.sh j d' q
  ow := fun j ys q => by
    by_cases hj : i = j
    · subst hj
      have hl : i < e.length := by simpa using (List.getElem?_eq_some_iff.mp q).1
      rw [List.getElem?_set_self hl] at q
      cases q
      exact ⟨a, vs, by rw [List.getElem?_set_self (by rw [← o.len]; exact hl)], h1, h2, h3, h⟩
    · rw [List.getElem?_set_ne hj] at q ⊢
      exact o.ow j ys q
  inj := fun j k xs' ys' b q1 q2 q3 q4 => by
    by_cases hj : i = j <;> by_cases hk : i = k
    · exact hj.symm.trans hk
    · subst hj
      have hl : i < σ.length := by
        have := (List.getElem?_eq_some_iff.mp q3).1
        simpa using this
      rw [List.getElem?_set_self hl] at q3
      cases q3
      rw [List.getElem?_set_ne hk] at q2 q4
      exact absurd rfl (h0 k _ _ q2 q4 (Ne.symm hk))
    · subst hk
      have hl : i < σ.length := by
        have := (List.getElem?_eq_some_iff.mp q4).1
        simpa using this
      rw [List.getElem?_set_self hl] at q4
      cases q4
      rw [List.getElem?_set_ne hj] at q1 q3
      exact absurd rfl (h0 j _ _ q1 q3 (Ne.symm hj))
    · rw [List.getElem?_set_ne hj] at q1 q3
      rw [List.getElem?_set_ne hk] at q2 q4
      exact o.inj j k _ _ b q1 q2 q3 q4
  od := fun j xs q => by
    have n1 : i ≠ j := by
      rintro rfl
      have hl : i < e.length := by simpa using (List.getElem?_eq_some_iff.mp q).1
      rw [List.getElem?_set_self hl] at q; cases q
    rw [List.getElem?_set_ne n1] at q ⊢
    exact o.od j xs q
  ijd := fun j k xs ys a q1 q2 q3 q4 => by
    have n1 : i ≠ j := by
      rintro rfl
      have hl : i < e.length := by simpa using (List.getElem?_eq_some_iff.mp q1).1
      rw [List.getElem?_set_self hl] at q1; cases q1
    have n2 : i ≠ k := by
      rintro rfl
      have hl : i < e.length := by simpa using (List.getElem?_eq_some_iff.mp q2).1
      rw [List.getElem?_set_self hl] at q2; cases q2
    rw [List.getElem?_set_ne n1] at q1 q3
    rw [List.getElem?_set_ne n2] at q2 q4
    exact o.ijd j k xs ys a q1 q2 q3 q4
  fn := fun j L n q => by
    have n1 : i ≠ j := by
      rintro rfl
      have hl : i < e.length := by simpa using (List.getElem?_eq_some_iff.mp q).1
      rw [List.getElem?_set_self hl] at q; cases q
    rw [List.getElem?_set_ne n1] at q ⊢
    exact o.fn j L n q
  nt := o.nt
  tb := o.tb
  len := by simpa using o.len
/-- the list of slot i changes in place -/
theorem Ok.mutOw {i : Nat} {a : Addr} {vs' : List V} {xs xs' : List D} (o : Ok K B F0 F σ H e) (he : e[i]? = some (some (.ow xs))) (hs : σ[i]? = some (some (.ref a))) (h : DpAll K F vs' xs') :
    Ok K B F0 F σ (upd H a (.lst vs')) (e.set i (some (.ow xs'))) := by
  obtain ⟨a', vs, s1, h1, h2, h3, h4⟩ := o.ow i xs he
  have ea : a = a' := by rw [hs] at s1; cases s1; rfl
  subst ea
  have hl : i < e.length := (List.getElem?_eq_some_iff.mp he).1
  have od1 : ∀ {j : Nat} {ys : List (D × D)}, (e.set i (some (.ow xs')))[j]? = some (some (.od ys)) → e[j]? = some (some (.od ys)) := fun {j ys} q => by
    have n1 : i ≠ j := by
      rintro rfl
      rw [List.getElem?_set_self hl] at q; cases q
    rw [List.getElem?_set_ne n1] at q
    exact q
  have fn1 : ∀ {j : Nat} {L : LamT} {n : Int}, (e.set i (some (.ow xs')))[j]? = some (some (.fn L n)) → e[j]? = some (some (.fn L n)) := fun {j L n} q => by
    have n1 : i ≠ j := by
      rintro rfl
      rw [List.getElem?_set_self hl] at q; cases q
    rw [List.getElem?_set_ne n1] at q
    exact q
  refine ⟨o.gr.mut h2 h3 h1, fun j d q => ?_, fun j ys q => ?_, fun j k ys zs b q1 q2 q3 q4 => ?_, fun j ys q => ?_, fun j k ys zs b q1 q2 q3 q4 => o.ijd j k ys zs b (od1 q1) (od1 q2) q3 q4, fun j L n q => (let ⟨f, g1, g2⟩ := o.fn j L n (fn1 q); ⟨f, g1, g2.upd h1⟩), o.nt, o.tb.upd h1, by simpa using o.len⟩
  · have n1 : i ≠ j := by
      rintro rfl
      rw [List.getElem?_set_self hl] at q; cases q
    rw [List.getElem?_set_ne n1] at q
    exact o.sh j d q
  · by_cases hj : i = j
    · subst hj
      rw [List.getElem?_set_self hl] at q
      cases q
      exact ⟨a, vs', hs, upd_same, h2, h3, h⟩
    · rw [List.getElem?_set_ne hj] at q
      obtain ⟨b, us, t1, t2, t3, t4, t5⟩ := o.ow j ys q
      refine ⟨b, us, t1, ?_, t3, t4, t5⟩
      rw [upd_ne]
      · exact t2
      · rintro rfl
        exact hj (o.inj i j _ _ b he q hs t1)
  · have f1 : ∀ {j : Nat} {ys : List D}, (e.set i (some (.ow xs')))[j]? = some (some (.ow ys)) → ∃ ys', e[j]? = some (some (.ow ys')) := fun {j ys} q => by
      by_cases hj : i = j
      · subst hj; exact ⟨_, he⟩
      · rw [List.getElem?_set_ne hj] at q; exact ⟨_, q⟩
    obtain ⟨y1, p1⟩ := f1 q1
    obtain ⟨y2, p2⟩ := f1 q2
    exact o.inj j k _ _ b p1 p2 q3 q4
  · obtain ⟨b, us, t1, t2, t3, t4, t5⟩ := o.od j ys (od1 q)
    refine ⟨b, us, t1, ?_, t3, t4, t5⟩
    rw [upd_ne]
    · exact t2
    · rintro rfl
      rw [h1] at t2
      cases t2
/-- the list of slot i is frozen -/
theorem Ok.freeze {i : Nat} {xs : List D} (o : Ok K B F0 F σ H e) (he : e[i]? = some (some (.ow xs))) : ∃ F', Ex F F' ∧ Ok K B F0 F' σ H (e.set i (some (.sh (.list xs)))) := by
  obtain ⟨a, vs, s1, h1, h2, h3, h4⟩ := o.ow i xs he
  have hl : i < e.length := (List.getElem?_eq_some_iff.mp he).1
  have x : Ex F (upd F a (.lst vs)) := Ex.new h3
  have od1 : ∀ {j : Nat} {ys : List (D × D)}, (e.set i (some (.sh (.list xs))))[j]? = some (some (.od ys)) → e[j]? = some (some (.od ys)) := fun {j ys} q => by
    have n1 : i ≠ j := by
      rintro rfl
      rw [List.getElem?_set_self hl] at q; cases q
    rw [List.getElem?_set_ne n1] at q
    exact q
  have fn1 : ∀ {j : Nat} {L : LamT} {n : Int}, (e.set i (some (.sh (.list xs))))[j]? = some (some (.fn L n)) → e[j]? = some (some (.fn L n)) := fun {j L n} q => by
    have n1 : i ≠ j := by
      rintro rfl
      rw [List.getElem?_set_self hl] at q; cases q
    rw [List.getElem?_set_ne n1] at q
    exact q
  refine ⟨upd F a (.lst vs), x, o.gr.frz h2 h3 h1, fun j d q => ?_, fun j ys q => ?_, fun j k ys zs b q1 q2 q3 q4 => ?_, fun j ys q => ?_, fun j k ys zs b q1 q2 q3 q4 => o.ijd j k ys zs b (od1 q1) (od1 q2) q3 q4, fun j L n q => (let ⟨f, g1, g2⟩ := o.fn j L n (fn1 q); ⟨f, g1, g2.updF h1⟩), nt_upd o.nt (by intro _ z; cases z), o.tb, by simpa using o.len⟩
  · by_cases hj : i = j
    · subst hj
      rw [List.getElem?_set_self hl] at q
      cases q
      exact ⟨_, s1, .lst (SqL.of upd_same) (dpa_mono x h4)⟩
    · rw [List.getElem?_set_ne hj] at q
      obtain ⟨v, t1, t2⟩ := o.sh j d q
      exact ⟨v, t1, dp_mono x t2⟩
  · have n1 : i ≠ j := by
      rintro rfl
      rw [List.getElem?_set_self hl] at q; cases q
    rw [List.getElem?_set_ne n1] at q
    obtain ⟨b, us, t1, t2, t3, t4, t5⟩ := o.ow j ys q
    refine ⟨b, us, t1, t2, t3, ?_, dpa_mono x t5⟩
    rw [upd_ne]
    · exact t4
    · rintro rfl
      exact n1 (o.inj i j _ _ b he q s1 t1)
  · have n1 : ∀ {j : Nat} {ys : List D}, (e.set i (some (.sh (.list xs))))[j]? = some (some (.ow ys)) → i ≠ j := fun {j ys} q => by
      rintro rfl
      rw [List.getElem?_set_self hl] at q; cases q
    have m1 := n1 q1
    have m2 := n1 q2
    rw [List.getElem?_set_ne m1] at q1
    rw [List.getElem?_set_ne m2] at q2
    exact o.inj j k _ _ b q1 q2 q3 q4
  · obtain ⟨b, us, t1, t2, t3, t4, t5⟩ := o.od j ys (od1 q)
    refine ⟨b, us, t1, t2, t3, ?_, dpk_mono x t5⟩
    rw [upd_ne]
    · exact t4
    · rintro rfl
      rw [h1] at t2
      cases t2
/-- a slot gets a dict of its own, new -/
theorem Ok.setOd {i : Nat} {a : Addr} {kvs : List (Key × V)} {ds : List (D × D)} (o : Ok K B F0 F σ H e) (h0 : ∀ (j : Nat) ys b, e[j]? = some (some (.od ys)) → σ[j]? = some (some (.ref b)) → j ≠ i → b ≠ a)
    (h1 : H a = some (.dK kvs)) (h2 : B a = none) (h3 : F a = none) (h : DpKv K F kvs ds) : Ok K B F0 F (σ.set i (some (.ref a))) H (e.set i (some (.od ds))) where
  gr := o.gr
  sh := fun j d' q => by
    have n1 : i ≠ j := by
      rintro rfl
      have hl : i < e.length := by simpa using (List.getElem?_eq_some_iff.mp q).1
      rw [List.getElem?_set_self hl] at q; cases q
    rw [List.getElem?_set_ne n1] at q ⊢
    exact o.sh j d' q
  ow := fun j ys q => by
    have n1 : i ≠ j := by
      rintro rfl
      have hl : i < e.length := by simpa using (List.getElem?_eq_some_iff.mp q).1
      rw [List.getElem?_set_self hl] at q; cases q
    rw [List.getElem?_set_ne n1] at q ⊢
    exact o.ow j ys q
  inj := fun j k xs ys b q1 q2 q3 q4 => by
    have n1 : i ≠ j := by
      rintro rfl
      have hl : i < e.length := by simpa using (List.getElem?_eq_some_iff.mp q1).1
      rw [List.getElem?_set_self hl] at q1; cases q1
    have n2 : i ≠ k := by
      rintro rfl
      have hl : i < e.length := by simpa using (List.getElem?_eq_some_iff.mp q2).1
      rw [List.getElem?_set_self hl] at q2; cases q2
    rw [List.getElem?_set_ne n1] at q1 q3
    rw [List.getElem?_set_ne n2] at q2 q4
    exact o.inj j k xs ys b q1 q2 q3 q4
  od := fun j ys q => by
    by_cases hj : i = j
    · subst hj
      have hl : i < e.length := by simpa using (List.getElem?_eq_some_iff.mp q).1
      rw [List.getElem?_set_self hl] at q
      cases q
      exact ⟨a, kvs, by rw [List.getElem?_set_self (by rw [← o.len]; exact hl)], h1, h2, h3, h⟩
    · rw [List.getElem?_set_ne hj] at q ⊢
      exact o.od j ys q
  ijd := fun j k xs' ys' b q1 q2 q3 q4 => by
    by_cases hj : i = j <;> by_cases hk : i = k
    · exact hj.symm.trans hk
    · subst hj
      have hl : i < σ.length := by
        have := (List.getElem?_eq_some_iff.mp q3).1
        simpa using this
      rw [List.getElem?_set_self hl] at q3
      cases q3
      rw [List.getElem?_set_ne hk] at q2 q4
      exact absurd rfl (h0 k _ _ q2 q4 (Ne.symm hk))
    · subst hk
      have hl : i < σ.length := by
        have := (List.getElem?_eq_some_iff.mp q4).1
        simpa using this
      rw [List.getElem?_set_self hl] at q4
      cases q4
      rw [List.getElem?_set_ne hj] at q1 q3
      exact absurd rfl (h0 j _ _ q1 q3 (Ne.symm hj))
    · rw [List.getElem?_set_ne hj] at q1 q3
      rw [List.getElem?_set_ne hk] at q2 q4
      exact o.ijd j k _ _ b q1 q2 q3 q4
  fn := fun j L n q => by
    have n1 : i ≠ j := by
      rintro rfl
      have hl : i < e.length := by simpa using (List.getElem?_eq_some_iff.mp q).1
      rw [List.getElem?_set_self hl] at q; cases q
    rw [List.getElem?_set_ne n1] at q ⊢
    exact o.fn j L n q
  nt := o.nt
  tb := o.tb
  len := by simpa using o.len
/-- the dict of slot i changes in place -/
theorem Ok.mutOd {i : Nat} {a : Addr} {vs' : List (Key × V)} {xs xs' : List (D × D)} (o : Ok K B F0 F σ H e) (he : e[i]? = some (some (.od xs))) (hs : σ[i]? = some (some (.ref a))) (h : DpKv K F vs' xs') :
    Ok K B F0 F σ (upd H a (.dK vs')) (e.set i (some (.od xs'))) := by
  obtain ⟨a', vs, s1, h1, h2, h3, h4⟩ := o.od i xs he
  have ea : a = a' := by rw [hs] at s1; cases s1; rfl
  subst ea
  have hl : i < e.length := (List.getElem?_eq_some_iff.mp he).1
  have ow1 : ∀ {j : Nat} {ys : List D}, (e.set i (some (.od xs')))[j]? = some (some (.ow ys)) → e[j]? = some (some (.ow ys)) := fun {j ys} q => by
    have n1 : i ≠ j := by
      rintro rfl
      rw [List.getElem?_set_self hl] at q; cases q
    rw [List.getElem?_set_ne n1] at q
    exact q
  have od1 : ∀ {j : Nat} {ys : List (D × D)}, (e.set i (some (.od xs')))[j]? = some (some (.od ys)) → ∃ zs, e[j]? = some (some (.od zs)) := fun {j ys} q => by
    by_cases hj : i = j
    · subst hj; exact ⟨_, he⟩
    · rw [List.getElem?_set_ne hj] at q; exact ⟨_, q⟩
  have fn1 : ∀ {j : Nat} {L : LamT} {n : Int}, (e.set i (some (.od xs')))[j]? = some (some (.fn L n)) → e[j]? = some (some (.fn L n)) := fun {j L n} q => by
    have n1 : i ≠ j := by
      rintro rfl
      rw [List.getElem?_set_self hl] at q; cases q
    rw [List.getElem?_set_ne n1] at q
    exact q
  refine ⟨o.gr.mut h2 h3 h1, fun j d q => ?_, fun j ys q => ?_, fun j k ys zs b q1 q2 q3 q4 => o.inj j k ys zs b (ow1 q1) (ow1 q2) q3 q4, fun j ys q => ?_, fun j k ys zs b q1 q2 q3 q4 => ?_, fun j L n q => (let ⟨f, g1, g2⟩ := o.fn j L n (fn1 q); ⟨f, g1, g2.upd h1⟩), o.nt, o.tb.upd h1, by simpa using o.len⟩
  · have n1 : i ≠ j := by
      rintro rfl
      rw [List.getElem?_set_self hl] at q; cases q
    rw [List.getElem?_set_ne n1] at q
    exact o.sh j d q
  · obtain ⟨b, us, t1, t2, t3, t4, t5⟩ := o.ow j ys (ow1 q)
    refine ⟨b, us, t1, ?_, t3, t4, t5⟩
    rw [upd_ne]
    · exact t2
    · rintro rfl
      rw [h1] at t2
      cases t2
  · by_cases hj : i = j
    · subst hj
      rw [List.getElem?_set_self hl] at q
      cases q
      exact ⟨a, vs', hs, upd_same, h2, h3, h⟩
    · rw [List.getElem?_set_ne hj] at q
      obtain ⟨b, us, t1, t2, t3, t4, t5⟩ := o.od j ys q
      refine ⟨b, us, t1, ?_, t3, t4, t5⟩
      rw [upd_ne]
      · exact t2
      · rintro rfl
        exact hj (o.ijd i j _ _ b he q hs t1)
  · obtain ⟨y1, p1⟩ := od1 q1
    obtain ⟨y2, p2⟩ := od1 q2
    exact o.ijd j k _ _ b p1 p2 q3 q4
/-- the dict of slot i is frozen -/
theorem Ok.freezeD {i : Nat} {xs : List (D × D)} (o : Ok K B F0 F σ H e) (he : e[i]? = some (some (.od xs))) : ∃ F', Ex F F' ∧ Ok K B F0 F' σ H (e.set i (some (.sh (.dict xs)))) := by
  obtain ⟨a, vs, s1, h1, h2, h3, h4⟩ := o.od i xs he
  have hl : i < e.length := (List.getElem?_eq_some_iff.mp he).1
  have x : Ex F (upd F a (.dK vs)) := Ex.new h3
  have ow1 : ∀ {j : Nat} {ys : List D}, (e.set i (some (.sh (.dict xs))))[j]? = some (some (.ow ys)) → e[j]? = some (some (.ow ys)) := fun {j ys} q => by
    have n1 : i ≠ j := by
      rintro rfl
      rw [List.getElem?_set_self hl] at q; cases q
    rw [List.getElem?_set_ne n1] at q
    exact q
  have od1 : ∀ {j : Nat} {ys : List (D × D)}, (e.set i (some (.sh (.dict xs))))[j]? = some (some (.od ys)) → i ≠ j ∧ e[j]? = some (some (.od ys)) := fun {j ys} q => by
    have n1 : i ≠ j := by
      rintro rfl
      rw [List.getElem?_set_self hl] at q; cases q
    rw [List.getElem?_set_ne n1] at q
    exact ⟨n1, q⟩
  have fn1 : ∀ {j : Nat} {L : LamT} {n : Int}, (e.set i (some (.sh (.dict xs))))[j]? = some (some (.fn L n)) → e[j]? = some (some (.fn L n)) := fun {j L n} q => by
    have n1 : i ≠ j := by
      rintro rfl
      rw [List.getElem?_set_self hl] at q; cases q
    rw [List.getElem?_set_ne n1] at q
    exact q
  refine ⟨upd F a (.dK vs), x, o.gr.frz h2 h3 h1, fun j d q => ?_, fun j ys q => ?_, fun j k ys zs b q1 q2 q3 q4 => o.inj j k ys zs b (ow1 q1) (ow1 q2) q3 q4, fun j ys q => ?_, fun j k ys zs b q1 q2 q3 q4 => o.ijd j k ys zs b (od1 q1).2 (od1 q2).2 q3 q4, fun j L n q => (let ⟨f, g1, g2⟩ := o.fn j L n (fn1 q); ⟨f, g1, g2.updF h1⟩), nt_upd o.nt (by intro _ z; cases z), o.tb, by simpa using o.len⟩
  · by_cases hj : i = j
    · subst hj
      rw [List.getElem?_set_self hl] at q
      cases q
      exact ⟨_, s1, .dic (.inl upd_same) (dpk_mono x h4)⟩
    · rw [List.getElem?_set_ne hj] at q
      obtain ⟨v, t1, t2⟩ := o.sh j d q
      exact ⟨v, t1, dp_mono x t2⟩
  · obtain ⟨b, us, t1, t2, t3, t4, t5⟩ := o.ow j ys (ow1 q)
    refine ⟨b, us, t1, t2, t3, ?_, dpa_mono x t5⟩
    rw [upd_ne]
    · exact t4
    · rintro rfl
      rw [h1] at t2
      cases t2
  · obtain ⟨n1, q⟩ := od1 q
    obtain ⟨b, us, t1, t2, t3, t4, t5⟩ := o.od j ys q
    refine ⟨b, us, t1, t2, t3, ?_, dpk_mono x t5⟩
    rw [upd_ne]
    · exact t4
    · rintro rfl
      exact n1 (o.ijd i j _ _ b he q s1 t1)
end

/-! ### the judgements -/
/-- readable: frozen, or a list in H whose items are frozen -/
def Rs (K : PySem.W.Frag) (F H : Hp) (v : V) (d : D) : Prop := Dp K F v d ∨ ∃ a vs xs, v = .ref a ∧ d = .list xs ∧ H a = some (.lst vs) ∧ DpAll K F vs xs
theorem Rs.grow {K : PySem.W.Frag} {F H F' H' : Hp} {v : V} {d : D} (g : Gr F H F' H') : Rs K F H v d → Rs K F' H' v d
  | .inl h => .inl (dp_mono g.ff h)
  | .inr ⟨a, vs, xs, h1, h2, h3, h4⟩ => .inr ⟨a, vs, xs, h1, h2, g.hh _ _ h3, dpa_mono g.ff h4⟩
theorem Rs.dp {K : PySem.W.Frag} {F H : Hp} {v : V} {d : D} (x : Ex F H) : Rs K F H v d → Dp K H v d
  | .inl h => dp_mono x h
  | .inr ⟨a, vs, xs, h1, h2, h3, h4⟩ => by subst h1 h2; exact .lst (SqL.of h3) (dpa_mono x h4)
/-- a list or tuple that is readable -/
theorem Rs.tup {K : PySem.W.Frag} {F H : Hp} {v : V} {ds : List D} (x : Ex F H) (h : Rs K F H v (.tuple ds)) : ∃ a vs, v = .ref a ∧ SqT K H a vs ∧ DpAll K F vs ds := by
  rcases h with h | ⟨a, vs, xs, _, h2, _⟩
  · obtain ⟨a, vs, rfl, h1, h2⟩ := dp_tup h
    exact ⟨a, vs, rfl, ex_t x h1, h2⟩
  · cases h2
theorem Rs.lst {K : PySem.W.Frag} {F H : Hp} {v : V} {ds : List D} (x : Ex F H) (h : Rs K F H v (.list ds)) : ∃ a vs, v = .ref a ∧ SqL K H a vs ∧ DpAll K F vs ds := by
  rcases h with h | ⟨a, vs, xs, h1, h2, h3, h4⟩
  · obtain ⟨a, vs, rfl, h1, h2⟩ := dp_lst h
    exact ⟨a, vs, rfl, ex_l x h1, h2⟩
  · cases h2
    exact ⟨a, vs, h1, SqL.of h3, h4⟩

abbrev FE := DEnv → Option D
abbrev FB := DEnv → Option Bool
abbrev FA := DEnv → Option (List D)

def TD (K : PySem.W.Frag) (f : FE) : TE := fun σ H Q => ∃ B F0 F e d, Ok K B F0 F σ H e ∧ f e = some d ∧ ∀ v F' H', Gr F H F' H' → Dp K F' v d → Q v H'
def TR (K : PySem.W.Frag) (f : FE) : TE := fun σ H Q => ∃ B F0 F e d, Ok K B F0 F σ H e ∧ f e = some d ∧ ∀ v F' H', Gr F H F' H' → Rs K F' H' v d → Q v H'
def TN (K : PySem.W.Frag) (f : FA) : TE := fun σ H Q => ∃ B F0 F e xs, Ok K B F0 F σ H e ∧ f e = some xs ∧ ∀ a vs F' H', Gr F H F' H' → H a = none → F' a = none → H' a = some (.lst vs) → DpAll K F' vs xs → Q (.ref a) H'
def TB (K : PySem.W.Frag) (f : FB) : TT := fun σ H Q => ∃ B F0 F e b, Ok K B F0 F σ H e ∧ f e = some b ∧ ∀ F' H', Gr F H F' H' → Q b H'
def TAr (K : PySem.W.Frag) (f : FA) : TA := fun σ H Q => ∃ B F0 F e ds, Ok K B F0 F σ H e ∧ f e = some ds ∧ ∀ vs F' H', Gr F H F' H' → DpAll K F' vs ds → Q vs H'

/-- frozen value | readable value | new list | test | arguments -/
def DE (X : Cx) (e : Expr) (f : FE) : Prop := PE X e (TD X.K f)
def DR (X : Cx) (e : Expr) (f : FE) : Prop := PE X e (TR X.K f)
def DN (X : Cx) (e : Expr) (f : FA) : Prop := PE X e (TN X.K f)
def DT (X : Cx) (e : Expr) (f : FB) : Prop := PT X e (TB X.K f)
def DW (X : Cx) (e : Expr) (f : FB) : Prop := PW X e (TB X.K f)
def DA (X : Cx) (es : List Expr) (f : FA) : Prop := PA X es (TAr X.K f)

section
variable {X : Cx} {e : Expr}
theorem pe_imp {t t' : TE} (h : PE X e t) (i : ∀ σ H Q, t' σ H Q → t σ H Q) : PE X e t' := ⟨fun pins s σ H Q I hw => h.run pins s σ H Q I (i _ _ _ hw)⟩
theorem pt_imp {t t' : TT} (h : PT X e t) (i : ∀ σ H Q, t' σ H Q → t σ H Q) : PT X e t' := ⟨fun pins s σ H Q I hw => h.run pins s σ H Q I (i _ _ _ hw)⟩
theorem pw_imp {t t' : TT} (h : PW X e t) (i : ∀ σ H Q, t' σ H Q → t σ H Q) : PW X e t' := ⟨fun wh pins s σ H Q I hw => h.run wh pins s σ H Q I (i _ _ _ hw)⟩
theorem pa_imp {es : List Expr} {t t' : TA} (h : PA X es t) (i : ∀ σ H Q, t' σ H Q → t σ H Q) : PA X es t' := ⟨fun pos pins s σ H Q I hw => h.run pos pins s σ H Q I (i _ _ _ hw)⟩
theorem ps_imp {st : Stmt} {t t' : TS} (h : PS X st t) (i : ∀ D σ H, t' D σ H → t D σ H) : PS X st t' := ⟨fun pins s σ H D I hw => h.run pins s σ H D I (i _ _ _ hw)⟩
theorem pss_imp {st : List Stmt} {t t' : TS} (h : PSs X st t) (i : ∀ D σ H, t' D σ H → t D σ H) : PSs X st t' := ⟨fun pins s σ H D I hw => h.run pins s σ H D I (i _ _ _ hw)⟩
theorem DE.dr {f : FE} (h : DE X e f) : DR X e f := pe_imp h fun σ H Q ⟨B, F0, F, env, d, ok, fe, q⟩ => ⟨B, F0, F, env, d, ok, fe, fun v F' H' g dp => q v F' H' g (.inl dp)⟩
theorem DN.de {f : FA} (h : DN X e f) : DE X e (fun env => (f env).map PyData.list) := pe_imp h fun σ H Q ⟨B, F0, F, env, d, ok, fe, q⟩ => by
  obtain ⟨xs, hx, rfl⟩ := Option.map_eq_some_iff.mp fe
  refine ⟨B, F0, F, env, xs, ok, hx, fun a vs F' H' g h1 h2 h3 h4 => ?_⟩
  have x : Ex F' (upd F' a (.lst vs)) := Ex.new h2
  exact q _ _ _ (g.frz h1 h2 h3) (.lst (SqL.of upd_same) (dpa_mono x h4))
theorem DN.dr {f : FA} (h : DN X e f) : DR X e (fun env => (f env).map PyData.list) := h.de.dr
end
end DL

/-! DLay2: expressions. -/
namespace DL
open PySem PySem.Spec PyProof.Rows L2 Evl

/-! ### denotations -/
def asB : D → Option Bool
  | .bool b => some b
  | _ => none
def vr (i : Nat) : FE := fun e => match e[i]? with
  | some (some (.sh d)) => some d
  | _ => none
def vo (i : Nat) : FE := fun e => match e[i]? with
  | some (some (.sh d)) => some d
  | some (some (.ow xs)) => some (.list xs)
  | _ => none
def cst (d : D) : FE := fun _ => some d
def c1 (g : D → Option D) (f : FE) : FE := fun e => (f e).bind g
def c2 (g : D → D → Option D) (f1 f2 : FE) : FE := fun e => (f1 e).bind fun x => (f2 e).bind fun y => g x y
def cA (g : List D → Option D) (f : FA) : FE := fun e => (f e).bind g
def nilA : FA := fun _ => some []
def consA (f : FE) (r : FA) : FA := fun e => (f e).bind fun x => (r e).bind fun xs => some (x :: xs)
def tup (f : FA) : FE := fun e => (f e).map PyData.tuple
def lstE (f : FA) : FE := fun e => (f e).map PyData.list
def tst (f : FE) : FB := fun e => (f e).bind asB
def andT (p q : FB) : FB := fun e => (p e).bind fun b => if b = true then q e else some false
def orT (p q : FB) : FB := fun e => (p e).bind fun b => if b = true then some true else q e
def notT (p : FB) : FB := fun e => (p e).map not
def andV (f g : FE) : FE := fun e => (f e).bind fun x => (asB x).bind fun b => if b = true then g e else some (.bool false)
def orV (f g : FE) : FE := fun e => (f e).bind fun x => (asB x).bind fun b => if b = true then some (.bool true) else g e
def notV (f : FE) : FE := fun e => (f e).bind fun x => (asB x).map fun b => .bool (!b)
def ifE (p : FB) (f g : FE) : FE := fun e => (p e).bind fun b => if b = true then f e else g e

/-- sizes that we stay below -/
def big : Nat := 100000
def sml (n : Nat) : Bool := Nat.ble n 100000
theorem sml_le {n : Nat} (h : sml n = true) : n ≤ big := Nat.le_of_ble_eq_true h
theorem sml_of {n : Nat} (h : n ≤ 100000) : sml n = true := Nat.ble_eq_true_of_le h
def mulOk (a b : Int) : Bool := decide (a.natAbs < 2 ^ 63) || decide (b.natAbs < 2 ^ 63) || (decide (a.natAbs < 2 ^ 4000) && decide (b.natAbs < 2 ^ 4000))
def addD : D → D → Option D
  | .int a, .int b => some (.int (a + b))
  | .str a, .str b => if sml (a.length + b.length) = true then some (.str (a ++ b)) else none
  | .tuple a, .tuple b => if sml (a.length + b.length) = true then some (.tuple (a ++ b)) else none
  | .list a, .list b => if sml (a.length + b.length) = true then some (.list (a ++ b)) else none
  | _, _ => none
def subD : D → D → Option D
  | .int a, .int b => some (.int (a - b))
  | _, _ => none
def mulD : D → D → Option D
  | .int a, .int b => if mulOk a b = true then some (.int (a * b)) else none
  | .tuple a, .int b => if a ≠ [] ∧ 2 ≤ b ∧ b ≤ 1000 ∧ a.length ≤ 1000 then some (.tuple (List.replicate b.toNat a).flatten) else if a ≠ [] ∧ b = 1 then some (.tuple a) else if a ≠ [] ∧ b = 0 then some (.tuple []) else none
  | _, _ => none
def fdivD : D → D → Option D
  | .int a, .int b => if 0 < b ∧ b.natAbs < 2 ^ 4000 then some (.int (a / b)) else none
  | _, _ => none
def modD : D → D → Option D
  | .int a, .int b => if 0 < b then some (.int (a % b)) else none
  | _, _ => none
def powD : D → D → Option D
  | .int a, .int b => if 0 ≤ b ∧ b ≤ 1000 ∧ a.natAbs < 2 ^ 64 then some (.int (a ^ b.toNat)) else none
  | _, _ => none
def negD : D → Option D
  | .int a => some (.int (-a))
  | _ => none
def ltD : D → D → Option D
  | .int a, .int b => some (.bool (decide (a < b)))
  | _, _ => none
def leD : D → D → Option D
  | .int a, .int b => some (.bool (decide (a ≤ b)))
  | .str a, .str b => some (.bool (!decide (b.cps.toList < a.cps.toList)))
  | _, _ => none
def gtD : D → D → Option D
  | .int a, .int b => some (.bool (decide (b < a)))
  | _, _ => none
def geD : D → D → Option D
  | .int a, .int b => some (.bool (decide (b ≤ a)))
  | _, _ => none
def eqD (a b : D) : Option D := if SeqAt.shaped a = true ∧ SeqAt.shaped b = true then some (.bool (PyData.eqv a b)) else none
def neD (a b : D) : Option D := if SeqAt.shaped a = true ∧ SeqAt.shaped b = true then some (.bool (!PyData.eqv a b)) else none
def isND (a : D) : Option D := match a with
  | .none => some (.bool true)
  | _ => some (.bool false)
def notND (a : D) : Option D := match a with
  | .none => some (.bool false)
  | _ => some (.bool true)
def ixD : D → D → Option D
  | .tuple xs, .int i => atI xs i
  | .list xs, .int i => atI xs i
  | .str z, .int i => if sml z.length = true then (atI z.cps.toList i).map fun c => .str ⟨#[c]⟩ else none
  | _, _ => none

theorem big_line : big ≤ sizeLine := by rw [sizeLine_eq]; decide

/-! ### values of operations -/
section
variable {K : PySem.W.Frag}
abbrev Kn (K : PySem.W.Frag) (F H : Hp) (d : D) (Q : VK) : Prop := ∀ v F' H', Gr F H F' H' → Dp K F' v d → Q v H'
def OpD (K : PySem.W.Frag) (r : R2) (g : D → D → Option D) : Prop := ∀ F H x y a b d Q, Ex F H → Rs K F H x a → Rs K F H y b → g a b = some d → Kn K F H d Q → r x y H Q
def OpDF (K : PySem.W.Frag) (r : R2) (g : D → D → Option D) : Prop := ∀ F H x y a b d Q, Ex F H → Dp K F x a → Dp K F y b → g a b = some d → Kn K F H d Q → r x y H Q
def UnD (K : PySem.W.Frag) (r : V → Hp → VK → Prop) (g : D → Option D) : Prop := ∀ F H x a d Q, Ex F H → Rs K F H x a → g a = some d → Kn K F H d Q → r x H Q
theorem rs_int {F H : Hp} {v : V} {i : Int} (h : Rs K F H v (.int i)) : v = .int i := by
  rcases h with h | ⟨_, _, _, _, h, _⟩
  · exact dp_int h
  · cases h
theorem rs_str {F H : Hp} {v : V} {i : Str} (h : Rs K F H v (.str i)) : v = .str i := by
  rcases h with h | ⟨_, _, _, _, h, _⟩
  · exact dp_str h
  · cases h
theorem rs_bl {F H : Hp} {v : V} {i : Bool} (h : Rs K F H v (.bool i)) : v = .bl i := by
  rcases h with h | ⟨_, _, _, _, h, _⟩
  · exact dp_bl h
  · cases h
theorem rs_tupF {F H : Hp} {v : V} {i : List D} (h : Rs K F H v (.tuple i)) : Dp K F v (.tuple i) := by
  rcases h with h | ⟨_, _, _, _, h, _⟩
  · exact h
  · cases h
theorem Kn.now {F H : Hp} {d : D} {Q : VK} {v : V} (q : Kn K F H d Q) (x : Ex F H) (h : Dp K F v d) : Q v H := q v F H (Gr.refl x) h
theorem Kn.tupN {F H : Hp} {Q : VK} {vs : List V} {ds : List D} (q : Kn K F H (.tuple ds) Q) (x : Ex F H) (h : DpAll K F vs ds) {p : Addr} (hp : H p = none) : Q (.ref p) (upd H p (.tup vs)) :=
  q _ _ _ (Gr.new x hp) (.tup (SqT.of upd_same) (dpa_mono (Ex.new (fresh_back x hp)) h))
theorem Kn.lstN {F H : Hp} {Q : VK} {vs : List V} {ds : List D} (q : Kn K F H (.list ds) Q) (x : Ex F H) (h : DpAll K F vs ds) {p : Addr} (hp : H p = none) : Q (.ref p) (upd H p (.lst vs)) :=
  q _ _ _ (Gr.new x hp) (.lst (SqL.of upd_same) (dpa_mono (Ex.new (fresh_back x hp)) h))
end

section
variable {X : Cx}
/-- list + list, wherever they stand -/
def rCatL (K : PySem.W.Frag) : R2 := fun x y H Q => ∃ l b xs zs, x = .ref l ∧ y = .ref b ∧ SqL K H l xs ∧ SqL K H b zs ∧ xs.length + zs.length ≤ sizeLine ∧ ∀ p, H p = none → Q (.ref p) (upd H p (.lst (xs ++ zs)))
theorem op_catL : OpR X (binaryOp .Add) (rCatL X.K) := by
  intro pins s σ H x y v u Q I rx ry h
  obtain ⟨l, b, xs, zs, rfl, rfl, hH, hB, hz, q⟩ := h
  cases rx
  cases ry
  obtain ⟨vs, r, ⟨⟨cls, dd, data, sl⟩, n, ho, hc, hdd, hd⟩, hl⟩ := I.list hH
  obtain ⟨ws, r2, ⟨⟨cls2, dd2, data2, sl2⟩, n2, ho2, hc2, hdd2, hd2⟩, hl2⟩ := I.list hB
  simp only at hc hd hc2 hd2
  subst hc hd hc2 hd2
  have e : vs.toArray ++ ws.toArray = (vs ++ ws).toArray := by simp
  have l1 := r.length
  have l2 := r2.length
  refine concat_meets ⟨_, ho, rfl⟩ ⟨_, ho2, rfl⟩ noFill_list_add seq_list_add PySem.F.slot_list_add PySem.F.entry_list_add (PySem.F.args_list_add_2 _ _) (list_addW l b vs.toArray ws.toArray n n2 dd dd2 sl sl2 (by simp; omega)) ⟨ho, ho2, ?_⟩
  rw [e]
  exact ⟨.ref _, _, I.lnew (t' := s.toks) (r.append r2) (by rw [List.length_append]; omega), rfl, q _ I.fresh⟩

def rAddA (K : PySem.W.Frag) : R2 := fun x y H Q => (rI0 (fun i j => .int (i + j)) x y H Q ∨ (∃ i j, x = .str i ∧ y = .str j ∧ i.length + j.length ≤ sizeLine ∧ Q (.str (i ++ j)) H)) ∨ (rCatA K x y H Q ∨ rCatL K x y H Q)
theorem op_addA : OpR X (binaryOp .Add) (rAddA X.K) := (op_add.or op_add_str).or (op_catA.or op_catL)
theorem od_add {K : PySem.W.Frag} : OpD K (rAddA K) addD := by
  intro F H x y a b d Q xf ha hb hg q
  unfold addD at hg
  split at hg
  · cases hg
    rw [rs_int ha, rs_int hb]
    exact .inl (.inl ⟨_, _, rfl, rfl, q.now xf (.int _)⟩)
  · split at hg
    · cases hg
      rw [rs_str ha, rs_str hb]
      rename_i i j hz
      exact .inl (.inr ⟨_, _, rfl, rfl, Nat.le_trans (sml_le hz) big_line, q.now xf (.str _)⟩)
    · cases hg
  · split at hg
    · cases hg
      rename_i hz
      have ha' := rs_tupF ha
      have hb' := rs_tupF hb
      obtain ⟨p, vs, rfl, s1, d1⟩ := dp_tup ha'
      obtain ⟨p2, us, rfl, s2, d2⟩ := dp_tup hb'
      have l1 := dpa_len d1
      have l2 := dpa_len d2
      have hbl := big_line
      have hz := sml_le hz
      refine .inr (.inl ⟨p, p2, vs, us, rfl, rfl, ex_t xf s1, ex_t xf s2, by omega, fun e => ?_, fun e1 e2 => ?_, fun e1 e2 p hp => ?_⟩)
      · subst e
        cases d1
        exact q.now xf hb'
      · subst e2
        cases d2
        rw [List.append_nil] at q
        exact q.now xf ha'
      · exact q.tupN xf (dpa_append d1 d2) hp
    · cases hg
  · split at hg
    · cases hg
      rename_i hz
      obtain ⟨p, vs, rfl, s1, d1⟩ := ha.lst xf
      obtain ⟨p2, us, rfl, s2, d2⟩ := hb.lst xf
      have l1 := dpa_len d1
      have l2 := dpa_len d2
      have hbl := big_line
      have hz := sml_le hz
      exact .inr (.inr ⟨p, p2, vs, us, rfl, rfl, s1, s2, by omega, fun p hp => q.lstN xf (dpa_append d1 d2) hp⟩)
    · cases hg
  · cases hg
theorem od_sub {K : PySem.W.Frag} : OpD K (rI0 fun i j => .int (i - j)) subD := by
  intro F H x y a b d Q xf ha hb hg q
  unfold subD at hg
  split at hg
  · cases hg
    rw [rs_int ha, rs_int hb]
    exact ⟨_, _, rfl, rfl, q.now xf (.int _)⟩
  · cases hg

theorem mulOk_ok {a b : Int} (h : mulOk a b = true) : CMul a b ∨ CMulW a b := by
  unfold mulOk at h
  simp only [Bool.or_eq_true, Bool.and_eq_true, decide_eq_true_eq] at h
  rcases h with (h | h) | ⟨h1, h2⟩
  · exact .inl (.inl ⟨by omega, by omega⟩)
  · exact .inl (.inr ⟨by omega, by omega⟩)
  · exact .inr (wide_mul h1 h2 (by decide) (by decide) (by decide))
theorem tuple_mul1 (l : Addr) (items : Array Value) (n : Nat) (dd : Option Addr) (sl : Array (Option Value)) (u : Tok) :
    Meets (Builtin.«tuple.__mul__» ⟨[.ref l, .int 1 u], []⟩) (fun _ R s => s.heap.get? l = some { cls := .type "tuple", dict := dd, data := .seq items n, slots := sl } ∧ R (.ok (.ret (Value.ref l))) s) :=
  .of_wp fun prog w A R s h => by
    obtain ⟨hp, g, d, tk, os⟩ := s
    obtain ⟨hl, h⟩ := h
    have f1 := AutoSeq1.idx_int
    wp_walk using wpAny_loadPart' hl
    exact ⟨_, rfl, h⟩
theorem tuple_mul0 (l : Addr) (items : Array Value) (n : Nat) (dd : Option Addr) (sl : Array (Option Value)) (u : Tok) (he : items.isEmpty = false) :
    Meets (Builtin.«tuple.__mul__» ⟨[.ref l, .int 0 u], []⟩) (fun _ R s => s.heap.get? l = some { cls := .type "tuple", dict := dd, data := .seq items n, slots := sl } ∧
      R (.ok (.ret (Value.ref s.heap.objs.size))) { s with heap := s.heap.push { cls := Value.type "tuple", data := Data.seq #[] }, toks := s.toks }) :=
  .of_wp fun prog w A R s h => by
    obtain ⟨hp, g, d, tk, os⟩ := s
    obtain ⟨hl, h⟩ := h
    have f1 := AutoSeq1.idx_int
    wp_walk using wpAny_loadPart' hl
    exact ⟨_, rfl, h⟩
/-- a tuple once, or not at all -/
def rRep01 (K : PySem.W.Frag) : R2 := fun x y H Q => ∃ l k xs, x = .ref l ∧ y = .int k ∧ SqT K H l xs ∧ xs ≠ [] ∧ ((k = 1 ∧ Q (.ref l) H) ∨ (k = 0 ∧ ∀ p, H p = none → Q (.ref p) (upd H p (.tup []))))
theorem op_rep01 : OpR X (binaryOp .Mult) (rRep01 X.K) := by
  intro pins s σ H x y v u Q I rx ry h
  obtain ⟨l, k, xs, rfl, rfl, hT, hne, q⟩ := h
  cases rx
  obtain ⟨t, rfl⟩ := ry
  obtain ⟨its, r, ⟨⟨cls, dd, data, sl⟩, ho, hc, n, hd⟩, hs⟩ := I.tuple hT
  simp only at hc hd
  subst hc hd
  have hle : its.length = xs.length := r.length.symm
  have hn : its ≠ [] := fun e => hne (by
    rw [e] at hle
    exact List.eq_nil_of_length_eq_zero hle.symm)
  have hi : its.toArray.isEmpty = false := by
    cases its with
    | nil => exact absurd rfl hn
    | cons a b => rfl
  rcases q with ⟨rfl, q⟩ | ⟨rfl, q⟩
  · refine wpAny_binaryOp_repeat_ref (T := "tuple") (U := "int") (by decide) ⟨_, ho, rfl⟩ (fun s' => typeIs_int s' 1 t) noFill_tuple_mul F.fills_int_mul F.slot_int_rmul repeat_tuple F.slot_int_index.lookup
      (call_meets F.slot_int_rmul (typeIs_int s 1 t) F.entry_int_rmul (F.args_int_rmul_2 _ _) (int_rmul_tuple 1 t l its.toArray n dd sl)
        ⟨ho, rfl, ⟨_, ho, rfl⟩, call_meets F.slot_tuple_mul ⟨_, ho, rfl⟩ F.entry_tuple_mul (F.args_tuple_mul_2 _ _) (tuple_mul1 l its.toArray n dd sl t) ⟨ho, ?_⟩⟩)
    exact ⟨.ref l, H, I, rfl, q⟩
  · refine wpAny_binaryOp_repeat_ref (T := "tuple") (U := "int") (by decide) ⟨_, ho, rfl⟩ (fun s' => typeIs_int s' 0 t) noFill_tuple_mul F.fills_int_mul F.slot_int_rmul repeat_tuple F.slot_int_index.lookup
      (call_meets F.slot_int_rmul (typeIs_int s 0 t) F.entry_int_rmul (F.args_int_rmul_2 _ _) (int_rmul_tuple 0 t l its.toArray n dd sl)
        ⟨ho, rfl, ⟨_, ho, rfl⟩, call_meets F.slot_tuple_mul ⟨_, ho, rfl⟩ F.entry_tuple_mul (F.args_tuple_mul_2 _ _) (tuple_mul0 l its.toArray n dd sl t hi) ⟨ho, ?_⟩⟩)
    refine ⟨.ref s.heap.objs.size, _, I.laid (t' := s.toks) (o := .tup []) (fun b ob q => Heap.get?_push_of_some _ q) (Nat.le_refl _) ?_, rfl, q _ (I.hok.fresh (Nat.le_refl _))⟩
    exact ⟨Nat.zero_le _, _, .nil, IsTup.new _ _⟩
def rMulA (K : PySem.W.Frag) : R2 := fun x y H Q => ((rI CMul (fun i j => .int (i * j)) x y H Q ∨ rI CMulW (fun i j => .int (i * j)) x y H Q) ∨ rRepT K x y H Q) ∨ rRep01 K x y H Q
theorem op_mulA : OpR X (binaryOp .Mult) (rMulA X.K) := ((op_mul.or op_mulW).or op_repT).or op_rep01
theorem od_mul {K : PySem.W.Frag} : OpD K (rMulA K) mulD := by
  intro F H x y a b d Q xf ha hb hg q
  unfold mulD at hg
  split at hg
  · split at hg
    · cases hg
      rename_i hz
      rw [rs_int ha, rs_int hb]
      rcases mulOk_ok hz with h | h
      · exact .inl (.inl (.inl ⟨_, _, rfl, rfl, h, q.now xf (.int _)⟩))
      · exact .inl (.inl (.inr ⟨_, _, rfl, rfl, h, q.now xf (.int _)⟩))
    · cases hg
  · split at hg
    · cases hg
      rename_i hz
      obtain ⟨z1, z2, z3, z4⟩ := hz
      rw [rs_int hb]
      obtain ⟨p, vs, rfl, s1, d1⟩ := dp_tup (rs_tupF ha)
      have l1 := dpa_len d1
      refine .inl (.inr ⟨p, _, vs, rfl, rfl, ex_t xf s1, ?_, z2, z3, by omega, fun p hp => q.tupN xf ?_ hp⟩)
      · intro e
        subst e
        cases d1
        exact z1 rfl
      · rename_i n _
        generalize n.toNat = m
        induction m with
        | zero => exact .nil
        | succ m ih =>
          rw [List.replicate_succ, List.replicate_succ, List.flatten_cons, List.flatten_cons]
          exact dpa_append d1 ih
    · split at hg
      · rename_i hz
        obtain ⟨z1, rfl⟩ := hz
        cases hg
        have ha' := rs_tupF ha
        obtain ⟨p, vs, rfl, s1, d1⟩ := dp_tup ha'
        rw [rs_int hb]
        exact .inr ⟨p, _, vs, rfl, rfl, ex_t xf s1, fun e => by subst e; cases d1; exact z1 rfl, .inl ⟨rfl, q.now xf ha'⟩⟩
      · split at hg
        · rename_i hz
          obtain ⟨z1, rfl⟩ := hz
          cases hg
          have ha' := rs_tupF ha
          obtain ⟨p, vs, rfl, s1, d1⟩ := dp_tup ha'
          rw [rs_int hb]
          exact .inr ⟨p, _, vs, rfl, rfl, ex_t xf s1, fun e => by subst e; cases d1; exact z1 rfl, .inr ⟨rfl, fun p hp => q.tupN xf .nil hp⟩⟩
        · cases hg
  · cases hg
theorem od_fdiv {K : PySem.W.Frag} : OpD K (rI CDivW fun i j => .int (i / j)) fdivD := by
  intro F H x y a b d Q xf ha hb hg q
  unfold fdivD at hg
  split at hg
  · split at hg
    · cases hg
      rename_i hz
      rw [rs_int ha, rs_int hb]
      exact ⟨_, _, rfl, rfl, wide_div hz.1 hz.2 (by decide) (by decide), q.now xf (.int _)⟩
    · cases hg
  · cases hg
theorem od_mod {K : PySem.W.Frag} : OpD K (rI (fun _ j => 0 < j) fun i j => .int (i % j)) modD := by
  intro F H x y a b d Q xf ha hb hg q
  unfold modD at hg
  split at hg
  · split at hg
    · cases hg
      rename_i hz
      rw [rs_int ha, rs_int hb]
      exact ⟨_, _, rfl, rfl, hz, q.now xf (.int _)⟩
    · cases hg
  · cases hg
theorem od_pow {K : PySem.W.Frag} : OpD K (rI CPow fun i j => .int (i ^ j.toNat)) powD := by
  intro F H x y a b d Q xf ha hb hg q
  unfold powD at hg
  split at hg
  · split at hg
    · cases hg
      rename_i hz
      obtain ⟨z1, z2, z3⟩ := hz
      rw [rs_int ha, rs_int hb]
      exact ⟨_, _, rfl, rfl, ⟨z1, by omega, z3⟩, q.now xf (.int _)⟩
    · cases hg
  · cases hg
theorem ud_neg {K : PySem.W.Frag} : UnD K (rU fun i => .int (-i)) negD := by
  intro F H x a d Q xf ha hg q
  unfold negD at hg
  split at hg
  · cases hg
    rw [rs_int ha]
    exact ⟨_, rfl, q.now xf (.int _)⟩
  · cases hg
theorem od_lt {K : PySem.W.Frag} : OpD K (rI0 fun i j => .bl (decide (i < j))) ltD := by
  intro F H x y a b d Q xf ha hb hg q
  unfold ltD at hg
  split at hg
  · cases hg
    rw [rs_int ha, rs_int hb]
    exact ⟨_, _, rfl, rfl, q.now xf (.bl _)⟩
  · cases hg
theorem od_gt {K : PySem.W.Frag} : OpD K (rI0 fun i j => .bl (decide (j < i))) gtD := by
  intro F H x y a b d Q xf ha hb hg q
  unfold gtD at hg
  split at hg
  · cases hg
    rw [rs_int ha, rs_int hb]
    exact ⟨_, _, rfl, rfl, q.now xf (.bl _)⟩
  · cases hg
theorem od_ge {K : PySem.W.Frag} : OpD K (rI0 fun i j => .bl (decide (j ≤ i))) geD := by
  intro F H x y a b d Q xf ha hb hg q
  unfold geD at hg
  split at hg
  · cases hg
    rw [rs_int ha, rs_int hb]
    exact ⟨_, _, rfl, rfl, q.now xf (.bl _)⟩
  · cases hg
theorem od_eq {K : PySem.W.Frag} : OpD K (rEqD K) eqD := by
  intro F H x y a b d Q xf ha hb hg q
  unfold eqD at hg
  split at hg
  · cases hg
    rename_i hz
    exact ⟨a, b, dp_sh (ha.dp xf) hz.1, dp_sh (hb.dp xf) hz.2, hz.1, hz.2, q.now xf (.bl _)⟩
  · cases hg
theorem od_ne {K : PySem.W.Frag} : OpD K (rNeD K) neD := by
  intro F H x y a b d Q xf ha hb hg q
  unfold neD at hg
  split at hg
  · cases hg
    rename_i hz
    exact ⟨a, b, dp_sh (ha.dp xf) hz.1, dp_sh (hb.dp xf) hz.2, hz.1, hz.2, q.now xf (.bl _)⟩
  · cases hg
/-- is None, is not None -/
theorem dp_isN {K : PySem.W.Frag} {F H : Hp} {x : V} {a : D} (h : Rs K F H x a) : isND a = some (.bool (decide (x = .non))) ∧ notND a = some (.bool (!decide (x = .non))) := by
  rcases h with h | ⟨_, _, _, rfl, rfl, _⟩
  · cases h <;> exact ⟨rfl, rfl⟩
  · exact ⟨rfl, rfl⟩
theorem ud_isN {K : PySem.W.Frag} : UnD K (fun x H Q => Q (.bl (decide (x = .non))) H) isND := by
  intro F H x a d Q xf ha hg q
  rw [(dp_isN ha).1] at hg
  cases hg
  exact q.now xf (.bl _)
theorem ud_notN {K : PySem.W.Frag} : UnD K (fun x H Q => Q (.bl (!decide (x = .non))) H) notND := by
  intro F H x a d Q xf ha hg q
  rw [(dp_isN ha).2] at hg
  cases hg
  exact q.now xf (.bl _)
/-- items -/
theorem atI_dp {K : PySem.W.Frag} {F : Hp} {vs : List V} {ds : List D} {i : Int} {d : D} (h : DpAll K F vs ds) (e : atI ds i = some d) : ∃ v, atI vs i = some v ∧ Dp K F v d := by
  unfold atI at e ⊢
  rw [dpa_len h]
  obtain ⟨j, e1, e2⟩ := Option.bind_eq_some_iff.mp e
  obtain ⟨v, e3, e4⟩ := dpa_get h e2
  exact ⟨v, by rw [e1]; exact e3, e4⟩
theorem od_ix {K : PySem.W.Frag} : OpD K (rIx K) ixD := by
  intro F H x y a b d Q xf ha hb hg q
  unfold ixD at hg
  split at hg
  · rw [rs_int hb]
    obtain ⟨p, vs, rfl, s1, d1⟩ := ha.tup xf
    obtain ⟨v, e, h⟩ := atI_dp d1 hg
    exact .inr (.inl ⟨_, _, _, _, rfl, rfl, s1, e, q.now xf h⟩)
  · rw [rs_int hb]
    obtain ⟨p, vs, rfl, s1, d1⟩ := ha.lst xf
    obtain ⟨v, e, h⟩ := atI_dp d1 hg
    exact .inl ⟨_, _, _, _, rfl, rfl, s1, e, q.now xf h⟩
  · split at hg
    · rename_i hz
      obtain ⟨c, e, rfl⟩ := Option.map_eq_some_iff.mp hg
      rw [rs_int hb, rs_str ha]
      exact .inr (.inr ⟨_, _, _, rfl, rfl, Nat.le_trans (sml_le hz) big_line, e, q.now xf (.str _)⟩)
    · cases hg
  · cases hg
end

/-! ### rules of expressions -/
section
variable {X : Cx} {a b c : Expr} {f g h : FE} {pos : Pos}
theorem de_var (i : Nat) {x : Str} {pos : Pos} (hN : X.N[i]? = some x := by rfl) (hv : Vis X.env.scope x := by first | exact Or.inl rfl | exact Or.inr (Or.inl rfl) | exact Or.inr (Or.inr rfl)) (hd : (x == ("__debug__" : Str)) = false := by decide)
    (hcd : (x == ("__classdict__" : Str)) = false := by decide) : DE X (.Name x pos) (vr i) := pe_imp (pe_var hN hv hd hcd) fun σ H Q ⟨B, F0, F, e, d, ok, fe, q⟩ => by
  unfold vr at fe
  split at fe
  · cases fe
    rename_i h
    obtain ⟨v, h1, h2⟩ := ok.sh i _ h
    exact ⟨v, h1, q v F H (Gr.refl ok.fh) h2⟩
  · cases fe
theorem dr_var (i : Nat) {x : Str} {pos : Pos} (hN : X.N[i]? = some x := by rfl) (hv : Vis X.env.scope x := by first | exact Or.inl rfl | exact Or.inr (Or.inl rfl) | exact Or.inr (Or.inr rfl)) (hd : (x == ("__debug__" : Str)) = false := by decide)
    (hcd : (x == ("__classdict__" : Str)) = false := by decide) : DR X (.Name x pos) (vo i) := pe_imp (pe_var hN hv hd hcd) fun σ H Q ⟨B, F0, F, e, d, ok, fe, q⟩ => by
  unfold vo at fe
  split at fe
  · cases fe
    rename_i h
    obtain ⟨v, h1, h2⟩ := ok.sh i _ h
    exact ⟨v, h1, q v F H (Gr.refl ok.fh) (.inl h2)⟩
  · cases fe
    rename_i h
    obtain ⟨a, vs, h1, h2, h3, h4, h5⟩ := ok.ow i _ h
    exact ⟨_, h1, q _ F H (Gr.refl ok.fh) (.inr ⟨a, vs, _, rfl, rfl, h2, h5⟩)⟩
  · cases fe
/-- a value that stands still -/
theorem de_cst {e : Expr} {v : V} {d : D} (h : PE X e (tC v)) (hd : ∀ F, Dp X.K F v d) : DE X e (cst d) := pe_imp h fun σ H Q ⟨B, F0, F, e, d', ok, fe, q⟩ => by
  cases fe
  exact q v F H (Gr.refl ok.fh) (hd F)
theorem de_int {i : Int} {j : Nat} : DE X (.Constant (.int i) j pos) (cst (.int i)) := de_cst pe_int fun _ => .int i
theorem de_bl {i : Bool} {j : Nat} : DE X (.Constant (.bool i) j pos) (cst (.bool i)) := de_cst pe_bl fun _ => .bl i
theorem de_str {i : Str} {j : Nat} : DE X (.Constant (.str i) j pos) (cst (.str i)) := de_cst pe_str fun _ => .str i
theorem de_non {j : Nat} : DE X (.Constant .none j pos) (cst .none) := de_cst pe_non fun _ => .non
/-- a constant of the module -/
theorem de_gint {x : Str} {i : Int} {t : Tok} (hg : Gl X x) (hm : X.mg x = some (.int i t)) (hd : (x == ("__debug__" : Str)) = false := by decide) : DE X (.Name x pos) (cst (.int i)) := de_cst (v := .int i) (pe_glob hg hm ⟨t, rfl⟩ hd) fun _ => .int i
theorem de_gstr {x : Str} {i : Str} {t : Tok} (hg : Gl X x) (hm : X.mg x = some (.str i t)) (hd : (x == ("__debug__" : Str)) = false := by decide) : DE X (.Name x pos) (cst (.str i)) := de_cst (v := .str i) (pe_glob hg hm ⟨t, rfl⟩ hd) fun _ => .str i

theorem bind2 {α β γ : Type} {x : Option α} {y : Option β} {g : α → β → Option γ} {z : γ} (h : (x.bind fun a => y.bind fun b => g a b) = some z) : ∃ a b, x = some a ∧ y = some b ∧ g a b = some z := by
  obtain ⟨a, e1, h⟩ := Option.bind_eq_some_iff.mp h
  obtain ⟨b, e2, h⟩ := Option.bind_eq_some_iff.mp h
  exact ⟨a, b, e1, e2, h⟩
theorem bind1 {α γ : Type} {x : Option α} {g : α → Option γ} {z : γ} (h : x.bind g = some z) : ∃ a, x = some a ∧ g a = some z := Option.bind_eq_some_iff.mp h

theorem dr_read {r : R2} {G : D → D → Option D} (hd : OpD X.K r G) (σ : L2.St) (H : Hp) (Q : VK) (h : TD X.K (c2 G f g) σ H Q) : tOp r (TR X.K f) (TR X.K g) σ H Q := by
  obtain ⟨B, F0, F, e, d, ok, fe, q⟩ := h
  obtain ⟨x, y, hx, hy, fe⟩ := bind2 fe
  refine ⟨B, F0, F, e, x, ok, hx, fun v F1 H1 g1 r1 => ⟨B, F0, F1, e, y, ok.grow g1, hy, fun u F2 H2 g2 r2 => ?_⟩⟩
  exact hd F2 H2 v u x y d Q g2.fh (r1.grow g2) r2 fe fun w F' H' g3 dp => q w F' H' ((g1.trans g2).trans g3) dp
theorem de_op {op : Operator} {r : R2} {G : D → D → Option D} (ho : OpR X (binaryOp op) r) (hd : OpD X.K r G) (ha : DR X a f) (hb : DR X b g) : DE X (.BinOp a op b pos) (c2 G f g) := pe_imp (pe_op ho ha hb) (dr_read hd)
theorem de_add (ha : DR X a f) (hb : DR X b g) : DE X (.BinOp a .Add b pos) (c2 addD f g) := de_op op_addA od_add ha hb
theorem de_sub (ha : DR X a f) (hb : DR X b g) : DE X (.BinOp a .Sub b pos) (c2 subD f g) := de_op op_sub od_sub ha hb
theorem de_mul (ha : DR X a f) (hb : DR X b g) : DE X (.BinOp a .Mult b pos) (c2 mulD f g) := de_op op_mulA od_mul ha hb
theorem de_fdiv (ha : DR X a f) (hb : DR X b g) : DE X (.BinOp a .FloorDiv b pos) (c2 fdivD f g) := de_op op_fdivW od_fdiv ha hb
theorem de_mod (ha : DR X a f) (hb : DR X b g) : DE X (.BinOp a .Mod b pos) (c2 modD f g) := de_op op_mod od_mod ha hb
theorem de_pow (ha : DR X a f) (hb : DR X b g) : DE X (.BinOp a .Pow b pos) (c2 powD f g) := de_op op_pow od_pow ha hb
theorem de_neg (ha : DR X a f) : DE X (.UnaryOp .USub a pos) (c1 negD f) := pe_imp (pe_un un_neg ha) fun σ H Q ⟨B, F0, F, e, d, ok, fe, q⟩ => by
  obtain ⟨x, hx, fe⟩ := bind1 fe
  exact ⟨B, F0, F, e, x, ok, hx, fun v F1 H1 g1 r1 => ud_neg F1 H1 v x d Q g1.fh r1 fe fun w F' H' g3 dp => q w F' H' (g1.trans g3) dp⟩
/-- items -/
theorem de_ix (ha : DR X a f) (hb : DR X b g) (hs : PlainIx b := by exact fun _ _ => rfl) : DE X (.Subscript a b pos) (c2 ixD f g) := pe_imp (pe_ix ix_seq ha hb hs) (dr_read od_ix)
/-- comparisons as values -/
theorem de_cmp {op : CmpOp} {r : R2} {G : D → D → Option D} (ho : OpR X (compareOp op) r) (hd : OpD X.K r G) (ha : DR X a f) (hb : DR X b g) (hm : behindInMarks op b = false) : DE X (.Compare a [op] [b] pos) (c2 G f g) := pe_imp (pe_cmpR ho ha hb hm) (dr_read hd)
theorem de_isN {j : Nat} {p : Pos} (ha : DR X a f) : DE X (.Compare a [.Is] [.Constant .none j p] pos) (c1 isND f) := pe_imp (pe_cmp (pc_isN ha)) fun σ H Q ⟨B, F0, F, e, d, ok, fe, q⟩ => by
  obtain ⟨x, hx, fe⟩ := bind1 fe
  exact ⟨B, F0, F, e, x, ok, hx, fun v F1 H1 g1 r1 => ud_isN F1 H1 v x d Q g1.fh r1 fe fun w F' H' g3 dp => q w F' H' (g1.trans g3) dp⟩
theorem de_notN {j : Nat} {p : Pos} (ha : DR X a f) : DE X (.Compare a [.IsNot] [.Constant .none j p] pos) (c1 notND f) := pe_imp (pe_cmp (pc_notN ha)) fun σ H Q ⟨B, F0, F, e, d, ok, fe, q⟩ => by
  obtain ⟨x, hx, fe⟩ := bind1 fe
  exact ⟨B, F0, F, e, x, ok, hx, fun v F1 H1 g1 r1 => ud_notN F1 H1 v x d Q g1.fh r1 fe fun w F' H' g3 dp => q w F' H' (g1.trans g3) dp⟩
/-- .. as tests -/
theorem tst_read {t : TE} (hd : ∀ σ H Q, TD X.K f σ H Q → t σ H Q) (σ : L2.St) (H : Hp) (Q : Bool → Hp → Prop) (h : TB X.K (tst f) σ H Q) : tTest t σ H Q := by
  obtain ⟨B, F0, F, e, k, ok, fe, q⟩ := h
  obtain ⟨x, hx, fe⟩ := bind1 fe
  refine hd _ _ _ ⟨B, F0, F, e, x, ok, hx, fun v F1 H1 g1 r1 => ?_⟩
  unfold asB at fe
  split at fe
  · cases fe
    exact ⟨k, dp_bl r1, q F1 H1 g1⟩
  · cases fe
theorem dt_cmp {op : CmpOp} {r : R2} {G : D → D → Option D} (ho : OpR X (compareOp op) r) (hd : OpD X.K r G) (ha : DR X a f) (hb : DR X b g) (hm : behindInMarks op b = false) : DT X (.Compare a [op] [b] pos) (tst (c2 G f g)) :=
  pt_imp (pt_cmpR ho ha hb hm) (tst_read (dr_read hd))
theorem dt_isN {j : Nat} {p : Pos} (ha : DR X a f) : DT X (.Compare a [.Is] [.Constant .none j p] pos) (tst (c1 isND f)) := pt_imp (pt_cmp (pc_isN ha)) (tst_read fun σ H Q ⟨B, F0, F, e, d, ok, fe, q⟩ => by
  obtain ⟨x, hx, fe⟩ := bind1 fe
  exact ⟨B, F0, F, e, x, ok, hx, fun v F1 H1 g1 r1 => ud_isN F1 H1 v x d Q g1.fh r1 fe fun w F' H' g3 dp => q w F' H' (g1.trans g3) dp⟩)
theorem dt_notN {j : Nat} {p : Pos} (ha : DR X a f) : DT X (.Compare a [.IsNot] [.Constant .none j p] pos) (tst (c1 notND f)) := pt_imp (pt_cmp (pc_notN ha)) (tst_read fun σ H Q ⟨B, F0, F, e, d, ok, fe, q⟩ => by
  obtain ⟨x, hx, fe⟩ := bind1 fe
  exact ⟨B, F0, F, e, x, ok, hx, fun v F1 H1 g1 r1 => ud_notN F1 H1 v x d Q g1.fh r1 fe fun w F' H' g3 dp => q w F' H' (g1.trans g3) dp⟩)
theorem dt_val {e : Expr} (ha : DE X e f) (he : ∀ whole, isTrue e X.env whole = (do let v ← whole; standAt e.pos; holding [v] (truthy v)) := by intro _; rfl) : DT X e (tst f) := pt_imp (pt_val ha he) (tst_read fun _ _ _ h => h)
/-- chains -/
def chD (G G' : D → D → Option D) (f g h : FE) : FE := fun e => (f e).bind fun x => (g e).bind fun y => (G x y).bind fun z => (asB z).bind fun k => if k = true then (h e).bind fun w => G' y w else some (.bool false)
theorem ch_read {r r' : R2} {G G' : D → D → Option D} (hd : OpD X.K r G) (hd' : OpD X.K r' G') (σ : L2.St) (H : Hp) (Q : VK) (hq : TD X.K (chD G G' f g h) σ H Q) : tChain r r' (TR X.K f) (TR X.K g) (TR X.K h) σ H Q := by
  obtain ⟨B, F0, F, e, d, ok, fe, q⟩ := hq
  obtain ⟨x, y, hx, hy, fe⟩ := bind2 fe
  obtain ⟨z, hz, fe⟩ := bind1 fe
  obtain ⟨k, hk, fe⟩ := bind1 fe
  refine ⟨B, F0, F, e, x, ok, hx, fun v F1 H1 g1 r1 => ⟨B, F0, F1, e, y, ok.grow g1, hy, fun u F2 H2 g2 r2 => ?_⟩⟩
  refine hd F2 H2 v u x y z _ g2.fh (r1.grow g2) r2 hz fun w F' H' g3 dp => ⟨k, ?_, ?_⟩
  · unfold asB at hk
    split at hk
    · cases hk; exact dp_bl dp
    · cases hk
  · cases k with
    | false =>
      simp only [Bool.false_eq_true, if_false] at fe ⊢
      cases fe
      exact q _ F' H' ((g1.trans g2).trans g3) (.bl _)
    | true =>
      simp only [if_true] at fe ⊢
      obtain ⟨w', hw, fe⟩ := bind1 fe
      refine ⟨B, F0, F', e, w', ((ok.grow g1).grow g2).grow g3, hw, fun u' F4 H4 g4 r4 => ?_⟩
      exact hd' F4 H4 u u' y w' d Q g4.fh ((r2.grow g3).grow g4) r4 fe fun w F' H' g5 dp => q w F' H' ((((g1.trans g2).trans g3).trans g4).trans g5) dp
theorem de_chain {op op' : CmpOp} {r r' : R2} {G G' : D → D → Option D} (ho : OpR X (compareOp op) r) (hd : OpD X.K r G) (ho' : OpR X (compareOp op') r') (hd' : OpD X.K r' G') (ha : DR X a f) (hb : DR X b g) (hc : DR X c h)
    (hm : lastMarks [op, op'] [b, c] = false := by with_unfolding_all rfl) : DE X (.Compare a [op, op'] [b, c] pos) (chD G G' f g h) := pe_imp (pe_chain ho ho' ha hb hc hm) (ch_read hd hd')
theorem dt_chain {op op' : CmpOp} {r r' : R2} {G G' : D → D → Option D} (ho : OpR X (compareOp op) r) (hd : OpD X.K r G) (ho' : OpR X (compareOp op') r') (hd' : OpD X.K r' G') (ha : DR X a f) (hb : DR X b g) (hc : DR X c h)
    (hm : lastMarks [op, op'] [b, c] = false := by with_unfolding_all rfl) : DT X (.Compare a [op, op'] [b, c] pos) (tst (chD G G' f g h)) := pt_imp (pt_chain ho ho' ha hb hc hm) (tst_read (ch_read hd hd'))
/-! and, or, not -/
variable {p q : FB} {rest : List Expr}
theorem DW.dt {e : Expr} (h : DW X e p) : DT X e p := PW.pt h
theorem dw_and1 (ha : DT X a p) : DW X (.BoolOp .And [a] pos) p := pw_and1 ha
theorem dw_or1 (ha : DT X a p) : DW X (.BoolOp .Or [a] pos) p := pw_or1 ha
theorem dw_and (ha : DT X a p) (hb : DW X (.BoolOp .And (b :: rest) pos) q) : DW X (.BoolOp .And (a :: b :: rest) pos) (andT p q) := pw_imp (pw_and ha hb) fun σ H Q ⟨B, F0, F, e, k, ok, fe, hq⟩ => by
  obtain ⟨x, hx, fe⟩ := bind1 fe
  refine ⟨B, F0, F, e, x, ok, hx, fun F1 H1 g1 => ?_⟩
  cases x with
  | true => simp only [if_true] at fe ⊢; exact ⟨B, F0, F1, e, k, ok.grow g1, fe, fun F2 H2 g2 => hq F2 H2 (g1.trans g2)⟩
  | false => simp only [Bool.false_eq_true, if_false] at fe ⊢; cases fe; exact hq F1 H1 g1
theorem dw_or (ha : DT X a p) (hb : DW X (.BoolOp .Or (b :: rest) pos) q) : DW X (.BoolOp .Or (a :: b :: rest) pos) (orT p q) := pw_imp (pw_or ha hb) fun σ H Q ⟨B, F0, F, e, k, ok, fe, hq⟩ => by
  obtain ⟨x, hx, fe⟩ := bind1 fe
  refine ⟨B, F0, F, e, x, ok, hx, fun F1 H1 g1 => ?_⟩
  cases x with
  | false => simp only [Bool.false_eq_true, if_false] at fe ⊢; exact ⟨B, F0, F1, e, k, ok.grow g1, fe, fun F2 H2 g2 => hq F2 H2 (g1.trans g2)⟩
  | true => simp only [if_true] at fe ⊢; cases fe; exact hq F1 H1 g1
theorem dt_not (ha : DT X a p) : DT X (.UnaryOp .Not a pos) (notT p) := pt_imp (pt_not ha) fun σ H Q ⟨B, F0, F, e, k, ok, fe, hq⟩ => by
  obtain ⟨x, hx, rfl⟩ := Option.map_eq_some_iff.mp fe
  exact ⟨B, F0, F, e, x, ok, hx, hq⟩
theorem asB_of {F : Hp} {x : D} {k : Bool} {v : V} (h : asB x = some k) (d : Dp X.K F v x) : v = .bl k := by
  unfold asB at h
  split at h
  · cases h; exact dp_bl d
  · cases h
theorem de_one {op : BoolOp} (h : DE X a f) : DE X (.BoolOp op [a] pos) f := pe_one h
theorem de_and (ha : DE X a f) (hb : DE X (.BoolOp .And (b :: rest) pos) g) : DE X (.BoolOp .And (a :: b :: rest) pos) (andV f g) := pe_imp (pe_and ha hb) fun σ H Q ⟨B, F0, F, e, d, ok, fe, hq⟩ => by
  obtain ⟨x, hx, fe⟩ := bind1 fe
  obtain ⟨k, hk, fe⟩ := bind1 fe
  refine ⟨B, F0, F, e, x, ok, hx, fun v F1 H1 g1 d1 => ⟨k, asB_of hk d1, ?_⟩⟩
  cases k with
  | true => simp only [if_true] at fe ⊢; exact ⟨B, F0, F1, e, d, ok.grow g1, fe, fun w F2 H2 g2 => hq w F2 H2 (g1.trans g2)⟩
  | false => simp only [Bool.false_eq_true, if_false] at fe ⊢; cases fe; exact hq _ F1 H1 g1 (.bl _)
theorem de_or (ha : DE X a f) (hb : DE X (.BoolOp .Or (b :: rest) pos) g) : DE X (.BoolOp .Or (a :: b :: rest) pos) (orV f g) := pe_imp (pe_or ha hb) fun σ H Q ⟨B, F0, F, e, d, ok, fe, hq⟩ => by
  obtain ⟨x, hx, fe⟩ := bind1 fe
  obtain ⟨k, hk, fe⟩ := bind1 fe
  refine ⟨B, F0, F, e, x, ok, hx, fun v F1 H1 g1 d1 => ⟨k, asB_of hk d1, ?_⟩⟩
  cases k with
  | false => simp only [Bool.false_eq_true, if_false] at fe ⊢; exact ⟨B, F0, F1, e, d, ok.grow g1, fe, fun w F2 H2 g2 => hq w F2 H2 (g1.trans g2)⟩
  | true => simp only [if_true] at fe ⊢; cases fe; exact hq _ F1 H1 g1 (.bl _)
theorem de_not (ha : DE X a f) : DE X (.UnaryOp .Not a pos) (notV f) := pe_imp (pe_not ha) fun σ H Q ⟨B, F0, F, e, d, ok, fe, hq⟩ => by
  obtain ⟨x, hx, fe⟩ := bind1 fe
  obtain ⟨k, hk, rfl⟩ := Option.map_eq_some_iff.mp fe
  exact ⟨B, F0, F, e, x, ok, hx, fun v F1 H1 g1 d1 => ⟨k, asB_of hk d1, hq _ F1 H1 g1 (.bl _)⟩⟩
theorem de_ife (hc : DT X c p) (ha : DE X a f) (hb : DE X b g) : DE X (.IfExp c a b pos) (ifE p f g) := pe_imp (pe_ifExp hc ha hb) fun σ H Q ⟨B, F0, F, e, d, ok, fe, hq⟩ => by
  obtain ⟨k, hk, fe⟩ := bind1 fe
  refine ⟨B, F0, F, e, k, ok, hk, fun F1 H1 g1 => ?_⟩
  cases k with
  | false => simp only [Bool.false_eq_true, if_false] at fe ⊢; exact ⟨B, F0, F1, e, d, ok.grow g1, fe, fun w F2 H2 g2 => hq w F2 H2 (g1.trans g2)⟩
  | true => simp only [if_true] at fe ⊢; exact ⟨B, F0, F1, e, d, ok.grow g1, fe, fun w F2 H2 g2 => hq w F2 H2 (g1.trans g2)⟩
/-! arguments, displays -/
variable {es : List Expr} {fa : FA}
theorem da_nil : DA X [] nilA := pa_imp pa_nil fun σ H Q ⟨B, F0, F, e, d, ok, fe, hq⟩ => by
  cases fe
  exact hq [] F H (Gr.refl ok.fh) .nil
theorem da_cons (ha : DE X a f) (hr : DA X es fa) (hs : starEach (a :: es) X.env = (false, eval a X.env) :: starEach es X.env := by rfl) : DA X (a :: es) (consA f fa) := pa_imp (pa_cons ha hr hs) fun σ H Q ⟨B, F0, F, e, d, ok, fe, hq⟩ => by
  obtain ⟨x, y, hx, hy, fe⟩ := bind2 fe
  cases fe
  exact ⟨B, F0, F, e, x, ok, hx, fun v F1 H1 g1 d1 => ⟨B, F0, F1, e, y, ok.grow g1, hy, fun vs F2 H2 g2 d2 => hq _ F2 H2 (g1.trans g2) (.cons (dp_mono g2.ff d1) d2)⟩⟩
theorem de_tup {x1 : Nat} (h : DA X es fa) (hl : ∀ e ds, fa e = some ds → ds.length ≤ big) : DE X (.Tuple es x1 pos) (tup fa) := pe_imp (pe_tup h) fun σ H Q ⟨B, F0, F, e, d, ok, fe, hq⟩ => by
  obtain ⟨xs, hx, rfl⟩ := Option.map_eq_some_iff.mp fe
  refine ⟨B, F0, F, e, xs, ok, hx, fun vs F1 H1 g1 d1 => ⟨?_, fun p hp => ?_⟩⟩
  · rw [dpa_len d1]; exact Nat.le_trans (hl _ _ hx) big_line
  · exact Kn.tupN (K := X.K) (fun v F' H' g2 dp => hq v F' H' (g1.trans g2) dp) g1.fh d1 hp
theorem dn_lst (h : DA X es fa) (hl : ∀ e ds, fa e = some ds → ds.length ≤ big) : DN X (.List es pos) fa := pe_imp (pe_lst h) fun σ H Q ⟨B, F0, F, e, xs, ok, hx, hq⟩ => by
  refine ⟨B, F0, F, e, xs, ok, hx, fun vs F1 H1 g1 d1 => ⟨?_, fun p hp => ?_⟩⟩
  · rw [dpa_len d1]; exact Nat.le_trans (hl _ _ hx) big_line
  · exact hq p vs F1 _ (g1.trans (Gr.loose g1.fh hp)) (g1.fb hp) (fresh_back g1.fh hp) upd_same d1
theorem ln_nil : ∀ e ds, nilA e = some ds → ds.length ≤ 0 := fun e ds h => by cases h; exact Nat.le_refl _
theorem ln_cons {n : Nat} (h : ∀ e ds, fa e = some ds → ds.length ≤ n) : ∀ e ds, consA f fa e = some ds → ds.length ≤ n + 1 := fun e ds hx => by
  obtain ⟨x, y, hx, hy, fe⟩ := bind2 hx
  cases fe
  exact Nat.succ_le_succ (h _ _ hy)
theorem ln_big {n : Nat} (h : ∀ e ds, fa e = some ds → ds.length ≤ n) (hn : n ≤ big := by decide) : ∀ e ds, fa e = some ds → ds.length ≤ big := fun e ds hx => Nat.le_trans (h e ds hx) hn
end
end DL

/-! DLay3: statements, targets, loops, comprehensions, defs. -/
namespace DL
open PySem PySem.Spec PyProof.Rows L2 Evl

inductive Fl where
  | nx (e : DEnv) | rt (d : D) | bk (e : DEnv) | ct (e : DEnv)
abbrev FS := DEnv → Option Fl
def Post (K : PySem.W.Frag) (B F0 F : Hp) (D : Ends) : Fl → Prop
  | .nx e => ∀ σ' F' H', Ex F F' → Ok K B F0 F' σ' H' e → D.nx σ' H'
  | .bk e => ∀ σ' F' H', Ex F F' → Ok K B F0 F' σ' H' e → D.bk σ' H'
  | .ct e => ∀ σ' F' H', Ex F F' → Ok K B F0 F' σ' H' e → D.ct σ' H'
  | .rt d => ∀ v F' H', Gr F0 B F' H' → Dp K F' v d → D.rt v H'
theorem Post.mono {K : PySem.W.Frag} {B F0 F F1 : Hp} {D : Ends} {r : Fl} (x : Ex F F1) (h : Post K B F0 F D r) : Post K B F0 F1 D r := by
  cases r with
  | nx e => exact fun σ' F' H' x' => h σ' F' H' (x.trans x')
  | bk e => exact fun σ' F' H' x' => h σ' F' H' (x.trans x')
  | ct e => exact fun σ' F' H' x' => h σ' F' H' (x.trans x')
  | rt d => exact h
def TSm (K : PySem.W.Frag) (f : FS) : TS := fun D σ H => ∃ B F0 F e r, Ok K B F0 F σ H e ∧ f e = some r ∧ Post K B F0 F D r
def DS (X : Cx) (st : Stmt) (f : FS) : Prop := PS X st (TSm X.K f)
def DSs (X : Cx) (st : List Stmt) (f : FS) : Prop := PSs X st (TSm X.K f)

/-! ### denotations -/
def sNx : FS := fun e => some (.nx e)
def sq (f g : FS) : FS := fun e => (f e).bind fun r => match r with
  | .nx e' => g e'
  | .rt d => some (.rt d)
  | .bk e' => some (.bk e')
  | .ct e' => some (.ct e')
def sAsg (i : Nat) (f : FE) : FS := fun e => (f e).map fun d => .nx (e.set i (some (.sh d)))
def sNew (i : Nat) (f : FA) : FS := fun e => (f e).map fun d => .nx (e.set i (some (.ow d)))
def sRet (f : FE) : FS := fun e => (f e).map .rt
def sIf (p : FB) (f g : FS) : FS := fun e => (p e).bind fun b => if b = true then f e else g e
def owAt (i : Nat) (e : DEnv) : Option (List D) := match e[i]? with
  | some (some (.ow xs)) => some xs
  | _ => none
def sApp (i : Nat) (f : FE) : FS := fun e => (f e).bind fun d => (owAt i e).bind fun xs => if sml (xs.length + 1) = true then some (.nx (e.set i (some (.ow (xs ++ [d]))))) else none
def sIns (i : Nat) (g f : FE) : FS := fun e => (g e).bind fun k => (f e).bind fun d => (owAt i e).bind fun xs => match k with
  | .int n => if sml (xs.length + 1) = true ∧ 0 ≤ n ∧ n < 2 ^ 63 then some (.nx (e.set i (some (.ow (xs.take n.toNat ++ [d] ++ xs.drop n.toNat))))) else none
  | _ => none
def sSet (i : Nat) (g f : FE) : FS := fun e => (f e).bind fun d => (g e).bind fun k => (owAt i e).bind fun xs => match k with
  | .int n => (ixN xs.length n).bind fun j => some (.nx (e.set i (some (.ow (xs.set j d)))))
  | _ => none
def seqOf : D → Option (List D)
  | .list xs => some xs
  | .tuple xs => some xs
  | _ => none
def sExt (i : Nat) (f : FE) : FS := fun e => (f e).bind fun d => (seqOf d).bind fun ys => (owAt i e).bind fun xs => if sml (xs.length + ys.length) = true then some (.nx (e.set i (some (.ow (xs ++ ys))))) else none
def frzE (i : Nat) (e : DEnv) : DEnv := match e[i]? with
  | some (some (.ow xs)) => e.set i (some (.sh (.list xs)))
  | some (some (.od ds)) => e.set i (some (.sh (.dict ds)))
  | _ => e
def sFrz (i : Nat) (f : FS) : FS := fun e => f (frzE i e)
abbrev BD := D → DEnv → Option DEnv
def bNm (i : Nat) : BD := fun d e => some (e.set i (some (.sh d)))
def bAll : List BD → List D → DEnv → Option DEnv
  | [], [], e => some e
  | b :: bs, d :: ds, e => (b d e).bind fun e' => bAll bs ds e'
  | _, _, _ => none
def bTp (bs : List BD) : BD := fun d e => match d with
  | .tuple ds => bAll bs ds e
  | _ => none
def sAsgT (b : BD) (f : FE) : FS := fun e => (f e).bind fun d => (b d e).map .nx
def sPar (i j : Nat) (f : FA) : FS := fun e => (f e).bind fun ds => match ds with
  | [v, w] => some (.nx ((e.set i (some (.sh v))).set j (some (.sh w))))
  | _ => none
def forD (b : BD) (body : FS) : List D → DEnv → Option Fl
  | [], e => some (.nx e)
  | d :: ds, e => (b d e).bind fun e1 => (body e1).bind fun r => match r with
    | .nx e2 => forD b body ds e2
    | .ct e2 => forD b body ds e2
    | .bk e2 => some (.nx e2)
    | .rt v => some (.rt v)
def sFor (fi : FA) (b : BD) (body : FS) : FS := fun e => (fi e).bind fun ds => forD b body ds e
def whileD (c : FB) (body : FS) : Nat → DEnv → Option Fl
  | 0, _ => none
  | n + 1, e => (c e).bind fun k => if k = true then (body e).bind fun r => match r with
      | .nx e2 => whileD c body n e2
      | .ct e2 => whileD c body n e2
      | .bk e2 => some (.nx e2)
      | .rt v => some (.rt v)
    else some (.nx e)
def sWhile (μ : DEnv → Nat) (c : FB) (body : FS) : FS := fun e => whileD c body (μ e) e
def wipeE (e : DEnv) : List Nat → DEnv
  | [] => e
  | v :: vs => (wipeE e vs).set v none
def lcGo (b : BD) (t : FB) (el : FE) (e : DEnv) : List D → Option (List D)
  | [] => some []
  | d :: ds => (b d e).bind fun e1 => (t e1).bind fun k => if k = true then (el e1).bind fun x => (lcGo b t el e ds).bind fun xs => some (x :: xs) else lcGo b t el e ds
def yesT : FB := fun _ => some true
def lcD (fi : FA) (b : BD) (t : FB) (el : FE) (vs : List Nat) : FA := fun e => (fi e).bind fun ds => if sml ds.length = true then lcGo b t el (wipeE e vs) ds else none

/-! ### small statements -/
section
variable {X : Cx} {st : Stmt} {rest body body2 : List Stmt} {f g : FS} {e e2 e3 : Expr} {fe fg : FE} {fa : FA} {p : FB} {pos : Pos}
theorem ds_nil : DSs X [] sNx := pss_imp pss_nil fun D σ H ⟨B, F0, F, e, r, ok, fe, q⟩ => by
  cases fe
  exact q σ F H (Ex.refl _) ok
theorem ds_cons (h1 : DS X st f) (h2 : DSs X rest g) : DSs X (st :: rest) (sq f g) := pss_imp (pss_cons h1 h2) fun D σ H ⟨B, F0, F, e, r, ok, fe, q⟩ => by
  obtain ⟨r1, h, fe⟩ := bind1 fe
  refine ⟨B, F0, F, e, r1, ok, h, ?_⟩
  cases r1 with
  | nx e' => exact fun σ' F' H' x ok' => ⟨B, F0, F', e', r, ok', fe, q.mono x⟩
  | rt d => cases fe; exact q
  | bk d => cases fe; exact q
  | ct d => cases fe; exact q
theorem ds_one (h1 : DS X st f) : DSs X [st] f := pss_one h1
theorem ds_pass : DS X (.Pass pos) sNx := ps_imp ps_pass fun D σ H ⟨B, F0, F, e, r, ok, fe, q⟩ => by
  cases fe
  exact q σ F H (Ex.refl _) ok
theorem ds_ret (he : DE X e fe) : DS X (.Return (some e) pos) (sRet fe) := ps_imp (ps_ret he) fun D σ H ⟨B, F0, F, e, r, ok, fr, q⟩ => by
  obtain ⟨d, h, rfl⟩ := Option.map_eq_some_iff.mp fr
  exact ⟨B, F0, F, e, d, ok, h, fun v F' H' g dp => q v F' H' (ok.gr.trans g) dp⟩
theorem ds_if {c : Expr} (hc : DT X c p) (ha : DSs X body f) (hb : DSs X body2 g) : DS X (.If c body body2 pos) (sIf p f g) := ps_imp (ps_if hc ha hb) fun D σ H ⟨B, F0, F, e, r, ok, fr, q⟩ => by
  obtain ⟨k, hk, fr⟩ := bind1 fr
  refine ⟨B, F0, F, e, k, ok, hk, fun F1 H1 g1 => ?_⟩
  cases k with
  | true => simp only [if_true] at fr ⊢; exact ⟨B, F0, F1, e, r, ok.grow g1, fr, q.mono g1.ff⟩
  | false => simp only [Bool.false_eq_true, if_false] at fr ⊢; exact ⟨B, F0, F1, e, r, ok.grow g1, fr, q.mono g1.ff⟩
theorem ds_asg (i : Nat) {x : Str} {pos' : Pos} (hN : X.N.Nodup) (he : DE X e fe) (hi : X.N[i]? = some x := by rfl) (hx : Loc X.env.scope x := by first | exact Or.inl rfl | exact Or.inr rfl) (hs : swapsWith e (some (.Name x pos')) pos.line X.env = pure false := by rfl)
    (hf : X.fn x = true ∨ X.env.scope.names.lookup x = some .local := by first | exact .inl rfl | exact .inr rfl | assumption) : DS X (.Assign [.Name x pos'] e pos) (sAsg i fe) := ps_imp (ps_set hN hi hx he hs hf) fun D σ H ⟨B, F0, F, e, r, ok, fr, q⟩ => by
  obtain ⟨d, h, rfl⟩ := Option.map_eq_some_iff.mp fr
  exact ⟨B, F0, F, e, d, ok, h, fun v F' H' g dp => q _ F' H' g.ff ((ok.grow g).set dp)⟩
theorem Ok.new {K : PySem.W.Frag} {B F0 F F' : Hp} {σ : L2.St} {H H' : Hp} {e : DEnv} {i : Nat} {a : Addr} {vs : List V} {xs : List D} (ok : Ok K B F0 F σ H e) (g : Gr F H F' H') (h1 : H a = none) (h2 : F' a = none) (h3 : H' a = some (.lst vs)) (h4 : DpAll K F' vs xs) :
    Ok K B F0 F' (σ.set i (some (.ref a))) H' (e.set i (some (.ow xs))) :=
  (ok.grow g).setOw (fun j ys b hj hs _ => by
    obtain ⟨a', vs', s1, t1, _⟩ := ok.ow j ys hj
    rw [hs] at s1
    cases s1
    exact ne_of_none t1 h1) h3 (ok.gr.fb h1) h2 h4
theorem ds_new (i : Nat) {x : Str} {pos' : Pos} (hN : X.N.Nodup) (he : DN X e fa) (hi : X.N[i]? = some x := by rfl) (hx : Loc X.env.scope x := by first | exact Or.inl rfl | exact Or.inr rfl) (hs : swapsWith e (some (.Name x pos')) pos.line X.env = pure false := by rfl)
    (hf : X.fn x = true ∨ X.env.scope.names.lookup x = some .local := by first | exact .inl rfl | exact .inr rfl | assumption) : DS X (.Assign [.Name x pos'] e pos) (sNew i fa) := ps_imp (ps_set hN hi hx he hs hf) fun D σ H ⟨B, F0, F, e, r, ok, fr, q⟩ => by
  obtain ⟨d, h, rfl⟩ := Option.map_eq_some_iff.mp fr
  exact ⟨B, F0, F, e, d, ok, h, fun a vs F' H' g h1 h2 h3 h4 => q _ F' H' g.ff (ok.new g h1 h2 h3 h4)⟩
/-- the ghost step: slot i is frozen ahead of the statement -/
theorem tsm_frz {K : PySem.W.Frag} (i : Nat) (D : Ends) (σ : L2.St) (H : Hp) (h : TSm K (sFrz i f) D σ H) : TSm K f D σ H := by
  obtain ⟨B, F0, F, e, r, ok, fr, q⟩ := h
  unfold sFrz frzE at fr
  split at fr
  · rename_i xs he
    obtain ⟨F', x, ok'⟩ := ok.freeze he
    exact ⟨B, F0, F', _, r, ok', fr, q.mono x⟩
  · rename_i xs he
    obtain ⟨F', x, ok'⟩ := ok.freezeD he
    exact ⟨B, F0, F', _, r, ok', fr, q.mono x⟩
  · exact ⟨B, F0, F, e, r, ok, fr, q⟩
theorem ds_frz (i : Nat) (h : DS X st f) : DS X st (sFrz i f) := ps_imp h (tsm_frz i)

/-! ### lists of one's own, changed -/
theorem owAt_some {i : Nat} {e : DEnv} {xs : List D} (h : owAt i e = some xs) : e[i]? = some (some (.ow xs)) := by
  unfold owAt at h
  split at h
  · cases h; assumption
  · cases h
theorem ds_app (i : Nat) {x : Str} {px apos cpos : Pos} (he : DE X e fe) (hi : X.N[i]? = some x := by rfl) (hv : Vis X.env.scope x := by first | exact Or.inl rfl | exact Or.inr (Or.inl rfl) | exact Or.inr (Or.inr rfl)) (hd : (x == ("__debug__" : Str)) = false := by decide)
    (hcd : (x == ("__classdict__" : Str)) = false := by decide) (hbase : attributeBase (.Name x px) "append" X.env (eval (.Name x px) X.env) = eval (.Name x px) X.env := by rfl)
    (hfew : ((backTo cpos (starEach [e] X.env)).all (fun x => !x.1) && (backToKw cpos (keywordEach [] X.env)).all (fun x => x.1.isSome) && decide (([e] : List Expr).length + ([] : List Keyword).length + (if ([] : List Keyword).isEmpty then 0 else 1) < 30)) = true := by rfl)
    (hline : (apos.endLine == cpos.line) = true := by rfl) (hs : starEach [e] X.env = (false, eval e X.env) :: starEach [] X.env := by rfl) (hsw : swapsWith (.Call (.Attribute (.Name x px) "append" apos) [e] [] cpos) none pos.line X.env = pure false := by rfl) :
    DS X (.Expr (.Call (.Attribute (.Name x px) "append" apos) [e] [] cpos) pos) (sApp i fe) :=
  ps_imp (ps_expr (pe_bm PySem.F.plainAttrs_list PySem.F.slot_list_append PySem.F.type_list_append mt_append (pe_var hi hv hd hcd) (pa_cons he pa_nil hs) hbase hfew hline hs rfl) hsw) fun D σ H ⟨B, F0, F, e, r, ok, fr, q⟩ => by
  obtain ⟨d, h, fr⟩ := bind1 fr
  obtain ⟨xs, hx, fr⟩ := bind1 fr
  split at fr
  · rename_i hz
    cases fr
    have hx := owAt_some hx
    obtain ⟨a, vs, h1, h2, h3, h4, h5⟩ := ok.ow i xs hx
    refine ⟨.ref a, h1, .inl ⟨rfl, _, SqL.of h2⟩, B, F0, F, e, d, ok, h, fun v F' H' g dp => ?_⟩
    refine ⟨a, vs, v, rfl, rfl, g.hh _ _ h2, ?_, q σ F' _ g.ff ((ok.grow g).mutOw hx h1 (dpa_append (dpa_mono g.ff h5) (.cons dp .nil)))⟩
    rw [dpa_len h5]
    exact Nat.lt_of_lt_of_le (sml_le hz) big_line
  · cases fr
theorem ds_ins (i : Nat) {x : Str} {px apos cpos : Pos} (he2 : DE X e2 fg) (he : DE X e fe) (hi : X.N[i]? = some x := by rfl) (hv : Vis X.env.scope x := by first | exact Or.inl rfl | exact Or.inr (Or.inl rfl) | exact Or.inr (Or.inr rfl)) (hd : (x == ("__debug__" : Str)) = false := by decide)
    (hcd : (x == ("__classdict__" : Str)) = false := by decide) (hbase : attributeBase (.Name x px) "insert" X.env (eval (.Name x px) X.env) = eval (.Name x px) X.env := by rfl)
    (hfew : ((backTo cpos (starEach [e2, e] X.env)).all (fun x => !x.1) && (backToKw cpos (keywordEach [] X.env)).all (fun x => x.1.isSome) && decide (([e2, e] : List Expr).length + ([] : List Keyword).length + (if ([] : List Keyword).isEmpty then 0 else 1) < 30)) = true := by rfl)
    (hline : (apos.endLine == cpos.line) = true := by rfl) (hs : starEach [e2, e] X.env = (false, eval e2 X.env) :: starEach [e] X.env := by rfl) (hs1 : starEach [e] X.env = (false, eval e X.env) :: starEach [] X.env := by rfl) (hpl : (backTo cpos (starEach [e] X.env)).any (·.1) = false := by rfl)
    (hsw : swapsWith (.Call (.Attribute (.Name x px) "insert" apos) [e2, e] [] cpos) none pos.line X.env = pure false := by rfl) :
    DS X (.Expr (.Call (.Attribute (.Name x px) "insert" apos) [e2, e] [] cpos) pos) (sIns i fg fe) :=
  ps_imp (ps_expr (pe_bm PySem.F.plainAttrs_list PySem.F.slot_list_insert PySem.F.type_list_insert mt_insert (pe_var hi hv hd hcd) (pa_cons he2 (pa_cons he pa_nil hs1) hs) hbase hfew hline hs hpl) hsw) fun D σ H ⟨B, F0, F, e, r, ok, fr, q⟩ => by
  obtain ⟨k, d, hk, h, fr⟩ := bind2 fr
  obtain ⟨xs, hx, fr⟩ := bind1 fr
  split at fr
  · split at fr
    · rename_i hz
      cases fr
      have hx := owAt_some hx
      obtain ⟨a, vs, h1, h2, h3, h4, h5⟩ := ok.ow i xs hx
      refine ⟨.ref a, h1, .inl ⟨rfl, _, SqL.of h2⟩, B, F0, F, e, _, ok, hk, fun v1 F1 H1 g1 dp1 => ⟨B, F0, F1, e, d, ok.grow g1, h, fun v F' H' g dp => ?_⟩⟩
      refine ⟨a, vs, _, v, rfl, by rw [dp_int dp1], g.hh _ _ (g1.hh _ _ h2), ?_, hz.2.1, hz.2.2, q σ F' _ (g1.trans g).ff (((ok.grow g1).grow g).mutOw hx h1 ?_)⟩
      · rw [dpa_len h5]
        exact Nat.lt_of_lt_of_le (sml_le hz.1) big_line
      · have h6 := dpa_mono (g1.trans g).ff h5
        exact dpa_append (dpa_append (dpa_take _ h6) (.cons dp .nil)) (dpa_drop _ h6)
    · cases fr
  · cases fr
/-- x[k] = e -/
theorem ds_set (i : Nat) {x : Str} {px ps : Pos} (he2 : DE X e2 fg) (he : DE X e fe) (hi : X.N[i]? = some x := by rfl) (hv : Vis X.env.scope x := by first | exact Or.inl rfl | exact Or.inr (Or.inl rfl) | exact Or.inr (Or.inr rfl)) (hd : (x == ("__debug__" : Str)) = false := by decide)
    (hcd : (x == ("__classdict__" : Str)) = false := by decide)
    (ha : ∀ v, assign (.Subscript (.Name x px) e2 ps) X.env v = (do
      let ov ← holding [v] (eval (.Name x px) X.env)
      let iv ← holding [v, ov] (eval e2 X.env)
      standAt ps
      holding [v, ov, iv] (setItem ov iv v)
      release [v, ov, iv] []) := by intro _; rfl)
    (hs : swapsWithSole [.Subscript (.Name x px) e2 ps] e pos.line X.env = pure false := by rfl) (hw : swappedStores [.Subscript (.Name x px) e2 ps] e X.env = pure none := by rfl)
    (h1 : (assignEach [.Subscript (.Name x px) e2 ps] X.env).map (·.2) = [assign (.Subscript (.Name x px) e2 ps) X.env] := by rfl) :
    DS X (.Assign [.Subscript (.Name x px) e2 ps] e pos) (sSet i fg fe) :=
  ps_imp (ps_asg he (pg_sub (pe_var hi hv hd hcd) he2 set_list ha) hs hw h1) fun D σ H ⟨B, F0, F, e, r, ok, fr, q⟩ => by
  obtain ⟨d, k, h, hk, fr⟩ := bind2 fr
  obtain ⟨xs, hx, fr⟩ := bind1 fr
  split at fr
  · obtain ⟨j, hj, fr⟩ := bind1 fr
    cases fr
    have hx := owAt_some hx
    refine ⟨B, F0, F, e, d, ok, h, fun v F' H' g dp => ?_⟩
    obtain ⟨a, vs, h1, h2, h3, h4, h5⟩ := (ok.grow g).ow i xs hx
    refine ⟨.ref a, h1, B, F0, F', e, _, ok.grow g, hk, fun v2 F2 H2 g2 dp2 => ?_⟩
    refine ⟨a, vs, _, j, rfl, dp_int dp2, g2.hh _ _ h2, by rw [dpa_len h5]; exact hj, q σ F2 _ (g.trans g2).ff (((ok.grow g).grow g2).mutOw hx h1 (dpa_set (dp_mono g2.ff dp) _ (dpa_mono g2.ff h5)))⟩
  · cases fr

/-! ### targets -/
def TGd (K : PySem.W.Frag) (vs : List Nat) (b : BD) : TG := fun v σ H Q => ∃ B F0 F e d e', Ok K B F0 F σ H e ∧ Dp K F v d ∧ b d e = some e' ∧ ∀ σ', Ok K B F0 F σ' H e' → σ'.length = σ.length → (∀ j, j ∉ vs → σ'[j]? = σ[j]?) → Q σ' H
def DG (X : Cx) (tg : Expr) (vs : List Nat) (b : BD) : Prop := PG X tg (TGd X.K vs b)
def TGsd (K : PySem.W.Frag) (vs : List Nat) (bs : List BD) : TGs := fun ws σ H Q => ∃ B F0 F e ds e', Ok K B F0 F σ H e ∧ DpAll K F ws ds ∧ bAll bs ds e = some e' ∧ ∀ σ', Ok K B F0 F σ' H e' → σ'.length = σ.length → (∀ j, j ∉ vs → σ'[j]? = σ[j]?) → Q σ' H
def DGs (X : Cx) (tgs : List Expr) (vs : List Nat) (bs : List BD) : Prop := PGs X tgs (TGsd X.K vs bs)
theorem pg_imp {tg : Expr} {t t' : TG} (h : PG X tg t) (i : ∀ v σ H Q, t' v σ H Q → t v σ H Q) : PG X tg t' := ⟨fun pins s σ H v u Q I r hw => h.run pins s σ H v u Q I r (i _ _ _ _ hw)⟩
theorem pgs_imp {tg : List Expr} {t t' : TGs} (h : PGs X tg t) (i : ∀ v σ H Q, t' v σ H Q → t v σ H Q) : PGs X tg t' := ⟨fun pins s σ H v u Q I r hw => h.run pins s σ H v u Q I r (i _ _ _ _ hw)⟩
theorem dg_name (i : Nat) {x : Str} (hN : X.N.Nodup) (hi : X.N[i]? = some x := by rfl) (hx : Loc X.env.scope x := by first | exact Or.inl rfl | exact Or.inr rfl) (hf : X.fn x = true ∨ X.env.scope.names.lookup x = some .local := by first | exact .inl rfl | exact .inr rfl | assumption) :
    DG X (.Name x pos) [i] (bNm i) := pg_imp (pg_name hN hi hx hf) fun v σ H Q ⟨B, F0, F, e, d, e', ok, dp, hb, q⟩ => by
  cases hb
  refine q _ (ok.set dp) (by simp) fun j hj => ?_
  rw [List.getElem?_set_ne]
  intro z
  exact hj (by simp [z])
theorem dgs_nil : DGs X [] [] [] := pgs_imp pgs_nil fun v σ H Q ⟨B, F0, F, e, d, e', ok, dp, hb, q⟩ => by
  cases dp with
  | nil => cases hb; exact ⟨rfl, q _ ok rfl fun _ _ => rfl⟩
  | cons => cases hb
theorem dgs_cons {tg : Expr} {tgs : List Expr} {vs ws : List Nat} {b : BD} {bs : List BD} (h1 : DG X tg vs b) (h2 : DGs X tgs ws bs) (hs : (assignEach (tg :: tgs) X.env).map (·.2) = assign tg X.env :: (assignEach tgs X.env).map (·.2) := by rfl) : DGs X (tg :: tgs) (vs ++ ws) (b :: bs) :=
  pgs_imp (pgs_cons h1 h2 hs) fun v σ H Q ⟨B, F0, F, e, d, e', ok, dp, hb, q⟩ => by
  cases dp with
  | nil => cases hb
  | cons h hs =>
    obtain ⟨e1, h1, hb⟩ := bind1 hb
    refine ⟨_, _, rfl, B, F0, F, e, _, e1, ok, h, h1, fun σ1 ok1 l1 k1 => ⟨B, F0, F, e1, _, e', ok1, hs, hb, fun σ2 ok2 l2 k2 => q σ2 ok2 (l2.trans l1) fun j hj => ?_⟩⟩
    rw [List.mem_append, not_or] at hj
    rw [k2 j hj.2, k1 j hj.1]
theorem bAll_len : ∀ {bs : List BD} {ds : List D} {e e' : DEnv}, bAll bs ds e = some e' → bs.length = ds.length
  | [], [], _, _, _ => rfl
  | _ :: bs, _ :: ds, e, e', h => by
    obtain ⟨e1, _, h⟩ := bind1 h
    exact congrArg (· + 1) (bAll_len h)
  | [], _ :: _, _, _, h => by cases h
  | _ :: _, [], _, _, h => by cases h
theorem dg_tup {tgs : List Expr} {k : Nat} {vs : List Nat} {bs : List BD} (hc : X.calm = true) (h : DGs X tgs vs bs) (hn : (assignEach tgs X.env).length = bs.length := by rfl) (hst : (assignEach tgs X.env).findIdx? (·.1) = none := by rfl) : DG X (.Tuple tgs k pos) vs (bTp bs) :=
  pg_imp (pg_tup hc h hn hst) fun v σ H Q ⟨B, F0, F, e, d, e', ok, dp, hb, q⟩ => by
  unfold bTp at hb
  split at hb
  · obtain ⟨a, ws, rfl, s1, d1⟩ := dp_tup dp
    exact ⟨a, ws, rfl, ex_t ok.fh s1, (dpa_len d1).trans (bAll_len hb).symm, B, F0, F, e, _, e', ok, d1, hb, q⟩
  · cases hb
theorem ds_asgT {tg : Expr} {vs : List Nat} {b : BD} (he : DE X e fe) (hg : DG X tg vs b) (hs : swapsWithSole [tg] e pos.line X.env = pure false := by rfl) (hw : swappedStores [tg] e X.env = pure none := by rfl)
    (h1 : (assignEach [tg] X.env).map (·.2) = [assign tg X.env] := by rfl) : DS X (.Assign [tg] e pos) (sAsgT b fe) := ps_imp (ps_asg he hg hs hw h1) fun D σ H ⟨B, F0, F, e, r, ok, fr, q⟩ => by
  obtain ⟨d, h, fr⟩ := bind1 fr
  obtain ⟨e', hb, rfl⟩ := Option.map_eq_some_iff.mp fr
  exact ⟨B, F0, F, e, d, ok, h, fun v F' H' g dp => ⟨B, F0, F', e, d, e', ok.grow g, dp, hb, fun σ' ok' _ _ => q σ' F' H' g.ff ok'⟩⟩
theorem ds_par (i j : Nat) {x y : Str} {px py pt : Pos} {kt k2 pt2} (hc : X.calm = true) (hN : X.N.Nodup) (ha : DA X [e, e2] fa) (hi : X.N[i]? = some x := by rfl) (hj : X.N[j]? = some y := by rfl) (hij : i ≠ j := by decide)
    (hx : X.env.scope.names.lookup x = some .local := by rfl) (hy : X.env.scope.names.lookup y = some .local := by rfl) (hw : swappedStores [.Tuple [.Name x px, .Name y py] kt pt] (.Tuple [e, e2] k2 pt2) X.env = pure (some [x, y]) := by rfl)
    (hs : swapsWithSole [.Tuple [.Name x px, .Name y py] kt pt] (.Tuple [e, e2] k2 pt2) pos.line X.env = pure false := by rfl) : DS X (.Assign [.Tuple [.Name x px, .Name y py] kt pt] (.Tuple [e, e2] k2 pt2) pos) (sPar i j fa) :=
  ps_imp (ps_par hc hN hi hj hij hx hy ha hw hs) fun D σ H ⟨B, F0, F, e, r, ok, fr, q⟩ => by
  obtain ⟨ds, h, fr⟩ := bind1 fr
  split at fr
  · cases fr
    refine ⟨B, F0, F, e, _, ok, h, fun vs F' H' g dp => ?_⟩
    cases dp with
    | cons d1 d2 =>
      cases d2 with
      | cons d2 d3 =>
        cases d3
        exact ⟨_, _, rfl, q _ F' H' g.ff (((ok.grow g).set d1).set d2)⟩
  · cases fr

/-! ### loops -/
/-- J walks ds, as long as G stands -/
def Wlk (K : PySem.W.Frag) (J : It) (G F : Hp) (ds : List D) : Prop := ∀ (i : Nat) F1 H1, i ≤ ds.length → Ex F F1 → Ex F1 H1 → ExT G H1 →
  (∀ d, ds[i]? = some d → J.go i H1 ∧ ∀ x H2, J.yld i H1 x H2 → ∃ F2, Gr F1 H1 F2 H2 ∧ Dp K F2 x d) ∧ (ds[i]? = none → J.stop i H1)
def TId (K : PySem.W.Frag) (f : FA) : TI := fun σ H R => ∃ B F0 F e ds, Ok K B F0 F σ H e ∧ f e = some ds ∧ ∀ J F' H', Gr F H F' H' → Wlk K J F' F' ds → R J H'
def TIr (K : PySem.W.Frag) (f : FA) : TI := fun σ H R => ∃ B F0 F e ds, Ok K B F0 F σ H e ∧ f e = some ds ∧ ∀ J F' H', Gr F H F' H' → Wlk K J H' F' ds → R J H'
def DI (X : Cx) (tg iter : Expr) (f : FA) : Prop := PI X tg iter (TId X.K f)
def DIr (X : Cx) (tg iter : Expr) (f : FA) : Prop := PI X tg iter (TIr X.K f)
theorem pi_imp {tg iter : Expr} {t t' : TI} (h : PI X tg iter t) (i : ∀ σ H R, t' σ H R → t σ H R) : PI X tg iter t' := ⟨fun pins s σ H R I hw => h.run pins s σ H R I (i _ _ _ hw)⟩
theorem DI.r {tg iter : Expr} (h : DI X tg iter fa) : DIr X tg iter fa := pi_imp h fun σ H R ⟨B, F0, F, e, ds, ok, fe, q⟩ => ⟨B, F0, F, e, ds, ok, fe, fun J F' H' g w => q J F' H' g fun i F1 H1 hi x1 x2 x3 => w i F1 H1 hi x1 x2 (.of (x1.trans x2))⟩
theorem ds_for {tg iter : Expr} {vs : List Nat} {b : BD} (hp : PassesOwn (model X.prog X.w) X.A X.env X.xe) (hc : X.calm = true) (hi : DI X tg iter fa) (hg : DG X tg vs b) (hb : DSs X body f) (hs : ∀ x, foldedSetIterable iter X.env x = pure x := by intro _; rfl) :
    DS X (.For tg iter body [] pos) (sFor fa b f) := ps_imp (ps_for hp hc hi hg hb hs) fun D σ H ⟨B, F0, F, e, r, ok, fr, q⟩ => by
  obtain ⟨ds, h, fr⟩ := bind1 fr
  refine ⟨B, F0, F, e, ds, ok, h, fun J F' H' g w => ?_⟩
  refine ⟨fun i m σ1 H1 => ∃ F1 e1, Ok X.K B F0 F1 σ1 H1 e1 ∧ Ex F' F1 ∧ forD b f (ds.drop i) e1 = some r ∧ m = ds.length - i ∧ i ≤ ds.length, ⟨ds.length, F', e, ok.grow g, Ex.refl _, fr, rfl, Nat.zero_le _⟩, ?_⟩
  rintro i m σ1 H1 ⟨F1, e1, ok1, x1, fr1, rfl, hi0⟩
  obtain ⟨w1, w2⟩ := w i F1 H1 hi0 x1 ok1.fh (.of (x1.trans ok1.fh))
  cases hd : ds[i]? with
  | none =>
    have hl : ds.length ≤ i := List.getElem?_eq_none_iff.mp hd
    rw [List.drop_eq_nil_of_le hl] at fr1
    cases fr1
    exact .inl ⟨w2 hd, q σ1 F1 H1 (g.ff.trans x1) ok1⟩
  | some d =>
    have hl : i < ds.length := (List.getElem?_eq_some_iff.mp hd).1
    have hd' : ds[i] = d := (List.getElem?_eq_some_iff.mp hd).2
    rw [List.drop_eq_getElem_cons hl, hd'] at fr1
    obtain ⟨go, yl⟩ := w1 d hd
    obtain ⟨e2, hb2, fr1⟩ := bind1 fr1
    obtain ⟨r2, hr2, fr1⟩ := bind1 fr1
    refine .inr ⟨go, fun σ2 H2 => ∃ F2 e2, Ok X.K B F0 F2 σ2 H2 e2 ∧ Ex F' F2 ∧ forD b f (ds.drop (i + 1)) e2 = some r, fun σ' H' ⟨F2, e2, a1, a2, a3⟩ => ⟨ds.length - (i + 1), by omega, F2, e2, a1, a2, a3, rfl, hl⟩, fun x H2 hy => ?_⟩
    obtain ⟨F2, g2, dp⟩ := yl x H2 hy
    refine ⟨B, F0, F2, e1, d, e2, ok1.grow g2, dp, hb2, fun σ3 ok3 _ _ => ⟨B, F0, F2, e2, r2, ok3, hr2, ?_⟩⟩
    cases r2 with
    | nx e3 => exact fun σ' F'' H'' x' ok' => ⟨F'', e3, ok', (x1.trans g2.ff).trans x', fr1⟩
    | ct e3 => exact fun σ' F'' H'' x' ok' => ⟨F'', e3, ok', (x1.trans g2.ff).trans x', fr1⟩
    | bk e3 => cases fr1; exact fun σ' F'' H'' x' ok' => q σ' F'' H'' (((g.ff.trans x1).trans g2.ff).trans x') ok'
    | rt d => cases fr1; exact q
theorem ds_while {c : Expr} (μ : DEnv → Nat) (hp : PassesOwn (model X.prog X.w) X.A X.env X.xe) (hc : DT X c p) (hb : DSs X body f) : DS X (.While c body [] pos) (sWhile μ p f) := ps_imp (ps_while hp hc hb) fun D σ H ⟨B, F0, F, e, r, ok, fr, q⟩ => by
  refine ⟨fun m σ1 H1 => ∃ F1 e1, Ok X.K B F0 F1 σ1 H1 e1 ∧ Ex F F1 ∧ whileD p f m e1 = some r, ⟨μ e, F, e, ok, Ex.refl _, fr⟩, ?_⟩
  rintro m σ1 H1 ⟨F1, e1, ok1, x1, fr1⟩
  cases m with
  | zero => cases fr1
  | succ m =>
    obtain ⟨k, hk, fr1⟩ := bind1 fr1
    refine ⟨B, F0, F1, e1, k, ok1, hk, fun F2 H2 g2 => ?_⟩
    cases k with
    | false =>
      simp only [Bool.false_eq_true, if_false] at fr1 ⊢
      cases fr1
      exact q σ1 F2 H2 (x1.trans g2.ff) (ok1.grow g2)
    | true =>
      simp only [if_true] at fr1 ⊢
      obtain ⟨r2, hr2, fr1⟩ := bind1 fr1
      refine ⟨fun σ2 H2 => ∃ F2 e2, Ok X.K B F0 F2 σ2 H2 e2 ∧ Ex F F2 ∧ whileD p f m e2 = some r, fun σ' H' h => ⟨m, Nat.lt_succ_self _, h⟩, B, F0, F2, e1, r2, ok1.grow g2, hr2, ?_⟩
      cases r2 with
      | nx e3 => exact fun σ' F'' H'' x' ok' => ⟨F'', e3, ok', (x1.trans g2.ff).trans x', fr1⟩
      | ct e3 => exact fun σ' F'' H'' x' ok' => ⟨F'', e3, ok', (x1.trans g2.ff).trans x', fr1⟩
      | bk e3 => cases fr1; exact fun σ' F'' H'' x' ok' => q σ' F'' H'' ((x1.trans g2.ff).trans x') ok'
      | rt d => cases fr1; exact q
end
end DL

/-! DLay4: comprehensions, what is walked, built-ins, defs. -/
namespace DL
open PySem PySem.Spec PyProof.Rows L2 Evl

/-! ### comprehensions -/
theorem wipe_eq {σ σ' : L2.St} {vs : List Nat} (h : ∀ j, j ∉ vs → σ'[j]? = σ[j]?) (hl : σ'.length = σ.length) : wipe σ' vs = wipe σ vs := by
  apply List.ext_getElem?
  intro j
  have key : ∀ (τ : L2.St) (ws : List Nat), j ∈ ws → (wipe τ ws)[j]? = if j < τ.length then some none else none := by
    intro τ ws
    induction ws with
    | nil => intro h; simp at h
    | cons w ws ih =>
      intro hm
      unfold wipe
      by_cases hw : w = j
      · subst hw
        by_cases hlt : w < τ.length
        · rw [List.getElem?_set_self (by rw [wipe_length]; exact hlt), if_pos hlt]
        · rw [if_neg hlt, List.getElem?_eq_none]; rw [List.length_set, wipe_length]; omega
      · rw [List.getElem?_set_ne hw]
        rcases List.mem_cons.mp hm with e | e
        · exact absurd e.symm hw
        · exact ih e
  by_cases hj : j ∈ vs
  · rw [key σ' vs hj, key σ vs hj, hl]
  · rw [wipe_out hj, wipe_out hj, h j hj]
section
variable {K : PySem.W.Frag} {B F0 F F' : Hp} {σ : L2.St} {H H' : Hp} {e : DEnv}
theorem Ok.wipe (o : Ok K B F0 F σ H e) : ∀ vs : List Nat, Ok K B F0 F (L2.wipe σ vs) H (wipeE e vs)
  | [] => o
  | v :: vs => (o.wipe vs).del
end
section
variable {X : Cx} {e : Expr} {fe : FE} {fa : FA} {p : FB} {pos : Pos}
def DTs (X : Cx) (ifs : List Expr) (f : FB) : Prop := PTs X ifs (TB X.K f)
theorem dts_nil : DTs X [] yesT := ⟨fun pins s σ H Q I ⟨B, F0, F, e, b, ok, fe, q⟩ => by
  cases fe
  exact pts_nil.run pins s σ H Q I (q F H (Gr.refl ok.fh))⟩
theorem dts_one {c : Expr} (h : DT X c p) : DTs X [c] p := pts_one h
/-- the reading of a comprehension -/
theorem lc_read {K : PySem.W.Frag} {b : BD} {ws vs : List Nat} (hw : ∀ j, j ∈ ws → j ∈ vs) (σ : L2.St) (H : Hp) (Q : VK) (h : TN K (lcD fa b p fe vs) σ H Q) : tLc (TIr K fa) (TGd K ws b) (TB K p) (TD K fe) vs σ H Q := by
  obtain ⟨B, F0, F, e, xs, ok, fr, q⟩ := h
  obtain ⟨ds, hd, fr⟩ := bind1 fr
  split at fr
  · rename_i hz
    refine ⟨B, F0, F, e, ds, ok, hd, fun J Fp Hs g w D hD => ?_⟩
    refine ⟨fun i m H1 => ∃ F1 acc ys zs, Gr Fp Hs F1 H1 ∧ H1 D = some (.lst acc) ∧ F1 D = none ∧ DpAll K F1 acc ys ∧ ys.length ≤ i ∧ lcGo b p fe (wipeE e vs) (ds.drop i) = some zs ∧ xs = ys ++ zs ∧ m = ds.length - i ∧ i ≤ ds.length,
      ⟨ds.length, Fp, [], [], xs, Gr.loose g.fh hD, upd_same, fresh_back g.fh hD, .nil, Nat.le_refl _, fr, rfl, rfl, Nat.zero_le _⟩, ?_⟩
    rintro i m H1 ⟨F1, acc, ys, zs, g1, hD1, hF1, dp1, hy, fr1, rfl, rfl, hi⟩
    have ok1 := ((ok.grow g).grow g1).wipe vs
    obtain ⟨w1, w2⟩ := w i F1 H1 hi g1.ff g1.fh g1.hx
    cases hd : ds[i]? with
    | none =>
      have hl : ds.length ≤ i := List.getElem?_eq_none_iff.mp hd
      rw [List.drop_eq_nil_of_le hl] at fr1
      cases fr1
      refine .inl ⟨w2 hd, q D acc F1 H1 (g.trans g1) (g.fb hD) hF1 hD1 ?_⟩
      rw [List.append_nil]
      exact dp1
    | some d =>
      have hl : i < ds.length := (List.getElem?_eq_some_iff.mp hd).1
      have hd' : ds[i] = d := (List.getElem?_eq_some_iff.mp hd).2
      rw [List.drop_eq_getElem_cons hl, hd'] at fr1
      obtain ⟨go, yl⟩ := w1 d hd
      obtain ⟨e2, hb2, fr1⟩ := bind1 fr1
      obtain ⟨k, hk, fr1⟩ := bind1 fr1
      refine .inr ⟨go, fun H2 => ∃ F2 acc ys zs', Gr Fp Hs F2 H2 ∧ H2 D = some (.lst acc) ∧ F2 D = none ∧ DpAll K F2 acc ys ∧ ys.length ≤ i + 1 ∧ lcGo b p fe (wipeE e vs) (ds.drop (i + 1)) = some zs' ∧ _ = ys ++ zs', fun H2 ⟨F2, acc2, ys2, zs2, a1, a2, a3, a4, a5, a6, a7⟩ => ⟨ds.length - (i + 1), by omega, F2, acc2, ys2, zs2, a1, a2, a3, a4, a5, a6, a7, rfl, hl⟩, fun x H2 hy2 => ?_⟩
      obtain ⟨F2, g2, dp⟩ := yl x H2 hy2
      refine ⟨B, F0, F2, wipeE e vs, d, e2, ok1.grow g2, dp, hb2, fun σ3 ok3 l3 k3 => ⟨?_, B, F0, F2, e2, k, ok3, hk, fun F3 H3 g3 => ?_⟩⟩
      · have e1 : wipe σ3 vs = wipe (wipe σ vs) vs := wipe_eq (fun j hj => k3 j fun z => hj (hw j z)) l3
        rw [e1]
        exact wipe_eq (fun j hj => wipe_out hj) (wipe_length _ _)
      · have g03 := (g1.trans g2).trans g3
        have hF3 : F3 D = none := by rw [(g2.trans g3).nf _ _ hD1]; exact hF1
        cases k with
        | false =>
          simp only [Bool.false_eq_true, if_false] at fr1 ⊢
          exact ⟨F3, acc, ys, zs, g03, (g2.trans g3).hh _ _ hD1, hF3, dpa_mono (g2.trans g3).ff dp1, Nat.le_succ_of_le hy, fr1, rfl⟩
        | true =>
          simp only [if_true] at fr1 ⊢
          obtain ⟨x', zs', hx', hzs', fr1⟩ := bind2 fr1
          cases fr1
          refine ⟨B, F0, F3, e2, x', ok3.grow g3, hx', fun v F4 H4 g4 dp4 => ⟨acc, ((g2.trans g3).trans g4).hh _ _ hD1, ?_, ?_⟩⟩
          · rw [dpa_len dp1]
            exact Nat.lt_of_lt_of_le (Nat.lt_of_le_of_lt hy hl) (Nat.le_trans (sml_le hz) big_line)
          · have hF4 : F4 D = none := by rw [((g2.trans g3).trans g4).nf _ _ hD1]; exact hF1
            refine ⟨F4, acc ++ [v], ys ++ [x'], zs', (g03.trans g4).mut hD hF4 (((g2.trans g3).trans g4).hh _ _ hD1), upd_same, hF4, dpa_append (dpa_mono ((g2.trans g3).trans g4).ff dp1) (.cons dp4 .nil), ?_, hzs', by simp⟩
            rw [List.length_append, List.length_singleton]
            exact Nat.succ_le_succ hy
  · cases fr

variable {elt tg iter : Expr} {ifs : List Expr} {scope : Scope} {own : List (Str × Nat)} {ws : List Nat} {b : BD}
theorem dn_lc (own : List (Str × Nat)) (hc : X.calm = true) (hN : X.N.Nodup) (hi : DIr X tg iter fa) (ok : BlkOk X.N X.env.scope scope own)
    (hg : ∀ (s : Shared) (H : Hp) (C : Addr) (cl : List (Str × Addr)) (fp : List Addr), DG (X.blk s H scope (compEnvC scope cl C X.env) fp) tg ws b) (ht : ∀ (s : Shared) (H : Hp) (C : Addr) (cl : List (Str × Addr)) (fp : List Addr), DTs (X.blk s H scope (compEnvC scope cl C X.env) fp) ifs p)
    (he : ∀ (s : Shared) (H : Hp) (C : Addr) (cl : List (Str × Addr)) (fp : List Addr), DE (X.blk s H scope (compEnvC scope cl C X.env) fp) elt fe) (hw : ∀ j, j ∈ ws → j ∈ own.map (·.2) := by decide) (hs : ∀ x, foldedSetIterable iter X.env x = pure x := by intro _; rfl) :
    DN X (.ListComp elt [⟨tg, iter, ifs, 0⟩] scope pos) (lcD fa b p fe (own.map (·.2))) := pe_imp (pe_lc (g := TGd X.K ws b) (tt := TB X.K p) (te := TD X.K fe) hc hN hi ok hg ht he hs) (lc_read hw)
/-- y = [..] on one line, y a local: frozen, or a list of its own -/
theorem ds_lc (i : Nat) {y : Str} {py spos : Pos} (own : List (Str × Nat)) (hc : X.calm = true) (hN : X.N.Nodup) (hi : DIr X tg iter fa) (ok : BlkOk X.N X.env.scope scope own)
    (hg : ∀ (s : Shared) (H : Hp) (C : Addr) (cl : List (Str × Addr)) (fp : List Addr), DG (X.blk s H scope (compEnvC scope cl C X.env) fp) tg ws b) (ht : ∀ (s : Shared) (H : Hp) (C : Addr) (cl : List (Str × Addr)) (fp : List Addr), DTs (X.blk s H scope (compEnvC scope cl C X.env) fp) ifs p)
    (he : ∀ (s : Shared) (H : Hp) (C : Addr) (cl : List (Str × Addr)) (fp : List Addr), DE (X.blk s H scope (compEnvC scope cl C X.env) fp) elt fe) (hw : ∀ j, j ∈ ws → j ∈ own.map (·.2) := by decide) (hy : X.N[i]? = some y := by rfl) (hyl : X.env.scope.names.lookup y = some .local := by rfl)
    (hsw : swapsWith (.ListComp elt [⟨tg, iter, ifs, 0⟩] scope pos) (some (.Name y py)) spos.line X.env = pure true := by exact sw_true rfl rfl rfl (by decide +kernel)) (hs : ∀ x, foldedSetIterable iter X.env x = pure x := by intro _; rfl) :
    DS X (.Assign [.Name y py] (.ListComp elt [⟨tg, iter, ifs, 0⟩] scope pos) spos) (sAsg i (lstE (lcD fa b p fe (own.map (·.2))))) := ps_imp (ps_setLc (g := TGd X.K ws b) (tt := TB X.K p) (te := TD X.K fe) hc hN hy hyl hsw hi ok hg ht he hs) fun D σ H ⟨B, F0, F, e, r, okk, fr, q⟩ => by
  obtain ⟨d, h, rfl⟩ := Option.map_eq_some_iff.mp fr
  obtain ⟨xs, hx, rfl⟩ := Option.map_eq_some_iff.mp h
  refine lc_read hw _ _ _ ⟨B, F0, F, e, xs, okk, hx, fun a vs F' H' g h1 h2 h3 h4 => ?_⟩
  have x : Ex F' (upd F' a (.lst vs)) := Ex.new h2
  have g' := g.frz h1 h2 h3
  exact q _ _ H' g'.ff ((okk.grow g').set (.lst (SqL.of upd_same) (dpa_mono x h4)))
theorem ds_lcN (i : Nat) {y : Str} {py spos : Pos} (own : List (Str × Nat)) (hc : X.calm = true) (hN : X.N.Nodup) (hi : DIr X tg iter fa) (ok : BlkOk X.N X.env.scope scope own)
    (hg : ∀ (s : Shared) (H : Hp) (C : Addr) (cl : List (Str × Addr)) (fp : List Addr), DG (X.blk s H scope (compEnvC scope cl C X.env) fp) tg ws b) (ht : ∀ (s : Shared) (H : Hp) (C : Addr) (cl : List (Str × Addr)) (fp : List Addr), DTs (X.blk s H scope (compEnvC scope cl C X.env) fp) ifs p)
    (he : ∀ (s : Shared) (H : Hp) (C : Addr) (cl : List (Str × Addr)) (fp : List Addr), DE (X.blk s H scope (compEnvC scope cl C X.env) fp) elt fe) (hw : ∀ j, j ∈ ws → j ∈ own.map (·.2) := by decide) (hy : X.N[i]? = some y := by rfl) (hyl : X.env.scope.names.lookup y = some .local := by rfl)
    (hsw : swapsWith (.ListComp elt [⟨tg, iter, ifs, 0⟩] scope pos) (some (.Name y py)) spos.line X.env = pure true := by exact sw_true rfl rfl rfl (by decide +kernel)) (hs : ∀ x, foldedSetIterable iter X.env x = pure x := by intro _; rfl) :
    DS X (.Assign [.Name y py] (.ListComp elt [⟨tg, iter, ifs, 0⟩] scope pos) spos) (sNew i (lcD fa b p fe (own.map (·.2)))) := ps_imp (ps_setLc (g := TGd X.K ws b) (tt := TB X.K p) (te := TD X.K fe) hc hN hy hyl hsw hi ok hg ht he hs) fun D σ H ⟨B, F0, F, e, r, okk, fr, q⟩ => by
  obtain ⟨xs, hx, rfl⟩ := Option.map_eq_some_iff.mp fr
  exact lc_read hw _ _ _ ⟨B, F0, F, e, xs, okk, hx, fun a vs F' H' g h1 h2 h3 h4 => q _ F' H' g.ff (okk.new g h1 h2 h3 h4)⟩
end

/-! ### what is walked -/
def itemsD : D → Option (List D)
  | .list xs => some xs
  | .tuple xs => some xs
  | .str z => some (z.cps.toList.map fun c => .str ⟨#[c]⟩)
  | _ => none
def itA (f : FE) : FA := fun e => (f e).bind itemsD
def rngL (lo hi : Int) : List D := (List.range (hi - lo).toNat).map fun i : Nat => PyData.int (lo + (i : Int))
def rngOk (i : Int) : Bool := decide (-(2 ^ 62) ≤ i) && decide (i < 2 ^ 62)
def rng1D : D → Option (List D)
  | .int j => if rngOk j = true then some (rngL 0 j) else none
  | _ => none
def rng2D : D → D → Option (List D)
  | .int i, .int j => if rngOk i = true ∧ rngOk j = true then some (rngL i j) else none
  | _, _ => none
def rg1 (f : FE) : FA := fun e => (f e).bind rng1D
def rg2 (f g : FE) : FA := fun e => (f e).bind fun x => (g e).bind fun y => rng2D x y
section
variable {K : PySem.W.Frag} {G F : Hp} {a : Addr} {vs : List V} {ds : List D}
theorem wlk_list (h : SqL K G a vs) (dp : DpAll K F vs ds) : Wlk K (Itl K a) G F ds := fun i F1 H1 hi0 x1 x2 x3 => by
  have s := ext_l x3 h
  refine ⟨fun d hd => ?_, fun hd => ⟨vs, s, ?_⟩⟩
  · obtain ⟨v, hv, dv⟩ := dpa_get dp hd
    refine ⟨⟨vs, v, s, hv⟩, fun x H2 ⟨e, hy⟩ => ?_⟩
    subst e
    have : v = x := Option.some.inj (hv.symm.trans (hy vs s))
    subst this
    exact ⟨F1, Gr.refl x2, dp_mono x1 dv⟩
  · rw [dpa_len dp]; exact List.getElem?_eq_none_iff.mp hd
theorem wlk_tup (h : SqT K G a vs) (dp : DpAll K F vs ds) : Wlk K (Itt K a) G F ds := fun i F1 H1 hi0 x1 x2 x3 => by
  have s := ext_t x3 h
  refine ⟨fun d hd => ?_, fun hd => ⟨vs, s, ?_⟩⟩
  · obtain ⟨v, hv, dv⟩ := dpa_get dp hd
    refine ⟨⟨vs, v, s, hv⟩, fun x H2 ⟨e, hy⟩ => ?_⟩
    subst e
    have : v = x := Option.some.inj (hv.symm.trans (hy vs s))
    subst this
    exact ⟨F1, Gr.refl x2, dp_mono x1 dv⟩
  · rw [dpa_len dp]; exact List.getElem?_eq_none_iff.mp hd
theorem wlk_str (z : Str) : Wlk K (Its z) G F (z.cps.toList.map fun c => .str ⟨#[c]⟩) := fun i F1 H1 hi0 x1 x2 x3 => by
  refine ⟨fun d hd => ?_, fun hd => ?_⟩
  · rw [List.getElem?_map] at hd
    obtain ⟨c, hc, rfl⟩ := Option.map_eq_some_iff.mp hd
    have hc' : z.cps[i]? = some c := by simpa using hc
    refine ⟨(Array.getElem?_eq_some_iff.mp hc').1, fun x H2 ⟨e, c', hc2, hx⟩ => ?_⟩
    subst e hx
    rw [hc'] at hc2
    cases hc2
    exact ⟨F1, Gr.refl x2, .str _⟩
  · rw [List.getElem?_map] at hd
    have := Option.map_eq_none_iff.mp hd
    show z.cps.size ≤ i
    have := List.getElem?_eq_none_iff.mp this
    simpa using this
theorem wlk_rng (lo hi : Int) : Wlk K (Itr lo (hi - lo).toNat) G F (rngL lo hi) := fun i F1 H1 hi0 x1 x2 x3 => by
  unfold rngL
  refine ⟨fun d hd => ?_, fun hd => ?_⟩
  · rw [List.getElem?_map] at hd
    obtain ⟨c, hc, rfl⟩ := Option.map_eq_some_iff.mp hd
    obtain ⟨hl, he⟩ := List.getElem?_eq_some_iff.mp hc
    rw [List.length_range] at hl
    rw [List.getElem_range] at he
    subst he
    refine ⟨hl, fun x H2 ⟨e, hx⟩ => ?_⟩
    subst e hx
    exact ⟨F1, Gr.refl x2, .int _⟩
  · have := List.getElem?_eq_none_iff.mp hd
    rw [List.length_map, List.length_range] at this
    exact this
end
section
variable {X : Cx} {e e2 tg : Expr} {f g : FE} {p pos : Pos}
/-- anything that can be walked -/
theorem pi_any {te : TE} (h : PE X e te) : PI X tg e (fun σ H R => te σ H fun x H1 => (∃ a, x = .ref a ∧ (∃ xs, SqL X.K H1 a xs) ∧ R (Itl X.K a) H1) ∨ (∃ a, x = .ref a ∧ (∃ xs, SqT X.K H1 a xs) ∧ R (Itt X.K a) H1) ∨ ∃ z, x = .str z ∧ R (Its z) H1) := by
  refine ⟨fun pins s σ H R I hw => ?_⟩
  refine thn (h.run pins s σ H _ I hw) fun v s1 ⟨x, H1, I1, r1, q1⟩ => ?_
  rcases q1 with ⟨a, rfl, ⟨xs, hq⟩, q⟩ | ⟨a, rfl, ⟨xs, hq⟩, q⟩ | ⟨z, rfl, q⟩
  · cases r1
    obtain ⟨its, rv, p, hz⟩ := I1.list hq
    refine wpAny_pyIter_list p.isList ?_
    refine ⟨s1.heap.objs.size, [s1.heap.objs.size], _, _, H1, rfl, I1.kept (t' := s1.toks) fun b o e => Heap.get?_push_of_some _ e, turn_list a _, ⟨_, Heap.get?_push_size _ rfl, rfl, rfl⟩, fun b hb => ?_, q⟩
    have e : b = s1.heap.objs.size := by simpa using hb
    subst e
    exact I1.fpOk (Nat.le_refl _) (I1.hok.fresh (Nat.le_refl _))
  · cases r1
    obtain ⟨its, rv, p, hz⟩ := I1.tuple hq
    refine wpAny_pyIter_tuple (show s1.heap.IsTuple a its.toArray from p) ?_
    refine ⟨s1.heap.objs.size, [s1.heap.objs.size], _, _, H1, rfl, I1.kept (t' := s1.toks) fun b o e => Heap.get?_push_of_some _ e, turn_tuple a _, ⟨_, Heap.get?_push_size _ rfl, rfl, rfl⟩, fun b hb => ?_, q⟩
    have e : b = s1.heap.objs.size := by simpa using hb
    subst e
    exact I1.fpOk (Nat.le_refl _) (I1.hok.fresh (Nat.le_refl _))
  · obtain ⟨t, rfl⟩ := r1
    cases ha : z.cps.all (· < 128)
    · exact wpAny_pyIter_wide ha (pi_one (tk := s1.toks) I1 _ (turn_str _ z t "str_iterator" (.inr rfl)) ⟨_, Heap.get?_push_size _ rfl, rfl, rfl⟩ q)
    · exact wpAny_pyIter_ascii ha (pi_one (tk := s1.toks) I1 _ (turn_str _ z t "str_ascii_iterator" (.inl rfl)) ⟨_, Heap.get?_push_size _ rfl, rfl, rfl⟩ q)
theorem di_any (h : DE X e f) : DI X tg e (itA f) := pi_imp (pi_any h) fun σ H R ⟨B, F0, F, e, ds, ok, fe, q⟩ => by
  obtain ⟨d, hd, fe⟩ := bind1 fe
  refine ⟨B, F0, F, e, d, ok, hd, fun v F' H' g dp => ?_⟩
  unfold itemsD at fe
  split at fe
  · cases fe
    obtain ⟨a, vs, rfl, h1, h2⟩ := dp_lst dp
    exact .inl ⟨a, rfl, ⟨vs, ex_l g.fh h1⟩, q _ F' H' g (wlk_list h1 h2)⟩
  · cases fe
    obtain ⟨a, vs, rfl, h1, h2⟩ := dp_tup dp
    exact .inr (.inl ⟨a, rfl, ⟨vs, ex_t g.fh h1⟩, q _ F' H' g (wlk_tup h1 h2)⟩)
  · cases fe
    exact .inr (.inr ⟨_, dp_str dp, q _ F' H' g (wlk_str _)⟩)
  · cases fe
theorem dir_any (h : DR X e f) : DIr X tg e (itA f) := pi_imp (pi_any h) fun σ H R ⟨B, F0, F, e, ds, ok, fe, q⟩ => by
  obtain ⟨d, hd, fe⟩ := bind1 fe
  refine ⟨B, F0, F, e, d, ok, hd, fun v F' H' g dp => ?_⟩
  unfold itemsD at fe
  split at fe
  · cases fe
    obtain ⟨a, vs, rfl, h1, h2⟩ := dp.lst g.fh
    exact .inl ⟨a, rfl, ⟨vs, h1⟩, q _ F' H' g (wlk_list h1 h2)⟩
  · cases fe
    obtain ⟨a, vs, rfl, h1, h2⟩ := dp.tup g.fh
    exact .inr (.inl ⟨a, rfl, ⟨vs, h1⟩, q _ F' H' g (wlk_tup h1 h2)⟩)
  · cases fe
    exact .inr (.inr ⟨_, rs_str dp, q _ F' H' g (wlk_str _)⟩)
  · cases fe
theorem di_rng1 (hm : X.mg "range" = none) (h : DE X e f) (hg : Gl X "range" := by rfl) (hs : starEach [e] X.env = [(false, eval e X.env)] := by rfl) : DI X tg (.Call (.Name "range" p) [e] [] pos) (rg1 f) := pi_imp (pi_range1 hg hm (pa_cons h pa_nil hs) hs) fun σ H R ⟨B, F0, F, e, ds, ok, fe, q⟩ => by
  obtain ⟨d, hd, fe⟩ := bind1 fe
  refine ⟨B, F0, F, e, d, ok, hd, fun v F' H' g dp => ?_⟩
  unfold rng1D at fe
  split at fe
  · rename_i j
    split at fe
    · rename_i hz
      cases fe
      unfold rngOk at hz
      simp only [Bool.and_eq_true, decide_eq_true_eq] at hz
      refine ⟨j, by rw [dp_int dp], hz.1, hz.2, q _ F' H' g ?_⟩
      have := wlk_rng (K := X.K) (G := F') (F := F') 0 j
      simpa using this
    · cases fe
  · cases fe
theorem di_rng2 (hm : X.mg "range" = none) (h : DE X e f) (h2 : DE X e2 g) (hg : Gl X "range" := by rfl) (hs : starEach [e, e2] X.env = [(false, eval e X.env), (false, eval e2 X.env)] := by rfl) (hs2 : starEach [e2] X.env = [(false, eval e2 X.env)] := by rfl) :
    DI X tg (.Call (.Name "range" p) [e, e2] [] pos) (rg2 f g) := pi_imp (pi_range2 hg hm (pa_cons h (pa_cons h2 pa_nil hs2) (by rw [hs, hs2])) hs hs2) fun σ H R ⟨B, F0, F, e, ds, ok, fe, q⟩ => by
  obtain ⟨d, d2, hd, hd2, fe⟩ := bind2 fe
  refine ⟨B, F0, F, e, d, ok, hd, fun v F1 H1 g1 dp1 => ⟨B, F0, F1, e, d2, ok.grow g1, hd2, fun v2 F' H' g2 dp2 => ?_⟩⟩
  unfold rng2D at fe
  split at fe
  · rename_i i j
    split at fe
    · rename_i hz
      cases fe
      unfold rngOk at hz
      simp only [Bool.and_eq_true, decide_eq_true_eq] at hz
      exact ⟨i, j, by rw [dp_int dp1, dp_int dp2], ⟨hz.1.1, hz.1.2, hz.2.1, hz.2.2⟩, q _ F' H' (g1.trans g2) (wlk_rng i j)⟩
    · cases fe
  · cases fe
end
end DL

/-! DLay5: built-ins, defs. -/
namespace DL
open PySem PySem.Spec PyProof.Rows L2 Evl

def asInts : List D → Option (List Int)
  | [] => some []
  | .int n :: r => (asInts r).map (n :: ·)
  | _ :: _ => none
def asBools : List D → Option (List Bool)
  | [] => some []
  | .bool n :: r => (asBools r).map (n :: ·)
  | _ :: _ => none
def asStrs : List D → Option (List Str)
  | [] => some []
  | .str n :: r => (asStrs r).map (n :: ·)
  | _ :: _ => none
theorem asInts_map : ∀ ns : List Int, asInts (ns.map PyData.int) = some ns
  | [] => rfl
  | n :: ns => by show (asInts (ns.map PyData.int)).map _ = _; rw [asInts_map ns]; rfl
theorem asBools_map : ∀ ns : List Bool, asBools (ns.map PyData.bool) = some ns
  | [] => rfl
  | n :: ns => by show (asBools (ns.map PyData.bool)).map _ = _; rw [asBools_map ns]; rfl
theorem asStrs_map : ∀ ns : List Str, asStrs (ns.map PyData.str) = some ns
  | [] => rfl
  | n :: ns => by show (asStrs (ns.map PyData.str)).map _ = _; rw [asStrs_map ns]; rfl
theorem asInts_of : ∀ {ds : List D} {ns : List Int}, asInts ds = some ns → ds = ns.map PyData.int
  | [], ns, h => by cases h; rfl
  | .int n :: r, ns, h => by
    obtain ⟨ms, e, rfl⟩ := Option.map_eq_some_iff.mp h
    rw [asInts_of e]; rfl
  | .none :: _, _, h => by cases h
  | .bool _ :: _, _, h => by cases h
  | .str _ :: _, _, h => by cases h
  | .list _ :: _, _, h => by cases h
  | .tuple _ :: _, _, h => by cases h
  | .dict _ :: _, _, h => by cases h
theorem asBools_of : ∀ {ds : List D} {ns : List Bool}, asBools ds = some ns → ds = ns.map PyData.bool
  | [], ns, h => by cases h; rfl
  | .bool n :: r, ns, h => by
    obtain ⟨ms, e, rfl⟩ := Option.map_eq_some_iff.mp h
    rw [asBools_of e]; rfl
  | .none :: _, _, h => by cases h
  | .int _ :: _, _, h => by cases h
  | .str _ :: _, _, h => by cases h
  | .list _ :: _, _, h => by cases h
  | .tuple _ :: _, _, h => by cases h
  | .dict _ :: _, _, h => by cases h
theorem asStrs_of : ∀ {ds : List D} {ns : List Str}, asStrs ds = some ns → ds = ns.map PyData.str
  | [], ns, h => by cases h; rfl
  | .str n :: r, ns, h => by
    obtain ⟨ms, e, rfl⟩ := Option.map_eq_some_iff.mp h
    rw [asStrs_of e]; rfl
  | .none :: _, _, h => by cases h
  | .int _ :: _, _, h => by cases h
  | .bool _ :: _, _, h => by cases h
  | .list _ :: _, _, h => by cases h
  | .tuple _ :: _, _, h => by cases h
  | .dict _ :: _, _, h => by cases h

def lenD : D → Option D
  | .list xs => some (.int xs.length)
  | .tuple xs => some (.int xs.length)
  | .str z => if sml z.length = true then some (.int z.length) else none
  | _ => none
def sumD : D → Option D
  | .list xs => (asInts xs).map fun ns => .int ns.sum
  | .tuple xs => (asInts xs).map fun ns => .int ns.sum
  | _ => none
def maxD : D → Option D
  | .list xs => (asInts xs).bind fun ns => ns.max?.map PyData.int
  | _ => none
def minD : D → Option D
  | .list xs => (asInts xs).bind fun ns => ns.min?.map PyData.int
  | _ => none
def anyD : D → Option D
  | .list xs => (asBools xs).map fun ns => .bool (ns.any id)
  | _ => none
def allD : D → Option D
  | .list xs => (asBools xs).map fun ns => .bool (ns.all id)
  | _ => none
def tupleD : D → Option D
  | .list xs => some (.tuple xs)
  | .tuple xs => some (.tuple xs)
  | _ => none
def absD : D → Option D
  | .int i => some (.int (if i < 0 then -i else i))
  | _ => none
def max2D : D → D → Option D
  | .int i, .int j => some (.int (if j > i then j else i))
  | _, _ => none
def min2D : D → D → Option D
  | .int i, .int j => some (.int (if j < i then j else i))
  | _, _ => none
def intD : D → Option D
  | .int i => some (.int i)
  | .bool b => some (.int (if b then 1 else 0))
  | _ => none
def strD : D → Option D
  | .int i => if i.natAbs < 2 ^ 1000 then some (.str (toString i)) else none
  | .none => some (.str "None")
  | .bool b => some (.str (if b then "True" else "False"))
  | _ => none
inductive Ty | int | bool | str | tuple | list
def isiD : Ty → D → Option D
  | .int, .int _ => some (.bool true)
  | .int, .bool _ => some (.bool true)
  | .bool, .bool _ => some (.bool true)
  | .str, .str _ => some (.bool true)
  | .tuple, .tuple _ => some (.bool true)
  | .list, .list _ => some (.bool true)
  | _, .dict _ => none
  | _, _ => some (.bool false)
def Ty.nm : Ty → String
  | .int => "int" | .bool => "bool" | .str => "str" | .tuple => "tuple" | .list => "list"

section
variable {X : Cx} {e e2 : Expr} {es : List Expr} {f g : FE} {fa : FA} {x : Str} {p pos : Pos}
def CD1 (K : PySem.W.Frag) (r : List V → Hp → VK → Prop) (g : D → Option D) : Prop := ∀ F H x a d Q, Ex F H → Rs K F H x a → g a = some d → Kn K F H d Q → r [x] H Q
def CD2 (K : PySem.W.Frag) (r : List V → Hp → VK → Prop) (g : D → D → Option D) : Prop := ∀ F H x y a b d Q, Ex F H → Rs K F H x a → Rs K F H y b → g a b = some d → Kn K F H d Q → r [x, y] H Q
theorem cd1_read {r : List V → Hp → VK → Prop} {G : D → Option D} (hd : CD1 X.K r G) (σ : L2.St) (H : Hp) (Q : VK) (h : TD X.K (c1 G f) σ H Q) : tCB r (tCons (TR X.K f) tNil) σ H Q := by
  obtain ⟨B, F0, F, e, d, ok, fe, q⟩ := h
  obtain ⟨x, hx, fe⟩ := bind1 fe
  exact ⟨B, F0, F, e, x, ok, hx, fun v F1 H1 g1 r1 => hd F1 H1 v x d Q g1.fh r1 fe fun w F' H' g3 dp => q w F' H' (g1.trans g3) dp⟩
theorem cd2_read {r : List V → Hp → VK → Prop} {G : D → D → Option D} (hd : CD2 X.K r G) (σ : L2.St) (H : Hp) (Q : VK) (h : TD X.K (c2 G f g) σ H Q) : tCB r (tCons (TR X.K f) (tCons (TR X.K g) tNil)) σ H Q := by
  obtain ⟨B, F0, F, e, d, ok, fe, q⟩ := h
  obtain ⟨x, y, hx, hy, fe⟩ := bind2 fe
  refine ⟨B, F0, F, e, x, ok, hx, fun v F1 H1 g1 r1 => ⟨B, F0, F1, e, y, ok.grow g1, hy, fun u F2 H2 g2 r2 => ?_⟩⟩
  exact hd F2 H2 v u x y d Q g2.fh (r1.grow g2) r2 fe fun w F' H' g3 dp => q w F' H' ((g1.trans g2).trans g3) dp
theorem de_b1 {id : String} {r : List V → Hp → VK → Prop} {G : D → Option D} (hc : CallR X (.builtin id) r) (hd : CD1 X.K r G) (hv : bootBuiltins x = some (.builtin id)) (hm : X.mg x = none) (h : DR X e f) (hg : Gl X x) (hn : x ≠ "__name__") (hdb : (x == ("__debug__" : Str)) = false)
    (hs : starEach [e] X.env = (false, eval e X.env) :: starEach [] X.env) : DE X (.Call (.Name x p) [e] [] pos) (c1 G f) := pe_imp (pe_callB hc hg hm hv (pa_cons h pa_nil hs) hn hdb hs rfl) (cd1_read hd)
theorem de_t1 {T : String} {r : List V → Hp → VK → Prop} {G : D → Option D} (hc : CallR X (.type T) r) (hd : CD1 X.K r G) (hv : bootBuiltins x = some (.type T)) (hm : X.mg x = none) (h : DR X e f) (hg : Gl X x) (hn : x ≠ "__name__") (hdb : (x == ("__debug__" : Str)) = false)
    (hs : starEach [e] X.env = (false, eval e X.env) :: starEach [] X.env) : DE X (.Call (.Name x p) [e] [] pos) (c1 G f) := pe_imp (pe_callTy hc hg hm hv (pa_cons h pa_nil hs) hn hdb hs rfl) (cd1_read hd)
theorem de_b2 {id : String} {r : List V → Hp → VK → Prop} {G : D → D → Option D} (hc : CallR X (.builtin id) r) (hd : CD2 X.K r G) (hv : bootBuiltins x = some (.builtin id)) (hm : X.mg x = none) (h : DR X e f) (h2 : DR X e2 g) (hg : Gl X x) (hn : x ≠ "__name__") (hdb : (x == ("__debug__" : Str)) = false)
    (hs : starEach [e, e2] X.env = (false, eval e X.env) :: starEach [e2] X.env) (hs2 : starEach [e2] X.env = (false, eval e2 X.env) :: starEach [] X.env) (hpl : (backTo pos (starEach [e2] X.env)).any (·.1) = false) : DE X (.Call (.Name x p) [e, e2] [] pos) (c2 G f g) :=
  pe_imp (pe_callB hc hg hm hv (pa_cons h (pa_cons h2 pa_nil hs2) hs) hn hdb hs hpl) (cd2_read hd)

theorem cd_len {K : PySem.W.Frag} : CD1 K (fun xs H Q => ∃ x n, xs = [x] ∧ LenV K x H n ∧ Q (.int n) H) lenD := by
  intro F H x a d Q xf ha hg q
  unfold lenD at hg
  split at hg
  · cases hg
    obtain ⟨p, vs, rfl, h1, h2⟩ := ha.lst xf
    exact ⟨_, _, rfl, .inl ⟨vs, h1, rfl⟩, by rw [dpa_len h2]; exact q.now xf (.int _)⟩
  · cases hg
    obtain ⟨p, vs, rfl, h1, h2⟩ := ha.tup xf
    exact ⟨_, _, rfl, .inr ⟨vs, h1, rfl⟩, by rw [dpa_len h2]; exact q.now xf (.int _)⟩
  · split at hg
    · rename_i hz
      cases hg
      rw [rs_str ha]
      exact ⟨_, _, rfl, ⟨Nat.le_trans (sml_le hz) big_line, rfl⟩, q.now xf (.int _)⟩
    · cases hg
  · cases hg
theorem sumT_raw {prog : Program} {w : World} {A : Around} {E : Value → Shared → Prop} {s : Shared} {l : Addr} {its : List Value} {ns : List Int} {Q : Value → Shared → Prop} (hh : A.handled = none) (hl : s.heap.IsTuple l its.toArray) (hi : IntsAre its ns)
    (h : ∀ h' tk t', (∀ b o, s.heap.get? b = some o → h'.get? b = some o) → Q (.int ns.sum t') { s with heap := h', toks := tk }) : wpAny (model prog w) A (call (.builtin "sum") [.ref l]) Q E s := by
  obtain ⟨xs, e⟩ := hi.allInts.items
  have hn : numsOf (intItems xs).toList = ns := by rw [← e]; exact hi.numsOf
  rw [nums_intItems] at hn
  rw [e] at hl
  have hlt : l < s.heap.objs.size := by obtain ⟨_, e, _⟩ := hl; exact Heap.lt_size e
  refine call_sum_walkG (wpAny_pyIter_tuple hl ?_)
  refine ⟨s.heap.objs.size, [s.heap.objs.size, l], [s.heap.objs.size], _, _, _, numAt xs, rfl, Walks.tuple (A := A.in1) hh _ l (Nat.ne_of_lt hlt) (intItems xs), ⟨⟨_, Heap.get?_push_size _ rfl, rfl, rfl⟩, hl.at fun o e => Heap.get?_push_of_some _ e⟩, fun b hb => ?_, (fun _ _ => intItems_at), fun h' tk t' hk => ?_⟩
  · show b < (s.heap.push _).objs.size
    rw [Heap.size_push]
    rcases List.mem_cons.mp hb with rfl | hb
    · exact Nat.lt_succ_self _
    · rcases List.mem_cons.mp hb with rfl | hb
      · exact Nat.lt_succ_of_lt hlt
      · cases hb
  · have hk' : ∀ b o, s.heap.get? b = some o → h'.get? b = some o := fun b o e => by
      refine hk b o (fun hm => ?_) (Heap.get?_push_of_some _ e)
      rcases List.mem_cons.mp hm with e1 | hm
      · exact absurd (e1 ▸ Heap.lt_size e) (Nat.lt_irrefl _)
      · cases hm
    have := h h' tk t' hk'
    have e2 : (intItems xs).size = xs.size := by simp [intItems]
    rw [e2, preSum_eq, List.take_of_length_le (by simp), hn]
    exact this
def rSumA (K : PySem.W.Frag) : List V → Hp → VK → Prop := fun vs H Q => rSum K vs H Q ∨ ∃ (a : Addr) (ns : List Int), vs = [V.ref a] ∧ SqT K H a (ns.map V.int) ∧ Q (.int ns.sum) H
theorem cr_sumA {X : Cx} (hc : X.calm = true) : CallR X (.builtin "sum") (rSumA X.K) := by
  intro pins s σ H vs us Q I r h
  rcases h with h | h
  · exact cr_sum hc pins s σ H vs us Q I r h
  · obtain ⟨a, ns, rfl, hs, q⟩ := h
    obtain ⟨its, rv, hl, _⟩ := I.tuple hs
    rw [Vals.ref1 r]
    exact sumT_raw (I.ok.hd hc) hl rv.ints fun h' tk t' hk => ⟨.int _, H, I.kept hk, ⟨_, rfl⟩, q⟩
theorem cd_sum {K : PySem.W.Frag} : CD1 K (rSumA K) sumD := by
  intro F H x a d Q xf ha hg q
  unfold sumD at hg
  split at hg
  · obtain ⟨ns, e, rfl⟩ := Option.map_eq_some_iff.mp hg
    obtain ⟨p, vs, rfl, h1, h2⟩ := ha.lst xf
    rw [asInts_of e] at h2
    have := dpa_map_int h2
    subst this
    exact .inl ⟨p, ns, rfl, h1, q.now xf (.int _)⟩
  · obtain ⟨ns, e, rfl⟩ := Option.map_eq_some_iff.mp hg
    obtain ⟨p, vs, rfl, h1, h2⟩ := ha.tup xf
    rw [asInts_of e] at h2
    have := dpa_map_int h2
    subst this
    exact .inr ⟨p, ns, rfl, h1, q.now xf (.int _)⟩
  · cases hg
theorem cd_max {K : PySem.W.Frag} : CD1 K (rMax K) maxD := by
  intro F H x a d Q xf ha hg q
  unfold maxD at hg
  split at hg
  · obtain ⟨ns, e, hg⟩ := bind1 hg
    obtain ⟨M, hM, rfl⟩ := Option.map_eq_some_iff.mp hg
    obtain ⟨p, vs, rfl, h1, h2⟩ := ha.lst xf
    rw [asInts_of e] at h2
    have := dpa_map_int h2
    subst this
    have hM' := List.max?_eq_some_iff.mp hM
    refine ⟨p, ns, rfl, h1, List.length_pos_of_mem hM'.1, fun m hm hle => ?_⟩
    have : m = M := Int.le_antisymm (hM'.2 m hm) (hle M hM'.1)
    subst this
    exact q.now xf (.int _)
  · cases hg
theorem cd_min {K : PySem.W.Frag} : CD1 K (rMin K) minD := by
  intro F H x a d Q xf ha hg q
  unfold minD at hg
  split at hg
  · obtain ⟨ns, e, hg⟩ := bind1 hg
    obtain ⟨M, hM, rfl⟩ := Option.map_eq_some_iff.mp hg
    obtain ⟨p, vs, rfl, h1, h2⟩ := ha.lst xf
    rw [asInts_of e] at h2
    have := dpa_map_int h2
    subst this
    have hM' := List.min?_eq_some_iff.mp hM
    refine ⟨p, ns, rfl, h1, List.length_pos_of_mem hM'.1, fun m hm hle => ?_⟩
    have : m = M := Int.le_antisymm (hle M hM'.1) (hM'.2 m hm)
    subst this
    exact q.now xf (.int _)
  · cases hg
theorem cd_any {K : PySem.W.Frag} : CD1 K (rAny K) anyD := by
  intro F H x a d Q xf ha hg q
  unfold anyD at hg
  split at hg
  · obtain ⟨ns, e, rfl⟩ := Option.map_eq_some_iff.mp hg
    obtain ⟨p, vs, rfl, h1, h2⟩ := ha.lst xf
    rw [asBools_of e] at h2
    have := dpa_map_bl h2
    subst this
    exact ⟨p, ns, rfl, h1, q.now xf (.bl _)⟩
  · cases hg
theorem cd_all {K : PySem.W.Frag} : CD1 K (rAll K) allD := by
  intro F H x a d Q xf ha hg q
  unfold allD at hg
  split at hg
  · obtain ⟨ns, e, rfl⟩ := Option.map_eq_some_iff.mp hg
    obtain ⟨p, vs, rfl, h1, h2⟩ := ha.lst xf
    rw [asBools_of e] at h2
    have := dpa_map_bl h2
    subst this
    exact ⟨p, ns, rfl, h1, q.now xf (.bl _)⟩
  · cases hg
theorem cd_tuple {K : PySem.W.Frag} : CD1 K (fun xs H Q => ∃ p ys, xs = [.ref p] ∧ ((SqL K H p ys ∧ ∀ l, H l = none → Q (.ref l) (upd H l (.tup ys))) ∨ (SqT K H p ys ∧ Q (.ref p) H))) tupleD := by
  intro F H x a d Q xf ha hg q
  unfold tupleD at hg
  split at hg
  · cases hg
    obtain ⟨p, vs, rfl, h1, h2⟩ := ha.lst xf
    exact ⟨p, vs, rfl, .inl ⟨h1, fun l hl => q.tupN xf h2 hl⟩⟩
  · cases hg
    have ha' := rs_tupF ha
    obtain ⟨p, vs, rfl, h1, h2⟩ := dp_tup ha'
    exact ⟨p, vs, rfl, .inr ⟨ex_t xf h1, q.now xf ha'⟩⟩
  · cases hg
theorem cd_abs {K : PySem.W.Frag} : CD1 K (fun xs H Q => ∃ i, xs = [.int i] ∧ Q (.int (if i < 0 then -i else i)) H) absD := by
  intro F H x a d Q xf ha hg q
  unfold absD at hg
  split at hg
  · cases hg
    rw [rs_int ha]
    exact ⟨_, rfl, q.now xf (.int _)⟩
  · cases hg
theorem cd_max2 {K : PySem.W.Frag} : CD2 K (fun xs H Q => ∃ i j, xs = [.int i, .int j] ∧ Q (.int (if j > i then j else i)) H) max2D := by
  intro F H x y a b d Q xf ha hb hg q
  unfold max2D at hg
  split at hg
  · cases hg
    rw [rs_int ha, rs_int hb]
    exact ⟨_, _, rfl, q.now xf (.int _)⟩
  · cases hg
theorem cd_min2 {K : PySem.W.Frag} : CD2 K (fun xs H Q => ∃ i j, xs = [.int i, .int j] ∧ Q (.int (if j < i then j else i)) H) min2D := by
  intro F H x y a b d Q xf ha hb hg q
  unfold min2D at hg
  split at hg
  · cases hg
    rw [rs_int ha, rs_int hb]
    exact ⟨_, _, rfl, q.now xf (.int _)⟩
  · cases hg
theorem cd_int {K : PySem.W.Frag} : CD1 K (fun xs H Q => (∃ i, xs = [.int i] ∧ Q (.int i) H) ∨ ∃ k, xs = [.bl k] ∧ Q (.int (if k then 1 else 0)) H) intD := by
  intro F H x a d Q xf ha hg q
  unfold intD at hg
  split at hg
  · cases hg
    rw [rs_int ha]
    exact .inl ⟨_, rfl, q.now xf (.int _)⟩
  · cases hg
    rw [rs_bl ha]
    exact .inr ⟨_, rfl, q.now xf (.int _)⟩
  · cases hg
def rStrA : List V → Hp → VK → Prop := fun xs H Q => (∃ i, xs = [.int i] ∧ i.natAbs.log2 < 1920 ∧ Q (.str (toString i)) H) ∨ (xs = [.non] ∧ Q (.str "None") H) ∨ ∃ b, xs = [.bl b] ∧ Q (.str (if b then "True" else "False")) H
theorem call_strA {X : Cx} : CallR X (.type "str") rStrA := by
  intro pins s σ H xs us Q I r h
  rcases h with h | ⟨rfl, q⟩ | ⟨b, rfl, q⟩
  · exact call_str_int pins s σ H xs us Q I r h
  · obtain ⟨u, rfl, r1⟩ := vals1 r
    cases r1
    exact PySem.P.str_of_none ⟨.str "None", H, I.tok _, ⟨_, rfl⟩, q⟩
  · obtain ⟨u, rfl, r1⟩ := vals1 r
    cases r1
    refine PySem.P.str_of_bool ⟨.str (if b then "True" else "False"), H, I.tok _, ⟨s.toks, ?_⟩, q⟩
    cases b <;> rfl
theorem cd_str {K : PySem.W.Frag} : CD1 K rStrA strD := by
  intro F H x a d Q xf ha hg q
  unfold strD at hg
  split at hg
  · split at hg
    · rename_i hz
      cases hg
      rw [rs_int ha]
      exact .inl ⟨_, rfl, Nat.lt_trans (PySem.Flt.log2_lt_of (by decide) hz) (by decide), q.now xf (.str _)⟩
    · cases hg
  · cases hg
    have hn : x = .non := by
      rcases ha with h | ⟨_, _, _, _, h, _⟩
      · exact dp_non h
      · cases h
    rw [hn]
    exact .inr (.inl ⟨rfl, q.now xf (.str _)⟩)
  · cases hg
    rw [rs_bl ha]
    exact .inr (.inr ⟨_, rfl, q.now xf (.str _)⟩)
  · cases hg

theorem de_len (hm : X.mg "len" = none) (h : DR X e f) (hg : Gl X "len" := by rfl) (hs : starEach [e] X.env = (false, eval e X.env) :: starEach [] X.env := by rfl) : DE X (.Call (.Name "len" p) [e] [] pos) (c1 lenD f) := de_b1 call_len cd_len PySem.boot_len hm h hg (by decide) (by decide) hs
theorem de_sum (hc : X.calm = true) (hm : X.mg "sum" = none) (h : DR X e f) (hg : Gl X "sum" := by rfl) (hs : starEach [e] X.env = (false, eval e X.env) :: starEach [] X.env := by rfl) : DE X (.Call (.Name "sum" p) [e] [] pos) (c1 sumD f) := de_b1 (cr_sumA hc) cd_sum (by decide +kernel) hm h hg (by decide) (by decide) hs
theorem de_max (hc : X.calm = true) (hm : X.mg "max" = none) (h : DR X e f) (hg : Gl X "max" := by rfl) (hs : starEach [e] X.env = (false, eval e X.env) :: starEach [] X.env := by rfl) : DE X (.Call (.Name "max" p) [e] [] pos) (c1 maxD f) := de_b1 (cr_max hc) cd_max (by decide +kernel) hm h hg (by decide) (by decide) hs
theorem de_min (hc : X.calm = true) (hm : X.mg "min" = none) (h : DR X e f) (hg : Gl X "min" := by rfl) (hs : starEach [e] X.env = (false, eval e X.env) :: starEach [] X.env := by rfl) : DE X (.Call (.Name "min" p) [e] [] pos) (c1 minD f) := de_b1 (cr_min hc) cd_min (by decide +kernel) hm h hg (by decide) (by decide) hs
theorem de_any (hc : X.calm = true) (hm : X.mg "any" = none) (h : DR X e f) (hg : Gl X "any" := by rfl) (hs : starEach [e] X.env = (false, eval e X.env) :: starEach [] X.env := by rfl) : DE X (.Call (.Name "any" p) [e] [] pos) (c1 anyD f) := de_b1 (cr_any hc) cd_any (by decide +kernel) hm h hg (by decide) (by decide) hs
theorem de_all (hc : X.calm = true) (hm : X.mg "all" = none) (h : DR X e f) (hg : Gl X "all" := by rfl) (hs : starEach [e] X.env = (false, eval e X.env) :: starEach [] X.env := by rfl) : DE X (.Call (.Name "all" p) [e] [] pos) (c1 allD f) := de_b1 (cr_all hc) cd_all (by decide +kernel) hm h hg (by decide) (by decide) hs
theorem de_abs (hm : X.mg "abs" = none) (h : DR X e f) (hg : Gl X "abs" := by rfl) (hs : starEach [e] X.env = (false, eval e X.env) :: starEach [] X.env := by rfl) : DE X (.Call (.Name "abs" p) [e] [] pos) (c1 absD f) := de_b1 call_abs cd_abs (by decide +kernel) hm h hg (by decide) (by decide) hs
theorem de_tuple (hm : X.mg "tuple" = none) (h : DR X e f) (hg : Gl X "tuple" := by rfl) (hs : starEach [e] X.env = (false, eval e X.env) :: starEach [] X.env := by rfl) : DE X (.Call (.Name "tuple" p) [e] [] pos) (c1 tupleD f) := de_t1 call_tuple_of cd_tuple (by decide +kernel) hm h hg (by decide) (by decide) hs
theorem de_toint (hm : X.mg "int" = none) (h : DR X e f) (hg : Gl X "int" := by rfl) (hs : starEach [e] X.env = (false, eval e X.env) :: starEach [] X.env := by rfl) : DE X (.Call (.Name "int" p) [e] [] pos) (c1 intD f) := de_t1 call_int1 cd_int (by decide +kernel) hm h hg (by decide) (by decide) hs
theorem de_tostr (hm : X.mg "str" = none) (h : DR X e f) (hg : Gl X "str" := by rfl) (hs : starEach [e] X.env = (false, eval e X.env) :: starEach [] X.env := by rfl) : DE X (.Call (.Name "str" p) [e] [] pos) (c1 strD f) := de_t1 call_strA cd_str (by decide +kernel) hm h hg (by decide) (by decide) hs
theorem de_max2 (hc : X.calm = true) (hm : X.mg "max" = none) (h : DR X e f) (h2 : DR X e2 g) (hg : Gl X "max" := by rfl) (hs : starEach [e, e2] X.env = (false, eval e X.env) :: starEach [e2] X.env := by rfl) (hs2 : starEach [e2] X.env = (false, eval e2 X.env) :: starEach [] X.env := by rfl) (hpl : (backTo pos (starEach [e2] X.env)).any (·.1) = false := by rfl) :
    DE X (.Call (.Name "max" p) [e, e2] [] pos) (c2 max2D f g) := de_b2 (call_max2 hc) cd_max2 (by decide +kernel) hm h h2 hg (by decide) (by decide) hs hs2 hpl
theorem de_min2 (hc : X.calm = true) (hm : X.mg "min" = none) (h : DR X e f) (h2 : DR X e2 g) (hg : Gl X "min" := by rfl) (hs : starEach [e, e2] X.env = (false, eval e X.env) :: starEach [e2] X.env := by rfl) (hs2 : starEach [e2] X.env = (false, eval e2 X.env) :: starEach [] X.env := by rfl) (hpl : (backTo pos (starEach [e2] X.env)).any (·.1) = false := by rfl) :
    DE X (.Call (.Name "min" p) [e, e2] [] pos) (c2 min2D f g) := de_b2 (call_min2 hc) cd_min2 (by decide +kernel) hm h h2 hg (by decide) (by decide) hs hs2 hpl
/-- list(..): a new list -/
def seqA (f : FE) : FA := fun e => (f e).bind seqOf
theorem dn_list (hm : X.mg "list" = none) (h : DR X e f) (hg : Gl X "list" := by rfl) (hs : starEach [e] X.env = (false, eval e X.env) :: starEach [] X.env := by rfl) : DN X (.Call (.Name "list" p) [e] [] pos) (seqA f) :=
  pe_imp (pe_callTy call_list_of hg hm (by decide +kernel) (pa_cons h pa_nil hs) (by decide) (by decide) hs rfl) fun σ H Q ⟨B, F0, F, e, xs, ok, fe, q⟩ => by
  obtain ⟨d, hd, fe⟩ := bind1 fe
  refine ⟨B, F0, F, e, d, ok, hd, fun v F' H' g dp => ?_⟩
  unfold seqOf at fe
  split at fe
  · cases fe
    obtain ⟨a, vs, rfl, h1, h2⟩ := dp.lst g.fh
    exact ⟨a, vs, rfl, .inl h1, fun l hl => q l vs F' _ (g.trans (Gr.loose g.fh hl)) (g.fb hl) (fresh_back g.fh hl) upd_same h2⟩
  · cases fe
    obtain ⟨a, vs, rfl, h1, h2⟩ := dp.tup g.fh
    exact ⟨a, vs, rfl, .inr h1, fun l hl => q l vs F' _ (g.trans (Gr.loose g.fh hl)) (g.fb hl) (fresh_back g.fh hl) upd_same h2⟩
  · cases fe
/-- list(range(..)), tuple(range(..)) -/
def rgSmall (i : Int) : Bool := decide (0 ≤ i) && decide (i ≤ 100000)
def rgS1 : D → Option (List D)
  | .int j => if rgSmall j = true then some (rngL 0 j) else none
  | _ => none
def rgS2 : D → D → Option (List D)
  | .int i, .int j => if rgSmall i = true ∧ rgSmall j = true then some (rngL i j) else none
  | _, _ => none
theorem rgSmall_ok {i j : Int} (h : rgSmall i = true) (h2 : rgSmall j = true) : RgOk i j := by
  unfold rgSmall at h h2
  simp only [Bool.and_eq_true, decide_eq_true_eq] at h h2
  have : big = 100000 := rfl
  exact RgOk.of_le h.1 (by omega) (by omega) h2.1
theorem dpa_rng {K : PySem.W.Frag} {F : Hp} (i j : Int) : DpAll K F (rgV i j) (rngL i j) := by
  have : rgV i j = ((List.range (j - i).toNat).map fun k : Nat => i + (k : Int)).map V.int := by unfold rgV; rw [List.map_map]; rfl
  rw [this]
  have e : rngL i j = ((List.range (j - i).toNat).map fun k : Nat => i + (k : Int)).map PyData.int := by unfold rngL; rw [List.map_map]; rfl
  rw [e]
  exact dpa_ints _
def lr1 (f : FE) : FA := fun e => (f e).bind rgS1
def lr2 (f g : FE) : FA := fun e => (f e).bind fun x => (g e).bind fun y => rgS2 x y
theorem dn_listRg {p2 pos2 : Pos} (hc : X.calm = true) (hm : X.mg "list" = none) (hm2 : X.mg "range" = none) (h : DE X e f) (hg : Gl X "list" := by rfl) (hg2 : Gl X "range" := by rfl) (hs : starEach [e] X.env = (false, eval e X.env) :: starEach [] X.env := by rfl)
    (na : starEach [.Call (.Name "range" p2) [e] [] pos2] X.env = (false, eval (.Call (.Name "range" p2) [e] [] pos2) X.env) :: starEach [] X.env := by rfl) : DN X (.Call (.Name "list" p) [.Call (.Name "range" p2) [e] [] pos2] [] pos) (lr1 f) :=
  pe_imp (pe_listRg hc hg hm (prg_1 hg2 hm2 h hs) na) fun σ H Q ⟨B, F0, F, e, xs, ok, fe, q⟩ => by
  obtain ⟨d, hd, fe⟩ := bind1 fe
  refine ⟨B, F0, F, e, d, ok, hd, fun v F' H' g dp => ?_⟩
  unfold rgS1 at fe
  split at fe
  · split at fe
    · rename_i hz
      cases fe
      exact ⟨_, dp_int dp, rgSmall_ok (by decide) hz, fun l hl => q l _ F' _ (g.trans (Gr.loose g.fh hl)) (g.fb hl) (fresh_back g.fh hl) upd_same (dpa_rng _ _)⟩
    · cases fe
  · cases fe
theorem de_tupRg1 {p2 pos2 : Pos} (hc : X.calm = true) (hm : X.mg "tuple" = none) (hm2 : X.mg "range" = none) (h : DE X e f) (hg : Gl X "tuple" := by rfl) (hg2 : Gl X "range" := by rfl) (hs : starEach [e] X.env = (false, eval e X.env) :: starEach [] X.env := by rfl)
    (na : starEach [.Call (.Name "range" p2) [e] [] pos2] X.env = (false, eval (.Call (.Name "range" p2) [e] [] pos2) X.env) :: starEach [] X.env := by rfl) : DE X (.Call (.Name "tuple" p) [.Call (.Name "range" p2) [e] [] pos2] [] pos) (tup (lr1 f)) :=
  pe_imp (pe_tupRg hc hg hm (prg_1 hg2 hm2 h hs) na) fun σ H Q ⟨B, F0, F, e, d, ok, fe, q⟩ => by
  obtain ⟨xs, fe1, rfl⟩ := Option.map_eq_some_iff.mp fe
  clear fe
  obtain ⟨d, hd, fe⟩ := bind1 fe1
  refine ⟨B, F0, F, e, d, ok, hd, fun v F' H' g dp => ?_⟩
  unfold rgS1 at fe
  split at fe
  · split at fe
    · rename_i hz
      cases fe
      exact ⟨_, dp_int dp, rgSmall_ok (by decide) hz, fun l hl => Kn.tupN (K := X.K) (fun v F' H' g2 dp => q v F' H' (g.trans g2) dp) g.fh (dpa_rng _ _) hl⟩
    · cases fe
  · cases fe
theorem de_tupRg2 {p2 pos2 : Pos} (hc : X.calm = true) (hm : X.mg "tuple" = none) (hm2 : X.mg "range" = none) (h : DE X e f) (h2 : DE X e2 g) (hg : Gl X "tuple" := by rfl) (hg2 : Gl X "range" := by rfl)
    (hs : starEach [e, e2] X.env = (false, eval e X.env) :: starEach [e2] X.env := by rfl) (hs2 : starEach [e2] X.env = (false, eval e2 X.env) :: starEach [] X.env := by rfl) (hpl : (backTo pos2 (starEach [e2] X.env)).any (·.1) = false := by rfl)
    (na : starEach [.Call (.Name "range" p2) [e, e2] [] pos2] X.env = (false, eval (.Call (.Name "range" p2) [e, e2] [] pos2) X.env) :: starEach [] X.env := by rfl) : DE X (.Call (.Name "tuple" p) [.Call (.Name "range" p2) [e, e2] [] pos2] [] pos) (tup (lr2 f g)) :=
  pe_imp (pe_tupRg hc hg hm (prg_2 hg2 hm2 h h2 hs hs2 hpl) na) fun σ H Q ⟨B, F0, F, e, d, ok, fe, q⟩ => by
  obtain ⟨xs, fe1, rfl⟩ := Option.map_eq_some_iff.mp fe
  clear fe
  obtain ⟨d, d2, hd, hd2, fe⟩ := bind2 fe1
  refine ⟨B, F0, F, e, d, ok, hd, fun v F1 H1 g1 dp1 => ⟨B, F0, F1, e, d2, ok.grow g1, hd2, fun v2 F' H' g2 dp2 => ?_⟩⟩
  unfold rgS2 at fe
  split at fe
  · split at fe
    · rename_i hz
      cases fe
      exact ⟨_, _, dp_int dp1, dp_int dp2, rgSmall_ok hz.1 hz.2, fun l hl => Kn.tupN (K := X.K) (fun v F' H' g3 dp => q v F' H' ((g1.trans g2).trans g3) dp) g2.fh (dpa_rng _ _) hl⟩
    · cases fe
  · cases fe
end

/-! ### defs -/
/-- what a def is worth: a function of data -/
def spD (K : PySem.W.Frag) (n : Nat) (M : List D → Option D) : Sp := fun vs H Q _ => ∃ F ds d, (Ex F H ∧ NT F ∧ TbK K H) ∧ DpAll K F vs ds ∧ ds.length = n ∧ M ds = some d ∧ ∀ v F' H', Gr F H F' H' → Dp K F' v d → Q v H'
abbrev FnD (P : Program) (w : World) (K : PySem.W.Frag) (mg : Str → Option Value) (base : Heap) (k : Nat) (f : Addr) (fd : FuncData) (ps : List Str) (M : List D → Option D) : Prop := FnOk P w K mg base CX0 k f fd ps (spD K ps.length M)
def startE (n : Nat) (ds : List D) : DEnv := ds.map (fun d => some (.sh d)) ++ List.replicate (n - ds.length) none
def runF (n : Nat) (body : FS) : List D → Option D := fun ds => (body (startE n ds)).bind fun r => match r with
  | .rt d => some d
  | .nx _ => some .none
  | _ => none
theorem ok_start {K : PySem.W.Frag} {F H : Hp} {N : List Str} {vs : List V} {ds : List D} (x : Ex F H) (nt : NT F) (tb : TbK K H) (h : DpAll K F vs ds) : Ok K H F F (L2.start N vs) H (startE N.length ds) where
  gr := Gr.refl x
  sh := fun i d hi => by
    unfold startE at hi
    unfold L2.start
    have hl := dpa_len h
    by_cases hlt : i < ds.length
    · rw [List.getElem?_append_left (by simpa using hlt), List.getElem?_map] at hi
      obtain ⟨d', hd, e⟩ := Option.map_eq_some_iff.mp hi
      cases e
      obtain ⟨v, hv, dv⟩ := dpa_get h hd
      refine ⟨v, ?_, dv⟩
      rw [List.getElem?_append_left (by simp; omega), List.getElem?_map, hv]; rfl
    · rw [List.getElem?_append_right (by simpa using hlt), List.getElem?_replicate] at hi
      split at hi <;> cases hi
  ow := fun i d hi => by
    unfold startE at hi
    by_cases hlt : i < ds.length
    · rw [List.getElem?_append_left (by simpa using hlt), List.getElem?_map] at hi
      obtain ⟨d', hd, e⟩ := Option.map_eq_some_iff.mp hi
      cases e
    · rw [List.getElem?_append_right (by simpa using hlt), List.getElem?_replicate] at hi
      split at hi <;> cases hi
  inj := fun i j xs ys a hi => by
    unfold startE at hi
    by_cases hlt : i < ds.length
    · rw [List.getElem?_append_left (by simpa using hlt), List.getElem?_map] at hi
      obtain ⟨d', hd, e⟩ := Option.map_eq_some_iff.mp hi
      cases e
    · rw [List.getElem?_append_right (by simpa using hlt), List.getElem?_replicate] at hi
      split at hi <;> cases hi
  od := fun i d hi => by
    unfold startE at hi
    by_cases hlt : i < ds.length
    · rw [List.getElem?_append_left (by simpa using hlt), List.getElem?_map] at hi
      obtain ⟨d', hd, e⟩ := Option.map_eq_some_iff.mp hi
      cases e
    · rw [List.getElem?_append_right (by simpa using hlt), List.getElem?_replicate] at hi
      split at hi <;> cases hi
  ijd := fun i j xs ys a hi => by
    unfold startE at hi
    by_cases hlt : i < ds.length
    · rw [List.getElem?_append_left (by simpa using hlt), List.getElem?_map] at hi
      obtain ⟨d', hd, e⟩ := Option.map_eq_some_iff.mp hi
      cases e
    · rw [List.getElem?_append_right (by simpa using hlt), List.getElem?_replicate] at hi
      split at hi <;> cases hi
  fn := fun i L n hi => by
    unfold startE at hi
    by_cases hlt : i < ds.length
    · rw [List.getElem?_append_left (by simpa using hlt), List.getElem?_map] at hi
      obtain ⟨d', hd, e⟩ := Option.map_eq_some_iff.mp hi
      cases e
    · rw [List.getElem?_append_right (by simpa using hlt), List.getElem?_replicate] at hi
      split at hi <;> cases hi
  nt := nt
  tb := tb
  len := by
    unfold startE L2.start
    have hl := dpa_len h
    simp [hl]
theorem fn_mk {P : Program} {w : World} {K : PySem.W.Frag} {mg : Str → Option Value} {base : Heap} {k : Nat} {x qual : Str} {args : Arguments} {st : List Stmt} {sc : Scope} {f : Addr} {fd : FuncData} {N ps : List Str} {body : FS} {n : Nat}
    (F : FunD K x qual args st sc [] [] f fd) (S : FnScope N ps sc) (hn : N.length = n)
    (hb : ∀ (cdv : Value) (A : Around) (outer : List Env) (s : Shared) (H : Hp) (E : XK), Room k (A.deeper (envOfC qual sc s.heap.objs.size f cdv)) → DSs (cxOf CX0 P w K mg base N qual sc f cdv A outer s H E).nox st body) :
    FnD P w K mg base (k + 1) f fd ps (runF n body) := by
  refine F.ok S (fun vs H Q E h => ?_) (fun cdv A outer s H vs Q E hr h => ⟨_, PSs.nox (hb cdv A outer s H E hr), ?_⟩)
  · obtain ⟨F, ds, d, x, dp, hl, _⟩ := h
    rw [dpa_len dp]; exact hl
  · obtain ⟨F, ds, d, x, dp, hl, hM, q⟩ := h
    obtain ⟨r, hr1, hM⟩ := bind1 hM
    have ok : Ok K H F F (L2.start N vs) H (startE n ds) := by rw [← hn]; exact ok_start x.1 x.2.1 x.2.2 dp
    refine ⟨H, F, F, startE n ds, r, ok, hr1, ?_⟩
    cases r with
    | rt d' => cases hM; exact fun v F' H' g dp => q v F' H' g dp
    | nx e' => cases hM; exact fun σ' F' H' _ ok' => q _ F' H' ok'.gr .non
    | bk e' => cases hM
    | ct e' => cases hM
section
variable {X : Cx} {e : Expr} {es : List Expr} {f : FE} {fa : FA} {x : Str} {p pos : Pos} {fd : FuncData} {ps : List Str} {k j : Nat} {fn : Addr} {M : List D → Option D}
theorem fn_none {P : Program} {w : World} {K : PySem.W.Frag} {mg : Str → Option Value} {base : Heap} {k : Nat} {f : Addr} {fd : FuncData} {ps : List Str} : FnD P w K mg base k f fd ps (fun _ => none) := ⟨fun vs H Q E h => (by obtain ⟨F, ds, d, _, _, _, h, _⟩ := h; cases h), fun A outer s H args us vs Q E hr e0 hb r h => (by obtain ⟨F, ds, d, _, _, _, h, _⟩ := h; cases h)⟩
theorem de_call (G : FnD X.prog X.w X.K X.mg X.base j fn fd ps M) (hr : Room k X.A) (hj : j ≤ k) (hm : X.mg x = some (.ref fn)) (kp : PySem.W.keepIn X.K (.ref fn) = true) (b : Binds X.K fd ps []) (ha : DA X (e :: es) fa) (hl : ∀ env ds, fa env = some ds → ds.length = ps.length)
    (hg : Gl X x := by rfl) (hdb : (x == ("__debug__" : Str)) = false := by decide) (he : starEach (e :: es) X.env = (false, eval e X.env) :: starEach es X.env := by rfl) (hpl : (backTo pos (starEach es X.env)).any (·.1) = false := by rfl) : DE X (.Call (.Name x p) (e :: es) [] pos) (cA M fa) :=
  pe_imp (pe_call (E := fun _ _ _ => False) G (hr.mono hj) hg hm kp b .nil pass0 ha hdb he hpl) fun σ H Q ⟨B, F0, F, env, d, ok, fe, q⟩ => by
  obtain ⟨ds, hd, fe⟩ := bind1 fe
  refine ⟨B, F0, F, env, ds, ok, hd, fun vs F' H' g dp => ?_⟩
  show spD X.K ps.length M (vs ++ []) H' Q _
  rw [List.append_nil]
  exact ⟨F', ds, d, ⟨g.fh, g.nt ok.nt, ok.tb.grow g.hx⟩, dp, hl _ _ hd, fe, fun v F2 H2 g2 dp2 => q v F2 H2 (g.trans g2) dp2⟩
theorem lev_le {j b n : Nat} (h : j ≤ b) : j ≤ b + n := Nat.le_trans h (Nat.le_add_right b n)
theorem lq_nil : ∀ e ds, nilA e = some ds → ds.length = 0 := fun e ds h => by cases h; rfl
theorem lq_cons {n : Nat} (h : ∀ e ds, fa e = some ds → ds.length = n) : ∀ e ds, consA f fa e = some ds → ds.length = n + 1 := fun e ds hx => by
  obtain ⟨x, y, hx, hy, fe⟩ := bind2 hx
  cases fe
  exact congrArg (· + 1) (h _ _ hy)
end
end DL

/-! DLay6: slices, isinstance, extend, is, in. -/
namespace DL
open PySem PySem.Spec PyProof.Rows L2 Evl

/-! ### slices -/
def cutL {α : Type} (xs : List α) (lo hi : Option Int) : List α := (xs.drop (HT.sIx xs.length 0 lo)).take (HT.sIx xs.length xs.length hi - HT.sIx xs.length 0 lo)
def cutD (d : D) (lo hi : Option Int) : Option D := match d with
  | .tuple xs => some (.tuple (cutL xs lo hi))
  | .list xs => some (.list (cutL xs lo hi))
  | .str z => if sml z.length = true then some (.str (cutS z lo hi)) else none
  | _ => none
abbrev FO := DEnv → Option (Option Int)
def noP : FO := fun _ => some none
def asI : D → Option Int
  | .int i => some i
  | _ => none
def yesP (f : FE) : FO := fun e => (f e).bind fun d => (asI d).map some
def slD (f : FE) (l h : FO) : FE := fun e => (f e).bind fun x => (l e).bind fun lo => (h e).bind fun hi => cutD x lo hi
section
variable {X : Cx} {e e2 : Expr} {f g : FE} {l h : FO} {pos p2 : Pos}
def TOd (K : PySem.W.Frag) (f : FO) : TO := fun σ H Q => ∃ B F0 F e o, Ok K B F0 F σ H e ∧ f e = some o ∧ ∀ F' H', Gr F H F' H' → Q o H'
def DO (X : Cx) (e : Option Expr) (f : FO) : Prop := PO X e (TOd X.K f)
theorem po_imp {e : Option Expr} {t t' : TO} (h : PO X e t) (i : ∀ σ H Q, t' σ H Q → t σ H Q) : PO X e t' := ⟨fun pins s σ H Q I hw => h.run pins s σ H Q I (i _ _ _ hw)⟩
theorem do_none : DO X none noP := po_imp po_none fun σ H Q ⟨B, F0, F, e, o, ok, fe, q⟩ => by
  cases fe
  exact q F H (Gr.refl ok.fh)
theorem do_some (h : DE X e f) : DO X (some e) (yesP f) := po_imp (po_some h) fun σ H Q ⟨B, F0, F, e, o, ok, fe, q⟩ => by
  obtain ⟨d, hd, fe⟩ := bind1 fe
  obtain ⟨i, hi, rfl⟩ := Option.map_eq_some_iff.mp fe
  refine ⟨B, F0, F, e, d, ok, hd, fun v F' H' g dp => ⟨i, ?_, q F' H' g⟩⟩
  unfold asI at hi
  split at hi
  · cases hi; exact dp_int dp
  · cases hi
theorem cutV_dp {K : PySem.W.Frag} {F : Hp} {vs : List V} {ds : List D} (h : DpAll K F vs ds) (lo hi : Option Int) : DpAll K F (cutV vs lo hi) (cutL ds lo hi) := by
  unfold cutV cutL
  rw [dpa_len h]
  exact dpa_take _ (dpa_drop _ h)
theorem cutL_whole {α : Type} {xs : List α} {lo hi : Option Int} (h : HT.sIx xs.length 0 lo = 0 ∧ HT.sIx xs.length xs.length hi = xs.length) : cutL xs lo hi = xs := by
  unfold cutL
  rw [h.1, h.2]
  simp
theorem de_slice (he : DR X e f) (hl : DO X e2' l) (hh : DO X e3' h) : DE X (.Subscript e (.Slice e2' e3' none p2) pos) (slD f l h) :=
  pe_imp (pe_slice (sl_list.or (sl_tupA.or sl_str)) he hl hh) fun σ H Q ⟨B, F0, F, e, d, ok, fe, q⟩ => by
  obtain ⟨x, hx, fe⟩ := bind1 fe
  obtain ⟨lo, hi, hlo, hhi, fe⟩ := bind2 fe
  refine ⟨B, F0, F, e, x, ok, hx, fun v F1 H1 g1 r1 => ⟨B, F0, F1, e, lo, ok.grow g1, hlo, fun F2 H2 g2 => ⟨B, F0, F2, e, hi, (ok.grow g1).grow g2, hhi, fun F3 H3 g3 => ?_⟩⟩⟩
  have r3 := (r1.grow g2).grow g3
  have q3 : Kn X.K F3 H3 d Q := fun w F' H' g4 dp => q w F' H' (((g1.trans g2).trans g3).trans g4) dp
  unfold cutD at fe
  split at fe
  · cases fe
    have r4 := rs_tupF r3
    obtain ⟨a, vs, rfl, s1, d1⟩ := dp_tup r4
    refine .inr (.inl ⟨a, vs, rfl, ex_t g3.fh s1, fun hw => ?_, fun _ p hp => q3.tupN g3.fh (cutV_dp d1 lo hi) hp⟩)
    rw [dpa_len d1] at hw
    rw [cutL_whole hw] at q3
    exact q3.now g3.fh r4
  · cases fe
    obtain ⟨a, vs, rfl, s1, d1⟩ := r3.lst g3.fh
    exact .inl ⟨a, vs, rfl, s1, fun p hp => q3.lstN g3.fh (cutV_dp d1 lo hi) hp⟩
  · split at fe
    · rename_i hz
      cases fe
      exact .inr (.inr ⟨_, rs_str r3, Nat.le_trans (sml_le hz) big_line, q3.now g3.fh (.str _)⟩)
    · cases fe
  · cases fe
end

/-! ### isinstance -/
section
variable {X : Cx} {e e2 : Expr} {f g : FE} {p p2 pos : Pos} {x : Str}
theorem tyx_lst {K : PySem.W.Frag} {H : Hp} {a : Addr} {xs : List V} (h : SqL K H a xs) : TyX K H (.ref a) (.type "list") := by
  rcases h with (h | ⟨o, h⟩) | ⟨o, its, n, h1, h2, _⟩
  · exact .base (.lst h)
  · exact .base (.frz h)
  · exact .kList h1 h2
theorem tyx_tup {K : PySem.W.Frag} {H : Hp} {a : Addr} {xs : List V} (h : SqT K H a xs) : TyX K H (.ref a) (.type "tuple") := by
  rcases h with (h | ⟨o, h⟩) | ⟨o, its, n, h1, h2, _⟩
  · exact .base (.tup h)
  · exact .fTuple h
  · exact .kTuple h1 h2
theorem isi_of {K : PySem.W.Frag} {F H : Hp} {v : V} {d r : D} {T : Ty} (x : Ex F H) (h : Rs K F H v d) (hi : isiD T d = some r) : ∃ t b, TyX K H v t ∧ PySem.W.kitOne K t (.type T.nm) = some b ∧ r = .bool b := by
  have h' := h.dp x
  cases h' with
  | non => cases T <;> cases hi <;> exact ⟨_, _, .base .non, kit_ty (by decide +kernel), rfl⟩
  | bl b => cases T <;> cases hi <;> exact ⟨_, _, .base (.bl b), kit_ty (by decide +kernel), rfl⟩
  | int b => cases T <;> cases hi <;> exact ⟨_, _, .base (.int b), kit_ty (by decide +kernel), rfl⟩
  | str b => cases T <;> cases hi <;> exact ⟨_, _, .base (.str b), kit_ty (by decide +kernel), rfl⟩
  | lst s _ => cases T <;> cases hi <;> exact ⟨_, _, tyx_lst s, kit_ty (by decide +kernel), rfl⟩
  | tup s _ => cases T <;> cases hi <;> exact ⟨_, _, tyx_tup s, kit_ty (by decide +kernel), rfl⟩
  | dic s _ => cases T <;> cases hi
theorem de_isi (T : Ty) (hm : X.mg "isinstance" = none) (hmT : X.mg T.nm = none) (h : DR X e f) (hx : x = (T.nm : Str) := by rfl) (hg : Gl X "isinstance" := by rfl) (hgT : Gl X x := by rfl)
    (hs : starEach [e, .Name x p2] X.env = (false, eval e X.env) :: starEach [.Name x p2] X.env := by rfl) (hs2 : starEach [.Name x p2] X.env = (false, eval (.Name x p2) X.env) :: starEach [] X.env := by rfl) (hpl : (backTo pos (starEach [.Name x p2] X.env)).any (·.1) = false := by rfl) :
    DE X (.Call (.Name "isinstance" p) [e, .Name x p2] [] pos) (c1 (isiD T) f) := by
  subst hx
  have hT : PE X (.Name (T.nm : Str) p2) (tC (.ty T.nm)) := by
    cases T <;> exact pe_bltn (u := .type _) hgT hmT (by decide +kernel) rfl (by decide) (by decide)
  refine pe_imp (pe_callB call_isi hg hm (by decide +kernel) (pa_cons h (pa_cons hT pa_nil hs2) hs) (by decide) (by decide) hs hpl) fun σ H Q ⟨B, F0, F, e, d, ok, fe, q⟩ => ?_
  obtain ⟨y, hy, fe⟩ := bind1 fe
  refine ⟨B, F0, F, e, y, ok, hy, fun v F1 H1 g1 r1 => ?_⟩
  obtain ⟨t, b, ht, hk, rfl⟩ := isi_of g1.fh r1 fe
  exact ⟨v, .ty T.nm, t, .type T.nm, b, rfl, .ty _, ht, hk, q _ F1 H1 g1 (.bl _)⟩
end

/-! ### is True, is not True -/
section
variable {X : Cx} {a b : Expr} {f g : FE} {pos : Pos}
def isBD : D → D → Option D
  | .bool c, .bool d => some (.bool (c == d))
  | _, _ => none
def notBD : D → D → Option D
  | .bool c, .bool d => some (.bool (c != d))
  | _, _ => none
theorem op_isB : OpR X (compareOp .Is) (fun x y H Q => ∃ c d, x = .bl c ∧ y = .bl d ∧ Q (.bl (c == d)) H) := by
  intro pins s σ H x y v u Q I rx ry h
  obtain ⟨c, d, rfl, rfl, q⟩ := h
  cases rx
  cases ry
  exact is_bool (fin_bl I q rfl)
theorem op_notB : OpR X (compareOp .IsNot) (fun x y H Q => ∃ c d, x = .bl c ∧ y = .bl d ∧ Q (.bl (c != d)) H) := by
  intro pins s σ H x y v u Q I rx ry h
  obtain ⟨c, d, rfl, rfl, q⟩ := h
  cases rx
  cases ry
  exact isnot_bool (fin_bl I q rfl)
theorem od_isB {K : PySem.W.Frag} : OpD K (fun x y H Q => ∃ c d, x = .bl c ∧ y = .bl d ∧ Q (.bl (c == d)) H) isBD := by
  intro F H x y a b d Q xf ha hb hg q
  unfold isBD at hg
  split at hg
  · cases hg
    exact ⟨_, _, rs_bl ha, rs_bl hb, q.now xf (.bl _)⟩
  · cases hg
theorem od_notB {K : PySem.W.Frag} : OpD K (fun x y H Q => ∃ c d, x = .bl c ∧ y = .bl d ∧ Q (.bl (c != d)) H) notBD := by
  intro F H x y a b d Q xf ha hb hg q
  unfold notBD at hg
  split at hg
  · cases hg
    exact ⟨_, _, rs_bl ha, rs_bl hb, q.now xf (.bl _)⟩
  · cases hg
end

/-! ### in, not in -/
section
variable {X : Cx} {a b : Expr} {f g : FE} {pos : Pos}
def flatD : D → Bool
  | .int _ => true
  | .str _ => true
  | .bool _ => true
  | .none => true
  | _ => false
def inSeq (x : D) (xs : List D) : Bool := xs.any fun y => PyData.eqv y x
def inStr (x z : Str) : Bool := !(Builtin.Str.occurrences z x 0 z.length 1).isEmpty
def sh63 (d : D) : Bool := d.canLay0 && decide (d.depth ≤ 62)
def okIn (x : D) (xs : List D) : Bool := (flatD x && xs.all flatD) || (sh63 x && PyData.canLayAll0 xs)
def inD (x y : D) : Option D := match y with
  | .list xs => if okIn x xs = true then some (.bool (inSeq x xs)) else none
  | .tuple xs => if okIn x xs = true then some (.bool (inSeq x xs)) else none
  | .str z => match x with
    | .str x => some (.bool (inStr x z))
    | _ => none
  | _ => none
def ninD (x y : D) : Option D := match y with
  | .list xs => if okIn x xs = true then some (.bool (!inSeq x xs)) else none
  | .tuple xs => if okIn x xs = true then some (.bool (!inSeq x xs)) else none
  | .str z => match x with
    | .str x => some (.bool (!inStr x z))
    | _ => none
  | _ => none
theorem flat_dp {K : PySem.W.Frag} {F : Hp} {v : V} {d : D} (h : Dp K F v d) (f : flatD d = true) : flatV v = true := by
  cases h <;> first | rfl | cases f
theorem flat_dpa {K : PySem.W.Frag} {F : Hp} : ∀ {vs : List V} {ds : List D}, DpAll K F vs ds → ds.all flatD = true → vs.all flatV = true
  | _, _, .nil, _ => rfl
  | _, _, .cons h hs, f => by
    rw [List.all_cons, Bool.and_eq_true] at f ⊢
    exact ⟨flat_dp h f.1, flat_dpa hs f.2⟩
theorem eqV_dp {K : PySem.W.Frag} {F : Hp} {v u : V} {d e : D} (h : Dp K F v d) (h2 : Dp K F u e) (f : flatD d = true) (f2 : flatD e = true) : eqV v u = PyData.eqv d e := by
  cases h <;> first | (cases f; done) | (cases h2 <;> first | (cases f2; done) | skip)
  all_goals (simp [eqV, PyData.eqv])
theorem inV_dp {K : PySem.W.Frag} {F : Hp} {v : V} {d : D} (h : Dp K F v d) (f : flatD d = true) : ∀ {vs : List V} {ds : List D}, DpAll K F vs ds → ds.all flatD = true → inV v vs = inSeq d ds
  | _, _, .nil, _ => rfl
  | _, _, .cons q qs, g => by
    rw [List.all_cons, Bool.and_eq_true] at g
    have ih := inV_dp h f qs g.2
    unfold inV inSeq at ih ⊢
    rw [List.any_cons, List.any_cons, ih, eqV_dp q h g.1 f]
end
end DL

/-! DLay7: in, extend. -/
namespace DL
open PySem PySem.Spec PyProof.Rows L2 Evl
section
variable {X : Cx}
open Classical in
noncomputable def eqR (h : Heap) (x : D) (u : Value) : Bool := if q : ∃ d, ∃ as, d.canLay0 = true ∧ Reads h u d as then PyData.eqv q.choose x else false
theorem eqR_of {h : Heap} {x d : D} {u : Value} {as : List Addr} (hc : d.canLay0 = true) (r : Reads h u d as) : eqR h x u = PyData.eqv d x := by
  have q : ∃ d, ∃ as, d.canLay0 = true ∧ Reads h u d as := ⟨d, as, hc, r⟩
  unfold eqR
  rw [dif_pos q]
  obtain ⟨as', hc', r'⟩ := q.choose_spec
  rw [SeqAt.Reads.unique _ _ _ _ _ hc' r' r]
theorem any_eqR {h : Heap} {x : D} : ∀ {ds : List D} {us : List Value} {as : List Addr}, ReadsAll h us ds as → PyData.canLayAll0 ds = true → us.any (eqR h x) = ds.any fun y => PyData.eqv y x
  | [], _, _, r, _ => by cases r; rfl
  | d :: ds, _, _, r, f => by
    cases r with
    | cons r1 r2 =>
      simp only [PyData.canLayAll0, Bool.and_eq_true] at f
      rw [List.any_cons, List.any_cons, eqR_of f.1 r1, any_eqR r2 f.2]
theorem mem_eqR {A : Around} {s : Shared} {x : D} {v : Value} {bs : List Addr} (rx : Reads s.heap v x bs) (hx : sh63 x = true) (hu : A.units + 64 < cLine) : ∀ {ds : List D} {us : List Value} {as : List Addr}, ReadsAll s.heap us ds as → PyData.canLayAll0 ds = true → ∀ u ∈ us, SeqAt.EqAt A.in1 s u v (eqR s.heap x u)
  | [], _, _, r, _ => fun u hu => by cases r; cases hu
  | d :: ds, _, _, r, f => fun u' hu' => by
    cases r with
    | cons r1 r2 =>
      simp only [PyData.canLayAll0, Bool.and_eq_true] at f
      rcases List.mem_cons.mp hu' with rfl | hu'
      · rw [eqR_of f.1 r1]
        unfold sh63 at hx
        simp only [Bool.and_eq_true, decide_eq_true_eq] at hx
        refine SeqAt.eqAt_reads d x A.in1 s _ _ _ _ r1 rx f.1 hx.1 ?_
        simp only [Around.in1_units]
        have := Nat.min_le_right d.depth x.depth
        omega
      · exact mem_eqR rx hx hu r2 f.2 u' hu'
def rInD (K : PySem.W.Frag) (neg : Bool) : R2 := fun x y H Q => ∃ p xs d ds, y = .ref p ∧ (SqL K H p xs ∨ SqT K H p xs) ∧ L2.Dp K H x d ∧ L2.DpAll K H xs ds ∧ sh63 d = true ∧ PyData.canLayAll0 ds = true ∧ Q (.bl (if neg then !inSeq d ds else inSeq d ds)) H
theorem op_in_D (hu : X.A.units + 64 < cLine) : OpR X (compareOp .In) (rInD X.K false) := by
  intro pins s σ H x y v u Q I rx ry h
  obtain ⟨p, xs, d, ds, rfl, hq, dx, da, fx, fs, q⟩ := h
  cases ry
  obtain ⟨bs, rdx⟩ := L2.Dp.reads I d x v dx rx
  rcases hq with hq | hq
  · obtain ⟨its, r, pl, hz⟩ := I.list hq
    obtain ⟨as, ra⟩ := L2.Dp.readsAll I ds _ _ da r
    refine SeqAt.in_listAt (eqR s.heap d) pl.isList (fun w hw => mem_eqR rdx fx hu ra fs w (by simpa using hw)) ⟨.bl _, H, I, rfl, ?_⟩
    rw [show its.toArray.any (eqR s.heap d) = its.any (eqR s.heap d) by simp, any_eqR ra fs]
    exact q
  · obtain ⟨its, r, pl, hz⟩ := I.tuple hq
    obtain ⟨as, ra⟩ := L2.Dp.readsAll I ds _ _ da r
    refine SeqAt.in_tupleAt (eqR s.heap d) pl (fun w hw => mem_eqR rdx fx hu ra fs w (by simpa using hw)) ⟨.bl _, H, I, rfl, ?_⟩
    rw [show its.toArray.any (eqR s.heap d) = its.any (eqR s.heap d) by simp, any_eqR ra fs]
    exact q
theorem op_nin_D (hu : X.A.units + 64 < cLine) : OpR X (compareOp .NotIn) (rInD X.K true) := by
  intro pins s σ H x y v u Q I rx ry h
  obtain ⟨p, xs, d, ds, rfl, hq, dx, da, fx, fs, q⟩ := h
  cases ry
  obtain ⟨bs, rdx⟩ := L2.Dp.reads I d x v dx rx
  rcases hq with hq | hq
  · obtain ⟨its, r, pl, hz⟩ := I.list hq
    obtain ⟨as, ra⟩ := L2.Dp.readsAll I ds _ _ da r
    refine SeqAt.notIn_listAt (eqR s.heap d) pl.isList (fun w hw => mem_eqR rdx fx hu ra fs w (by simpa using hw)) ⟨.bl _, H, I, rfl, ?_⟩
    rw [show its.toArray.any (eqR s.heap d) = its.any (eqR s.heap d) by simp, any_eqR ra fs]
    exact q
  · obtain ⟨its, r, pl, hz⟩ := I.tuple hq
    obtain ⟨as, ra⟩ := L2.Dp.readsAll I ds _ _ da r
    refine SeqAt.notIn_tupleAt (eqR s.heap d) pl (fun w hw => mem_eqR rdx fx hu ra fs w (by simpa using hw)) ⟨.bl _, H, I, rfl, ?_⟩
    rw [show its.toArray.any (eqR s.heap d) = its.any (eqR s.heap d) by simp, any_eqR ra fs]
    exact q
def rInA (K : PySem.W.Frag) : R2 := fun x y H Q => (rIn K false x y H Q ∨ rInD K false x y H Q) ∨ ∃ i j, x = .str i ∧ y = .str j ∧ Q (.bl (!(Builtin.Str.occurrences j i 0 j.length 1).isEmpty)) H
def rNinA (K : PySem.W.Frag) : R2 := fun x y H Q => (rIn K true x y H Q ∨ rInD K true x y H Q) ∨ ∃ i j, x = .str i ∧ y = .str j ∧ Q (.bl (!(!(Builtin.Str.occurrences j i 0 j.length 1).isEmpty))) H
theorem op_inA (hu : X.A.units + 64 < cLine) : OpR X (compareOp .In) (rInA X.K) := (op_in_seq.or (op_in_D hu)).or op_in_str
theorem op_ninA (hu : X.A.units + 64 < cLine) : OpR X (compareOp .NotIn) (rNinA X.K) := (op_notIn_seq.or (op_nin_D hu)).or op_notin_str
theorem rs_flat {K : PySem.W.Frag} {F H : Hp} {v : V} {d : D} (h : Rs K F H v d) (f : flatD d = true) : Dp K F v d := by
  rcases h with h | ⟨_, _, _, _, rfl, _⟩
  · exact h
  · cases f
theorem od_in {K : PySem.W.Frag} : OpD K (rInA K) inD := by
  intro F H x y a b d Q xf ha hb hg q
  unfold inD at hg
  split at hg
  · split at hg
    · rename_i hz
      cases hg
      unfold okIn at hz
      rcases (Bool.or_eq_true _ _).mp hz with hz | hz
      · rw [Bool.and_eq_true] at hz
        obtain ⟨p, vs, rfl, h1, h2⟩ := hb.lst xf
        have hx := rs_flat ha hz.1
        refine .inl (.inl ⟨p, vs, rfl, .inl h1, flat_dp hx hz.1, flat_dpa h2 hz.2, ?_⟩)
        simp only [Bool.false_eq_true, if_false, if_true]
        rw [inV_dp hx hz.1 h2 hz.2]
        exact q.now xf (.bl _)
      · rw [Bool.and_eq_true] at hz
        have hz1 := hz.1
        unfold sh63 at hz1
        rw [Bool.and_eq_true] at hz1
        have d1 := ha.dp xf
        have d2 := hb.dp xf
        cases d2 with
        | lst e1 e2 =>
          refine .inl (.inr ⟨_, _, _, _, rfl, .inl e1, dp_l2 d1 hz1.1, dpa_l2 e2 hz.2, hz.1, hz.2, ?_⟩)
          simp only [Bool.false_eq_true, if_false, if_true]
          exact q.now xf (.bl _)
    · cases hg
  · split at hg
    · rename_i hz
      cases hg
      unfold okIn at hz
      rcases (Bool.or_eq_true _ _).mp hz with hz | hz
      · rw [Bool.and_eq_true] at hz
        obtain ⟨p, vs, rfl, h1, h2⟩ := hb.tup xf
        have hx := rs_flat ha hz.1
        refine .inl (.inl ⟨p, vs, rfl, .inr h1, flat_dp hx hz.1, flat_dpa h2 hz.2, ?_⟩)
        simp only [Bool.false_eq_true, if_false, if_true]
        rw [inV_dp hx hz.1 h2 hz.2]
        exact q.now xf (.bl _)
      · rw [Bool.and_eq_true] at hz
        have hz1 := hz.1
        unfold sh63 at hz1
        rw [Bool.and_eq_true] at hz1
        have d1 := ha.dp xf
        have d2 := hb.dp xf
        cases d2 with
        | tup e1 e2 =>
          refine .inl (.inr ⟨_, _, _, _, rfl, .inr e1, dp_l2 d1 hz1.1, dpa_l2 e2 hz.2, hz.1, hz.2, ?_⟩)
          simp only [Bool.false_eq_true, if_false, if_true]
          exact q.now xf (.bl _)
    · cases hg
  · split at hg
    · cases hg
      exact .inr ⟨_, _, rs_str ha, rs_str hb, q.now xf (.bl _)⟩
    · cases hg
  · cases hg
theorem od_nin {K : PySem.W.Frag} : OpD K (rNinA K) ninD := by
  intro F H x y a b d Q xf ha hb hg q
  unfold ninD at hg
  split at hg
  · split at hg
    · rename_i hz
      cases hg
      unfold okIn at hz
      rcases (Bool.or_eq_true _ _).mp hz with hz | hz
      · rw [Bool.and_eq_true] at hz
        obtain ⟨p, vs, rfl, h1, h2⟩ := hb.lst xf
        have hx := rs_flat ha hz.1
        refine .inl (.inl ⟨p, vs, rfl, .inl h1, flat_dp hx hz.1, flat_dpa h2 hz.2, ?_⟩)
        simp only [Bool.false_eq_true, if_false, if_true]
        rw [inV_dp hx hz.1 h2 hz.2]
        exact q.now xf (.bl _)
      · rw [Bool.and_eq_true] at hz
        have hz1 := hz.1
        unfold sh63 at hz1
        rw [Bool.and_eq_true] at hz1
        have d1 := ha.dp xf
        have d2 := hb.dp xf
        cases d2 with
        | lst e1 e2 =>
          refine .inl (.inr ⟨_, _, _, _, rfl, .inl e1, dp_l2 d1 hz1.1, dpa_l2 e2 hz.2, hz.1, hz.2, ?_⟩)
          simp only [Bool.false_eq_true, if_false, if_true]
          exact q.now xf (.bl _)
    · cases hg
  · split at hg
    · rename_i hz
      cases hg
      unfold okIn at hz
      rcases (Bool.or_eq_true _ _).mp hz with hz | hz
      · rw [Bool.and_eq_true] at hz
        obtain ⟨p, vs, rfl, h1, h2⟩ := hb.tup xf
        have hx := rs_flat ha hz.1
        refine .inl (.inl ⟨p, vs, rfl, .inr h1, flat_dp hx hz.1, flat_dpa h2 hz.2, ?_⟩)
        simp only [Bool.false_eq_true, if_false, if_true]
        rw [inV_dp hx hz.1 h2 hz.2]
        exact q.now xf (.bl _)
      · rw [Bool.and_eq_true] at hz
        have hz1 := hz.1
        unfold sh63 at hz1
        rw [Bool.and_eq_true] at hz1
        have d1 := ha.dp xf
        have d2 := hb.dp xf
        cases d2 with
        | tup e1 e2 =>
          refine .inl (.inr ⟨_, _, _, _, rfl, .inr e1, dp_l2 d1 hz1.1, dpa_l2 e2 hz.2, hz.1, hz.2, ?_⟩)
          simp only [Bool.false_eq_true, if_false, if_true]
          exact q.now xf (.bl _)
    · cases hg
  · split at hg
    · cases hg
      exact .inr ⟨_, _, rs_str ha, rs_str hb, q.now xf (.bl _)⟩
    · cases hg
  · cases hg
end

/-! ### <= of ints and texts -/
section
variable {X : Cx}
theorem op_leA : OpR X (compareOp .LtE) (fun x y H Q => rI0 (fun i j => .bl (decide (i ≤ j))) x y H Q ∨ ∃ i j, x = .str i ∧ y = .str j ∧ Q (.bl (!decide (j.cps.toList < i.cps.toList))) H) := op_le.or op_le_str
theorem od_le {K : PySem.W.Frag} : OpD K (fun x y H Q => rI0 (fun i j => .bl (decide (i ≤ j))) x y H Q ∨ ∃ i j, x = .str i ∧ y = .str j ∧ Q (.bl (!decide (j.cps.toList < i.cps.toList))) H) leD := by
  intro F H x y a b d Q xf ha hb hg q
  unfold leD at hg
  split at hg
  · cases hg
    rw [rs_int ha, rs_int hb]
    exact .inl ⟨_, _, rfl, rfl, q.now xf (.bl _)⟩
  · cases hg
    rw [rs_str ha, rs_str hb]
    exact .inr ⟨_, _, rfl, rfl, q.now xf (.bl _)⟩
  · cases hg
end

/-! ### extend -/
theorem extW_list (l : Addr) (items : Array Value) (n : Nat) (b : Addr) (items2 : Array Value) (n2 : Nat) (dd : Option Addr) (sl : Array (Option Value)) (hs0 : ¬(!items.isEmpty && Builtin.List.listTooLong (items.size + items2.size)) = true) (hs1 : items.size ≤ sizeLine) (hs2 : items.size + items2.size ≤ sizeLine + 1) :
    Meets (Builtin.«list.extend» ⟨[.ref l, .ref b], []⟩) (fun _ R s => s.heap.get? l = some { cls := .type "list", dict := none, data := .seq items n, slots := #[] } ∧ s.heap.get? b = some { cls := .type "list", dict := dd, data := .seq items2 n2, slots := sl } ∧ R (.ok (.ret Value.none)) { s with heap := s.heap.update l (Obj.mapSeq fun x => x ++ items2), toks := s.toks }) :=
  .of_wp fun prog w A R s h => by
    obtain ⟨hp, g, d, tk, os⟩ := s; obtain ⟨hl, hb, h⟩ := h; have f1 := AutoSeq1.idx_int; have f2 := AutoSeq1.sub_tuple_tuple; have f3 := AutoSeq1.sub_list_list; have f4 := AutoSeq1.sub_tuple_list; have f5 := AutoSeq1.sub_list_tuple
    have hz' : (items ++ items2).size ≤ sizeLine + 1 := by rw [Array.size_append]; exact hs2
    wp_walk using (wpAny_updateSeq hl rfl (hz := hs1) (_hz' := hz')), AutoSeq1.wpAny_loadPart' hl, AutoSeq1.wpAny_loadPart' hb; exact ⟨_, rfl, h⟩
theorem extW_tup (l : Addr) (items : Array Value) (n : Nat) (b : Addr) (items2 : Array Value) (n2 : Nat) (dd : Option Addr) (sl : Array (Option Value)) (hs0 : ¬(!items.isEmpty && Builtin.List.listTooLong (items.size + items2.size)) = true) (hs1 : items.size ≤ sizeLine) (hs2 : items.size + items2.size ≤ sizeLine + 1) :
    Meets (Builtin.«list.extend» ⟨[.ref l, .ref b], []⟩) (fun _ R s => s.heap.get? l = some { cls := .type "list", dict := none, data := .seq items n, slots := #[] } ∧ s.heap.get? b = some { cls := .type "tuple", dict := dd, data := .seq items2 n2, slots := sl } ∧ R (.ok (.ret Value.none)) { s with heap := s.heap.update l (Obj.mapSeq fun x => x ++ items2), toks := s.toks }) :=
  .of_wp fun prog w A R s h => by
    obtain ⟨hp, g, d, tk, os⟩ := s; obtain ⟨hl, hb, h⟩ := h; have f1 := AutoSeq1.idx_int; have f2 := AutoSeq1.sub_tuple_tuple; have f3 := AutoSeq1.sub_list_list; have f4 := AutoSeq1.sub_tuple_list; have f5 := AutoSeq1.sub_list_tuple
    have hz' : (items ++ items2).size ≤ sizeLine + 1 := by rw [Array.size_append]; exact hs2
    wp_walk using (wpAny_updateSeq hl rfl (hz := hs1) (_hz' := hz')), AutoSeq1.wpAny_loadPart' hl, AutoSeq1.wpAny_loadPart' hb; exact ⟨_, rfl, h⟩
section
variable {X : Cx} {e : Expr} {fe : FE} {pos : Pos}
def rExtA (K : PySem.W.Frag) : V → List V → Hp → VK → Prop := fun x vs H Q => ∃ l b xs zs, x = .ref l ∧ vs = [.ref b] ∧ H l = some (.lst xs) ∧ (SqL K H b zs ∨ SqT K H b zs) ∧ xs.length + zs.length ≤ sizeLine ∧ Q .non (upd H l (.lst (xs ++ zs)))
theorem mt_extA : MtM X "list.extend" (rExtA X.K) := by
  intro pins s σ H x vs v us Q I rx rv h
  obtain ⟨l, b, xs, zs, rfl, rfl, hH, hB, hz, q⟩ := h
  cases rx
  obtain ⟨u, rfl, ru⟩ := rv.one
  cases ru
  obtain ⟨z, its, n, r, hl, e⟩ := I.lstM hH
  rcases hB with hB | hB
  · obtain ⟨its2, r2, ⟨⟨cls, dd, data, sl⟩, n2, ho, hc, hdd, hd⟩, hl2⟩ := I.list hB
    simp only at hc hd
    subst hc hd
    have hl3 := r2.length
    have hsz : its.toArray.size + its2.toArray.size ≤ sizeLine := by rw [List.size_toArray, List.size_toArray]; omega
    have hlong : ¬ (!its.toArray.isEmpty && Builtin.List.listTooLong (its.toArray.size + its2.toArray.size)) = true := by
      rw [notLongL hsz, Bool.and_false]
      exact Bool.false_ne_true
    refine call_meets PySem.F.slot_list_extend ⟨_, e, rfl⟩ PySem.F.entry_list_extend (PySem.F.args_list_extend_2 _ _) (extW_list l its.toArray n b its2.toArray n2 dd sl hlong (by rw [List.size_toArray]; omega) (by omega)) ⟨e, ho, ?_⟩
    refine ⟨.non, _, I.lset (its' := its ++ its2) hH e (by simp) (r.append r2) ?_, rfl, q⟩
    rw [List.length_append]
    omega
  · obtain ⟨its2, r2, ⟨⟨cls, dd, data, sl⟩, ho, hc, n2, hd⟩, hl2⟩ := I.tuple hB
    simp only at hc hd
    subst hc hd
    have hl3 := r2.length
    have hsz : its.toArray.size + its2.toArray.size ≤ sizeLine := by rw [List.size_toArray, List.size_toArray]; omega
    have hlong : ¬ (!its.toArray.isEmpty && Builtin.List.listTooLong (its.toArray.size + its2.toArray.size)) = true := by
      rw [notLongL hsz, Bool.and_false]
      exact Bool.false_ne_true
    refine call_meets PySem.F.slot_list_extend ⟨_, e, rfl⟩ PySem.F.entry_list_extend (PySem.F.args_list_extend_2 _ _) (extW_tup l its.toArray n b its2.toArray n2 dd sl hlong (by rw [List.size_toArray]; omega) (by omega)) ⟨e, ho, ?_⟩
    refine ⟨.non, _, I.lset (its' := its ++ its2) hH e (by simp) (r.append r2) ?_, rfl, q⟩
    rw [List.length_append]
    omega
theorem ds_ext (i : Nat) {x : Str} {px apos cpos : Pos} (he : DE X e fe) (hi : X.N[i]? = some x := by rfl) (hv : Vis X.env.scope x := by first | exact Or.inl rfl | exact Or.inr (Or.inl rfl) | exact Or.inr (Or.inr rfl)) (hd : (x == ("__debug__" : Str)) = false := by decide)
    (hcd : (x == ("__classdict__" : Str)) = false := by decide) (hbase : attributeBase (.Name x px) "extend" X.env (eval (.Name x px) X.env) = eval (.Name x px) X.env := by rfl)
    (hfew : ((backTo cpos (starEach [e] X.env)).all (fun x => !x.1) && (backToKw cpos (keywordEach [] X.env)).all (fun x => x.1.isSome) && decide (([e] : List Expr).length + ([] : List Keyword).length + (if ([] : List Keyword).isEmpty then 0 else 1) < 30)) = true := by rfl)
    (hline : (apos.endLine == cpos.line) = true := by rfl) (hs : starEach [e] X.env = (false, eval e X.env) :: starEach [] X.env := by rfl) (hsw : swapsWith (.Call (.Attribute (.Name x px) "extend" apos) [e] [] cpos) none pos.line X.env = pure false := by rfl) :
    DS X (.Expr (.Call (.Attribute (.Name x px) "extend" apos) [e] [] cpos) pos) (sExt i fe) :=
  ps_imp (ps_expr (pe_bm PySem.F.plainAttrs_list PySem.F.slot_list_extend PySem.F.type_list_extend mt_extA (pe_var hi hv hd hcd) (pa_cons he pa_nil hs) hbase hfew hline hs rfl) hsw) fun D σ H ⟨B, F0, F, e, r, ok, fr, q⟩ => by
  obtain ⟨d, h, fr⟩ := bind1 fr
  obtain ⟨ys, hys, fr⟩ := bind1 fr
  obtain ⟨xs, hx, fr⟩ := bind1 fr
  split at fr
  · rename_i hz
    cases fr
    have hx := owAt_some hx
    obtain ⟨a, vs, h1, h2, h3, h4, h5⟩ := ok.ow i xs hx
    refine ⟨.ref a, h1, .inl ⟨rfl, _, SqL.of h2⟩, B, F0, F, e, d, ok, h, fun v F' H' g dp => ?_⟩
    have key : ∃ b zs, v = .ref b ∧ (SqL X.K H' b zs ∨ SqT X.K H' b zs) ∧ DpAll X.K F' zs ys := by
      unfold seqOf at hys
      split at hys
      · cases hys
        obtain ⟨b, zs, e1, e2, e3⟩ := dp_lst dp
        exact ⟨b, zs, e1, .inl (ex_l g.fh e2), e3⟩
      · cases hys
        obtain ⟨b, zs, e1, e2, e3⟩ := dp_tup dp
        exact ⟨b, zs, e1, .inr (ex_t g.fh e2), e3⟩
      · cases hys
    obtain ⟨b, zs, rfl, hb, dz⟩ := key
    refine ⟨a, b, vs, zs, rfl, rfl, g.hh _ _ h2, hb, ?_, q σ F' _ g.ff ((ok.grow g).mutOw hx h1 (dpa_append (dpa_mono g.ff h5) dz))⟩
    rw [dpa_len h5, dpa_len dz]
    exact Nat.le_trans (sml_le hz) big_line
  · cases fr
end
end DL

/-! DLay8: the value layer in plain Lean: rewriting, loops, data that can be compared. -/
namespace DL
open PySem L2

/-! ### rewriting -/
def bindFl (r : Option Fl) (g : FS) : Option Fl := r.bind fun r => match r with
  | .nx e' => g e'
  | .rt d => some (.rt d)
  | .bk e' => some (.bk e')
  | .ct e' => some (.ct e')
def endFl (r : Option Fl) : Option D := r.bind fun r => match r with
  | .rt d => some d
  | .nx _ => some .none
  | _ => none
def ifFl (b : Option Bool) (f g : FS) (e : DEnv) : Option Fl := b.bind fun b => if b = true then f e else g e
section
variable {f g h : FE} {fa : FA} {p q : FB} {s t : FS} {e : DEnv} {i j : Nat}
@[simp] theorem e_vr : vr i e = (match e[i]? with
  | some (some (.sh d)) => some d
  | _ => none) := (rfl)
@[simp] theorem e_vo : vo i e = (match e[i]? with
  | some (some (.sh d)) => some d
  | some (some (.ow xs)) => some (.list xs)
  | _ => none) := (rfl)
@[simp] theorem e_cst {d : D} : cst d e = some d := (rfl)
@[simp] theorem e_c1 {G : D → Option D} : c1 G f e = (f e).bind G := (rfl)
@[simp] theorem e_c2 {G : D → D → Option D} : c2 G f g e = (f e).bind fun x => (g e).bind fun y => G x y := (rfl)
@[simp] theorem e_cA {G : List D → Option D} : cA G fa e = (fa e).bind G := (rfl)
@[simp] theorem e_nilA : nilA e = some [] := (rfl)
@[simp] theorem e_consA : consA f fa e = (f e).bind fun x => (fa e).bind fun xs => some (x :: xs) := (rfl)
@[simp] theorem e_tup : tup fa e = (fa e).map PyData.tuple := (rfl)
@[simp] theorem e_lstE : lstE fa e = (fa e).map PyData.list := (rfl)
@[simp] theorem e_tst : tst f e = (f e).bind asB := (rfl)
@[simp] theorem e_andT : andT p q e = (p e).bind fun b => if b = true then q e else some false := (rfl)
@[simp] theorem e_orT : orT p q e = (p e).bind fun b => if b = true then some true else q e := (rfl)
@[simp] theorem e_notT : notT p e = (p e).map not := (rfl)
@[simp] theorem e_andV : andV f g e = (f e).bind fun x => (asB x).bind fun b => if b = true then g e else some (.bool false) := (rfl)
@[simp] theorem e_orV : orV f g e = (f e).bind fun x => (asB x).bind fun b => if b = true then some (.bool true) else g e := (rfl)
@[simp] theorem e_notV : notV f e = (f e).bind fun x => (asB x).map fun b => .bool (!b) := (rfl)
@[simp] theorem e_ifE : ifE p f g e = (p e).bind fun b => if b = true then f e else g e := (rfl)
@[simp] theorem e_chD {G G' : D → D → Option D} : chD G G' f g h e = (f e).bind fun x => (g e).bind fun y => (G x y).bind fun z => (asB z).bind fun k => if k = true then (h e).bind fun w => G' y w else some (.bool false) := (rfl)
@[simp] theorem e_slD {l u : FO} : slD f l u e = (f e).bind fun x => (l e).bind fun lo => (u e).bind fun hi => cutD x lo hi := (rfl)
@[simp] theorem e_noP : noP e = some none := (rfl)
@[simp] theorem e_yesP : yesP f e = (f e).bind fun d => (asI d).map some := (rfl)
@[simp] theorem e_asI {k : Int} : asI (.int k) = some k := (rfl)
@[simp] theorem e_asB {b : Bool} : asB (.bool b) = some b := (rfl)
@[simp] theorem e_itA : itA f e = (f e).bind itemsD := (rfl)
@[simp] theorem e_rg1 : rg1 f e = (f e).bind rng1D := (rfl)
@[simp] theorem e_rg2 : rg2 f g e = (f e).bind fun x => (g e).bind fun y => rng2D x y := (rfl)
@[simp] theorem e_seqA : seqA f e = (f e).bind seqOf := (rfl)
@[simp] theorem e_lr1 : lr1 f e = (f e).bind rgS1 := (rfl)
@[simp] theorem e_lr2 : lr2 f g e = (f e).bind fun x => (g e).bind fun y => rgS2 x y := (rfl)
@[simp] theorem e_yesT : yesT e = some true := (rfl)
@[simp] theorem e_sNx : sNx e = some (.nx e) := (rfl)
@[simp] theorem e_sq : sq s t e = bindFl (s e) t := (rfl)
@[simp] theorem e_sAsg : sAsg i f e = (f e).map fun d => .nx (e.set i (some (.sh d))) := (rfl)
@[simp] theorem e_sNew : sNew i fa e = (fa e).map fun d => .nx (e.set i (some (.ow d))) := (rfl)
@[simp] theorem e_sRet : sRet f e = (f e).map .rt := (rfl)
@[simp] theorem e_sIf : sIf p s t e = ifFl (p e) s t e := (rfl)
@[simp] theorem e_ifFl {b : Bool} : ifFl (some b) s t e = if b = true then s e else t e := (rfl)
@[simp] theorem e_bnx {e' : DEnv} : bindFl (some (.nx e')) t = t e' := (rfl)
@[simp] theorem e_brt {d : D} : bindFl (some (.rt d)) t = some (.rt d) := (rfl)
@[simp] theorem e_bbk {e' : DEnv} : bindFl (some (.bk e')) t = some (.bk e') := (rfl)
@[simp] theorem e_bct {e' : DEnv} : bindFl (some (.ct e')) t = some (.ct e') := (rfl)
@[simp] theorem e_ert {d : D} : endFl (some (.rt d)) = some d := (rfl)
@[simp] theorem e_enx {e' : DEnv} : endFl (some (.nx e')) = some .none := (rfl)
@[simp] theorem e_sFrz : sFrz i s e = s (frzE i e) := (rfl)
@[simp] theorem e_sAsgT {b : BD} : sAsgT b f e = (f e).bind fun d => (b d e).map .nx := (rfl)
@[simp] theorem e_sFor {b : BD} : sFor fa b s e = (fa e).bind fun ds => forD b s ds e := (rfl)
@[simp] theorem e_sWhile {μ : DEnv → Nat} : sWhile μ p s e = whileD p s (μ e) e := (rfl)
@[simp] theorem e_lcD {b : BD} {vs : List Nat} : lcD fa b p f vs e = (fa e).bind fun ds => if sml ds.length = true then lcGo b p f (wipeE e vs) ds else none := (rfl)
@[simp] theorem e_sApp : sApp i f e = (f e).bind fun d => (owAt i e).bind fun xs => if sml (xs.length + 1) = true then some (.nx (e.set i (some (.ow (xs ++ [d]))))) else none := (rfl)
@[simp] theorem e_sExt : sExt i f e = (f e).bind fun d => (seqOf d).bind fun ys => (owAt i e).bind fun xs => if sml (xs.length + ys.length) = true then some (.nx (e.set i (some (.ow (xs ++ ys))))) else none := (rfl)
@[simp] theorem e_bNm {d : D} : bNm i d e = some (e.set i (some (.sh d))) := (rfl)
@[simp] theorem e_runF {n : Nat} {ds : List D} : runF n s ds = endFl (s (startE n ds)) := (rfl)
@[simp] theorem e_owAt : owAt i e = (match e[i]? with
  | some (some (.ow xs)) => some xs
  | _ => none) := (rfl)
@[simp] theorem e_frzE : frzE i e = (match e[i]? with
  | some (some (.ow xs)) => e.set i (some (.sh (.list xs)))
  | some (some (.od ds)) => e.set i (some (.sh (.dict ds)))
  | _ => e) := (rfl)
@[simp] theorem e_wipe0 : wipeE e [] = e := (rfl)
@[simp] theorem e_wipe1 {v : Nat} {vs : List Nat} : wipeE e (v :: vs) = (wipeE e vs).set v none := (rfl)
@[simp] theorem e_addI {a b : Int} : addD (.int a) (.int b) = some (.int (a + b)) := (rfl)
@[simp] theorem e_subI {a b : Int} : subD (.int a) (.int b) = some (.int (a - b)) := (rfl)
@[simp] theorem e_negI {a : Int} : negD (.int a) = some (.int (-a)) := (rfl)
@[simp] theorem e_ltI {a b : Int} : ltD (.int a) (.int b) = some (.bool (decide (a < b))) := (rfl)
@[simp] theorem e_leI {a b : Int} : leD (.int a) (.int b) = some (.bool (decide (a ≤ b))) := (rfl)
@[simp] theorem e_gtI {a b : Int} : gtD (.int a) (.int b) = some (.bool (decide (b < a))) := (rfl)
@[simp] theorem e_geI {a b : Int} : geD (.int a) (.int b) = some (.bool (decide (b ≤ a))) := (rfl)
@[simp] theorem e_lenL {xs : List D} : lenD (.list xs) = some (.int xs.length) := (rfl)
@[simp] theorem e_lenT {xs : List D} : lenD (.tuple xs) = some (.int xs.length) := (rfl)
@[simp] theorem e_tupleL {xs : List D} : tupleD (.list xs) = some (.tuple xs) := (rfl)
@[simp] theorem e_tupleT {xs : List D} : tupleD (.tuple xs) = some (.tuple xs) := (rfl)
@[simp] theorem e_ixT {xs : List D} {k : Int} : ixD (.tuple xs) (.int k) = atI xs k := (rfl)
@[simp] theorem e_ixL {xs : List D} {k : Int} : ixD (.list xs) (.int k) = atI xs k := (rfl)
@[simp] theorem e_itemsT {xs : List D} : itemsD (.tuple xs) = some xs := (rfl)
@[simp] theorem e_itemsL {xs : List D} : itemsD (.list xs) = some xs := (rfl)
@[simp] theorem e_seqOfT {xs : List D} : seqOf (.tuple xs) = some xs := (rfl)
@[simp] theorem e_seqOfL {xs : List D} : seqOf (.list xs) = some xs := (rfl)
@[simp] theorem e_max2 {a b : Int} : max2D (.int a) (.int b) = some (.int (if b > a then b else a)) := (rfl)
@[simp] theorem e_min2 {a b : Int} : min2D (.int a) (.int b) = some (.int (if b < a then b else a)) := (rfl)
@[simp] theorem e_sumL {xs : List D} : sumD (.list xs) = (asInts xs).map fun ns => .int ns.sum := (rfl)
@[simp] theorem e_sumT {xs : List D} : sumD (.tuple xs) = (asInts xs).map fun ns => .int ns.sum := (rfl)
@[simp] theorem e_allL {xs : List D} : allD (.list xs) = (asBools xs).map fun ns => .bool (ns.all id) := (rfl)
@[simp] theorem e_anyL {xs : List D} : anyD (.list xs) = (asBools xs).map fun ns => .bool (ns.any id) := (rfl)
@[simp] theorem e_minL {xs : List D} : minD (.list xs) = (asInts xs).bind fun ns => ns.min?.map PyData.int := (rfl)
@[simp] theorem e_maxL {xs : List D} : maxD (.list xs) = (asInts xs).bind fun ns => ns.max?.map PyData.int := (rfl)
@[simp] theorem e_asInts {ns : List Int} : asInts (ns.map PyData.int) = some ns := asInts_map ns
@[simp] theorem e_asBools {ns : List Bool} : asBools (ns.map PyData.bool) = some ns := asBools_map ns
@[simp] theorem e_intI {a : Int} : intD (.int a) = some (.int a) := (rfl)
@[simp] theorem e_intB {a : Bool} : intD (.bool a) = some (.int (if a then 1 else 0)) := (rfl)
@[simp] theorem e_isB {a b : Bool} : isBD (.bool a) (.bool b) = some (.bool (a == b)) := (rfl)
@[simp] theorem e_notB {a b : Bool} : notBD (.bool a) (.bool b) = some (.bool (a != b)) := (rfl)
@[simp] theorem e_cutT {xs : List D} {lo hi : Option Int} : cutD (.tuple xs) lo hi = some (.tuple (cutL xs lo hi)) := (rfl)
@[simp] theorem e_cutL {xs : List D} {lo hi : Option Int} : cutD (.list xs) lo hi = some (.list (cutL xs lo hi)) := (rfl)
end
theorem mul_ok {a b : Int} (h : mulOk a b = true) : mulD (.int a) (.int b) = some (.int (a * b)) := by simp [mulD, h]
theorem mulOk_r {a b : Int} (h1 : -(2 ^ 62) ≤ b) (h2 : b ≤ 2 ^ 62) : mulOk a b = true := by
  unfold mulOk
  have : b.natAbs < 2 ^ 63 := by omega
  simp [this]
theorem mulOk_l {a b : Int} (h1 : -(2 ^ 62) ≤ a) (h2 : a ≤ 2 ^ 62) : mulOk a b = true := by
  unfold mulOk
  have : a.natAbs < 2 ^ 63 := by omega
  simp [this]
theorem mul_r {a b : Int} (h1 : -(2 ^ 62) ≤ b) (h2 : b ≤ 2 ^ 62) : mulD (.int a) (.int b) = some (.int (a * b)) := mul_ok (mulOk_r h1 h2)
theorem mul_l {a b : Int} (h1 : -(2 ^ 62) ≤ a) (h2 : a ≤ 2 ^ 62) : mulD (.int a) (.int b) = some (.int (a * b)) := mul_ok (mulOk_l h1 h2)
theorem fdiv_ok {a b : Int} (h1 : 0 < b) (h2 : b ≤ 2 ^ 62) : fdivD (.int a) (.int b) = some (.int (a / b)) := by
  have h3 : b.natAbs < 2 ^ 63 := by omega
  have h4 : b.natAbs < 2 ^ 4000 := Nat.lt_of_lt_of_le h3 (Nat.pow_le_pow_right (by decide) (by decide))
  unfold fdivD
  exact if_pos ⟨h1, h4⟩
theorem mod_ok {a b : Int} (h1 : 0 < b) : modD (.int a) (.int b) = some (.int (a % b)) := by simp [modD, h1]
theorem add_t {xs ys : List D} (h : xs.length + ys.length ≤ 100000) : addD (.tuple xs) (.tuple ys) = some (.tuple (xs ++ ys)) := by simp [addD, sml_of h]
theorem add_l {xs ys : List D} (h : xs.length + ys.length ≤ 100000) : addD (.list xs) (.list ys) = some (.list (xs ++ ys)) := by simp [addD, sml_of h]
theorem rng1_ok {n : Nat} (h : n ≤ 100000) : rng1D (.int (n : Int)) = some ((List.range n).map fun i : Nat => PyData.int (i : Int)) := by
  have : rngOk (n : Int) = true := by
    unfold rngOk
    simp only [Bool.and_eq_true, decide_eq_true_eq]
    omega
  unfold rng1D
  simp only [this, if_true, rngL]
  simp
theorem rgS1_ok {n : Nat} (h : n ≤ 100000) : rgS1 (.int (n : Int)) = some ((List.range n).map fun i : Nat => PyData.int (i : Int)) := by
  have : rgSmall (n : Int) = true := by
    unfold rgSmall
    simp only [Bool.and_eq_true, decide_eq_true_eq]
    omega
  unfold rgS1
  simp only [this, if_true, rngL]
  simp
theorem pick3 {a b c r : Int} (h1 : 0 ≤ r) (h2 : r < 3) : ∃ v, (v = a ∨ v = b ∨ v = c) ∧ atI [PyData.int a, .int b, .int c] r = some (.int v) := by
  obtain rfl | rfl | rfl : r = 0 ∨ r = 1 ∨ r = 2 := by omega
  · exact ⟨a, .inl rfl, rfl⟩
  · exact ⟨b, .inr (.inl rfl), rfl⟩
  · exact ⟨c, .inr (.inr rfl), rfl⟩
theorem pick4 {a b c d r : Int} (h1 : 0 ≤ r) (h2 : r < 4) : ∃ v, (v = a ∨ v = b ∨ v = c ∨ v = d) ∧ atI [PyData.int a, .int b, .int c, .int d] r = some (.int v) := by
  obtain rfl | rfl | rfl | rfl : r = 0 ∨ r = 1 ∨ r = 2 ∨ r = 3 := by omega
  · exact ⟨a, .inl rfl, rfl⟩
  · exact ⟨b, .inr (.inl rfl), rfl⟩
  · exact ⟨c, .inr (.inr (.inl rfl)), rfl⟩
  · exact ⟨d, .inr (.inr (.inr rfl)), rfl⟩
/-- items by place -/
theorem atI_of {α : Type} {xs : List α} {n : Nat} {x : α} (h : xs[n]? = some x) : atI xs (n : Int) = some x := atI_nat h
theorem atI_pos {α : Type} {xs : List α} {k : Int} (h : 0 ≤ k) : atI xs k = xs[k.toNat]? := by
  unfold atI ixN
  rw [if_pos h]
  by_cases hk : k < xs.length
  · rw [if_pos hk]; rfl
  · rw [if_neg hk]
    have : xs.length ≤ k.toNat := by omega
    rw [List.getElem?_eq_none this]; rfl

/-! ### data that can be compared -/
def shp : Nat → D → Bool
  | _, .none => true
  | _, .bool _ => true
  | _, .int _ => true
  | _, .str x => PyData.strOk x
  | n + 1, .list xs => xs.all (shp n)
  | n + 1, .tuple xs => xs.all (shp n)
  | _, _ => false
theorem canLayAll_of {xs : List D} (h : ∀ x ∈ xs, x.canLay0 = true) : PyData.canLayAll0 xs = true := by
  induction xs with
  | nil => rfl
  | cons x xs ih => simp only [PyData.canLayAll0, Bool.and_eq_true]; exact ⟨h x (by simp), ih fun y hy => h y (by simp [hy])⟩
theorem depthAll_le {xs : List D} {n : Nat} (h : ∀ x ∈ xs, x.depth ≤ n) : PyData.depthAll xs ≤ n := by
  induction xs with
  | nil => simp [PyData.depthAll]
  | cons x xs ih => simp only [PyData.depthAll]; exact Nat.max_le.mpr ⟨h x (by simp), ih fun y hy => h y (by simp [hy])⟩
theorem shp_ok : ∀ (n : Nat) (d : D), shp n d = true → d.canLay0 = true ∧ d.depth ≤ n
  | _, .none, _ => ⟨rfl, by simp [PyData.depth]⟩
  | _, .bool _, _ => ⟨rfl, by simp [PyData.depth]⟩
  | _, .int _, _ => ⟨rfl, by simp [PyData.depth]⟩
  | n, .str x, h => ⟨by cases n <;> simpa [PyData.canLay0, shp] using h, by simp [PyData.depth]⟩
  | n + 1, .list xs, h => by
    have h' : ∀ x ∈ xs, shp n x = true := by simpa [shp] using h
    exact ⟨by simp only [PyData.canLay0]; exact canLayAll_of fun x hx => (shp_ok n x (h' x hx)).1, by simp only [PyData.depth]; exact Nat.succ_le_succ (depthAll_le fun x hx => (shp_ok n x (h' x hx)).2)⟩
  | n + 1, .tuple xs, h => by
    have h' : ∀ x ∈ xs, shp n x = true := by simpa [shp] using h
    exact ⟨by simp only [PyData.canLay0]; exact canLayAll_of fun x hx => (shp_ok n x (h' x hx)).1, by simp only [PyData.depth]; exact Nat.succ_le_succ (depthAll_le fun x hx => (shp_ok n x (h' x hx)).2)⟩
  | 0, .list xs, h => by simp [shp] at h
  | 0, .tuple xs, h => by simp [shp] at h
  | 0, .dict xs, h => by simp [shp] at h
  | _ + 1, .dict xs, h => by simp [shp] at h
theorem shaped_of {n : Nat} {d : D} (h : shp n d = true) (hn : n ≤ 64 := by decide) : SeqAt.shaped d = true := by
  obtain ⟨h1, h2⟩ := shp_ok n d h
  unfold SeqAt.shaped
  simp only [Bool.and_eq_true, decide_eq_true_eq]
  exact ⟨h1, Nat.le_trans h2 hn⟩
theorem eq_ok {n m : Nat} {a b : D} (ha : shp n a = true) (hb : shp m b = true) (hn : n ≤ 64 := by decide) (hm : m ≤ 64 := by decide) : eqD a b = some (.bool (PyData.eqv a b)) := by
  unfold eqD
  rw [if_pos ⟨shaped_of ha hn, shaped_of hb hm⟩]
theorem ne_ok {n m : Nat} {a b : D} (ha : shp n a = true) (hb : shp m b = true) (hn : n ≤ 64 := by decide) (hm : m ≤ 64 := by decide) : neD a b = some (.bool (!PyData.eqv a b)) := by
  unfold neD
  rw [if_pos ⟨shaped_of ha hn, shaped_of hb hm⟩]
@[simp] theorem eq_int {a b : Int} : eqD (.int a) (.int b) = some (.bool (a == b)) := eq_ok (n := 0) (m := 0) rfl rfl
@[simp] theorem ne_int {a b : Int} : neD (.int a) (.int b) = some (.bool (!(a == b))) := ne_ok (n := 0) (m := 0) rfl rfl
@[simp] theorem eq_boolD {a b : Bool} : eqD (.bool a) (.bool b) = some (.bool (a == b)) := eq_ok (n := 0) (m := 0) rfl rfl
theorem shp_ints (n : Nat) (ns : List Int) : shp (n + 1) (.tuple (ns.map PyData.int)) = true := by
  simp only [shp, List.all_map, List.all_eq_true]
  intro x _
  cases n <;> rfl
theorem shp_intsL (n : Nat) (ns : List Int) : shp (n + 1) (.list (ns.map PyData.int)) = true := by
  simp only [shp, List.all_map, List.all_eq_true]
  intro x _
  cases n <;> rfl
theorem eqvAll_map {α : Type} {f : α → D} (h : ∀ x y, PyData.eqv (f x) (f y) = true ↔ x = y) : ∀ xs ys : List α, PyData.eqvAll (xs.map f) (ys.map f) = true ↔ xs = ys
  | [], [] => by simp [PyData.eqvAll]
  | [], _ :: _ => by simp [PyData.eqvAll]
  | _ :: _, [] => by simp [PyData.eqvAll]
  | x :: xs, y :: ys => by
    simp only [List.map_cons, PyData.eqvAll, Bool.and_eq_true, List.cons.injEq]
    rw [h, eqvAll_map h xs ys]
theorem eqv_tup {α : Type} {f : α → D} (h : ∀ x y, PyData.eqv (f x) (f y) = true ↔ x = y) (xs ys : List α) : PyData.eqv (.tuple (xs.map f)) (.tuple (ys.map f)) = true ↔ xs = ys := by
  simp only [PyData.eqv]; exact eqvAll_map h xs ys
theorem eqv_lst {α : Type} {f : α → D} (h : ∀ x y, PyData.eqv (f x) (f y) = true ↔ x = y) (xs ys : List α) : PyData.eqv (.list (xs.map f)) (.list (ys.map f)) = true ↔ xs = ys := by
  simp only [PyData.eqv]; exact eqvAll_map h xs ys
theorem eqv_int (x y : Int) : PyData.eqv (.int x) (.int y) = true ↔ x = y := by simp [PyData.eqv]
theorem eqv_nat (x y : Nat) : PyData.eqv (.int (x : Int)) (.int (y : Int)) = true ↔ x = y := by
  simp only [PyData.eqv, beq_iff_eq]
  omega
theorem eqv_self {n : Nat} {d : D} (h : shp n d = true) : PyData.eqv d d = true   := SeqAt.eqv_refl d (shp_ok n d h).1
theorem ne_self {n : Nat} {d : D} (h : shp n d = true) (hn : n ≤ 64 := by decide) : neD d d = some (.bool false) := by rw [ne_ok h h hn hn, eqv_self h]; rfl
theorem eq_self {n : Nat} {d : D} (h : shp n d = true) (hn : n ≤ 64 := by decide) : eqD d d = some (.bool true) := by rw [eq_ok h h hn hn, eqv_self h]

/-! ### loops -/
/-- a for that runs through: an invariant by the number of turns -/
theorem forD_inv {b : BD} {body : FS} (P : Nat → DEnv → Prop) : ∀ (ds : List D) (k : Nat) (e : DEnv), P k e →
    (∀ (i : Nat) (d : D) (e : DEnv), ds[i]? = some d → P (k + i) e → ∃ e1 e2, b d e = some e1 ∧ (body e1 = some (.nx e2) ∨ body e1 = some (.ct e2)) ∧ P (k + i + 1) e2) →
    ∃ e', forD b body ds e = some (.nx e') ∧ P (k + ds.length) e'
  | [], k, e, h0, _ => ⟨e, rfl, h0⟩
  | d :: ds, k, e, h0, hs => by
    obtain ⟨e1, e2, h1, h2, h3⟩ := hs 0 d e rfl h0
    obtain ⟨e', h4, h5⟩ := forD_inv P ds (k + 1) e2 h3 fun i d e hd hp => by
      have e' : k + (i + 1) = k + 1 + i := by omega
      have := hs (i + 1) d e hd (by rw [e']; exact hp)
      rw [e'] at this
      exact this
    refine ⟨e', ?_, by rw [List.length_cons]; rw [show k + (ds.length + 1) = k + 1 + ds.length by omega]; exact h5⟩
    unfold forD
    rw [h1]
    rcases h2 with h2 | h2 <;> (simp only [Option.bind_some, h2]; exact h4)
/-- over typed items -/
theorem forD_typed {α : Type} {b : BD} {body : FS} (φ : α → D) (P : List α → DEnv → Prop) (xs : List α) (e : DEnv) (h0 : P [] e)
    (hs : ∀ (pre : List α) (x : α) (post : List α) (e : DEnv), xs = pre ++ x :: post → P pre e → ∃ e1 e2, b (φ x) e = some e1 ∧ (body e1 = some (.nx e2) ∨ body e1 = some (.ct e2)) ∧ P (pre ++ [x]) e2) :
    ∃ e', forD b body (xs.map φ) e = some (.nx e') ∧ P xs e' := by
  obtain ⟨e', h1, h2⟩ := forD_inv (b := b) (body := body) (fun k e => P (xs.take k) e) (xs.map φ) 0 e (by simpa using h0) fun i d e hd hp => by
    rw [List.getElem?_map] at hd
    obtain ⟨x, hx, rfl⟩ := Option.map_eq_some_iff.mp hd
    obtain ⟨hl, hx'⟩ := List.getElem?_eq_some_iff.mp hx
    rw [Nat.zero_add] at hp ⊢
    obtain ⟨e1, e2, a1, a2, a3⟩ := hs (xs.take i) x (xs.drop (i + 1)) e (by rw [← hx', ← List.drop_eq_getElem_cons hl, List.take_append_drop]) hp
    refine ⟨e1, e2, a1, a2, ?_⟩
    rw [List.take_add_one, hx]
    exact a3
  refine ⟨e', h1, ?_⟩
  simpa using h2
theorem forD_range {b : BD} {body : FS} (P : Nat → DEnv → Prop) (n : Nat) (e : DEnv) (h0 : P 0 e) (hs : ∀ (i : Nat) (e : DEnv), i < n → P i e → ∃ e1 e2, b (.int (i : Int)) e = some e1 ∧ (body e1 = some (.nx e2) ∨ body e1 = some (.ct e2)) ∧ P (i + 1) e2) :
    ∃ e', forD b body ((List.range n).map fun i : Nat => PyData.int (i : Int)) e = some (.nx e') ∧ P n e' := by
  obtain ⟨e', h1, h2⟩ := forD_inv (b := b) (body := body) P ((List.range n).map fun i : Nat => PyData.int (i : Int)) 0 e h0 fun i d e hd hp => by
    rw [List.getElem?_map] at hd
    obtain ⟨x, hx, rfl⟩ := Option.map_eq_some_iff.mp hd
    obtain ⟨hl, hx'⟩ := List.getElem?_eq_some_iff.mp hx
    rw [List.length_range] at hl
    rw [List.getElem_range] at hx'
    subst hx'
    rw [Nat.zero_add] at hp ⊢
    exact hs i e hl hp
  refine ⟨e', h1, ?_⟩
  simpa using h2
/-- a comprehension over typed items -/
theorem lcGo_typed {α : Type} {b : BD} {t : FB} {el : FE} {e : DEnv} (φ ψ : α → D) (p : α → Bool) : ∀ (xs : List α), (∀ x ∈ xs, ∃ e1, b (φ x) e = some e1 ∧ t e1 = some (p x) ∧ (p x = true → el e1 = some (ψ x))) → lcGo b t el e (xs.map φ) = some ((xs.filter p).map ψ)
  | [], _ => rfl
  | x :: xs, h => by
    obtain ⟨e1, h1, h2, h3⟩ := h x (by simp)
    have ih := lcGo_typed φ ψ p xs fun y hy => h y (by simp [hy])
    rw [List.map_cons]
    unfold lcGo
    rw [h1]
    simp only [Option.bind_some, h2]
    cases hp : p x with
    | true => simp only [if_true, h3 hp, Option.bind_some, ih, List.filter_cons_of_pos hp, List.map_cons]
    | false => simp only [Bool.false_eq_true, if_false, ih]; rw [List.filter_cons_of_neg (by simp [hp])]
theorem lcGo_map {α : Type} {b : BD} {el : FE} {e : DEnv} (φ ψ : α → D) (xs : List α) (h : ∀ x ∈ xs, ∃ e1, b (φ x) e = some e1 ∧ el e1 = some (ψ x)) : lcGo b yesT el e (xs.map φ) = some (xs.map ψ) := by
  have := lcGo_typed (b := b) (t := yesT) (el := el) (e := e) φ ψ (fun _ => true) xs fun x hx => by
    obtain ⟨e1, h1, h2⟩ := h x hx
    exact ⟨e1, h1, rfl, fun _ => h2⟩
  rw [this, List.filter_eq_self.mpr (fun _ _ => rfl)]
end DL
namespace DL
open PySem L2
/-- a comprehension whose items are only known to be some -/
theorem lcGo_exists {α β : Type} {b : BD} {t : FB} {el : FE} {e : DEnv} (φ : α → D) (ψ : β → D) (P : β → Prop) : ∀ (xs : List α), (∀ x ∈ xs, ∃ e1 y, b (φ x) e = some e1 ∧ t e1 = some true ∧ el e1 = some (ψ y) ∧ P y) → ∃ ys : List β, lcGo b t el e (xs.map φ) = some (ys.map ψ) ∧ ys.length = xs.length ∧ ∀ y ∈ ys, P y
  | [], _ => ⟨[], rfl, rfl, fun _ h => by cases h⟩
  | x :: xs, h => by
    obtain ⟨e1, y, h1, h2, h3, h4⟩ := h x (by simp)
    obtain ⟨ys, i1, i2, i3⟩ := lcGo_exists φ ψ P xs fun z hz => h z (by simp [hz])
    refine ⟨y :: ys, ?_, by simp [i2], fun z hz => ?_⟩
    · rw [List.map_cons]
      unfold lcGo
      rw [h1]
      simp only [Option.bind_some, h2, if_true, h3, i1, List.map_cons]
    · rcases List.mem_cons.mp hz with e | e
      · subst e; exact h4
      · exact i3 z e
end DL
namespace DL
open PySem L2
section
variable {α : Type}
@[simp] theorem e_asBools2 {xs : List α} {p : α → Bool} : asBools (xs.map fun x => PyData.bool (p x)) = some (xs.map p) := by
  have := asBools_map (xs.map p)
  rwa [List.map_map] at this
@[simp] theorem e_asBools3 {xs : List α} {p : α → Bool} : asBools (xs.map (PyData.bool ∘ p)) = some (xs.map p) := e_asBools2
@[simp] theorem e_asBools4 {n : Nat} {p : Bool} : asBools (List.replicate n (PyData.bool p)) = some (List.replicate n p) := by
  have := asBools_map (List.replicate n p)
  rwa [List.map_replicate] at this
@[simp] theorem e_asBoolsC {p : Bool} {ds : List D} : asBools (PyData.bool p :: ds) = (asBools ds).map (p :: ·) := (rfl)
@[simp] theorem e_asBoolsN : asBools [] = some [] := (rfl)
@[simp] theorem e_asInts2 {xs : List α} {p : α → Int} : asInts (xs.map fun x => PyData.int (p x)) = some (xs.map p) := by
  have := asInts_map (xs.map p)
  rwa [List.map_map] at this
@[simp] theorem e_asInts3 {xs : List α} {p : α → Int} : asInts (xs.map (PyData.int ∘ p)) = some (xs.map p) := e_asInts2
@[simp] theorem e_asIntsC {p : Int} {ds : List D} : asInts (PyData.int p :: ds) = (asInts ds).map (p :: ·) := (rfl)
@[simp] theorem e_asIntsN : asInts [] = some [] := (rfl)
end
end DL
namespace DL
open PySem L2
theorem sh63_of {n : Nat} {d : D} (h : shp n d = true) (hn : n ≤ 62 := by decide) : sh63 d = true := by
  obtain ⟨h1, h2⟩ := shp_ok n d h
  unfold sh63
  simp only [Bool.and_eq_true, decide_eq_true_eq]
  exact ⟨h1, Nat.le_trans h2 hn⟩
theorem okIn_of {n m : Nat} {x : D} {xs : List D} (hx : shp n x = true) (hxs : ∀ y ∈ xs, shp m y = true) (hn : n ≤ 62 := by decide) : okIn x xs = true := by
  unfold okIn
  rw [Bool.or_eq_true, Bool.and_eq_true, Bool.and_eq_true]
  exact .inr ⟨sh63_of hx hn, canLayAll_of fun y hy => (shp_ok m y (hxs y hy)).1⟩
theorem inL_ok {n m : Nat} {x : D} {xs : List D} (hx : shp n x = true) (hxs : ∀ y ∈ xs, shp m y = true) (hn : n ≤ 62 := by decide) : inD x (.list xs) = some (.bool (inSeq x xs)) := if_pos (okIn_of hx hxs hn)
theorem ninL_ok {n m : Nat} {x : D} {xs : List D} (hx : shp n x = true) (hxs : ∀ y ∈ xs, shp m y = true) (hn : n ≤ 62 := by decide) : ninD x (.list xs) = some (.bool (!inSeq x xs)) := if_pos (okIn_of hx hxs hn)
theorem inSeq_mem {n : Nat} {x : D} {xs : List D} (hx : shp n x = true) (h : x ∈ xs) : inSeq x xs = true := List.any_eq_true.mpr ⟨x, h, eqv_self hx⟩
theorem rng2_ok {a b : Nat} (h : b ≤ 100000) (h2 : a ≤ 100000) : rng2D (.int (a : Int)) (.int (b : Int)) = some ((List.range' a (b - a)).map fun i : Nat => PyData.int (i : Int)) := by
  have h3 : rngOk (a : Int) = true ∧ rngOk (b : Int) = true := by
    unfold rngOk
    simp only [Bool.and_eq_true, decide_eq_true_eq]
    omega
  show (if rngOk (a : Int) = true ∧ rngOk (b : Int) = true then some (rngL (a : Int) (b : Int)) else none) = _
  rw [if_pos h3, rngL, List.range'_eq_map_range, List.map_map, show ((b : Int) - (a : Int)).toNat = b - a by omega]
  rfl
theorem rgS2_ok {a b : Nat} (h : b ≤ 100000) (h2 : a ≤ 100000) : rgS2 (.int (a : Int)) (.int (b : Int)) = some ((List.range' a (b - a)).map fun i : Nat => PyData.int (i : Int)) := by
  have h3 : rgSmall (a : Int) = true ∧ rgSmall (b : Int) = true := by
    unfold rgSmall
    simp only [Bool.and_eq_true, decide_eq_true_eq]
    omega
  show (if rgSmall (a : Int) = true ∧ rgSmall (b : Int) = true then some (rngL (a : Int) (b : Int)) else none) = _
  rw [if_pos h3, rngL, List.range'_eq_map_range, List.map_map, show ((b : Int) - (a : Int)).toNat = b - a by omega]
  rfl
@[simp] theorem e_bTp {bs : List BD} {ds : List D} {e : DEnv} : bTp bs (.tuple ds) e = bAll bs ds e := (rfl)
@[simp] theorem e_bAll0 {e : DEnv} : bAll [] [] e = some e := (rfl)
@[simp] theorem e_bAll1 {b : BD} {bs : List BD} {d : D} {ds : List D} {e : DEnv} : bAll (b :: bs) (d :: ds) e = (b d e).bind fun e' => bAll bs ds e' := (rfl)
@[simp] theorem e_isN1 : isND .none = some (.bool true) := (rfl)
@[simp] theorem e_isN2 {ds : List D} : isND (.tuple ds) = some (.bool false) := (rfl)
@[simp] theorem e_isN3 {i : Int} : isND (.int i) = some (.bool false) := (rfl)
@[simp] theorem e_notN1 : notND .none = some (.bool false) := (rfl)
@[simp] theorem e_notN2 {ds : List D} : notND (.tuple ds) = some (.bool true) := (rfl)
@[simp] theorem e_notN3 {i : Int} : notND (.int i) = some (.bool true) := (rfl)
theorem pow2_ok {a : Int} (h1 : -(2 ^ 62) ≤ a) (h2 : a ≤ 2 ^ 62) : powD (.int a) (.int 2) = some (.int (a * a)) := by
  have h3 : a.natAbs < 2 ^ 64 := by omega
  show (if (0 : Int) ≤ 2 ∧ (2 : Int) ≤ 1000 ∧ a.natAbs < 2 ^ 64 then some (PyData.int (a ^ (2 : Int).toNat)) else none) = _
  rw [if_pos ⟨by decide, by decide, h3⟩]
  have : a ^ (2 : Int).toNat = a * a := by rw [show (2 : Int).toNat = 2 from rfl, Int.pow_succ, Int.pow_succ, Int.pow_zero, Int.one_mul]
  rw [this]
theorem forD_rangeF {b : BD} {body : FS} (P : Nat → DEnv → Prop) (a m : Nat) (e : DEnv) (h0 : P a e) (hs : ∀ (i : Nat) (e : DEnv), a ≤ i → i < a + m → P i e → ∃ e1 e2, b (.int (i : Int)) e = some e1 ∧ (body e1 = some (.nx e2) ∨ body e1 = some (.ct e2)) ∧ P (i + 1) e2) :
    ∃ e', forD b body ((List.range' a m).map fun i : Nat => PyData.int (i : Int)) e = some (.nx e') ∧ P (a + m) e' := by
  obtain ⟨e', h1, h2⟩ := forD_inv (b := b) (body := body) P ((List.range' a m).map fun i : Nat => PyData.int (i : Int)) a e h0 fun i d e hd hp => by
    rw [List.getElem?_map] at hd
    obtain ⟨x, hx, rfl⟩ := Option.map_eq_some_iff.mp hd
    obtain ⟨hl, hx'⟩ := List.getElem?_eq_some_iff.mp hx
    rw [List.length_range'] at hl
    rw [List.getElem_range'] at hx'
    have hx2 : x = a + i := by omega
    subst hx2
    exact hs (a + i) e (by omega) (by omega) hp
  refine ⟨e', h1, ?_⟩
  simpa using h2
end DL

/-! DLay9: enumerate, zip. -/
namespace PySem
theorem meets_enum_one {v : Value} {o : Obj} {H : Heap → Prop} (B : Begins v o H) :
    Meets (Builtin.«enumerate.__new__» ⟨[.type "enumerate", v], []⟩) (fun _ R s => H s.heap ∧
      R (.ok (.ret (.ref (s.heap.push o).objs.size))) { s with heap := (s.heap.push o).push { cls := .type "enumerate", data := .fields #[.none, .bool false, .ref s.heap.objs.size, rawInt 0, .none, .none] } }) :=
  .of_wp fun prog w A R s h => by
    obtain ⟨hp, g, d, tk, os⟩ := s; obtain ⟨h1, h⟩ := h
    have hsub := sub_enumerate
    have q1 : ∀ {A' : Around} {E : Value → Shared → Prop} {Q : Value → Shared → Prop}, Q (.ref hp.objs.size) ⟨(hp.push o), g, d, tk, os⟩ → wpAny (model prog w) A' (pyIter v) Q E ⟨hp, g, d, tk, os⟩ :=
      fun q => B.iter prog w _ _ ⟨hp, g, d, tk, os⟩ _ h1 q
    wp_walk using q1
    refine wpAny_stack_any fun st => wpAny_pure ?_
    split
    · rename_i c _ _ _ _ _
      cases (c == Value.type "enumerate")
      · wp_walk using q1
        exact ⟨_, rfl, h⟩
      · wp_walk using q1
        exact ⟨_, rfl, h⟩
    · wp_walk using q1
      exact ⟨_, rfl, h⟩
theorem enum_one {prog : Program} {w : World} {A : Around} {E : Value → Shared → Prop} {s : Shared} {v : Value} {o : Obj} {H : Heap → Prop} {Q : Value → Shared → Prop} (B : Begins v o H) (h1 : H s.heap)
    (h : ∀ h', IsEnum h' (s.heap.objs.size + 1) s.heap.objs.size 0 .none → h'.get? s.heap.objs.size = some o → h'.objs.size = s.heap.objs.size + 2 →
      (∀ b o, s.heap.get? b = some o → h'.get? b = some o) → Q (.ref (s.heap.objs.size + 1)) { s with heap := h' }) :
    wpAny (model prog w) A (call (.type "enumerate") [v]) Q E s := by
  refine callType_new F.called_enumerate (by decide) (F.typeCall_enumerate_1 _) (F.newCall_enumerate_1 _) (fun obj => F.args_object_init_2 obj _) F.entry_enumerate_new (meets_enum_one B) ⟨h1, ?_⟩
  have hz : (s.heap.push o).objs.size = s.heap.objs.size + 1 := Heap.size_push ..
  show _ ∧ _
  rw [hz]
  have he : IsEnum ((s.heap.push o).push { cls := .type "enumerate", data := .fields #[.none, .bool false, .ref s.heap.objs.size, rawInt 0, .none, .none] }) (s.heap.objs.size + 1) s.heap.objs.size 0 .none := by
    have := Heap.get?_push_size (s.heap.push o) (o := { cls := .type "enumerate", data := .fields #[.none, .bool false, .ref s.heap.objs.size, rawInt 0, .none, .none] }) rfl
    rw [hz] at this; exact this
  refine ⟨⟨_, he, rfl⟩, h _ he (Heap.get?_push_of_some _ (Heap.get?_push_size _ B.free)) (by rw [Heap.size_push, hz]) fun b o x => Heap.get?_push_of_some _ (Heap.get?_push_of_some _ x)⟩
end PySem
namespace DL
open PySem PySem.Spec PyProof.Rows L2 Evl

/-! ### a Turn from a WalksT -/
/-- the pairs that come: a new tuple of what Y tells -/
def Jt (R : Hp → Prop) (n : Nat) (Y : Nat → Hp → List V → Prop) : It :=
  ⟨fun i H => R H ∧ i < n, fun i H v H' => ∃ T xs, v = .ref T ∧ H T = none ∧ H' = upd H T (.tup xs) ∧ Y i H xs, fun i H => R H ∧ i = n⟩
theorem turn_walks {P : Program} {w : World} {K : PySem.W.Frag} {elts : List Expr} {kk : Nat} {tpos : Pos} {it : Addr} {fp : List Addr} {n : Nat} {R : Hp → Prop} {Y : Nat → Hp → List V → Prop} {tn : Nat → Heap → Prop}
    (mem : it ∈ fp) (obj : ∀ i h, tn i h → ∀ b ∈ fp, ∃ o, h.get? b = some o ∧ ∀ v, o.data ≠ .cell v)
    (keep : ∀ i h h', tn i h → (∀ b ∈ fp, ∀ o, h.get? b = some o → h'.get? b = some o) → tn i h')
    (self : ∀ (A : Around) (i : Nat) (s : Shared) (Q : Value → Shared → Prop) (E : Value → Shared → Prop), tn i s.heap → Q (.ref it) s → wpAny (model P w) A (pyIter (.ref it)) Q E s)
    (wk : ∀ (X : Cx), X.prog = P → X.w = w → X.K = K → X.calm = true → ∀ (i : Nat) (pins : List (Addr × Obj)) (s : Shared) (σ : L2.St) (H : Hp), Inv X pins σ H s → (∀ b ∈ fp, FpOk X pins H b) → tn i s.heap → R H →
      ∃ fpA wr Pt St Mid, (∀ b ∈ wr, b ∈ fp) ∧ WalksT P w X.A it fpA wr n Pt St Mid ∧ St i s.heap ∧ (∀ j h, St j h → tn j h) ∧ ∀ vals, Pt i vals → ∃ xs, Vals xs vals.toList ∧ xs.length ≤ 3 ∧ Y i H xs) :
    Turn P w K (.Tuple elts kk tpos) (Jt R n Y) fp it tn where
  mem := mem
  obj := obj
  keep := keep
  self := self
  item := by
    intro X hP hw hK hc i pins s σ H E I hf st hg
    obtain ⟨fpA, wr, Pt, St, Mid, sub, W, hst, back, vals⟩ := wk X hP hw hK hc i pins s σ H I hf st hg.1
    subst hP hw hK
    refine W.item i s _ E hg.2 hst fun T vs h' tk hp hT htup hmid hk => ⟨_, rfl, ?_⟩
    refine W.go elts kk tpos i T { s with heap := h', toks := tk } _ E hmid fun h'' hst' hk' => ?_
    obtain ⟨xs, rv, hl, hy⟩ := vals vs hp
    have hap := W.apart i T h' hmid
    have htup2 : IsTup h'' T vs := by
      obtain ⟨o, ho, r⟩ := htup
      exact ⟨o, hk' T o hap ho, r⟩
    have new : ObjOk X.prog X.w (upd H T (.tup xs)) h'' T (.tup xs) := ⟨Nat.le_trans hl (by rw [sizeLine_eq]; decide), vs.toList, rv, by simpa using htup2⟩
    have I1 : Inv X pins σ (upd H T (.tup xs)) { s with heap := h'', toks := tk } :=
      I.turnedNew (ch := wr) (fun b o hb q => hk' b o hb (hk b o hb q)) (fun b hb => hf b (sub b hb)) hT new
    refine ⟨.ref T, _, I1, rfl, ⟨T, xs, rfl, I.hok.fresh hT, rfl, hy⟩, back _ _ hst', fun b hb => ?_⟩
    obtain ⟨o, ho, _⟩ := obj i s.heap st b hb
    rw [upd_ne (Nat.ne_of_lt (Nat.lt_of_lt_of_le (Heap.lt_size ho) hT))]
    exact (hf b hb).1
  done := by
    intro X hP hw hK hc i pins s σ H E I hf st hg
    obtain ⟨fpA, wr, Pt, St, Mid, sub, W, hst, back, vals⟩ := wk X hP hw hK hc i pins s σ H I hf st hg.1
    subst hP hw hK
    have e := hg.2
    subst e
    exact W.done s _ E hst fun h' tk hk => ⟨rfl, I.turnedL (t' := tk) (ch := wr) hk fun b hb => hf b (sub b hb)⟩

/-! ### what can be drawn from -/
inductive Sk where
  | L (a : Addr) | T (a : Addr) | S (z : Str) (t : Tok)
def Sk.val : Sk → Value
  | .L a => .ref a
  | .T a => .ref a
  | .S z t => .str z t
def Sk.rd (K : PySem.W.Frag) (H : Hp) : Sk → List V → Prop
  | .L a, xs => SqL K H a xs
  | .T a, xs => SqT K H a xs
  | .S z _, xs => xs = z.cps.toList.map fun c => V.str ⟨#[c]⟩
def Sk.it (h : Heap) (it : Addr) (i : Nat) : Sk → Prop
  | .L a => h.IsListIter it a i
  | .T a => h.IsTupleIter it a i
  | .S z t => h.IsStrIter it (strIterType z) z t i
def Sk.obj : Sk → Obj
  | .L a => { cls := .type "list_iterator", data := .fields #[.ref a, .int 0 0] }
  | .T a => { cls := .type "tuple_iterator", data := .fields #[.ref a, .int 0 0] }
  | .S z t => { cls := .type (strIterType z), data := .fields #[.str z t, .int 0 0] }
def Sk.fr : Sk → List Addr
  | .L a => [a]
  | .T a => [a]
  | .S _ _ => []
theorem Sk.rd_mono {K : PySem.W.Frag} {G H : Hp} (x : ExT G H) {k : Sk} {xs : List V} (h : k.rd K G xs) : k.rd K H xs := by
  cases k with
  | L a => exact ext_l x h
  | T a => exact ext_t x h
  | S z t => exact h
theorem Sk.it_obj {h : Heap} {it : Addr} {i : Nat} {k : Sk} (q : k.it h it i) : ∃ o, h.get? it = some o ∧ ∀ v, o.data ≠ .cell v := by
  cases k with
  | L a => obtain ⟨o, ho, hc, hd⟩ := q; exact ⟨o, ho, fun v z => by rw [hd] at z; cases z⟩
  | T a => obtain ⟨o, ho, hc, hd⟩ := q; exact ⟨o, ho, fun v z => by rw [hd] at z; cases z⟩
  | S z t => obtain ⟨o, ho, hc, hd⟩ := q; exact ⟨o, ho, fun v z => by rw [hd] at z; cases z⟩
theorem Sk.it_keep {h h' : Heap} {it : Addr} {i : Nat} {k : Sk} (q : k.it h it i) (e : ∀ o, h.get? it = some o → h'.get? it = some o) : k.it h' it i := by
  cases k with
  | L a => obtain ⟨o, ho, r⟩ := q; exact ⟨o, e o ho, r⟩
  | T a => obtain ⟨o, ho, r⟩ := q; exact ⟨o, e o ho, r⟩
  | S z t => obtain ⟨o, ho, r⟩ := q; exact ⟨o, e o ho, r⟩
theorem Sk.it_new {h : Heap} {it : Addr} {k : Sk} (e : h.get? it = some k.obj) : k.it h it 0 := by
  cases k with
  | L a => exact ⟨_, e, rfl, rfl⟩
  | T a => exact ⟨_, e, rfl, rfl⟩
  | S z t => exact ⟨_, e, rfl, rfl⟩
section
variable {X : Cx} {pins : List (Addr × Obj)} {σ : L2.St} {H : Hp} {s : Shared}
theorem Sk.draws {P : Program} {w : World} {A : Around} {k : Sk} {xs : List V} {it : Addr} {i : Nat} (I : Inv X pins σ H s) (hh : A.handled = none) (rd : k.rd X.K H xs) (hit : k.it s.heap it i) :
    ∃ Pt St, Draws P w A it (it :: k.fr) xs.length Pt St ∧ St i s.heap ∧ (∀ j h, St j h → k.it h it j) ∧ ∀ (j : Nat) u, Pt j u → ∃ x, xs[j]? = some x ∧ RelV x u := by
  cases k with
  | L a =>
    obtain ⟨its, rv, p, hz⟩ := I.list rd
    have hne : a ≠ it := by
      rintro rfl
      obtain ⟨o, ho, hc, _⟩ := hit
      obtain ⟨o', ho', hc', _⟩ := p.isList
      rw [ho] at ho'; cases ho'
      have := hc.symm.trans hc'
      simp at this
    have hl : its.toArray.size = xs.length := by rw [List.size_toArray]; exact rv.length.symm
    refine ⟨_, _, hl ▸ Draws.list (prog := P) (w := w) (A := A) hh it a hne its.toArray, ⟨hit, p.isList⟩, fun j h q => q.1, fun j u q => ?_⟩
    have q' : its[j]? = some u := by simpa using q
    have hj : j < xs.length := by rw [rv.length]; exact (List.getElem?_eq_some_iff.mp q').1
    obtain ⟨u', hu, r⟩ := rv.get (List.getElem?_eq_getElem hj)
    rw [q'] at hu; cases hu
    exact ⟨_, List.getElem?_eq_getElem hj, r⟩
  | T a =>
    obtain ⟨its, rv, p, hz⟩ := I.tuple rd
    have hne : a ≠ it := by
      rintro rfl
      obtain ⟨o, ho, hc, _⟩ := hit
      obtain ⟨o', ho', hc', _⟩ := id p
      rw [ho] at ho'; cases ho'
      have := hc.symm.trans hc'
      simp at this
    have hl : its.toArray.size = xs.length := by rw [List.size_toArray]; exact rv.length.symm
    refine ⟨_, _, hl ▸ Draws.tuple (prog := P) (w := w) (A := A) hh it a hne its.toArray, ⟨hit, p⟩, fun j h q => q.1, fun j u q => ?_⟩
    have q' : its[j]? = some u := by simpa using q
    have hj : j < xs.length := by rw [rv.length]; exact (List.getElem?_eq_some_iff.mp q').1
    obtain ⟨u', hu, r⟩ := rv.get (List.getElem?_eq_getElem hj)
    rw [q'] at hu; cases hu
    exact ⟨_, List.getElem?_eq_getElem hj, r⟩
  | S z t =>
    have rd' : xs = z.cps.toList.map fun c => V.str ⟨#[c]⟩ := rd
    have hl : z.cps.size = xs.length := by rw [rd']; simp
    refine ⟨_, _, hl ▸ Draws.text (prog := P) (w := w) (A := A) hh it z t, hit, fun j h q => q, fun j u q => ?_⟩
    obtain ⟨c, v, hc, rfl⟩ := q
    have hc' : z.cps.toList[j]? = some c := by simpa using hc
    exact ⟨.str ⟨#[c]⟩, by rw [rd', List.getElem?_map, hc']; rfl, ⟨v, rfl⟩⟩
theorem Sk.begins {k : Sk} {xs : List V} (I : Inv X pins σ H s) (rd : k.rd X.K H xs) : ∃ Q : Heap → Prop, Begins k.val k.obj Q ∧ Q s.heap ∧ ∀ b ∈ k.fr, b < s.heap.objs.size := by
  cases k with
  | L a =>
    obtain ⟨its, rv, p, hz⟩ := I.list rd
    exact ⟨_, begins_list a its.toArray, p.isList, fun b hb => by have : b = a := by simpa [Sk.fr] using hb
                                                                  subst this; exact p.lt⟩
  | T a =>
    obtain ⟨its, rv, p, hz⟩ := I.tuple rd
    refine ⟨_, begins_tuple a its.toArray, p, fun b hb => ?_⟩
    have : b = a := by simpa [Sk.fr] using hb
    subst this
    obtain ⟨o, ho, _⟩ := p
    exact Heap.lt_size ho
  | S z t => exact ⟨_, begins_text z t, trivial, fun b hb => by simp [Sk.fr] at hb⟩
end

/-! ### enumerate -/
def tnE (N : Nat) (k : Sk) (i : Nat) (h : Heap) : Prop := (∃ old, IsEnum h (N + 1) N ((i : Nat) : Int) old) ∧ k.it h N i
theorem turn_en {P : Program} {w : World} {K : PySem.W.Frag} {elts : List Expr} {kk : Nat} {tpos : Pos} (N : Nat) (k : Sk) (xs : List V) (hN : ∀ b ∈ k.fr, b < N) :
    Turn P w K (.Tuple elts kk tpos) (Jt (fun H => k.rd K H xs) xs.length fun i _ ys => ∃ x, xs[i]? = some x ∧ ys = [.int (i : Nat), x]) [N + 1, N] (N + 1) (tnE N k) :=
  turn_walks (by simp) (fun i h st b hb => by
    obtain ⟨⟨old, he⟩, hi⟩ := st
    have e' : b = N + 1 ∨ b = N := by simpa using hb
    rcases e' with z | z
    · rw [z]; exact ⟨_, he, fun v q => nomatch q⟩
    · rw [z]; exact (Sk.it_obj hi)) (fun i h h' st q => let ⟨⟨old, he⟩, hi⟩ := st; ⟨⟨old, q (N + 1) (by simp) _ he⟩, Sk.it_keep hi fun o z => q N (by simp) o z⟩)
    (fun A i s Q E st h => let ⟨⟨_, he⟩, _⟩ := st; wpAny_pyIter_enum he h)
    fun X hP hw hK hc i pins s σ H I hf st rd => by
      subst hP hw hK
      obtain ⟨⟨old, he⟩, hi⟩ := st
      obtain ⟨Pt, St, D, hst, back, vals⟩ := Sk.draws (P := X.prog) (w := X.w) (A := X.A.in1) I (show X.A.in1.handled = none from I.ok.hd hc) rd hi
      have hfr : N + 1 ∉ N :: k.fr := fun hm => by
        rcases List.mem_cons.mp hm with e | e
        · exact Nat.succ_ne_self N e
        · exact absurd (hN _ e) (Nat.not_lt.mpr (Nat.le_succ N))
      refine ⟨_, [N + 1, N], _, _, _, fun b hb => hb, WalksT.enumFrom 0 D (N + 1) (Nat.succ_ne_self N) hfr (by simp), ⟨⟨old, by rw [Int.zero_add]; exact he⟩, hst⟩, fun j h q => ⟨?_, back j h q.2⟩, fun vs q => ?_⟩
      · obtain ⟨⟨old, he⟩, _⟩ := q
        rw [Int.zero_add] at he
        exact ⟨old, he⟩
      · obtain ⟨t, x, hx, rfl⟩ := q
        obtain ⟨y, hy, r⟩ := vals i x hx
        rw [Int.zero_add]
        exact ⟨[.int (i : Nat), y], .cons ⟨_, rfl⟩ (.cons r .nil), by simp, y, hy, rfl⟩
/-! ### zip -/
def tnZ2 (N : Nat) (k1 k2 : Sk) (i : Nat) (h : Heap) : Prop := IsZip h (N + 4) (N + 2) (N + 3) .none ∧ IsTupOf2 h (N + 2) (.ref N) (.ref (N + 1)) ∧ (∃ a1 a2, IsTupOf2 h (N + 3) a1 a2) ∧ k1.it h N i ∧ k2.it h (N + 1) i
theorem turn_z2 {P : Program} {w : World} {K : PySem.W.Frag} {elts : List Expr} {kk : Nat} {tpos : Pos} (N : Nat) (k1 k2 : Sk) (xs ys : List V) (h1 : ∀ b ∈ k1.fr, b < N) (h2 : ∀ b ∈ k2.fr, b < N) :
    Turn P w K (.Tuple elts kk tpos) (Jt (fun H => k1.rd K H xs ∧ k2.rd K H ys) (min xs.length ys.length) fun i _ zs => ∃ x y, xs[i]? = some x ∧ ys[i]? = some y ∧ zs = [x, y]) [N + 4, N + 2, N + 3, N, N + 1] (N + 4) (tnZ2 N k1 k2) :=
  turn_walks (by simp) (fun i h st b hb => by
    obtain ⟨hz, hTI, ⟨a1, a2, hTO⟩, hi1, hi2⟩ := st
    have e' : b = N + 4 ∨ b = N + 2 ∨ b = N + 3 ∨ b = N ∨ b = N + 1 := by simpa using hb
    rcases e' with z | z | z | z | z
    · rw [z]; exact ⟨_, hz, fun v q => nomatch q⟩
    · rw [z]; exact ⟨_, hTI, fun v q => nomatch q⟩
    · rw [z]; exact ⟨_, hTO, fun v q => nomatch q⟩
    · rw [z]; exact (Sk.it_obj hi1)
    · rw [z]; exact (Sk.it_obj hi2)) (fun i h h' st q => let ⟨hz, hTI, ⟨a1, a2, hTO⟩, hi1, hi2⟩ := st; ⟨q _ (by simp) _ hz, q _ (by simp) _ hTI, ⟨a1, a2, q _ (by simp) _ hTO⟩, Sk.it_keep hi1 fun o z => q _ (by simp) o z, Sk.it_keep hi2 fun o z => q _ (by simp) o z⟩)
    (fun A i s Q E st h => wpAny_pyIter_zip st.1 h)
    fun X hP hw hK hc i pins s σ H I hf st rd => by
      subst hP hw hK
      obtain ⟨hz, hTI, hTO, hi1, hi2⟩ := st
      obtain ⟨Pt1, St1, D1, hst1, back1, vals1⟩ := Sk.draws (P := X.prog) (w := X.w) (A := X.A.in1) I (show X.A.in1.handled = none from I.ok.hd hc) rd.1 hi1
      obtain ⟨Pt2, St2, D2, hst2, back2, vals2⟩ := Sk.draws (P := X.prog) (w := X.w) (A := X.A.in1) I (show X.A.in1.handled = none from I.ok.hd hc) rd.2 hi2
      refine ⟨_, [N + 4, N + 3, N, N + 1], _, _, _, fun b hb => ?_, WalksT.zipD2 (zip_sep2 h1 h2) D1 D2, ⟨hz, hTI, hTO, hst1, hst2⟩, fun j h q => ⟨q.1, q.2.1, q.2.2.1, back1 j h q.2.2.2.1, back2 j h q.2.2.2.2⟩, fun vs q => ?_⟩
      · have e' : b = N + 4 ∨ b = N + 3 ∨ b = N ∨ b = N + 1 := by simpa using hb
        rcases e' with z | z | z | z <;> simp [z]
      · obtain ⟨x, y, hx, hy, rfl⟩ := q
        obtain ⟨x', hx', r1⟩ := vals1 i x hx
        obtain ⟨y', hy', r2⟩ := vals2 i y hy
        exact ⟨[x', y'], .cons r1 (.cons r2 .nil), by simp, x', y', hx', hy', rfl⟩
def tnZ3 (N : Nat) (k1 k2 k3 : Sk) (i : Nat) (h : Heap) : Prop := IsZip h (N + 5) (N + 3) (N + 4) .none ∧ IsTupOf3 h (N + 3) (.ref N) (.ref (N + 1)) (.ref (N + 2)) ∧ (∃ a1 a2 a3, IsTupOf3 h (N + 4) a1 a2 a3) ∧ k1.it h N i ∧ k2.it h (N + 1) i ∧ k3.it h (N + 2) i
theorem turn_z3 {P : Program} {w : World} {K : PySem.W.Frag} {elts : List Expr} {kk : Nat} {tpos : Pos} (N : Nat) (k1 k2 k3 : Sk) (xs ys us : List V) (h1 : ∀ b ∈ k1.fr, b < N) (h2 : ∀ b ∈ k2.fr, b < N) (h3 : ∀ b ∈ k3.fr, b < N) :
    Turn P w K (.Tuple elts kk tpos) (Jt (fun H => k1.rd K H xs ∧ k2.rd K H ys ∧ k3.rd K H us) (min (min xs.length ys.length) us.length) fun i _ zs => ∃ x y u, xs[i]? = some x ∧ ys[i]? = some y ∧ us[i]? = some u ∧ zs = [x, y, u]) [N + 5, N + 3, N + 4, N, N + 1, N + 2] (N + 5) (tnZ3 N k1 k2 k3) :=
  turn_walks (by simp) (fun i h st b hb => by
    obtain ⟨hz, hTI, ⟨a1, a2, a3, hTO⟩, hi1, hi2, hi3⟩ := st
    have e' : b = N + 5 ∨ b = N + 3 ∨ b = N + 4 ∨ b = N ∨ b = N + 1 ∨ b = N + 2 := by simpa using hb
    rcases e' with z | z | z | z | z | z
    · rw [z]; exact ⟨_, hz, fun v q => nomatch q⟩
    · rw [z]; exact ⟨_, hTI, fun v q => nomatch q⟩
    · rw [z]; exact ⟨_, hTO, fun v q => nomatch q⟩
    · rw [z]; exact (Sk.it_obj hi1)
    · rw [z]; exact (Sk.it_obj hi2)
    · rw [z]; exact (Sk.it_obj hi3)) (fun i h h' st q => let ⟨hz, hTI, ⟨a1, a2, a3, hTO⟩, hi1, hi2, hi3⟩ := st; ⟨q _ (by simp) _ hz, q _ (by simp) _ hTI, ⟨a1, a2, a3, q _ (by simp) _ hTO⟩, Sk.it_keep hi1 fun o z => q _ (by simp) o z, Sk.it_keep hi2 fun o z => q _ (by simp) o z, Sk.it_keep hi3 fun o z => q _ (by simp) o z⟩)
    (fun A i s Q E st h => wpAny_pyIter_zip st.1 h)
    fun X hP hw hK hc i pins s σ H I hf st rd => by
      subst hP hw hK
      obtain ⟨hz, hTI, hTO, hi1, hi2, hi3⟩ := st
      obtain ⟨Pt1, St1, D1, hst1, back1, vals1⟩ := Sk.draws (P := X.prog) (w := X.w) (A := X.A.in1) I (show X.A.in1.handled = none from I.ok.hd hc) rd.1 hi1
      obtain ⟨Pt2, St2, D2, hst2, back2, vals2⟩ := Sk.draws (P := X.prog) (w := X.w) (A := X.A.in1) I (show X.A.in1.handled = none from I.ok.hd hc) rd.2.1 hi2
      obtain ⟨Pt3, St3, D3, hst3, back3, vals3⟩ := Sk.draws (P := X.prog) (w := X.w) (A := X.A.in1) I (show X.A.in1.handled = none from I.ok.hd hc) rd.2.2 hi3
      refine ⟨_, [N + 5, N + 4, N, N + 1, N + 2], _, _, _, fun b hb => ?_, WalksT.zipD3 (zip_sep3 h1 h2 h3) D1 D2 D3, ⟨hz, hTI, hTO, hst1, hst2, hst3⟩, fun j h q => ⟨q.1, q.2.1, q.2.2.1, back1 j h q.2.2.2.1, back2 j h q.2.2.2.2.1, back3 j h q.2.2.2.2.2⟩, fun vs q => ?_⟩
      · have e' : b = N + 5 ∨ b = N + 4 ∨ b = N ∨ b = N + 1 ∨ b = N + 2 := by simpa using hb
        rcases e' with z | z | z | z | z <;> simp [z]
      · obtain ⟨x, y, u, hx, hy, hu, rfl⟩ := q
        obtain ⟨x', hx', r1⟩ := vals1 i x hx
        obtain ⟨y', hy', r2⟩ := vals2 i y hy
        obtain ⟨u', hu', r3⟩ := vals3 i u hu
        exact ⟨[x', y', u'], .cons r1 (.cons r2 (.cons r3 .nil)), by simp, x', y', u', hx', hy', hu', rfl⟩
/-! ### the rules -/
/-- from data to a source -/
theorem sk_of {K : PySem.W.Frag} {F H : Hp} {v : V} {u : Value} {d : D} {ds : List D} (x : Ex F H) (dp : Dp K F v d) (r : RelV v u) (hi : itemsD d = some ds) : ∃ k : Sk, ∃ vs, k.val = u ∧ k.rd K F vs ∧ DpAll K F vs ds := by
  unfold itemsD at hi
  split at hi
  · cases hi
    obtain ⟨a, vs, rfl, h1, h2⟩ := dp_lst dp
    cases r
    exact ⟨.L a, vs, rfl, h1, h2⟩
  · cases hi
    obtain ⟨a, vs, rfl, h1, h2⟩ := dp_tup dp
    cases r
    exact ⟨.T a, vs, rfl, h1, h2⟩
  · cases hi
    have := dp_str dp
    subst this
    obtain ⟨t, rfl⟩ := r
    refine ⟨.S _ t, _, rfl, rfl, ?_⟩
    rename_i z
    generalize z.cps.toList = l
    induction l with
    | nil => exact .nil
    | cons c l ih => exact .cons (.str _) ih
  · cases hi
def enL (n : Nat) : List D → List D
  | [] => []
  | d :: ds => .tuple [.int n, d] :: enL (n + 1) ds
def z2L : List D → List D → List D
  | d :: ds, e :: es => .tuple [d, e] :: z2L ds es
  | _, _ => []
def z3L : List D → List D → List D → List D
  | d :: ds, e :: es, c :: cs => .tuple [d, e, c] :: z3L ds es cs
  | _, _, _ => []
def enA (f : FE) : FA := fun e => (f e).bind fun d => (itemsD d).map (enL 0)
def zp2 (f g : FE) : FA := fun e => (f e).bind fun c => (g e).bind fun d => (itemsD c).bind fun cs => (itemsD d).map (z2L cs)
def zp3 (f g h : FE) : FA := fun e => (f e).bind fun c => (g e).bind fun d => (h e).bind fun b => (itemsD c).bind fun cs => (itemsD d).bind fun ds => (itemsD b).map (z3L cs ds)
theorem enL_get : ∀ (ds : List D) (n i : Nat), (enL n ds)[i]? = (ds[i]?).map fun d => .tuple [.int ((n + i : Nat) : Int), d]
  | [], _, _ => rfl
  | d :: ds, n, 0 => rfl
  | d :: ds, n, i + 1 => by
    show (enL (n + 1) ds)[i]? = _
    rw [enL_get ds (n + 1) i]
    rw [show n + 1 + i = n + (i + 1) by omega]
    rfl
theorem enL_len : ∀ (ds : List D) (n : Nat), (enL n ds).length = ds.length
  | [], _ => rfl
  | d :: ds, n => congrArg (· + 1) (enL_len ds (n + 1))
theorem z2L_get : ∀ (cs ds : List D) (i : Nat), (z2L cs ds)[i]? = (cs[i]?).bind fun c => (ds[i]?).map fun d => .tuple [c, d]
  | [], _, _ => rfl
  | c :: cs, [], i => by
    cases h : (c :: cs)[i]? <;> rfl
  | c :: cs, d :: ds, 0 => rfl
  | c :: cs, d :: ds, i + 1 => z2L_get cs ds i
theorem z2L_len : ∀ (cs ds : List D), (z2L cs ds).length = min cs.length ds.length
  | [], _ => by simp [z2L]
  | c :: cs, [] => by simp [z2L]
  | c :: cs, d :: ds => by
    show (z2L cs ds).length + 1 = _
    rw [z2L_len cs ds]
    simp only [List.length_cons]
    omega
theorem z3L_get : ∀ (cs ds bs : List D) (i : Nat), (z3L cs ds bs)[i]? = (cs[i]?).bind fun c => (ds[i]?).bind fun d => (bs[i]?).map fun b => .tuple [c, d, b]
  | [], _, _, _ => rfl
  | c :: cs, [], _, i => by
    cases h : (c :: cs)[i]? <;> rfl
  | c :: cs, d :: ds, [], i => by
    cases h : (c :: cs)[i]? <;> cases h2 : (d :: ds)[i]? <;> rfl
  | c :: cs, d :: ds, b :: bs, 0 => rfl
  | c :: cs, d :: ds, b :: bs, i + 1 => z3L_get cs ds bs i
theorem z3L_len : ∀ (cs ds bs : List D), (z3L cs ds bs).length = min (min cs.length ds.length) bs.length
  | [], _, _ => by simp [z3L]
  | c :: cs, [], _ => by simp [z3L]
  | c :: cs, d :: ds, [] => by simp [z3L]
  | c :: cs, d :: ds, b :: bs => by
    show (z3L cs ds bs).length + 1 = _
    rw [z3L_len cs ds bs]
    simp only [List.length_cons]
    omega
theorem wlk_t {K : PySem.W.Frag} {G F : Hp} {R : Hp → Prop} {Y : Nat → Hp → List V → Prop} {n : Nat} {ds : List D} (hn : ds.length = n) (hR : ∀ H, ExT G H → R H)
    (hY : ∀ (i : Nat) H d xs, ds[i]? = some d → Y i H xs → ∃ es, d = .tuple es ∧ DpAll K F xs es) : Wlk K (Jt R n Y) G F ds := fun i F1 H1 hi x1 x2 x3 => by
  refine ⟨fun d hd => ⟨⟨hR _ x3, by rw [← hn]; exact (List.getElem?_eq_some_iff.mp hd).1⟩, fun x H2 hy => ?_⟩, fun hd => ⟨hR _ x3, ?_⟩⟩
  · obtain ⟨T, xs, rfl, hT, rfl, hy⟩ := hy
    obtain ⟨es, rfl, dp⟩ := hY i H1 d xs hd hy
    exact ⟨upd F1 T (.tup xs), Gr.new x2 hT, .tup (SqT.of upd_same) (dpa_mono (Ex.new (fresh_back x2 hT)) (dpa_mono x1 dp))⟩
  · have := List.getElem?_eq_none_iff.mp hd
    omega
section
variable {X : Cx} {e e2 e3 : Expr} {f g h : FE} {p pos tpos : Pos} {elts : List Expr} {kk : Nat}
theorem di_enum (hm : X.mg "enumerate" = none) (hc : X.calm = true) (h : DE X e f) (hg : Gl X "enumerate" := by rfl) (hs : starEach [e] X.env = [(false, eval e X.env)] := by rfl) : DI X (.Tuple elts kk tpos) (.Call (.Name "enumerate" p) [e] [] pos) (enA f) := by
  refine ⟨fun pins s σ H R I hw => ?_⟩
  obtain ⟨B, F0, F, env, ds, ok, fe, q⟩ := hw
  obtain ⟨d, hd, fe⟩ := bind1 fe
  obtain ⟨cs, hcs, rfl⟩ := Option.map_eq_some_iff.mp fe
  have ha : PA X [e] (TAr X.K (consA f nilA)) := da_cons h da_nil hs
  refine Call_ (ld_blt I hg hm boot_enumerate (PyProof.Rows.callWith_type1 (thn (ha.run pos pins s σ H (fun vs H1 => ∃ F1 v, vs = [v] ∧ Gr F H F1 H1 ∧ Dp X.K F1 v d) I ⟨B, F0, F, env, [d], ok, by simp [consA, nilA, hd], fun vs F1 H1 g1 dp => ?_⟩) fun us s1 ⟨vs, H1, I1, r1, q1⟩ => ?_) hs rfl))
  · cases dp with
    | cons d1 d2 => cases d2; exact ⟨F1, _, rfl, g1, d1⟩
  · obtain ⟨F1, v, rfl, g1, dp⟩ := q1
    obtain ⟨u, rfl, ru⟩ := vals1 r1
    obtain ⟨k, vs, hk, rd, dpa⟩ := sk_of g1.fh dp ru hcs
    obtain ⟨Qh, Bg, hq, hlt⟩ := Sk.begins I1 (Sk.rd_mono (.of g1.fh) rd)
    rw [hk] at Bg
    refine enum_one Bg hq fun h' he ho hsz hkp => wpAny_pyIter_enum he ?_
    have I2 : Inv X pins σ H1 { s1 with heap := h' } := I1.kept (t' := s1.toks) hkp
    refine ⟨s1.heap.objs.size + 1, [s1.heap.objs.size + 1, s1.heap.objs.size], _, _, H1, rfl, I2, turn_en s1.heap.objs.size k vs hlt, ⟨⟨.none, he⟩, Sk.it_new ho⟩, fun b hb => ?_, q _ F1 H1 g1 (wlk_t (by rw [enL_len, dpa_len dpa]) (fun H x => Sk.rd_mono x rd) fun i H d xs hd hy => ?_)⟩
    · have e' : b = s1.heap.objs.size + 1 ∨ b = s1.heap.objs.size := by simpa using hb
      have hle : s1.heap.objs.size ≤ b := by
        rcases e' with z | z
        · rw [z]; exact Nat.le_add_right _ _
        · rw [z]; exact Nat.le_refl _
      exact I1.fpOk hle (I1.hok.fresh hle)
    · obtain ⟨x, hx, rfl⟩ := hy
      rw [enL_get] at hd
      obtain ⟨c, hc, rfl⟩ := Option.map_eq_some_iff.mp hd
      obtain ⟨c', hc', dc⟩ := dpa_getV dpa hx
      have := Option.some.inj (hc.symm.trans hc')
      subst this
      rw [Nat.zero_add]
      exact ⟨_, rfl, .cons (.int _) (.cons dc .nil)⟩
theorem di_zip2 (hm : X.mg "zip" = none) (hc : X.calm = true) (h : DE X e f) (h2 : DE X e2 g) (hg : Gl X "zip" := by rfl) (hs : starEach [e, e2] X.env = (false, eval e X.env) :: starEach [e2] X.env := by rfl) (hs2 : starEach [e2] X.env = (false, eval e2 X.env) :: starEach [] X.env := by rfl)
    (hpl : (backTo pos (starEach [e2] X.env)).any (·.1) = false := by rfl) : DI X (.Tuple elts kk tpos) (.Call (.Name "zip" p) [e, e2] [] pos) (zp2 f g) := by
  refine ⟨fun pins s σ H R I hw => ?_⟩
  obtain ⟨B, F0, F, env, ds, ok, fe, q⟩ := hw
  obtain ⟨c, d, hcc, hd, fe⟩ := bind2 fe
  obtain ⟨cs, hcs, fe⟩ := bind1 fe
  obtain ⟨dd, hds, rfl⟩ := Option.map_eq_some_iff.mp fe
  have ha : PA X [e, e2] (TAr X.K (consA f (consA g nilA))) := da_cons h (da_cons h2 da_nil hs2) hs
  refine Call_ (ld_blt I hg hm PyProof.Rows.boot_zip (PyProof.Rows.callWith_type1 (thn (ha.run pos pins s σ H (fun vs H1 => ∃ F1 v1 v2, vs = [v1, v2] ∧ Gr F H F1 H1 ∧ Dp X.K F1 v1 c ∧ Dp X.K F1 v2 d) I ⟨B, F0, F, env, [c, d], ok, by simp [consA, nilA, hd, hcc], fun vs F1 H1 g1 dp => ?_⟩) fun us s1 ⟨vs, H1, I1, r1, q1⟩ => ?_) hs hpl))
  · cases dp with
    | cons d1 d2 => cases d2 with
      | cons d2 d3 => cases d3; exact ⟨F1, _, _, rfl, g1, d1, d2⟩
  · obtain ⟨F1, v1, v2, rfl, g1, dp1, dp2⟩ := q1
    obtain ⟨u1, u2, rfl, ru1, ru2⟩ := vals2 r1
    obtain ⟨k1, vs1, hk1, rd1, dpa1⟩ := sk_of g1.fh dp1 ru1 hcs
    obtain ⟨k2, vs2, hk2, rd2, dpa2⟩ := sk_of g1.fh dp2 ru2 hds
    obtain ⟨Q1, B1, hq1, hlt1⟩ := Sk.begins I1 (Sk.rd_mono (.of g1.fh) rd1)
    obtain ⟨Q2, B2, hq2, hlt2⟩ := Sk.begins I1 (Sk.rd_mono (.of g1.fh) rd2)
    rw [hk1] at B1
    rw [hk2] at B2
    refine zip_begins2 B1 B2 hq1 hq2 fun h' hz hTI hTO ho1 ho2 hsz hkp => wpAny_pyIter_zip hz ?_
    have I2 : Inv X pins σ H1 { s1 with heap := h' } := I1.kept (t' := s1.toks) hkp
    refine ⟨s1.heap.objs.size + 4, [s1.heap.objs.size + 4, s1.heap.objs.size + 2, s1.heap.objs.size + 3, s1.heap.objs.size, s1.heap.objs.size + 1], _, _, H1, rfl, I2, turn_z2 s1.heap.objs.size k1 k2 vs1 vs2 hlt1 hlt2, ⟨hz, hTI, ⟨_, _, hTO⟩, Sk.it_new ho1, Sk.it_new ho2⟩, fun b hb => ?_, q _ F1 H1 g1 (wlk_t (by rw [z2L_len, dpa_len dpa1, dpa_len dpa2]) (fun H x => ⟨Sk.rd_mono x rd1, Sk.rd_mono x rd2⟩) fun i H d xs hd hy => ?_)⟩
    · have e' : b = s1.heap.objs.size + 4 ∨ b = s1.heap.objs.size + 2 ∨ b = s1.heap.objs.size + 3 ∨ b = s1.heap.objs.size ∨ b = s1.heap.objs.size + 1 := by simpa using hb
      have hle : s1.heap.objs.size ≤ b := by
        rcases e' with z | z | z | z | z
        · rw [z]; exact Nat.le_add_right _ _
        · rw [z]; exact Nat.le_add_right _ _
        · rw [z]; exact Nat.le_add_right _ _
        · rw [z]; exact Nat.le_refl _
        · rw [z]; exact Nat.le_add_right _ _
      exact I1.fpOk hle (I1.hok.fresh hle)
    · obtain ⟨x, y, hx, hy, rfl⟩ := hy
      obtain ⟨c1, hc1, dc1⟩ := dpa_getV dpa1 hx
      obtain ⟨c2, hc2, dc2⟩ := dpa_getV dpa2 hy
      rw [z2L_get, hc1, hc2] at hd
      cases hd
      exact ⟨_, rfl, .cons dc1 (.cons dc2 .nil)⟩
theorem di_zip3 (hm : X.mg "zip" = none) (hc : X.calm = true) (h1 : DE X e f) (h2 : DE X e2 g) (h3 : DE X e3 h) (hg : Gl X "zip" := by rfl) (hs : starEach [e, e2, e3] X.env = (false, eval e X.env) :: starEach [e2, e3] X.env := by rfl) (hs2 : starEach [e2, e3] X.env = (false, eval e2 X.env) :: starEach [e3] X.env := by rfl)
    (hs3 : starEach [e3] X.env = (false, eval e3 X.env) :: starEach [] X.env := by rfl) (hpl : (backTo pos (starEach [e2, e3] X.env)).any (·.1) = false := by rfl) : DI X (.Tuple elts kk tpos) (.Call (.Name "zip" p) [e, e2, e3] [] pos) (zp3 f g h) := by
  refine ⟨fun pins s σ H R I hw => ?_⟩
  obtain ⟨B, F0, F, env, ds, ok, fe, q⟩ := hw
  obtain ⟨c, d, hcc, hd, fe⟩ := bind2 fe
  obtain ⟨b, cs, hbb, hcs, fe⟩ := bind2 fe
  obtain ⟨dd, hds, fe⟩ := bind1 fe
  obtain ⟨bs, hbs, rfl⟩ := Option.map_eq_some_iff.mp fe
  have ha : PA X [e, e2, e3] (TAr X.K (consA f (consA g (consA h nilA)))) := da_cons h1 (da_cons h2 (da_cons h3 da_nil hs3) hs2) hs
  refine Call_ (ld_blt I hg hm PyProof.Rows.boot_zip (PyProof.Rows.callWith_type1 (thn (ha.run pos pins s σ H (fun vs H1 => ∃ F1 v1 v2 v3, vs = [v1, v2, v3] ∧ Gr F H F1 H1 ∧ Dp X.K F1 v1 c ∧ Dp X.K F1 v2 d ∧ Dp X.K F1 v3 b) I ⟨B, F0, F, env, [c, d, b], ok, by simp [consA, nilA, hd, hcc, hbb], fun vs F1 H1 g1 dp => ?_⟩) fun us s1 ⟨vs, H1, I1, r1, q1⟩ => ?_) hs hpl))
  · cases dp with
    | cons d1 d2 => cases d2 with
      | cons d2 d3 => cases d3 with
        | cons d3 d4 => cases d4; exact ⟨F1, _, _, _, rfl, g1, d1, d2, d3⟩
  · obtain ⟨F1, v1, v2, v3, rfl, g1, dp1, dp2, dp3⟩ := q1
    cases r1 with
    | cons ru1 r1 => cases r1 with
      | cons ru2 r1 => cases r1 with
        | cons ru3 r1 =>
          cases r1
          obtain ⟨k1, vs1, hk1, rd1, dpa1⟩ := sk_of g1.fh dp1 ru1 hcs
          obtain ⟨k2, vs2, hk2, rd2, dpa2⟩ := sk_of g1.fh dp2 ru2 hds
          obtain ⟨k3, vs3, hk3, rd3, dpa3⟩ := sk_of g1.fh dp3 ru3 hbs
          obtain ⟨Q1, B1, hq1, hlt1⟩ := Sk.begins I1 (Sk.rd_mono (.of g1.fh) rd1)
          obtain ⟨Q2, B2, hq2, hlt2⟩ := Sk.begins I1 (Sk.rd_mono (.of g1.fh) rd2)
          obtain ⟨Q3, B3, hq3, hlt3⟩ := Sk.begins I1 (Sk.rd_mono (.of g1.fh) rd3)
          rw [hk1] at B1
          rw [hk2] at B2
          rw [hk3] at B3
          refine zip_begins3 B1 B2 B3 hq1 hq2 hq3 fun h' hz hTI hTO ho1 ho2 ho3 hsz hkp => wpAny_pyIter_zip hz ?_
          have I2 : Inv X pins σ H1 { s1 with heap := h' } := I1.kept (t' := s1.toks) hkp
          refine ⟨s1.heap.objs.size + 5, [s1.heap.objs.size + 5, s1.heap.objs.size + 3, s1.heap.objs.size + 4, s1.heap.objs.size, s1.heap.objs.size + 1, s1.heap.objs.size + 2], _, _, H1, rfl, I2, turn_z3 s1.heap.objs.size k1 k2 k3 vs1 vs2 vs3 hlt1 hlt2 hlt3, ⟨hz, hTI, ⟨_, _, _, hTO⟩, Sk.it_new ho1, Sk.it_new ho2, Sk.it_new ho3⟩, fun b hb => ?_, q _ F1 H1 g1 (wlk_t (by rw [z3L_len, dpa_len dpa1, dpa_len dpa2, dpa_len dpa3]) (fun H x => ⟨Sk.rd_mono x rd1, Sk.rd_mono x rd2, Sk.rd_mono x rd3⟩) fun i H d xs hd hy => ?_)⟩
          · have e' : b = s1.heap.objs.size + 5 ∨ b = s1.heap.objs.size + 3 ∨ b = s1.heap.objs.size + 4 ∨ b = s1.heap.objs.size ∨ b = s1.heap.objs.size + 1 ∨ b = s1.heap.objs.size + 2 := by simpa using hb
            have hle : s1.heap.objs.size ≤ b := by
              rcases e' with z | z | z | z | z | z
              · rw [z]; exact Nat.le_add_right _ _
              · rw [z]; exact Nat.le_add_right _ _
              · rw [z]; exact Nat.le_add_right _ _
              · rw [z]; exact Nat.le_refl _
              · rw [z]; exact Nat.le_add_right _ _
              · rw [z]; exact Nat.le_add_right _ _
            exact I1.fpOk hle (I1.hok.fresh hle)
          · obtain ⟨x, y, u, hx, hy, hu, rfl⟩ := hy
            obtain ⟨c1, hc1, dc1⟩ := dpa_getV dpa1 hx
            obtain ⟨c2, hc2, dc2⟩ := dpa_getV dpa2 hy
            obtain ⟨c3, hc3, dc3⟩ := dpa_getV dpa3 hu
            rw [z3L_get, hc1, hc2, hc3] at hd
            cases hd
            exact ⟨_, rfl, .cons dc1 (.cons dc2 (.cons dc3 .nil))⟩
@[simp] theorem e_enA {e : DEnv} : enA f e = (f e).bind fun d => (itemsD d).map (enL 0) := (rfl)
@[simp] theorem e_zp2 {e : DEnv} : zp2 f g e = (f e).bind fun c => (g e).bind fun d => (itemsD c).bind fun cs => (itemsD d).map (z2L cs) := (rfl)
@[simp] theorem e_zp3 {e : DEnv} : zp3 f g h e = (f e).bind fun c => (g e).bind fun d => (h e).bind fun b => (itemsD c).bind fun cs => (itemsD d).bind fun ds => (itemsD b).map (z3L cs ds) := (rfl)
end
end DL

/-! DLay10: tuples cut by steps. -/
namespace HT
open PySem PySem.Spec PyProof.Rows
section
variable {prog : Program} {w : World} {A : Around} {E : Value → Shared → Prop} {s : Shared}
theorem sliceApplied_st {sl : Addr} {vl vu vs : Value} {lo hi : Option Int} {st : Int} {n : Nat} {Q : Int × Int × Nat → Shared → Prop} (hs : s.heap.IsSliceOf sl vl vu vs) (pl : IsPart vl lo) (pu : IsPart vu hi) (ps : IsPart vs (some st)) (h0 : st ≠ 0)
    (h : Q ((Builtin.Slice.sliceAdjust lo hi st (n : Int)).1, st, Builtin.Slice.slicePlaces (Builtin.Slice.sliceAdjust lo hi st (n : Int)).1 (Builtin.Slice.sliceAdjust lo hi st (n : Int)).2 st) s) : wpAny (model prog w) A (Builtin.Slice.sliceApplied (.ref sl) (pure (n : Int))) Q E s := by
  obtain ⟨os, hos, hcs, hds⟩ := id hs
  unfold Builtin.Slice.sliceApplied Builtin.Slice.sliceFields
  refine wpAny_bind (wpAny_bind (wpAny_field hos hds (x := vl) rfl (wpAny_bind (wpAny_field hos hds (x := vu) rfl (wpAny_bind (wpAny_field hos hds (x := vs) rfl (wpAny_pure ?_)))))))
  refine wpAny_bind (slicePart_ ps ?_)
  show wpAny _ _ (if (st == 0) = true then _ else _) _ _ s
  rw [if_neg (by simpa using h0)]
  refine wpAny_bind (slicePart_ pl (wpAny_bind (slicePart_ pu (wpAny_bind (wpAny_pure ?_)))))
  show wpAny _ _ (match Builtin.Slice.sliceAdjust lo hi st (n : Int) with | (lo, hi) => pure (lo, st, Builtin.Slice.slicePlaces lo hi st)) _ _ s
  generalize Builtin.Slice.sliceAdjust lo hi st (n : Int) = r at h ⊢
  obtain ⟨a, b⟩ := r
  exact wpAny_pure h
theorem getItem_tuple_step {t sl : Addr} {items : Array Value} {vl vu vs : Value} {lo hi : Option Int} {st : Int} {Q : Value → Shared → Prop} (ht : IsTup s.heap t items) (hs : s.heap.IsSliceOf sl vl vu vs) (pl : IsPart vl lo) (pu : IsPart vu hi) (ps : IsPart vs (some st)) (h0 : st ≠ 0) (h1 : st ≠ 1)
    (hz : Builtin.Slice.slicePlaces (Builtin.Slice.sliceAdjust lo hi st (items.size : Int)).1 (Builtin.Slice.sliceAdjust lo hi st (items.size : Int)).2 st ≤ sizeLine)
    (h : Q (.ref s.heap.objs.size) { s with heap := s.heap.push { cls := .type "tuple", data := .seq ((List.range (Builtin.Slice.slicePlaces (Builtin.Slice.sliceAdjust lo hi st (items.size : Int)).1 (Builtin.Slice.sliceAdjust lo hi st (items.size : Int)).2 st)).filterMap fun (m : Nat) => items[((Builtin.Slice.sliceAdjust lo hi st (items.size : Int)).1 + (m : Int) * st).toNat]?).toArray } }) : wpAny (model prog w) A (getItem (.ref t) (.ref sl)) Q E s := by
  obtain ⟨os, hos, hcs, hds⟩ := id hs
  have hTs : s.TypeIs (.ref sl) "slice" := ⟨os, hos, hcs⟩
  unfold getItem
  try with_reducible refine wpAny_holding ?_
  first | refine wpAny_bind (wpAny_pure ?_) | skip
  refine wpAny_bind (wpAny_sequenceKey ht.typeIs (by decide) ?_)
  refine wpAny_bind (wpAny_callSpecial?_slot (name := Str.ofString "__getitem__") ht.typeIs PyProof.Rows.slot_tuple_getitem
    (wpAny_call_entry PyProof.Rows.slot_tuple_getitem ht.typeIs entry_tuple_getitem ?_ (args_tuple_getitem _ _)))
  show wpAny _ _ (Builtin.Tuple.tupleItemsOf (.ref t) >>= _) _ _ s
  refine wpAny_bind (tupleItemsOf_ ht ?_)
  refine wpAny_bind (wpAny_typeOf hTs ?_)
  rw [if_pos (by decide)]
  refine wpAny_bind (sliceApplied_st hs pl pu ps h0 ?_)
  generalize (Builtin.Slice.sliceAdjust lo hi st (items.size : Int)).1 = a at h hz ⊢
  generalize Builtin.Slice.slicePlaces a (Builtin.Slice.sliceAdjust lo hi st (items.size : Int)).2 st = n at h hz ⊢
  have htake : sizeOk (.seq ((List.range n).filterMap fun (m : Nat) => items[(a + (m : Int) * st).toNat]?).toArray) := by
    show ((List.range n).filterMap fun (m : Nat) => items[(a + (m : Int) * st).toNat]?).toArray.size ≤ sizeLine
    rw [List.size_toArray]
    refine Nat.le_trans (List.length_filterMap_le _ _) ?_
    rw [List.length_range]
    exact hz
  have hno : ¬ ((a == 0 && st == 1 && n == items.size) = true) := by
    intro q
    rw [Bool.and_eq_true, Bool.and_eq_true] at q
    exact h1 (eq_of_beq q.1.2)
  show wpAny _ _ (if (a == 0 && st == 1 && n == items.size) = true then _ else _) _ _ s
  rw [if_neg hno]
  first
    | exact wpAny_bind (m := Builtin.Tuple.tupleExact _) (wpAny_newObj_type (wpAny_pure ⟨_, rfl, wpAny_pure h⟩) htake)
    | exact wpAny_bind (m := Builtin.Tuple.tupleExact _) (wpAny_newObj_type (wpAny_bind (wpAny_pure (wpAny_pure ⟨_, rfl, wpAny_pure h⟩))) htake)
    | exact wpAny_bind (wpAny_bind (m := Builtin.Tuple.tupleExact _) (wpAny_newObj_type (wpAny_pure (wpAny_pure ⟨_, rfl, wpAny_pure h⟩)) htake))
    | exact wpAny_bind (wpAny_bind (m := Builtin.Tuple.tupleExact _) (wpAny_newObj_type (wpAny_pure ⟨_, rfl, wpAny_pure h⟩) htake))
end
end HT
namespace DL
open PySem PySem.Spec PyProof.Rows L2 Evl
/-- how many, where -/
def stN (n : Nat) (lo hi : Option Int) (st : Int) : Nat := Builtin.Slice.slicePlaces (Builtin.Slice.sliceAdjust lo hi st (n : Int)).1 (Builtin.Slice.sliceAdjust lo hi st (n : Int)).2 st
def stAt (n : Nat) (lo hi : Option Int) (st : Int) (m : Nat) : Nat := ((Builtin.Slice.sliceAdjust lo hi st (n : Int)).1 + (m : Int) * st).toNat
def stL {α : Type} (xs : List α) (lo hi : Option Int) (st : Int) : List α := (List.range (stN xs.length lo hi st)).filterMap fun m => xs[stAt xs.length lo hi st m]?
def stepD (d : D) (lo hi : Option Int) (st : Option Int) : Option D := match d, st with
  | .tuple xs, some st => if (decide (st ≠ 0) && decide (st ≠ 1) && sml (stN xs.length lo hi st)) = true then some (.tuple (stL xs lo hi st)) else none
  | _, _ => none
def slS (f : FE) (l h s : FO) : FE := fun e => (f e).bind fun x => (l e).bind fun lo => (h e).bind fun hi => (s e).bind fun st => stepD x lo hi st
theorem dpa_at {K : PySem.W.Frag} {F : Hp} : ∀ {vs : List V} {ds : List D}, DpAll K F vs ds → ∀ i : Nat, (vs[i]? = none ∧ ds[i]? = none) ∨ ∃ v d, vs[i]? = some v ∧ ds[i]? = some d ∧ Dp K F v d
  | _, _, .nil, i => .inl ⟨by simp, by simp⟩
  | _, _, .cons h hs, 0 => .inr ⟨_, _, rfl, rfl, h⟩
  | _, _, .cons h hs, i + 1 => by simpa using dpa_at hs i
theorem dpa_pick {K : PySem.W.Frag} {F : Hp} {vs : List V} {ds : List D} (h : DpAll K F vs ds) (g : Nat → Nat) : ∀ ks : List Nat, DpAll K F (ks.filterMap fun m => vs[g m]?) (ks.filterMap fun m => ds[g m]?)
  | [] => .nil
  | k :: ks => by
    have ih := dpa_pick h g ks
    rcases dpa_at h (g k) with ⟨h1, h2⟩ | ⟨v, d, h1, h2, h3⟩
    · simp only [List.filterMap_cons, h1, h2]; exact ih
    · simp only [List.filterMap_cons, h1, h2]; exact .cons h3 ih
theorem vals_at : ∀ {vs : List V} {us : List Value}, Vals vs us → ∀ i : Nat, (vs[i]? = none ∧ us[i]? = none) ∨ ∃ v u, vs[i]? = some v ∧ us[i]? = some u ∧ RelV v u
  | _, _, .nil, i => .inl ⟨by simp, by simp⟩
  | _, _, .cons h hs, 0 => .inr ⟨_, _, rfl, rfl, h⟩
  | _, _, .cons h hs, i + 1 => by simpa using vals_at hs i
theorem vals_pick {vs : List V} {us : List Value} (h : Vals vs us) (g : Nat → Nat) : ∀ ks : List Nat, Vals (ks.filterMap fun m => vs[g m]?) (ks.filterMap fun m => us[g m]?)
  | [] => .nil
  | k :: ks => by
    have ih := vals_pick h g ks
    rcases vals_at h (g k) with ⟨h1, h2⟩ | ⟨v, d, h1, h2, h3⟩
    · simp only [List.filterMap_cons, h1, h2]; exact ih
    · simp only [List.filterMap_cons, h1, h2]; exact .cons h3 ih
section
variable {X : Cx} {e : Expr} {lo hi : Option Expr} {st : Expr} {te : TE} {tl th ts : TO} {f : FE} {l h s : FO} {pos p2 : Pos}
def tSlS (K : PySem.W.Frag) (te : TE) (tl th ts : TO) : TE := fun σ H Q => te σ H fun x H1 => tl σ H1 fun lo H2 => th σ H2 fun hi H3 => ts σ H3 fun st H4 => ∃ a xs k, x = .ref a ∧ SqT K H4 a xs ∧ st = some k ∧ k ≠ 0 ∧ k ≠ 1 ∧ stN xs.length lo hi k ≤ sizeLine ∧ ∀ p, H4 p = none → Q (.ref p) (upd H4 p (.tup (stL xs lo hi k)))
theorem pe_sliceS (he : PE X e te) (hl : PO X lo tl) (hu : PO X hi th) (hs : PO X (some st) ts) : PE X (.Subscript e (.Slice lo hi (some st) p2) pos) (tSlS X.K te tl th ts) := by
  refine ⟨fun pins s σ H Q I h => ?_⟩
  refine Subscript_ (thn (he.run pins s σ H _ I h) fun v s1 ⟨x, H1, I1, r1, q1⟩ => ?_)
  refine wpAny_Slice (thn (hl.run pins s1 σ H1 _ I1 q1) fun vl s2 ⟨l, H2, I2, pl, q2⟩ => thn (hu.run pins s2 σ H2 _ I2 q2) fun vu s3 ⟨u, H3, I3, pu, q3⟩ => thn (hs.run pins s3 σ H3 _ I3 q3) fun vs s4 ⟨k', H4, I4, ps, q4⟩ => ?_)
  obtain ⟨a, xs, k, rfl, hx, rfl, h0, h1, hn, q⟩ := q4
  cases r1
  have I5 : Inv X pins σ H4 { s4 with heap := s4.heap.push { cls := .type "slice", data := .fields #[vl, vu, vs] } } := I4.kept (t' := s4.toks) fun b ob q => Heap.get?_push_of_some _ q
  obtain ⟨its, r, ht, hz⟩ := I5.tuple hx
  have hlen : its.toArray.size = xs.length := by rw [List.size_toArray]; exact r.length.symm
  show wpAny (model X.prog X.w) X.A (subscriptTail e (.Slice lo hi (some st) p2) (.ref a) (.ref s4.heap.objs.size)) (EP X pins σ Q) X.xe { s4 with heap := s4.heap.push { cls := .type "slice", data := .fields #[vl, vu, vs] } }
  refine tail_any (ops := [.ref a, .ref s4.heap.objs.size]) ht.typeIs PyProof.Rows.slot_tuple_getitem.lookup ?_ (by with_unfolding_all rfl)
  refine HT.getItem_tuple_step ht (Heap.IsSliceOf.new _ vl vu vs) pl pu ps h0 h1 (by rw [hlen]; exact hn) ?_
  rw [hlen]
  have hv := vals_pick r (stAt xs.length l u k) (List.range (stN xs.length l u k))
  refine ⟨.ref _, _, I5.laid (t' := s4.toks) (o := .tup (stL xs l u k)) (fun b ob q => Heap.get?_push_of_some _ q) (Nat.le_refl _) ?_, rfl, q _ (I5.hok.fresh (Nat.le_refl _))⟩
  refine ⟨Nat.le_trans (List.length_filterMap_le _ _) (by rw [List.length_range]; exact hn), _, hv, ?_⟩
  have e1 : (fun (m : Nat) => its.toArray[((Builtin.Slice.sliceAdjust l u k (xs.length : Int)).1 + (m : Int) * k).toNat]?) = fun m => its[stAt xs.length l u k m]? := by
    funext m
    simp [stAt]
  rw [e1]
  exact IsTup.new _ _
theorem de_sliceS (he : DR X e f) (hl : DO X lo l) (hh : DO X hi h) (hs : DO X (some st) s) : DE X (.Subscript e (.Slice lo hi (some st) p2) pos) (slS f l h s) :=
  pe_imp (pe_sliceS he hl hh hs) fun σ H Q ⟨B, F0, F, e, d, ok, fe, q⟩ => by
  obtain ⟨x, hx, fe⟩ := bind1 fe
  obtain ⟨lo, hi, hlo, hhi, fe⟩ := bind2 fe
  obtain ⟨st, hst, fe⟩ := bind1 fe
  refine ⟨B, F0, F, e, x, ok, hx, fun v F1 H1 g1 r1 => ⟨B, F0, F1, e, lo, ok.grow g1, hlo, fun F2 H2 g2 => ⟨B, F0, F2, e, hi, (ok.grow g1).grow g2, hhi, fun F3 H3 g3 => ⟨B, F0, F3, e, st, ((ok.grow g1).grow g2).grow g3, hst, fun F4 H4 g4 => ?_⟩⟩⟩⟩
  have r4 := ((r1.grow g2).grow g3).grow g4
  have q4 : Kn X.K F4 H4 d Q := fun w F' H' g5 dp => q w F' H' ((((g1.trans g2).trans g3).trans g4).trans g5) dp
  unfold stepD at fe
  split at fe
  · split at fe
    · rename_i hz
      cases fe
      rw [Bool.and_eq_true, Bool.and_eq_true, decide_eq_true_eq, decide_eq_true_eq] at hz
      have r5 := rs_tupF r4
      obtain ⟨a, vs, rfl, s1, d1⟩ := dp_tup r5
      refine ⟨a, vs, _, rfl, ex_t g4.fh s1, rfl, hz.1.1, hz.1.2, by rw [dpa_len d1]; exact Nat.le_trans (sml_le hz.2) big_line, fun p hp => ?_⟩
      refine q4.tupN g4.fh ?_ hp
      unfold stL
      rw [dpa_len d1]
      exact dpa_pick d1 _ _
    · cases fe
  · cases fe
@[simp] theorem e_slS {env : DEnv} : slS f l h s env = (f env).bind fun x => (l env).bind fun lo => (h env).bind fun hi => (s env).bind fun st => stepD x lo hi st := (rfl)
end
/-- xs[::-1] -/
theorem stL_rev {α : Type} (xs : List α) : stL xs none none (-1) = xs.reverse := by
  have h1 : stN xs.length none none (-1) = xs.length := by
    simp only [stN, Builtin.Slice.sliceAdjust, Builtin.Slice.slicePlaces]
    split <;> split <;> simp_all <;> omega
  have h2 : ∀ m, m < xs.length → stAt xs.length none none (-1) m = xs.length - 1 - m := fun m hm => by
    simp only [stAt, Builtin.Slice.sliceAdjust]
    simp
    omega
  unfold stL
  rw [h1]
  have key : ∀ n, n ≤ xs.length → (List.range n).filterMap (fun m => xs[stAt xs.length none none (-1) m]?) = (xs.reverse).take n := by
    intro n
    induction n with
    | zero => intro _; simp
    | succ n ih =>
      intro hn
      rw [List.range_succ, List.filterMap_append, ih (by omega), List.take_add_one]
      congr 1
      rw [List.getElem?_reverse (by omega), ← h2 n (by omega)]
      rw [List.getElem?_eq_getElem (by rw [h2 n (by omega)]; omega)]
      simp [List.filterMap_cons, List.getElem?_eq_getElem (show stAt xs.length none none (-1) n < xs.length by rw [h2 n (by omega)]; omega)]
  rw [key _ (Nat.le_refl _), ← List.length_reverse, List.take_length]
theorem step_rev {xs : List D} (h : xs.length ≤ 100000) : stepD (.tuple xs) none none (some (-1)) = some (.tuple xs.reverse) := by
  have h1 : stN xs.length none none (-1) = xs.length := by
    simp only [stN, Builtin.Slice.sliceAdjust, Builtin.Slice.slicePlaces]
    split <;> split <;> simp_all <;> omega
  show (if (decide ((-1 : Int) ≠ 0) && decide ((-1 : Int) ≠ 1) && sml (stN xs.length none none (-1))) = true then some (PyData.tuple (stL xs none none (-1))) else none) = _
  rw [stL_rev, h1, sml_of h]
  rfl
end DL

/-! DLay11: dicts as data: displays, d[k], d.get(k, x), in. -/
namespace DL
open PySem PySem.Spec PyProof.Rows L2 Evl
def asKey : D → Option Key
  | .int i => some (.inl i)
  | .str x => some (.inr x)
  | _ => none
theorem asKey_keyD (k : Key) : asKey (keyD k) = some k := by cases k <;> rfl
def lookK (ds : List (D × D)) (k : Key) : Option D := (ds.find? fun p => decide (asKey p.1 = some k)).map (·.2)
def putKD (ds : List (D × D)) (k : Key) (d : D) : List (D × D) :=
  if (ds.any fun p => decide (asKey p.1 = some k)) = true then ds.map (fun p => if asKey p.1 = some k then (p.1, d) else p) else ds ++ [(keyD k, d)]
def mergeKD (ds : List (D × D)) (more : List (Key × D)) : List (D × D) := more.foldl (fun acc kv => putKD acc kv.1 kv.2) ds
def dixD (d k : D) : Option D := match d with
  | .dict ds => (asKey k).bind (lookK ds)
  | _ => none
def dgetD (d k x : D) : Option D := match d with
  | .dict ds => (asKey k).map fun k => (lookK ds k).getD x
  | _ => none
section
variable {K : PySem.W.Frag} {F : Hp}
theorem dpk_look (k : Key) : ∀ {kvs : List (Key × V)} {ds : List (D × D)}, DpKv K F kvs ds → (valV kvs k = none ∧ lookK ds k = none) ∨ ∃ v d, valV kvs k = some v ∧ lookK ds k = some d ∧ Dp K F v d
  | _, _, .nil => .inl ⟨rfl, rfl⟩
  | _, _, .cons (k := k') h hs => by
    by_cases e : k' = k
    · refine .inr ⟨_, _, valV_pos e, ?_, h⟩
      simp [lookK, List.find?_cons, asKey_keyD, e]
    · have h1 : ∀ {v : V} {kvs : List (Key × V)}, valV ((k', v) :: kvs) k = valV kvs k := fun {v kvs} => valV_neg (p := (k', v)) e
      have h2 : ∀ {d : D} {ds : List (D × D)}, lookK ((keyD k', d) :: ds) k = lookK ds k := fun {d ds} => by simp [lookK, List.find?_cons, asKey_keyD, e]
      rw [h1, h2]
      exact dpk_look k hs
theorem dpk_any (k : Key) : ∀ {kvs : List (Key × V)} {ds : List (D × D)}, DpKv K F kvs ds → (kvs.any fun kv => decide (kv.1 = k)) = ds.any fun p => decide (asKey p.1 = some k)
  | _, _, .nil => rfl
  | _, _, .cons (k := k') h hs => by
    rw [List.any_cons, List.any_cons, dpk_any k hs, asKey_keyD]
    simp
theorem dpk_map (k : Key) {v : V} {d : D} (h0 : Dp K F v d) : ∀ {kvs : List (Key × V)} {ds : List (D × D)}, DpKv K F kvs ds → DpKv K F (kvs.map (fun kv => if kv.1 = k then (kv.1, v) else kv)) (ds.map (fun p => if asKey p.1 = some k then (p.1, d) else p))
  | _, _, .nil => .nil
  | _, _, .cons (k := k') h hs => by
    rw [List.map_cons, List.map_cons]
    by_cases e : k' = k
    · have e2 : asKey (keyD k') = some k := by rw [asKey_keyD, e]
      simp only [if_pos e, if_pos e2]
      exact .cons h0 (dpk_map k h0 hs)
    · have e2 : ¬ asKey (keyD k') = some k := by rw [asKey_keyD]; simpa using e
      simp only [if_neg e, if_neg e2]
      exact .cons h (dpk_map k h0 hs)
theorem dpk_snoc {k : Key} {v : V} {d : D} (h0 : Dp K F v d) : ∀ {kvs : List (Key × V)} {ds : List (D × D)}, DpKv K F kvs ds → DpKv K F (kvs ++ [(k, v)]) (ds ++ [(keyD k, d)])
  | _, _, .nil => .cons h0 .nil
  | _, _, .cons h hs => .cons h (dpk_snoc h0 hs)
theorem dpk_put (k : Key) {v : V} {d : D} (h0 : Dp K F v d) {kvs : List (Key × V)} {ds : List (D × D)} (h : DpKv K F kvs ds) : DpKv K F (putK kvs k v) (putKD ds k d) := by
  unfold putK putKD
  rw [dpk_any k h]
  split
  · exact dpk_map k h0 h
  · exact dpk_snoc h0 h
/-- pairs of a display -/
inductive KvD (K : PySem.W.Frag) (F : Hp) : List (Key × V) → List (Key × D) → Prop
  | nil : KvD K F [] []
  | cons {k : Key} {v : V} {d : D} {kvs : List (Key × V)} {kds : List (Key × D)} : Dp K F v d → KvD K F kvs kds → KvD K F ((k, v) :: kvs) ((k, d) :: kds)
theorem kvd_len : ∀ {kvs : List (Key × V)} {kds : List (Key × D)}, KvD K F kvs kds → kvs.length = kds.length
  | _, _, .nil => rfl
  | _, _, .cons _ hs => congrArg (· + 1) (kvd_len hs)
theorem dpk_merge : ∀ {more : List (Key × V)} {mds : List (Key × D)} {kvs : List (Key × V)} {ds : List (D × D)}, KvD K F more mds → DpKv K F kvs ds → DpKv K F (mergeK kvs more) (mergeKD ds mds)
  | _, _, _, _, .nil, h => h
  | _, _, _, _, .cons h hs, q => dpk_merge (kvs := putK _ _ _) (ds := putKD _ _ _) hs (dpk_put _ h q)
theorem dp_dic {v : V} {ds : List (D × D)} (h : Dp K F v (.dict ds)) : ∃ a kvs, v = .ref a ∧ Rd F a (.dK kvs) ∧ DpKv K F kvs ds := by
  cases h with
  | dic h hs => exact ⟨_, _, rfl, h, hs⟩
theorem dp_key {v : V} {d : D} {k : Key} (h : Dp K F v d) (hk : asKey d = some k) : v = kV k := by
  unfold asKey at hk
  split at hk
  · cases hk; exact dp_int h
  · cases hk; exact dp_str h
  · cases hk
end
def c3 (G : D → D → D → Option D) (f g h : FE) : FE := fun e => (f e).bind fun x => (g e).bind fun y => (h e).bind fun z => G x y z
abbrev FK := DEnv → Option (List (Key × D))
def nilK : FK := fun _ => some []
def consK (fk fv : FE) (fr : FK) : FK := fun e => (fk e).bind fun k => (asKey k).bind fun kk => (fv e).bind fun v => (fr e).map ((kk, v) :: ·)
def dspD (f : FK) : FE := fun e => (f e).bind fun kds => if Nat.ble kds.length 15 = true then some (.dict (mergeKD [] kds)) else none
section
variable {X : Cx} {pos : Pos} {k v : Expr} {ks : List (Option Expr)} {vs : List Expr} {fk fv f g h : FE} {fr : FK} {o i : Expr}
def TKd (K : PySem.W.Frag) (f : FK) : L2.St → Hp → (List (V × V) → Hp → Prop) → Prop := fun σ H Q => ∃ B F0 F e kds, Ok K B F0 F σ H e ∧ f e = some kds ∧ ∀ kvs F' H', Gr F H F' H' → KvD K F' kvs kds → Q (kvs.map fun kv => (kV kv.1, kv.2)) H'
def DK (X : Cx) (pos : Pos) (ks : List (Option Expr)) (vs : List Expr) (f : FK) : Prop := ∃ trs, PPs X pos ks vs trs ∧ ∀ σ H Q, TKd X.K f σ H Q → tPairs trs σ H Q
theorem kvd_mono {K : PySem.W.Frag} {F F' : Hp} (x : Ex F F') : ∀ {kvs : List (Key × V)} {kds : List (Key × D)}, KvD K F kvs kds → KvD K F' kvs kds
  | _, _, .nil => .nil
  | _, _, .cons h hs => .cons (dp_mono x h) (kvd_mono x hs)
theorem dk_nil : DK X pos [] [] nilK := ⟨[], pps_nil, fun σ H Q ⟨B, F0, F, e, kds, ok, fe, q⟩ => by
  cases fe
  exact q [] F H (Gr.refl ok.fh) .nil⟩
theorem dk_cons (hk : DE X k fk) (hv : DE X v fv) (hr : DK X pos ks vs fr) : DK X pos (some k :: ks) (v :: vs) (consK fk fv fr) := by
  obtain ⟨trs, h1, h2⟩ := hr
  refine ⟨_, pps_cons hk hv h1, fun σ H Q ⟨B, F0, F, e, kds, ok, fe, q⟩ => ?_⟩
  obtain ⟨x, hx, fe⟩ := bind1 fe
  obtain ⟨kk, hkk, fe⟩ := bind1 fe
  obtain ⟨d, hd, fe⟩ := bind1 fe
  obtain ⟨rs, hrs, rfl⟩ := Option.map_eq_some_iff.mp fe
  refine ⟨B, F0, F, e, x, ok, hx, fun v1 F1 H1 g1 d1 => ⟨B, F0, F1, e, d, ok.grow g1, hd, fun v2 F2 H2 g2 d2 => h2 _ _ _ ⟨B, F0, F2, e, rs, (ok.grow g1).grow g2, hrs, fun kvs F3 H3 g3 d3 => ?_⟩⟩⟩
  rw [dp_key d1 hkk]
  exact q ((kk, v2) :: kvs) F3 H3 ((g1.trans g2).trans g3) (.cons (dp_mono g3.ff d2) d3)
theorem de_disp (h : DK X pos ks vs fr) (hall : ks.all (·.isSome) = true := by rfl) (hl : ks.length = vs.length := by rfl) (h0 : ks ≠ [] := by exact fun h => nomatch h) (h15 : ks.length ≤ 15 := by decide) : DE X (.Dict ks vs pos) (dspD fr) := by
  obtain ⟨trs, h1, h2⟩ := h
  refine pe_imp (pe_disp h1 hall hl h0 h15) fun σ H Q ⟨B, F0, F, e, d, ok, fe, q⟩ p hp => ?_
  obtain ⟨kds, hk, fe⟩ := bind1 fe
  split at fe
  · rename_i hz
    cases fe
    have g0 : Gr F H F (upd H p (.dK [])) := Gr.loose ok.fh hp
    refine h2 _ _ _ ⟨B, F0, F, e, kds, ok.grow g0, hk, fun kvs F' H' g dk => ?_⟩
    have hp' : H' p = some (.dK []) := g.hh _ _ upd_same
    have hf : F' p = none := (g.nf p _ upd_same).trans (fresh_back ok.fh hp)
    refine ⟨hp', kvs, rfl, by rw [kvd_len dk]; exact Nat.le_of_ble_eq_true hz, ?_⟩
    have g1 : Gr F H F' (upd H' p (.dK (mergeK [] kvs))) := (g0.trans g).mut hp hf hp'
    have g2 : Gr F H (upd F' p (.dK (mergeK [] kvs))) (upd H' p (.dK (mergeK [] kvs))) := g1.frz hp hf upd_same
    exact q _ _ _ g2 (.dic (.inl upd_same) (dpk_mono (Ex.new hf) (dpk_merge dk .nil)))
  · cases fe
theorem de_dix {r : Nat} (hr : Room r X.A) (ho : DE X o f) (hi : DE X i g) (hs : NoSl i := by exact fun _ _ => rfl) : DE X (.Subscript o i pos) (c2 dixD f g) :=
  pe_imp (pe_dget (by have := hr.units; omega) ho hi hs) fun σ H Q ⟨B, F0, F, e, d, ok, fe, q⟩ => by
  obtain ⟨x, y, hx, hy, fe⟩ := bind2 fe
  refine ⟨B, F0, F, e, x, ok, hx, fun v1 F1 H1 g1 d1 => ⟨B, F0, F1, e, y, ok.grow g1, hy, fun v2 F2 H2 g2 d2 => ?_⟩⟩
  unfold dixD at fe
  split at fe
  · obtain ⟨kk, hkk, fe⟩ := bind1 fe
    obtain ⟨a, kvs, rfl, hR, hD⟩ := dp_dic (dp_mono g2.ff d1)
    rcases dpk_look kk hD with ⟨_, h2⟩ | ⟨v, d', h1, h2, h3⟩
    · rw [h2] at fe; cases fe
    · rw [h2] at fe
      cases fe
      refine ⟨a, v, rfl, .inl ⟨kvs, kk, rd_mono g2.fh hR, dp_key d2 hkk, h1.symm⟩, q _ F2 H2 (g1.trans g2) h3⟩
  · cases fe
theorem de_dget {x : Expr} {apos : Pos} {r : Nat} (hr : Room r X.A) (ho : DE X o f) (hi : DE X i g) (hx : DE X x h) (m : M2 X o "get" apos i x pos := by exact ⟨rfl, rfl, rfl, rfl⟩) : DE X (.Call (.Attribute o "get" apos) [i, x] [] pos) (c3 dgetD f g h) :=
  pe_imp (pe_dget2 (by have := hr.units; omega) ho hi hx m) fun σ H Q ⟨B, F0, F, e, d, ok, fe, q⟩ => by
  obtain ⟨x, y, hx, hy, fe⟩ := bind2 fe
  obtain ⟨z, hz, fe⟩ := bind1 fe
  refine ⟨B, F0, F, e, x, ok, hx, fun v1 F1 H1 g1 d1 => ?_⟩
  unfold dgetD at fe
  split at fe
  · obtain ⟨kk, hkk, rfl⟩ := Option.map_eq_some_iff.mp fe
    obtain ⟨a, kvs, rfl, hR, hD⟩ := dp_dic d1
    refine ⟨a, rfl, .inl ⟨kvs, rd_mono g1.fh hR⟩, B, F0, F1, e, y, ok.grow g1, hy, fun v2 F2 H2 g2 d2 => ⟨B, F0, F2, e, z, (ok.grow g1).grow g2, hz, fun v3 F3 H3 g3 d3 => ⟨valV kvs kk, .inl ⟨kvs, kk, rd_mono g3.fh (rd_mono g3.ff (rd_mono g2.ff hR)), dp_key d2 hkk, rfl⟩, ?_⟩⟩⟩
    rcases dpk_look kk (dpk_mono g3.ff (dpk_mono g2.ff hD)) with ⟨h1, h2⟩ | ⟨v, d', h1, h2, h3⟩
    · rw [h1]
      refine q _ F3 H3 ((g1.trans g2).trans g3) ?_
      rw [h2]
      exact d3
    · rw [h1]
      refine q _ F3 H3 ((g1.trans g2).trans g3) ?_
      rw [h2]
      exact h3
  · cases fe
end
section
variable {fk fv f g h : FE} {fr : FK} {e : DEnv}
@[simp] theorem e_c3 {G : D → D → D → Option D} : c3 G f g h e = (f e).bind fun x => (g e).bind fun y => (h e).bind fun z => G x y z := (rfl)
@[simp] theorem e_nilK : nilK e = some [] := (rfl)
@[simp] theorem e_consK : consK fk fv fr e = (fk e).bind fun k => (asKey k).bind fun kk => (fv e).bind fun v => (fr e).map ((kk, v) :: ·) := (rfl)
@[simp] theorem e_dspD : dspD fr e = (fr e).bind fun kds => if Nat.ble kds.length 15 = true then some (.dict (mergeKD [] kds)) else none := (rfl)
@[simp] theorem e_asKeyI {i : Int} : asKey (.int i) = some (.inl i) := (rfl)
@[simp] theorem e_asKeyS {x : Str} : asKey (.str x) = some (.inr x) := (rfl)
@[simp] theorem e_dixD {ds : List (D × D)} {k : D} : dixD (.dict ds) k = (asKey k).bind (lookK ds) := (rfl)
@[simp] theorem e_dgetD {ds : List (D × D)} {k x : D} : dgetD (.dict ds) k x = (asKey k).map fun k => (lookK ds k).getD x := (rfl)
end
end DL

/-! DLay12: dicts and tuples of texts that the module holds. -/
namespace DL
open PySem PySem.Spec PyProof.Rows L2 Evl He
abbrev TabS := List (Str × Str)
def lookT (tab : TabS) (z : Str) : Option Str := (tab.find? fun p => decide (p.1 = z)).map (·.2)
def dinG (tab : TabS) (d : D) : Option D := match d with
  | .str z => some (.bool (lookT tab z).isSome)
  | _ => none
def dninG (tab : TabS) (d : D) : Option D := match d with
  | .str z => some (.bool (!(lookT tab z).isSome))
  | _ => none
def dixG (tab : TabS) (d : D) : Option D := match d with
  | .str z => (lookT tab z).map PyData.str
  | _ => none
def dgetG (tab : TabS) (d x : D) : Option D := match d with
  | .str z => some (match lookT tab z with
    | some y => .str y
    | none => x)
  | _ => none
/-! ### what is looked at -/
def entX (e : DictEntry) : Option (Str × Int × Str) := match e.key, e.val with
  | .str x _, .str y _ => some (x, e.hash, y)
  | _, _ => none
def entsIn (P : Params) (tab : TabS) : List (Option (Str × Int × Str)) := tab.map fun p => some (p.1, PyData.keyHash P p.1, p.2)
def dicX (K : PySem.W.Frag) (a : Addr) : Option (List (Option (Str × Int × Str))) := match K.lookup a with
  | some ⟨.type c, none, .dict es _, sl⟩ => (match decide (c = "dict") && (sl.isEmpty && !(a == sysModules)) with
    | true => some (es.toList.map entX)
    | false => none)
  | _ => none
structure GTab (K : PySem.W.Frag) (w : World) (d : Addr) (tab : TabS) : Prop where
  kd : ∃ es n, KDict K w d es n
  at_ : ∀ z, (∃ y t, lookT tab z = some y ∧ PySem.W.nsIn K d z = some (some (.str y t))) ∨ (lookT tab z = none ∧ PySem.W.nsIn K d z = some none)
theorem ents_lit {P : Params} : ∀ {l : List DictEntry} {tab : TabS}, l.map entX = entsIn P tab → PySem.W.KeysLit P l
  | [], _, _ => trivial
  | e :: r, [], h => by cases h
  | e :: r, p :: tab, h => by
    have h1 : entX e :: r.map entX = some (p.1, PyData.keyHash P p.1, p.2) :: entsIn P tab := h
    injection h1 with h2 h3
    refine ⟨?_, ents_lit h3⟩
    unfold entX at h2
    split at h2
    · rename_i x t y u q1 q2
      simp only [Option.some.injEq, Prod.mk.injEq] at h2
      exact ⟨x, t, q1, by rw [h2.2.1, h2.1]⟩
    · cases h2
theorem ents_find {P : Params} (z : Str) : ∀ {l : List DictEntry} {tab : TabS}, l.map entX = entsIn P tab →
    (∃ y t e, lookT tab z = some y ∧ l.find? (·.key.isStr z) = some e ∧ e.val = .str y t) ∨ (lookT tab z = none ∧ l.find? (·.key.isStr z) = none)
  | [], [], _ => .inr ⟨rfl, rfl⟩
  | [], _ :: _, h => by cases h
  | e :: r, [], h => by cases h
  | e :: r, p :: tab, h => by
    have h1 : entX e :: r.map entX = some (p.1, PyData.keyHash P p.1, p.2) :: entsIn P tab := h
    injection h1 with h2 h3
    have ih := ents_find z h3
    unfold entX at h2
    split at h2
    · rename_i x t y u q1 q2
      simp only [Option.some.injEq, Prod.mk.injEq] at h2
      obtain ⟨rfl, _, rfl⟩ := h2
      have hk : e.key.isStr z = decide (p.1 = z) := by
        rw [q1]
        show (p.1 == z) = _
        exact Bool.eq_iff_iff.mpr (by simp)
      by_cases hz : p.1 = z
      · refine .inl ⟨p.2, u, e, ?_, ?_, q2⟩
        · simp [lookT, List.find?_cons, hz]
        · rw [List.find?_cons, hk, decide_eq_true hz]
      · have e1 : lookT (p :: tab) z = lookT tab z := by simp [lookT, List.find?_cons, hz]
        have e2 : (e :: r).find? (·.key.isStr z) = r.find? (·.key.isStr z) := by rw [List.find?_cons, hk, decide_eq_false hz]
        rw [e1, e2]
        exact ih
    · cases h2
theorem ents_ref {P : Params} : ∀ {l : List DictEntry} {tab : TabS}, l.map entX = entsIn P tab → l.any (·.refKey) = false
  | [], _, _ => rfl
  | e :: r, [], h => by cases h
  | e :: r, p :: tab, h => by
    have h1 : entX e :: r.map entX = some (p.1, PyData.keyHash P p.1, p.2) :: entsIn P tab := h
    injection h1 with h2 h3
    rw [List.any_cons, ents_ref h3, Bool.or_false]
    unfold entX at h2
    split at h2
    · rename_i x t y u q1 q2
      unfold DictEntry.refKey
      rw [q1]
    · cases h2
theorem gtab_of {K : PySem.W.Frag} {w : World} {a : Addr} {tab : TabS} (h : dicX K a = some (entsIn w.params tab)) : GTab K w a tab := by
  unfold dicX at h
  cases q : K.lookup a with
  | none =>
    rw [q] at h
    cases h
  | some o =>
    obtain ⟨oc, od, dt, osl⟩ := o
    rw [q] at h
    cases oc with
    | type c =>
      cases od with
      | none =>
        cases dt with
        | dict es n =>
          have h1 : (match decide (c = "dict") && (osl.isEmpty && !(a == sysModules)) with
            | true => some (es.toList.map entX)
            | false => none) = some (entsIn w.params tab) := h
          cases z : decide (c = "dict") && (osl.isEmpty && !(a == sysModules)) with
          | false =>
            rw [z] at h1
            cases h1
          | true =>
            rw [z] at h1
            obtain ⟨z1, z2⟩ := ba z
            obtain ⟨z3, z4⟩ := ba z2
            have e1 : c = "dict" := of_decide_eq_true z1
            have e2 : osl = #[] := Array.isEmpty_iff.mp z3
            have e3 : (a == sysModules) = false := by
              cases y : a == sysModules with
              | false => rfl
              | true =>
                rw [y] at z4
                cases z4
            subst e1 e2
            have hm := Option.some.inj h1
            refine ⟨⟨es, n, q, ents_lit hm, e3⟩, fun zz => ?_⟩
            rcases ents_find zz hm with ⟨y, t, e, g1, g2, g3⟩ | ⟨g1, g2⟩
            · refine .inl ⟨y, t, g1, ?_⟩
              unfold PySem.W.nsIn
              rw [q]
              show (match es.toList.find? (·.key.isStr zz) with
                | some e => some (some e.val)
                | none => if es.toList.any (·.refKey) then none else some none) = _
              rw [g2]
              show some (some e.val) = _
              rw [g3]
            · refine .inr ⟨g1, ?_⟩
              unfold PySem.W.nsIn
              rw [q]
              show (match es.toList.find? (·.key.isStr zz) with
                | some e => some (some e.val)
                | none => if es.toList.any (·.refKey) then none else some none) = _
              rw [g2, ents_ref hm]
              rfl
        | _ => cases h
      | some b => cases dt <;> cases h
    | _ => cases od <;> cases dt <;> cases h
/-! ### the Hook -/
abbrev AlX : Type := AlD × List (Option (List (Option (Str × Int × Str)))) × Bool
def obsX (fa : List Fa) (fn : List DefD) (ts : List (Str × TabS)) (us : List (Str × List Dv)) (K : PySem.W.Frag) : AlX := (obsD fa fn K, ts.map (fun t => dicX K (ga K t.1)), us.all fun u => tupB K u.1 u.2)
def valX (fn : List DefD) (ts : List (Str × TabS)) (w : World) : AlX := (valD fn, ts.map (fun t => some (entsIn w.params t.2)), true)
def obsXG (n : Nat) (fa : List Fa) (fn : List DefD) (ts : List (Str × TabS)) (us : List (Str × List Dv)) (g : Addr → Option Obj) : AlX := obsX fa fn ts us (frG g (asD g n))
def SaysX (fa : List Fa) (fn : List DefD) (ts : List (Str × TabS)) (us : List (Str × List Dv)) (w : World) (K : PySem.W.Frag) : Prop := obsX fa fn ts us K = valX fn ts w
def hookX (n : Nat) (fa : List Fa) (fn : List DefD) (ts : List (Str × TabS)) (us : List (Str × List Dv)) : PySem.W.Hook where
  α := AlX
  obs := fun s => obsXG n fa fn ts us s.heap.get?
  val := fun w => valX fn ts w
  says := fun w h => ∃ K : PySem.W.Frag, K.In h ∧ SaysX fa fn ts us w K
  of := fun _ _ e => ⟨_, frG_in, e⟩
  keeps := fun _ _ _ ⟨K, hK, c⟩ k => ⟨K, PySem.W.Frag.In.keeps hK k, c⟩
theorem obsXG_eq {n : Nat} {fa : List Fa} {fn : List DefD} {ts : List (Str × TabS)} {us : List (Str × List Dv)} {g : Addr → Option Obj} {s : Shared} (h : ∀ a, g a = s.heap.get? a) : obsXG n fa fn ts us g = (hookX n fa fn ts us).obs s := by
  have e : g = s.heap.get? := funext h
  rw [e] <;> rfl
section
variable {fa : List Fa} {fn : List DefD} {ts : List (Str × TabS)} {us : List (Str × List Dv)} {w : World} {K : PySem.W.Frag}
theorem SaysX.d (c : SaysX fa fn ts us w K) : SaysD fa fn K := congrArg (fun z : AlX => z.1) c
theorem SaysX.tab (c : SaysX fa fn ts us w K) (i : Nat) {t : Str × TabS} (h : ts[i]? = some t := by rfl) : GTab K w (ga K t.1) t.2 := by
  have e : ts.map (fun t => dicX K (ga K t.1)) = ts.map fun t => some (entsIn w.params t.2) := congrArg (fun z : AlX => z.2.1) c
  have e2 : (ts.map fun t => dicX K (ga K t.1))[i]? = (ts.map fun t => some (entsIn w.params t.2))[i]? := by rw [e]
  rw [List.getElem?_map, List.getElem?_map, h] at e2
  exact gtab_of (Option.some.inj e2)
theorem SaysX.tup (c : SaysX fa fn ts us w K) (i : Nat) {u : Str × List Dv} (h : us[i]? = some u := by rfl) (H : Hp) : SqT K H (ga K u.1) (u.2.map (Dv.v K)) := by
  have e : (us.all fun u => tupB K u.1 u.2) = true := congrArg (fun z : AlX => z.2.2) c
  exact tupB_ok (List.all_eq_true.mp e u (List.mem_of_getElem? h)) H
end
/-! ### the rules -/
section
variable {X : Cx} {a b : Expr} {f g : FE} {x : Str} {d : Addr} {tab : TabS} {p pos apos : Pos}
theorem de_gtup {zs : List Str} (hg : Gl X x) (hm : X.mg x = some (.ref d)) (hs : ∀ H : Hp, SqT X.K H d (zs.map V.str)) (hd : (x == ("__debug__" : Str)) = false := by decide) : DE X (.Name x p) (cst (.tuple (zs.map PyData.str))) :=
  de_cst (v := .ref d) (pe_glob hg hm rfl hd) fun F => .tup (hs F) (by
    induction zs with
    | nil => exact .nil
    | cons z zs ih =>
      refine .cons (.str z) ?_
      clear ih hs
      induction zs with
      | nil => exact .nil
      | cons y ys ih => exact .cons (.str y) ih)
theorem de_gin (hm : X.mg x = some (.ref d)) (D : GTab X.K X.w d tab) (ha : DE X a f) (hg : Gl X x := by rfl) (hb : behindInMarks .In (.Name x p) = false := by rfl) (hd : (x == ("__debug__" : Str)) = false := by decide) : DE X (.Compare a [.In] [.Name x p] pos) (c1 (dinG tab) f) := by
  obtain ⟨es, n, kd⟩ := D.kd
  refine pe_imp (pe_cmpR (op_in_kd kd) ha (pe_glob (v := .ref d) hg hm rfl hd) hb) fun σ H Q ⟨B, F0, F, e, r, ok, fe, q⟩ => ?_
  obtain ⟨v, hv, fe⟩ := bind1 fe
  refine ⟨B, F0, F, e, v, ok, hv, fun v1 F1 H1 g1 d1 => ?_⟩
  unfold dinG at fe
  split at fe
  · rename_i z
    cases fe
    rcases D.at_ z with ⟨y, t, h1, h2⟩ | ⟨h1, h2⟩
    · refine ⟨z, _, dp_str d1, rfl, h2, ?_⟩
      have := q (.bl true) F1 H1 g1 (by rw [h1]; exact .bl true)
      exact this
    · refine ⟨z, _, dp_str d1, rfl, h2, ?_⟩
      have := q (.bl false) F1 H1 g1 (by rw [h1]; exact .bl false)
      exact this
  · cases fe
theorem de_gnin (hm : X.mg x = some (.ref d)) (D : GTab X.K X.w d tab) (ha : DE X a f) (hg : Gl X x := by rfl) (hb : behindInMarks .NotIn (.Name x p) = false := by rfl) (hd : (x == ("__debug__" : Str)) = false := by decide) : DE X (.Compare a [.NotIn] [.Name x p] pos) (c1 (dninG tab) f) := by
  obtain ⟨es, n, kd⟩ := D.kd
  refine pe_imp (pe_cmpR (op_notIn_kd kd) ha (pe_glob (v := .ref d) hg hm rfl hd) hb) fun σ H Q ⟨B, F0, F, e, r, ok, fe, q⟩ => ?_
  obtain ⟨v, hv, fe⟩ := bind1 fe
  refine ⟨B, F0, F, e, v, ok, hv, fun v1 F1 H1 g1 d1 => ?_⟩
  unfold dninG at fe
  split at fe
  · rename_i z
    cases fe
    rcases D.at_ z with ⟨y, t, h1, h2⟩ | ⟨h1, h2⟩
    · refine ⟨z, _, dp_str d1, rfl, h2, ?_⟩
      have := q (.bl false) F1 H1 g1 (by rw [h1]; exact .bl false)
      exact this
    · refine ⟨z, _, dp_str d1, rfl, h2, ?_⟩
      have := q (.bl true) F1 H1 g1 (by rw [h1]; exact .bl true)
      exact this
  · cases fe
theorem dt_gin (hm : X.mg x = some (.ref d)) (D : GTab X.K X.w d tab) (ha : DE X a f) (hg : Gl X x := by rfl) (hb : behindInMarks .In (.Name x p) = false := by rfl) (hd : (x == ("__debug__" : Str)) = false := by decide) : DT X (.Compare a [.In] [.Name x p] pos) (tst (c1 (dinG tab) f)) := by
  obtain ⟨es, n, kd⟩ := D.kd
  refine pt_imp (pt_cmpR (op_in_kd kd) ha (pe_glob (v := .ref d) hg hm rfl hd) hb) (tst_read fun σ H Q ⟨B, F0, F, e, r, ok, fe, q⟩ => ?_)
  obtain ⟨v, hv, fe⟩ := bind1 fe
  refine ⟨B, F0, F, e, v, ok, hv, fun v1 F1 H1 g1 d1 => ?_⟩
  unfold dinG at fe
  split at fe
  · rename_i z
    cases fe
    rcases D.at_ z with ⟨y, t, h1, h2⟩ | ⟨h1, h2⟩
    · refine ⟨z, _, dp_str d1, rfl, h2, ?_⟩
      have := q (.bl true) F1 H1 g1 (by rw [h1]; exact .bl true)
      exact this
    · refine ⟨z, _, dp_str d1, rfl, h2, ?_⟩
      have := q (.bl false) F1 H1 g1 (by rw [h1]; exact .bl false)
      exact this
  · cases fe
theorem dt_gnin (hm : X.mg x = some (.ref d)) (D : GTab X.K X.w d tab) (ha : DE X a f) (hg : Gl X x := by rfl) (hb : behindInMarks .NotIn (.Name x p) = false := by rfl) (hd : (x == ("__debug__" : Str)) = false := by decide) : DT X (.Compare a [.NotIn] [.Name x p] pos) (tst (c1 (dninG tab) f)) := by
  obtain ⟨es, n, kd⟩ := D.kd
  refine pt_imp (pt_cmpR (op_notIn_kd kd) ha (pe_glob (v := .ref d) hg hm rfl hd) hb) (tst_read fun σ H Q ⟨B, F0, F, e, r, ok, fe, q⟩ => ?_)
  obtain ⟨v, hv, fe⟩ := bind1 fe
  refine ⟨B, F0, F, e, v, ok, hv, fun v1 F1 H1 g1 d1 => ?_⟩
  unfold dninG at fe
  split at fe
  · rename_i z
    cases fe
    rcases D.at_ z with ⟨y, t, h1, h2⟩ | ⟨h1, h2⟩
    · refine ⟨z, _, dp_str d1, rfl, h2, ?_⟩
      have := q (.bl false) F1 H1 g1 (by rw [h1]; exact .bl false)
      exact this
    · refine ⟨z, _, dp_str d1, rfl, h2, ?_⟩
      have := q (.bl true) F1 H1 g1 (by rw [h1]; exact .bl true)
      exact this
  · cases fe
theorem ix_kd {es : Array DictEntry} {n : Nat} (kd : KDict X.K X.w d es n) : IxR X (fun x y H Q => ∃ (z : Str) (u0 : Value) (v0 : V), x = .ref d ∧ y = .str z ∧ PySem.W.nsIn X.K d z = some (some u0) ∧ RelV v0 u0 ∧ Q v0 H) := by
  intro value slice pins s σ H x y v u Q I rx ry h hs
  have h' := h
  obtain ⟨z, u0, v0, rfl, rfl, e, r, q⟩ := h'
  cases rx
  exact tail_any (ops := [.ref d, u]) (kd_type kd I) PySem.F.slot_dict_getitem.lookup (op_item_kd kd pins s σ H (.ref d) (.str z) (.ref d) u Q I rfl ry h) hs
theorem de_gdix {r : Nat} (hm : X.mg x = some (.ref d)) (D : GTab X.K X.w d tab) (hr : Room r X.A) (hb : DE X b f) (hg : Gl X x := by rfl) (hs : PlainIx b := by exact fun _ _ => rfl) (hd : (x == ("__debug__" : Str)) = false := by decide) : DE X (.Subscript (.Name x p) b pos) (c1 (dixG tab) f) := by
  obtain ⟨es, n, kd⟩ := D.kd
  refine pe_imp (pe_ix (ix_kd kd) (pe_glob (v := .ref d) hg hm rfl hd) hb hs) fun σ H Q ⟨B, F0, F, e, r, ok, fe, q⟩ => ?_
  obtain ⟨v, hv, fe⟩ := bind1 fe
  refine ⟨B, F0, F, e, v, ok, hv, fun v1 F1 H1 g1 d1 => ?_⟩
  unfold dixG at fe
  split at fe
  · rename_i z
    obtain ⟨y', hy', rfl⟩ := Option.map_eq_some_iff.mp fe
    rcases D.at_ z with ⟨y, t, h1, h2⟩ | ⟨h1, h2⟩
    · rw [h1] at hy'
      have ey := Option.some.inj hy'
      subst ey
      exact ⟨z, _, .str y, rfl, dp_str d1, h2, ⟨t, rfl⟩, q _ F1 H1 g1 (.str y)⟩
    · rw [h1] at hy'
      cases hy'
  · cases fe
theorem pe_kget2 {o i e : Expr} {es : Array DictEntry} {n : Nat} {ty tx : TE} (kd : KDict X.K X.w d es n) (ho : PE X o (tC (.ref d))) (hi : PE X i ty) (he : PE X e tx) (m : M2 X o "get" apos i e pos) :
    PE X (.Call (.Attribute o "get" apos) [i, e] [] pos) (fun σ H Q => ty σ H fun y H1 => tx σ H1 fun z H2 => ∃ k v0, y = .str k ∧ ((∃ u0, PySem.W.nsIn X.K d k = some (some u0) ∧ RelV v0 u0) ∨ (PySem.W.nsIn X.K d k = some none ∧ v0 = z)) ∧ Q v0 H2) := by
  refine ⟨fun pins s σ H Q I h => ?_⟩
  refine wpAny_Call_method m.base m.few m.line PySem.F.plainAttrs_dict PySem.F.slot_dict_get PySem.F.type_dict_get (thn (ho.run pins s σ H (fun v H' => v = .ref d ∧ H' = H) I ⟨rfl, rfl⟩) fun u s1 ⟨x, H1, I1, rx, ex, eh⟩ => ?_)
  subst ex eh
  obtain rfl : u = Value.ref d := rx
  refine ⟨kd_type kd I1, fun b q => ?_, ?_⟩
  · cases q
    exact ⟨_, I1.kIn _ _ kd.at_, rfl⟩
  rw [m.trees]
  refine Calls.callWith_builtin rfl (Calls.evalArgs_plain (Calls.spliced_cons (thn (hi.run pins s1 σ H1 _ I1 h) fun iv s2 ⟨y, H2, I2, ry, q2⟩ =>
    Calls.spliced_cons (thn (he.run pins s2 σ H2 _ I2 q2) fun fv s3 ⟨z, H3, I3, rz, k, v0, ey, hk, q3⟩ => Calls.spliced_nil ?_))))
  subst ey
  obtain ⟨t, rfl⟩ := ry
  refine call_meetsIn PySem.F.slot_dict_get (kd_type kd I3) PySem.F.entry_dict_get (PySem.F.args_dict_get_3 _ _ _) (meets_dict_get_default (PySem.strKind X.prog X.w) d (PySem.strKind_is X.prog X.w k t) kd.low fv) ⟨_, PySem.W.mapOf_K (prog := X.prog) I3.kIn kd.at_ kd.lit, ?_⟩
  rcases hk with ⟨u0, h1, h2⟩ | ⟨h1, h2⟩
  · rw [PySem.W.find_K kd.at_ h1]
    exact ⟨v0, H3, I3.tok _, h2, q3⟩
  · rw [PySem.W.find_K kd.at_ h1]
    subst h2
    exact ⟨v0, H3, I3.tok _, rz, q3⟩
theorem de_gget {i e : Expr} {r : Nat} (hm : X.mg x = some (.ref d)) (D : GTab X.K X.w d tab) (hr : Room r X.A) (hi : DE X i f) (he : DE X e g) (hg : Gl X x := by rfl) (m : M2 X (.Name x p) "get" apos i e pos := by exact ⟨rfl, rfl, rfl, rfl⟩) (hd : (x == ("__debug__" : Str)) = false := by decide) : DE X (.Call (.Attribute (.Name x p) "get" apos) [i, e] [] pos) (c2 (dgetG tab) f g) := by
  obtain ⟨es, n, kd⟩ := D.kd
  refine pe_imp (pe_kget2 kd (pe_glob (v := .ref d) hg hm rfl hd) hi he m) fun σ H Q ⟨B, F0, F, e, r, ok, fe, q⟩ => ?_
  obtain ⟨u, y, hu, hy, fe⟩ := bind2 fe
  refine ⟨B, F0, F, e, u, ok, hu, fun v1 F1 H1 g1 d1 => ⟨B, F0, F1, e, y, ok.grow g1, hy, fun v2 F2 H2 g2 d2 => ?_⟩⟩
  unfold dgetG at fe
  split at fe
  · rename_i z
    cases fe
    rcases D.at_ z with ⟨w, t, h1, h2⟩ | ⟨h1, h2⟩
    · refine ⟨z, .str w, dp_str d1, .inl ⟨_, h2, ⟨t, rfl⟩⟩, q _ F2 H2 (g1.trans g2) ?_⟩
      rw [h1]
      exact .str w
    · refine ⟨z, v2, dp_str d1, .inr ⟨h2, rfl⟩, q _ F2 H2 (g1.trans g2) ?_⟩
      rw [h1]
      exact d2
  · cases fe
end
section
variable {tab : TabS} {z : Str} {x : D}
@[simp] theorem e_dinG : dinG tab (.str z) = some (.bool (lookT tab z).isSome) := (rfl)
@[simp] theorem e_dninG : dninG tab (.str z) = some (.bool (!(lookT tab z).isSome)) := (rfl)
@[simp] theorem e_dixG : dixG tab (.str z) = (lookT tab z).map PyData.str := (rfl)
@[simp] theorem e_dgetG : dgetG tab (.str z) x = some (match lookT tab z with
    | some y => .str y
    | none => x) := (rfl)
end
end DL

/-! DLay13: texts joined. -/
namespace DL
open PySem PySem.Spec PyProof.Rows L2 Evl
def jnOk (a : Str) (ys : List Str) : Bool := Nat.ble ((ys.map (·.length)).sum + ys.length * a.length) 16777216
def joinD (s d : D) : Option D := match s, d with
  | .str a, .list xs => (asStrs xs).bind fun ys => if jnOk a ys = true then some (.str (Txt.join a ys)) else none
  | .str a, .tuple xs => (asStrs xs).bind fun ys => if jnOk a ys = true then some (.str (Txt.join a ys)) else none
  | _, _ => none
section
variable {X : Cx} {o e : Expr} {f g : FE} {apos pos : Pos}
theorem de_join (ho : DE X o f) (he : DR X e g) (hs : starEach [e] X.env = [(false, eval e X.env)] := by rfl) (hbase : attributeBase o "join" X.env (eval o X.env) = eval o X.env := by rfl) (hline : (apos.endLine == pos.line) = true := by rfl) :
    DE X (.Call (.Attribute o "join" apos) [e] [] pos) (c2 joinD f g) :=
  pe_imp (pe_join ho he hs hbase hline) fun σ H Q ⟨B, F0, F, e, d, ok, fe, q⟩ => by
  obtain ⟨x, y, hx, hy, fe⟩ := bind2 fe
  unfold joinD at fe
  split at fe
  · obtain ⟨ys, hys, fe⟩ := bind1 fe
    split at fe
    · rename_i hz
      cases fe
      refine ⟨B, F0, F, e, _, ok, hx, fun v1 F1 H1 g1 d1 => ⟨⟨_, dp_str d1⟩, B, F0, F1, e, _, ok.grow g1, hy, fun v2 F2 H2 g2 r2 => ?_⟩⟩
      obtain ⟨p, vs, rfl, h1, h2⟩ := r2.lst g2.fh
      rw [asStrs_of hys] at h2
      have := dpa_map_str h2
      subst this
      exact ⟨_, p, ys, dp_str d1, rfl, .inl h1, Nat.le_of_ble_eq_true hz, q _ F2 H2 (g1.trans g2) (.str _)⟩
    · cases fe
  · obtain ⟨ys, hys, fe⟩ := bind1 fe
    split at fe
    · rename_i hz
      cases fe
      refine ⟨B, F0, F, e, _, ok, hx, fun v1 F1 H1 g1 d1 => ⟨⟨_, dp_str d1⟩, B, F0, F1, e, _, ok.grow g1, hy, fun v2 F2 H2 g2 r2 => ?_⟩⟩
      obtain ⟨p, vs, rfl, h1, h2⟩ := r2.tup g2.fh
      rw [asStrs_of hys] at h2
      have := dpa_map_str h2
      subst this
      exact ⟨_, p, ys, dp_str d1, rfl, .inr h1, Nat.le_of_ble_eq_true hz, q _ F2 H2 (g1.trans g2) (.str _)⟩
    · cases fe
  · cases fe
end
end DL

/-! DLay14: how long a while goes on. -/
namespace DL
open PySem L2
def muI (i : Nat) (e : DEnv) : Nat := match e[i]? with
  | some (some (.sh (.int n))) => n.natAbs + 1
  | _ => 1
def muL (i : Nat) (e : DEnv) : Nat := match e[i]? with
  | some (some (.ow xs)) => xs.length + 1
  | some (some (.sh (.list xs))) => xs.length + 1
  | _ => 1
@[simp] theorem e_sIns {i : Nat} {f g : FE} {e : DEnv} : sIns i g f e = (g e).bind fun k => (f e).bind fun d => (owAt i e).bind fun xs => match k with
  | .int n => if sml (xs.length + 1) = true ∧ 0 ≤ n ∧ n < 2 ^ 63 then some (.nx (e.set i (some (.ow (xs.take n.toNat ++ [d] ++ xs.drop n.toNat))))) else none
  | _ => none := (rfl)
@[simp] theorem e_sPar {i j : Nat} {f : FA} {e : DEnv} : sPar i j f e = (f e).bind fun ds => match ds with
  | [v, w] => some (.nx ((e.set i (some (.sh v))).set j (some (.sh w))))
  | _ => none := (rfl)
def nextFl (r : Option Fl) (k : DEnv → Option Fl) : Option Fl := r.bind fun r => match r with
  | .nx e2 => k e2
  | .ct e2 => k e2
  | .bk e2 => some (.nx e2)
  | .rt v => some (.rt v)
@[simp] theorem e_nnx {e : DEnv} {k : DEnv → Option Fl} : nextFl (some (.nx e)) k = k e := (rfl)
@[simp] theorem e_nct {e : DEnv} {k : DEnv → Option Fl} : nextFl (some (.ct e)) k = k e := (rfl)
@[simp] theorem e_nbk {e : DEnv} {k : DEnv → Option Fl} : nextFl (some (.bk e)) k = some (.nx e) := (rfl)
@[simp] theorem e_nrt {d : D} {k : DEnv → Option Fl} : nextFl (some (.rt d)) k = some (.rt d) := (rfl)
theorem forD_n {b : BD} {body : FS} {e : DEnv} : forD b body [] e = some (.nx e) := (rfl)
theorem forD_c {b : BD} {body : FS} {d : D} {ds : List D} {e : DEnv} : forD b body (d :: ds) e = (b d e).bind fun e1 => nextFl (body e1) (forD b body ds) := (rfl)
theorem whileD_c {c : FB} {body : FS} {n : Nat} {e : DEnv} : whileD c body (n + 1) e = (c e).bind fun k => if k = true then nextFl (body e) (whileD c body n) else some (.nx e) := (rfl)
@[simp] theorem e_absI {i : Int} : absD (.int i) = some (.int (if i < 0 then -i else i)) := (rfl)
end DL

/-! DLay15: sorted, of pairs of texts. -/
namespace DL
open PySem PySem.Spec PyProof.Rows L2 Evl

/-! ### the order, and sorting by it -/
def kp (p : Str × Str) : List (Int ⊕ List Nat) := [.inr p.1.cps.toList, .inr p.2.cps.toList]
def ltP2 (p q : Str × Str) : Bool := (listOrd itemOrd).blt (kp p) (kp q)
theorem kp_inj {p q : Str × Str} (h : kp p = kp q) : p = q := by
  obtain ⟨⟨⟨a⟩⟩, ⟨⟨b⟩⟩⟩ := p
  obtain ⟨⟨⟨c⟩⟩, ⟨⟨d⟩⟩⟩ := q
  simp only [kp, List.cons.injEq, Sum.inr.injEq, and_true] at h
  obtain ⟨h1, h2⟩ := h
  subst h1 h2
  rfl
theorem ltP2_irr (p : Str × Str) : ltP2 p p = false := (listOrd itemOrd).irrefl _
theorem ltP2_tot {p q : Str × Str} (h : ltP2 p q = false) (h' : ltP2 q p = false) : p = q := kp_inj ((listOrd itemOrd).total _ _ h h')
theorem ltP2_asym {p q : Str × Str} (h : ltP2 p q = true) : ltP2 q p = false := by
  cases hq : ltP2 q p
  · rfl
  · have := (listOrd itemOrd).trans _ _ _ h hq
    rw [(listOrd itemOrd).irrefl] at this
    cases this
theorem ltP2_le_trans {p q r : Str × Str} (h : ltP2 q p = false) (h' : ltP2 r q = false) : ltP2 r p = false := by
  cases hq : ltP2 r p
  · rfl
  · rcases (listOrd itemOrd).negTrans _ (kp q) _ hq with z | z
    · have z' : ltP2 r q = true := z
      rw [h'] at z'; cases z'
    · have z' : ltP2 q p = true := z
      rw [h] at z'; cases z'
def insP (p : Str × Str) : List (Str × Str) → List (Str × Str)
  | [] => [p]
  | q :: qs => if ltP2 q p = true then q :: insP p qs else p :: q :: qs
def srtP (ps : List (Str × Str)) : List (Str × Str) := ps.foldr insP []
/-- in order -/
def Srd (ps : List (Str × Str)) : Prop := ps.Pairwise fun a b => ltP2 b a = false
theorem insP_perm (p : Str × Str) : ∀ qs : List (Str × Str), (insP p qs).Perm (p :: qs)
  | [] => .refl _
  | q :: qs => by
    unfold insP
    split
    · exact ((insP_perm p qs).cons q).trans (.swap p q qs)
    · exact .refl _
theorem srtP_perm : ∀ ps : List (Str × Str), (srtP ps).Perm ps
  | [] => .refl _
  | p :: ps => (insP_perm p (srtP ps)).trans ((srtP_perm ps).cons p)
theorem insP_srd (p : Str × Str) : ∀ {qs : List (Str × Str)}, Srd qs → Srd (insP p qs)
  | [], _ => List.pairwise_singleton ..
  | q :: qs, h => by
    unfold Srd at h ⊢
    rw [List.pairwise_cons] at h
    unfold insP
    split
    · rename_i hc
      refine List.pairwise_cons.mpr ⟨fun r hr => ?_, insP_srd p h.2⟩
      rcases List.mem_cons.mp ((insP_perm p qs).mem_iff.mp hr) with rfl | hr
      · exact ltP2_asym hc
      · exact h.1 r hr
    · rename_i hc
      have hc' : ltP2 q p = false := by simpa using hc
      refine List.pairwise_cons.mpr ⟨fun r hr => ?_, List.pairwise_cons.mpr h⟩
      rcases List.mem_cons.mp hr with rfl | hr
      · exact hc'
      · exact ltP2_le_trans hc' (h.1 r hr)
theorem srtP_srd : ∀ ps : List (Str × Str), Srd (srtP ps)
  | [] => List.Pairwise.nil
  | p :: ps => insP_srd p (srtP_srd ps)
theorem srd_uniq : ∀ {ps qs : List (Str × Str)}, ps.Perm qs → Srd ps → Srd qs → ps = qs
  | [], qs, h, _, _ => (List.nil_perm.mp h).symm
  | p :: ps, [], h, _, _ => absurd (List.perm_nil.mp h) (by simp)
  | p :: ps, q :: qs, h, hp, hq => by
    unfold Srd at hp hq
    rw [List.pairwise_cons] at hp hq
    have e : p = q := by
      have h1 : q ∈ p :: ps := h.mem_iff.mpr List.mem_cons_self
      have h2 : p ∈ q :: qs := h.mem_iff.mp List.mem_cons_self
      rcases List.mem_cons.mp h1 with e | h1
      · exact e.symm
      · rcases List.mem_cons.mp h2 with e | h2
        · exact e
        · exact ltP2_tot (hq.1 p h2) (hp.1 q h1)
    subst e
    rw [srd_uniq (List.perm_cons p |>.mp h) hp.2 hq.2]
theorem srtP_congr {ps qs : List (Str × Str)} (h : ps.Perm qs) : srtP ps = srtP qs := srd_uniq ((srtP_perm ps).trans (h.trans (srtP_perm qs).symm)) (srtP_srd ps) (srtP_srd qs)

/-! ### as data -/
def p2D (p : Str × Str) : D := .tuple [.str p.1, .str p.2]
def asP2 : List D → Option (List (Str × Str))
  | [] => some []
  | .tuple [.str a, .str b] :: r => (asP2 r).map ((a, b) :: ·)
  | _ :: _ => none
theorem asP2_map : ∀ ps : List (Str × Str), asP2 (ps.map p2D) = some ps
  | [] => rfl
  | p :: ps => by
    show (asP2 (ps.map p2D)).map _ = _
    rw [asP2_map ps]
    rfl
theorem asP2_of {ds : List D} {ps : List (Str × Str)} (h : asP2 ds = some ps) : ds = ps.map p2D := by
  induction ds generalizing ps with
  | nil => cases h; rfl
  | cons d ds ih =>
    unfold asP2 at h
    split at h
    · rename_i e
      cases e
    · rename_i e
      obtain ⟨rfl, rfl⟩ := List.cons.inj e
      obtain ⟨qs, hq, rfl⟩ := Option.map_eq_some_iff.mp h
      rw [ih hq]
      rfl
    · cases h
def srtD : D → Option (List D)
  | .list xs => (asP2 xs).bind fun ps => if sml ps.length = true then some ((srtP ps).map p2D) else none
  | _ => none
def srtA (f : FE) : FA := fun e => (f e).bind srtD
@[simp] theorem e_srtA {f : FE} {e : DEnv} : srtA f e = (f e).bind srtD := (rfl)
theorem srtD_ok {ps : List (Str × Str)} (h : ps.length ≤ 100000) : srtD (.list (ps.map p2D)) = some ((srtP ps).map p2D) := by
  show (asP2 (ps.map p2D)).bind _ = _
  rw [asP2_map]
  simp only [Option.bind_some]
  rw [if_pos (sml_of h)]

/-! ### the rule -/
section
variable {X : Cx} {e : Expr} {f : FE} {p pos : Pos}
def rSort2 (K : PySem.W.Frag) : List V → Hp → VK → Prop := fun vs H Q => ∃ (a : Addr) (xs : List V) (ps : List (Str × Str)), vs = [V.ref a] ∧ SqL K H a xs ∧ xs.length = ps.length ∧ (∀ z ∈ xs.zip ps, ∃ t, z.1 = V.ref t ∧ SqT K H t [.str z.2.1, .str z.2.2]) ∧
  ∀ ys qs p, (ys.zip qs).Perm (xs.zip ps) → ys.length = qs.length → Srd qs → H p = none → Q (.ref p) (upd H p (.lst ys))
def decK : Option (List (Int ⊕ List Nat)) → Str × Str
  | some [.inr a, .inr b] => (⟨a.toArray⟩, ⟨b.toArray⟩)
  | _ => (⟨#[]⟩, ⟨#[]⟩)
theorem decK_kp (p : Str × Str) : decK (some (kp p)) = p := by
  obtain ⟨⟨a⟩, ⟨b⟩⟩ := p
  simp [kp, decK]
theorem tups_of {h : Heap} : ∀ {vs : List Value}, (∀ v ∈ vs, ∃ (a : Addr) (o : Obj) (x y : Str) (t1 t2 : Tok) (n : Nat), v = .ref a ∧ h.get? a = some o ∧ o.cls = .type "tuple" ∧ o.data = .seq #[.str x t1, .str y t2] n) → ∃ fs, TupsOf h (fun _ => true) vs fs
  | [], _ => ⟨[], .nil⟩
  | v :: vs, hv => by
    obtain ⟨fs, hf⟩ := tups_of fun u hu => hv u (List.mem_cons_of_mem _ hu)
    obtain ⟨a, o, x, y, t1, t2, n, rfl, ho, hc, hd⟩ := hv v List.mem_cons_self
    exact ⟨_, .cons ⟨a, o, _, n, rfl, ho, hc, hd, rfl, (fun z => by cases z), fun _ => ⟨x, t1, rfl⟩⟩ hf⟩
theorem key_of {h : Heap} {a : Addr} {o : Obj} {x y : Str} {t1 t2 : Tok} {n : Nat} (ho : h.get? a = some o) (hc : o.cls = .type "tuple") (hd : o.data = .seq #[.str x t1, .str y t2] n) : G.tupKeyC h (fun _ => true) (.ref a) = some (kp (x, y)) := by
  have h1 : G.isTupObj h (.ref a) = true := by
    show (match h.get? a with
      | some o => (match o.cls with | .type n => n == "tuple" | _ => false)
      | none => false) = true
    rw [ho]
    simp only [hc]
    decide
  unfold G.tupKeyC
  rw [if_pos h1]
  show (match h.get? a with
    | some o => match o.data with
      | .seq xs _ => tupItems (fun _ => true) 0 xs.toList
      | _ => none
    | none => none) = _
  rw [ho]
  simp only [hd]
  rfl
theorem zip_mem_of {α β : Type} : ∀ {xs : List α} {ys : List β}, xs.length = ys.length → ∀ x ∈ xs, ∃ y, (x, y) ∈ xs.zip ys
  | [], _, _, x, h => by simp at h
  | _ :: _, [], hl, _, _ => by simp at hl
  | x :: xs, y :: ys, hl, z, h => by
    rcases List.mem_cons.mp h with rfl | h
    · exact ⟨y, List.mem_cons_self⟩
    · obtain ⟨y', h'⟩ := zip_mem_of (xs := xs) (ys := ys) (by simpa using hl) z h
      exact ⟨y', List.mem_cons_of_mem _ h'⟩
theorem zip_map_eq {α β : Type} (k : α → β) : ∀ {xs : List α} {ys : List β}, xs.length = ys.length → (∀ z ∈ xs.zip ys, k z.1 = z.2) → ys = xs.map k
  | [], [], _, _ => rfl
  | [], _ :: _, hl, _ => by simp at hl
  | _ :: _, [], hl, _ => by simp at hl
  | x :: xs, y :: ys, hl, h => by
    have h1 := h (x, y) List.mem_cons_self
    rw [List.map_cons, ← zip_map_eq k (by simpa using hl) fun z hz => h z (List.mem_cons_of_mem _ hz)]
    rw [show k x = y from h1]
theorem cr_sort2 : CallR X (.builtin "sorted") (rSort2 X.K) := by
  intro pins s σ H vs us Q I r h
  obtain ⟨a, xs, ps, rfl, hs, hlen, hx, q⟩ := h
  obtain ⟨its, rv, hl, hz⟩ := I.list hs
  obtain ⟨u, rfl, ru⟩ := vals1 r
  obtain rfl : u = Value.ref a := ru
  obtain ⟨e1, e2⟩ := refs_back rv fun x m => by
    obtain ⟨p, hp⟩ := zip_mem_of hlen x m
    obtain ⟨t, e, _⟩ := hx _ hp
    exact ⟨t, e⟩
  have hil : its.length = ps.length := by rw [← rv.length]; exact hlen
  have ht : ∀ z ∈ its.zip ps, ∃ (a : Addr) (o : Obj) (t1 t2 : Tok) (n : Nat), z.1 = .ref a ∧ s.heap.get? a = some o ∧ o.cls = .type "tuple" ∧ o.data = .seq #[.str z.2.1 t1, .str z.2.2 t2] n := fun z hz' => by
    have hm : (backV z.1, z.2) ∈ xs.zip ps := by
      rw [e1, List.zip_map_left]
      exact List.mem_map.mpr ⟨z, hz', rfl⟩
    obtain ⟨t, e, hT⟩ := hx _ hm
    obtain ⟨t', et⟩ := e2 z.1 (List.of_mem_zip hz').1
    rw [et] at e
    have e : t' = t := by
      have : V.ref t' = V.ref t := e
      cases this; rfl
    subst e
    obtain ⟨its2, r2, ⟨o, ho, hc, n, hd⟩, _⟩ := I.tuple hT
    obtain ⟨u1, u2, rfl, ri, rj⟩ := vals2 r2
    obtain ⟨t1, rfl⟩ := ri
    obtain ⟨t2, rfl⟩ := rj
    exact ⟨t', o, t1, t2, n, et, ho, hc, hd⟩
  have hkz : ∀ z ∈ its.zip ps, G.tupKeyC s.heap (fun _ => true) z.1 = some (kp z.2) := fun z hz' => by
    obtain ⟨a, o, t1, t2, n, e, ho, hc, hd⟩ := ht z hz'
    rw [e]
    exact key_of ho hc hd
  obtain ⟨kv, hkv⟩ : ∃ kv : Value → Str × Str, kv = fun v => decK (G.tupKeyC s.heap (fun _ => true) v) := ⟨_, rfl⟩
  have hps : ps = its.map kv := zip_map_eq kv hil fun z hz' => by
    subst hkv
    show decK (G.tupKeyC s.heap (fun _ => true) z.1) = z.2
    rw [hkz z hz', decK_kp]
  have hkey : ∀ v ∈ its, G.tupKeyC s.heap (fun _ => true) v = some (kp (kv v)) := fun v hv => by
    obtain ⟨p, hp⟩ := zip_mem_of hil v hv
    have := hkz _ hp
    subst hkv
    show G.tupKeyC s.heap (fun _ => true) v = some (kp (decK (G.tupKeyC s.heap (fun _ => true) v)))
    rw [show G.tupKeyC s.heap (fun _ => true) v = some (kp p) from this, decK_kp]
  obtain ⟨fs, hfs⟩ := tups_of (h := s.heap) (vs := its) fun v hv => by
    obtain ⟨p, hp⟩ := zip_mem_of hil v hv
    obtain ⟨a, o, t1, t2, n, e, ho, hc, hd⟩ := ht _ hp
    exact ⟨a, o, _, _, t1, t2, n, e, ho, hc, hd⟩
  refine G.sorted_tups hl.isList hfs (fun v hv => ⟨_, hkey v hv⟩) (by rw [← rv.length]; exact hz) fun st' p1 p2 _ => ?_
  obtain ⟨arr, ha⟩ : ∃ arr, arrOf st' = arr := ⟨_, rfl⟩
  rw [ha] at p1 p2 ⊢
  have hself : ∀ z ∈ arr.toList, z.1 = z.2 ∧ z.2 ∈ its := fun z hz' => by
    have : z ∈ (pairsOf its).toList := p1.toList.mem_iff.mp hz'
    rw [pairsOf_toList] at this
    obtain ⟨e, hm⟩ := mem_zip_self this
    exact ⟨e, e ▸ hm⟩
  have hperm : (arr.map (·.2)).toList.Perm its := by
    have h1 := p1.toList.map (fun z : Keyed => z.2)
    rw [pairsOf_toList] at h1
    have h2 : (its.zip its).map (fun z : Keyed => z.2) = its := List.map_snd_zip (Nat.le_refl _)
    have h3 : (arr.map (·.2)).toList = arr.toList.map (fun z : Keyed => z.2) := by simp
    rw [h3]
    rw [h2] at h1
    exact h1
  have h3 : ∀ u ∈ (arr.map (·.2)).toList, ∃ a, u = Value.ref a := fun u hu => e2 u (hperm.mem_iff.mp hu)
  have hz2 : ∀ l : List Value, (l.map backV).zip (l.map kv) = l.map fun u => (backV u, kv u) := fun l => by
    induction l with
    | nil => rfl
    | cons u l ih => simp only [List.map_cons, List.zip_cons_cons, ih]
  obtain ⟨n, hn⟩ := sortedAll_at s.heap its (arr.map (·.2))
  refine ⟨.ref (s.heap.objs.size + 1), upd H (s.heap.objs.size + 1) (.lst ((arr.map (·.2)).toList.map backV)), I.laid (t' := s.toks) (fun _ _ => sortedAll_old) (Nat.le_succ _) ⟨?_, (arr.map (·.2)).toList, n, vals_back h3, by rw [Array.toArray_toList]; exact hn⟩, rfl, q _ ((arr.map (·.2)).toList.map kv) _ ?_ (by rw [List.length_map, List.length_map]) ?_ (I.hok.fresh (Nat.le_succ _))⟩
  · rw [List.length_map, hperm.length_eq, ← rv.length]; exact hz
  · rw [e1, hps, hz2, hz2]
    exact hperm.map _
  · have hsz : (pairsOf its).size = arr.size := by
      have := p1.toList.length_eq
      simp only [Array.length_toList] at this
      exact this.symm
    unfold Srd
    rw [List.pairwise_iff_getElem]
    intro i j hi hj hij
    simp only [List.length_map, Array.length_toList, Array.size_map] at hi hj
    have kk : ∀ (i : Nat) (hi : i < arr.size), KK (G.tupKindC s.heap fun _ => true) arr i = kp (kv arr[i].2) := fun i hi => by
      have hm : arr[i] ∈ arr.toList := by simp
      obtain ⟨z1, z2⟩ := hself _ hm
      unfold KK
      rw [Array.getElem?_eq_getElem hi]
      simp only
      show (G.tupKeyC s.heap (fun _ => true) arr[i].1).getD [] = _
      rw [z1, hkey _ z2]
      rfl
    have := p2 i j (Nat.le_of_lt hij) (by rw [hsz]; exact hj)
    rw [kk i hi, kk j hj] at this
    simp only [List.getElem_map, Array.getElem_toList, Array.getElem_map]
    exact this
theorem dpa_zip {K : PySem.W.Frag} {F : Hp} : ∀ {vs : List V} {ps : List (Str × Str)}, DpAll K F vs (ps.map p2D) → vs.length = ps.length ∧ ∀ z ∈ vs.zip ps, Dp K F z.1 (p2D z.2)
  | _, [], .nil => ⟨rfl, fun z hz => by simp at hz⟩
  | _, p :: ps, .cons h hs => by
    obtain ⟨h1, h2⟩ := dpa_zip hs
    refine ⟨by simp [h1], fun z hz => ?_⟩
    rcases List.mem_cons.mp hz with rfl | hz
    · exact h
    · exact h2 z hz
theorem zip_dpa {K : PySem.W.Frag} {F : Hp} : ∀ {vs : List V} {ps : List (Str × Str)}, vs.length = ps.length → (∀ z ∈ vs.zip ps, Dp K F z.1 (p2D z.2)) → DpAll K F vs (ps.map p2D)
  | [], [], _, _ => .nil
  | [], _ :: _, hl, _ => by simp at hl
  | _ :: _, [], hl, _ => by simp at hl
  | v :: vs, p :: ps, hl, h => .cons (h (v, p) List.mem_cons_self) (zip_dpa (by simpa using hl) fun z hz => h z (List.mem_cons_of_mem _ hz))
theorem dn_sorted (hm : X.mg "sorted" = none) (h : DR X e f) (hg : Gl X "sorted" := by rfl) (hs : starEach [e] X.env = (false, eval e X.env) :: starEach [] X.env := by rfl) : DN X (.Call (.Name "sorted" p) [e] [] pos) (srtA f) :=
  pe_imp (pe_callB cr_sort2 hg hm (by decide +kernel) (pa_cons h pa_nil hs) (by decide) (by decide) hs rfl) fun σ H Q ⟨B, F0, F, e, xs, ok, fe, q⟩ => by
  obtain ⟨d, hd, fe⟩ := bind1 fe
  refine ⟨B, F0, F, e, d, ok, hd, fun v F' H' g dp => ?_⟩
  unfold srtD at fe
  split at fe
  · obtain ⟨ps, hps, fe⟩ := bind1 fe
    split at fe
    · cases fe
      obtain ⟨a, vs, rfl, h1, h2⟩ := dp.lst g.fh
      rw [asP2_of hps] at h2
      obtain ⟨hl, hz⟩ := dpa_zip h2
      refine ⟨a, vs, ps, rfl, h1, hl, fun z hz' => ?_, fun ys qs l hp hlq hsr hl' => ?_⟩
      · obtain ⟨t, us, e, s1, s2⟩ := dp_tup (hz z hz')
        cases s2 with
        | cons q1 s2 =>
          cases s2 with
          | cons q2 s2 =>
            cases s2
            rw [dp_str q1, dp_str q2] at s1
            exact ⟨t, e, ex_t g.fh s1⟩
      · have hpq : qs.Perm ps := by
          have := hp.map Prod.snd
          rwa [List.map_snd_zip (by omega), List.map_snd_zip (by omega)] at this
        have hq : qs = srtP ps := srd_uniq (hpq.trans (srtP_perm ps).symm) hsr (srtP_srd ps)
        have hd2 : DpAll X.K F' ys (qs.map p2D) := zip_dpa hlq fun z hz' => hz z (hp.mem_iff.mp hz')
        rw [hq] at hd2
        exact q l ys F' _ (g.trans (Gr.loose g.fh hl')) (g.fb hl') (fresh_back g.fh hl') upd_same hd2
    · cases fe
  · cases fe
/-! ### list + list, a list of one's own -/
def catD : D → D → Option (List D)
  | .list a, .list b => if sml (a.length + b.length) = true then some (a ++ b) else none
  | _, _ => none
def catA (f g : FE) : FA := fun e => (f e).bind fun x => (g e).bind fun y => catD x y
@[simp] theorem e_catA {f g : FE} {e : DEnv} : catA f g e = (f e).bind fun x => (g e).bind fun y => catD x y := (rfl)
theorem catD_ok {xs ys : List D} (h : xs.length + ys.length ≤ 100000) : catD (.list xs) (.list ys) = some (xs ++ ys) := if_pos (sml_of h)
theorem dn_cat {a b : Expr} {g : FE} (ha : DR X a f) (hb : DR X b g) : DN X (.BinOp a .Add b pos) (catA f g) := pe_imp (pe_op op_catL ha hb) fun σ H Q ⟨B, F0, F, e, xs, ok, fe, q⟩ => by
  obtain ⟨x, y, hx, hy, fe⟩ := bind2 fe
  refine ⟨B, F0, F, e, x, ok, hx, fun v F1 H1 g1 r1 => ⟨B, F0, F1, e, y, ok.grow g1, hy, fun u F2 H2 g2 r2 => ?_⟩⟩
  unfold catD at fe
  split at fe
  · split at fe
    · rename_i hz
      cases fe
      obtain ⟨p, vs, rfl, s1, d1⟩ := (r1.grow g2).lst g2.fh
      obtain ⟨p2, us, rfl, s2, d2⟩ := r2.lst g2.fh
      have l1 := dpa_len d1
      have l2 := dpa_len d2
      have hbl := big_line
      have hz := sml_le hz
      exact ⟨p, p2, vs, us, rfl, rfl, s1, s2, by omega, fun l hl => q l _ F2 _ ((g1.trans g2).trans (Gr.loose g2.fh hl)) ((g1.trans g2).fb hl) (fresh_back g2.fh hl) upd_same (dpa_append d1 d2)⟩
    · cases fe
  · cases fe
end
end DL

/-! the set of many texts -/
namespace TX
open PySem PySem.Spec PyProof.Rows
/-- the texts met so far, each once -/
def addT (σ : List Str) (x : Str) : List Str := if σ.any (· == x) = true then σ else σ ++ [x]
def metT (xs : List Str) : List Str := xs.foldl addT []
theorem metT_snoc (xs : List Str) (x : Str) : metT (xs ++ [x]) = addT (metT xs) x := by unfold metT; rw [List.foldl_append]; rfl
theorem addT_len (σ : List Str) (x : Str) : (addT σ x).length = if σ.any (· == x) = true then σ.length else σ.length + 1 := by
  unfold addT
  split
  · rfl
  · rw [List.length_append]; rfl
theorem addT_any (σ : List Str) (x k : Str) : (addT σ x).any (· == k) = (σ.any (· == k) || decide (k = x)) := by
  unfold addT
  by_cases h : σ.any (· == x) = true
  · rw [if_pos h]
    by_cases e : k = x
    · rw [e, h, Bool.true_or]
    · rw [decide_eq_false e, Bool.or_false]
  · rw [if_neg h, List.any_append]
    congr 1
    show ((x == k) || false) = decide (k = x)
    rw [Bool.or_false]
    by_cases e : k = x
    · rw [decide_eq_true e, e]; exact beq_self_eq_true x
    · rw [decide_eq_false e]; exact beq_eq_false_iff_ne.mpr fun q => e q.symm
theorem metT_le : ∀ (n : Nat) (xs : List Str), (metT (xs.take n)).length ≤ n
  | 0, xs => by rw [List.take_zero]; exact Nat.le_refl _
  | n + 1, xs => by
    have ih := metT_le n xs
    rcases Nat.lt_or_ge n xs.length with h | h
    · rw [List.take_succ_eq_append_getElem h, metT_snoc, addT_len]
      split <;> omega
    · rw [List.take_of_length_le (by omega)]
      rw [List.take_of_length_le h] at ih
      omega
section
variable {prog : Program} {w : World} {A : Around} {R : Result → Shared → Prop} {I : Addr} {fp wr : List Addr} {G : Array GenState → Array GenState → Prop} {n : Nat} {P : Nat → Value → Prop} {St : Nat → Shared → Prop}
/-- a set takes texts one by one -/
theorem take_texts (W : WalksS prog w A.in1 I fp wr G n P St) (S : Addr) (hSf : S ∉ fp) (xs : List Str) (hsz : xs.length = n) (hb : n + 1 < scanBound)
    (hval : ∀ i v, P i v → ∃ t, v = .str (xs.getD i Str.empty) t) :
    ∀ (k i : Nat) (s : Shared), n - i = k → i ≤ n → St i s →
      s.heap.SetOf (PySem.strKind prog w) S (fun q => (metT (xs.take i)).any (· == q)) (metT (xs.take i)).length →
      (∀ s', Moved (S :: wr) G s s' → s'.heap.SetOf (PySem.strKind prog w) S (fun q => (metT xs).any (· == q)) (metT xs).length → R (.ok (.ret .none)) s') →
      codeAny (model prog w) A (.builtin "set.update.loop" ⟨[.ref S, .ref I], []⟩) R s := by
  have notW : S ∉ wr := fun q => hSf (W.sub _ q)
  have keeps : ∀ {s s' : Shared} {T : Str → Bool} {m : Nat}, Moved wr G s s' → s.heap.SetOf (PySem.strKind prog w) S T m → s'.heap.SetOf (PySem.strKind prog w) S T m := fun {s s' T m} mv q => by
    obtain ⟨o, es, ep, tb, ho, q⟩ := q
    exact ⟨o, es, ep, tb, mv.heap S _ notW ho, q⟩
  intro k
  induction k with
  | zero =>
    intro i s hk hi hst hS hR
    have e : i = n := by omega
    subst e
    rw [List.take_of_length_le (by omega)] at hS
    refine codeAny_builtin PyProof.Rows.F.entry_set_update_loop ?_
    rw [Around.under_plainId PyProof.Rows.F.plain_set_update_loop _]
    show wpAny _ A.in1 (pyNext (.ref I) >>= _) _ _ s
    refine wpAny_bind (W.done s _ _ hst fun s' mv => ?_)
    show wpAny _ A.in1 (ret Value.none) _ _ s'
    exact wpAny_pure (hR s' (mv.mono fun b q => List.mem_cons_of_mem _ q) (keeps mv hS))
  | succ k ih =>
    intro i s hk hi hst hS hR
    have lt : i < n := by omega
    refine codeAny_builtin PyProof.Rows.F.entry_set_update_loop ?_
    rw [Around.under_plainId PyProof.Rows.F.plain_set_update_loop _]
    show wpAny _ A.in1 (pyNext (.ref I) >>= _) _ _ s
    refine wpAny_bind (W.item i s _ _ lt hst fun v s' hP hst' mv => ?_)
    obtain ⟨t, rfl⟩ := hval i v hP
    have hS' := keeps mv hS
    show wpAny _ A.in1 (holding [Value.str (xs.getD i Str.empty) t] (setAdd S (.str (xs.getD i Str.empty) t)) >>= _) _ _ s'
    refine wpAny_bind (wpAny_holding ?_)
    unfold setAdd
    refine wpAny_holding ?_
    refine wpAny_bind ((PySem.strKind prog w).pyHash (k := xs.getD i Str.empty) (strKind_is _ _ _ _) ?_)
    have room := metT_le i xs
    refine wpAny_setAddHashed_of (knd := PySem.strKind prog w) (s := { s' with toks := s'.toks + 1 }) (strKind_is _ _ _ _) rfl hS' (by omega) fun h' sb hS2 => ?_
    have e1 : xs.take (i + 1) = xs.take i ++ [xs.getD i Str.empty] := by
      rw [List.take_succ_eq_append_getElem (by omega), List.getD_eq_getElem?_getD, List.getElem?_eq_getElem (by omega)]
      rfl
    have hSi : h'.SetOf (PySem.strKind prog w) S (fun q => (metT (xs.take (i + 1))).any (· == q)) (metT (xs.take (i + 1))).length :=
      SetOf_congr hS2 (fun q => by rw [e1, metT_snoc, addT_any]) (by rw [e1, metT_snoc, addT_len])
    refine wpAny_pure ⟨plainId_quiet PyProof.Rows.F.plain_set_update_loop _, ih (i + 1) _ (by omega) lt (W.frame _ s' _ _ hst' (Nat.le_succ _) fun b hb' o e => ?_) hSi fun s'' mv2 hS'' => ?_⟩
    · rw [sb.2 b (fun q : b = S => hSf (q ▸ hb'))]; exact e
    · refine hR s'' (Moved.trans W.gtrans ((mv.mono fun b q => List.mem_cons_of_mem _ q).then_heap (Nat.le_succ _) fun b o hb' e => ?_) mv2) hS''
      rw [sb.2 b (fun q : b = S => hb' (q ▸ List.mem_cons_self))]; exact e
end
section
variable {prog : Program} {w : World} {A : Around} {E : Value → Shared → Prop} {s : Shared}
abbrev fresh (led : Bool) : Obj := { cls := .type "set", dict := none, data := .set #[] 0 (.fresh 0 0 led) }
/-- what a call of set leaves: a set of the texts, and all that was -/
def Left (prog : Program) (w : World) (s : Shared) (xs : List Str) (s2 : Shared) : Prop := ∃ h' tk, s2 = { s with heap := h', toks := tk } ∧
  h'.SetOf (PySem.strKind prog w) s.heap.objs.size (fun q => (metT xs).any (· == q)) (metT xs).length ∧ ∀ b o, b < s.heap.objs.size → s.heap.get? b = some o → h'.get? b = some o
theorem left_of {led : Bool} {it : Obj} {xs : List Str} {s' : Shared} {G : Array GenState → Array GenState → Prop} (hG : ∀ {a b}, G a b → b = a)
    (mv : Moved [s.heap.objs.size, (s.heap.push (fresh led)).objs.size] G { s with heap := (s.heap.push (fresh led)).push it } s')
    (hS : s'.heap.SetOf (PySem.strKind prog w) s.heap.objs.size (fun q => (metT xs).any (· == q)) (metT xs).length) : Left prog w s xs s' := by
  obtain ⟨h', g', d', tk', os'⟩ := s'
  have eg : g' = s.gens := hG mv.gens
  have ed : d' = s.drawn := mv.drawn
  have eo : os' = s.os := mv.os
  subst eg; subst ed; subst eo
  refine ⟨h', tk', rfl, hS, fun b o hb e => mv.heap b o ?_ (Heap.get?_push_of_some _ (Heap.get?_push_of_some _ e))⟩
  rw [Heap.size_push]
  simp only [List.mem_cons, List.not_mem_nil, or_false, not_or]
  exact ⟨Nat.ne_of_lt hb, Nat.ne_of_lt (Nat.lt_succ_of_lt hb)⟩
theorem set_texts {l : Addr} {items : Array Value} {xs : List Str} {Q : Value → Shared → Prop} (hh : A.handled = none) (hl : s.heap.IsList l items ∨ s.heap.IsTuple l items) (hi : StrsAre items.toList xs) (hb : xs.length + 1 < scanBound)
    (h : ∀ s2, Left prog w s xs s2 → Q (.ref s.heap.objs.size) s2) : wpAny (model prog w) A (call (.type "set") [.ref l]) Q E s := by
  obtain ⟨c, tl, hmro⟩ := PySem.F.called_set.mro
  have hmade := PySem.F.called_set.made
  have hsub := PySem.F.called_set.sub
  refine wpAny_call (codeAny_of_tree ?_)
  show wpAny _ _ (callAny (.type "set") _) _ _ _
  refine wpAny_pure ⟨Code.quiet_builtin _ (by decide +kernel), codeAny_builtin PySem.F.entry_type_call ?_⟩
  rw [Around.under_plain (weight_type_call_type "set" [.ref l] []) rfl]
  have h1 := PySem.F.called_set.notType
  have h2 := PySem.F.called_set.canCreate
  have hct := PySem.F.typeCall_set_1 (.ref l)
  repeat (any_goals (first | assumption | wp_step))
  refine codeAny_mono (code_set_new_1 (.ref l) (E := E) (Q₁ := fun obj s₁ => ∃ led : Bool, obj = .ref s.heap.objs.size ∧ s₁ = { s with heap := s.heap.push (fresh led) }) fun led => ⟨led, rfl, rfl⟩) fun r s₁ hr => ?_
  cases r with
  | error e => exact hr
  | ok fl =>
    cases fl with
    | ret obj =>
      obtain ⟨led, rfl, rfl⟩ := hr
      have hS : (s.heap.push (fresh led)).get? s.heap.objs.size = some (fresh led) := Heap.get?_push_size _ rfl
      have hT : Shared.TypeIs { s with heap := s.heap.push (fresh led) } (.ref s.heap.objs.size) "set" := ⟨_, hS, rfl⟩
      have hli := PySem.F.called_set.init.lookup
      have hbi := PySem.F.called_set.init.bind (.ref s.heap.objs.size)
      repeat (any_goals (first | assumption | wp_step))
      have hsz : xs.length = items.size := by rw [← StrsAre.len_eq hi, Array.length_toList]
      have hval : ∀ (i : Nat) (v : Value), items[i]? = some v → ∃ t, v = .str (xs.getD i Str.empty) t := fun i v hv => SS.strs_at hi i v (by rw [Array.getElem?_toList]; exact hv)
      have hh3 : A.in1.in1.in1.handled = none := by simp [hh]
      have fr : ∀ it : Obj, ((s.heap.push (fresh led)).push it).SetOf (PySem.strKind prog w) s.heap.objs.size (fun q => (metT (xs.take 0)).any (· == q)) (metT (xs.take 0)).length := fun it =>
        SetOf_congr ((setObjOf_fresh (knd := PySem.strKind prog w) led).setOf (Heap.get?_push_of_some _ hS) (by unfold scanBound; omega)) (fun _ => rfl) rfl
      refine codeAny_mono (codeAny_call_builtin (R := wants (fun r s₂ => r = .none ∧ Left prog w s xs s₂) E) PySem.F.called_set.init.plain PySem.F.entry_set_init (check_set_init_1 hT ?_)) fun r₂ s₂ hr₂ => ?_
      · rcases hl with hl | hl
        · obtain ⟨⟨ocls, odict, odata, oslots⟩, hol, hcl, nl, hdl⟩ := hl
          simp only at hcl hdl
          subst hcl; subst hdl
          have hlS : l < s.heap.objs.size := Heap.lt_size hol
          have hol' : (s.heap.push (fresh led)).get? l = some { cls := .type "list", dict := odict, data := .seq items nl, slots := oslots } := Heap.get?_push_of_some _ hol
          have hsls := PySem.F.sub_list_set
          have hslf := PySem.F.sub_list_frozenset
          have hne : (Value.type "list" == Value.type "dict") = false := by decide
          have hl1 : (s.heap.push (fresh led)).IsList l items := ⟨_, hol', rfl, nl, rfl⟩
          have apart : l ≠ (s.heap.push (fresh led)).objs.size := by
            rw [Heap.size_push]; exact Nat.ne_of_lt (Nat.lt_succ_of_lt hlS)
          have outs : s.heap.objs.size ∉ [(s.heap.push (fresh led)).objs.size, l] := by
            rw [Heap.size_push]; simp only [List.mem_cons, List.not_mem_nil, or_false, not_or]
            exact ⟨Nat.ne_of_lt (Nat.lt_succ_self _), Nat.ne_of_gt hlS⟩
          unfold Builtin.«set.__init__» noKeywords Builtin.Frozenset.updateFrom
          generalize hPI : pyIter = PI
          wp_walk
          subst hPI
          refine wpAny_pyIter_list hl1 (wpAny_bind (wpAny_runValue ?_))
          refine take_texts ((Walks.list hh3 _ l apart items).toS) s.heap.objs.size outs xs hsz (by omega) hval (items.size - 0) 0 _ (by omega) (Nat.zero_le _) ⟨⟨_, Heap.get?_push_size _ rfl, rfl, rfl⟩, (hl1.push _)⟩ (fr _) fun s' mv hS' => ?_
          show wpAny _ _ _ _ _ _
          refine wpAny_pure ?_
          show wpAny _ _ (ret Value.none) _ _ _
          exact wpAny_pure ⟨rfl, left_of (fun q => q) mv hS'⟩
        · obtain ⟨⟨ocls, odict, odata, oslots⟩, hol, hcl, nl, hdl⟩ := hl
          simp only at hcl hdl
          subst hcl; subst hdl
          have hlS : l < s.heap.objs.size := Heap.lt_size hol
          have hol' : (s.heap.push (fresh led)).get? l = some { cls := .type "tuple", dict := odict, data := .seq items nl, slots := oslots } := Heap.get?_push_of_some _ hol
          have hsls := PySem.F.sub_tuple_set
          have hslf := PySem.F.sub_tuple_frozenset
          have hne : (Value.type "tuple" == Value.type "dict") = false := by decide
          have hl1 : (s.heap.push (fresh led)).IsTuple l items := ⟨_, hol', rfl, nl, rfl⟩
          have apart : l ≠ (s.heap.push (fresh led)).objs.size := by
            rw [Heap.size_push]; exact Nat.ne_of_lt (Nat.lt_succ_of_lt hlS)
          have outs : s.heap.objs.size ∉ [(s.heap.push (fresh led)).objs.size, l] := by
            rw [Heap.size_push]; simp only [List.mem_cons, List.not_mem_nil, or_false, not_or]
            exact ⟨Nat.ne_of_lt (Nat.lt_succ_self _), Nat.ne_of_gt hlS⟩
          unfold Builtin.«set.__init__» noKeywords Builtin.Frozenset.updateFrom
          generalize hPI : pyIter = PI
          wp_walk
          subst hPI
          refine wpAny_pyIter_tuple hl1 (wpAny_bind (wpAny_runValue ?_))
          refine take_texts ((Walks.tuple hh3 _ l apart items).toS) s.heap.objs.size outs xs hsz (by omega) hval (items.size - 0) 0 _ (by omega) (Nat.zero_le _) ⟨⟨_, Heap.get?_push_size _ rfl, rfl, rfl⟩, (hl1.push _)⟩ (fr _) fun s' mv hS' => ?_
          show wpAny _ _ _ _ _ _
          refine wpAny_pure ?_
          show wpAny _ _ (ret Value.none) _ _ _
          exact wpAny_pure ⟨rfl, left_of (fun q => q) mv hS'⟩
      · cases r₂ with
        | error e => exact hr₂
        | ok fl₂ =>
          cases fl₂ with
          | ret r =>
            obtain ⟨rfl, hr₂⟩ := hr₂
            obtain ⟨h', tk, rfl, hS', hk'⟩ := hr₂
            repeat (any_goals (first | assumption | wp_step))
            exact h _ ⟨h', tk, rfl, hS', hk'⟩
          | _ => exact hr₂.elim
    | _ => exact hr.elim
end
end TX

/-! len(set(texts)) -/
namespace L2
open PySem PySem.Spec PyProof.Rows
section
variable {X : Cx}
def tLenS (K : PySem.W.Frag) (ta : TE) : TE := fun σ H Q => ta σ H fun x H1 => ∃ l, ∃ xs : List Str, x = .ref l ∧ (SqL K H1 l (xs.map V.str) ∨ SqT K H1 l (xs.map V.str)) ∧ xs.length + 1 < scanBound ∧ Q (.int (TX.metT xs).length) H1
theorem pe_lenS {a : Expr} {ta : TE} {p p2 q pos : Pos} (hc : X.calm = true) (hg : Gl X "len") (hm : X.mg "len" = none) (hg2 : Gl X "set") (hm2 : X.mg "set" = none) (ha : PE X a ta)
    (na : starEach [a] X.env = (false, eval a X.env) :: starEach [] X.env := by rfl) : PE X (.Call (.Name "len" p) [.Call (.Name "set" p2) [a] [] q] [] pos) (tLenS X.K ta) := by
  refine ⟨fun pins s σ H Q I h => ?_⟩
  refine Call_ (ld_blt I hg hm boot_len ?_)
  refine callWith_builtin1 (args_cons ?_ rfl) rfl rfl
  refine Call_ (ld_blt I hg2 hm2 boot_set ?_)
  refine callWith_type1 (args_cons (thn (ha.run pins s σ H _ I h) fun v s1 ⟨x, H1, I1, r1, q1⟩ => args_nil ?_) na) na rfl
  obtain ⟨l, xs, rfl, hq, h1, q1⟩ := q1
  cases r1
  have fin : ∀ s2, TX.Left X.prog X.w s1 xs s2 → wpAny (model X.prog X.w) X.A (spliced (backTo pos (starEach [] X.env))) (fun vs s₂ => wpAny (model X.prog X.w) X.A (call (.builtin "len") (Value.ref s1.heap.objs.size :: vs)) (EP X pins σ Q) X.xe s₂) X.xe s2 := fun s2 hs2 => by
    obtain ⟨h', tk, rfl, hS, hk⟩ := hs2
    have le := TX.metT_le xs.length xs
    rw [List.take_of_length_le (Nat.le_refl _)] at le
    obtain ⟨o, es, ep, t, ho, hex, hd, _, _, hbd, hf, hn⟩ := hS
    have I2 : Inv X pins σ H1 { s1 with heap := h', toks := tk } := I1.kept fun b o e => hk b o (Heap.lt_size e) e
    refine args_nil (call_len_set ho hex hd hf (by unfold scanBound at hbd; omega) ⟨.int (TX.metT xs).length, H1, I2.tok _, ⟨_, by rw [hn]⟩, q1⟩)
  rcases hq with hq | hq
  · obtain ⟨its, r, pl, hz⟩ := I1.list hq
    exact TX.set_texts (I1.ok.hd hc) (.inl pl.isList) (by simpa using strsAre_of r) h1 fin
  · obtain ⟨its, r, pl, hz⟩ := I1.tuple hq
    exact TX.set_texts (I1.ok.hd hc) (.inr pl) (by simpa using strsAre_of r) h1 fin
end
end L2
namespace DL
open PySem PySem.Spec PyProof.Rows L2 Evl
def stOk (ys : List Str) : Bool := Nat.ble ys.length 4000
def lensetD (d : D) : Option D := match d with
  | .list xs => (asStrs xs).bind fun ys => if stOk ys = true then some (.int (TX.metT ys).length) else none
  | .tuple xs => (asStrs xs).bind fun ys => if stOk ys = true then some (.int (TX.metT ys).length) else none
  | _ => none
section
variable {X : Cx} {a : Expr} {f : FE} {p p2 q pos : Pos}
theorem de_lenset (hc : X.calm = true) (hm : X.mg "len" = none) (hm2 : X.mg "set" = none) (h : DR X a f) (hg : Gl X "len" := by rfl) (hg2 : Gl X "set" := by rfl) (na : starEach [a] X.env = (false, eval a X.env) :: starEach [] X.env := by rfl) :
    DE X (.Call (.Name "len" p) [.Call (.Name "set" p2) [a] [] q] [] pos) (c1 lensetD f) :=
  pe_imp (pe_lenS hc hg hm hg2 hm2 h na) fun σ H Q ⟨B, F0, F, e, d, ok, fe, q⟩ => by
  obtain ⟨x, hx, fe⟩ := bind1 fe
  refine ⟨B, F0, F, e, x, ok, hx, fun v F1 H1 g1 r1 => ?_⟩
  unfold lensetD at fe
  split at fe
  · obtain ⟨ys, hys, fe⟩ := bind1 fe
    split at fe
    · rename_i hz
      cases fe
      obtain ⟨l, vs, rfl, h1, h2⟩ := r1.lst g1.fh
      rw [asStrs_of hys] at h2
      have := dpa_map_str h2
      subst this
      exact ⟨l, ys, rfl, .inl h1, by have := Nat.le_of_ble_eq_true hz; unfold scanBound; omega, q _ F1 H1 g1 (.int _)⟩
    · cases fe
  · obtain ⟨ys, hys, fe⟩ := bind1 fe
    split at fe
    · rename_i hz
      cases fe
      obtain ⟨l, vs, rfl, h1, h2⟩ := r1.tup g1.fh
      rw [asStrs_of hys] at h2
      have := dpa_map_str h2
      subst this
      exact ⟨l, ys, rfl, .inr h1, by have := Nat.le_of_ble_eq_true hz; unfold scanBound; omega, q _ F1 H1 g1 (.int _)⟩
    · cases fe
  · cases fe
theorem e_lensetT {ys : List Str} (h : ys.length ≤ 4000) : lensetD (.tuple (ys.map PyData.str)) = some (.int (TX.metT ys).length) := by
  unfold lensetD
  simp only
  rw [asStrs_map]
  exact if_pos (Nat.ble_eq_true_of_le h)
theorem e_lensetL {ys : List Str} (h : ys.length ≤ 4000) : lensetD (.list (ys.map PyData.str)) = some (.int (TX.metT ys).length) := by
  unfold lensetD
  simp only
  rw [asStrs_map]
  exact if_pos (Nat.ble_eq_true_of_le h)
end
end DL

/-! DLay21: functions as values: a lambda with one parameter that captures one number -/
namespace DL
open PySem PySem.Spec PyProof.Rows L2 Evl
/-! ### objects known, and not -/
def delH (H : Hp) (a : Addr) : Hp := fun b => if b = a then none else H b
theorem delH_same {H : Hp} {a : Addr} : delH H a a = none := if_pos rfl
theorem delH_ne {H : Hp} {a b : Addr} (h : b ≠ a) : delH H a b = H b := if_neg h
section
variable {P : Program} {w : World} {H H2 F F2 : Hp} {h h2 : Heap} {a : Addr} {o : Obj} {fs : List Addr}
theorem hok_del {φ : Heap → Prop} (k : HOk P w H h) (ha : H a = some (.ext φ)) : HOk P w (delH H a) h := fun b u e => by
  have nb : b ≠ a := fun z => by rw [z, delH_same] at e; cases e
  rw [delH_ne nb] at e
  exact (k b u e).stay (fun d v _ q => q) (fun d q => by rw [delH_ne (fun z => by rw [z, ha] at q; cases q)]; exact q) (fun d xs q => by rw [delH_ne (fun z => by rw [z, ha] at q; cases q)]; exact q)
theorem pin_ok (e : h.get? a = some o) : ObjOk P w H h a (PinO a o) := ⟨e, ⟨o, e⟩, fun h1 h2 q k => k _ q⟩
theorem hok_add (k : HOk P w H h) (n : H a = none) (e : h.get? a = some o) : HOk P w (upd H a (PinO a o)) h := fun b u z => by
  by_cases q : b = a
  · subst q; rw [upd_same] at z; cases z; exact pin_ok e
  · rw [upd_ne q] at z
    exact (k b u z).stay (fun d v _ q => q) (fun d q' => by rw [upd_ne (ne_of_none q' n)]; exact q') (fun d xs q' => by rw [upd_ne (ne_of_none q' n)]; exact q')
theorem pin_at (k : HOk P w H h) (e : H a = some (PinO a o)) : h.get? a = some o := (k a _ e).1
theorem code_ne {c : Addr} {q : Str} (k : HOk P w H h) (e : H a = some (PinO a o)) (hd : ∀ vs, o.data ≠ .fields vs) (ec : H c = some (LamX.CodeO c q)) : c ≠ a := fun z => by
  subst z
  obtain ⟨⟨oc, vs, t, h1, h2, _⟩, _, _⟩ := k c _ ec
  have h3 := pin_at k e
  rw [h1] at h3
  cases h3
  exact hd vs h2
theorem tabS_del {T : Addr} {q : Str} (k : HOk P w H h) (e : H a = some (PinO a o)) (hd : ∀ vs, o.data ≠ .fields vs) (t : LamX.TabS H T q) : LamX.TabS (delH H a) T q := by
  obtain ⟨ps, h1, h2, h3⟩ := t
  refine ⟨ps, by rw [delH_ne (fun z => by rw [z, e] at h1; cases h1)]; exact h1, h2, fun pos cv hc => ?_⟩
  obtain ⟨c, e1, e2⟩ := h3 pos cv hc
  exact ⟨c, e1, by rw [delH_ne (code_ne k e hd e2)]; exact e2⟩
theorem un_del (u : Un fs [] (upd H a (PinO a o)) H2 h h2) (n : H a = none) (e : h.get? a = some o) (e2 : H2 a = some (PinO a o)) (k2 : HOk P w H2 h2) : Un fs [] H (delH H2 a) h h2 where
  keep := fun b ob q hb nf nx => by
    by_cases z : b = a
    · subst z; rw [e] at q; cases q; exact pin_at k2 e2
    · exact u.keep b ob q (by rw [upd_ne z]; exact hb) nf nx
  slot := fun b ob q hb nf nx => by
    by_cases z : b = a
    · subst z; rw [e] at q; cases q; exact ⟨o.slots, pin_at k2 e2⟩
    · exact u.slot b ob q (by rw [upd_ne z]; exact hb) nf nx
  free := fun b ob q hb nx => by
    by_cases z : b = a
    · subst z; exact delH_same
    · rw [delH_ne z]; exact u.free b ob q (by rw [upd_ne z]; exact hb) nx
  there := u.there
  tups := fun b xs q => by
    have z : b ≠ a := ne_of_none q n
    rw [delH_ne z]; exact u.tups b xs (by rw [upd_ne z]; exact q)
  frzs := fun b ob v q => by
    have z : b ≠ a := ne_of_none q n
    rw [delH_ne z]; exact u.frzs b ob v (by rw [upd_ne z]; exact q)
  tbls := fun b ps q => by
    have z : b ≠ a := ne_of_none q n
    rw [delH_ne z]; exact u.tbls b ps (by rw [upd_ne z]; exact q)
theorem un_add (u : Un fs [] (delH H a) H2 h h2) (e : H a = some (PinO a o)) (k : HOk P w H h) (nf : a ∉ fs) : (h2.get? a = some o ∧ H2 a = none) ∧ Un fs [] H (upd H2 a (PinO a o)) h h2 := by
  have q0 := pin_at k e
  have n2 : H2 a = none := u.free a o q0 delH_same (by simp)
  refine ⟨⟨u.keep a o q0 delH_same nf (by simp), n2⟩, ?_⟩
  exact {
    keep := fun b ob q hb nf nx => by
      have z : b ≠ a := fun z => by rw [z, e] at hb; cases hb
      exact u.keep b ob q (by rw [delH_ne z]; exact hb) nf nx
    slot := fun b ob q hb nf nx => by
      have z : b ≠ a := fun z => by rw [z, e] at hb; cases hb
      exact u.slot b ob q (by rw [delH_ne z]; exact hb) nf nx
    free := fun b ob q hb nx => by
      have z : b ≠ a := fun z => by rw [z, e] at hb; cases hb
      rw [upd_ne z]; exact u.free b ob q (by rw [delH_ne z]; exact hb) nx
    there := u.there
    tups := fun b xs q => by
      have z : b ≠ a := fun z => by rw [z, e] at q; cases q
      rw [upd_ne z]; exact u.tups b xs (by rw [delH_ne z]; exact q)
    frzs := fun b ob v q => by
      have z : b ≠ a := fun z => by rw [z, e] at q; cases q
      rw [upd_ne z]; exact u.frzs b ob v (by rw [delH_ne z]; exact q)
    tbls := fun b ps q => by
      have z : b ≠ a := fun z => by rw [z, e] at q; cases q
      rw [upd_ne z]; exact u.tbls b ps (by rw [delH_ne z]; exact q) }
theorem gr_del (g : Gr F (upd H a (PinO a o)) F2 H2) (n : H a = none) (x : Ex F H) (e2 : H2 a = some (PinO a o)) (k2 : HOk P w H2 h2) (hd : ∀ vs, o.data ≠ .fields vs) : Gr F H F2 (delH H2 a) where
  hx := ⟨fun b u e nt => by
      have z : b ≠ a := ne_of_none e n
      rw [delH_ne z]; exact g.hx.keep b u (by rw [upd_ne z]; exact e) nt,
    fun b e => by
      by_cases z : b = a
      · subst z; exact n
      · rw [delH_ne z] at e
        have := g.hx.dom b e
        rw [upd_ne z] at this
        exact this,
    fun T t => tabS_del k2 e2 hd (g.hx.tab T (t.ext (Ex.new n)))⟩
  ff := g.ff
  fh := fun b u e => by
    have z : b ≠ a := fun z => by
      have := g.nf a _ upd_same
      rw [z, this, fresh_back x n] at e
      cases e
    rw [delH_ne z]
    exact g.fh b u e
  nf := fun b u e => g.nf b u (by rw [upd_ne (ne_of_none e n)]; exact e)
  nt := g.nt
theorem gr_add (g : Gr F (delH H a) F2 H2) (e : H a = some (PinO a o)) (n2 : H2 a = none) (fa : F a = none) (k : HOk P w H h) (hd : ∀ vs, o.data ≠ .fields vs) : Gr F H F2 (upd H2 a (PinO a o)) where
  hx := ⟨fun b u q nt => by
      by_cases z : b = a
      · subst z; rw [e] at q; cases q; exact upd_same
      · rw [upd_ne z]; exact g.hx.keep b u (by rw [delH_ne z]; exact q) nt,
    fun b q => by
      have z : b ≠ a := fun z => by rw [z, upd_same] at q; cases q
      rw [upd_ne z] at q
      have := g.hx.dom b q
      rw [delH_ne z] at this
      exact this,
    fun T t => (g.hx.tab T (tabS_del k e hd t)).ext (Ex.new n2)⟩
  ff := g.ff
  fh := fun b u q => by
    have q2 := g.fh b u q
    rw [upd_ne (ne_of_none q2 n2)]
    exact q2
  nf := fun b u q => by
    by_cases z : b = a
    · subst z; rw [fa, fresh_back g.fh n2]
    · exact g.nf b u (by rw [delH_ne z]; exact q)
  nt := g.nt
end
/-! ### a lambda in a slot, called -/
open Classical in
noncomputable def fnE (i : Nat) (L : LamT) (fb f : FE) : FE := fun e => match e[i]? with
  | some (some (.fn L' n)) => (f e).bind fun d => if L' = L then fb [some (.sh d), some (.sh (.int n))] else none
  | _ => none
abbrev lamNF (L : LamT) (c c0 : Addr) : NdefX.NF := ⟨"<lambda>", L.q, L.params, [], L.scope, [(L.y, c0)], c⟩
abbrev lamX (X : Cx) (L : LamT) (p : Str) (c c0 f : Addr) (A : Around) (outer : List Env) (s : Shared) (H : Hp) : Cx := NdefX.ncx CX0 X.prog X.w X.K X.mg X.base [p, L.y] (lamNF L c c0) f A outer s H (fun _ _ _ => False)
section
variable {X : Cx} {x p : Str} {p1 pos : Pos} {e : Expr} {f fb : FE} {L : LamT} {k : Nat}
theorem de_callF (i : Nat) (S : NdefX.NScope [p, L.y] [p] [L.y] L.scope) (hb : ∀ (cl : List (Str × Addr)) (pm cv ctv u : Value), bindArgs (PySem.W.kla_fn "<lambda>" L.q L.params L.body L.scope cl pm cv ctv) ⟨[u], []⟩ = pure [(p, u)])
    (hr : Room (k + 1) X.A) (he : DE X e f)
    (hbody : ∀ (c c0 fa : Addr) (A : Around) (outer : List Env) (s : Shared) (H : Hp), Room k (A.deeper (NdefX.envF (lamNF L c c0) fa s.heap.objs.size)) → DE (lamX X L p c c0 fa A outer s H) L.body fb)
    (hN : X.N[i]? = some x := by rfl) (hv : Vis X.env.scope x := by first | exact Or.inl rfl | exact Or.inr (Or.inl rfl) | exact Or.inr (Or.inr rfl)) (hd : (x == ("__debug__" : Str)) = false := by decide) (hcd : (x == ("__classdict__" : Str)) = false := by decide)
    (hs : starEach [e] X.env = (false, eval e X.env) :: starEach [] X.env := by rfl) (hpl : (backTo pos (starEach [] X.env)).any (·.1) = false := by rfl) :
    DE X (.Call (.Name x p1) [e] [] pos) (fnE i L fb f) := by
  refine ⟨fun pins s σ H Q I ⟨B, F0, F, env, d, ok, fe, q⟩ => ?_⟩
  unfold fnE at fe
  split at fe
  · rename_i L' n hen
    obtain ⟨dd, hf, fe2⟩ := bind1 fe
    by_cases eL : L' = L
    · subst eL
      rw [if_pos rfl] at fe2
      obtain ⟨fa, hsl, la⟩ := ok.fn i L' n hen
      refine wpAny_Call_Name_kw (thn ((pe_var (pos := p1) hN hv hd hcd).run pins s σ H (fun v H1 => v = .ref fa ∧ H1 = H) I ⟨.ref fa, hsl, rfl, rfl⟩) fun u s1 ⟨v, H1, I1, r1, q1⟩ => ?_)
      obtain ⟨rfl, rfl⟩ := q1
      obtain rfl : u = Value.ref fa := r1
      have fnAt : ∀ {F : Hp} {H : Hp} {s : Shared}, Inv X pins σ H s → LamAt F H fa L' n → PySem.W.FnAt fa s.heap := fun {F H s} J la => by
        obtain ⟨c, c0, pm, ctv, oc, t, h1, _⟩ := la
        exact ⟨_, _, _, _, pin_at J.hok h1⟩
      refine PySem.W.callWith_F (first := []) (fnAt I1 la) (thn ((pa_cons he pa_nil hs).run pos pins s1 σ H1 (fun vs H2 => ∃ F1 v, vs = [v] ∧ Gr F H1 F1 H2 ∧ Dp X.K F1 v dd) I1 ⟨B, F0, F, env, dd, ok, hf, fun v F1 H2 g dp => ⟨F1, v, rfl, g, dp⟩⟩) fun us s2 ⟨vs, H2, I2, r, F1, v, ev, g1, dp⟩ => ⟨fnAt I2 (la.grow g1), ?_⟩) hs hpl
      subst ev
      show wpAny _ _ (call (.ref fa) us) _ _ _
      obtain ⟨c, c0, pm, ctv, oc, t, h1, h2, h3, h4, h5⟩ := la.grow g1
      have of := pin_at I2.hok h1
      have oc2 := pin_at I2.hok h3
      have hdc : ∀ vs, oc.data ≠ .fields vs := fun vs z => by rw [h4] at z; cases z
      have c0f : c0 ∉ frs X.stack := fun z => by
        have := I2.stkFree c0 z
        rw [h3] at this; cases this
      have e0 : Env0 X.prog X.w X.K X.mg X.base X.A X.stack s2 (delH H2 c0) := by
        obtain ⟨a1, a2, a3, a4, a5, a6, a7, a8⟩ := I2.env0
        refine ⟨a1, a2, fun b ob e => ⟨(a3 b ob e).1, ?_⟩, a4, a5, fun b hb => ?_, hok_del a7 h3, a8⟩
        · by_cases z : b = c0
          · subst z; exact delH_same
          · rw [delH_ne z]; exact (a3 b ob e).2
        · by_cases z : b = c0
          · subst z; exact delH_same
          · rw [delH_ne z]; exact a6 b hb
      have C : NdefX.CellsAt (lamNF L' c c0).cl [L'.y] [some (.int n)] s2.heap (delH H2 c0) := by
        have lk : ∀ y cc, ([(L'.y, c0)] : List (Str × Addr)).lookup y = some cc → y = L'.y ∧ cc = c0 := fun y cc z => by
          unfold List.lookup at z
          split at z
          · rename_i hy
            cases z
            exact ⟨by simpa using hy, rfl⟩
          · cases z
        refine ⟨rfl, fun y cc z => ?_, fun y y' cc z z' => by rw [(lk _ _ z).1, (lk _ _ z').1], fun j y z => ?_⟩
        · rw [(lk _ _ z).2]
          exact ⟨delH_same, _, oc, oc2, h4⟩
        · have : j = 0 ∧ y = L'.y := by
            cases j with
            | zero => exact ⟨rfl, by simpa using z.symm⟩
            | succ j => simp at z
          obtain ⟨rfl, rfl⟩ := this
          refine ⟨c0, by simp [List.lookup], fun v' ev => ?_⟩
          have : v' = .int n := by simpa using ev.symm
          subst this
          exact ⟨_, ⟨t, rfl⟩, oc, oc2, h4⟩
      have xF : Ex F1 (delH H2 c0) := fun b u e => by
        have z : b ≠ c0 := fun z => by rw [z, h5] at e; cases e
        rw [delH_ne z]
        exact g1.fh b u e
      have rc : codeAny (model X.prog X.w) X.A (.call (.ref fa) ⟨us, []⟩) (CR CX0 X.stack X.prog X.w H2 s2 Q (fun _ _ _ => False)) s2 := by
        obtain ⟨u, eu, ru⟩ := vals1 r
        subst eu
        refine PySem.W.kla_callFunE hr.depth of rfl S.co S.gen rfl (NdefX.codeO_at I2.hok h2) ?_
        rw [hb]
        refine wpAny_pure (wpAny_newFunctionEnv S.nocell (fun ⟨n', _⟩ hy => S.par n' (by
          have hy' : (n', _) ∈ [(p, u)] := hy
          rw [List.mem_singleton] at hy'
          cases hy'
          simp)) (fun h₁ hns hsb => ⟨I2.nolimit.fresh _ hsb, ?_⟩) S.kind)
        show codeAny _ _ (.expr L'.body (NdefX.envF (lamNF L' c c0) fa s2.heap.objs.size)) _ _
        have kp : ∀ b o, s2.heap.get? b = some o → h₁.get? b = some o := fun b o e => hsb.extBut b o (Nat.ne_of_lt (Heap.lt_size e)) (Heap.get?_push_of_some _ e)
        have J := NdefX.inv_startN (CX := CX0) (N := [p, L'.y]) (F := lamNF L' c c0) (f := fa) (E := fun _ _ _ => False) (tk := s2.toks + [(p, u)].length) S hr.hd e0 (vs := [v]) rfl r C hns kp
        have okL : Ok X.K (delH H2 c0) F1 F1 (NdefX.startF [p, L'.y] [v] [some (.int n)]) (delH H2 c0) [some (.sh dd), some (.sh (.int n))] := {
          gr := Gr.refl xF
          sh := fun j d' hj => by
            match j, hj with
            | 0, hj => cases hj; exact ⟨v, rfl, dp⟩
            | 1, hj => cases hj; exact ⟨.int n, rfl, .int n⟩
            | j + 2, hj => simp at hj
          ow := fun j d' hj => by
            match j, hj with
            | 0, hj => cases hj
            | 1, hj => cases hj
            | j + 2, hj => simp at hj
          inj := fun j _ d' _ _ hj => by
            match j, hj with
            | 0, hj => cases hj
            | 1, hj => cases hj
            | j + 2, hj => simp at hj
          od := fun j d' hj => by
            match j, hj with
            | 0, hj => cases hj
            | 1, hj => cases hj
            | j + 2, hj => simp at hj
          ijd := fun j _ d' _ _ hj => by
            match j, hj with
            | 0, hj => cases hj
            | 1, hj => cases hj
            | j + 2, hj => simp at hj
          fn := fun j _ _ hj => by
            match j, hj with
            | 0, hj => cases hj
            | 1, hj => cases hj
            | j + 2, hj => simp at hj
          nt := g1.nt ok.nt
          tb := fun T r => tabS_del I2.hok h3 hdc ((ok.tb.grow g1.hx) T r)
          len := rfl }
        refine PySem.W.kla_codeExpr (wpAny_mono ((hbody c c0 fa X.A X.stack s2 (delH H2 c0) (hr.deeper _)).run [] _ _ (delH H2 c0) (fun v H' => ∃ F', Gr F1 (delH H2 c0) F' H' ∧ Dp X.K F' v d) J ⟨_, _, _, _, d, okL, fe2, fun v F' H' g dp => ⟨F', g, dp⟩⟩) (fun v' s' hq => ?_) fun e s' hq => hq)
        obtain ⟨w', H', J', rv, F', g2, dp2⟩ := hq
        obtain ⟨⟨k1, k2⟩, un⟩ := un_add J'.base h3 I2.hok c0f
        exact ⟨w', upd H' c0 (PinO c0 oc), J'.os, J'.bare, un, hok_add J'.hok k2 k1, rv, q w' F' _ (g1.trans (gr_add g2 h3 k2 h5 I2.hok hdc)) dp2⟩
      refine wpAny_call (codeAny_mono rc fun r s' hq => ?_)
      cases r with
      | error e => exact (show False from hq).elim
      | ok fl =>
        cases fl with
        | ret u => exact I2.after hq
        | next => exact False.elim hq
        | brk => exact False.elim hq
        | cont => exact False.elim hq
    · rw [if_neg eL] at fe2; cases fe2
  · cases fe
end
end DL

/-! DLay22: a lambda made, handed to a def; the def that gets it -/
namespace DL
open PySem PySem.Spec PyProof.Rows L2 Evl
/-! ### the def that gets a lambda as its third parameter -/
def spF (K : PySem.W.Frag) (L : LamT) (M : Int → List D → Option D) : Sp := fun vs H Q _ => ∃ F d1 d2 d f n v1 v2, (Ex F H ∧ NT F ∧ TbK K H) ∧ vs = [v1, v2, .ref f] ∧ (Dp K F v1 d1 ∧ Dp K F v2 d2) ∧ LamAt F H f L n ∧ M n [d1, d2] = some d ∧ ∀ v F' H', Gr F H F' H' → Dp K F' v d → Q v H'
abbrev FnF (P : Program) (w : World) (K : PySem.W.Frag) (mg : Str → Option Value) (base : Heap) (k : Nat) (f : Addr) (fd : FuncData) (ps : List Str) (L : LamT) (M : Int → List D → Option D) : Prop := FnOk P w K mg base CX0 k f fd ps (spF K L M)
def startF3 (m : Nat) (L : LamT) (n : Int) (d1 d2 : D) : DEnv := [some (.sh d1), some (.sh d2), some (.fn L n)] ++ List.replicate m none
def runFF (m : Nat) (L : LamT) (body : FS) : Int → List D → Option D := fun n ds => match ds with
  | [d1, d2] => endFl (body (startF3 m L n d1 d2))
  | _ => none
theorem ok_startF {K : PySem.W.Frag} {F H : Hp} {N : List Str} {v1 v2 : V} {d1 d2 : D} {f : Addr} {L : LamT} {n : Int} {m : Nat} (hn : N.length = m + 3) (x : Ex F H) (nt : NT F) (tb : TbK K H) (h1 : Dp K F v1 d1) (h2 : Dp K F v2 d2) (la : LamAt F H f L n) :
    Ok K H F F (L2.start N [v1, v2, .ref f]) H (startF3 m L n d1 d2) := by
  have es : L2.start N [v1, v2, .ref f] = [some v1, some v2, some (.ref f)] ++ List.replicate m none := by
    unfold L2.start
    rw [hn]
    rfl
  have tail : ∀ {α : Type} (a b c : Option α) (j : Nat) (y : α), ([a, b, c] ++ List.replicate m none)[j + 3]? = some (some y) → False := fun a b c j y h => by
    have h' : (List.replicate m none)[j]? = some (some y) := h
    rw [List.getElem?_replicate] at h'
    split at h' <;> cases h'
  rw [es]
  unfold startF3
  exact {
    gr := Gr.refl x
    sh := fun j d hj => by
      match j, hj with
      | 0, hj => cases hj; exact ⟨v1, rfl, h1⟩
      | 1, hj => cases hj; exact ⟨v2, rfl, h2⟩
      | 2, hj => cases hj
      | j + 3, hj => exact (tail _ _ _ j _ hj).elim
    ow := fun j d hj => by
      match j, hj with
      | 0, hj => cases hj
      | 1, hj => cases hj
      | 2, hj => cases hj
      | j + 3, hj => exact (tail _ _ _ j _ hj).elim
    inj := fun j _ _ _ _ hj => by
      match j, hj with
      | 0, hj => cases hj
      | 1, hj => cases hj
      | 2, hj => cases hj
      | j + 3, hj => exact (tail _ _ _ j _ hj).elim
    od := fun j d hj => by
      match j, hj with
      | 0, hj => cases hj
      | 1, hj => cases hj
      | 2, hj => cases hj
      | j + 3, hj => exact (tail _ _ _ j _ hj).elim
    ijd := fun j _ _ _ _ hj => by
      match j, hj with
      | 0, hj => cases hj
      | 1, hj => cases hj
      | 2, hj => cases hj
      | j + 3, hj => exact (tail _ _ _ j _ hj).elim
    fn := fun j _ _ hj => by
      match j, hj with
      | 0, hj => cases hj
      | 1, hj => cases hj
      | 2, hj => cases hj; exact ⟨f, rfl, la⟩
      | j + 3, hj => exact (tail _ _ _ j _ hj).elim
    nt := nt
    tb := tb
    len := by simp }
theorem fn_mkF {P : Program} {w : World} {K : PySem.W.Frag} {mg : Str → Option Value} {base : Heap} {k : Nat} {x qual : Str} {args : Arguments} {st : List Stmt} {sc : Scope} {f : Addr} {fd : FuncData} {N ps : List Str} {body : FS} {m : Nat} {L : LamT}
    (F : FunD K x qual args st sc [] [] f fd) (S : FnScope N ps sc) (hn : N.length = m + 3) (hp : ps.length = 3)
    (hb : ∀ (cdv : Value) (A : Around) (outer : List Env) (s : Shared) (H : Hp) (E : XK), Room k (A.deeper (envOfC qual sc s.heap.objs.size f cdv)) → DSs (cxOf CX0 P w K mg base N qual sc f cdv A outer s H E).nox st body) :
    FnF P w K mg base (k + 1) f fd ps L (runFF m L body) := by
  refine F.ok S (fun vs H Q E h => ?_) (fun cdv A outer s H vs Q E hr h => ⟨_, PSs.nox (hb cdv A outer s H E hr), ?_⟩)
  · obtain ⟨F, d1, d2, d, f, n, v1, v2, _, rfl, _⟩ := h
    exact hp.symm
  · obtain ⟨F, d1, d2, d, fl, n, v1, v2, ⟨x1, x2, x3⟩, rfl, ⟨p1, p2⟩, la, hM, q⟩ := h
    have hM' : endFl (body (startF3 m L n d1 d2)) = some d := hM
    unfold endFl at hM'
    obtain ⟨r, hr1, hM2⟩ := bind1 hM'
    refine ⟨H, F, F, startF3 m L n d1 d2, r, ok_startF hn x1 x2 x3 p1 p2 la, hr1, ?_⟩
    cases r with
    | rt d' => cases hM2; exact fun v F' H' g dp => q v F' H' g dp
    | nx e' => cases hM2; exact fun σ' F' H' _ ok' => q _ F' H' ok'.gr .non
    | bk e' => cases hM2
    | ct e' => cases hM2
theorem fn_noneF {P : Program} {w : World} {K : PySem.W.Frag} {mg : Str → Option Value} {base : Heap} {k : Nat} {f : Addr} {fd : FuncData} {ps : List Str} {L : LamT} : FnF P w K mg base k f fd ps L (fun _ _ => none) :=
  ⟨fun vs H Q E h => (by obtain ⟨F, d1, d2, d, f, n, v1, v2, _, _, _, _, h, _⟩ := h; cases h), fun A outer s H args us vs Q E hr e0 hb r h => (by obtain ⟨F, d1, d2, d, f, n, v1, v2, _, _, _, _, h, _⟩ := h; cases h)⟩
open Classical in
noncomputable def recE (i : Nat) (L : LamT) (M : Int → List D → Option D) (f1 f2 : FE) : FE := fun e => (f1 e).bind fun d1 => (f2 e).bind fun d2 => match e[i]? with
  | some (some (.fn L' n)) => if L' = L then M n [d1, d2] else none
  | _ => none
section
variable {X : Cx} {e1 e2 : Expr} {f1 f2 : FE} {x y : Str} {p px pos : Pos} {fd : FuncData} {ps : List Str} {k j : Nat} {fn : Addr} {L : LamT} {M : Int → List D → Option D}
theorem de_callR (i : Nat) (G : FnF X.prog X.w X.K X.mg X.base j fn fd ps L M) (hr : Room k X.A) (hj : j ≤ k) (hm : X.mg x = some (.ref fn)) (kp : PySem.W.keepIn X.K (.ref fn) = true) (b : Binds X.K fd ps []) (h1 : DE X e1 f1) (h2 : DE X e2 f2)
    (hg : Gl X x := by rfl) (hdb : (x == ("__debug__" : Str)) = false := by decide) (hN : X.N[i]? = some y := by rfl) (hv : Vis X.env.scope y := by first | exact Or.inl rfl | exact Or.inr (Or.inl rfl) | exact Or.inr (Or.inr rfl)) (hd : (y == ("__debug__" : Str)) = false := by decide) (hcd : (y == ("__classdict__" : Str)) = false := by decide)
    (s1 : starEach [e1, e2, .Name y px] X.env = (false, eval e1 X.env) :: starEach [e2, .Name y px] X.env := by rfl) (s2 : starEach [e2, .Name y px] X.env = (false, eval e2 X.env) :: starEach [.Name y px] X.env := by rfl) (s3 : starEach [.Name y px] X.env = (false, eval (.Name y px) X.env) :: starEach [] X.env := by rfl)
    (hpl : (backTo pos (starEach [e2, .Name y px] X.env)).any (·.1) = false := by rfl) : DE X (.Call (.Name x p) [e1, e2, .Name y px] [] pos) (recE i L M f1 f2) :=
  pe_imp (pe_call (E := fun _ _ _ => False) G (hr.mono hj) hg hm kp b .nil pass0 (pa_cons h1 (pa_cons h2 (pa_cons (pe_var hN hv hd hcd) pa_nil s3) s2) s1) hdb s1 hpl) fun σ H Q ⟨B, F0, F, env, d, ok, fe, q⟩ => by
  obtain ⟨d1, d2, hd1, hd2, fe⟩ := bind2 fe
  split at fe
  · rename_i L' n hen
    by_cases eL : L' = L
    · subst eL
      rw [if_pos rfl] at fe
      refine ⟨B, F0, F, env, d1, ok, hd1, fun v1 F1 H1 g1 p1 => ⟨B, F0, F1, env, d2, ok.grow g1, hd2, fun v2 F2 H2 g2 p2 => ?_⟩⟩
      have ok2 := (ok.grow g1).grow g2
      obtain ⟨f, hs, la⟩ := ok2.fn i L' n hen
      refine ⟨.ref f, hs, ?_⟩
      exact ⟨F2, d1, d2, d, f, n, v1, v2, ⟨g2.fh, ok2.nt, ok2.tb⟩, rfl, ⟨dp_mono g2.ff p1, p2⟩, la, fe, fun v F3 H3 g3 dp3 => q v F3 H3 ((g1.trans g2).trans g3) dp3⟩
    · rw [if_neg eL] at fe; cases fe
  · cases fe
end
/-! ### the lambda made -/
theorem grown_tab {H : Hp} {P c : Addr} {ps more : Array Value} (hP : H P = some (.tbl ps)) (hc : H c = none) (hs : ∀ (pos : Pos) (cv : Value), codeAmong pos (ps ++ more).toList = some cv → codeAmong pos ps.toList = some cv ∨ cv = .ref c) (ht : TriplesOk (ps ++ more).toList) :
    ExT H (upd (upd H P (.tbl (ps ++ more))) c (LamX.CodeO c lamQ)) := by
  have nPc : P ≠ c := ne_of_none hP hc
  refine ⟨fun b o e n => ?_, fun b e => ?_, fun T t => ?_⟩
  · have n1 : b ≠ c := ne_of_none e hc
    have n2 : b ≠ P := fun z => by rw [z, hP] at e; cases e; exact n _ rfl
    rw [upd_ne n1, upd_ne n2]
    exact e
  · have n1 : b ≠ c := fun z => by rw [z, upd_same] at e; cases e
    rw [upd_ne n1] at e
    have n2 : b ≠ P := fun z => by rw [z, upd_same] at e; cases e
    rw [upd_ne n2] at e
    exact e
  · obtain ⟨qs, t1, t2, t3⟩ := t
    have code : ∀ d, H d = some (LamX.CodeO d lamQ) → upd (upd H P (.tbl (ps ++ more))) c (LamX.CodeO c lamQ) d = some (LamX.CodeO d lamQ) := fun d ed => by
      have n1 : d ≠ c := ne_of_none ed hc
      have n2 : d ≠ P := fun z => by rw [z, hP] at ed; cases ed
      rw [upd_ne n1, upd_ne n2]
      exact ed
    by_cases z : T = P
    · subst z
      rw [hP] at t1
      cases t1
      refine ⟨_, by rw [upd_ne nPc, upd_same], ht, fun pos cv hcv => ?_⟩
      rcases hs pos cv hcv with q | q
      · obtain ⟨d, e1, e2⟩ := t3 pos cv q
        exact ⟨d, e1, code d e2⟩
      · exact ⟨c, q, upd_same⟩
    · refine ⟨qs, by rw [upd_ne (ne_of_none t1 hc), upd_ne z]; exact t1, t2, fun pos cv hcv => ?_⟩
      obtain ⟨d, e1, e2⟩ := t3 pos cv hcv
      exact ⟨d, e1, code d e2⟩
section
variable {X : Cx} {pins : List (Addr × Obj)} {σ : L2.St} {H : Hp} {s : Shared} {c P : Addr} {params : Arguments} {body : Expr} {scope : Scope} {pos : Pos} {E R : Value → Shared → Prop}
theorem lam_new (I : Inv X pins σ H s) (TB : LamX.TabB X.base X.mg c P) (hcode : X.env.code = .ref c) (hT : LamX.TabS H P lamQ) (hq : X.env.qual ++ "<lambda>" = lamQ) (hdef : defaultsOf params X.env = ([], []))
    (hfr : ∀ y ∈ scope.names, y.2 = .free → ∃ cc, X.env.cells.lookup y.1 = some cc)
    (done : ∀ (f c' : Addr) (pm ctv : Value) (H1 : Hp) (s' : Shared), Inv X pins σ H1 s' → ExT H H1 → s.heap.objs.size ≤ f → s'.heap.get? f = some (PySem.W.kla_obj "<lambda>" lamQ params body scope (cloFrom X.env.cells scope.names []) pm c' ctv) → H1 f = none → H1 c' = some (LamX.CodeO c' lamQ) → R (.ref f) s') :
    wpAny (model X.prog X.w) X.A (eval (.Lambda params body scope pos) X.env) R E s := by
  obtain ⟨ps, hP, ht, ha⟩ := hT
  have tabAt : s.heap.get? P = some { cls := .none, data := .fields ps } := I.hok P _ hP
  have bAt : s.heap.BuiltinsAt X.mg P := TB.bm.keeps I.bk
  refine PySem.W.kla_eval hdef ?_
  rw [hq]
  cases hfound : codeAmong pos ps.toList with
  | some cv =>
    obtain ⟨c', e1, hco⟩ := ha pos cv hfound
    subst e1
    refine PySem.W.kla_makeFunctionHit (mg := X.mg) (c := c) (P := P) (ps := ps) (closure_ok hfr) I.ok.glob (I.mod.glob.keeps I.bk) hcode (TB.code.keeps I.bk) tabAt ht hfound bAt fun ctv h' tk keep hsz => ?_
    refine done h'.objs.size c' _ ctv H _ (I.kept fun b o e => Heap.get?_push_of_some _ (keep b o e)) (ExT.refl H) hsz (Heap.get?_push_size _ rfl) (I.hok.fresh hsz) hco
  | none =>
    refine PySem.W.kla_makeFunction (mg := X.mg) (c := c) (P := P) (ps := ps) (closure_ok hfr) I.ok.glob (I.mod.glob.keeps I.bk) hcode (TB.code.keeps I.bk) tabAt ht hfound TB.gP bAt fun c' ctv h' tk keep hge hlt hrec htb => ?_
    obtain ⟨c2, oc, vs, t, e2, hoc, hdat, hv⟩ := hrec
    cases e2
    have fresh : H c' = none := I.hok.fresh hge
    have hsz : s.heap.objs.size ≤ h'.objs.size := Nat.le_trans hge (Nat.le_of_lt hlt)
    have J := LamX.inv_table (q := lamQ) (t' := tk) (more := #[rawInt pos.line, rawInt pos.col, .ref c']) (h' := h'.push (PySem.W.kla_obj "<lambda>" lamQ params body scope (cloFrom X.env.cells scope.names []) ((X.mg "__name__").getD .none) c' ctv)) I hP
      (fun b o hb e => Heap.get?_push_of_some _ (keep b o hb e)) (Heap.get?_push_of_some _ htb) hge ⟨oc, vs, t, Heap.get?_push_of_some _ hoc, hdat, hv⟩
    have lst : (ps ++ #[rawInt pos.line, rawInt pos.col, .ref c']).toList = ps.toList ++ [rawInt pos.line, rawInt pos.col, .ref c'] := by simp
    have gx : ExT H (upd (upd H P (.tbl (ps ++ #[rawInt pos.line, rawInt pos.col, .ref c']))) c' (LamX.CodeO c' lamQ)) := grown_tab hP fresh (fun p' cv hcv => by
      rw [lst] at hcv
      exact LamX.among_app _ ht hcv) (by rw [lst]; exact PySem.TriplesOk_snoc _ _ _ _ ht)
    have nf : upd (upd H P (.tbl (ps ++ #[rawInt pos.line, rawInt pos.col, .ref c']))) c' (LamX.CodeO c' lamQ) h'.objs.size = none := by
      rw [upd_ne (Nat.ne_of_gt hlt), upd_ne (Nat.ne_of_gt (Nat.lt_of_lt_of_le (Heap.lt_size tabAt) hsz))]
      exact I.hok.fresh hsz
    exact done h'.objs.size c' _ ctv _ _ J gx hsz (Heap.get?_push_size _ rfl) nf upd_same
end
/-! ### f(e1, e2, lambda ..) -/
def lamE (jn : Nat) (M : Int → List D → Option D) (f1 f2 : FE) : FE := fun e => (f1 e).bind fun d1 => (f2 e).bind fun d2 => match e[jn]? with
  | some (some (.sh (.int n))) => M n [d1, d2]
  | _ => none
section
variable {X : Cx} {e1 e2 : Expr} {f1 f2 : FE} {x : Str} {p lpos pos : Pos} {fd : FuncData} {ps : List Str} {k j : Nat} {fn c P : Addr} {L : LamT} {M : Int → List D → Option D}
theorem de_lamcall (jn : Nat) (G : FnF X.prog X.w X.K X.mg X.base j fn fd ps L M) (hr : Room k X.A) (hj : j ≤ k) (hm : X.mg x = some (.ref fn)) (kp : PySem.W.keepIn X.K (.ref fn) = true) (b : Binds X.K fd ps []) (h1 : DE X e1 f1) (h2 : DE X e2 f2)
    (TB : LamX.TabB X.base X.mg c P) (hcode : X.env.code = .ref c) (htab : tabR X.K P) (hq : X.env.qual ++ "<lambda>" = lamQ) (hLq : L.q = lamQ)
    (hfree : ∀ y ∈ L.scope.names, y.2 = .free → y.1 = L.y) (hclo : ∀ (cells : List (Str × Addr)) (c0 : Addr), cells.lookup L.y = some c0 → cloFrom cells L.scope.names [] = [(L.y, c0)])
    (hcell : X.env.scope.names.lookup L.y = some .cell) (hfn : X.fn L.y = true) (hN : X.N[jn]? = some L.y := by rfl) (hdef : defaultsOf L.params X.env = ([], []) := by rfl)
    (hg : Gl X x := by rfl) (hdb : (x == ("__debug__" : Str)) = false := by decide)
    (s1 : starEach [e1, e2, .Lambda L.params L.body L.scope lpos] X.env = (false, eval e1 X.env) :: starEach [e2, .Lambda L.params L.body L.scope lpos] X.env := by rfl)
    (hbt : backTo pos (starEach [e1, e2, .Lambda L.params L.body L.scope lpos] X.env) = [(false, eval e1 X.env), (false, eval e2 X.env), (false, eval (.Lambda L.params L.body L.scope lpos) X.env)] := by rfl)
    (hpl : (backTo pos (starEach [e2, .Lambda L.params L.body L.scope lpos] X.env)).any (·.1) = false := by rfl) :
    DE X (.Call (.Name x p) [e1, e2, .Lambda L.params L.body L.scope lpos] [] pos) (lamE jn M f1 f2) := by
  refine ⟨fun pins s σ H Q I ⟨B, F0, F, env, d, ok, fe, q⟩ => ?_⟩
  obtain ⟨d1, d2, hd1, hd2, fe⟩ := bind2 fe
  split at fe
  · rename_i n hen
    refine wpAny_Call_Name_kw (ld_glob I hg hm ?_ hdb)
    refine PySem.W.callWith_K (h₀ := X.base) I.ok.mod.kin kp ?_ s1 hpl
    rw [hbt]
    refine Calls.spliced_cons (thn (h1.run pins s σ H (fun v H1 => ∃ F1, Gr F H F1 H1 ∧ Dp X.K F1 v d1) I ⟨B, F0, F, env, d1, ok, hd1, fun v F1 H1 g dp => ⟨F1, g, dp⟩⟩) fun u1 t1 ⟨v1, H1, I1, r1, F1, g1, p1⟩ => ?_)
    have ok1 := ok.grow g1
    refine Calls.spliced_cons (thn (h2.run pins t1 σ H1 (fun v H2 => ∃ F2, Gr F1 H1 F2 H2 ∧ Dp X.K F2 v d2) I1 ⟨B, F0, F1, env, d2, ok1, hd2, fun v F2 H2 g dp => ⟨F2, g, dp⟩⟩) fun u2 t2 ⟨v2, H2, I2, r2, F2, g2, p2⟩ => ?_)
    have ok2 := ok1.grow g2
    obtain ⟨c0, hc0⟩ := I2.ok.has L.y (.inl hcell)
    have hfr : ∀ y ∈ L.scope.names, y.2 = .free → ∃ cc, X.env.cells.lookup y.1 = some cc := fun y hy e => ⟨c0, by rw [hfree y hy e]; exact hc0⟩
    refine Calls.spliced_cons (lam_new I2 TB hcode (ok2.tb P htab) hq hdef hfr fun f c' pm ctv H3 t3 I3 gx hsz hf hfn3 hco => Calls.spliced_nil ⟨I3.kIn, ?_⟩)
    show wpAny _ _ (call (.ref fn) [u1, u2, .ref f]) _ _ _
    rw [hclo _ _ hc0] at hf
    -- the cell
    obtain ⟨vn, hvn, dvn⟩ := ok2.sh jn (.int n) hen
    have evn := dp_int dvn
    subst evn
    obtain ⟨m, hns, hloc⟩ := I3.loc
    obtain ⟨un, rn, look⟩ := hloc jn L.y (.int n) hN hvn (.inr (.inl hcell))
    obtain ⟨tn, eun⟩ : ∃ t, un = Value.int n t := rn
    subst eun
    have hcellAt : ∃ oc : Obj, t3.heap.get? c0 = some oc ∧ oc.data = .cell (some (.int n tn)) := by
      rcases look with ⟨z, _⟩ | ⟨_, cc, z, oc, e1', e2'⟩
      · have z' : X.env.scope.names.lookup L.y = some .local := z
        rw [hcell] at z'
        cases z'
      · rw [hc0] at z
        cases z
        exact ⟨oc, e1', e2'⟩
    obtain ⟨oc, hoc, hdc⟩ := hcellAt
    have n0 : H3 c0 = none := I3.freeC _ _ hc0
    have hdL : ∀ vs, (lamObj L c' c0 pm ctv).data ≠ .fields vs := fun vs z => by cases z
    have hdC : ∀ vs, oc.data ≠ .fields vs := fun vs z => by rw [hdc] at z; cases z
    have hf' : t3.heap.get? f = some (lamObj L c' c0 pm ctv) := by
      unfold lamObj
      rw [hLq]
      exact hf
    have ncf : c0 ≠ f := fun z => by
      rw [z, hf'] at hoc
      cases hoc
      cases hdc
    -- known: the lambda, its cell
    have n0' : upd H3 f (PinO f (lamObj L c' c0 pm ctv)) c0 = none := by rw [upd_ne ncf]; exact n0
    have c0low : X.s_0.heap.objs.size ≤ c0 := I3.ok.cab L.y c0 hfn hc0
    have flow : X.s_0.heap.objs.size ≤ f := Nat.le_trans I2.sz hsz
    have stkne : ∀ b ∈ frs X.stack, b ≠ c0 ∧ b ≠ f := fun b hb => by
      rcases List.mem_cons.mp (I3.stkSub b hb) with e | e
      · refine ⟨fun z => I3.cne _ _ hc0 (z.symm.trans e), fun z => ?_⟩
        have h1 := I2.lt
        rw [← e, z] at h1
        exact Nat.lt_irrefl _ (Nat.lt_of_lt_of_le h1 hsz)
      · obtain ⟨_, o, ho, _⟩ := I3.ok.funs.mem e
        have lt := Heap.lt_size ho
        exact ⟨fun z => by rw [z] at lt; exact Nat.lt_irrefl _ (Nat.lt_of_lt_of_le lt c0low), fun z => by rw [z] at lt; exact Nat.lt_irrefl _ (Nat.lt_of_lt_of_le lt flow)⟩
    have e0 : Env0 X.prog X.w X.K X.mg X.base X.A X.stack t3 (upd (upd H3 f (PinO f (lamObj L c' c0 pm ctv))) c0 (PinO c0 oc)) := by
      obtain ⟨a1, a2, a3, a4, a5, a6, a7, a8⟩ := I3.env0
      refine ⟨a1, a2, fun bb ob e => ⟨(a3 bb ob e).1, ?_⟩, a4, a5, fun bb hb => ?_, hok_add (hok_add a7 hfn3 hf') n0' hoc, a8⟩
      · have lt : bb < X.s_0.heap.objs.size := Nat.lt_of_lt_of_le (Heap.lt_size e) I3.ok.bsz
        rw [upd_ne (fun z => by rw [z] at lt; exact Nat.lt_irrefl _ (Nat.lt_of_lt_of_le lt c0low)), upd_ne (fun z => by rw [z] at lt; exact Nat.lt_irrefl _ (Nat.lt_of_lt_of_le lt flow))]
        exact (a3 bb ob e).2
      · obtain ⟨m1, m2⟩ := stkne bb hb
        rw [upd_ne m1, upd_ne m2]
        exact a6 bb hb
    have g3 : Gr F2 H2 F2 H3 := ⟨gx, Ex.refl _, fun bb u e => gx.keep bb u (g2.fh bb u e) (fun qs z => by subst z; exact ok2.nt bb qs e), fun _ _ _ => rfl, id⟩
    have x3 : Ex F2 H3 := g3.fh
    have x4 : Ex F2 (upd H3 f (PinO f (lamObj L c' c0 pm ctv))) := x3.trans (Ex.new hfn3)
    have x5 : Ex F2 (upd (upd H3 f (PinO f (lamObj L c' c0 pm ctv))) c0 (PinO c0 oc)) := x4.trans (Ex.new n0')
    have tb5 : TbK X.K (upd (upd H3 f (PinO f (lamObj L c' c0 pm ctv))) c0 (PinO c0 oc)) := ((ok2.tb.grow gx).grow (.of (Ex.new hfn3))).grow (.of (Ex.new n0'))
    have la : LamAt F2 (upd (upd H3 f (PinO f (lamObj L c' c0 pm ctv))) c0 (PinO c0 oc)) f L n := by
      refine ⟨c', c0, pm, ctv, oc, tn, ?_, ?_, upd_same, hdc, fresh_back x3 n0⟩
      · rw [upd_ne (Ne.symm ncf), upd_same]
      · rw [upd_ne (ne_of_none hco n0), upd_ne (ne_of_none hco hfn3), hLq]; exact hco
    have rv : Vals [v1, v2, .ref f] [u1, u2, .ref f] := .cons r1 (.cons r2 (.cons rfl .nil))
    have hl : ([u1, u2, .ref f] : List Value).length = ps.length := by
      have := G.len [v1, v2, .ref f] _ (fun _ _ => True) (fun _ _ _ => False) ⟨F2, d1, d2, d, f, n, v1, v2, ⟨x5, ok2.nt, tb5⟩, rfl, ⟨dp_mono g2.ff p1, p2⟩, la, fe, fun _ _ _ _ _ => trivial⟩
      exact this
    have run := G.run X.A X.stack t3 (upd (upd H3 f (PinO f (lamObj L c' c0 pm ctv))) c0 (PinO c0 oc)) ⟨[u1, u2, .ref f], []⟩ [u1, u2, .ref f] [v1, v2, .ref f] (fun v H' => ∃ F', Gr F2 (upd (upd H3 f (PinO f (lamObj L c' c0 pm ctv))) c0 (PinO c0 oc)) F' H' ∧ Dp X.K F' v d) (fun _ _ _ => False) (hr.mono hj) e0
      (by have := b t3 [u1, u2, .ref f] I3.kIn (by rw [List.append_nil]; exact hl); rw [List.append_nil] at this; exact this) rv ⟨F2, d1, d2, d, f, n, v1, v2, ⟨x5, ok2.nt, tb5⟩, rfl, ⟨dp_mono g2.ff p1, p2⟩, la, fe, fun v F' H' g dp => ⟨F', g, dp⟩⟩
    refine wpAny_call (codeAny_mono run fun r s' hq => ?_)
    cases r with
    | error e => exact (show False from hq).elim
    | ok fl =>
      cases fl with
      | ret u =>
        refine I3.after ?_
        obtain ⟨v, H', os, bare, un', hok', rv', F', g5, dp5⟩ := hq
        have k1 : H' c0 = some (PinO c0 oc) := g5.hx.keep _ _ upd_same (by intro _ z; cases z)
        have u1' := un_del un' n0' hoc k1 hok'
        have g6 := gr_del g5 n0' x4 k1 hok' hdC
        have hok6 := hok_del hok' k1
        have k2 : delH H' c0 f = some (PinO f (lamObj L c' c0 pm ctv)) := g6.hx.keep _ _ upd_same (by intro _ z; cases z)
        have u2' := un_del u1' hfn3 hf' k2 hok6
        have g7 := gr_del g6 hfn3 x3 k2 hok6 hdL
        exact ⟨v, delH (delH H' c0) f, os, bare, u2', hok_del hok6 k2, rv', q v F' _ (((g1.trans g2).trans g3).trans g7) dp5⟩
      | next => exact False.elim hq
      | brk => exact False.elim hq
      | cont => exact False.elim hq
  · cases fe
end
end DL

/-! DLay23: the head and the end where a def makes a lambda -/
namespace DL
open PySem PySem.Spec PyProof.Rows L2 Evl He
def tabB (g : Addr → Option Obj) (K : PySem.W.Frag) (x : Str) : Bool := match g (ga K x) with
  | some o => match o.data with
    | .func fd => match fd.code with
      | .ref c => match g c with
        | some oc => match oc.cls, oc.data with
          | .type T, .fields vs => match (vs[11]? : Option Value), (vs.getD 11 .none : Value), (vs.getD 18 .none : Value), (vs.getD 7 .none : Value), (vs.getD 9 .none : Value), (vs.getD 10 .none : Value) with
            | some (Value.ref P), Value.ref P2, Value.str _ _, Value.int _ _, Value.bool _, Value.int _ _ => (T == "code") && (P == P2) && (c != P) && (List.lookup P K).isNone && (match g P with
              | some ⟨.none, none, .fields ps, sl⟩ => ps.size == 0 && sl.size == 0
              | _ => false)
            | _, _, _, _, _, _ => false
          | _, _ => false
        | none => false
      | _ => false
    | _ => false
  | none => false
/-- the code object and the table of the def x -/
def TabAt (h : Heap) (K : PySem.W.Frag) (x : Str) : Prop := ∃ (o : Obj) (fd : FuncData) (c P : Addr) (oc : Obj) (vs : Array Value), h.get? (ga K x) = some o ∧ o.data = .func fd ∧ fd.code = .ref c ∧ PySem.W.CodeHd h c P ∧ h.get? c = some oc ∧ oc.data = .fields vs ∧ vs[11]? = some (.ref P) ∧ List.lookup P K = none ∧ h.get? P = some { cls := .none, data := .fields #[] }
theorem tabB_ok {h : Heap} {K : PySem.W.Frag} {x : Str} (q : tabB h.get? K x = true) : TabAt h K x := by
  unfold tabB at q
  split at q
  · rename_i o ho
    split at q
    · rename_i fd hfd
      split at q
      · rename_i c hc
        split at q
        · rename_i oc hoc
          split at q
          · rename_i T vs hcls hdat
            split at q
            · rename_i P P2 s1 t1 i1 t2 b1 i2 t3 v1 v2 v3 v4 v5 v6
              simp only [Bool.and_eq_true, beq_iff_eq, bne_iff_ne, ne_eq] at q
              obtain ⟨⟨⟨⟨q1, q2⟩, q3⟩, q4⟩, q5⟩ := q
              split at q5
              · rename_i ps sl hP
                simp only [Bool.and_eq_true, beq_iff_eq] at q5
                have e1 : ps = #[] := Array.eq_empty_of_size_eq_zero q5.1
                have e2 : sl = #[] := Array.eq_empty_of_size_eq_zero q5.2
                subst e1 e2 q1 q2
                refine ⟨o, fd, c, P, oc, vs, ho, hfd, hc, ⟨oc, vs, _, _, _, _, _, _, _, hoc, hcls, hdat, v1, v2, v3, v4, v5, v6, q3⟩, hoc, hdat, v1, Option.isNone_iff_eq_none.mp q4, hP⟩
              · cases q5
            · cases q
          · cases q
        · cases q
      · cases q
    · cases q
  · cases q
theorem TabAt.keeps {h h' : Heap} {K : PySem.W.Frag} {x : Str} (t : TabAt h K x) (k : ∀ b o, h.get? b = some o → h'.get? b = some o) : TabAt h' K x := by
  obtain ⟨o, fd, c, P, oc, vs, h1, h2, h3, h4, h5, h6, h7, h8, h9⟩ := t
  exact ⟨o, fd, c, P, oc, vs, k _ _ h1, h2, h3, h4.keeps k, k _ _ h5, h6, h7, h8, k _ _ h9⟩
/-- an empty table of code objects -/
def isTab (g : Addr → Option Obj) (a : Addr) : Bool := match g a with
  | some ⟨.none, none, .fields vs, _⟩ => vs.size == 0
  | _ => false
def asT (g : Addr → Option Obj) (n : Nat) : List Addr := (asD g n).filter fun a => !isTab g a
abbrev AlT : Type := AlX × Bool
def obsT (xs : List Str) (fa : List Fa) (fn : List DefD) (ts : List (Str × TabS)) (us : List (Str × List Dv)) (g : Addr → Option Obj) (K : PySem.W.Frag) : AlT := (obsX fa fn ts us K, xs.all fun x => tabB g K x)
def obsTG (n : Nat) (xs : List Str) (fa : List Fa) (fn : List DefD) (ts : List (Str × TabS)) (us : List (Str × List Dv)) (g : Addr → Option Obj) : AlT := obsT xs fa fn ts us g (frG g (asT g n))
def hookT (n : Nat) (xs : List Str) (fa : List Fa) (fn : List DefD) (ts : List (Str × TabS)) (us : List (Str × List Dv)) : PySem.W.Hook where
  α := AlT
  obs := fun s => obsTG n xs fa fn ts us s.heap.get?
  val := fun w => (valX fn ts w, true)
  says := fun w h => ∃ K : PySem.W.Frag, K.In h ∧ SaysX fa fn ts us w K ∧ ∀ x ∈ xs, TabAt h K x
  of := fun _ _ e => ⟨_, frG_in, congrArg (fun z : AlT => z.1) e, fun x hx => tabB_ok (List.all_eq_true.mp (congrArg (fun z : AlT => z.2) e) x hx)⟩
  keeps := fun _ _ _ ⟨K, hK, c, t⟩ k => ⟨K, PySem.W.Frag.In.keeps hK k, c, fun x hx => (t x hx).keeps k⟩
theorem obsTG_eq {n : Nat} {xs : List Str} {fa : List Fa} {fn : List DefD} {ts : List (Str × TabS)} {us : List (Str × List Dv)} {g : Addr → Option Obj} {s : Shared} (h : ∀ a, g a = s.heap.get? a) : obsTG n xs fa fn ts us g = (hookT n xs fa fn ts us).obs s := by
  have e : g = s.heap.get? := funext h
  rw [e] <;> rfl
/-- the end: the written part is found, with its tables -/
theorem walk_ofTE {l : PySem.W.OpenLaw} {n k : Nat} {q : Program} {loose : List Str} {XP : (Str → Option Value) → Heap → Prop} {YP : World → Heap → Prop} {d : DefRec} {CX : CXT} {x : Str}
    (hn : l.most = some n) (hn2 : n ≤ sizeLine) (hdf : d.params.defaults = []) (hr : Room k callerA)
    (F : ∀ (w : World) (mg : Str → Option Value) (fa : Addr) (h : Heap), YP w h → h.Ns mainGlobals mg → mg d.name = some (.ref fa) → ∃ K : PySem.W.Frag, K.In h ∧ LamX.LawAtS l w K CX k n x mg fa h)
    (hCX : ∀ (H : Hp) (s : Shared) (e : Value) (s' : Shared), CX [] H s (fun _ _ _ => False) e s' → False) :
    PySem.W.WalkO q loose XP YP l.row.toRowW d [] (fun f vs => PySem.call f vs) :=
  Att.attach_callB hn hdf (fun w _ t mg _ fa _ _ _ _ a _ ns G Y _ _ _ hmg hob his hle hbi hge => by
    obtain ⟨K, inK, fd, cs, sp, j1, j2, j3, j4, j5, j6⟩ := F w mg fa _ Y G.T.g hmg
    exact LamX.law_callTs inK G.T.g G.T.b G.T.builtins G.T.nolimit hge j1 j2 j3 G.T.bmain hob his (Nat.le_trans hle hn2) hr j6 j4 (fun H z1 z2 => j5 H a ns hle hbi z1 z2) (fun H e s' => hCX H t e s'))
theorem tabR_one {K : PySem.W.Frag} {P P2 : Addr} (h : tabR K P) (h2 : tabR K P2) : P = P2 := by
  obtain ⟨o, fd, c, oc, vs, e1, e2, e3, e4, e5, e6⟩ := h
  obtain ⟨o', fd', c', oc', vs', d1, d2, d3, d4, d5, d6⟩ := h2
  rw [e1] at d1; cases d1
  rw [e2] at d2; cases d2
  rw [e3] at d3; cases d3
  rw [e4] at d4; cases d4
  rw [e5] at d5; cases d5
  rw [e6] at d6; cases d6
  rfl
/-- the facts of the def that makes the lambda -/
theorem lam_facts {K : PySem.W.Frag} {h : Heap} {x : Str} {args : Arguments} {st : List Stmt} {sc : Scope} {fd : FuncData} (KX : K.In h) (F : FunD K x x args st sc [] [] (ga K x) fd) (hx : x = "_law_spoilt") (t : TabAt h K x) :
    ∃ c P, fd.code = .ref c ∧ tabR K P ∧ PySem.W.CodeHd h c P ∧ List.lookup P K = none ∧ h.get? P = some { cls := .none, data := .fields #[] } := by
  subst hx
  obtain ⟨oc, od, dV, kV, doc, pm, an, cdv, ct, osl, efd, lk, hcd, _, _⟩ := F.ex
  obtain ⟨o, fd', c, P, oc2, vs, h1, h2, h3, h4, h5, h6, h7, h8, h9⟩ := t
  have e1 := KX _ _ lk
  rw [h1] at e1
  cases e1
  cases h2
  have ec : cdv = .ref c := by rw [efd] at h3; exact h3
  have hk : ∃ oc3, List.lookup c K = some oc3 := by
    rw [ec] at hcd
    unfold PySem.W.codeIn at hcd
    simp only at hcd
    split at hcd
    · rename_i z; exact ⟨_, z⟩
    · cases hcd
  obtain ⟨oc3, hk⟩ := hk
  have e2 := KX _ _ hk
  rw [h5] at e2
  cases e2
  exact ⟨c, P, h3, ⟨_, _, c, _, vs, lk, rfl, h3, hk, h6, h7⟩, h4, h8, h9⟩
/-- a def whose code object is known -/
theorem fn_mkL {P : Program} {w : World} {K : PySem.W.Frag} {mg : Str → Option Value} {base : Heap} {k : Nat} {x qual : Str} {args : Arguments} {st : List Stmt} {sc : Scope} {f c : Addr} {fd : FuncData} {N ps : List Str} {body : FS} {n : Nat}
    (F : FunD K x qual args st sc [] [] f fd) (hc : fd.code = .ref c) (S : FnScope N ps sc) (hn : N.length = n)
    (hb : ∀ (A : Around) (outer : List Env) (s : Shared) (H : Hp) (E : XK), Room k (A.deeper (envOfC qual sc s.heap.objs.size f (.ref c))) → DSs (cxOf CX0 P w K mg base N qual sc f (.ref c) A outer s H E).nox st body) :
    FnD P w K mg base (k + 1) f fd ps (runF n body) := by
  obtain ⟨oc, od, dV, kV, doc, pm, an, cdv, ct, osl, efd, lk, hcd, _, _⟩ := F.ex
  subst efd
  have ec : cdv = .ref c := hc
  subst ec
  refine fn_of lk hcd S (fun vs H Q E h => ?_) fun A outer s H vs Q E hr h => ⟨_, PSs.nox (hb A outer s H E hr), ?_⟩
  · obtain ⟨F, ds, d, x, dp, hl, _⟩ := h
    rw [dpa_len dp]; exact hl
  · obtain ⟨F, ds, d, x, dp, hl, hM, q⟩ := h
    obtain ⟨r, hr1, hM⟩ := bind1 hM
    have ok : Ok K H F F (L2.start N vs) H (startE n ds) := by rw [← hn]; exact ok_start x.1 x.2.1 x.2.2 dp
    refine ⟨H, F, F, startE n ds, r, ok, hr1, ?_⟩
    cases r with
    | rt d' => cases hM; exact fun v F' H' g dp => q v F' H' g dp
    | nx e' => cases hM; exact fun σ' F' H' _ ok' => q _ F' H' ok'.gr .non
    | bk e' => cases hM
    | ct e' => cases hM
end DL

namespace W
open PySem PySem.Spec PyProof.Rows L2 Evl DL
noncomputable section
def topS (i : Nat) : Stmt := PySem.Challenge.pw_growbox_k08_lists_anywhere.main.body.getD i (.Pass ⟨0, 0, 0, 0⟩)
abbrev FnP (K : PySem.W.Frag) (x : Str) (st : Stmt) (f : Addr) (fd : FuncData) : Prop := FunD K x x (defArgs st) (defBody st) (defScope st) [] [] f fd
abbrev s_is_whole : Stmt := topS 8
abbrev N_is_whole : List Str := ["thing", "low", "high"]
theorem sc_is_whole : FnScope N_is_whole ["thing", "low", "high"] (defScope s_is_whole) := ⟨rfl, rfl, rfl, by decide +kernel, rfl, by decide +kernel, by decide +kernel⟩
abbrev s_is_name : Stmt := topS 9
abbrev N_is_name : List Str := ["thing", "sign"]
theorem sc_is_name : FnScope N_is_name ["thing"] (defScope s_is_name) := ⟨rfl, rfl, rfl, by decide +kernel, rfl, by decide +kernel, by decide +kernel⟩
abbrev s_is_span : Stmt := topS 10
abbrev N_is_span : List Str := ["thing", "part"]
theorem sc_is_span : FnScope N_is_span ["thing"] (defScope s_is_span) := ⟨rfl, rfl, rfl, by decide +kernel, rfl, by decide +kernel, by decide +kernel⟩
abbrev s_are_boxes : Stmt := topS 11
abbrev N_are_boxes : List Str := ["thing", "many", "deep", "part"]
theorem sc_are_boxes : FnScope N_are_boxes ["thing", "many", "deep"] (defScope s_are_boxes) := ⟨rfl, rfl, rfl, by decide +kernel, rfl, by decide +kernel, by decide +kernel⟩
abbrev s_is_box_to : Stmt := topS 12
abbrev N_is_box_to : List Str := ["thing", "deep", "word", "part"]
theorem sc_is_box_to : FnScope N_is_box_to ["thing", "deep"] (defScope s_is_box_to) := ⟨rfl, rfl, rfl, by decide +kernel, rfl, by decide +kernel, by decide +kernel⟩
abbrev s_boxes_in : Stmt := topS 13
abbrev N_boxes_in : List Str := ["box"]
theorem sc_boxes_in : FnScope N_boxes_in ["box"] (defScope s_boxes_in) := ⟨rfl, rfl, rfl, by decide +kernel, rfl, by decide +kernel, by decide +kernel⟩
abbrev s_names_in : Stmt := topS 14
abbrev N_names_in : List Str := ["box", "found", "part"]
theorem sc_names_in : FnScope N_names_in ["box"] (defScope s_names_in) := ⟨rfl, rfl, rfl, by decide +kernel, rfl, by decide +kernel, by decide +kernel⟩
abbrev s_is_box : Stmt := topS 15
abbrev N_is_box : List Str := ["thing"]
theorem sc_is_box : FnScope N_is_box ["thing"] (defScope s_is_box) := ⟨rfl, rfl, rfl, by decide +kernel, rfl, by decide +kernel, by decide +kernel⟩
abbrev s_Lcell_at : Stmt := topS 17
abbrev N_Lcell_at : List Str := ["script", "k"]
theorem sc_Lcell_at : FnScope N_Lcell_at ["script", "k"] (defScope s_Lcell_at) := ⟨rfl, rfl, rfl, by decide +kernel, rfl, by decide +kernel, by decide +kernel⟩
abbrev s_Lmixed : Stmt := topS 18
abbrev N_Lmixed : List Str := ["script", "k", "drawn"]
theorem sc_Lmixed : FnScope N_Lmixed ["script", "k"] (defScope s_Lmixed) := ⟨rfl, rfl, rfl, by decide +kernel, rfl, by decide +kernel, by decide +kernel⟩
abbrev s_Ldrawn : Stmt := topS 19
abbrev N_Ldrawn : List Str := ["number", "k", "drawn"]
theorem sc_Ldrawn : FnScope N_Ldrawn ["number", "k"] (defScope s_Ldrawn) := ⟨rfl, rfl, rfl, by decide +kernel, rfl, by decide +kernel, by decide +kernel⟩
abbrev s_Lspan : Stmt := topS 20
abbrev N_Lspan : List Str := ["number", "least", "wish", "most"]
theorem sc_Lspan : FnScope N_Lspan ["number"] (defScope s_Lspan) := ⟨rfl, rfl, rfl, by decide +kernel, rfl, by decide +kernel, by decide +kernel⟩
abbrev s_Lbox : Stmt := topS 21
abbrev N_Lbox : List Str := ["number", "name", "deep", "kind", "many", "gap", "boxes", "rims", "k"]
theorem sc_Lbox : FnScope N_Lbox ["number", "name", "deep"] (defScope s_Lbox) := ⟨rfl, rfl, rfl, by decide +kernel, rfl, by decide +kernel, by decide +kernel⟩
abbrev s_Lin : Stmt := topS 22
abbrev N_Lin : List Str := ["box"]
theorem sc_Lin : FnScope N_Lin ["box"] (defScope s_Lin) := ⟨rfl, rfl, rfl, by decide +kernel, rfl, by decide +kernel, by decide +kernel⟩
abbrev s_Lfrom : Stmt := topS 23
abbrev N_Lfrom : List Str := ["thing", "low", "high"]
theorem sc_Lfrom : FnScope N_Lfrom ["thing", "low", "high"] (defScope s_Lfrom) := ⟨rfl, rfl, rfl, by decide +kernel, rfl, by decide +kernel, by decide +kernel⟩
abbrev s_Lis_span : Stmt := topS 24
abbrev N_Lis_span : List Str := ["thing"]
theorem sc_Lis_span : FnScope N_Lis_span ["thing"] (defScope s_Lis_span) := ⟨rfl, rfl, rfl, by decide +kernel, rfl, by decide +kernel, by decide +kernel⟩
abbrev s_Lis_name : Stmt := topS 25
abbrev N_Lis_name : List Str := ["thing", "sign"]
theorem sc_Lis_name : FnScope N_Lis_name ["thing"] (defScope s_Lis_name) := ⟨rfl, rfl, rfl, by decide +kernel, rfl, by decide +kernel, by decide +kernel⟩
abbrev s_Lnames : Stmt := topS 26
abbrev N_Lnames : List Str := ["box", "found", "part"]
theorem sc_Lnames : FnScope N_Lnames ["box"] (defScope s_Lnames) := ⟨rfl, rfl, rfl, by decide +kernel, rfl, by decide +kernel, by decide +kernel⟩
abbrev s_Lis_shape : Stmt := topS 27
abbrev N_Lis_shape : List Str := ["thing", "deep", "sizes", "boxes", "part"]
theorem sc_Lis_shape : FnScope N_Lis_shape ["thing", "deep"] (defScope s_Lis_shape) := ⟨rfl, rfl, rfl, by decide +kernel, rfl, by decide +kernel, by decide +kernel⟩
abbrev s_Lis_box : Stmt := topS 28
abbrev N_Lis_box : List Str := ["thing"]
theorem sc_Lis_box : FnScope N_Lis_box ["thing"] (defScope s_Lis_box) := ⟨rfl, rfl, rfl, by decide +kernel, rfl, by decide +kernel, by decide +kernel⟩
abbrev s_Lplaces_in : Stmt := topS 29
abbrev N_Lplaces_in : List Str := ["bent_one", "bent_way", "bent_ways", "bent_at", "bent_part"]
theorem sc_Lplaces_in : FnScope N_Lplaces_in ["bent_one", "bent_way"] (defScope s_Lplaces_in) := ⟨rfl, rfl, rfl, by decide +kernel, rfl, by decide +kernel, by decide +kernel⟩
abbrev s_Lotherwise : Stmt := topS 31
abbrev N_Lotherwise : List Str := ["bent_one", "bent_number", "bent_some"]
theorem sc_Lotherwise : FnScope N_Lotherwise ["bent_one", "bent_number"] (defScope s_Lotherwise) := ⟨rfl, rfl, rfl, by decide +kernel, rfl, by decide +kernel, by decide +kernel⟩
abbrev s_Lput_at : Stmt := topS 30
abbrev N_Lput_at : List Str := ["bent_one", "bent_way", "bent_by", "bent_at", "bent_part"]
theorem sc_Lput_at : FnScope N_Lput_at ["bent_one", "bent_way", "bent_by"] (defScope s_Lput_at) := ⟨rfl, rfl, rfl, by decide +kernel, rfl, by decide +kernel, by decide +kernel⟩
abbrev s_Lspoilt : Stmt := topS 32
abbrev N_Lspoilt : List Str := ["thing", "number", "deep", "bent_ways", "bent_way"]
theorem sc_Lspoilt : FnScope N_Lspoilt ["thing", "number", "deep"] (defScope s_Lspoilt) := ⟨rfl, rfl, rfl, by decide +kernel, rfl, by decide +kernel, by decide +kernel⟩
abbrev s_Lonce : Stmt := topS 33
abbrev N_Lonce : List Str := ["script", "number", "thing", "known", "edge", "others", "other", "found", "some", "name"]
theorem sc_Lonce : FnScope N_Lonce ["script"] (defScope s_Lonce) := ⟨rfl, rfl, rfl, by decide +kernel, rfl, by decide +kernel, by decide +kernel⟩
abbrev s_law : Stmt := topS 34
abbrev N_law : List Str := ["script", "bent_turn", "bent_cell"]
theorem sc_law : FnScope N_law ["script"] (defScope s_law) := ⟨rfl, rfl, rfl, by decide +kernel, rfl, by decide +kernel, by decide +kernel⟩
def LT : LamT := match (defBody s_Lspoilt).getLastD (.Pass ⟨0, 0, 0, 0⟩) with
  | .Return (some (.Call _ [_, _, .Lambda a b s _] _ _)) _ => ⟨a, b, s, lamQ, "number"⟩
  | _ => ⟨defArgs s_Lspoilt, .Name "" ⟨0, 0, 0, 0⟩, defScope s_Lspoilt, lamQ, "number"⟩
theorem lt_clo (cells : List (Str × Addr)) (c0 : Addr) (h : cells.lookup LT.y = some c0) : cloFrom cells LT.scope.names [] = [(LT.y, c0)] := by
  have e : cloFrom cells LT.scope.names [] = [(LT.y, (cells.lookup LT.y).getD 0)] := rfl
  rw [e, h]
  rfl
structure T (w : World) (K : PySem.W.Frag) (mg : Str → Option Value) where
  a_is_whole : Addr
  fd_is_whole : FuncData
  F_is_whole : FnP K "is_whole" s_is_whole a_is_whole fd_is_whole
  g_is_whole : mg "is_whole" = some (.ref a_is_whole)
  b_is_whole : Binds K fd_is_whole ["thing", "low", "high"] []
  a_is_name : Addr
  fd_is_name : FuncData
  F_is_name : FnP K "is_name" s_is_name a_is_name fd_is_name
  g_is_name : mg "is_name" = some (.ref a_is_name)
  b_is_name : Binds K fd_is_name ["thing"] []
  a_is_span : Addr
  fd_is_span : FuncData
  F_is_span : FnP K "is_span" s_is_span a_is_span fd_is_span
  g_is_span : mg "is_span" = some (.ref a_is_span)
  b_is_span : Binds K fd_is_span ["thing"] []
  a_are_boxes : Addr
  fd_are_boxes : FuncData
  F_are_boxes : FnP K "are_boxes" s_are_boxes a_are_boxes fd_are_boxes
  g_are_boxes : mg "are_boxes" = some (.ref a_are_boxes)
  b_are_boxes : Binds K fd_are_boxes ["thing", "many", "deep"] []
  a_is_box_to : Addr
  fd_is_box_to : FuncData
  F_is_box_to : FnP K "is_box_to" s_is_box_to a_is_box_to fd_is_box_to
  g_is_box_to : mg "is_box_to" = some (.ref a_is_box_to)
  b_is_box_to : Binds K fd_is_box_to ["thing", "deep"] []
  a_boxes_in : Addr
  fd_boxes_in : FuncData
  F_boxes_in : FnP K "boxes_in" s_boxes_in a_boxes_in fd_boxes_in
  g_boxes_in : mg "boxes_in" = some (.ref a_boxes_in)
  b_boxes_in : Binds K fd_boxes_in ["box"] []
  a_names_in : Addr
  fd_names_in : FuncData
  F_names_in : FnP K "names_in" s_names_in a_names_in fd_names_in
  g_names_in : mg "names_in" = some (.ref a_names_in)
  b_names_in : Binds K fd_names_in ["box"] []
  a_is_box : Addr
  fd_is_box : FuncData
  F_is_box : FnP K "is_box" s_is_box a_is_box fd_is_box
  g_is_box : mg "is_box" = some (.ref a_is_box)
  b_is_box : Binds K fd_is_box ["thing"] []
  a_Lcell_at : Addr
  fd_Lcell_at : FuncData
  F_Lcell_at : FnP K "_law_cell_at" s_Lcell_at a_Lcell_at fd_Lcell_at
  g_Lcell_at : mg "_law_cell_at" = some (.ref a_Lcell_at)
  b_Lcell_at : Binds K fd_Lcell_at ["script", "k"] []
  a_Lmixed : Addr
  fd_Lmixed : FuncData
  F_Lmixed : FnP K "_law_mixed" s_Lmixed a_Lmixed fd_Lmixed
  g_Lmixed : mg "_law_mixed" = some (.ref a_Lmixed)
  b_Lmixed : Binds K fd_Lmixed ["script", "k"] []
  a_Ldrawn : Addr
  fd_Ldrawn : FuncData
  F_Ldrawn : FnP K "_law_drawn" s_Ldrawn a_Ldrawn fd_Ldrawn
  g_Ldrawn : mg "_law_drawn" = some (.ref a_Ldrawn)
  b_Ldrawn : Binds K fd_Ldrawn ["number", "k"] []
  a_Lspan : Addr
  fd_Lspan : FuncData
  F_Lspan : FnP K "_law_span" s_Lspan a_Lspan fd_Lspan
  g_Lspan : mg "_law_span" = some (.ref a_Lspan)
  b_Lspan : Binds K fd_Lspan ["number"] []
  a_Lbox : Addr
  fd_Lbox : FuncData
  F_Lbox : FnP K "_law_box" s_Lbox a_Lbox fd_Lbox
  g_Lbox : mg "_law_box" = some (.ref a_Lbox)
  b_Lbox : Binds K fd_Lbox ["number", "name", "deep"] []
  a_Lin : Addr
  fd_Lin : FuncData
  F_Lin : FnP K "_law_in" s_Lin a_Lin fd_Lin
  g_Lin : mg "_law_in" = some (.ref a_Lin)
  b_Lin : Binds K fd_Lin ["box"] []
  a_Lfrom : Addr
  fd_Lfrom : FuncData
  F_Lfrom : FnP K "_law_from" s_Lfrom a_Lfrom fd_Lfrom
  g_Lfrom : mg "_law_from" = some (.ref a_Lfrom)
  b_Lfrom : Binds K fd_Lfrom ["thing", "low", "high"] []
  a_Lis_span : Addr
  fd_Lis_span : FuncData
  F_Lis_span : FnP K "_law_is_span" s_Lis_span a_Lis_span fd_Lis_span
  g_Lis_span : mg "_law_is_span" = some (.ref a_Lis_span)
  b_Lis_span : Binds K fd_Lis_span ["thing"] []
  a_Lis_name : Addr
  fd_Lis_name : FuncData
  F_Lis_name : FnP K "_law_is_name" s_Lis_name a_Lis_name fd_Lis_name
  g_Lis_name : mg "_law_is_name" = some (.ref a_Lis_name)
  b_Lis_name : Binds K fd_Lis_name ["thing"] []
  a_Lnames : Addr
  fd_Lnames : FuncData
  F_Lnames : FnP K "_law_names" s_Lnames a_Lnames fd_Lnames
  g_Lnames : mg "_law_names" = some (.ref a_Lnames)
  b_Lnames : Binds K fd_Lnames ["box"] []
  a_Lis_shape : Addr
  fd_Lis_shape : FuncData
  F_Lis_shape : FnP K "_law_is_shape" s_Lis_shape a_Lis_shape fd_Lis_shape
  g_Lis_shape : mg "_law_is_shape" = some (.ref a_Lis_shape)
  b_Lis_shape : Binds K fd_Lis_shape ["thing", "deep"] []
  a_Lis_box : Addr
  fd_Lis_box : FuncData
  F_Lis_box : FnP K "_law_is_box" s_Lis_box a_Lis_box fd_Lis_box
  g_Lis_box : mg "_law_is_box" = some (.ref a_Lis_box)
  b_Lis_box : Binds K fd_Lis_box ["thing"] []
  a_Lplaces_in : Addr
  fd_Lplaces_in : FuncData
  F_Lplaces_in : FnP K "_law_places_in" s_Lplaces_in a_Lplaces_in fd_Lplaces_in
  g_Lplaces_in : mg "_law_places_in" = some (.ref a_Lplaces_in)
  b_Lplaces_in : Binds K fd_Lplaces_in ["bent_one", "bent_way"] []
  a_Lotherwise : Addr
  fd_Lotherwise : FuncData
  F_Lotherwise : FnP K "_law_otherwise" s_Lotherwise a_Lotherwise fd_Lotherwise
  g_Lotherwise : mg "_law_otherwise" = some (.ref a_Lotherwise)
  b_Lotherwise : Binds K fd_Lotherwise ["bent_one", "bent_number"] []
  a_Lput_at : Addr
  fd_Lput_at : FuncData
  F_Lput_at : FnP K "_law_put_at" s_Lput_at a_Lput_at fd_Lput_at
  g_Lput_at : mg "_law_put_at" = some (.ref a_Lput_at)
  b_Lput_at : Binds K fd_Lput_at ["bent_one", "bent_way", "bent_by"] []
  a_Lspoilt : Addr
  fd_Lspoilt : FuncData
  F_Lspoilt : FnP K "_law_spoilt" s_Lspoilt a_Lspoilt fd_Lspoilt
  g_Lspoilt : mg "_law_spoilt" = some (.ref a_Lspoilt)
  b_Lspoilt : Binds K fd_Lspoilt ["thing", "number", "deep"] []
  a_Lonce : Addr
  fd_Lonce : FuncData
  F_Lonce : FnP K "_law_once" s_Lonce a_Lonce fd_Lonce
  g_Lonce : mg "_law_once" = some (.ref a_Lonce)
  b_Lonce : Binds K fd_Lonce ["script"] []
  a_law : Addr
  fd_law : FuncData
  F_law : FnP K "law" s_law a_law fd_law
  g_law : mg "law" = some (.ref a_law)
  b_law : Binds K fd_law ["script"] []
  lc : Addr
  lP : Addr
  lhc : fd_Lspoilt.code = .ref lc
  ltab : tabR K lP
  m_isinstance : mg "isinstance" = none
  m_bool : mg "bool" = none
  m_int : mg "int" = none
  m_all : mg "all" = none
  m_len : mg "len" = none
  m_str : mg "str" = none
  m_tuple : mg "tuple" = none
  m_set : mg "set" = none
  m_range : mg "range" = none
  m_min : mg "min" = none
  m_enumerate : mg "enumerate" = none
  m_list : mg "list" = none
  k_LETTERS : Tok
  c_LETTERS : mg "LETTERS" = some (.str "abcdefghijklmnopqrstuvwxyz" k_LETTERS)
  k_LONGEST_NAME : Tok
  c_LONGEST_NAME : mg "LONGEST_NAME" = some (.int 4 k_LONGEST_NAME)
  k_FAR : Tok
  c_FAR : mg "FAR" = some (.int 999 k_FAR)
  k_MOST_SHARE : Tok
  c_MOST_SHARE : mg "MOST_SHARE" = some (.int 9 k_MOST_SHARE)
  k_MOST_BOXES : Tok
  c_MOST_BOXES : mg "MOST_BOXES" = some (.int 4 k_MOST_BOXES)
  k_MOST_PILE : Tok
  c_MOST_PILE : mg "MOST_PILE" = some (.int 3 k_MOST_PILE)
  k_DEEPEST : Tok
  c_DEEPEST : mg "DEEPEST" = some (.int 4 k_DEEPEST)
def D_is_whole : FS := (sRet (andV (c1 (isiD .int) (vr 0)) (andV (notV (c1 (isiD .bool) (vr 0))) (chD leD leD (vr 1) (vr 0) (vr 2)))))
def M_is_whole : List D → Option D := runF 3 D_is_whole
def D_is_name : FS := (sRet (andV (c1 (isiD .str) (vr 0)) (andV (chD leD leD (cst (.int 1)) (c1 lenD (vr 0)) (cst (.int 4))) (c1 allD (lstE (lcD (itA (vr 0)) (bNm 1) yesT (c2 inD (vr 1) (cst (.str "abcdefghijklmnopqrstuvwxyz"))) [1]))))))
def M_is_name : List D → Option D := runF 2 D_is_name
def D_is_span : FS := (sq (sIf (orT (notT (tst (c1 (isiD .tuple) (vr 0)))) (orT (tst (c2 neD (c1 lenD (vr 0)) (cst (.int 5)))) (notT (tst (c1 allD (lstE (lcD (itA (slD (vr 0) noP (yesP (cst (.int 2))))) (bNm 1) yesT (cA M_is_whole (consA (vr 1) (consA (cst (.int 0)) (consA (cst (.int 999)) nilA)))) [1]))))))) (sRet (cst (.bool false))) sNx)
    (sq (sIf (orT (tst (c2 gtD (c2 ixD (vr 0) (cst (.int 0))) (c2 ixD (vr 0) (cst (.int 1))))) (notT (tst (c1 allD (lstE (lcD (itA (slD (vr 0) (yesP (cst (.int 3))) noP)) (bNm 1) yesT (cA M_is_whole (consA (vr 1) (consA (cst (.int 0)) (consA (cst (.int 9)) nilA)))) [1])))))) (sRet (cst (.bool false))) sNx)
    (sRet (orV (c1 isND (c2 ixD (vr 0) (cst (.int 2)))) (cA M_is_whole (consA (c2 ixD (vr 0) (cst (.int 2))) (consA (c2 ixD (vr 0) (cst (.int 1))) (consA (cst (.int 999)) nilA))))))))
def M_is_span : List D → Option D := runF 2 D_is_span
def C_are_boxes_1 (R1 R2 : List D → Option D) : FE := (cA R2 (consA (vr 3) (consA (vr 2) nilA)))
def D_are_boxes (R1 R2 : List D → Option D) : FS := (sq (sIf (orT (notT (tst (c1 (isiD .tuple) (vr 0)))) (notT (tst (chD leD leD (cst (.int 1)) (c1 lenD (vr 0)) (vr 1))))) (sRet (cst (.bool false))) sNx)
    (sRet (c1 allD (lstE (lcD (itA (vr 0)) (bNm 3) yesT (C_are_boxes_1 R1 R2) [3])))))
def C_is_box_to_1 (R1 R2 : List D → Option D) : FE := (cA M_is_whole (consA (vr 3) (consA (cst (.int 0)) (consA (cst (.int 999)) nilA))))
def D_is_box_to (R1 R2 : List D → Option D) : FS := (sq (sIf (orT (tst (c2 eqD (vr 1) (cst (.int 0)))) (orT (notT (tst (c1 (isiD .tuple) (vr 0)))) (orT (tst (c2 ltD (c1 lenD (vr 0)) (cst (.int 3)))) (notT (tst (c1 (isiD .str) (c2 ixD (vr 0) (cst (.int 0))))))))) (sRet (cst (.bool false))) sNx)
    (sq (sIf (notT (tst (cA M_is_name (consA (c2 ixD (vr 0) (cst (.int 1))) nilA)))) (sRet (cst (.bool false))) sNx)
    (sq (sAsg 2 (c2 ixD (vr 0) (cst (.int 0))))
    (sq (sIf (tst (c2 eqD (vr 2) (cst (.str "leaf")))) (sRet (andV (c2 eqD (c1 lenD (vr 0)) (cst (.int 4))) (andV (cA M_is_span (consA (c2 ixD (vr 0) (cst (.int 2))) nilA)) (cA M_is_span (consA (c2 ixD (vr 0) (cst (.int 3))) nilA))))) sNx)
    (sq (sIf (tst (c2 inD (vr 2) (tup (consA (cst (.str "row")) (consA (cst (.str "col")) nilA))))) (sRet (andV (c2 eqD (c1 lenD (vr 0)) (cst (.int 4))) (andV (cA M_is_whole (consA (c2 ixD (vr 0) (cst (.int 2))) (consA (cst (.int 0)) (consA (cst (.int 999)) nilA)))) (cA R1 (consA (c2 ixD (vr 0) (cst (.int 3))) (consA (cst (.int 4)) (consA (c2 subD (vr 1) (cst (.int 1))) nilA))))))) sNx)
    (sq (sIf (tst (c2 eqD (vr 2) (cst (.str "pile")))) (sRet (andV (c2 eqD (c1 lenD (vr 0)) (cst (.int 3))) (cA R1 (consA (c2 ixD (vr 0) (cst (.int 2))) (consA (cst (.int 3)) (consA (c2 subD (vr 1) (cst (.int 1))) nilA)))))) sNx)
    (sq (sIf (orT (tst (c2 neD (vr 2) (cst (.str "rim")))) (tst (c2 neD (c1 lenD (vr 0)) (cst (.int 7))))) (sRet (cst (.bool false))) sNx)
    (sRet (andV (c1 allD (lstE (lcD (itA (slD (vr 0) (yesP (cst (.int 2))) (yesP (cst (.int 6))))) (bNm 3) yesT (C_is_box_to_1 R1 R2) [3]))) (cA R2 (consA (c2 ixD (vr 0) (cst (.int 6))) (consA (c2 subD (vr 1) (cst (.int 1))) nilA))))))))))))
def MM_are_boxes : Nat → (List D → Option D) × (List D → Option D)
  | 0 => (fun _ => none, fun _ => none)
  | n + 1 => (runF 4 (D_are_boxes (MM_are_boxes n).1 (MM_are_boxes n).2), runF 4 (D_is_box_to (MM_are_boxes n).1 (MM_are_boxes n).2))
def M_are_boxes (n : Nat) : List D → Option D := (MM_are_boxes n).1
def M_is_box_to (n : Nat) : List D → Option D := (MM_are_boxes n).2
def D_boxes_in : FS := (sq (sIf (tst (c2 eqD (c2 ixD (vr 0) (cst (.int 0))) (cst (.str "leaf")))) (sRet (tup nilA)) sNx)
    (sq (sIf (tst (c2 eqD (c2 ixD (vr 0) (cst (.int 0))) (cst (.str "rim")))) (sRet (tup (consA (c2 ixD (vr 0) (cst (.int 6))) nilA))) sNx)
    (sRet (c2 ixD (vr 0) (c1 negD (cst (.int 1)))))))
def M_boxes_in : List D → Option D := runF 1 D_boxes_in
def B_names_in_1 (R : List D → Option D) : FS := (sAsg 1 (c2 addD (vr 1) (cA R (consA (vr 2) nilA))))
def D_names_in (R : List D → Option D) : FS := (sq (sAsg 1 (tup (consA (c2 ixD (vr 0) (cst (.int 1))) nilA)))
    (sq (sFor (itA (cA M_boxes_in (consA (vr 0) nilA))) (bNm 2) (B_names_in_1 R))
    (sRet (vr 1))))
def M_names_in : Nat → List D → Option D
  | 0 => fun _ => none
  | n + 1 => runF 3 (D_names_in (M_names_in n))
def D_is_box : FS := (sq (sIf (notT (tst (cA (M_is_box_to 12) (consA (vr 0) (consA (cst (.int 4)) nilA))))) (sRet (cst (.bool false))) sNx)
    (sRet (c2 eqD (c1 lensetD (cA (M_names_in 12) (consA (vr 0) nilA))) (c1 lenD (cA (M_names_in 12) (consA (vr 0) nilA))))))
def M_is_box : List D → Option D := runF 1 D_is_box
def D_Lcell_at : FS := (sq (sIf (tst (c2 ltD (vr 1) (c1 lenD (vr 0)))) (sRet (c2 ixD (vr 0) (vr 1))) sNx)
    (sRet (cst (.int 0))))
def M_Lcell_at : List D → Option D := runF 2 D_Lcell_at
def D_Lmixed : FS := (sq (sAsg 2 (c2 modD (c2 mulD (c2 addD (c2 addD (cA M_Lcell_at (consA (vr 0) (consA (vr 1) nilA))) (c2 mulD (cst (.int 7919)) (vr 1))) (cst (.int 1))) (cst (.int 48271))) (cst (.int 2147483647))))
    (sRet (c2 modD (c2 addD (c2 addD (c2 mulD (vr 2) (vr 2)) (c2 mulD (cst (.int 7)) (vr 2))) (vr 1)) (cst (.int 2147483629)))))
def M_Lmixed : List D → Option D := runF 3 D_Lmixed
def D_Ldrawn : FS := (sq (sAsg 2 (c2 modD (c2 mulD (c2 addD (c2 addD (vr 0) (c2 mulD (cst (.int 104729)) (vr 1))) (cst (.int 17))) (cst (.int 69621))) (cst (.int 2147483647))))
    (sRet (c2 modD (c2 addD (c2 addD (c2 mulD (vr 2) (vr 2)) (c2 mulD (cst (.int 3)) (vr 2))) (vr 1)) (cst (.int 2147483629)))))
def M_Ldrawn : List D → Option D := runF 3 D_Ldrawn
def D_Lspan : FS := (sq (sAsg 1 (c2 modD (vr 0) (c2 ixD (tup (consA (cst (.int 21)) (consA (cst (.int 6)) (consA (cst (.int 200)) nilA)))) (c2 modD (c2 fdivD (vr 0) (cst (.int 8))) (cst (.int 3))))))
    (sq (sAsg 2 (c2 addD (vr 1) (c2 modD (c2 fdivD (vr 0) (cst (.int 64))) (c2 ixD (tup (consA (cst (.int 21)) (consA (cst (.int 1)) (consA (cst (.int 90)) nilA)))) (c2 modD (c2 fdivD (vr 0) (cst (.int 512))) (cst (.int 3)))))))
    (sq (sAsg 3 (c2 ixD (lstE (consA (cst .none) (consA (c2 addD (vr 2) (c2 modD (c2 fdivD (vr 0) (cst (.int 4096))) (cst (.int 30)))) (consA (vr 2) (consA (c2 addD (vr 2) (c2 modD (c2 fdivD (vr 0) (cst (.int 4096))) (cst (.int 300)))) nilA))))) (c2 modD (c2 fdivD (vr 0) (cst (.int 131072))) (cst (.int 4)))))
    (sRet (tup (consA (vr 1) (consA (vr 2) (consA (vr 3) (consA (c2 ixD (tup (consA (cst (.int 0)) (consA (cst (.int 1)) (consA (cst (.int 2)) (consA (cst (.int 3)) nilA))))) (c2 modD (c2 fdivD (vr 0) (cst (.int 524288))) (cst (.int 4)))) (consA (c2 ixD (tup (consA (cst (.int 1)) (consA (cst (.int 0)) (consA (cst (.int 2)) (consA (cst (.int 9)) nilA))))) (c2 modD (c2 fdivD (vr 0) (cst (.int 2097152))) (cst (.int 4)))) nilA))))))))))
def M_Lspan : List D → Option D := runF 4 D_Lspan
def M_Lbox : Nat → List D → Option D
  | 0 => fun _ => none
  | n + 1 => runF 9 ((sq (sAsg 3 (c2 modD (vr 0) (cst (.int 8))))
    (sq (sIf (orT (tst (c2 eqD (vr 2) (cst (.int 1)))) (tst (c2 gtD (vr 3) (cst (.int 5))))) (sRet (tup (consA (cst (.str "leaf")) (consA (vr 1) (consA (cA M_Lspan (consA (c2 fdivD (cA M_Ldrawn (consA (vr 0) (consA (cst (.int 1)) nilA))) (cst (.int 4))) nilA)) (consA (cA M_Lspan (consA (c2 fdivD (cA M_Ldrawn (consA (vr 0) (consA (cst (.int 2)) nilA))) (cst (.int 4))) nilA)) nilA)))))) sNx)
    (sq (sAsg 4 (c2 addD (cst (.int 1)) (c2 modD (c2 fdivD (vr 0) (cst (.int 8))) (cst (.int 4)))))
    (sq (sAsg 5 (c2 ixD (tup (consA (cst (.int 0)) (consA (cst (.int 3)) (consA (cst (.int 1)) (consA (cst (.int 10)) nilA))))) (c2 modD (c2 fdivD (vr 0) (cst (.int 64))) (cst (.int 4)))))
    (sq (sIf (tst (c2 eqD (vr 3) (cst (.int 4)))) (sq (sAsg 7 (c1 tupleD (lstE (lcD (rg1 (cst (.int 4))) (bNm 8) yesT (c2 modD (c2 fdivD (cA M_Ldrawn (consA (vr 0) (consA (c2 addD (cst (.int 3)) (vr 8)) nilA))) (cst (.int 4))) (cst (.int 7))) [8]))))
    (sRet (c2 addD (c2 addD (tup (consA (cst (.str "rim")) (consA (vr 1) nilA))) (vr 7)) (tup (consA (cA (M_Lbox n) (consA (c2 fdivD (cA M_Ldrawn (consA (vr 0) (consA (cst (.int 7)) nilA))) (cst (.int 4))) (consA (c2 addD (vr 1) (cst (.str "a"))) (consA (c2 subD (vr 2) (cst (.int 1))) nilA)))) nilA))))) sNx)
    (sq (sIf (tst (c2 eqD (vr 3) (cst (.int 5)))) (sAsg 4 (c2 min2D (vr 4) (cst (.int 3)))) sNx)
    (sq (sAsg 6 (c1 tupleD (lstE (lcD (rg1 (vr 4)) (bNm 8) yesT (cA (M_Lbox n) (consA (c2 fdivD (cA M_Ldrawn (consA (vr 0) (consA (c2 addD (cst (.int 10)) (vr 8)) nilA))) (cst (.int 4))) (consA (c2 addD (vr 1) (c2 ixD (cst (.str "abcd")) (vr 8))) (consA (c2 subD (vr 2) (cst (.int 1))) nilA)))) [8]))))
    (sq (sIf (tst (c2 eqD (vr 3) (cst (.int 5)))) (sRet (tup (consA (cst (.str "pile")) (consA (vr 1) (consA (vr 6) nilA))))) sNx)
    (sRet (tup (consA (c2 ixD (tup (consA (cst (.str "row")) (consA (cst (.str "col")) nilA))) (c2 modD (vr 3) (cst (.int 2)))) (consA (vr 1) (consA (vr 5) (consA (vr 6) nilA)))))))))))))))
def D_Lin : FS := (sq (sIf (tst (c2 eqD (c2 ixD (vr 0) (cst (.int 0))) (cst (.str "leaf")))) (sRet (tup nilA)) sNx)
    (sRet (c2 ixD (lstE (consA (c2 ixD (vr 0) (c2 subD (c1 lenD (vr 0)) (cst (.int 1)))) (consA (slD (vr 0) (yesP (cst (.int 6))) noP) nilA))) (c1 intD (c2 eqD (c2 ixD (vr 0) (cst (.int 0))) (cst (.str "rim")))))))
def M_Lin : List D → Option D := runF 1 D_Lin
def D_Lfrom : FS := (sRet (andV (c1 (isiD .int) (vr 0)) (andV (notV (c1 (isiD .bool) (vr 0))) (chD leD leD (vr 1) (vr 0) (vr 2)))))
def M_Lfrom : List D → Option D := runF 3 D_Lfrom
def D_Lis_span : FS := (sq (sIf (orT (notT (tst (c1 (isiD .tuple) (vr 0)))) (tst (c2 neD (c1 lenD (vr 0)) (cst (.int 5))))) (sRet (cst (.bool false))) sNx)
    (sq (sIf (orT (notT (tst (cA M_Lfrom (consA (c2 ixD (vr 0) (cst (.int 0))) (consA (cst (.int 0)) (consA (cst (.int 999)) nilA)))))) (notT (tst (cA M_Lfrom (consA (c2 ixD (vr 0) (cst (.int 1))) (consA (c2 ixD (vr 0) (cst (.int 0))) (consA (cst (.int 999)) nilA))))))) (sRet (cst (.bool false))) sNx)
    (sq (sIf (andT (tst (c1 notND (c2 ixD (vr 0) (cst (.int 2))))) (notT (tst (cA M_Lfrom (consA (c2 ixD (vr 0) (cst (.int 2))) (consA (c2 ixD (vr 0) (cst (.int 1))) (consA (cst (.int 999)) nilA))))))) (sRet (cst (.bool false))) sNx)
    (sRet (andV (cA M_Lfrom (consA (c2 ixD (vr 0) (cst (.int 3))) (consA (cst (.int 0)) (consA (cst (.int 9)) nilA)))) (cA M_Lfrom (consA (c2 ixD (vr 0) (cst (.int 4))) (consA (cst (.int 0)) (consA (cst (.int 9)) nilA)))))))))
def M_Lis_span : List D → Option D := runF 1 D_Lis_span
def T_Lis_name_1 : FB := (notT (tst (chD leD leD (cst (.str "a")) (vr 1) (cst (.str "z")))))
def C_Lis_name_1 : FE := (vr 1)
def D_Lis_name : FS := (sq (sIf (orT (notT (tst (c1 (isiD .str) (vr 0)))) (notT (tst (chD leD leD (cst (.int 1)) (c1 lenD (vr 0)) (cst (.int 4)))))) (sRet (cst (.bool false))) sNx)
    (sRet (c2 eqD (lstE (lcD (itA (vr 0)) (bNm 1) T_Lis_name_1 C_Lis_name_1 [1])) (lstE nilA))))
def M_Lis_name : List D → Option D := runF 2 D_Lis_name
def B_Lnames_1 (R : List D → Option D) : FS := (sAsg 1 (c2 addD (vr 1) (cA R (consA (vr 2) nilA))))
def D_Lnames (R : List D → Option D) : FS := (sq (sAsg 1 (tup (consA (c2 ixD (vr 0) (cst (.int 1))) nilA)))
    (sq (sFor (itA (cA M_Lin (consA (vr 0) nilA))) (bNm 2) (B_Lnames_1 R))
    (sRet (vr 1))))
def M_Lnames : Nat → List D → Option D
  | 0 => fun _ => none
  | n + 1 => runF 3 (D_Lnames (M_Lnames n))
def T_Lis_shape_1 (R : List D → Option D) : FB := (notT (tst (cA M_Lfrom (consA (vr 4) (consA (cst (.int 0)) (consA (cst (.int 999)) nilA))))))
def C_Lis_shape_1 (R : List D → Option D) : FE := (vr 4)
def T_Lis_shape_2 (R : List D → Option D) : FB := (notT (tst (cA R (consA (vr 4) (consA (c2 subD (vr 1) (cst (.int 1))) nilA)))))
def C_Lis_shape_2 (R : List D → Option D) : FE := (vr 4)
def D_Lis_shape (R : List D → Option D) : FS := (sq (sIf (orT (tst (c2 eqD (vr 1) (cst (.int 0)))) (orT (notT (tst (c1 (isiD .tuple) (vr 0)))) (orT (tst (c2 ltD (c1 lenD (vr 0)) (cst (.int 3)))) (notT (tst (c1 (isiD .str) (c2 ixD (vr 0) (cst (.int 0))))))))) (sRet (cst (.bool false))) sNx)
    (sq (sAsg 2 (dspD (consK (cst (.str "leaf")) (cst (.int 4)) (consK (cst (.str "row")) (cst (.int 4)) (consK (cst (.str "col")) (cst (.int 4)) (consK (cst (.str "pile")) (cst (.int 3)) (consK (cst (.str "rim")) (cst (.int 7)) nilK)))))))
    (sq (sIf (orT (tst (c2 neD (c1 lenD (vr 0)) (c3 dgetD (vr 2) (c2 ixD (vr 0) (cst (.int 0))) (cst (.int 0))))) (notT (tst (cA M_Lis_name (consA (c2 ixD (vr 0) (cst (.int 1))) nilA))))) (sRet (cst (.bool false))) sNx)
    (sq (sIf (tst (c2 eqD (c2 ixD (vr 0) (cst (.int 0))) (cst (.str "leaf")))) (sRet (andV (cA M_Lis_span (consA (c2 ixD (vr 0) (cst (.int 2))) nilA)) (cA M_Lis_span (consA (c2 ixD (vr 0) (cst (.int 3))) nilA)))) sNx)
    (sq (sIf (tst (c2 eqD (c2 ixD (vr 0) (cst (.int 0))) (cst (.str "rim")))) (sq (sIf (tst (c2 neD (lstE (lcD (itA (slD (vr 0) (yesP (cst (.int 2))) (yesP (cst (.int 6))))) (bNm 4) (T_Lis_shape_1 R) (C_Lis_shape_1 R) [4])) (lstE nilA))) (sRet (cst (.bool false))) sNx)
    (sRet (cA R (consA (c2 ixD (vr 0) (cst (.int 6))) (consA (c2 subD (vr 1) (cst (.int 1))) nilA))))) sNx)
    (sq (sAsg 3 (c2 ixD (vr 0) (c2 subD (c1 lenD (vr 0)) (cst (.int 1)))))
    (sq (sIf (orT (notT (tst (c1 (isiD .tuple) (vr 3)))) (notT (tst (chD leD leD (cst (.int 1)) (c1 lenD (vr 3)) (c2 ixD (lstE (consA (cst (.int 4)) (consA (cst (.int 3)) nilA))) (c1 intD (c2 eqD (c2 ixD (vr 0) (cst (.int 0))) (cst (.str "pile"))))))))) (sRet (cst (.bool false))) sNx)
    (sq (sIf (andT (tst (c2 neD (c2 ixD (vr 0) (cst (.int 0))) (cst (.str "pile")))) (notT (tst (cA M_Lfrom (consA (c2 ixD (vr 0) (cst (.int 2))) (consA (cst (.int 0)) (consA (cst (.int 999)) nilA))))))) (sRet (cst (.bool false))) sNx)
    (sRet (c2 eqD (lstE (lcD (itA (vr 3)) (bNm 4) (T_Lis_shape_2 R) (C_Lis_shape_2 R) [4])) (lstE nilA)))))))))))
def M_Lis_shape : Nat → List D → Option D
  | 0 => fun _ => none
  | n + 1 => runF 5 (D_Lis_shape (M_Lis_shape n))
def D_Lis_box : FS := (sRet (andV (cA (M_Lis_shape 12) (consA (vr 0) (consA (cst (.int 4)) nilA))) (c2 eqD (c1 lensetD (cA (M_Lnames 12) (consA (vr 0) nilA))) (c1 lenD (cA (M_Lnames 12) (consA (vr 0) nilA))))))
def M_Lis_box : List D → Option D := runF 1 D_Lis_box
def B_Lplaces_in_1 (R : List D → Option D) : FS := (sAsg 2 (c2 addD (vr 2) (cA R (consA (vr 4) (consA (c2 addD (vr 1) (tup (consA (vr 3) nilA))) nilA)))))
def D_Lplaces_in (R : List D → Option D) : FS := (sq (sAsg 2 (lstE (consA (vr 1) nilA)))
    (sq (sIf (tst (c1 (isiD .tuple) (vr 0))) (sFor (enA (vr 0)) (bTp [(bNm 3), (bNm 4)]) (B_Lplaces_in_1 R)) sNx)
    (sRet (vr 2))))
def M_Lplaces_in : Nat → List D → Option D
  | 0 => fun _ => none
  | n + 1 => runF 5 (D_Lplaces_in (M_Lplaces_in n))
def D_Lotherwise : FS := (sq (sIf (tst (c1 (isiD .tuple) (vr 0))) (sq (sAsg 2 (lstE (consA (lstE (seqA (vr 0))) (consA (lstE (seqA (vr 0))) (consA (c2 addD (vr 0) (slD (vr 0) noP (yesP (cst (.int 1))))) nilA)))))
    (sRet (c2 ixD (c2 addD (vr 2) (lstE (consA (slD (vr 0) (yesP (cst (.int 1))) noP) (consA (lstE (consA (vr 0) nilA)) nilA)))) (c2 modD (vr 1) (cst (.int 5)))))) sNx)
    (sq (sIf (tst (c1 (isiD .bool) (vr 0))) (sRet (c2 ixD (lstE (consA (c1 intD (vr 0)) (consA (cst .none) (consA (c1 strD (vr 0)) nilA)))) (c2 modD (vr 1) (cst (.int 3))))) sNx)
    (sq (sIf (tst (c1 (isiD .int) (vr 0))) (sq (sAsg 2 (lstE (consA (cst (.bool true)) (consA (cst .none) (consA (c1 strD (vr 0)) (consA (tup (consA (vr 0) nilA)) nilA))))))
    (sRet (c2 ixD (c2 addD (vr 2) (lstE (consA (c2 subD (c1 negD (cst (.int 1))) (vr 0)) nilA))) (c2 modD (vr 1) (cst (.int 5)))))) sNx)
    (sRet (c2 ixD (lstE (consA (cst .none) (consA (tup (consA (vr 0) nilA)) (consA (lstE (consA (vr 0) nilA)) (consA (cst (.str "")) (consA (cst (.int 0)) nilA)))))) (c2 modD (vr 1) (cst (.int 5))))))))
def M_Lotherwise : List D → Option D := runF 3 D_Lotherwise
def D_Lput_at (R : Int → List D → Option D) : FS := (sq (sIf (tst (c2 eqD (vr 1) (tup nilA))) (sRet (fnE 2 LT (cA M_Lotherwise (consA (vr 0) (consA (c2 fdivD (vr 1) (cst (.int 4096))) nilA))) (vr 0))) sNx)
    (sq (sAsg 3 (c2 ixD (vr 1) (cst (.int 0))))
    (sq (sAsg 4 (recE 2 LT R (c2 ixD (vr 0) (vr 3)) (slD (vr 1) (yesP (cst (.int 1))) noP)))
    (sRet (c2 addD (c2 addD (slD (vr 0) noP (yesP (vr 3))) (tup (consA (vr 4) nilA))) (slD (vr 0) (yesP (c2 addD (vr 3) (cst (.int 1)))) noP))))))
def M_Lput_at : Nat → Int → List D → Option D
  | 0 => fun _ _ => none
  | n + 1 => runFF 2 LT (D_Lput_at (M_Lput_at n))
def D_Lspoilt : FS := (sq (sAsg 3 (cA (M_Lplaces_in 12) (consA (vr 0) (consA (tup nilA) nilA))))
    (sq (sAsg 4 (c2 ixD (vr 3) (c2 modD (vr 1) (c1 lenD (vr 3)))))
    (sRet (lamE 1 (M_Lput_at 12) (vr 0) (vr 4)))))
def M_Lspoilt : List D → Option D := runF 5 D_Lspoilt
def C_Lonce_1 : FE := (tup (consA (cst (.str "leaf")) (consA (vr 9) (consA (tup (consA (cst (.int 0)) (consA (cst (.int 1)) (consA (cst (.int 2)) (consA (cst (.int 3)) (consA (cst (.int 4)) nilA)))))) (consA (tup (consA (cst (.int 0)) (consA (cst (.int 1)) (consA (cst .none) (consA (cst (.int 3)) (consA (cst (.int 4)) nilA)))))) nilA)))))
def D_Lonce : FS := (sq (sAsg 1 (cA M_Lmixed (consA (vr 0) (consA (cst (.int 0)) nilA))))
    (sq (sAsg 2 (cA (M_Lbox 12) (consA (c2 fdivD (vr 1) (cst (.int 8))) (consA (cst (.str "a")) (consA (c2 addD (cst (.int 1)) (c2 modD (vr 1) (cst (.int 5)))) nilA)))))
    (sq (sAsg 3 (cA (M_Lbox 12) (consA (c2 fdivD (vr 1) (cst (.int 8))) (consA (cst (.str "a")) (consA (c2 addD (cst (.int 1)) (c2 modD (vr 1) (cst (.int 4)))) nilA)))))
    (sq (sIf (tst (c2 neD (cA (M_names_in 12) (consA (vr 3) nilA)) (cA (M_Lnames 12) (consA (vr 3) nilA)))) (sRet (cst (.bool false))) sNx)
    (sq (sIf (tst (c2 gtD (c2 modD (c2 fdivD (vr 1) (cst (.int 8))) (cst (.int 3))) (cst (.int 0)))) (sAsg 2 (cA M_Lspoilt (consA (vr 2) (consA (cA M_Lmixed (consA (vr 0) (consA (cst (.int 1)) nilA))) (consA (c2 modD (c2 fdivD (vr 1) (cst (.int 32))) (cst (.int 7))) nilA))))) sNx)
    (sq (sIf (tst (c2 eqD (c2 modD (c2 fdivD (vr 1) (cst (.int 64))) (cst (.int 5))) (cst (.int 1)))) (sq (sAsg 6 (cA (M_Lbox 12) (consA (cA M_Lmixed (consA (vr 0) (consA (cst (.int 2)) nilA))) (consA (cst (.str "a")) (consA (cst (.int 2)) nilA)))))
    (sAsg 2 (tup (consA (cst (.str "row")) (consA (c2 ixD (tup (consA (cst (.str "z")) (consA (cst (.str "a")) nilA))) (c2 modD (c2 fdivD (vr 1) (cst (.int 512))) (cst (.int 2)))) (consA (cst (.int 1)) (consA (c2 mulD (tup (consA (vr 6) nilA)) (c2 addD (cst (.int 1)) (c2 modD (c2 fdivD (vr 1) (cst (.int 1024))) (cst (.int 2))))) nilA))))))) sNx)
    (sq (sIf (tst (c2 eqD (c2 modD (c2 fdivD (vr 1) (cst (.int 64))) (cst (.int 5))) (cst (.int 2)))) (sAsg 2 (tup (consA (cst (.str "pile")) (consA (cst (.str "z")) (consA (tup (consA (cA (M_Lbox 12) (consA (cA M_Lmixed (consA (vr 0) (consA (cst (.int 2)) nilA))) (consA (cst (.str "a")) (consA (c2 addD (cst (.int 1)) (c2 modD (c2 fdivD (vr 1) (cst (.int 512))) (cst (.int 4)))) nilA)))) nilA)) nilA))))) sNx)
    (sq (sIf (tst (c2 eqD (c2 modD (c2 fdivD (vr 1) (cst (.int 64))) (cst (.int 5))) (cst (.int 3)))) (sq (sAsg 8 (lstE (lcD (itA (slD (cst (.str "abcde")) noP (yesP (c2 modD (c2 fdivD (vr 1) (cst (.int 512))) (cst (.int 6)))))) (bNm 9) yesT C_Lonce_1 [9])))
    (sAsg 2 (c2 ixD (tup (consA (tup (consA (cst (.str "pile")) (consA (cst (.str "z")) (consA (c1 tupleD (vr 8)) nilA)))) (consA (tup (consA (cst (.str "row")) (consA (cst (.str "z")) (consA (cst (.int 3)) (consA (c1 tupleD (vr 8)) nilA))))) nilA))) (c2 modD (c2 fdivD (vr 1) (cst (.int 4096))) (cst (.int 2)))))) sNx)
    (sq (sAsg 4 (tup (consA (cst (.str "leaf")) (consA (slD (cst (.str "abcdef")) noP (yesP (c2 addD (cst (.int 3)) (c2 modD (c2 fdivD (vr 1) (cst (.int 16384))) (cst (.int 3)))))) (consA (tup (consA (cst (.int 0)) (consA (cst (.int 1)) (consA (cst (.int 2)) (consA (cst (.int 3)) (consA (cst (.int 4)) nilA)))))) (consA (tup (consA (cst (.int 0)) (consA (cst (.int 1)) (consA (cst .none) (consA (cst (.int 3)) (consA (cst (.int 4)) nilA)))))) nilA))))))
    (sq (sAsg 5 (lstE (consA (tup (consA (cst (.str "leaf")) (consA (cst (.str "a")) nilA))) (consA (tup (consA (cst (.str "row")) (consA (cst (.str "a")) nilA))) (consA (tup (consA (cst (.str "pile")) nilA)) (consA (tup nilA) (consA (tup (consA (cst (.int 5)) (consA (cst (.str "a")) (consA (cst (.int 1)) (consA (tup nilA) nilA))))) (consA (tup (consA (cst (.str "rim")) (consA (cst (.str "a")) (consA (cst (.int 1)) (consA (cst (.int 2)) (consA (cst (.int 3)) (consA (cst (.int 4)) nilA))))))) nilA))))))))
    (sq (sAsg 5 (c2 addD (vr 5) (lstE (consA (lstE (consA (cst (.str "pile")) (consA (cst (.str "a")) (consA (tup (consA (vr 4) nilA)) nilA)))) (consA (tup (consA (cst (.str "pile")) (consA (cst (.int 5)) (consA (tup (consA (vr 4) nilA)) nilA)))) (consA (tup (consA (cst (.str "pile")) (consA (cst (.str "z")) (consA (lstE (consA (vr 4) nilA)) nilA)))) (consA (tup (consA (cst (.str "pile")) (consA (cst (.str "z")) (consA (tup (consA (cst (.int 5)) nilA)) nilA)))) nilA)))))))
    (sq (sAsg 6 (c2 ixD (c2 addD (vr 5) (lstE (consA (tup (consA (cst (.str "leaf")) (consA (cst (.str "a")) (consA (c2 ixD (vr 4) (cst (.int 2))) nilA)))) nilA))) (c2 modD (c2 fdivD (vr 1) (cst (.int 65536))) (cst (.int 11)))))
    (sq (sIf (orT (tst (c2 neD (cA M_is_box (consA (vr 4) nilA)) (cA M_Lis_box (consA (vr 4) nilA)))) (tst (c2 neD (cA M_is_box (consA (vr 6) nilA)) (cA M_Lis_box (consA (vr 6) nilA))))) (sRet (cst (.bool false))) sNx)
    (sq (sAsg 7 (cA M_is_box (consA (vr 2) nilA)))
    (sRet (andV (c1 (isiD .bool) (vr 7)) (c2 eqD (vr 7) (cA M_Lis_box (consA (vr 2) nilA)))))))))))))))))))
def M_Lonce : List D → Option D := runF 10 D_Lonce
def C_law_1 : FE := (c2 addD (vr 2) (c2 mulD (cst (.int 104729)) (vr 1)))
def B_law_1 : FS := (sIf (notT (tst (cA M_Lonce (consA (c2 addD (lstE (lcD (itA (vr 0)) (bNm 2) yesT C_law_1 [2])) (lstE (consA (vr 1) nilA))) nilA)))) (sRet (cst (.bool false))) sNx)
def D_law : FS := (sq (sFor (rg1 (cst (.int 8))) (bNm 1) B_law_1)
    (sRet (cst (.bool true))))
def M_law : List D → Option D := runF 3 D_law
section
variable {P : Program} {w : World} {K : PySem.W.Frag} {mg : Str → Option Value} {base : Heap}
theorem ok_is_whole (t : T w K mg) (TB : LamX.TabB base mg t.lc t.lP) : FnD P w K mg base 1 t.a_is_whole t.fd_is_whole ["thing", "low", "high"] M_is_whole := fn_mk t.F_is_whole sc_is_whole rfl fun cdv A outer s H E hr =>
    ((ds_one (ds_ret (de_and (de_isi .int t.m_isinstance t.m_int (DE.dr (de_var 0))) (de_and (de_not (de_isi .bool t.m_isinstance t.m_bool (DE.dr (de_var 0)))) (de_one (de_chain op_leA od_le op_leA od_le (DE.dr (de_var 1)) (DE.dr (de_var 0)) (DE.dr (de_var 2)))))))))
theorem ok_is_name (t : T w K mg) (TB : LamX.TabB base mg t.lc t.lP) : FnD P w K mg base 1 t.a_is_name t.fd_is_name ["thing"] M_is_name := fn_mk t.F_is_name sc_is_name rfl fun cdv A outer s H E hr =>
    ((ds_one (ds_ret (de_and (de_isi .str t.m_isinstance t.m_str (DE.dr (de_var 0))) (de_and (de_chain op_leA od_le op_leA od_le (DE.dr de_int) (DE.dr (de_len t.m_len (DE.dr (de_var 0)))) (DE.dr (de_gint (by rfl) t.c_LONGEST_NAME))) (de_one (de_all rfl t.m_all (DN.dr (dn_lc [("sign", 1)] rfl sc_is_name.nd (dir_any (DE.dr (de_var 0))) (blkOk_by (N := N_is_name) (sc := defScope s_is_name) (by decide +kernel)) (fun _ _ _ _ _ => (dg_name 1 sc_is_name.nd)) (fun _ _ _ _ _ => dts_nil) (fun _ _ _ _ _ => (de_cmp (op_inA hr.units) od_in (DE.dr (de_var 1)) (DE.dr (de_gstr (by rfl) t.c_LETTERS)) (by rfl))))))))))))
theorem ok_is_span (t : T w K mg) (TB : LamX.TabB base mg t.lc t.lP) : FnD P w K mg base 2 t.a_is_span t.fd_is_span ["thing"] M_is_span := fn_mk t.F_is_span sc_is_span rfl fun cdv A outer s H E hr =>
    ((ds_cons (ds_if (DW.dt (dw_or (dt_not (dt_val (de_isi .tuple t.m_isinstance t.m_tuple (DE.dr (de_var 0))))) (dw_or (dt_cmp (op_neD hr.units) od_ne (DE.dr (de_len t.m_len (DE.dr (de_var 0)))) (DE.dr de_int) (nomark _)) (dw_or1 (dt_not (dt_val (de_all rfl t.m_all (DN.dr (dn_lc [("part", 1)] rfl sc_is_span.nd (dir_any (DE.dr (de_slice (DE.dr (de_var 0)) do_none (do_some de_int)))) (blkOk_by (N := N_is_span) (sc := defScope s_is_span) (by decide +kernel)) (fun _ _ _ _ _ => (dg_name 1 sc_is_span.nd)) (fun _ _ _ _ _ => dts_nil) (fun _ _ _ _ _ => (de_call (ok_is_whole t TB) hr (by decide) t.g_is_whole t.F_is_whole.kp t.b_is_whole (da_cons (de_var 1) (da_cons de_int (da_cons (de_gint (by rfl) t.c_FAR) da_nil))) (lq_cons (lq_cons (lq_cons lq_nil)))))))))))))) (ds_one (ds_ret de_bl)) ds_nil)
      (ds_cons (ds_if (DW.dt (dw_or (dt_cmp op_gt od_gt (DE.dr (de_ix (DE.dr (de_var 0)) (DE.dr de_int))) (DE.dr (de_ix (DE.dr (de_var 0)) (DE.dr de_int))) (nomark _)) (dw_or1 (dt_not (dt_val (de_all rfl t.m_all (DN.dr (dn_lc [("part", 1)] rfl sc_is_span.nd (dir_any (DE.dr (de_slice (DE.dr (de_var 0)) (do_some de_int) do_none))) (blkOk_by (N := N_is_span) (sc := defScope s_is_span) (by decide +kernel)) (fun _ _ _ _ _ => (dg_name 1 sc_is_span.nd)) (fun _ _ _ _ _ => dts_nil) (fun _ _ _ _ _ => (de_call (ok_is_whole t TB) hr (by decide) t.g_is_whole t.F_is_whole.kp t.b_is_whole (da_cons (de_var 1) (da_cons de_int (da_cons (de_gint (by rfl) t.c_MOST_SHARE) da_nil))) (lq_cons (lq_cons (lq_cons lq_nil))))))))))))) (ds_one (ds_ret de_bl)) ds_nil)
      (ds_one (ds_ret (de_or (de_isN (DE.dr (de_ix (DE.dr (de_var 0)) (DE.dr de_int)))) (de_one (de_call (ok_is_whole t TB) hr (by decide) t.g_is_whole t.F_is_whole.kp t.b_is_whole (da_cons (de_ix (DE.dr (de_var 0)) (DE.dr de_int)) (da_cons (de_ix (DE.dr (de_var 0)) (DE.dr de_int)) (da_cons (de_gint (by rfl) t.c_FAR) da_nil))) (lq_cons (lq_cons (lq_cons lq_nil)))))))))))
theorem okk_are_boxes (t : T w K mg) (TB : LamX.TabB base mg t.lc t.lP) : ∀ n, FnD P w K mg base (2 + n) t.a_are_boxes t.fd_are_boxes ["thing", "many", "deep"] (M_are_boxes n) ∧ FnD P w K mg base (2 + n) t.a_is_box_to t.fd_is_box_to ["thing", "deep"] (M_is_box_to n)
  | 0 => ⟨fn_none, fn_none⟩
  | n + 1 => have ih_are_boxes := (okk_are_boxes t TB n).1
    have ih_is_box_to := (okk_are_boxes t TB n).2
    ⟨fn_mk t.F_are_boxes sc_are_boxes rfl fun cdv A outer s H E hr =>
    ((ds_cons (ds_if (DW.dt (dw_or (dt_not (dt_val (de_isi .tuple t.m_isinstance t.m_tuple (DE.dr (de_var 0))))) (dw_or1 (dt_not (dt_chain op_leA od_le op_leA od_le (DE.dr de_int) (DE.dr (de_len t.m_len (DE.dr (de_var 0)))) (DE.dr (de_var 1))))))) (ds_one (ds_ret de_bl)) ds_nil)
      (ds_one (ds_ret (de_all rfl t.m_all (DN.dr (dn_lc [("part", 3)] rfl sc_are_boxes.nd (dir_any (DE.dr (de_var 0))) (blkOk_by (N := N_are_boxes) (sc := defScope s_are_boxes) (by decide +kernel)) (fun _ _ _ _ _ => (dg_name 3 sc_are_boxes.nd)) (fun _ _ _ _ _ => dts_nil) (fun _ _ _ _ _ => (de_call ih_is_box_to hr (Nat.le_refl _) t.g_is_box_to t.F_is_box_to.kp t.b_is_box_to (da_cons (de_var 3) (da_cons (de_var 2) da_nil)) (lq_cons (lq_cons lq_nil))))))))))),
    fn_mk t.F_is_box_to sc_is_box_to rfl fun cdv A outer s H E hr =>
    ((ds_cons (ds_if (DW.dt (dw_or (dt_cmp (op_eqD hr.units) od_eq (DE.dr (de_var 1)) (DE.dr de_int) (nomark _)) (dw_or (dt_not (dt_val (de_isi .tuple t.m_isinstance t.m_tuple (DE.dr (de_var 0))))) (dw_or (dt_cmp op_lt od_lt (DE.dr (de_len t.m_len (DE.dr (de_var 0)))) (DE.dr de_int) (nomark _)) (dw_or1 (dt_not (dt_val (de_isi .str t.m_isinstance t.m_str (DE.dr (de_ix (DE.dr (de_var 0)) (DE.dr de_int))))))))))) (ds_one (ds_ret de_bl)) ds_nil)
      (ds_cons (ds_if (dt_not (dt_val (de_call (ok_is_name t TB) hr (lev_le (b := 2) (n := n) (by decide)) t.g_is_name t.F_is_name.kp t.b_is_name (da_cons (de_ix (DE.dr (de_var 0)) (DE.dr de_int)) da_nil) (lq_cons lq_nil)))) (ds_one (ds_ret de_bl)) ds_nil)
      (ds_cons (ds_asg 2 sc_is_box_to.nd (de_ix (DE.dr (de_var 0)) (DE.dr de_int)))
      (ds_cons (ds_if (dt_cmp (op_eqD hr.units) od_eq (DE.dr (de_var 2)) (DE.dr de_str) (nomark _)) (ds_one (ds_ret (de_and (de_cmp (op_eqD hr.units) od_eq (DE.dr (de_len t.m_len (DE.dr (de_var 0)))) (DE.dr de_int) (nomark _)) (de_and (de_call (ok_is_span t TB) hr (lev_le (b := 2) (n := n) (by decide)) t.g_is_span t.F_is_span.kp t.b_is_span (da_cons (de_ix (DE.dr (de_var 0)) (DE.dr de_int)) da_nil) (lq_cons lq_nil)) (de_one (de_call (ok_is_span t TB) hr (lev_le (b := 2) (n := n) (by decide)) t.g_is_span t.F_is_span.kp t.b_is_span (da_cons (de_ix (DE.dr (de_var 0)) (DE.dr de_int)) da_nil) (lq_cons lq_nil))))))) ds_nil)
      (ds_cons (ds_if (dt_cmp (op_inA hr.units) od_in (DE.dr (de_var 2)) (DE.dr (de_tup (da_cons de_str (da_cons de_str da_nil)) (ln_big (ln_cons (ln_cons ln_nil))))) (by rfl)) (ds_one (ds_ret (de_and (de_cmp (op_eqD hr.units) od_eq (DE.dr (de_len t.m_len (DE.dr (de_var 0)))) (DE.dr de_int) (nomark _)) (de_and (de_call (ok_is_whole t TB) hr (lev_le (b := 2) (n := n) (by decide)) t.g_is_whole t.F_is_whole.kp t.b_is_whole (da_cons (de_ix (DE.dr (de_var 0)) (DE.dr de_int)) (da_cons de_int (da_cons (de_gint (by rfl) t.c_FAR) da_nil))) (lq_cons (lq_cons (lq_cons lq_nil)))) (de_one (de_call ih_are_boxes hr (Nat.le_refl _) t.g_are_boxes t.F_are_boxes.kp t.b_are_boxes (da_cons (de_ix (DE.dr (de_var 0)) (DE.dr de_int)) (da_cons (de_gint (by rfl) t.c_MOST_BOXES) (da_cons (de_sub (DE.dr (de_var 1)) (DE.dr de_int)) da_nil))) (lq_cons (lq_cons (lq_cons lq_nil))))))))) ds_nil)
      (ds_cons (ds_if (dt_cmp (op_eqD hr.units) od_eq (DE.dr (de_var 2)) (DE.dr de_str) (nomark _)) (ds_one (ds_ret (de_and (de_cmp (op_eqD hr.units) od_eq (DE.dr (de_len t.m_len (DE.dr (de_var 0)))) (DE.dr de_int) (nomark _)) (de_one (de_call ih_are_boxes hr (Nat.le_refl _) t.g_are_boxes t.F_are_boxes.kp t.b_are_boxes (da_cons (de_ix (DE.dr (de_var 0)) (DE.dr de_int)) (da_cons (de_gint (by rfl) t.c_MOST_PILE) (da_cons (de_sub (DE.dr (de_var 1)) (DE.dr de_int)) da_nil))) (lq_cons (lq_cons (lq_cons lq_nil)))))))) ds_nil)
      (ds_cons (ds_if (DW.dt (dw_or (dt_cmp (op_neD hr.units) od_ne (DE.dr (de_var 2)) (DE.dr de_str) (nomark _)) (dw_or1 (dt_cmp (op_neD hr.units) od_ne (DE.dr (de_len t.m_len (DE.dr (de_var 0)))) (DE.dr de_int) (nomark _))))) (ds_one (ds_ret de_bl)) ds_nil)
      (ds_one (ds_ret (de_and (de_all rfl t.m_all (DN.dr (dn_lc [("part", 3)] rfl sc_is_box_to.nd (dir_any (DE.dr (de_slice (DE.dr (de_var 0)) (do_some de_int) (do_some de_int)))) (blkOk_by (N := N_is_box_to) (sc := defScope s_is_box_to) (by decide +kernel)) (fun _ _ _ _ _ => (dg_name 3 sc_is_box_to.nd)) (fun _ _ _ _ _ => dts_nil) (fun _ _ _ _ _ => (de_call (ok_is_whole t TB) hr (lev_le (b := 2) (n := n) (by decide)) t.g_is_whole t.F_is_whole.kp t.b_is_whole (da_cons (de_var 3) (da_cons de_int (da_cons (de_gint (by rfl) t.c_FAR) da_nil))) (lq_cons (lq_cons (lq_cons lq_nil)))))))) (de_one (de_call ih_is_box_to hr (Nat.le_refl _) t.g_is_box_to t.F_is_box_to.kp t.b_is_box_to (da_cons (de_ix (DE.dr (de_var 0)) (DE.dr de_int)) (da_cons (de_sub (DE.dr (de_var 1)) (DE.dr de_int)) da_nil)) (lq_cons (lq_cons lq_nil)))))))))))))))⟩
theorem ok_are_boxes (t : T w K mg) (TB : LamX.TabB base mg t.lc t.lP) (n : Nat) : FnD P w K mg base (2 + n) t.a_are_boxes t.fd_are_boxes ["thing", "many", "deep"] (M_are_boxes n) := (okk_are_boxes t TB n).1
theorem ok_is_box_to (t : T w K mg) (TB : LamX.TabB base mg t.lc t.lP) (n : Nat) : FnD P w K mg base (2 + n) t.a_is_box_to t.fd_is_box_to ["thing", "deep"] (M_is_box_to n) := (okk_are_boxes t TB n).2
theorem ok_boxes_in (t : T w K mg) (TB : LamX.TabB base mg t.lc t.lP) : FnD P w K mg base 1 t.a_boxes_in t.fd_boxes_in ["box"] M_boxes_in := fn_mk t.F_boxes_in sc_boxes_in rfl fun cdv A outer s H E hr =>
    ((ds_cons (ds_if (dt_cmp (op_eqD hr.units) od_eq (DE.dr (de_ix (DE.dr (de_var 0)) (DE.dr de_int))) (DE.dr de_str) (nomark _)) (ds_one (ds_ret (de_tup da_nil (ln_big ln_nil)))) ds_nil)
      (ds_cons (ds_if (dt_cmp (op_eqD hr.units) od_eq (DE.dr (de_ix (DE.dr (de_var 0)) (DE.dr de_int))) (DE.dr de_str) (nomark _)) (ds_one (ds_ret (de_tup (da_cons (de_ix (DE.dr (de_var 0)) (DE.dr de_int)) da_nil) (ln_big (ln_cons ln_nil))))) ds_nil)
      (ds_one (ds_ret (de_ix (DE.dr (de_var 0)) (DE.dr (de_neg (DE.dr de_int)))))))))
theorem ok_names_in (t : T w K mg) (TB : LamX.TabB base mg t.lc t.lP) : ∀ n, FnD P w K mg base (1 + n) t.a_names_in t.fd_names_in ["box"] (M_names_in n)
  | 0 => fn_none
  | n + 1 => fn_mk t.F_names_in sc_names_in rfl fun cdv A outer s H E hr => have ih_names_in := ok_names_in t TB n
    ((ds_cons (ds_asg 1 sc_names_in.nd (de_tup (da_cons (de_ix (DE.dr (de_var 0)) (DE.dr de_int)) da_nil) (ln_big (ln_cons ln_nil))))
      (ds_cons (ds_for PassesOwn.never rfl (di_any (de_call (ok_boxes_in t TB) hr (lev_le (b := 1) (n := n) (by decide)) t.g_boxes_in t.F_boxes_in.kp t.b_boxes_in (da_cons (de_var 0) da_nil) (lq_cons lq_nil))) (dg_name 2 sc_names_in.nd) (ds_one (ds_asg 1 sc_names_in.nd (de_add (DE.dr (de_var 1)) (DE.dr (de_call ih_names_in hr (Nat.le_refl _) t.g_names_in t.F_names_in.kp t.b_names_in (da_cons (de_var 2) da_nil) (lq_cons lq_nil)))))))
      (ds_one (ds_ret (de_var 1))))))
theorem ok_is_box (t : T w K mg) (TB : LamX.TabB base mg t.lc t.lP) : FnD P w K mg base 27 t.a_is_box t.fd_is_box ["thing"] M_is_box := fn_mk t.F_is_box sc_is_box rfl fun cdv A outer s H E hr =>
    ((ds_cons (ds_if (dt_not (dt_val (de_call (ok_is_box_to t TB 12) hr (by decide) t.g_is_box_to t.F_is_box_to.kp t.b_is_box_to (da_cons (de_var 0) (da_cons (de_gint (by rfl) t.c_DEEPEST) da_nil)) (lq_cons (lq_cons lq_nil))))) (ds_one (ds_ret de_bl)) ds_nil)
      (ds_one (ds_ret (de_cmp (op_eqD hr.units) od_eq (DE.dr (de_lenset rfl t.m_len t.m_set (DE.dr (de_call (ok_names_in t TB 12) hr (by decide) t.g_names_in t.F_names_in.kp t.b_names_in (da_cons (de_var 0) da_nil) (lq_cons lq_nil))))) (DE.dr (de_len t.m_len (DE.dr (de_call (ok_names_in t TB 12) hr (by decide) t.g_names_in t.F_names_in.kp t.b_names_in (da_cons (de_var 0) da_nil) (lq_cons lq_nil))))) (nomark _))))))
theorem ok_Lcell_at (t : T w K mg) (TB : LamX.TabB base mg t.lc t.lP) : FnD P w K mg base 1 t.a_Lcell_at t.fd_Lcell_at ["script", "k"] M_Lcell_at := fn_mk t.F_Lcell_at sc_Lcell_at rfl fun cdv A outer s H E hr =>
    ((ds_cons (ds_if (dt_cmp op_lt od_lt (DE.dr (de_var 1)) (DE.dr (de_len t.m_len (DE.dr (de_var 0)))) (nomark _)) (ds_one (ds_ret (de_ix (DE.dr (de_var 0)) (DE.dr (de_var 1))))) ds_nil)
      (ds_one (ds_ret de_int))))
theorem ok_Lmixed (t : T w K mg) (TB : LamX.TabB base mg t.lc t.lP) : FnD P w K mg base 2 t.a_Lmixed t.fd_Lmixed ["script", "k"] M_Lmixed := fn_mk t.F_Lmixed sc_Lmixed rfl fun cdv A outer s H E hr =>
    ((ds_cons (ds_asg 2 sc_Lmixed.nd (de_mod (DE.dr (de_mul (DE.dr (de_add (DE.dr (de_add (DE.dr (de_call (ok_Lcell_at t TB) hr (by decide) t.g_Lcell_at t.F_Lcell_at.kp t.b_Lcell_at (da_cons (de_var 0) (da_cons (de_var 1) da_nil)) (lq_cons (lq_cons lq_nil)))) (DE.dr (de_mul (DE.dr de_int) (DE.dr (de_var 1)))))) (DE.dr de_int))) (DE.dr de_int))) (DE.dr de_int)))
      (ds_one (ds_ret (de_mod (DE.dr (de_add (DE.dr (de_add (DE.dr (de_mul (DE.dr (de_var 2)) (DE.dr (de_var 2)))) (DE.dr (de_mul (DE.dr de_int) (DE.dr (de_var 2)))))) (DE.dr (de_var 1)))) (DE.dr de_int))))))
theorem ok_Ldrawn (t : T w K mg) (TB : LamX.TabB base mg t.lc t.lP) : FnD P w K mg base 1 t.a_Ldrawn t.fd_Ldrawn ["number", "k"] M_Ldrawn := fn_mk t.F_Ldrawn sc_Ldrawn rfl fun cdv A outer s H E hr =>
    ((ds_cons (ds_asg 2 sc_Ldrawn.nd (de_mod (DE.dr (de_mul (DE.dr (de_add (DE.dr (de_add (DE.dr (de_var 0)) (DE.dr (de_mul (DE.dr de_int) (DE.dr (de_var 1)))))) (DE.dr de_int))) (DE.dr de_int))) (DE.dr de_int)))
      (ds_one (ds_ret (de_mod (DE.dr (de_add (DE.dr (de_add (DE.dr (de_mul (DE.dr (de_var 2)) (DE.dr (de_var 2)))) (DE.dr (de_mul (DE.dr de_int) (DE.dr (de_var 2)))))) (DE.dr (de_var 1)))) (DE.dr de_int))))))
theorem ok_Lspan (t : T w K mg) (TB : LamX.TabB base mg t.lc t.lP) : FnD P w K mg base 1 t.a_Lspan t.fd_Lspan ["number"] M_Lspan := fn_mk t.F_Lspan sc_Lspan rfl fun cdv A outer s H E hr =>
    ((ds_cons (ds_asg 1 sc_Lspan.nd (de_mod (DE.dr (de_var 0)) (DE.dr (de_ix (DE.dr (de_tup (da_cons de_int (da_cons de_int (da_cons de_int da_nil))) (ln_big (ln_cons (ln_cons (ln_cons ln_nil)))))) (DE.dr (de_mod (DE.dr (de_fdiv (DE.dr (de_var 0)) (DE.dr de_int))) (DE.dr de_int)))))))
      (ds_cons (ds_asg 2 sc_Lspan.nd (de_add (DE.dr (de_var 1)) (DE.dr (de_mod (DE.dr (de_fdiv (DE.dr (de_var 0)) (DE.dr de_int))) (DE.dr (de_ix (DE.dr (de_tup (da_cons de_int (da_cons de_int (da_cons de_int da_nil))) (ln_big (ln_cons (ln_cons (ln_cons ln_nil)))))) (DE.dr (de_mod (DE.dr (de_fdiv (DE.dr (de_var 0)) (DE.dr de_int))) (DE.dr de_int)))))))))
      (ds_cons (ds_asg 3 sc_Lspan.nd (de_ix (DN.dr (dn_lst (da_cons de_non (da_cons (de_add (DE.dr (de_var 2)) (DE.dr (de_mod (DE.dr (de_fdiv (DE.dr (de_var 0)) (DE.dr de_int))) (DE.dr de_int)))) (da_cons (de_var 2) (da_cons (de_add (DE.dr (de_var 2)) (DE.dr (de_mod (DE.dr (de_fdiv (DE.dr (de_var 0)) (DE.dr de_int))) (DE.dr de_int)))) da_nil)))) (ln_big (ln_cons (ln_cons (ln_cons (ln_cons ln_nil))))))) (DE.dr (de_mod (DE.dr (de_fdiv (DE.dr (de_var 0)) (DE.dr de_int))) (DE.dr de_int)))))
      (ds_one (ds_ret (de_tup (da_cons (de_var 1) (da_cons (de_var 2) (da_cons (de_var 3) (da_cons (de_ix (DE.dr (de_tup (da_cons de_int (da_cons de_int (da_cons de_int (da_cons de_int da_nil)))) (ln_big (ln_cons (ln_cons (ln_cons (ln_cons ln_nil))))))) (DE.dr (de_mod (DE.dr (de_fdiv (DE.dr (de_var 0)) (DE.dr de_int))) (DE.dr de_int)))) (da_cons (de_ix (DE.dr (de_tup (da_cons de_int (da_cons de_int (da_cons de_int (da_cons de_int da_nil)))) (ln_big (ln_cons (ln_cons (ln_cons (ln_cons ln_nil))))))) (DE.dr (de_mod (DE.dr (de_fdiv (DE.dr (de_var 0)) (DE.dr de_int))) (DE.dr de_int)))) da_nil))))) (ln_big (ln_cons (ln_cons (ln_cons (ln_cons (ln_cons ln_nil)))))))))))))
theorem ok_Lbox (t : T w K mg) (TB : LamX.TabB base mg t.lc t.lP) : ∀ n, FnD P w K mg base (1 + n) t.a_Lbox t.fd_Lbox ["number", "name", "deep"] (M_Lbox n)
  | 0 => fn_none
  | n + 1 => fn_mk t.F_Lbox sc_Lbox rfl fun cdv A outer s H E hr => have ih_Lbox := ok_Lbox t TB n
    ((ds_cons (ds_asg 3 sc_Lbox.nd (de_mod (DE.dr (de_var 0)) (DE.dr de_int)))
      (ds_cons (ds_if (DW.dt (dw_or (dt_cmp (op_eqD hr.units) od_eq (DE.dr (de_var 2)) (DE.dr de_int) (nomark _)) (dw_or1 (dt_cmp op_gt od_gt (DE.dr (de_var 3)) (DE.dr de_int) (nomark _))))) (ds_one (ds_ret (de_tup (da_cons de_str (da_cons (de_var 1) (da_cons (de_call (ok_Lspan t TB) hr (lev_le (b := 1) (n := n) (by decide)) t.g_Lspan t.F_Lspan.kp t.b_Lspan (da_cons (de_fdiv (DE.dr (de_call (ok_Ldrawn t TB) hr (lev_le (b := 1) (n := n) (by decide)) t.g_Ldrawn t.F_Ldrawn.kp t.b_Ldrawn (da_cons (de_var 0) (da_cons de_int da_nil)) (lq_cons (lq_cons lq_nil)))) (DE.dr de_int)) da_nil) (lq_cons lq_nil)) (da_cons (de_call (ok_Lspan t TB) hr (lev_le (b := 1) (n := n) (by decide)) t.g_Lspan t.F_Lspan.kp t.b_Lspan (da_cons (de_fdiv (DE.dr (de_call (ok_Ldrawn t TB) hr (lev_le (b := 1) (n := n) (by decide)) t.g_Ldrawn t.F_Ldrawn.kp t.b_Ldrawn (da_cons (de_var 0) (da_cons de_int da_nil)) (lq_cons (lq_cons lq_nil)))) (DE.dr de_int)) da_nil) (lq_cons lq_nil)) da_nil)))) (ln_big (ln_cons (ln_cons (ln_cons (ln_cons ln_nil)))))))) ds_nil)
      (ds_cons (ds_asg 4 sc_Lbox.nd (de_add (DE.dr de_int) (DE.dr (de_mod (DE.dr (de_fdiv (DE.dr (de_var 0)) (DE.dr de_int))) (DE.dr de_int)))))
      (ds_cons (ds_asg 5 sc_Lbox.nd (de_ix (DE.dr (de_tup (da_cons de_int (da_cons de_int (da_cons de_int (da_cons de_int da_nil)))) (ln_big (ln_cons (ln_cons (ln_cons (ln_cons ln_nil))))))) (DE.dr (de_mod (DE.dr (de_fdiv (DE.dr (de_var 0)) (DE.dr de_int))) (DE.dr de_int)))))
      (ds_cons (ds_if (dt_cmp (op_eqD hr.units) od_eq (DE.dr (de_var 3)) (DE.dr de_int) (nomark _)) (ds_cons (ds_asg 7 sc_Lbox.nd (de_tuple t.m_tuple (DN.dr (dn_lc [("k", 8)] rfl sc_Lbox.nd (DI.r (di_rng1 t.m_range de_int)) (blkOk_by (N := N_Lbox) (sc := defScope s_Lbox) (by decide +kernel)) (fun _ _ _ _ _ => (dg_name 8 sc_Lbox.nd)) (fun _ _ _ _ _ => dts_nil) (fun _ _ _ _ _ => (de_mod (DE.dr (de_fdiv (DE.dr (de_call (ok_Ldrawn t TB) hr (lev_le (b := 1) (n := n) (by decide)) t.g_Ldrawn t.F_Ldrawn.kp t.b_Ldrawn (da_cons (de_var 0) (da_cons (de_add (DE.dr de_int) (DE.dr (de_var 8))) da_nil)) (lq_cons (lq_cons lq_nil)))) (DE.dr de_int))) (DE.dr de_int)))))))
      (ds_one (ds_ret (de_add (DE.dr (de_add (DE.dr (de_tup (da_cons de_str (da_cons (de_var 1) da_nil)) (ln_big (ln_cons (ln_cons ln_nil))))) (DE.dr (de_var 7)))) (DE.dr (de_tup (da_cons (de_call ih_Lbox hr (Nat.le_refl _) t.g_Lbox t.F_Lbox.kp t.b_Lbox (da_cons (de_fdiv (DE.dr (de_call (ok_Ldrawn t TB) hr (lev_le (b := 1) (n := n) (by decide)) t.g_Ldrawn t.F_Ldrawn.kp t.b_Ldrawn (da_cons (de_var 0) (da_cons de_int da_nil)) (lq_cons (lq_cons lq_nil)))) (DE.dr de_int)) (da_cons (de_add (DE.dr (de_var 1)) (DE.dr de_str)) (da_cons (de_sub (DE.dr (de_var 2)) (DE.dr de_int)) da_nil))) (lq_cons (lq_cons (lq_cons lq_nil)))) da_nil) (ln_big (ln_cons ln_nil)))))))) ds_nil)
      (ds_cons (ds_if (dt_cmp (op_eqD hr.units) od_eq (DE.dr (de_var 3)) (DE.dr de_int) (nomark _)) (ds_one (ds_asg 4 sc_Lbox.nd (de_min2 rfl t.m_min (DE.dr (de_var 4)) (DE.dr de_int)))) ds_nil)
      (ds_cons (ds_asg 6 sc_Lbox.nd (de_tuple t.m_tuple (DN.dr (dn_lc [("k", 8)] rfl sc_Lbox.nd (DI.r (di_rng1 t.m_range (de_var 4))) (blkOk_by (N := N_Lbox) (sc := defScope s_Lbox) (by decide +kernel)) (fun _ _ _ _ _ => (dg_name 8 sc_Lbox.nd)) (fun _ _ _ _ _ => dts_nil) (fun _ _ _ _ _ => (de_call ih_Lbox hr (Nat.le_refl _) t.g_Lbox t.F_Lbox.kp t.b_Lbox (da_cons (de_fdiv (DE.dr (de_call (ok_Ldrawn t TB) hr (lev_le (b := 1) (n := n) (by decide)) t.g_Ldrawn t.F_Ldrawn.kp t.b_Ldrawn (da_cons (de_var 0) (da_cons (de_add (DE.dr de_int) (DE.dr (de_var 8))) da_nil)) (lq_cons (lq_cons lq_nil)))) (DE.dr de_int)) (da_cons (de_add (DE.dr (de_var 1)) (DE.dr (de_ix (DE.dr de_str) (DE.dr (de_var 8))))) (da_cons (de_sub (DE.dr (de_var 2)) (DE.dr de_int)) da_nil))) (lq_cons (lq_cons (lq_cons lq_nil)))))))))
      (ds_cons (ds_if (dt_cmp (op_eqD hr.units) od_eq (DE.dr (de_var 3)) (DE.dr de_int) (nomark _)) (ds_one (ds_ret (de_tup (da_cons de_str (da_cons (de_var 1) (da_cons (de_var 6) da_nil))) (ln_big (ln_cons (ln_cons (ln_cons ln_nil))))))) ds_nil)
      (ds_one (ds_ret (de_tup (da_cons (de_ix (DE.dr (de_tup (da_cons de_str (da_cons de_str da_nil)) (ln_big (ln_cons (ln_cons ln_nil))))) (DE.dr (de_mod (DE.dr (de_var 3)) (DE.dr de_int)))) (da_cons (de_var 1) (da_cons (de_var 5) (da_cons (de_var 6) da_nil)))) (ln_big (ln_cons (ln_cons (ln_cons (ln_cons ln_nil)))))))))))))))))
theorem ok_Lin (t : T w K mg) (TB : LamX.TabB base mg t.lc t.lP) : FnD P w K mg base 1 t.a_Lin t.fd_Lin ["box"] M_Lin := fn_mk t.F_Lin sc_Lin rfl fun cdv A outer s H E hr =>
    ((ds_cons (ds_if (dt_cmp (op_eqD hr.units) od_eq (DE.dr (de_ix (DE.dr (de_var 0)) (DE.dr de_int))) (DE.dr de_str) (nomark _)) (ds_one (ds_ret (de_tup da_nil (ln_big ln_nil)))) ds_nil)
      (ds_one (ds_ret (de_ix (DN.dr (dn_lst (da_cons (de_ix (DE.dr (de_var 0)) (DE.dr (de_sub (DE.dr (de_len t.m_len (DE.dr (de_var 0)))) (DE.dr de_int)))) (da_cons (de_slice (DE.dr (de_var 0)) (do_some de_int) do_none) da_nil)) (ln_big (ln_cons (ln_cons ln_nil))))) (DE.dr (de_toint t.m_int (DE.dr (de_cmp (op_eqD hr.units) od_eq (DE.dr (de_ix (DE.dr (de_var 0)) (DE.dr de_int))) (DE.dr de_str) (nomark _))))))))))
theorem ok_Lfrom (t : T w K mg) (TB : LamX.TabB base mg t.lc t.lP) : FnD P w K mg base 1 t.a_Lfrom t.fd_Lfrom ["thing", "low", "high"] M_Lfrom := fn_mk t.F_Lfrom sc_Lfrom rfl fun cdv A outer s H E hr =>
    ((ds_one (ds_ret (de_and (de_isi .int t.m_isinstance t.m_int (DE.dr (de_var 0))) (de_and (de_not (de_isi .bool t.m_isinstance t.m_bool (DE.dr (de_var 0)))) (de_one (de_chain op_leA od_le op_leA od_le (DE.dr (de_var 1)) (DE.dr (de_var 0)) (DE.dr (de_var 2)))))))))
theorem ok_Lis_span (t : T w K mg) (TB : LamX.TabB base mg t.lc t.lP) : FnD P w K mg base 2 t.a_Lis_span t.fd_Lis_span ["thing"] M_Lis_span := fn_mk t.F_Lis_span sc_Lis_span rfl fun cdv A outer s H E hr =>
    ((ds_cons (ds_if (DW.dt (dw_or (dt_not (dt_val (de_isi .tuple t.m_isinstance t.m_tuple (DE.dr (de_var 0))))) (dw_or1 (dt_cmp (op_neD hr.units) od_ne (DE.dr (de_len t.m_len (DE.dr (de_var 0)))) (DE.dr de_int) (nomark _))))) (ds_one (ds_ret de_bl)) ds_nil)
      (ds_cons (ds_if (DW.dt (dw_or (dt_not (dt_val (de_call (ok_Lfrom t TB) hr (by decide) t.g_Lfrom t.F_Lfrom.kp t.b_Lfrom (da_cons (de_ix (DE.dr (de_var 0)) (DE.dr de_int)) (da_cons de_int (da_cons de_int da_nil))) (lq_cons (lq_cons (lq_cons lq_nil)))))) (dw_or1 (dt_not (dt_val (de_call (ok_Lfrom t TB) hr (by decide) t.g_Lfrom t.F_Lfrom.kp t.b_Lfrom (da_cons (de_ix (DE.dr (de_var 0)) (DE.dr de_int)) (da_cons (de_ix (DE.dr (de_var 0)) (DE.dr de_int)) (da_cons de_int da_nil))) (lq_cons (lq_cons (lq_cons lq_nil))))))))) (ds_one (ds_ret de_bl)) ds_nil)
      (ds_cons (ds_if (DW.dt (dw_and (dt_notN (DE.dr (de_ix (DE.dr (de_var 0)) (DE.dr de_int)))) (dw_and1 (dt_not (dt_val (de_call (ok_Lfrom t TB) hr (by decide) t.g_Lfrom t.F_Lfrom.kp t.b_Lfrom (da_cons (de_ix (DE.dr (de_var 0)) (DE.dr de_int)) (da_cons (de_ix (DE.dr (de_var 0)) (DE.dr de_int)) (da_cons de_int da_nil))) (lq_cons (lq_cons (lq_cons lq_nil))))))))) (ds_one (ds_ret de_bl)) ds_nil)
      (ds_one (ds_ret (de_and (de_call (ok_Lfrom t TB) hr (by decide) t.g_Lfrom t.F_Lfrom.kp t.b_Lfrom (da_cons (de_ix (DE.dr (de_var 0)) (DE.dr de_int)) (da_cons de_int (da_cons de_int da_nil))) (lq_cons (lq_cons (lq_cons lq_nil)))) (de_one (de_call (ok_Lfrom t TB) hr (by decide) t.g_Lfrom t.F_Lfrom.kp t.b_Lfrom (da_cons (de_ix (DE.dr (de_var 0)) (DE.dr de_int)) (da_cons de_int (da_cons de_int da_nil))) (lq_cons (lq_cons (lq_cons lq_nil))))))))))))
theorem ok_Lis_name (t : T w K mg) (TB : LamX.TabB base mg t.lc t.lP) : FnD P w K mg base 1 t.a_Lis_name t.fd_Lis_name ["thing"] M_Lis_name := fn_mk t.F_Lis_name sc_Lis_name rfl fun cdv A outer s H E hr =>
    ((ds_cons (ds_if (DW.dt (dw_or (dt_not (dt_val (de_isi .str t.m_isinstance t.m_str (DE.dr (de_var 0))))) (dw_or1 (dt_not (dt_chain op_leA od_le op_leA od_le (DE.dr de_int) (DE.dr (de_len t.m_len (DE.dr (de_var 0)))) (DE.dr de_int)))))) (ds_one (ds_ret de_bl)) ds_nil)
      (ds_one (ds_ret (de_cmp (op_eqD hr.units) od_eq (DN.dr (dn_lc [("sign", 1)] rfl sc_Lis_name.nd (dir_any (DE.dr (de_var 0))) (blkOk_by (N := N_Lis_name) (sc := defScope s_Lis_name) (by decide +kernel)) (fun _ _ _ _ _ => (dg_name 1 sc_Lis_name.nd)) (fun _ _ _ _ _ => (dts_one (dt_not (dt_chain op_leA od_le op_leA od_le (DE.dr de_str) (DE.dr (de_var 1)) (DE.dr de_str))))) (fun _ _ _ _ _ => (de_var 1)))) (DN.dr (dn_lst da_nil (ln_big ln_nil))) (nomark _))))))
theorem ok_Lnames (t : T w K mg) (TB : LamX.TabB base mg t.lc t.lP) : ∀ n, FnD P w K mg base (1 + n) t.a_Lnames t.fd_Lnames ["box"] (M_Lnames n)
  | 0 => fn_none
  | n + 1 => fn_mk t.F_Lnames sc_Lnames rfl fun cdv A outer s H E hr => have ih_Lnames := ok_Lnames t TB n
    ((ds_cons (ds_asg 1 sc_Lnames.nd (de_tup (da_cons (de_ix (DE.dr (de_var 0)) (DE.dr de_int)) da_nil) (ln_big (ln_cons ln_nil))))
      (ds_cons (ds_for PassesOwn.never rfl (di_any (de_call (ok_Lin t TB) hr (lev_le (b := 1) (n := n) (by decide)) t.g_Lin t.F_Lin.kp t.b_Lin (da_cons (de_var 0) da_nil) (lq_cons lq_nil))) (dg_name 2 sc_Lnames.nd) (ds_one (ds_asg 1 sc_Lnames.nd (de_add (DE.dr (de_var 1)) (DE.dr (de_call ih_Lnames hr (Nat.le_refl _) t.g_Lnames t.F_Lnames.kp t.b_Lnames (da_cons (de_var 2) da_nil) (lq_cons lq_nil)))))))
      (ds_one (ds_ret (de_var 1))))))
theorem ok_Lis_shape (t : T w K mg) (TB : LamX.TabB base mg t.lc t.lP) : ∀ n, FnD P w K mg base (2 + n) t.a_Lis_shape t.fd_Lis_shape ["thing", "deep"] (M_Lis_shape n)
  | 0 => fn_none
  | n + 1 => fn_mk t.F_Lis_shape sc_Lis_shape rfl fun cdv A outer s H E hr => have ih_Lis_shape := ok_Lis_shape t TB n
    ((ds_cons (ds_if (DW.dt (dw_or (dt_cmp (op_eqD hr.units) od_eq (DE.dr (de_var 1)) (DE.dr de_int) (nomark _)) (dw_or (dt_not (dt_val (de_isi .tuple t.m_isinstance t.m_tuple (DE.dr (de_var 0))))) (dw_or (dt_cmp op_lt od_lt (DE.dr (de_len t.m_len (DE.dr (de_var 0)))) (DE.dr de_int) (nomark _)) (dw_or1 (dt_not (dt_val (de_isi .str t.m_isinstance t.m_str (DE.dr (de_ix (DE.dr (de_var 0)) (DE.dr de_int))))))))))) (ds_one (ds_ret de_bl)) ds_nil)
      (ds_cons (ds_asg 2 sc_Lis_shape.nd (de_disp (dk_cons de_str de_int (dk_cons de_str de_int (dk_cons de_str de_int (dk_cons de_str de_int (dk_cons de_str de_int dk_nil)))))))
      (ds_cons (ds_if (DW.dt (dw_or (dt_cmp (op_neD hr.units) od_ne (DE.dr (de_len t.m_len (DE.dr (de_var 0)))) (DE.dr (de_dget hr (de_var 2) (de_ix (DE.dr (de_var 0)) (DE.dr de_int)) de_int)) (nomark _)) (dw_or1 (dt_not (dt_val (de_call (ok_Lis_name t TB) hr (lev_le (b := 2) (n := n) (by decide)) t.g_Lis_name t.F_Lis_name.kp t.b_Lis_name (da_cons (de_ix (DE.dr (de_var 0)) (DE.dr de_int)) da_nil) (lq_cons lq_nil))))))) (ds_one (ds_ret de_bl)) ds_nil)
      (ds_cons (ds_if (dt_cmp (op_eqD hr.units) od_eq (DE.dr (de_ix (DE.dr (de_var 0)) (DE.dr de_int))) (DE.dr de_str) (nomark _)) (ds_one (ds_ret (de_and (de_call (ok_Lis_span t TB) hr (lev_le (b := 2) (n := n) (by decide)) t.g_Lis_span t.F_Lis_span.kp t.b_Lis_span (da_cons (de_ix (DE.dr (de_var 0)) (DE.dr de_int)) da_nil) (lq_cons lq_nil)) (de_one (de_call (ok_Lis_span t TB) hr (lev_le (b := 2) (n := n) (by decide)) t.g_Lis_span t.F_Lis_span.kp t.b_Lis_span (da_cons (de_ix (DE.dr (de_var 0)) (DE.dr de_int)) da_nil) (lq_cons lq_nil)))))) ds_nil)
      (ds_cons (ds_if (dt_cmp (op_eqD hr.units) od_eq (DE.dr (de_ix (DE.dr (de_var 0)) (DE.dr de_int))) (DE.dr de_str) (nomark _)) (ds_cons (ds_if (dt_cmp (op_neD hr.units) od_ne (DN.dr (dn_lc [("part", 4)] rfl sc_Lis_shape.nd (dir_any (DE.dr (de_slice (DE.dr (de_var 0)) (do_some de_int) (do_some de_int)))) (blkOk_by (N := N_Lis_shape) (sc := defScope s_Lis_shape) (by decide +kernel)) (fun _ _ _ _ _ => (dg_name 4 sc_Lis_shape.nd)) (fun _ _ _ _ _ => (dts_one (dt_not (dt_val (de_call (ok_Lfrom t TB) hr (lev_le (b := 2) (n := n) (by decide)) t.g_Lfrom t.F_Lfrom.kp t.b_Lfrom (da_cons (de_var 4) (da_cons de_int (da_cons de_int da_nil))) (lq_cons (lq_cons (lq_cons lq_nil)))))))) (fun _ _ _ _ _ => (de_var 4)))) (DN.dr (dn_lst da_nil (ln_big ln_nil))) (nomark _)) (ds_one (ds_ret de_bl)) ds_nil)
      (ds_one (ds_ret (de_call ih_Lis_shape hr (Nat.le_refl _) t.g_Lis_shape t.F_Lis_shape.kp t.b_Lis_shape (da_cons (de_ix (DE.dr (de_var 0)) (DE.dr de_int)) (da_cons (de_sub (DE.dr (de_var 1)) (DE.dr de_int)) da_nil)) (lq_cons (lq_cons lq_nil)))))) ds_nil)
      (ds_cons (ds_asg 3 sc_Lis_shape.nd (de_ix (DE.dr (de_var 0)) (DE.dr (de_sub (DE.dr (de_len t.m_len (DE.dr (de_var 0)))) (DE.dr de_int)))))
      (ds_cons (ds_if (DW.dt (dw_or (dt_not (dt_val (de_isi .tuple t.m_isinstance t.m_tuple (DE.dr (de_var 3))))) (dw_or1 (dt_not (dt_chain op_leA od_le op_leA od_le (DE.dr de_int) (DE.dr (de_len t.m_len (DE.dr (de_var 3)))) (DE.dr (de_ix (DN.dr (dn_lst (da_cons de_int (da_cons de_int da_nil)) (ln_big (ln_cons (ln_cons ln_nil))))) (DE.dr (de_toint t.m_int (DE.dr (de_cmp (op_eqD hr.units) od_eq (DE.dr (de_ix (DE.dr (de_var 0)) (DE.dr de_int))) (DE.dr de_str) (nomark _)))))))))))) (ds_one (ds_ret de_bl)) ds_nil)
      (ds_cons (ds_if (DW.dt (dw_and (dt_cmp (op_neD hr.units) od_ne (DE.dr (de_ix (DE.dr (de_var 0)) (DE.dr de_int))) (DE.dr de_str) (nomark _)) (dw_and1 (dt_not (dt_val (de_call (ok_Lfrom t TB) hr (lev_le (b := 2) (n := n) (by decide)) t.g_Lfrom t.F_Lfrom.kp t.b_Lfrom (da_cons (de_ix (DE.dr (de_var 0)) (DE.dr de_int)) (da_cons de_int (da_cons de_int da_nil))) (lq_cons (lq_cons (lq_cons lq_nil))))))))) (ds_one (ds_ret de_bl)) ds_nil)
      (ds_one (ds_ret (de_cmp (op_eqD hr.units) od_eq (DN.dr (dn_lc [("part", 4)] rfl sc_Lis_shape.nd (dir_any (DE.dr (de_var 3))) (blkOk_by (N := N_Lis_shape) (sc := defScope s_Lis_shape) (by decide +kernel)) (fun _ _ _ _ _ => (dg_name 4 sc_Lis_shape.nd)) (fun _ _ _ _ _ => (dts_one (dt_not (dt_val (de_call ih_Lis_shape hr (Nat.le_refl _) t.g_Lis_shape t.F_Lis_shape.kp t.b_Lis_shape (da_cons (de_var 4) (da_cons (de_sub (DE.dr (de_var 1)) (DE.dr de_int)) da_nil)) (lq_cons (lq_cons lq_nil))))))) (fun _ _ _ _ _ => (de_var 4)))) (DN.dr (dn_lst da_nil (ln_big ln_nil))) (nomark _)))))))))))))
theorem ok_Lis_box (t : T w K mg) (TB : LamX.TabB base mg t.lc t.lP) : FnD P w K mg base 15 t.a_Lis_box t.fd_Lis_box ["thing"] M_Lis_box := fn_mk t.F_Lis_box sc_Lis_box rfl fun cdv A outer s H E hr =>
    ((ds_one (ds_ret (de_and (de_call (ok_Lis_shape t TB 12) hr (by decide) t.g_Lis_shape t.F_Lis_shape.kp t.b_Lis_shape (da_cons (de_var 0) (da_cons de_int da_nil)) (lq_cons (lq_cons lq_nil))) (de_one (de_cmp (op_eqD hr.units) od_eq (DE.dr (de_lenset rfl t.m_len t.m_set (DE.dr (de_call (ok_Lnames t TB 12) hr (by decide) t.g_Lnames t.F_Lnames.kp t.b_Lnames (da_cons (de_var 0) da_nil) (lq_cons lq_nil))))) (DE.dr (de_len t.m_len (DE.dr (de_call (ok_Lnames t TB 12) hr (by decide) t.g_Lnames t.F_Lnames.kp t.b_Lnames (da_cons (de_var 0) da_nil) (lq_cons lq_nil))))) (nomark _)))))))
theorem ok_Lplaces_in (t : T w K mg) (TB : LamX.TabB base mg t.lc t.lP) : ∀ n, FnD P w K mg base (0 + n) t.a_Lplaces_in t.fd_Lplaces_in ["bent_one", "bent_way"] (M_Lplaces_in n)
  | 0 => fn_none
  | n + 1 => fn_mk t.F_Lplaces_in sc_Lplaces_in rfl fun cdv A outer s H E hr => have ih_Lplaces_in := ok_Lplaces_in t TB n
    ((ds_cons (ds_asg 2 sc_Lplaces_in.nd (DN.de (dn_lst (da_cons (de_var 1) da_nil) (ln_big (ln_cons ln_nil)))))
      (ds_cons (ds_if (dt_val (de_isi .tuple t.m_isinstance t.m_tuple (DE.dr (de_var 0)))) (ds_one (ds_for PassesOwn.never rfl (di_enum t.m_enumerate rfl (de_var 0)) (dg_tup rfl (dgs_cons (dg_name 3 sc_Lplaces_in.nd) (dgs_cons (dg_name 4 sc_Lplaces_in.nd) dgs_nil))) (ds_one (ds_asg 2 sc_Lplaces_in.nd (de_add (DE.dr (de_var 2)) (DE.dr (de_call ih_Lplaces_in hr (Nat.le_refl _) t.g_Lplaces_in t.F_Lplaces_in.kp t.b_Lplaces_in (da_cons (de_var 4) (da_cons (de_add (DE.dr (de_var 1)) (DE.dr (de_tup (da_cons (de_var 3) da_nil) (ln_big (ln_cons ln_nil))))) da_nil)) (lq_cons (lq_cons lq_nil))))))))) ds_nil)
      (ds_one (ds_ret (de_var 2))))))
theorem ok_Lotherwise (t : T w K mg) (TB : LamX.TabB base mg t.lc t.lP) : FnD P w K mg base 1 t.a_Lotherwise t.fd_Lotherwise ["bent_one", "bent_number"] M_Lotherwise := fn_mk t.F_Lotherwise sc_Lotherwise rfl fun cdv A outer s H E hr =>
    ((ds_cons (ds_if (dt_val (de_isi .tuple t.m_isinstance t.m_tuple (DE.dr (de_var 0)))) (ds_cons (ds_asg 2 sc_Lotherwise.nd (DN.de (dn_lst (da_cons (DN.de (dn_list t.m_list (DE.dr (de_var 0)))) (da_cons (DN.de (dn_list t.m_list (DE.dr (de_var 0)))) (da_cons (de_add (DE.dr (de_var 0)) (DE.dr (de_slice (DE.dr (de_var 0)) do_none (do_some de_int)))) da_nil))) (ln_big (ln_cons (ln_cons (ln_cons ln_nil)))))))
      (ds_one (ds_ret (de_ix (DE.dr (de_add (DE.dr (de_var 2)) (DN.dr (dn_lst (da_cons (de_slice (DE.dr (de_var 0)) (do_some de_int) do_none) (da_cons (DN.de (dn_lst (da_cons (de_var 0) da_nil) (ln_big (ln_cons ln_nil)))) da_nil)) (ln_big (ln_cons (ln_cons ln_nil))))))) (DE.dr (de_mod (DE.dr (de_var 1)) (DE.dr de_int))))))) ds_nil)
      (ds_cons (ds_if (dt_val (de_isi .bool t.m_isinstance t.m_bool (DE.dr (de_var 0)))) (ds_one (ds_ret (de_ix (DN.dr (dn_lst (da_cons (de_toint t.m_int (DE.dr (de_var 0))) (da_cons de_non (da_cons (de_tostr t.m_str (DE.dr (de_var 0))) da_nil))) (ln_big (ln_cons (ln_cons (ln_cons ln_nil)))))) (DE.dr (de_mod (DE.dr (de_var 1)) (DE.dr de_int)))))) ds_nil)
      (ds_cons (ds_if (dt_val (de_isi .int t.m_isinstance t.m_int (DE.dr (de_var 0)))) (ds_cons (ds_asg 2 sc_Lotherwise.nd (DN.de (dn_lst (da_cons de_bl (da_cons de_non (da_cons (de_tostr t.m_str (DE.dr (de_var 0))) (da_cons (de_tup (da_cons (de_var 0) da_nil) (ln_big (ln_cons ln_nil))) da_nil)))) (ln_big (ln_cons (ln_cons (ln_cons (ln_cons ln_nil))))))))
      (ds_one (ds_ret (de_ix (DE.dr (de_add (DE.dr (de_var 2)) (DN.dr (dn_lst (da_cons (de_sub (DE.dr (de_neg (DE.dr de_int))) (DE.dr (de_var 0))) da_nil) (ln_big (ln_cons ln_nil)))))) (DE.dr (de_mod (DE.dr (de_var 1)) (DE.dr de_int))))))) ds_nil)
      (ds_one (ds_ret (de_ix (DN.dr (dn_lst (da_cons de_non (da_cons (de_tup (da_cons (de_var 0) da_nil) (ln_big (ln_cons ln_nil))) (da_cons (DN.de (dn_lst (da_cons (de_var 0) da_nil) (ln_big (ln_cons ln_nil)))) (da_cons de_str (da_cons de_int da_nil))))) (ln_big (ln_cons (ln_cons (ln_cons (ln_cons (ln_cons ln_nil)))))))) (DE.dr (de_mod (DE.dr (de_var 1)) (DE.dr de_int))))))))))
theorem ok_Lput_at (t : T w K mg) (TB : LamX.TabB base mg t.lc t.lP) : ∀ n, FnF P w K mg base (2 + n) t.a_Lput_at t.fd_Lput_at ["bent_one", "bent_way", "bent_by"] LT (M_Lput_at n)
  | 0 => fn_noneF
  | n + 1 => fn_mkF t.F_Lput_at sc_Lput_at rfl rfl fun cdv A outer s H E hr => have ih_Lput_at := ok_Lput_at t TB n
    ((ds_cons (ds_if (dt_cmp (op_eqD hr.units) od_eq (DE.dr (de_var 1)) (DE.dr (de_tup da_nil (ln_big ln_nil))) (nomark _)) (ds_one (ds_ret (de_callF (L := LT) (p := "bent_part") (k := 1) 2 (NdefX.nscope_by (by decide +kernel)) (fun _ _ _ _ _ => rfl) (hr.mono (Nat.le_add_right _ _)) (de_var 0) (fun c c0 fa A outer s H hr => (de_call (ok_Lotherwise t TB) hr (by decide) t.g_Lotherwise t.F_Lotherwise.kp t.b_Lotherwise (da_cons (de_var 0) (da_cons (de_fdiv (DE.dr (de_var 1)) (DE.dr de_int)) da_nil)) (lq_cons (lq_cons lq_nil))))))) ds_nil)
      (ds_cons (ds_asg 3 sc_Lput_at.nd (de_ix (DE.dr (de_var 1)) (DE.dr de_int)))
      (ds_cons (ds_asg 4 sc_Lput_at.nd (de_callR (L := LT) 2 ih_Lput_at hr (Nat.le_refl _) t.g_Lput_at t.F_Lput_at.kp t.b_Lput_at (de_ix (DE.dr (de_var 0)) (DE.dr (de_var 3))) (de_slice (DE.dr (de_var 1)) (do_some de_int) do_none)))
      (ds_one (ds_ret (de_add (DE.dr (de_add (DE.dr (de_slice (DE.dr (de_var 0)) do_none (do_some (de_var 3)))) (DE.dr (de_tup (da_cons (de_var 4) da_nil) (ln_big (ln_cons ln_nil)))))) (DE.dr (de_slice (DE.dr (de_var 0)) (do_some (de_add (DE.dr (de_var 3)) (DE.dr de_int))) do_none)))))))))
theorem ok_Lspoilt (t : T w K mg) (TB : LamX.TabB base mg t.lc t.lP) : FnD P w K mg base 15 t.a_Lspoilt t.fd_Lspoilt ["thing", "number", "deep"] M_Lspoilt := fn_mkL t.F_Lspoilt t.lhc sc_Lspoilt rfl fun A outer s H E hr =>
    ((ds_cons (ds_asg 3 sc_Lspoilt.nd (de_call (ok_Lplaces_in t TB 12) hr (by decide) t.g_Lplaces_in t.F_Lplaces_in.kp t.b_Lplaces_in (da_cons (de_var 0) (da_cons (de_tup da_nil (ln_big ln_nil)) da_nil)) (lq_cons (lq_cons lq_nil))))
      (ds_cons (ds_asg 4 sc_Lspoilt.nd (de_ix (DE.dr (de_var 3)) (DE.dr (de_mod (DE.dr (de_var 1)) (DE.dr (de_len t.m_len (DE.dr (de_var 3))))))))
      (ds_one (ds_ret (de_lamcall (c := t.lc) (P := t.lP) (L := LT) 1 (ok_Lput_at t TB 12) hr (by decide) t.g_Lput_at t.F_Lput_at.kp t.b_Lput_at (de_var 0) (de_var 4) TB rfl t.ltab rfl rfl (by decide +kernel) lt_clo rfl rfl))))))
theorem ok_Lonce (t : T w K mg) (TB : LamX.TabB base mg t.lc t.lP) : FnD P w K mg base 28 t.a_Lonce t.fd_Lonce ["script"] M_Lonce := fn_mk t.F_Lonce sc_Lonce rfl fun cdv A outer s H E hr =>
    ((ds_cons (ds_asg 1 sc_Lonce.nd (de_call (ok_Lmixed t TB) hr (by decide) t.g_Lmixed t.F_Lmixed.kp t.b_Lmixed (da_cons (de_var 0) (da_cons de_int da_nil)) (lq_cons (lq_cons lq_nil))))
      (ds_cons (ds_asg 2 sc_Lonce.nd (de_call (ok_Lbox t TB 12) hr (by decide) t.g_Lbox t.F_Lbox.kp t.b_Lbox (da_cons (de_fdiv (DE.dr (de_var 1)) (DE.dr de_int)) (da_cons de_str (da_cons (de_add (DE.dr de_int) (DE.dr (de_mod (DE.dr (de_var 1)) (DE.dr de_int)))) da_nil))) (lq_cons (lq_cons (lq_cons lq_nil)))))
      (ds_cons (ds_asg 3 sc_Lonce.nd (de_call (ok_Lbox t TB 12) hr (by decide) t.g_Lbox t.F_Lbox.kp t.b_Lbox (da_cons (de_fdiv (DE.dr (de_var 1)) (DE.dr de_int)) (da_cons de_str (da_cons (de_add (DE.dr de_int) (DE.dr (de_mod (DE.dr (de_var 1)) (DE.dr de_int)))) da_nil))) (lq_cons (lq_cons (lq_cons lq_nil)))))
      (ds_cons (ds_if (dt_cmp (op_neD hr.units) od_ne (DE.dr (de_call (ok_names_in t TB 12) hr (by decide) t.g_names_in t.F_names_in.kp t.b_names_in (da_cons (de_var 3) da_nil) (lq_cons lq_nil))) (DE.dr (de_call (ok_Lnames t TB 12) hr (by decide) t.g_Lnames t.F_Lnames.kp t.b_Lnames (da_cons (de_var 3) da_nil) (lq_cons lq_nil))) (nomark _)) (ds_one (ds_ret de_bl)) ds_nil)
      (ds_cons (ds_if (dt_cmp op_gt od_gt (DE.dr (de_mod (DE.dr (de_fdiv (DE.dr (de_var 1)) (DE.dr de_int))) (DE.dr de_int))) (DE.dr de_int) (nomark _)) (ds_one (ds_asg 2 sc_Lonce.nd (de_call (ok_Lspoilt t TB) hr (by decide) t.g_Lspoilt t.F_Lspoilt.kp t.b_Lspoilt (da_cons (de_var 2) (da_cons (de_call (ok_Lmixed t TB) hr (by decide) t.g_Lmixed t.F_Lmixed.kp t.b_Lmixed (da_cons (de_var 0) (da_cons de_int da_nil)) (lq_cons (lq_cons lq_nil))) (da_cons (de_mod (DE.dr (de_fdiv (DE.dr (de_var 1)) (DE.dr de_int))) (DE.dr de_int)) da_nil))) (lq_cons (lq_cons (lq_cons lq_nil)))))) ds_nil)
      (ds_cons (ds_if (dt_cmp (op_eqD hr.units) od_eq (DE.dr (de_mod (DE.dr (de_fdiv (DE.dr (de_var 1)) (DE.dr de_int))) (DE.dr de_int))) (DE.dr de_int) (nomark _)) (ds_cons (ds_asg 6 sc_Lonce.nd (de_call (ok_Lbox t TB 12) hr (by decide) t.g_Lbox t.F_Lbox.kp t.b_Lbox (da_cons (de_call (ok_Lmixed t TB) hr (by decide) t.g_Lmixed t.F_Lmixed.kp t.b_Lmixed (da_cons (de_var 0) (da_cons de_int da_nil)) (lq_cons (lq_cons lq_nil))) (da_cons de_str (da_cons de_int da_nil))) (lq_cons (lq_cons (lq_cons lq_nil)))))
      (ds_one (ds_asg 2 sc_Lonce.nd (de_tup (da_cons de_str (da_cons (de_ix (DE.dr (de_tup (da_cons de_str (da_cons de_str da_nil)) (ln_big (ln_cons (ln_cons ln_nil))))) (DE.dr (de_mod (DE.dr (de_fdiv (DE.dr (de_var 1)) (DE.dr de_int))) (DE.dr de_int)))) (da_cons de_int (da_cons (de_mul (DE.dr (de_tup (da_cons (de_var 6) da_nil) (ln_big (ln_cons ln_nil)))) (DE.dr (de_add (DE.dr de_int) (DE.dr (de_mod (DE.dr (de_fdiv (DE.dr (de_var 1)) (DE.dr de_int))) (DE.dr de_int)))))) da_nil)))) (ln_big (ln_cons (ln_cons (ln_cons (ln_cons ln_nil))))))))) ds_nil)
      (ds_cons (ds_if (dt_cmp (op_eqD hr.units) od_eq (DE.dr (de_mod (DE.dr (de_fdiv (DE.dr (de_var 1)) (DE.dr de_int))) (DE.dr de_int))) (DE.dr de_int) (nomark _)) (ds_one (ds_asg 2 sc_Lonce.nd (de_tup (da_cons de_str (da_cons de_str (da_cons (de_tup (da_cons (de_call (ok_Lbox t TB 12) hr (by decide) t.g_Lbox t.F_Lbox.kp t.b_Lbox (da_cons (de_call (ok_Lmixed t TB) hr (by decide) t.g_Lmixed t.F_Lmixed.kp t.b_Lmixed (da_cons (de_var 0) (da_cons de_int da_nil)) (lq_cons (lq_cons lq_nil))) (da_cons de_str (da_cons (de_add (DE.dr de_int) (DE.dr (de_mod (DE.dr (de_fdiv (DE.dr (de_var 1)) (DE.dr de_int))) (DE.dr de_int)))) da_nil))) (lq_cons (lq_cons (lq_cons lq_nil)))) da_nil) (ln_big (ln_cons ln_nil))) da_nil))) (ln_big (ln_cons (ln_cons (ln_cons ln_nil))))))) ds_nil)
      (ds_cons (ds_if (dt_cmp (op_eqD hr.units) od_eq (DE.dr (de_mod (DE.dr (de_fdiv (DE.dr (de_var 1)) (DE.dr de_int))) (DE.dr de_int))) (DE.dr de_int) (nomark _)) (ds_cons (ds_lc 8 [("name", 9)] rfl sc_Lonce.nd (dir_any (DE.dr (de_slice (DE.dr de_str) do_none (do_some (de_mod (DE.dr (de_fdiv (DE.dr (de_var 1)) (DE.dr de_int))) (DE.dr de_int)))))) (blkOk_by (N := N_Lonce) (sc := defScope s_Lonce) (by decide +kernel)) (fun _ _ _ _ _ => (dg_name 9 sc_Lonce.nd)) (fun _ _ _ _ _ => dts_nil) (fun _ _ _ _ _ => (de_tup (da_cons de_str (da_cons (de_var 9) (da_cons (de_tup (da_cons de_int (da_cons de_int (da_cons de_int (da_cons de_int (da_cons de_int da_nil))))) (ln_big (ln_cons (ln_cons (ln_cons (ln_cons (ln_cons ln_nil))))))) (da_cons (de_tup (da_cons de_int (da_cons de_int (da_cons de_non (da_cons de_int (da_cons de_int da_nil))))) (ln_big (ln_cons (ln_cons (ln_cons (ln_cons (ln_cons ln_nil))))))) da_nil)))) (ln_big (ln_cons (ln_cons (ln_cons (ln_cons ln_nil))))))))
      (ds_one (ds_asg 2 sc_Lonce.nd (de_ix (DE.dr (de_tup (da_cons (de_tup (da_cons de_str (da_cons de_str (da_cons (de_tuple t.m_tuple (DE.dr (de_var 8))) da_nil))) (ln_big (ln_cons (ln_cons (ln_cons ln_nil))))) (da_cons (de_tup (da_cons de_str (da_cons de_str (da_cons de_int (da_cons (de_tuple t.m_tuple (DE.dr (de_var 8))) da_nil)))) (ln_big (ln_cons (ln_cons (ln_cons (ln_cons ln_nil)))))) da_nil)) (ln_big (ln_cons (ln_cons ln_nil))))) (DE.dr (de_mod (DE.dr (de_fdiv (DE.dr (de_var 1)) (DE.dr de_int))) (DE.dr de_int))))))) ds_nil)
      (ds_cons (ds_asg 4 sc_Lonce.nd (de_tup (da_cons de_str (da_cons (de_slice (DE.dr de_str) do_none (do_some (de_add (DE.dr de_int) (DE.dr (de_mod (DE.dr (de_fdiv (DE.dr (de_var 1)) (DE.dr de_int))) (DE.dr de_int)))))) (da_cons (de_tup (da_cons de_int (da_cons de_int (da_cons de_int (da_cons de_int (da_cons de_int da_nil))))) (ln_big (ln_cons (ln_cons (ln_cons (ln_cons (ln_cons ln_nil))))))) (da_cons (de_tup (da_cons de_int (da_cons de_int (da_cons de_non (da_cons de_int (da_cons de_int da_nil))))) (ln_big (ln_cons (ln_cons (ln_cons (ln_cons (ln_cons ln_nil))))))) da_nil)))) (ln_big (ln_cons (ln_cons (ln_cons (ln_cons ln_nil)))))))
      (ds_cons (ds_asg 5 sc_Lonce.nd (DN.de (dn_lst (da_cons (de_tup (da_cons de_str (da_cons de_str da_nil)) (ln_big (ln_cons (ln_cons ln_nil)))) (da_cons (de_tup (da_cons de_str (da_cons de_str da_nil)) (ln_big (ln_cons (ln_cons ln_nil)))) (da_cons (de_tup (da_cons de_str da_nil) (ln_big (ln_cons ln_nil))) (da_cons (de_tup da_nil (ln_big ln_nil)) (da_cons (de_tup (da_cons de_int (da_cons de_str (da_cons de_int (da_cons (de_tup da_nil (ln_big ln_nil)) da_nil)))) (ln_big (ln_cons (ln_cons (ln_cons (ln_cons ln_nil)))))) (da_cons (de_tup (da_cons de_str (da_cons de_str (da_cons de_int (da_cons de_int (da_cons de_int (da_cons de_int da_nil)))))) (ln_big (ln_cons (ln_cons (ln_cons (ln_cons (ln_cons (ln_cons ln_nil)))))))) da_nil)))))) (ln_big (ln_cons (ln_cons (ln_cons (ln_cons (ln_cons (ln_cons ln_nil))))))))))
      (ds_cons (ds_asg 5 sc_Lonce.nd (de_add (DE.dr (de_var 5)) (DN.dr (dn_lst (da_cons (DN.de (dn_lst (da_cons de_str (da_cons de_str (da_cons (de_tup (da_cons (de_var 4) da_nil) (ln_big (ln_cons ln_nil))) da_nil))) (ln_big (ln_cons (ln_cons (ln_cons ln_nil)))))) (da_cons (de_tup (da_cons de_str (da_cons de_int (da_cons (de_tup (da_cons (de_var 4) da_nil) (ln_big (ln_cons ln_nil))) da_nil))) (ln_big (ln_cons (ln_cons (ln_cons ln_nil))))) (da_cons (de_tup (da_cons de_str (da_cons de_str (da_cons (DN.de (dn_lst (da_cons (de_var 4) da_nil) (ln_big (ln_cons ln_nil)))) da_nil))) (ln_big (ln_cons (ln_cons (ln_cons ln_nil))))) (da_cons (de_tup (da_cons de_str (da_cons de_str (da_cons (de_tup (da_cons de_int da_nil) (ln_big (ln_cons ln_nil))) da_nil))) (ln_big (ln_cons (ln_cons (ln_cons ln_nil))))) da_nil)))) (ln_big (ln_cons (ln_cons (ln_cons (ln_cons ln_nil)))))))))
      (ds_cons (ds_asg 6 sc_Lonce.nd (de_ix (DE.dr (de_add (DE.dr (de_var 5)) (DN.dr (dn_lst (da_cons (de_tup (da_cons de_str (da_cons de_str (da_cons (de_ix (DE.dr (de_var 4)) (DE.dr de_int)) da_nil))) (ln_big (ln_cons (ln_cons (ln_cons ln_nil))))) da_nil) (ln_big (ln_cons ln_nil)))))) (DE.dr (de_mod (DE.dr (de_fdiv (DE.dr (de_var 1)) (DE.dr de_int))) (DE.dr de_int)))))
      (ds_cons (ds_if (DW.dt (dw_or (dt_cmp (op_neD hr.units) od_ne (DE.dr (de_call (ok_is_box t TB) hr (by decide) t.g_is_box t.F_is_box.kp t.b_is_box (da_cons (de_var 4) da_nil) (lq_cons lq_nil))) (DE.dr (de_call (ok_Lis_box t TB) hr (by decide) t.g_Lis_box t.F_Lis_box.kp t.b_Lis_box (da_cons (de_var 4) da_nil) (lq_cons lq_nil))) (nomark _)) (dw_or1 (dt_cmp (op_neD hr.units) od_ne (DE.dr (de_call (ok_is_box t TB) hr (by decide) t.g_is_box t.F_is_box.kp t.b_is_box (da_cons (de_var 6) da_nil) (lq_cons lq_nil))) (DE.dr (de_call (ok_Lis_box t TB) hr (by decide) t.g_Lis_box t.F_Lis_box.kp t.b_Lis_box (da_cons (de_var 6) da_nil) (lq_cons lq_nil))) (nomark _))))) (ds_one (ds_ret de_bl)) ds_nil)
      (ds_cons (ds_asg 7 sc_Lonce.nd (de_call (ok_is_box t TB) hr (by decide) t.g_is_box t.F_is_box.kp t.b_is_box (da_cons (de_var 2) da_nil) (lq_cons lq_nil)))
      (ds_one (ds_ret (de_and (de_isi .bool t.m_isinstance t.m_bool (DE.dr (de_var 7))) (de_one (de_cmp (op_eqD hr.units) od_eq (DE.dr (de_var 7)) (DE.dr (de_call (ok_Lis_box t TB) hr (by decide) t.g_Lis_box t.F_Lis_box.kp t.b_Lis_box (da_cons (de_var 2) da_nil) (lq_cons lq_nil))) (nomark _)))))))))))))))))))))
theorem ok_law (t : T w K mg) (TB : LamX.TabB base mg t.lc t.lP) : FnD P w K mg base 29 t.a_law t.fd_law ["script"] M_law := fn_mk t.F_law sc_law rfl fun cdv A outer s H E hr =>
    ((ds_cons (ds_for PassesOwn.never rfl (di_rng1 t.m_range de_int) (dg_name 1 sc_law.nd) (ds_one (ds_if (dt_not (dt_val (de_call (ok_Lonce t TB) hr (by decide) t.g_Lonce t.F_Lonce.kp t.b_Lonce (da_cons (de_add (DN.dr (dn_lc [("bent_cell", 2)] rfl sc_law.nd (dir_any (DE.dr (de_var 0))) (blkOk_by (N := N_law) (sc := defScope s_law) (by decide +kernel)) (fun _ _ _ _ _ => (dg_name 2 sc_law.nd)) (fun _ _ _ _ _ => dts_nil) (fun _ _ _ _ _ => (de_add (DE.dr (de_var 2)) (DE.dr (de_mul (DE.dr de_int) (DE.dr (de_var 1)))))))) (DN.dr (dn_lst (da_cons (de_var 1) da_nil) (ln_big (ln_cons ln_nil))))) da_nil) (lq_cons lq_nil)))) (ds_one (ds_ret de_bl)) ds_nil)))
      (ds_one (ds_ret de_bl))))
end
def dd_is_whole : He.DefD := ⟨("is_whole", none), "is_whole", "is_whole", defArgs s_is_whole, defBody s_is_whole, defScope s_is_whole, [], []⟩
def dd_is_name : He.DefD := ⟨("is_name", none), "is_name", "is_name", defArgs s_is_name, defBody s_is_name, defScope s_is_name, [], []⟩
def dd_is_span : He.DefD := ⟨("is_span", none), "is_span", "is_span", defArgs s_is_span, defBody s_is_span, defScope s_is_span, [], []⟩
def dd_are_boxes : He.DefD := ⟨("are_boxes", none), "are_boxes", "are_boxes", defArgs s_are_boxes, defBody s_are_boxes, defScope s_are_boxes, [], []⟩
def dd_is_box_to : He.DefD := ⟨("is_box_to", none), "is_box_to", "is_box_to", defArgs s_is_box_to, defBody s_is_box_to, defScope s_is_box_to, [], []⟩
def dd_boxes_in : He.DefD := ⟨("boxes_in", none), "boxes_in", "boxes_in", defArgs s_boxes_in, defBody s_boxes_in, defScope s_boxes_in, [], []⟩
def dd_names_in : He.DefD := ⟨("names_in", none), "names_in", "names_in", defArgs s_names_in, defBody s_names_in, defScope s_names_in, [], []⟩
def dd_is_box : He.DefD := ⟨("is_box", none), "is_box", "is_box", defArgs s_is_box, defBody s_is_box, defScope s_is_box, [], []⟩
def dd_Lcell_at : He.DefD := ⟨("_law_cell_at", none), "_law_cell_at", "_law_cell_at", defArgs s_Lcell_at, defBody s_Lcell_at, defScope s_Lcell_at, [], []⟩
def dd_Lmixed : He.DefD := ⟨("_law_mixed", none), "_law_mixed", "_law_mixed", defArgs s_Lmixed, defBody s_Lmixed, defScope s_Lmixed, [], []⟩
def dd_Ldrawn : He.DefD := ⟨("_law_drawn", none), "_law_drawn", "_law_drawn", defArgs s_Ldrawn, defBody s_Ldrawn, defScope s_Ldrawn, [], []⟩
def dd_Lspan : He.DefD := ⟨("_law_span", none), "_law_span", "_law_span", defArgs s_Lspan, defBody s_Lspan, defScope s_Lspan, [], []⟩
def dd_Lbox : He.DefD := ⟨("_law_box", none), "_law_box", "_law_box", defArgs s_Lbox, defBody s_Lbox, defScope s_Lbox, [], []⟩
def dd_Lin : He.DefD := ⟨("_law_in", none), "_law_in", "_law_in", defArgs s_Lin, defBody s_Lin, defScope s_Lin, [], []⟩
def dd_Lfrom : He.DefD := ⟨("_law_from", none), "_law_from", "_law_from", defArgs s_Lfrom, defBody s_Lfrom, defScope s_Lfrom, [], []⟩
def dd_Lis_span : He.DefD := ⟨("_law_is_span", none), "_law_is_span", "_law_is_span", defArgs s_Lis_span, defBody s_Lis_span, defScope s_Lis_span, [], []⟩
def dd_Lis_name : He.DefD := ⟨("_law_is_name", none), "_law_is_name", "_law_is_name", defArgs s_Lis_name, defBody s_Lis_name, defScope s_Lis_name, [], []⟩
def dd_Lnames : He.DefD := ⟨("_law_names", none), "_law_names", "_law_names", defArgs s_Lnames, defBody s_Lnames, defScope s_Lnames, [], []⟩
def dd_Lis_shape : He.DefD := ⟨("_law_is_shape", none), "_law_is_shape", "_law_is_shape", defArgs s_Lis_shape, defBody s_Lis_shape, defScope s_Lis_shape, [], []⟩
def dd_Lis_box : He.DefD := ⟨("_law_is_box", none), "_law_is_box", "_law_is_box", defArgs s_Lis_box, defBody s_Lis_box, defScope s_Lis_box, [], []⟩
def dd_Lplaces_in : He.DefD := ⟨("_law_places_in", none), "_law_places_in", "_law_places_in", defArgs s_Lplaces_in, defBody s_Lplaces_in, defScope s_Lplaces_in, [], []⟩
def dd_Lotherwise : He.DefD := ⟨("_law_otherwise", none), "_law_otherwise", "_law_otherwise", defArgs s_Lotherwise, defBody s_Lotherwise, defScope s_Lotherwise, [], []⟩
def dd_Lput_at : He.DefD := ⟨("_law_put_at", none), "_law_put_at", "_law_put_at", defArgs s_Lput_at, defBody s_Lput_at, defScope s_Lput_at, [], []⟩
def dd_Lspoilt : He.DefD := ⟨("_law_spoilt", none), "_law_spoilt", "_law_spoilt", defArgs s_Lspoilt, defBody s_Lspoilt, defScope s_Lspoilt, [], []⟩
def dd_Lonce : He.DefD := ⟨("_law_once", none), "_law_once", "_law_once", defArgs s_Lonce, defBody s_Lonce, defScope s_Lonce, [], []⟩
def dd_law : He.DefD := ⟨("law", none), "law", "law", defArgs s_law, defBody s_law, defScope s_law, [], []⟩
def fn : List He.DefD := [dd_is_whole, dd_is_name, dd_is_span, dd_are_boxes, dd_is_box_to, dd_boxes_in, dd_names_in, dd_is_box, dd_Lcell_at, dd_Lmixed, dd_Ldrawn, dd_Lspan, dd_Lbox, dd_Lin, dd_Lfrom, dd_Lis_span, dd_Lis_name, dd_Lnames, dd_Lis_shape, dd_Lis_box, dd_Lplaces_in, dd_Lotherwise, dd_Lput_at, dd_Lspoilt, dd_Lonce, dd_law]
def fa : List He.Fa := [.glo "is_whole", .glo "is_name", .glo "is_span", .glo "are_boxes", .glo "is_box_to", .glo "boxes_in", .glo "names_in", .glo "is_box", .glo "_law_cell_at", .glo "_law_mixed", .glo "_law_drawn", .glo "_law_span", .glo "_law_box", .glo "_law_in", .glo "_law_from", .glo "_law_is_span", .glo "_law_is_name", .glo "_law_names", .glo "_law_is_shape", .glo "_law_is_box", .glo "_law_places_in", .glo "_law_otherwise", .glo "_law_put_at", .glo "_law_spoilt", .glo "_law_once", .glo "law", .free "isinstance", .free "bool", .free "int", .free "all", .free "len", .free "str", .free "tuple", .free "set", .free "range", .free "min", .free "enumerate", .free "list", .str "LETTERS" "abcdefghijklmnopqrstuvwxyz", .int "LONGEST_NAME" 4, .int "FAR" 999, .int "MOST_SHARE" 9, .int "MOST_BOXES" 4, .int "MOST_PILE" 3, .int "DEEPEST" 4]
abbrev R : PySem.W.OpenRow := PySem.W.OpenLaw.row PySem.Challenge.rw_growbox_k08_lists_anywhere
def tds : List (Str × TabS) := []
def tus : List (Str × List He.Dv) := []
abbrev hk : PySem.W.Hook := hookT 4 ["_law_spoilt"] fa fn tds tus
def ob (s : PySem.W.SharedT) : AlT := obsTG 4 ["_law_spoilt"] fa fn tds tus (HandSHeadRun.getT s)
theorem ob_eq (s : PySem.W.SharedT) : ob s = hk.obs s.abs := obsTG_eq (HandSHeadRun.getT_eq s)
def names : List PySem.Str := [("LETTERS" : PySem.Str), ("LONGEST_NAME" : PySem.Str), ("FAR" : PySem.Str), ("MOST_SHARE" : PySem.Str), ("DEEPEST" : PySem.Str), ("MOST_BOXES" : PySem.Str), ("MOST_PILE" : PySem.Str), ("is_whole" : PySem.Str), ("is_name" : PySem.Str), ("is_span" : PySem.Str), ("are_boxes" : PySem.Str), ("is_box_to" : PySem.Str), ("boxes_in" : PySem.Str), ("names_in" : PySem.Str), ("is_box" : PySem.Str), ("_law_cell_at" : PySem.Str), ("_law_mixed" : PySem.Str), ("_law_drawn" : PySem.Str), ("_law_span" : PySem.Str), ("_law_box" : PySem.Str), ("_law_in" : PySem.Str), ("_law_from" : PySem.Str), ("_law_is_span" : PySem.Str), ("_law_is_name" : PySem.Str), ("_law_names" : PySem.Str), ("_law_is_shape" : PySem.Str), ("_law_is_box" : PySem.Str), ("_law_places_in" : PySem.Str), ("_law_put_at" : PySem.Str), ("_law_otherwise" : PySem.Str), ("_law_spoilt" : PySem.Str), ("_law_once" : PySem.Str)]
theorem run (w : World) : HandSHeadRun.RunEq R (PySem.W.view R.prog [34]) hk ob 1450 names w := by
  intro os
  kernel_rfl
theorem tOf {w : World} {K : PySem.W.Frag} {h : Heap} {mg : Str → Option Value} (X : K.In h) (G : h.Ns mainGlobals mg) (c0 : SaysX fa fn tds tus w K) (tb : TabAt h K "_law_spoilt") : ∃ t : T w K mg, PySem.W.CodeHd h t.lc t.lP ∧ List.lookup t.lP K = none ∧ h.get? t.lP = some { cls := .none, data := .fields #[] } := by
  have c := c0.d
  obtain ⟨fd_is_whole, F_is_whole⟩ := c.def_ 0 (d := dd_is_whole) rfl
  obtain ⟨fd_is_name, F_is_name⟩ := c.def_ 1 (d := dd_is_name) rfl
  obtain ⟨fd_is_span, F_is_span⟩ := c.def_ 2 (d := dd_is_span) rfl
  obtain ⟨fd_are_boxes, F_are_boxes⟩ := c.def_ 3 (d := dd_are_boxes) rfl
  obtain ⟨fd_is_box_to, F_is_box_to⟩ := c.def_ 4 (d := dd_is_box_to) rfl
  obtain ⟨fd_boxes_in, F_boxes_in⟩ := c.def_ 5 (d := dd_boxes_in) rfl
  obtain ⟨fd_names_in, F_names_in⟩ := c.def_ 6 (d := dd_names_in) rfl
  obtain ⟨fd_is_box, F_is_box⟩ := c.def_ 7 (d := dd_is_box) rfl
  obtain ⟨fd_Lcell_at, F_Lcell_at⟩ := c.def_ 8 (d := dd_Lcell_at) rfl
  obtain ⟨fd_Lmixed, F_Lmixed⟩ := c.def_ 9 (d := dd_Lmixed) rfl
  obtain ⟨fd_Ldrawn, F_Ldrawn⟩ := c.def_ 10 (d := dd_Ldrawn) rfl
  obtain ⟨fd_Lspan, F_Lspan⟩ := c.def_ 11 (d := dd_Lspan) rfl
  obtain ⟨fd_Lbox, F_Lbox⟩ := c.def_ 12 (d := dd_Lbox) rfl
  obtain ⟨fd_Lin, F_Lin⟩ := c.def_ 13 (d := dd_Lin) rfl
  obtain ⟨fd_Lfrom, F_Lfrom⟩ := c.def_ 14 (d := dd_Lfrom) rfl
  obtain ⟨fd_Lis_span, F_Lis_span⟩ := c.def_ 15 (d := dd_Lis_span) rfl
  obtain ⟨fd_Lis_name, F_Lis_name⟩ := c.def_ 16 (d := dd_Lis_name) rfl
  obtain ⟨fd_Lnames, F_Lnames⟩ := c.def_ 17 (d := dd_Lnames) rfl
  obtain ⟨fd_Lis_shape, F_Lis_shape⟩ := c.def_ 18 (d := dd_Lis_shape) rfl
  obtain ⟨fd_Lis_box, F_Lis_box⟩ := c.def_ 19 (d := dd_Lis_box) rfl
  obtain ⟨fd_Lplaces_in, F_Lplaces_in⟩ := c.def_ 20 (d := dd_Lplaces_in) rfl
  obtain ⟨fd_Lotherwise, F_Lotherwise⟩ := c.def_ 21 (d := dd_Lotherwise) rfl
  obtain ⟨fd_Lput_at, F_Lput_at⟩ := c.def_ 22 (d := dd_Lput_at) rfl
  obtain ⟨fd_Lspoilt, F_Lspoilt⟩ := c.def_ 23 (d := dd_Lspoilt) rfl
  obtain ⟨fd_Lonce, F_Lonce⟩ := c.def_ 24 (d := dd_Lonce) rfl
  obtain ⟨fd_law, F_law⟩ := c.def_ 25 (d := dd_law) rfl
  obtain ⟨k_LETTERS, c_LETTERS⟩ := He.str_ok X G (c.fact 38 (f := .str "LETTERS" "abcdefghijklmnopqrstuvwxyz") rfl)
  obtain ⟨k_LONGEST_NAME, c_LONGEST_NAME⟩ := He.int_ok X G (c.fact 39 (f := .int "LONGEST_NAME" 4) rfl)
  obtain ⟨k_FAR, c_FAR⟩ := He.int_ok X G (c.fact 40 (f := .int "FAR" 999) rfl)
  obtain ⟨k_MOST_SHARE, c_MOST_SHARE⟩ := He.int_ok X G (c.fact 41 (f := .int "MOST_SHARE" 9) rfl)
  obtain ⟨k_MOST_BOXES, c_MOST_BOXES⟩ := He.int_ok X G (c.fact 42 (f := .int "MOST_BOXES" 4) rfl)
  obtain ⟨k_MOST_PILE, c_MOST_PILE⟩ := He.int_ok X G (c.fact 43 (f := .int "MOST_PILE" 3) rfl)
  obtain ⟨k_DEEPEST, c_DEEPEST⟩ := He.int_ok X G (c.fact 44 (f := .int "DEEPEST" 4) rfl)
  obtain ⟨lc, lP, lhc, ltab, y1, y2, y3⟩ := lam_facts X F_Lspoilt rfl tb
  exact ⟨{
    lc := lc, lP := lP, lhc := lhc, ltab := ltab,
    a_is_whole := _, fd_is_whole := fd_is_whole, F_is_whole := F_is_whole, g_is_whole := He.glo_ok X G (c.fact 0 (f := .glo "is_whole") rfl), b_is_whole := F_is_whole.bindsN fun _ _ _ _ _ _ us hl => match us, hl with | [_, _, _], _ => rfl,
    a_is_name := _, fd_is_name := fd_is_name, F_is_name := F_is_name, g_is_name := He.glo_ok X G (c.fact 1 (f := .glo "is_name") rfl), b_is_name := F_is_name.bindsN fun _ _ _ _ _ _ us hl => match us, hl with | [_], _ => rfl,
    a_is_span := _, fd_is_span := fd_is_span, F_is_span := F_is_span, g_is_span := He.glo_ok X G (c.fact 2 (f := .glo "is_span") rfl), b_is_span := F_is_span.bindsN fun _ _ _ _ _ _ us hl => match us, hl with | [_], _ => rfl,
    a_are_boxes := _, fd_are_boxes := fd_are_boxes, F_are_boxes := F_are_boxes, g_are_boxes := He.glo_ok X G (c.fact 3 (f := .glo "are_boxes") rfl), b_are_boxes := F_are_boxes.bindsN fun _ _ _ _ _ _ us hl => match us, hl with | [_, _, _], _ => rfl,
    a_is_box_to := _, fd_is_box_to := fd_is_box_to, F_is_box_to := F_is_box_to, g_is_box_to := He.glo_ok X G (c.fact 4 (f := .glo "is_box_to") rfl), b_is_box_to := F_is_box_to.bindsN fun _ _ _ _ _ _ us hl => match us, hl with | [_, _], _ => rfl,
    a_boxes_in := _, fd_boxes_in := fd_boxes_in, F_boxes_in := F_boxes_in, g_boxes_in := He.glo_ok X G (c.fact 5 (f := .glo "boxes_in") rfl), b_boxes_in := F_boxes_in.bindsN fun _ _ _ _ _ _ us hl => match us, hl with | [_], _ => rfl,
    a_names_in := _, fd_names_in := fd_names_in, F_names_in := F_names_in, g_names_in := He.glo_ok X G (c.fact 6 (f := .glo "names_in") rfl), b_names_in := F_names_in.bindsN fun _ _ _ _ _ _ us hl => match us, hl with | [_], _ => rfl,
    a_is_box := _, fd_is_box := fd_is_box, F_is_box := F_is_box, g_is_box := He.glo_ok X G (c.fact 7 (f := .glo "is_box") rfl), b_is_box := F_is_box.bindsN fun _ _ _ _ _ _ us hl => match us, hl with | [_], _ => rfl,
    a_Lcell_at := _, fd_Lcell_at := fd_Lcell_at, F_Lcell_at := F_Lcell_at, g_Lcell_at := He.glo_ok X G (c.fact 8 (f := .glo "_law_cell_at") rfl), b_Lcell_at := F_Lcell_at.bindsN fun _ _ _ _ _ _ us hl => match us, hl with | [_, _], _ => rfl,
    a_Lmixed := _, fd_Lmixed := fd_Lmixed, F_Lmixed := F_Lmixed, g_Lmixed := He.glo_ok X G (c.fact 9 (f := .glo "_law_mixed") rfl), b_Lmixed := F_Lmixed.bindsN fun _ _ _ _ _ _ us hl => match us, hl with | [_, _], _ => rfl,
    a_Ldrawn := _, fd_Ldrawn := fd_Ldrawn, F_Ldrawn := F_Ldrawn, g_Ldrawn := He.glo_ok X G (c.fact 10 (f := .glo "_law_drawn") rfl), b_Ldrawn := F_Ldrawn.bindsN fun _ _ _ _ _ _ us hl => match us, hl with | [_, _], _ => rfl,
    a_Lspan := _, fd_Lspan := fd_Lspan, F_Lspan := F_Lspan, g_Lspan := He.glo_ok X G (c.fact 11 (f := .glo "_law_span") rfl), b_Lspan := F_Lspan.bindsN fun _ _ _ _ _ _ us hl => match us, hl with | [_], _ => rfl,
    a_Lbox := _, fd_Lbox := fd_Lbox, F_Lbox := F_Lbox, g_Lbox := He.glo_ok X G (c.fact 12 (f := .glo "_law_box") rfl), b_Lbox := F_Lbox.bindsN fun _ _ _ _ _ _ us hl => match us, hl with | [_, _, _], _ => rfl,
    a_Lin := _, fd_Lin := fd_Lin, F_Lin := F_Lin, g_Lin := He.glo_ok X G (c.fact 13 (f := .glo "_law_in") rfl), b_Lin := F_Lin.bindsN fun _ _ _ _ _ _ us hl => match us, hl with | [_], _ => rfl,
    a_Lfrom := _, fd_Lfrom := fd_Lfrom, F_Lfrom := F_Lfrom, g_Lfrom := He.glo_ok X G (c.fact 14 (f := .glo "_law_from") rfl), b_Lfrom := F_Lfrom.bindsN fun _ _ _ _ _ _ us hl => match us, hl with | [_, _, _], _ => rfl,
    a_Lis_span := _, fd_Lis_span := fd_Lis_span, F_Lis_span := F_Lis_span, g_Lis_span := He.glo_ok X G (c.fact 15 (f := .glo "_law_is_span") rfl), b_Lis_span := F_Lis_span.bindsN fun _ _ _ _ _ _ us hl => match us, hl with | [_], _ => rfl,
    a_Lis_name := _, fd_Lis_name := fd_Lis_name, F_Lis_name := F_Lis_name, g_Lis_name := He.glo_ok X G (c.fact 16 (f := .glo "_law_is_name") rfl), b_Lis_name := F_Lis_name.bindsN fun _ _ _ _ _ _ us hl => match us, hl with | [_], _ => rfl,
    a_Lnames := _, fd_Lnames := fd_Lnames, F_Lnames := F_Lnames, g_Lnames := He.glo_ok X G (c.fact 17 (f := .glo "_law_names") rfl), b_Lnames := F_Lnames.bindsN fun _ _ _ _ _ _ us hl => match us, hl with | [_], _ => rfl,
    a_Lis_shape := _, fd_Lis_shape := fd_Lis_shape, F_Lis_shape := F_Lis_shape, g_Lis_shape := He.glo_ok X G (c.fact 18 (f := .glo "_law_is_shape") rfl), b_Lis_shape := F_Lis_shape.bindsN fun _ _ _ _ _ _ us hl => match us, hl with | [_, _], _ => rfl,
    a_Lis_box := _, fd_Lis_box := fd_Lis_box, F_Lis_box := F_Lis_box, g_Lis_box := He.glo_ok X G (c.fact 19 (f := .glo "_law_is_box") rfl), b_Lis_box := F_Lis_box.bindsN fun _ _ _ _ _ _ us hl => match us, hl with | [_], _ => rfl,
    a_Lplaces_in := _, fd_Lplaces_in := fd_Lplaces_in, F_Lplaces_in := F_Lplaces_in, g_Lplaces_in := He.glo_ok X G (c.fact 20 (f := .glo "_law_places_in") rfl), b_Lplaces_in := F_Lplaces_in.bindsN fun _ _ _ _ _ _ us hl => match us, hl with | [_, _], _ => rfl,
    a_Lotherwise := _, fd_Lotherwise := fd_Lotherwise, F_Lotherwise := F_Lotherwise, g_Lotherwise := He.glo_ok X G (c.fact 21 (f := .glo "_law_otherwise") rfl), b_Lotherwise := F_Lotherwise.bindsN fun _ _ _ _ _ _ us hl => match us, hl with | [_, _], _ => rfl,
    a_Lput_at := _, fd_Lput_at := fd_Lput_at, F_Lput_at := F_Lput_at, g_Lput_at := He.glo_ok X G (c.fact 22 (f := .glo "_law_put_at") rfl), b_Lput_at := F_Lput_at.bindsN fun _ _ _ _ _ _ us hl => match us, hl with | [_, _, _], _ => rfl,
    a_Lspoilt := _, fd_Lspoilt := fd_Lspoilt, F_Lspoilt := F_Lspoilt, g_Lspoilt := He.glo_ok X G (c.fact 23 (f := .glo "_law_spoilt") rfl), b_Lspoilt := F_Lspoilt.bindsN fun _ _ _ _ _ _ us hl => match us, hl with | [_, _, _], _ => rfl,
    a_Lonce := _, fd_Lonce := fd_Lonce, F_Lonce := F_Lonce, g_Lonce := He.glo_ok X G (c.fact 24 (f := .glo "_law_once") rfl), b_Lonce := F_Lonce.bindsN fun _ _ _ _ _ _ us hl => match us, hl with | [_], _ => rfl,
    a_law := _, fd_law := fd_law, F_law := F_law, g_law := He.glo_ok X G (c.fact 25 (f := .glo "law") rfl), b_law := F_law.bindsN fun _ _ _ _ _ _ us hl => match us, hl with | [_], _ => rfl,
    m_isinstance := He.free_ok X G (c.fact 26 (f := .free "isinstance") rfl),
    m_bool := He.free_ok X G (c.fact 27 (f := .free "bool") rfl),
    m_int := He.free_ok X G (c.fact 28 (f := .free "int") rfl),
    m_all := He.free_ok X G (c.fact 29 (f := .free "all") rfl),
    m_len := He.free_ok X G (c.fact 30 (f := .free "len") rfl),
    m_str := He.free_ok X G (c.fact 31 (f := .free "str") rfl),
    m_tuple := He.free_ok X G (c.fact 32 (f := .free "tuple") rfl),
    m_set := He.free_ok X G (c.fact 33 (f := .free "set") rfl),
    m_range := He.free_ok X G (c.fact 34 (f := .free "range") rfl),
    m_min := He.free_ok X G (c.fact 35 (f := .free "min") rfl),
    m_enumerate := He.free_ok X G (c.fact 36 (f := .free "enumerate") rfl),
    m_list := He.free_ok X G (c.fact 37 (f := .free "list") rfl),
    k_LETTERS := k_LETTERS, c_LETTERS := c_LETTERS,
    k_LONGEST_NAME := k_LONGEST_NAME, c_LONGEST_NAME := c_LONGEST_NAME,
    k_FAR := k_FAR, c_FAR := c_FAR,
    k_MOST_SHARE := k_MOST_SHARE, c_MOST_SHARE := c_MOST_SHARE,
    k_MOST_BOXES := k_MOST_BOXES, c_MOST_BOXES := c_MOST_BOXES,
    k_MOST_PILE := k_MOST_PILE, c_MOST_PILE := c_MOST_PILE,
    k_DEEPEST := k_DEEPEST, c_DEEPEST := c_DEEPEST,
  }, y1, y2, y3⟩
def spLaw (K : PySem.W.Frag) (lP : Addr) : Sp := fun vs H Q _ => ∃ (a : Addr) (ns : List Int), vs = [.ref a] ∧ SqL K H a (ns.map V.int) ∧ ns.length ≤ 63 ∧ H lP = some (.tbl #[]) ∧ ∀ H', Q (.bl true) H'
theorem law_ok {P : Program} {w : World} {K : PySem.W.Frag} {mg : Str → Option Value} {base : Heap} (hM : ∀ ns : List Int, ns.length ≤ 63 → M_law [.list (ns.map PyData.int)] = some (.bool true)) (t : T w K mg) (TB : LamX.TabB base mg t.lc t.lP) :
    FnOk P w K mg base CX0 29 t.a_law t.fd_law ["script"] (spLaw K t.lP) :=
  (ok_law t TB).imp (fun vs H Q E h => by
    obtain ⟨a, ns, rfl, hS, hl, hT, q⟩ := h
    exact ⟨ntH H, _, _, ⟨ntH_ex H, ntH_nt H, fun P2 z => by rw [tabR_one z t.ltab]; exact LamX.TabS.nil hT⟩, .cons (.lst (ntH_sql hS) (dpa_ints ns)) .nil, rfl, hM ns hl, fun v F' H' g dp => by rw [dp_bl dp]; exact q H'⟩)
end
end W
open PySem PySem.W PySem.Calls PyProof.Rows
theorem W.finish (hM : ∀ ns : List Int, ns.length ≤ 63 → W.M_law [.list (ns.map PyData.int)] = some (.bool true)) : PySem.Challenge.rw_growbox_k08_lists_anywhere.Holds := by
  w_on; o_law
  refine HandSHeadRun.head_any (r := OpenLaw.row PySem.Challenge.rw_growbox_k08_lists_anywhere) (q := view (OpenLaw.row PySem.Challenge.rw_growbox_k08_lists_anywhere).prog [34]) (H := W.hk) (ob := W.ob) (M := 1450) (loose := W.names) (d := HandSHeadRun.topDef (OpenLaw.row PySem.Challenge.rw_growbox_k08_lists_anywhere).prog 34) (kwd := []) W.ob_eq
    (by kernel_rfl) (fun s => by kernel_rfl) W.run (by kernel_rfl) (by kernel_rfl) (by kernel_rfl) (by rfl) (by first | assumption | decide +kernel) (by decide +kernel) ⟨rfl, rfl, rfl, rfl, rfl, by decide +kernel⟩ ?hw ?hc
  case hw => w_witness2
  case hc =>
    refine DL.walk_ofTE (l := PySem.Challenge.rw_growbox_k08_lists_anywhere) (n := 63) (k := 29) (x := "script") (CX := L2.CX0) rfl (by decide) (by kernel_rfl) ⟨rfl, by decide, by decide⟩ ?F (fun _ _ _ _ z => z)
    intro w mg fa h Y G hmg0
    obtain ⟨K, KX, c, tb⟩ := Y
    have hmg : mg ("law" : PySem.Str) = some (.ref fa) := by
      have e : (HandSHeadRun.topDef (OpenLaw.row PySem.Challenge.rw_growbox_k08_lists_anywhere).prog 34).name = ("law" : PySem.Str) := by kernel_rfl
      rw [← e]
      exact hmg0
    obtain ⟨t, z1, z2, z3⟩ := W.tOf KX G c (tb _ (by simp))
    have e := hmg.symm.trans t.g_law
    cases e
    have b := L2.FunD.bindsA (ps := ["script"]) t.F_law fun _ _ _ _ _ _ us hl => match us, hl with | [_], _ => rfl
    exact ⟨K, KX, t.fd_law, [(t.lc, t.lP)], W.spLaw K t.lP, fun p hp => by rw [List.mem_singleton.mp hp]; exact z3, fun p hp => by rw [List.mem_singleton.mp hp]; exact z2, fun p hp => by rw [List.mem_singleton.mp hp]; exact z1, fun s v => b s [v] rfl, fun H a ns hl _ hT hS => ⟨a, ns, rfl, hS, hl, hT _ (List.mem_singleton.mpr rfl), fun _ => rfl⟩, fun base _ _ TB => W.law_ok hM t (TB _ (List.mem_singleton.mpr rfl))⟩

namespace W
open PySem L2 DL

/-! the law's draws -/
theorem cell_eq (ns : List Int) (k : Nat) : M_Lcell_at [.list (ns.map .int), .int k] = some (.int (ns.getD k 0)) := by
  simp -implicitDefEqProofs [M_Lcell_at, D_Lcell_at, startE]
  by_cases h : k < ns.length
  · simp [h, atI_pos]
  · have h' : ns.length ≤ k := by omega
    simp [h, h']
theorem mixed_ex (ns : List Int) (k : Nat) (hk : k < 1000) : ∃ m : Int, M_Lmixed [.list (ns.map .int), .int k] = some (.int m) ∧ 0 ≤ m ∧ m < 2147483629 := by
  simp -implicitDefEqProofs [M_Lmixed, D_Lmixed, startE, cell_eq, mul_l (a := 7919), mul_r (b := 48271), mod_ok (b := 2147483647), mod_ok (b := 2147483629), mul_l (a := 7)]
  generalize hd : (ns[k]?.getD 0 + 7919 * (k : Int) + 1) * 48271 % 2147483647 = d
  have h0 : 0 ≤ d := by omega
  have h1 : d < 2147483647 := by omega
  rw [mul_l (by omega) (by omega)]
  simp [mod_ok]
  exact ⟨Int.emod_nonneg _ (by decide), Int.emod_lt_of_pos _ (by decide)⟩

theorem drawn_ex (n k : Int) : ∃ m : Int, M_Ldrawn [.int n, .int k] = some (.int m) ∧ 0 ≤ m ∧ m < 2147483629 := by
  simp -implicitDefEqProofs [M_Ldrawn, D_Ldrawn, startE, mul_l (a := 104729), mul_r (b := 69621), mod_ok (b := 2147483647), mod_ok (b := 2147483629), mul_l (a := 3)]
  generalize hd : (n + 104729 * k + 17) * 69621 % 2147483647 = d
  have h0 : 0 ≤ d := by omega
  have h1 : d < 2147483647 := by omega
  rw [mul_l (by omega) (by omega)]
  simp [mod_ok]
  exact ⟨Int.emod_nonneg _ (by decide), Int.emod_lt_of_pos _ (by decide)⟩

/-! spans -/
structure Spn where
  lo : Int
  wi : Int
  mo : Option Int
  gr : Int
  sh : Int
def optD : Option Int → D
  | none => .none
  | some x => .int x
def spD (s : Spn) : D := .tuple [.int s.lo, .int s.wi, optD s.mo, .int s.gr, .int s.sh]
def loV (s : Spn) : Int := if 0 < s.sh then s.lo else s.wi
def toV (s : Spn) : Option Int := if 0 < s.gr then s.mo else some s.wi
/-- well formed -/
structure Spn.Ok (s : Spn) : Prop where
  lo0 : 0 ≤ s.lo
  low : s.lo ≤ s.wi
  top : ∀ m, s.mo = some m → s.wi ≤ m
  gr0 : 0 ≤ s.gr
  sh0 : 0 ≤ s.sh
/-- small -/
structure Spn.Sm (s : Spn) : Prop where
  wi : s.wi ≤ 999
  mo : ∀ m, s.mo = some m → m ≤ 999
  gr : s.gr ≤ 9
  sh : s.sh ≤ 9
theorem optD_none (o : Option Int) : isND (optD o) = some (.bool o.isNone) := by cases o <;> rfl
theorem optD_not (o : Option Int) : notND (optD o) = some (.bool o.isSome) := by cases o <;> rfl
theorem shp_opt (n : Nat) (o : Option Int) : shp n (optD o) = true := by cases o <;> cases n <;> rfl
theorem shp_sp (s : Spn) : shp 1 (spD s) = true := by
  rcases s with ⟨a, b, _ | c, d, e⟩ <;> rfl
theorem eqv_opt (a b : Option Int) : PyData.eqv (optD a) (optD b) = true ↔ a = b := by
  cases a <;> cases b <;> simp [optD, PyData.eqv]
theorem i1 (s : Spn) : atI [PyData.int s.lo, .int s.wi, optD s.mo, .int s.gr, .int s.sh] 1 = some (.int s.wi) := rfl
theorem ix0 (s : Spn) : ixD (spD s) (.int 0) = some (.int s.lo) := rfl
theorem ix1 (s : Spn) : ixD (spD s) (.int 1) = some (.int s.wi) := rfl
theorem ix2 (s : Spn) : ixD (spD s) (.int 2) = some (optD s.mo) := rfl
theorem ix3 (s : Spn) : ixD (spD s) (.int 3) = some (.int s.gr) := rfl
theorem ix4 (s : Spn) : ixD (spD s) (.int 4) = some (.int s.sh) := rfl
theorem optDn : optD none = .none := (rfl)
theorem optDs {x : Int} : optD (some x) = .int x := (rfl)

theorem atO4 {a b c : Int} {r : Int} (h1 : 0 ≤ r) (h2 : r < 4) : ∃ o : Option Int, (o = none ∨ o = some a ∨ o = some b ∨ o = some c) ∧ atI [PyData.none, .int a, .int b, .int c] r = some (optD o) := by
  obtain rfl | rfl | rfl | rfl : r = 0 ∨ r = 1 ∨ r = 2 ∨ r = 3 := by omega
  · exact ⟨none, .inl rfl, rfl⟩
  · exact ⟨some a, .inr (.inl rfl), rfl⟩
  · exact ⟨some b, .inr (.inr (.inl rfl)), rfl⟩
  · exact ⟨some c, .inr (.inr (.inr rfl)), rfl⟩
theorem span_ex {n : Int} (hn : 0 ≤ n) : ∃ s : Spn, M_Lspan [.int n] = some (spD s) ∧ s.Ok ∧ s.Sm := by
  obtain ⟨a, ha, pa⟩ := pick3 (a := 21) (b := 6) (c := 200) (r := n / 8 % 3) (by omega) (by omega)
  obtain ⟨b, hb, pb⟩ := pick3 (a := 21) (b := 1) (c := 90) (r := n / 512 % 3) (by omega) (by omega)
  have ha0 : 0 < a := by omega
  have hb0 : 0 < b := by omega
  have a1 := Int.emod_nonneg n (b := a) (by omega)
  have a2 := Int.emod_lt_of_pos n ha0
  have b1 := Int.emod_nonneg (n / 64) (b := b) (by omega)
  have b2 := Int.emod_lt_of_pos (n / 64) hb0
  obtain ⟨o, ho, po⟩ := atO4 (a := n % a + n / 64 % b + n / 4096 % 30) (b := n % a + n / 64 % b) (c := n % a + n / 64 % b + n / 4096 % 300) (r := n / 131072 % 4) (by omega) (by omega)
  obtain ⟨g, hg, pg⟩ := pick4 (a := 0) (b := 1) (c := 2) (d := 3) (r := n / 524288 % 4) (by omega) (by omega)
  obtain ⟨h, hh, ph⟩ := pick4 (a := 1) (b := 0) (c := 2) (d := 9) (r := n / 2097152 % 4) (by omega) (by omega)
  refine ⟨⟨n % a, n % a + n / 64 % b, o, g, h⟩, ?_, ⟨by simpa using a1, by simp; omega, ?_, by simp; omega, by simp; omega⟩, ⟨by simp; omega, ?_, by simp; omega, by simp; omega⟩⟩
  · simp -implicitDefEqProofs [M_Lspan, D_Lspan, startE, fdiv_ok (b := 8), mod_ok (b := 3), pa, mod_ok ha0, fdiv_ok (b := 64), fdiv_ok (b := 512), pb, mod_ok hb0, fdiv_ok (b := 4096), mod_ok (b := 30), mod_ok (b := 300), fdiv_ok (b := 131072), mod_ok (b := 4), po, fdiv_ok (b := 524288), pg, fdiv_ok (b := 2097152), ph, spD]
  · intro m hm
    simp at hm
    rcases ho with h | h | h | h <;> rw [h] at hm <;> cases hm <;> (try dsimp only) <;> omega
  · intro m hm
    simp at hm
    rcases ho with h | h | h | h <;> rw [h] at hm <;> cases hm <;> (try dsimp only) <;> omega

/-! spans joined -/
def J (b : Bool) (xs : List Int) : Int := if b = true then xs.sum else xs.max?.getD 0
theorem mx_iff {xs : List Int} (h : xs ≠ []) (m : Int) : xs.max?.getD 0 = m ↔ m ∈ xs ∧ ∀ x ∈ xs, x ≤ m := by
  cases hx : xs.max? with
  | none => exact absurd (List.max?_eq_none_iff.mp hx) h
  | some v =>
    have hv := List.max?_eq_some_iff.mp hx
    constructor
    · rintro rfl
      exact hv
    · rintro ⟨h1, h2⟩
      have h3 := hv.2 m h1
      have h4 := h2 v hv.1
      simp only [Option.getD_some]
      omega
theorem mx_some {xs : List Int} (h : xs ≠ []) : xs.max? = some (xs.max?.getD 0) := by
  cases hx : xs.max? with
  | none => exact absurd (List.max?_eq_none_iff.mp hx) h
  | some v => rfl
theorem mx_mem {xs : List Int} (h : xs ≠ []) : xs.max?.getD 0 ∈ xs := ((mx_iff h _).mp rfl).1
theorem mx_le {xs : List Int} (h : xs ≠ []) : ∀ x ∈ xs, x ≤ xs.max?.getD 0 := ((mx_iff h _).mp rfl).2
theorem sum_perm {xs ys : List Int} (h : xs.Perm ys) : xs.sum = ys.sum := by
  induction h with
  | nil => rfl
  | cons x _ ih => rw [List.sum_cons, List.sum_cons, ih]
  | swap x y l => simp only [List.sum_cons]; omega
  | trans _ _ a b => rw [a, b]
theorem J_perm {b : Bool} {xs ys : List Int} (h : xs.Perm ys) : J b xs = J b ys := by
  unfold J
  split
  · exact sum_perm h
  · by_cases hx : xs = []
    · subst hx
      rw [List.nil_perm.mp h]
    · refine (mx_iff hx _).mpr ⟨?_, fun x hxm => ?_⟩
      · have hy : ys ≠ [] := fun e => hx (by rw [e] at h; exact List.perm_nil.mp h)
        exact h.mem_iff.mpr (mx_mem hy)
      · have hy : ys ≠ [] := fun e => hx (by rw [e] at h; exact List.perm_nil.mp h)
        exact mx_le hy x (h.mem_iff.mp hxm)
theorem J_two {b : Bool} {xs ys : List Int} {m1 m2 m3 m : Int} (hx : xs ≠ []) (hy : ys ≠ []) (ht : b = true → m1 + m2 + m3 = m) (hf : b = false → m1 = 0 ∧ m2 = 0 ∧ m3 = 0 ∧ m = 0) : J b [J b xs + m1, J b ys + m2] + m3 = J b (xs ++ ys) + m := by
  cases b with
  | true =>
    have := ht rfl
    simp only [J, if_true, List.sum_cons, List.sum_nil, List.sum_append]
    omega
  | false =>
    obtain ⟨rfl, rfl, rfl, rfl⟩ := hf rfl
    simp only [J, Bool.false_eq_true, if_false, Int.add_zero]
    refine ((mx_iff (by simp [hx]) _).mpr ?_).symm
    have h1 : [xs.max?.getD 0, ys.max?.getD 0] ≠ [] := by simp
    have h2 := mx_mem h1
    have h3 := mx_le h1
    refine ⟨?_, fun x hxm => ?_⟩
    · simp only [List.mem_cons, List.not_mem_nil, or_false] at h2
      rcases h2 with h2 | h2
      · rw [h2]; exact List.mem_append.mpr (.inl (mx_mem hx))
      · rw [h2]; exact List.mem_append.mpr (.inr (mx_mem hy))
    · rcases List.mem_append.mp hxm with q | q
      · exact Int.le_trans (mx_le hx x q) (h3 _ (by simp))
      · exact Int.le_trans (mx_le hy x q) (h3 _ (by simp))
theorem J_mono {b : Bool} {α : Type} {f g : α → Int} : ∀ {S : List α}, S ≠ [] → (∀ s ∈ S, f s ≤ g s) → J b (S.map f) ≤ J b (S.map g) := by
  intro S hS h
  cases b with
  | true =>
    simp only [J, if_true]
    clear hS
    induction S with
    | nil => simp
    | cons a S ih =>
      have h1 := h a (by simp)
      have h2 := ih fun s hs => h s (by simp [hs])
      simp only [List.map_cons, List.sum_cons]
      omega
  | false =>
    simp only [J, Bool.false_eq_true, if_false]
    have h1 : S.map f ≠ [] := by simpa using hS
    have h2 : S.map g ≠ [] := by simpa using hS
    obtain ⟨s, hs, e⟩ := List.mem_map.mp (mx_mem h1)
    rw [← e]
    exact Int.le_trans (h s hs) (mx_le h2 _ (List.mem_map.mpr ⟨s, hs, rfl⟩))
theorem J_congr {b : Bool} {α : Type} {f g : α → Int} {S : List α} (h : ∀ s ∈ S, f s = g s) : J b (S.map f) = J b (S.map g) := by
  rw [List.map_congr_left h]
def allTop (S : List Spn) : Bool := S.all fun s => (toV s).isSome
def tops (S : List Spn) : List Int := S.map fun s => (toV s).getD 0
def jnV (b : Bool) (more : Int) (S : List Spn) : Spn where
  lo := J b (S.map loV) + more
  wi := J b (S.map Spn.wi) + more
  mo := if allTop S = true then some (J b (tops S) + more) else none
  gr := (S.map Spn.gr).max?.getD 0
  sh := (S.map Spn.sh).max?.getD 0
theorem Spn.ext {s t : Spn} (h1 : s.lo = t.lo) (h2 : s.wi = t.wi) (h3 : s.mo = t.mo) (h4 : s.gr = t.gr) (h5 : s.sh = t.sh) : s = t := by
  cases s; cases t
  simp only at h1 h2 h3 h4 h5
  subst h1 h2 h3 h4 h5
  rfl
theorem jn_lo {b : Bool} {more : Int} {S : List Spn} (hS : S ≠ []) (h : ∀ s ∈ S, 0 ≤ s.sh) : loV (jnV b more S) = J b (S.map loV) + more := by
  have hne : S.map Spn.sh ≠ [] := by simpa using hS
  have hle := mx_le hne
  unfold loV jnV
  simp only
  split
  · rfl
  · rename_i hc
    congr 1
    refine J_congr fun s hs => ?_
    have := hle s.sh (List.mem_map.mpr ⟨s, hs, rfl⟩)
    rw [if_neg (by omega)]
theorem jn_to {b : Bool} {more : Int} {S : List Spn} (hS : S ≠ []) (h : ∀ s ∈ S, 0 ≤ s.gr) : toV (jnV b more S) = if allTop S = true then some (J b (tops S) + more) else none := by
  have hne : S.map Spn.gr ≠ [] := by simpa using hS
  have hle := mx_le hne
  unfold toV jnV
  simp only
  split
  · rfl
  · rename_i hc
    have ht : ∀ s ∈ S, toV s = some s.wi := fun s hs => by
      have := hle s.gr (List.mem_map.mpr ⟨s, hs, rfl⟩)
      unfold toV
      rw [if_neg (by omega)]
    have ha : allTop S = true := List.all_eq_true.mpr fun s hs => by rw [ht s hs]; rfl
    rw [if_pos ha]
    congr 2
    unfold tops
    exact J_congr fun s hs => by rw [ht s hs]; rfl
theorem jn_gr0 {b : Bool} {more : Int} {S : List Spn} (hS : S ≠ []) (h : ∀ s ∈ S, 0 ≤ s.gr) : 0 ≤ (jnV b more S).gr := by
  have hne : S.map Spn.gr ≠ [] := by simpa using hS
  obtain ⟨s, hs, e⟩ := List.mem_map.mp (mx_mem hne)
  show 0 ≤ (S.map Spn.gr).max?.getD 0
  rw [← e]
  exact h s hs
theorem jn_sh0 {b : Bool} {more : Int} {S : List Spn} (hS : S ≠ []) (h : ∀ s ∈ S, 0 ≤ s.sh) : 0 ≤ (jnV b more S).sh := by
  have hne : S.map Spn.sh ≠ [] := by simpa using hS
  obtain ⟨s, hs, e⟩ := List.mem_map.mp (mx_mem hne)
  show 0 ≤ (S.map Spn.sh).max?.getD 0
  rw [← e]
  exact h s hs
theorem jn_perm {b : Bool} {more : Int} {S T : List Spn} (h : S.Perm T) : jnV b more S = jnV b more T := by
  have ha : allTop S = allTop T := by
    unfold allTop
    rw [Bool.eq_iff_iff, List.all_eq_true, List.all_eq_true]
    exact ⟨fun q s hs => q s (h.mem_iff.mpr hs), fun q s hs => q s (h.mem_iff.mp hs)⟩
  have mx : ∀ f : Spn → Int, (S.map f).max?.getD 0 = (T.map f).max?.getD 0 := fun f => by
    have := J_perm (b := false) (h.map f)
    simpa [J] using this
  refine Spn.ext ?_ ?_ ?_ (mx _) (mx _)
  · show J b (S.map loV) + more = J b (T.map loV) + more
    rw [J_perm (h.map loV)]
  · show J b (S.map Spn.wi) + more = J b (T.map Spn.wi) + more
    rw [J_perm (h.map Spn.wi)]
  · show (if allTop S = true then some (J b (tops S) + more) else none) = (if allTop T = true then some (J b (tops T) + more) else none)
    rw [ha]
    unfold tops
    rw [J_perm (h.map fun s => (toV s).getD 0)]
theorem jn_two {b : Bool} {m1 m2 m3 m : Int} {S T : List Spn} (hS : S ≠ []) (hT : T ≠ []) (oS : ∀ s ∈ S, 0 ≤ s.gr ∧ 0 ≤ s.sh) (oT : ∀ s ∈ T, 0 ≤ s.gr ∧ 0 ≤ s.sh) (ht : b = true → m1 + m2 + m3 = m) (hf : b = false → m1 = 0 ∧ m2 = 0 ∧ m3 = 0 ∧ m = 0) :
    jnV b m3 [jnV b m1 S, jnV b m2 T] = jnV b m (S ++ T) := by
  have a1 := jn_lo (b := b) (more := m1) hS fun s h => (oS s h).2
  have a2 := jn_lo (b := b) (more := m2) hT fun s h => (oT s h).2
  have b1 := jn_to (b := b) (more := m1) hS fun s h => (oS s h).1
  have b2 := jn_to (b := b) (more := m2) hT fun s h => (oT s h).1
  have mx : ∀ f : Spn → Int, [(S.map f).max?.getD 0, (T.map f).max?.getD 0].max?.getD 0 = ((S ++ T).map f).max?.getD 0 := fun f => by
    have := J_two (b := false) (xs := S.map f) (ys := T.map f) (m1 := 0) (m2 := 0) (m3 := 0) (m := 0) (by simpa using hS) (by simpa using hT) (fun h => by cases h) (fun _ => ⟨rfl, rfl, rfl, rfl⟩)
    rw [List.map_append]
    simpa [J] using this
  have hal : allTop (S ++ T) = (allTop S && allTop T) := by simp [allTop]
  refine Spn.ext ?_ ?_ ?_ (mx _) (mx _)
  · show J b [loV (jnV b m1 S), loV (jnV b m2 T)] + m3 = J b ((S ++ T).map loV) + m
    rw [a1, a2, List.map_append]
    exact J_two (by simpa using hS) (by simpa using hT) ht hf
  · show J b [J b (S.map Spn.wi) + m1, J b (T.map Spn.wi) + m2] + m3 = J b ((S ++ T).map Spn.wi) + m
    rw [List.map_append]
    exact J_two (by simpa using hS) (by simpa using hT) ht hf
  · show (if allTop [jnV b m1 S, jnV b m2 T] = true then some (J b (tops [jnV b m1 S, jnV b m2 T]) + m3) else none) = (if allTop (S ++ T) = true then some (J b (tops (S ++ T)) + m) else none)
    have e1 : allTop [jnV b m1 S, jnV b m2 T] = (allTop S && allTop T) := by
      show ((toV (jnV b m1 S)).isSome && ((toV (jnV b m2 T)).isSome && true)) = _
      rw [b1, b2]
      cases allTop S <;> cases allTop T <;> rfl
    rw [e1, hal]
    by_cases hc : (allTop S && allTop T) = true
    · rw [if_pos hc, if_pos hc]
      congr 1
      rw [Bool.and_eq_true] at hc
      have e2 : tops [jnV b m1 S, jnV b m2 T] = [J b (tops S) + m1, J b (tops T) + m2] := by
        show [(toV (jnV b m1 S)).getD 0, (toV (jnV b m2 T)).getD 0] = _
        rw [b1, b2, if_pos hc.1, if_pos hc.2]
        rfl
      have e3 : tops (S ++ T) = tops S ++ tops T := by simp [tops]
      rw [e2, e3]
      exact J_two (by simpa [tops] using hS) (by simpa [tops] using hT) ht hf
    · rw [if_neg hc, if_neg hc]

/-! words compared -/
theorem eq_strs {a b : Str} {c : Bool} (ha : PyData.strOk a = true) (hb : PyData.strOk b = true) (hc : (a == b) = c) : eqD (.str a) (.str b) = some (.bool c) := by
  rw [eq_ok (n := 0) (m := 0) (a := .str a) (b := .str b) ha hb, ← hc]
  rfl
theorem ne_strs {a b : Str} {c : Bool} (ha : PyData.strOk a = true) (hb : PyData.strOk b = true) (hc : (a == b) = c) : neD (.str a) (.str b) = some (.bool (!c)) := by
  rw [ne_ok (n := 0) (m := 0) (a := .str a) (b := .str b) ha hb, ← hc]
  rfl
@[simp] theorem ek_leaf_leaf : eqD (.str "leaf") (.str "leaf") = some (.bool true) := eq_strs (by decide +kernel) (by decide +kernel) (by decide +kernel)
@[simp] theorem nk_leaf_leaf : neD (.str "leaf") (.str "leaf") = some (.bool false) := (ne_strs (c := true) (by decide +kernel) (by decide +kernel) (by decide +kernel))
@[simp] theorem ek_leaf_row : eqD (.str "leaf") (.str "row") = some (.bool false) := eq_strs (by decide +kernel) (by decide +kernel) (by decide +kernel)
@[simp] theorem nk_leaf_row : neD (.str "leaf") (.str "row") = some (.bool true) := (ne_strs (c := false) (by decide +kernel) (by decide +kernel) (by decide +kernel))
@[simp] theorem ek_leaf_col : eqD (.str "leaf") (.str "col") = some (.bool false) := eq_strs (by decide +kernel) (by decide +kernel) (by decide +kernel)
@[simp] theorem nk_leaf_col : neD (.str "leaf") (.str "col") = some (.bool true) := (ne_strs (c := false) (by decide +kernel) (by decide +kernel) (by decide +kernel))
@[simp] theorem ek_leaf_pile : eqD (.str "leaf") (.str "pile") = some (.bool false) := eq_strs (by decide +kernel) (by decide +kernel) (by decide +kernel)
@[simp] theorem nk_leaf_pile : neD (.str "leaf") (.str "pile") = some (.bool true) := (ne_strs (c := false) (by decide +kernel) (by decide +kernel) (by decide +kernel))
@[simp] theorem ek_leaf_rim : eqD (.str "leaf") (.str "rim") = some (.bool false) := eq_strs (by decide +kernel) (by decide +kernel) (by decide +kernel)
@[simp] theorem nk_leaf_rim : neD (.str "leaf") (.str "rim") = some (.bool true) := (ne_strs (c := false) (by decide +kernel) (by decide +kernel) (by decide +kernel))
@[simp] theorem ek_row_leaf : eqD (.str "row") (.str "leaf") = some (.bool false) := eq_strs (by decide +kernel) (by decide +kernel) (by decide +kernel)
@[simp] theorem nk_row_leaf : neD (.str "row") (.str "leaf") = some (.bool true) := (ne_strs (c := false) (by decide +kernel) (by decide +kernel) (by decide +kernel))
@[simp] theorem ek_row_row : eqD (.str "row") (.str "row") = some (.bool true) := eq_strs (by decide +kernel) (by decide +kernel) (by decide +kernel)
@[simp] theorem nk_row_row : neD (.str "row") (.str "row") = some (.bool false) := (ne_strs (c := true) (by decide +kernel) (by decide +kernel) (by decide +kernel))
@[simp] theorem ek_row_col : eqD (.str "row") (.str "col") = some (.bool false) := eq_strs (by decide +kernel) (by decide +kernel) (by decide +kernel)
@[simp] theorem nk_row_col : neD (.str "row") (.str "col") = some (.bool true) := (ne_strs (c := false) (by decide +kernel) (by decide +kernel) (by decide +kernel))
@[simp] theorem ek_row_pile : eqD (.str "row") (.str "pile") = some (.bool false) := eq_strs (by decide +kernel) (by decide +kernel) (by decide +kernel)
@[simp] theorem nk_row_pile : neD (.str "row") (.str "pile") = some (.bool true) := (ne_strs (c := false) (by decide +kernel) (by decide +kernel) (by decide +kernel))
@[simp] theorem ek_row_rim : eqD (.str "row") (.str "rim") = some (.bool false) := eq_strs (by decide +kernel) (by decide +kernel) (by decide +kernel)
@[simp] theorem nk_row_rim : neD (.str "row") (.str "rim") = some (.bool true) := (ne_strs (c := false) (by decide +kernel) (by decide +kernel) (by decide +kernel))
@[simp] theorem ek_col_leaf : eqD (.str "col") (.str "leaf") = some (.bool false) := eq_strs (by decide +kernel) (by decide +kernel) (by decide +kernel)
@[simp] theorem nk_col_leaf : neD (.str "col") (.str "leaf") = some (.bool true) := (ne_strs (c := false) (by decide +kernel) (by decide +kernel) (by decide +kernel))
@[simp] theorem ek_col_row : eqD (.str "col") (.str "row") = some (.bool false) := eq_strs (by decide +kernel) (by decide +kernel) (by decide +kernel)
@[simp] theorem nk_col_row : neD (.str "col") (.str "row") = some (.bool true) := (ne_strs (c := false) (by decide +kernel) (by decide +kernel) (by decide +kernel))
@[simp] theorem ek_col_col : eqD (.str "col") (.str "col") = some (.bool true) := eq_strs (by decide +kernel) (by decide +kernel) (by decide +kernel)
@[simp] theorem nk_col_col : neD (.str "col") (.str "col") = some (.bool false) := (ne_strs (c := true) (by decide +kernel) (by decide +kernel) (by decide +kernel))
@[simp] theorem ek_col_pile : eqD (.str "col") (.str "pile") = some (.bool false) := eq_strs (by decide +kernel) (by decide +kernel) (by decide +kernel)
@[simp] theorem nk_col_pile : neD (.str "col") (.str "pile") = some (.bool true) := (ne_strs (c := false) (by decide +kernel) (by decide +kernel) (by decide +kernel))
@[simp] theorem ek_col_rim : eqD (.str "col") (.str "rim") = some (.bool false) := eq_strs (by decide +kernel) (by decide +kernel) (by decide +kernel)
@[simp] theorem nk_col_rim : neD (.str "col") (.str "rim") = some (.bool true) := (ne_strs (c := false) (by decide +kernel) (by decide +kernel) (by decide +kernel))
@[simp] theorem ek_pile_leaf : eqD (.str "pile") (.str "leaf") = some (.bool false) := eq_strs (by decide +kernel) (by decide +kernel) (by decide +kernel)
@[simp] theorem nk_pile_leaf : neD (.str "pile") (.str "leaf") = some (.bool true) := (ne_strs (c := false) (by decide +kernel) (by decide +kernel) (by decide +kernel))
@[simp] theorem ek_pile_row : eqD (.str "pile") (.str "row") = some (.bool false) := eq_strs (by decide +kernel) (by decide +kernel) (by decide +kernel)
@[simp] theorem nk_pile_row : neD (.str "pile") (.str "row") = some (.bool true) := (ne_strs (c := false) (by decide +kernel) (by decide +kernel) (by decide +kernel))
@[simp] theorem ek_pile_col : eqD (.str "pile") (.str "col") = some (.bool false) := eq_strs (by decide +kernel) (by decide +kernel) (by decide +kernel)
@[simp] theorem nk_pile_col : neD (.str "pile") (.str "col") = some (.bool true) := (ne_strs (c := false) (by decide +kernel) (by decide +kernel) (by decide +kernel))
@[simp] theorem ek_pile_pile : eqD (.str "pile") (.str "pile") = some (.bool true) := eq_strs (by decide +kernel) (by decide +kernel) (by decide +kernel)
@[simp] theorem nk_pile_pile : neD (.str "pile") (.str "pile") = some (.bool false) := (ne_strs (c := true) (by decide +kernel) (by decide +kernel) (by decide +kernel))
@[simp] theorem ek_pile_rim : eqD (.str "pile") (.str "rim") = some (.bool false) := eq_strs (by decide +kernel) (by decide +kernel) (by decide +kernel)
@[simp] theorem nk_pile_rim : neD (.str "pile") (.str "rim") = some (.bool true) := (ne_strs (c := false) (by decide +kernel) (by decide +kernel) (by decide +kernel))
@[simp] theorem ek_rim_leaf : eqD (.str "rim") (.str "leaf") = some (.bool false) := eq_strs (by decide +kernel) (by decide +kernel) (by decide +kernel)
@[simp] theorem nk_rim_leaf : neD (.str "rim") (.str "leaf") = some (.bool true) := (ne_strs (c := false) (by decide +kernel) (by decide +kernel) (by decide +kernel))
@[simp] theorem ek_rim_row : eqD (.str "rim") (.str "row") = some (.bool false) := eq_strs (by decide +kernel) (by decide +kernel) (by decide +kernel)
@[simp] theorem nk_rim_row : neD (.str "rim") (.str "row") = some (.bool true) := (ne_strs (c := false) (by decide +kernel) (by decide +kernel) (by decide +kernel))
@[simp] theorem ek_rim_col : eqD (.str "rim") (.str "col") = some (.bool false) := eq_strs (by decide +kernel) (by decide +kernel) (by decide +kernel)
@[simp] theorem nk_rim_col : neD (.str "rim") (.str "col") = some (.bool true) := (ne_strs (c := false) (by decide +kernel) (by decide +kernel) (by decide +kernel))
@[simp] theorem ek_rim_pile : eqD (.str "rim") (.str "pile") = some (.bool false) := eq_strs (by decide +kernel) (by decide +kernel) (by decide +kernel)
@[simp] theorem nk_rim_pile : neD (.str "rim") (.str "pile") = some (.bool true) := (ne_strs (c := false) (by decide +kernel) (by decide +kernel) (by decide +kernel))
@[simp] theorem ek_rim_rim : eqD (.str "rim") (.str "rim") = some (.bool true) := eq_strs (by decide +kernel) (by decide +kernel) (by decide +kernel)
@[simp] theorem nk_rim_rim : neD (.str "rim") (.str "rim") = some (.bool false) := (ne_strs (c := true) (by decide +kernel) (by decide +kernel) (by decide +kernel))
@[simp] theorem ek_wide_wide : eqD (.str "wide") (.str "wide") = some (.bool true) := eq_strs (by decide +kernel) (by decide +kernel) (by decide +kernel)
@[simp] theorem ek_wide_high : eqD (.str "wide") (.str "high") = some (.bool false) := eq_strs (by decide +kernel) (by decide +kernel) (by decide +kernel)
@[simp] theorem ek_high_wide : eqD (.str "high") (.str "wide") = some (.bool false) := eq_strs (by decide +kernel) (by decide +kernel) (by decide +kernel)
@[simp] theorem ek_high_high : eqD (.str "high") (.str "high") = some (.bool true) := eq_strs (by decide +kernel) (by decide +kernel) (by decide +kernel)

/-! boxes, no deeper than n -/
inductive BxF (α : Type) where
  | leaf (nm : Str) (w h : Spn)
  | line (c : Bool) (nm : Str) (g : Int) (ps : List α)
  | pile (nm : Str) (ps : List α)
  | rim (nm : Str) (a b c d : Int) (p : α)
def Bx : Nat → Type
  | 0 => Empty
  | n + 1 => BxF (Bx n)
def kindS (c : Bool) : Str := if c = true then "col" else "row"
def bxD : (n : Nat) → Bx n → D
  | 0, b => nomatch b
  | n + 1, b => match (b : BxF (Bx n)) with
    | .leaf nm w h => .tuple [.str "leaf", .str nm, spD w, spD h]
    | .line c nm g ps => .tuple [.str (kindS c), .str nm, .int g, .tuple (ps.map (bxD n))]
    | .pile nm ps => .tuple [.str "pile", .str nm, .tuple (ps.map (bxD n))]
    | .rim nm a b c d p => .tuple [.str "rim", .str nm, .int a, .int b, .int c, .int d, bxD n p]
def bxN : (n : Nat) → Bx n → Str
  | 0, b => nomatch b
  | _ + 1, b => match (b : BxF _) with
    | .leaf nm _ _ => nm
    | .line _ nm _ _ => nm
    | .pile nm _ => nm
    | .rim nm _ _ _ _ _ => nm
def chS (k : Nat) : Str := ⟨#[97 + k]⟩
/-- as a law makes them: its name, its parts' names -/
def Made : (n : Nat) → Str → Bx n → Prop
  | 0, _, b => nomatch b
  | n + 1, nm, b => match (b : BxF (Bx n)) with
    | .leaf nm' w h => nm' = nm ∧ w.Ok ∧ w.Sm ∧ h.Ok ∧ h.Sm
    | .line _ nm' g ps => nm' = nm ∧ 0 ≤ g ∧ g ≤ 10 ∧ 1 ≤ ps.length ∧ ps.length ≤ 4 ∧ ∀ k p, ps[k]? = some p → Made n (nm ++ chS k) p
    | .pile nm' ps => nm' = nm ∧ 1 ≤ ps.length ∧ ps.length ≤ 3 ∧ ∀ k p, ps[k]? = some p → Made n (nm ++ chS k) p
    | .rim nm' a b c d p => nm' = nm ∧ (0 ≤ a ∧ a ≤ 6) ∧ (0 ≤ b ∧ b ≤ 6) ∧ (0 ≤ c ∧ c ≤ 6) ∧ (0 ≤ d ∧ d ≤ 6) ∧ Made n (nm ++ chS 0) p
theorem abcd_ix {k : Nat} (h : k < 4) : ixD (.str "abcd") (.int (k : Int)) = some (.str (chS k)) := by
  have h4 : (if sml ("abcd" : Str).length = true then (atI ("abcd" : Str).cps.toList (k : Int)).map fun c => PyData.str ⟨#[c]⟩ else none) = some (.str (chS k)) := by
    have e1 : ("abcd" : Str).cps.toList = [97, 98, 99, 100] := by decide +kernel
    have e2 : sml ("abcd" : Str).length = true := by decide +kernel
    rw [e1, e2]
    match k, h with
    | 0, _ => rfl
    | 1, _ => rfl
    | 2, _ => rfl
    | 3, _ => rfl
  exact h4
theorem a_ch : ("a" : Str) = chS 0 := by decide +kernel
theorem add_s {a b : Str} (h : a.length + b.length ≤ 100000) : addD (.str a) (.str b) = some (.str (a ++ b)) := by
  show (if sml (a.length + b.length) = true then some (PyData.str (a ++ b)) else none) = _
  rw [sml_of h]
  rfl
theorem len_ch (a : Str) (k : Nat) : (a ++ chS k).length = a.length + 1 := by
  show (a.cps ++ #[97 + k]).size = a.cps.size + 1
  simp

theorem box_leaf {n k : Nat} {num : Int} {nm : Str} (h : n = 0 ∨ 5 < num % 8) (hn : 0 ≤ num) : ∃ b : Bx (n + 1), M_Lbox (k + 1) [.int num, .str nm, .int ((n : Int) + 1)] = some (bxD (n + 1) b) ∧ Made (n + 1) nm b := by
  obtain ⟨d1, x1, y1, _⟩ := drawn_ex num 1
  obtain ⟨d2, x2, y2, _⟩ := drawn_ex num 2
  obtain ⟨s1, z1, o1, p1⟩ := span_ex (n := d1 / 4) (by omega)
  obtain ⟨s2, z2, o2, p2⟩ := span_ex (n := d2 / 4) (by omega)
  have q8 := mod_ok (a := num) (b := 8) (by decide)
  have f4 : ∀ a : Int, fdivD (.int a) (.int 4) = some (.int (a / 4)) := fun a => fdiv_ok (by decide) (by decide)
  refine ⟨BxF.leaf nm s1 s2, ?_, rfl, o1, p1, o2, p2⟩
  show _ = some (PyData.tuple [.str "leaf", .str nm, spD s1, spD s2])
  unfold M_Lbox
  rcases h with h | h
  · subst h
    simp -implicitDefEqProofs [startE, q8, x1, x2, f4, z1, z2]
  · by_cases h0 : n = 0
    · subst h0
      simp -implicitDefEqProofs [startE, q8, x1, x2, f4, z1, z2]
    · have : ¬ ((n : Int) + 1 = 1) := by omega
      simp -implicitDefEqProofs [startE, q8, this, h0, h, x1, x2, f4, z1, z2]
theorem box_ex : ∀ (n k : Nat), n ≤ k → ∀ (num : Int) (nm : Str), 0 ≤ num → nm.length + n ≤ 1000 → ∃ b : Bx (n + 1), M_Lbox (k + 1) [.int num, .str nm, .int ((n : Int) + 1)] = some (bxD (n + 1) b) ∧ Made (n + 1) nm b := by
  intro n
  induction n with
  | zero =>
    intro k _ num nm hn hl
    exact box_leaf (.inl rfl) hn
  | succ n ih =>
    intro k hk num nm hn hl
    obtain ⟨k, rfl⟩ : ∃ j, k = j + 1 := ⟨k - 1, by omega⟩
    by_cases h5 : 5 < num % 8
    · exact box_leaf (.inr h5) hn
    · have sub : ∀ (num' : Int) (j : Nat), 0 ≤ num' → ∃ b : Bx (n + 1), M_Lbox (k + 1) [.int num', .str (nm ++ chS j), .int ((n : Int) + 1)] = some (bxD (n + 1) b) ∧ Made (n + 1) (nm ++ chS j) b := fun num' j h' => ih k (by omega) num' (nm ++ chS j) h' (by rw [len_ch]; omega)
      obtain ⟨dp, hdp⟩ : ∃ dp : Int, dp = (((n + 1 : Nat) : Int) + 1) := ⟨_, rfl⟩
      rw [← hdp]
      have e1 : dp - 1 = (n : Int) + 1 := by omega
      have hnot : ¬ (dp = 1) := by omega
      have hd : ∀ j : Int, ∃ dr, M_Ldrawn [.int num, .int j] = some (.int dr) ∧ 0 ≤ dr := fun j => by
        obtain ⟨d, a, b, _⟩ := drawn_ex num j
        exact ⟨d, a, b⟩
      obtain ⟨g, hg, pg⟩ := pick4 (a := 0) (b := 3) (c := 1) (d := 10) (r := num / 64 % 4) (by omega) (by omega)
      have q8 := mod_ok (a := num) (b := 8) (by decide)
      have q88 : fdivD (.int num) (.int 8) = some (.int (num / 8)) := fdiv_ok (by decide) (by decide)
      have q64 : fdivD (.int num) (.int 64) = some (.int (num / 64)) := fdiv_ok (by decide) (by decide)
      have m4 : ∀ a : Int, modD (.int a) (.int 4) = some (.int (a % 4)) := fun a => mod_ok (by decide)
      have f4 : ∀ a : Int, fdivD (.int a) (.int 4) = some (.int (a / 4)) := fun a => fdiv_ok (by decide) (by decide)
      by_cases h4 : num % 8 = 4
      · -- a rim
        obtain ⟨d3, x3, y3⟩ := hd 3
        obtain ⟨d4, x4, y4⟩ := hd 4
        obtain ⟨d5, x5, y5⟩ := hd 5
        obtain ⟨d6, x6, y6⟩ := hd 6
        obtain ⟨d7, x7, y7⟩ := hd 7
        obtain ⟨p, hp, mp⟩ := sub (d7 / 4) 0 (by omega)
        have m7 : ∀ a : Int, modD (.int a) (.int 7) = some (.int (a % 7)) := fun a => mod_ok (by decide)
        have r4 : rng1D (.int 4) = some [.int 0, .int 1, .int 2, .int 3] := by
          have := rng1_ok (n := 4) (by decide)
          exact this
        have s4 : sml 4 = true := rfl
        have ha : addD (.str nm) (.str "a") = some (.str (nm ++ chS 0)) := by
          rw [a_ch]
          exact add_s (by have : (chS 0).length = 1 := rfl; omega)
        have t1 : addD (.tuple [.str "rim", .str nm]) (.tuple [.int (d3 / 4 % 7), .int (d4 / 4 % 7), .int (d5 / 4 % 7), .int (d6 / 4 % 7)]) = some (.tuple [.str "rim", .str nm, .int (d3 / 4 % 7), .int (d4 / 4 % 7), .int (d5 / 4 % 7), .int (d6 / 4 % 7)]) := add_t (by simp)
        have t2 : addD (.tuple [.str "rim", .str nm, .int (d3 / 4 % 7), .int (d4 / 4 % 7), .int (d5 / 4 % 7), .int (d6 / 4 % 7)]) (.tuple [bxD (n + 1) p]) = some (.tuple [.str "rim", .str nm, .int (d3 / 4 % 7), .int (d4 / 4 % 7), .int (d5 / 4 % 7), .int (d6 / 4 % 7), bxD (n + 1) p]) := add_t (by simp)
        refine ⟨BxF.rim nm (d3 / 4 % 7) (d4 / 4 % 7) (d5 / 4 % 7) (d6 / 4 % 7) p, ?_, rfl, by omega, by omega, by omega, by omega, mp⟩
        show _ = some (PyData.tuple [.str "rim", .str nm, .int (d3 / 4 % 7), .int (d4 / 4 % 7), .int (d5 / 4 % 7), .int (d6 / 4 % 7), bxD (n + 1) p])
        unfold M_Lbox
        simp -implicitDefEqProofs [startE, q8, hnot, h4, q88, m4, q64, pg, r4, s4, lcGo, x3, x4, x5, x6, f4, m7, t1, x7, ha, e1, hp, t2]
      · -- some in it
        obtain ⟨m, hm⟩ : ∃ m : Nat, (if num % 8 = 5 then (if 3 < 1 + num / 8 % 4 then 3 else 1 + num / 8 % 4) else 1 + num / 8 % 4) = (m : Int) := ⟨(if num % 8 = 5 then (if 3 < 1 + num / 8 % 4 then 3 else 1 + num / 8 % 4) else 1 + num / 8 % 4).toNat, by split <;> (try split) <;> omega⟩
        have hm4 : 1 ≤ m ∧ m ≤ 4 ∧ (num % 8 = 5 → m ≤ 3) := by
          split at hm <;> (try split at hm) <;> omega
        obtain ⟨ps, hps, hpl, hpm⟩ : ∃ ps : List (Bx (n + 1)), (∀ e : DEnv, e.length = 9 → e[0]? = some (some (.sh (.int num))) → e[1]? = some (some (.sh (.str nm))) → e[2]? = some (some (.sh (.int dp))) → lcGo (bNm 8) yesT (cA (M_Lbox (k + 1)) (consA (c2 fdivD (cA M_Ldrawn (consA (vr 0) (consA (c2 addD (cst (.int 10)) (vr 8)) nilA))) (cst (.int 4))) (consA (c2 addD (vr 1) (c2 ixD (cst (.str "abcd")) (vr 8))) (consA (c2 subD (vr 2) (cst (.int 1))) nilA)))) e ((List.range m).map fun i : Nat => PyData.int (i : Int)) = some (ps.map (bxD (n + 1)))) ∧ ps.length = m ∧ ∀ j p, ps[j]? = some p → Made (n + 1) (nm ++ chS j) p := by
          -- choose the parts
          have ch : ∀ j : Nat, ∃ p : Bx (n + 1), ∃ dr, M_Ldrawn [.int num, .int (10 + (j : Int))] = some (.int dr) ∧ M_Lbox (k + 1) [.int (dr / 4), .str (nm ++ chS j), .int ((n : Int) + 1)] = some (bxD (n + 1) p) ∧ Made (n + 1) (nm ++ chS j) p := fun j => by
            obtain ⟨dr, hdr, dr0⟩ := hd (10 + (j : Int))
            obtain ⟨p, hp, mp⟩ := sub (dr / 4) j (by omega)
            exact ⟨p, dr, hdr, hp, mp⟩
          refine ⟨(List.range m).map fun j => (ch j).choose, fun e he h0 h1 h2 => ?_, by simp, fun j p hp => ?_⟩
          · rw [List.map_map]
            refine lcGo_map (fun i : Nat => PyData.int (i : Int)) (fun j => bxD (n + 1) (ch j).choose) _ fun j hj => ?_
            have hj4 : j < 4 := by
              have : j < m := by simpa using hj
              omega
            have hsp := (ch j).choose_spec
            generalize (ch j).choose = pj at hsp ⊢
            obtain ⟨dr, hdr, hp, mp⟩ := hsp
            have hix := abcd_ix hj4
            have hadd : addD (.str nm) (.str (chS j)) = some (.str (nm ++ chS j)) := add_s (by have : (chS j).length = 1 := rfl; omega)
            have h8 : 8 < e.length := by omega
            refine ⟨_, rfl, ?_⟩
            simp -implicitDefEqProofs [h8, h0, h1, h2, hdr, f4, hix, hadd, e1, hp]
          · rw [List.getElem?_map] at hp
            obtain ⟨j', hj', rfl⟩ := Option.map_eq_some_iff.mp hp
            obtain ⟨hl', hx⟩ := List.getElem?_eq_some_iff.mp hj'
            rw [List.getElem_range] at hx
            subst hx
            obtain ⟨_, _, _, mp⟩ := (ch j).choose_spec
            exact mp
        have hsm : sml m = true := sml_of (by omega)
        have hr := rng1_ok (n := m) (by omega)
        by_cases h55 : num % 8 = 5
        · rw [if_pos h55] at hm
          refine ⟨BxF.pile nm ps, ?_, rfl, by omega, by have := hm4.2.2 h55; omega, hpm⟩
          show _ = some (PyData.tuple [.str "pile", .str nm, .tuple (ps.map (bxD (n + 1)))])
          have hmn : (if 3 < 1 + num / 8 % 4 then (3 : Int) else 1 + num / 8 % 4) = (m : Int) := hm
          unfold M_Lbox
          simp -implicitDefEqProofs [startE, q8, hnot, h55, q88, m4, q64, pg, hmn, hr, hsm, hps]
        · rw [if_neg h55] at hm
          obtain ⟨c, hc⟩ : ∃ c : Bool, atI [PyData.str "row", .str "col"] (num % 2) = some (.str (kindS c)) := by
            have : num % 2 = 0 ∨ num % 2 = 1 := by omega
            rcases this with h | h
            · exact ⟨false, by rw [h]; rfl⟩
            · exact ⟨true, by rw [h]; rfl⟩
          refine ⟨BxF.line c nm g ps, ?_, rfl, by omega, by omega, by omega, by omega, hpm⟩
          show _ = some (PyData.tuple [.str (kindS c), .str nm, .int g, .tuple (ps.map (bxD (n + 1)))])
          have m2 : ∀ a : Int, modD (.int a) (.int 2) = some (.int (a % 2)) := fun a => mod_ok (by decide)
          unfold M_Lbox
          simp -implicitDefEqProofs [startE, q8, hnot, h55, h4, h5, q88, m4, q64, pg, hm, hr, hsm, hps, m2, hc]

theorem cutL_from {α : Type} (xs : List α) (k : Nat) : cutL xs (some (k : Int)) none = xs.drop k := by
  unfold cutL
  rw [HT.sIx_none, HT.sIx_nat]
  rcases Nat.le_total k xs.length with h | h
  · rw [Nat.min_eq_left h, List.take_of_length_le (by simp)]
  · rw [Nat.min_eq_right h, List.drop_of_length_le h]
    simp
theorem cutL_to {α : Type} (xs : List α) (k : Nat) : cutL xs none (some (k : Int)) = xs.take k := by
  unfold cutL
  rw [HT.sIx_none, HT.sIx_nat, List.drop_zero, Nat.sub_zero]
  rcases Nat.le_total k xs.length with h | h
  · rw [Nat.min_eq_left h]
  · rw [Nat.min_eq_right h, List.take_length, List.take_of_length_le h]

/-! plain data: no dicts; bools if b; no longer than L, no deeper than n -/
def pl (b : Bool) (L : Nat) : Nat → D → Bool
  | _, .none => true
  | _, .bool _ => b
  | _, .int i => decide (i.natAbs ≤ 1000 * L)
  | _, .str x => PyData.strOk x && decide (x.length ≤ 1000)
  | n + 1, .list xs => decide (xs.length ≤ L) && xs.all (pl b L n)
  | n + 1, .tuple xs => decide (xs.length ≤ L) && xs.all (pl b L n)
  | _, _ => false
theorem pl_shp {b : Bool} {L : Nat} : ∀ (n : Nat) (d : D), pl b L n d = true → shp n d = true
  | 0, .none, _ => rfl
  | _ + 1, .none, _ => rfl
  | 0, .bool _, _ => rfl
  | _ + 1, .bool _, _ => rfl
  | 0, .int _, _ => rfl
  | _ + 1, .int _, _ => rfl
  | 0, .str x, h => (Bool.and_eq_true _ _ ▸ h : PyData.strOk x = true ∧ _).1
  | _ + 1, .str x, h => (Bool.and_eq_true _ _ ▸ h : PyData.strOk x = true ∧ _).1
  | n + 1, .list xs, h => by
    have h' : (decide (xs.length ≤ L) && xs.all (pl b L n)) = true := h
    rw [Bool.and_eq_true] at h'
    exact List.all_eq_true.mpr fun x hx => pl_shp n x (List.all_eq_true.mp h'.2 x hx)
  | n + 1, .tuple xs, h => by
    have h' : (decide (xs.length ≤ L) && xs.all (pl b L n)) = true := h
    rw [Bool.and_eq_true] at h'
    exact List.all_eq_true.mpr fun x hx => pl_shp n x (List.all_eq_true.mp h'.2 x hx)
  | 0, .list _, h => by cases h
  | 0, .tuple _, h => by cases h
  | 0, .dict _, h => by cases h
  | _ + 1, .dict _, h => by cases h
theorem pl_tup {b : Bool} {L n : Nat} {xs : List D} : pl b L (n + 1) (.tuple xs) = true ↔ xs.length ≤ L ∧ ∀ x ∈ xs, pl b L n x = true := by
  show (decide (xs.length ≤ L) && xs.all (pl b L n)) = true ↔ _
  rw [Bool.and_eq_true, decide_eq_true_eq, List.all_eq_true]
theorem pl_lst {b : Bool} {L n : Nat} {xs : List D} : pl b L (n + 1) (.list xs) = true ↔ xs.length ≤ L ∧ ∀ x ∈ xs, pl b L n x = true := by
  show (decide (xs.length ≤ L) && xs.all (pl b L n)) = true ↔ _
  rw [Bool.and_eq_true, decide_eq_true_eq, List.all_eq_true]
theorem pl_int {b : Bool} {L n : Nat} {i : Int} : pl b L n (.int i) = true ↔ i.natAbs ≤ 1000 * L := by
  cases n <;> exact decide_eq_true_iff
theorem pl_str {b : Bool} {L n : Nat} {x : Str} : pl b L n (.str x) = true ↔ PyData.strOk x = true ∧ x.length ≤ 1000 := by
  have h : pl b L n (.str x) = (PyData.strOk x && decide (x.length ≤ 1000)) := by cases n <;> rfl
  rw [h, Bool.and_eq_true, decide_eq_true_eq]
theorem pl_mono {b c : Bool} {L M : Nat} (hb : b = true → c = true) (hL : L ≤ M) : ∀ (n m : Nat) (d : D), n ≤ m → pl b L n d = true → pl c M m d = true
  | _, m, .none, _, _ => by cases m <;> rfl
  | n, m, .bool _, _, h => by
    have h' : b = true := by cases n <;> exact h
    cases m <;> exact hb h'
  | n, m, .int _, _, h => pl_int.mpr (Nat.le_trans (pl_int.mp h) (Nat.mul_le_mul_left 1000 hL))
  | n, m, .str _, _, h => pl_str.mpr (pl_str.mp h)
  | n + 1, m + 1, .list xs, hn, h => by
    obtain ⟨h1, h2⟩ := pl_lst.mp h
    exact pl_lst.mpr ⟨Nat.le_trans h1 hL, fun x hx => pl_mono hb hL n m x (by omega) (h2 x hx)⟩
  | n + 1, m + 1, .tuple xs, hn, h => by
    obtain ⟨h1, h2⟩ := pl_tup.mp h
    exact pl_tup.mpr ⟨Nat.le_trans h1 hL, fun x hx => pl_mono hb hL n m x (by omega) (h2 x hx)⟩
  | n + 1, 0, .list xs, hn, h => by omega
  | n + 1, 0, .tuple xs, hn, h => by omega
  | 0, _, .list _, _, h => by cases h
  | 0, _, .tuple _, _, h => by cases h
  | 0, _, .dict _, _, h => by cases h
  | _ + 1, _, .dict _, _, h => by cases h
theorem atI_mem {α : Type} {xs : List α} {r : Int} (h0 : 0 ≤ r) (h1 : r < xs.length) : ∃ x ∈ xs, atI xs r = some x := by
  obtain ⟨k, rfl⟩ : ∃ k : Nat, r = (k : Int) := ⟨r.toNat, by omega⟩
  have hk : k < xs.length := by omega
  exact ⟨xs[k], List.getElem_mem hk, atI_of (List.getElem?_eq_getElem hk)⟩
theorem strOk_of (s : String) : PyData.strOk (Str.ofString s) = true := by
  unfold PyData.strOk
  rw [Str.ofString_eq_toList, Array.all_eq_true']
  intro n hn
  simp only [List.mem_toArray, List.mem_map] at hn
  obtain ⟨c, _, rfl⟩ := hn
  have := c.valid
  simp only [decide_eq_true_eq]
  show c.val.toNat < 1114112
  rcases this with h | h
  · omega
  · exact h.2
theorem pl_notDict {b : Bool} {L n : Nat} {d : D} (h : pl b L n d = true) (T : Ty) : ∃ c, isiD T d = some (.bool c) := by
  cases d with
  | dict _ => cases n <;> cases h
  | _ => cases T <;> exact ⟨_, rfl⟩

/-! a thing bent at one of its places -/
theorem cutL_sub {α : Type} (xs : List α) (lo hi : Option Int) : (cutL xs lo hi).length ≤ xs.length ∧ ∀ x ∈ cutL xs lo hi, x ∈ xs := by
  unfold cutL
  constructor
  · rw [List.length_take, List.length_drop]; omega
  · intro x hx
    exact List.mem_of_mem_drop (List.mem_of_mem_take hx)
theorem mul2_ok {xs : List D} (h : xs.length ≤ 1000) (h0 : xs ≠ []) : mulD (.tuple xs) (.int 2) = some (.tuple (xs ++ xs)) := by
  have : (List.replicate (2 : Int).toNat xs).flatten = xs ++ xs := by simp [List.replicate]
  rw [← this]
  exact if_pos ⟨h0, by decide, by decide, h⟩
theorem str_ok {i : Int} (h : i.natAbs ≤ 10 ^ 12) : strD (.int i) = some (.str (toString i)) := by
  have h2 : i.natAbs < 2 ^ 1000 := Nat.lt_of_le_of_lt h (by decide +kernel)
  exact if_pos h2
theorem str_short {i : Int} (h : i.natAbs ≤ 10 ^ 12) : ((toString i : String) : Str).length ≤ 1000 := by
  have hl : ∀ s : String, (Str.ofString s).length = s.toList.length := fun s => by
    show (Str.ofString s).cps.size = _
    rw [Str.ofString_eq_toList]
    simp
  have hn : ∀ m : Nat, m ≤ 10 ^ 12 → (Nat.toDigits 10 m).length ≤ 20 := fun m hm => (Nat.length_toDigits_le_iff (by decide) (by decide)).mpr (by omega)
  show (Str.ofString (toString i)).length ≤ 1000
  rw [hl]
  cases i with
  | ofNat m =>
    have e : (toString (Int.ofNat m)) = m.repr := rfl
    rw [e, Nat.toList_repr]
    have := hn m (by have e2 : (Int.ofNat m).natAbs = m := rfl; omega)
    omega
  | negSucc m =>
    have e : (toString (Int.negSucc m)) = "-" ++ (m + 1).repr := rfl
    rw [e, String.toList_append, List.length_append, Nat.toList_repr]
    have := hn (m + 1) (by have e2 : (Int.negSucc m).natAbs = m + 1 := rfl; omega)
    have h1 : ("-" : String).toList.length = 1 := by decide
    omega
/-- a path through tuples -/
def okP : D → List Nat → Prop
  | _, [] => True
  | d, k :: r => ∃ xs x, d = .tuple xs ∧ xs[k]? = some x ∧ okP x r
def wayD (w : List D) (p : List Nat) : D := .tuple (w ++ p.map fun k : Nat => PyData.int (k : Int))
/-- how many places -/
def cnt : Nat → D → Nat
  | n + 1, .tuple xs => 1 + (xs.map (cnt n)).sum
  | _, _ => 1
theorem places_loop {R : List D → Option D} (full w : List D) (m : Nat) (c : D → Nat) (hw : w.length ≤ 1000) : ∀ (xs : List D) (i : Nat) (ps : List (List Nat)) (e3 e4 : Option Sl), (∀ j x, xs[j]? = some x → full[i + j]? = some x) →
    (∀ x ∈ xs, ∀ w' : List D, w'.length = w.length + 1 → ∃ qs : List (List Nat), R [x, .tuple w'] = some (.list (qs.map (wayD w'))) ∧ qs.length = c x ∧ ∀ q ∈ qs, okP x q ∧ q.length ≤ m) → ps.length + (xs.map c).sum ≤ 100000 →
    (∀ p ∈ ps, okP (.tuple full) p ∧ p.length ≤ m + 1) →
    ∃ (ps' : List (List Nat)) (e3' e4' : Option Sl), forD (bTp [(bNm 3), (bNm 4)]) (B_Lplaces_in_1 R) (enL i xs) [some (.sh (.tuple full)), some (.sh (.tuple w)), some (.sh (.list (ps.map (wayD w)))), e3, e4] = some (.nx [some (.sh (.tuple full)), some (.sh (.tuple w)), some (.sh (.list (ps'.map (wayD w)))), e3', e4']) ∧
      ps'.length = ps.length + (xs.map c).sum ∧ ∀ p ∈ ps', okP (.tuple full) p ∧ p.length ≤ m + 1
  | [], i, ps, e3, e4, _, _, _, hp => ⟨ps, e3, e4, rfl, by simp, hp⟩
  | x :: xs, i, ps, e3, e4, hf, hR, hl, hp => by
    obtain ⟨qs, q1, q2, q3⟩ := hR x (by simp) (w ++ [.int (i : Int)]) (by simp)
    rw [List.map_cons, List.sum_cons] at hl
    have hwy : qs.map (wayD (w ++ [.int (i : Int)])) = (qs.map (i :: ·)).map (wayD w) := by
      rw [List.map_map]
      refine List.map_congr_left fun q _ => ?_
      simp [wayD]
    rw [hwy] at q1
    have a1 : addD (.tuple w) (.tuple [.int (i : Int)]) = some (.tuple (w ++ [.int (i : Int)])) := add_t (by simp; omega)
    have a2 : addD (.list (ps.map (wayD w))) (.list ((qs.map (i :: ·)).map (wayD w))) = some (.list ((ps ++ qs.map (i :: ·)).map (wayD w))) := by
      rw [List.map_append]
      exact add_l (by simp; omega)
    have hx0 : full[i]? = some x := hf 0 x rfl
    obtain ⟨ps', e3', e4', r1, r2, r3⟩ := places_loop full w m c hw xs (i + 1) (ps ++ qs.map (i :: ·)) (some (.sh (.int (i : Int)))) (some (.sh x)) (fun j y hy => by
      have := hf (j + 1) y hy
      rw [show i + 1 + j = i + (j + 1) by omega]; exact this) (fun y hy => hR y (by simp [hy])) (by simp; omega) (fun p hp' => by
      rcases List.mem_append.mp hp' with h | h
      · exact hp p h
      · obtain ⟨q, hq, rfl⟩ := List.mem_map.mp h
        exact ⟨⟨full, x, rfl, hx0, (q3 q hq).1⟩, by simp; exact (q3 q hq).2⟩)
    refine ⟨ps', e3', e4', ?_, by rw [r2]; simp; omega, r3⟩
    show forD _ _ (.tuple [.int (i : Int), x] :: enL (i + 1) xs) _ = _
    rw [forD_c, ← r1]
    generalize (qs.map (i :: ·)).map (wayD w) = QS at *
    generalize ps.map (wayD w) = PS at *
    generalize (ps ++ qs.map (i :: ·)).map (wayD w) = PQ at *
    simp -implicitDefEqProofs [B_Lplaces_in_1, a1, q1, a2]
theorem le_sum_map {α : Type} (f : α → Nat) : ∀ (xs : List α) (x : α), x ∈ xs → f x ≤ (xs.map f).sum
  | y :: xs, x, h => by
    rw [List.map_cons, List.sum_cons]
    rcases List.mem_cons.mp h with rfl | h
    · omega
    · have := le_sum_map f xs x h
      omega
theorem places_ex {b : Bool} {L : Nat} (hL : L ≤ 10000) : ∀ (n k : Nat) (d : D) (w : List D), pl b L n d = true → n ≤ k → cnt n d ≤ 100000 → w.length + n ≤ 1000 →
    ∃ ps : List (List Nat), M_Lplaces_in (k + 1) [d, .tuple w] = some (.list (ps.map (wayD w))) ∧ ps.length = cnt n d ∧ ∀ p ∈ ps, okP d p ∧ p.length ≤ n := by
  intro n
  have one : ∀ (m k : Nat) (d : D) (w : List D), isiD .tuple d = some (.bool false) → ∃ ps : List (List Nat), M_Lplaces_in (k + 1) [d, .tuple w] = some (.list (ps.map (wayD w))) ∧ ps.length = 1 ∧ ∀ p ∈ ps, okP d p ∧ p.length ≤ m := fun m k d w h => by
    refine ⟨[[]], ?_, rfl, fun p hp => ?_⟩
    · simp -implicitDefEqProofs [M_Lplaces_in, D_Lplaces_in, startE, h, wayD]
    · rw [List.mem_singleton.mp hp]
      exact ⟨trivial, by simp⟩
  induction n with
  | zero =>
    intro k d w h _ _ _
    cases d with
    | tuple xs => cases h
    | dict xs => cases h
    | none => exact one 0 k _ w rfl
    | bool _ => exact one 0 k _ w rfl
    | int _ => exact one 0 k _ w rfl
    | str _ => exact one 0 k _ w rfl
    | list _ => exact one 0 k _ w rfl
  | succ n ih =>
    intro k d w h hk hc hw
    cases d with
    | dict xs => cases h
    | none => exact one (n + 1) k _ w rfl
    | bool _ => exact one (n + 1) k _ w rfl
    | int _ => exact one (n + 1) k _ w rfl
    | str _ => exact one (n + 1) k _ w rfl
    | list _ => exact one (n + 1) k _ w rfl
    | tuple xs =>
      obtain ⟨k, rfl⟩ : ∃ j, k = j + 1 := ⟨k - 1, by omega⟩
      obtain ⟨h1, h2⟩ := pl_tup.mp h
      have hc' : 1 + (xs.map (cnt n)).sum ≤ 100000 := hc
      have le : ∀ x ∈ xs, cnt n x ≤ (xs.map (cnt n)).sum := fun x hx => le_sum_map _ xs x hx
      obtain ⟨ps, e3, e4, r1, r2, r3⟩ := places_loop (R := M_Lplaces_in (k + 1)) xs w n (cnt n) (by omega) xs 0 [[]] none none (fun j x hx => by rw [Nat.zero_add]; exact hx)
        (fun x hx w' hw' => ih k x w' (h2 x hx) (by omega) (by have := le x hx; omega) (by omega)) (by simp; omega) (fun p hp => by rw [List.mem_singleton.mp hp]; exact ⟨trivial, by simp⟩)
      refine ⟨ps, ?_, by rw [r2]; rfl, r3⟩
      have w1 : [([] : List Nat)].map (wayD w) = [.tuple w] := by simp [wayD]
      rw [w1] at r1
      have it : itemsD (.tuple xs) = some xs := rfl
      have hM : M_Lplaces_in (k + 1 + 1) = runF 5 (D_Lplaces_in (M_Lplaces_in (k + 1))) := rfl
      rw [hM]
      generalize M_Lplaces_in (k + 1) = R at *
      simp -implicitDefEqProofs [D_Lplaces_in, startE, isiD, it, r1]
theorem otherwise_ex {L : Nat} (hL : 5 ≤ L ∧ L ≤ 400) (n : Nat) (d : D) (num : Int) (hd : pl false L n d = true) : ∃ d', M_Lotherwise [d, .int num] = some d' ∧ pl true (2 * L + 30) (n + 2) d' = true := by
  have r5 : modD (.int num) (.int 5) = some (.int (num % 5)) := mod_ok (by decide)
  have add1 : ∀ xs ys : List D, xs.length + ys.length ≤ 100 → addD (.list xs) (.list ys) = some (.list (xs ++ ys)) := fun xs ys h => add_l (by omega)
  have up : ∀ (k : Nat) (x : D), n ≤ k → pl false L n x = true → pl true (2 * L + 30) k x = true := fun k x hk hx => pl_mono (fun h => by cases h) (by omega) n k x hk hx
  have five : ∀ (xs : List D), xs.length = 5 → (∀ x ∈ xs, pl true (2 * L + 30) (n + 2) x = true) → ∃ d', atI xs (num % 5) = some d' ∧ pl true (2 * L + 30) (n + 2) d' = true := fun xs hl hx => by
    obtain ⟨d', h1, h2⟩ := atI_mem (xs := xs) (r := num % 5) (by omega) (by rw [hl]; omega)
    exact ⟨d', h2, hx d' h1⟩
  have rest : isiD .tuple d = some (.bool false) → isiD .bool d = some (.bool false) → isiD .int d = some (.bool false) → ∃ d', M_Lotherwise [d, .int num] = some d' ∧ pl true (2 * L + 30) (n + 2) d' = true := fun h1 h2 h3 => by
    obtain ⟨d', a1, a2⟩ := five [.none, .tuple [d], .list [d], .str "", .int 0] rfl (fun x hx => by
      simp only [List.mem_cons, List.not_mem_nil, or_false] at hx
      rcases hx with rfl | rfl | rfl | rfl | rfl
      · rfl
      · exact pl_tup.mpr ⟨by show 1 ≤ _; omega, fun x hx => by rw [List.mem_singleton.mp hx]; exact up _ d (by omega) hd⟩
      · exact pl_lst.mpr ⟨by show 1 ≤ _; omega, fun x hx => by rw [List.mem_singleton.mp hx]; exact up _ d (by omega) hd⟩
      · exact pl_str.mpr ⟨by decide +kernel, by decide +kernel⟩
      · exact pl_int.mpr (by simp))
    simp -implicitDefEqProofs [M_Lotherwise, D_Lotherwise, startE, h1, h2, h3, r5, a1, a2]
  cases d with
  | dict _ => cases n <;> cases hd
  | bool _ => cases n <;> cases hd
  | none => exact rest rfl rfl rfl
  | str _ => exact rest rfl rfl rfl
  | list _ => exact rest rfl rfl rfl
  | int i =>
    have hi := pl_int.mp hd
    obtain ⟨z, s1, hz⟩ : ∃ z : Str, strD (.int i) = some (.str z) ∧ (PyData.strOk z = true ∧ z.length ≤ 1000) := ⟨_, str_ok (i := i) (by omega), strOk_of _, str_short (by omega)⟩
    obtain ⟨d', a1, a2⟩ := five [.bool true, .none, .str z, .tuple [.int i], .int (-1 - i)] rfl (fun x hx => by
      simp only [List.mem_cons, List.not_mem_nil, or_false] at hx
      rcases hx with rfl | rfl | rfl | rfl | rfl
      · rfl
      · rfl
      · exact pl_str.mpr hz
      · exact pl_tup.mpr ⟨by show 1 ≤ _; omega, fun x hx => by rw [List.mem_singleton.mp hx]; exact pl_int.mpr (by omega)⟩
      · exact pl_int.mpr (by omega))
    simp -implicitDefEqProofs [M_Lotherwise, D_Lotherwise, startE, isiD, r5, s1, add1, a1, a2]
  | tuple xs =>
    obtain ⟨n, rfl⟩ : ∃ m, n = m + 1 := by
      cases n with
      | zero => cases hd
      | succ m => exact ⟨m, rfl⟩
    obtain ⟨hlen, hall⟩ := pl_tup.mp hd
    have upx : ∀ x ∈ xs, pl true (2 * L + 30) (n + 2) x = true := fun x hx => pl_mono (fun h => by cases h) (by omega) n (n + 2) x (by omega) (hall x hx)
    have c1' := cutL_sub xs none (some 1)
    have c2' := cutL_sub xs (some 1) none
    have v3 : addD (.tuple xs) (.tuple (cutL xs none (some 1))) = some (.tuple (xs ++ cutL xs none (some 1))) := add_t (by omega)
    have v1 : seqOf (.tuple xs) = some xs := rfl
    obtain ⟨d', a1, a2⟩ := five [.list xs, .list xs, .tuple (xs ++ cutL xs none (some 1)), .tuple (cutL xs (some 1) none), .list [.tuple xs]] rfl (fun x hx => by
      simp only [List.mem_cons, List.not_mem_nil, or_false] at hx
      rcases hx with rfl | rfl | rfl | rfl | rfl
      · exact pl_lst.mpr ⟨by omega, upx⟩
      · exact pl_lst.mpr ⟨by omega, upx⟩
      · exact pl_tup.mpr ⟨by rw [List.length_append]; omega, fun x hx => by
          rcases List.mem_append.mp hx with q | q
          · exact upx x q
          · exact upx x (c1'.2 x q)⟩
      · exact pl_tup.mpr ⟨by omega, fun x hx => upx x (c2'.2 x hx)⟩
      · exact pl_lst.mpr ⟨by show 1 ≤ _; omega, fun x hx => by rw [List.mem_singleton.mp hx]; exact up _ _ (by omega) hd⟩)
    simp -implicitDefEqProofs [M_Lotherwise, D_Lotherwise, startE, isiD, r5, v1, v3, add1, a1, a2]
theorem put_ex {L : Nat} (hL : 5 ≤ L ∧ L ≤ 400) (num : Int) : ∀ (p : List Nat) (k n : Nat) (d : D), okP d p → p.length ≤ k → p.length ≤ 100 → pl false L n d = true → ∃ d', M_Lput_at (k + 1) num [d, .tuple (p.map fun k : Nat => PyData.int (k : Int))] = some d' ∧ pl true (2 * L + 30) (n + 2) d' = true
  | [], k, n, d, _, _, _, h => by
    obtain ⟨d', h1, h2⟩ := otherwise_ex hL n d (num / 4096) h
    refine ⟨d', ?_, h2⟩
    have q := fdiv_ok (a := num) (b := 4096) (by decide) (by decide)
    have e : eqD (.tuple []) (.tuple []) = some (.bool true) := rfl
    simp -implicitDefEqProofs [M_Lput_at, D_Lput_at, runFF, startF3, fnE, e, q, h1]
  | j :: p, k, n, d, ho, hk, h100, h => by
    obtain ⟨xs, x, rfl, hx, ho⟩ := ho
    obtain ⟨k, rfl⟩ : ∃ z, k = z + 1 := ⟨k - 1, by simp at hk; omega⟩
    obtain ⟨n, rfl⟩ : ∃ m, n = m + 1 := by
      cases n with
      | zero => cases h
      | succ m => exact ⟨m, rfl⟩
    obtain ⟨hlen, hall⟩ := pl_tup.mp h
    have hxm : x ∈ xs := List.mem_of_getElem? hx
    obtain ⟨d', h1, h2⟩ := put_ex hL num p k n x ho (by simpa using hk) (by simp at h100; omega) (hall x hxm)
    have hj : j < xs.length := (List.getElem?_eq_some_iff.mp hx).1
    have hxa : atI xs (j : Int) = some x := atI_of hx
    have up : ∀ x ∈ xs, pl true (2 * L + 30) (n + 2) x = true := fun x hx => pl_mono (fun h => by cases h) (by omega) n (n + 2) x (by omega) (hall x hx)
    have k1 := cutL_to xs j
    have k2' : cutL xs (some ((j : Int) + 1)) none = xs.drop (j + 1) := by
      rw [← cutL_from xs (j + 1)]
      rfl
    have k3 : cutL (PyData.int (j : Int) :: p.map fun k : Nat => PyData.int (k : Int)) (some 1) none = p.map fun k : Nat => PyData.int (k : Int) := cutL_from (PyData.int (j : Int) :: p.map fun k : Nat => PyData.int (k : Int)) 1
    have k0 : atI (PyData.int (j : Int) :: p.map fun k : Nat => PyData.int (k : Int)) 0 = some (.int (j : Int)) := atI_of (n := 0) rfl
    have a1 : addD (.tuple (xs.take j)) (.tuple [d']) = some (.tuple (xs.take j ++ [d'])) := add_t (by simp; omega)
    have a2 : addD (.tuple (xs.take j ++ [d'])) (.tuple (xs.drop (j + 1))) = some (.tuple (xs.take j ++ [d'] ++ xs.drop (j + 1))) := add_t (by simp; omega)
    have hsh : shp 1 (.tuple (PyData.int (j : Int) :: p.map fun k : Nat => PyData.int (k : Int))) = true := List.all_eq_true.mpr fun y hy => by
      rcases List.mem_cons.mp hy with rfl | hy
      · rfl
      · obtain ⟨z, _, rfl⟩ := List.mem_map.mp hy
        rfl
    have e : eqD (.tuple (PyData.int (j : Int) :: p.map fun k : Nat => PyData.int (k : Int))) (.tuple []) = some (.bool false) := by
      rw [eq_ok (n := 1) (m := 1) hsh rfl]
      rfl
    have hsl : sml (PyData.int (j : Int) :: p.map fun k : Nat => PyData.int (k : Int)).length = true := sml_of (by simp at h100 ⊢; omega)
    refine ⟨.tuple (xs.take j ++ [d'] ++ xs.drop (j + 1)), ?_, pl_tup.mpr ⟨by simp; omega, fun y hy => ?_⟩⟩
    · rw [List.map_cons]
      have hM : M_Lput_at (k + 1 + 1) = runFF 2 LT (D_Lput_at (M_Lput_at (k + 1))) := rfl
      rw [hM]
      generalize M_Lput_at (k + 1) = R at *
      generalize (p.map fun k : Nat => PyData.int (k : Int)) = pp at *
      simp -implicitDefEqProofs [D_Lput_at, runFF, startF3, recE, e, k0, hxa, k3, h1, k1, k2', a1, a2, -List.append_assoc]
    · simp only [List.mem_append, List.mem_singleton] at hy
      rcases hy with (hy | rfl) | hy
      · exact up y (List.mem_of_mem_take hy)
      · exact h2
      · exact up y (List.mem_of_mem_drop hy)
theorem spoilt_ex {L : Nat} (hL : 5 ≤ L ∧ L ≤ 400) (n : Nat) (d : D) (num deep : Int) (hn : n ≤ 11) (hd : pl false L n d = true) (hc : cnt n d ≤ 100000) : ∃ d', M_Lspoilt [d, .int num, .int deep] = some d' ∧ pl true (2 * L + 30) (n + 2) d' = true := by
  obtain ⟨ps, h1, h2, h3⟩ := places_ex (b := false) (L := L) (by omega) n 11 d [] hd hn hc (by simp; omega)
  have hpos : 0 < ps.length := by rw [h2]; unfold cnt; split <;> omega
  have hposI : (0 : Int) < (ps.length : Int) := by omega
  have m0 := Int.emod_nonneg num (b := (ps.length : Int)) (by omega)
  have m1 := Int.emod_lt_of_pos num hposI
  obtain ⟨p, hp, hat⟩ := atI_mem (xs := ps) m0 m1
  obtain ⟨z1, z2⟩ := h3 p hp
  obtain ⟨d', q1, q2⟩ := put_ex hL num p 11 n d z1 (by omega) (by omega) hd
  have hat' : atI (ps.map (wayD [])) (num % (ps.length : Int)) = some (.tuple (p.map fun k : Nat => PyData.int (k : Int))) := by
    rw [atI_pos m0] at hat ⊢
    rw [List.getElem?_map, hat]
    rfl
  have hle : ps.length ≤ 100000 := by omega
  refine ⟨d', ?_, q2⟩
  simp -implicitDefEqProofs [M_Lspoilt, D_Lspoilt, startE, lamE, h1, mod_ok hposI, hat', q1, hle, sml_of]

/-! is_span of plain data -/
def whB (d : D) (lo hi : Int) : Bool := match d with
  | .int i => decide (lo ≤ i) && decide (i ≤ hi)
  | _ => false
def moB (c : D) (b : Int) : Bool := match c with
  | .none => true
  | c => whB c b 999
def spanB (d : D) : Bool := match d with
  | .tuple [.int a, .int b, c, e, f] => whB (.int a) 0 999 && whB (.int b) a 999 && whB e 0 9 && whB f 0 9 && moB c b
  | _ => false
theorem whole_body {b : Bool} {L n : Nat} {d : D} {lo hi : Int} (h : pl b L n d = true) : runF 3 (sRet (andV (c1 (isiD .int) (vr 0)) (andV (notV (c1 (isiD .bool) (vr 0))) (chD leD leD (vr 1) (vr 0) (vr 2))))) [d, .int lo, .int hi] = some (.bool (whB d lo hi)) := by
  cases d with
  | dict _ => cases n <;> cases h
  | int i =>
    by_cases h1 : lo ≤ i
    · simp -implicitDefEqProofs [startE, isiD, whB, h1]
    · simp -implicitDefEqProofs [startE, isiD, whB, h1]
  | _ => simp -implicitDefEqProofs [startE, isiD, whB]

theorem Lfrom_eq {b : Bool} {L n : Nat} {d : D} {lo hi : Int} (h : pl b L n d = true) : M_Lfrom [d, .int lo, .int hi] = some (.bool (whB d lo hi)) := whole_body h
theorem Lisspan_eq {b : Bool} {L n : Nat} {d : D} (h : pl b L n d = true) (hL : L ≤ 10000) : M_Lis_span [d] = some (.bool (spanB d)) := by
  cases d with
  | dict _ => cases n <;> cases h
  | tuple xs =>
    cases n with
    | zero => cases h
    | succ n =>
      obtain ⟨hl, hx⟩ := pl_tup.mp h
      by_cases h5 : xs.length = 5
      · match xs, h5 with
        | [a, b', c, e, f], _ =>
          have pa := hx a (by simp)
          have pb := hx b' (by simp)
          have pc := hx c (by simp)
          have pe := hx e (by simp)
          have pf := hx f (by simp)
          have i0 : atI [a, b', c, e, f] 0 = some a := rfl
          have i1 : atI [a, b', c, e, f] 1 = some b' := rfl
          have i2 : atI [a, b', c, e, f] 2 = some c := rfl
          have i3 : atI [a, b', c, e, f] 3 = some e := rfl
          have i4 : atI [a, b', c, e, f] 4 = some f := rfl
          have fa := Lfrom_eq (lo := 0) (hi := 999) pa
          have fe := Lfrom_eq (lo := 0) (hi := 9) pe
          have ff := Lfrom_eq (lo := 0) (hi := 9) pf
          cases a with
          | int a =>
            have fb := Lfrom_eq (lo := a) (hi := 999) pb
            cases b' with
            | int b' =>
              have fc := Lfrom_eq (lo := b') (hi := 999) pc
              have hc : ∃ cn, notND c = some (.bool cn) ∧ moB c b' = (!cn || whB c b' 999) := by
                cases c <;> exact ⟨_, rfl, by simp [moB]⟩
              obtain ⟨cn, hcn, hce⟩ := hc
              unfold spanB
              simp only [hce]
              cases h1 : whB (.int a) 0 999 <;> cases h2 : whB (.int b') a 999 <;> cases h3 : whB c b' 999 <;> cases cn <;> cases h4 : whB e 0 9 <;> cases h5 : whB f 0 9 <;> simp only [h1, h2, h3, h4, h5] at fa fb fc fe ff <;>
                simp -implicitDefEqProofs [M_Lis_span, D_Lis_span, startE, isiD, i0, i1, i2, i3, i4, fa, fb, fc, fe, ff, hcn]
            | _ =>
              cases h1 : whB (.int a) 0 999 <;> simp only [h1] at fa <;> simp -implicitDefEqProofs [M_Lis_span, D_Lis_span, startE, isiD, i0, i1, fa, fb, whB, spanB]
          | _ => simp -implicitDefEqProofs [M_Lis_span, D_Lis_span, startE, isiD, i0, i1, fa, whB, spanB]
      · have h5' : ¬ (xs.length : Int) = 5 := by omega
        have hs : spanB (.tuple xs) = false := by
          unfold spanB
          split
          · rename_i heq; cases heq; simp at h5
          · rfl
        rw [hs]
        simp -implicitDefEqProofs [M_Lis_span, D_Lis_span, startE, isiD, h5', h5]
  | _ => simp -implicitDefEqProofs [M_Lis_span, D_Lis_span, startE, isiD, spanB]

theorem Pwhole_eq {b : Bool} {L n : Nat} {d : D} {lo hi : Int} (h : pl b L n d = true) : M_is_whole [d, .int lo, .int hi] = some (.bool (whB d lo hi)) := whole_body h
theorem Pisspan_eq {b : Bool} {L n : Nat} {d : D} (h : pl b L n d = true) (hL : L ≤ 10000) : M_is_span [d] = some (.bool (spanB d)) := by
  cases d with
  | dict _ => cases n <;> cases h
  | tuple xs =>
    cases n with
    | zero => cases h
    | succ n =>
      obtain ⟨hl, hx⟩ := pl_tup.mp h
      by_cases h5 : xs.length = 5
      · match xs, h5 with
        | [a, b', c, e, f], _ =>
          have pa := hx a (by simp)
          have pb := hx b' (by simp)
          have pc := hx c (by simp)
          have pe := hx e (by simp)
          have pf := hx f (by simp)
          have i0 : atI [a, b', c, e, f] 0 = some a := rfl
          have i1 : atI [a, b', c, e, f] 1 = some b' := rfl
          have i2 : atI [a, b', c, e, f] 2 = some c := rfl
          have fa := Pwhole_eq (lo := 0) (hi := 999) pa
          have fb := Pwhole_eq (lo := 0) (hi := 999) pb
          have fe := Pwhole_eq (lo := 0) (hi := 9) pe
          have ff := Pwhole_eq (lo := 0) (hi := 9) pf
          have k1 : cutL [a, b', c, e, f] none (some 2) = [a, b'] := rfl
          have k2 : cutL [a, b', c, e, f] (some 3) none = [e, f] := rfl
          have s2 : sml 2 = true := rfl
          have g1 : ∀ env : DEnv, env.length = 2 → lcGo (bNm 1) yesT (cA M_is_whole (consA (vr 1) (consA (cst (.int 0)) (consA (cst (.int 999)) nilA)))) env [a, b'] = some [.bool (whB a 0 999), .bool (whB b' 0 999)] := fun env he => by
            have h1 : 1 < env.length := by omega
            simp -implicitDefEqProofs [lcGo, h1, fa, fb]
          have g2 : ∀ env : DEnv, env.length = 2 → lcGo (bNm 1) yesT (cA M_is_whole (consA (vr 1) (consA (cst (.int 0)) (consA (cst (.int 9)) nilA)))) env [e, f] = some [.bool (whB e 0 9), .bool (whB f 0 9)] := fun env he => by
            have h1 : 1 < env.length := by omega
            simp -implicitDefEqProofs [lcGo, h1, fe, ff]
          cases a with
          | int a =>
            cases b' with
            | int b' =>
              have fc := Pwhole_eq (lo := b') (hi := 999) pc
              have hc : ∃ cn, isND c = some (.bool cn) ∧ moB c b' = (cn || whB c b' 999) := by
                cases c <;> exact ⟨_, rfl, by simp [moB]⟩
              obtain ⟨cn, hcn, hce⟩ := hc
              have hab : (whB (.int a) 0 999 && whB (.int b') a 999) = (whB (.int a) 0 999 && whB (.int b') 0 999 && decide (a ≤ b')) := by
                simp only [whB]
                rw [Bool.eq_iff_iff]
                simp
                omega
              have hspan : spanB (.tuple [.int a, .int b', c, e, f]) = (whB (.int a) 0 999 && whB (.int b') 0 999 && decide (a ≤ b') && whB e 0 9 && whB f 0 9 && (cn || whB c b' 999)) := by
                show (whB (.int a) 0 999 && whB (.int b') a 999 && whB e 0 9 && whB f 0 9 && moB c b') = _
                rw [hab, hce]
              rw [hspan]
              cases h1 : whB (.int a) 0 999 <;> cases h2 : whB (.int b') 0 999 <;> simp only [h1, h2] at g1
              · simp -implicitDefEqProofs [M_is_span, D_is_span, startE, isiD, k1, s2, g1]
              · simp -implicitDefEqProofs [M_is_span, D_is_span, startE, isiD, k1, s2, g1]
              · simp -implicitDefEqProofs [M_is_span, D_is_span, startE, isiD, k1, s2, g1]
              · by_cases hle : a ≤ b'
                · have hlt : ¬ b' < a := by omega
                  cases h3 : whB c b' 999 <;> cases cn <;> cases h4 : whB e 0 9 <;> cases h5 : whB f 0 9 <;> simp only [h3, h4, h5] at fc g2 <;>
                    simp -implicitDefEqProofs [M_is_span, D_is_span, startE, isiD, k1, k2, s2, g1, g2, i0, i1, i2, hle, hlt, hcn, fc]
                · have hlt : b' < a := by omega
                  simp -implicitDefEqProofs [M_is_span, D_is_span, startE, isiD, k1, k2, s2, g1, g2, i0, i1, i2, hle, hlt]
            | _ =>
              cases h1 : whB (.int a) 0 999 <;> simp only [h1] at g1 <;> simp -implicitDefEqProofs [M_is_span, D_is_span, startE, isiD, k1, s2, g1, whB, spanB]
          | _ => simp -implicitDefEqProofs [M_is_span, D_is_span, startE, isiD, k1, s2, g1, whB, spanB]
      · have h5' : ¬ (xs.length : Int) = 5 := by omega
        have hs : spanB (.tuple xs) = false := by
          unfold spanB
          split
          · rename_i heq; cases heq; simp at h5
          · rfl
        rw [hs]
        simp -implicitDefEqProofs [M_is_span, D_is_span, startE, isiD, h5', h5]
  | _ => simp -implicitDefEqProofs [M_is_span, D_is_span, startE, isiD, spanB]

/-! names -/
def lwB (c : Nat) : Bool := decide (97 ≤ c ∧ c ≤ 122)
def nameB : D → Bool
  | .str x => decide (1 ≤ x.length ∧ x.length ≤ 4) && x.cps.toList.all lwB
  | _ => false
theorem in_abc (c : Nat) : inStr ⟨#[c]⟩ "abcdefghijklmnopqrstuvwxyz" = lwB c := by
  have h := PySem.StrLaws.found_one "abcdefghijklmnopqrstuvwxyz" c
  unfold inStr
  rw [h]
  unfold lwB
  have e : (Str.ofString "abcdefghijklmnopqrstuvwxyz").cps.toList = List.range' 97 26 := by decide +kernel
  rw [e]
  congr 1
  rw [List.mem_range'_1]
  exact propext ⟨fun q => by omega, fun q => by omega⟩
theorem le_a (c : Nat) : leD (.str "a") (.str ⟨#[c]⟩) = some (.bool (decide (97 ≤ c))) := by
  have e : ("a" : Str).cps.toList = [97] := by decide +kernel
  show some (PyData.bool (!decide ([c] < ("a" : Str).cps.toList))) = _
  rw [e]
  congr 2
  by_cases h : 97 ≤ c
  · have : ¬ ([c] < [97]) := by simp [List.cons_lt_cons_iff]; omega
    simp [h, this]
  · have : [c] < [97] := by simp [List.cons_lt_cons_iff]; omega
    simp [h, this]
theorem le_z (c : Nat) : leD (.str ⟨#[c]⟩) (.str "z") = some (.bool (decide (c ≤ 122))) := by
  have e : ("z" : Str).cps.toList = [122] := by decide +kernel
  show some (PyData.bool (!decide (("z" : Str).cps.toList < [c]))) = _
  rw [e]
  congr 2
  by_cases h : c ≤ 122
  · have : ¬ ([122] < [c]) := by simp [List.cons_lt_cons_iff]; omega
    simp [h, this]
  · have : [122] < [c] := by simp [List.cons_lt_cons_iff]; omega
    simp [h, this]
theorem eq_nilL {n : Nat} {xs : List D} (h : ∀ x ∈ xs, shp n x = true) (hn : n ≤ 62) : eqD (.list xs) (.list []) = some (.bool xs.isEmpty) := by
  rw [eq_ok (n := n + 1) (m := 1) (a := .list xs) (b := .list []) (List.all_eq_true.mpr h) rfl (by omega) (by omega)]
  cases xs <;> rfl
theorem ne_nilL {n : Nat} {xs : List D} (h : ∀ x ∈ xs, shp n x = true) (hn : n ≤ 62) : neD (.list xs) (.list []) = some (.bool (!xs.isEmpty)) := by
  rw [ne_ok (n := n + 1) (m := 1) (a := .list xs) (b := .list []) (List.all_eq_true.mpr h) rfl (by omega) (by omega)]
  cases xs <;> rfl
theorem filter_none {α : Type} (p : α → Bool) : ∀ xs : List α, (xs.filter fun x => !p x).isEmpty = xs.all p
  | [] => rfl
  | x :: xs => by
    rw [List.filter_cons, List.all_cons, ← filter_none p xs]
    cases h : p x <;> simp
theorem Pname_eq {b : Bool} {L n : Nat} {d : D} (h : pl b L n d = true) : M_is_name [d] = some (.bool (nameB d)) := by
  cases d with
  | dict _ => cases n <;> cases h
  | str x =>
    have it : itemsD (.str x) = some (x.cps.toList.map fun c => PyData.str ⟨#[c]⟩) := rfl
    have h1 := (pl_str.mp h).2
    · have hs : sml x.length = true := sml_of (by omega)
      have hl : lenD (.str x) = some (.int x.length) := if_pos hs
      have hs' : sml x.cps.size = true := hs
      have g : ∀ env : DEnv, env.length = 2 → lcGo (bNm 1) yesT (c2 inD (vr 1) (cst (.str "abcdefghijklmnopqrstuvwxyz"))) env (x.cps.toList.map fun c => PyData.str ⟨#[c]⟩) = some (x.cps.toList.map fun c => PyData.bool (lwB c)) := fun env he => by
        refine lcGo_map (fun c => PyData.str ⟨#[c]⟩) (fun c => PyData.bool (lwB c)) _ fun c hc => ⟨_, rfl, ?_⟩
        have h1 : 1 < env.length := by omega
        have hin : inD (.str ⟨#[c]⟩) (.str "abcdefghijklmnopqrstuvwxyz") = some (.bool (lwB c)) := by rw [← in_abc]; rfl
        simp -implicitDefEqProofs [h1, hin]
      by_cases h2 : (1 : Int) ≤ (x.length : Int)
      · by_cases h3 : (x.length : Int) ≤ 4
        · have e : decide (1 ≤ x.length ∧ x.length ≤ 4) = true := decide_eq_true ⟨by omega, by omega⟩
          simp -implicitDefEqProofs [M_is_name, D_is_name, startE, isiD, hl, h2, h3, it, g, nameB, hs', e]
          try rfl
        · have e : decide (1 ≤ x.length ∧ x.length ≤ 4) = false := decide_eq_false (by omega)
          simp -implicitDefEqProofs [M_is_name, D_is_name, startE, isiD, hl, h2, h3, nameB, e]
      · have e : decide (1 ≤ x.length ∧ x.length ≤ 4) = false := decide_eq_false (by omega)
        simp -implicitDefEqProofs [M_is_name, D_is_name, startE, isiD, hl, h2, nameB, e]
  | _ => simp -implicitDefEqProofs [M_is_name, D_is_name, startE, isiD, nameB]
theorem Lname_eq {b : Bool} {L n : Nat} {d : D} (h : pl b L n d = true) : M_Lis_name [d] = some (.bool (nameB d)) := by
  cases d with
  | dict _ => cases n <;> cases h
  | str x =>
    have it : itemsD (.str x) = some (x.cps.toList.map fun c => PyData.str ⟨#[c]⟩) := rfl
    obtain ⟨hok, h1⟩ := pl_str.mp h
    have hs : sml x.length = true := sml_of (by omega)
    have hl : lenD (.str x) = some (.int x.length) := if_pos hs
    have hs' : sml x.cps.size = true := hs
    have g : ∀ env : DEnv, env.length = 2 → lcGo (bNm 1) T_Lis_name_1 C_Lis_name_1 env (x.cps.toList.map fun c => PyData.str ⟨#[c]⟩) = some ((x.cps.toList.filter fun c => !lwB c).map fun c => PyData.str ⟨#[c]⟩) := fun env he => by
      refine lcGo_typed (fun c => PyData.str ⟨#[c]⟩) (fun c => PyData.str ⟨#[c]⟩) (fun c => !lwB c) _ fun c hc => ⟨_, rfl, ?_, fun _ => ?_⟩
      · have h1 : 1 < env.length := by omega
        have hw : lwB c = (decide (97 ≤ c) && decide (c ≤ 122)) := by unfold lwB; exact Bool.decide_and _ _
        rw [hw]
        by_cases h97 : 97 ≤ c
        · simp -implicitDefEqProofs [T_Lis_name_1, h1, le_a, le_z, h97]
        · simp -implicitDefEqProofs [T_Lis_name_1, h1, le_a, le_z, h97]
      · have h1 : 1 < env.length := by omega
        simp -implicitDefEqProofs [C_Lis_name_1, h1]
    have hsh : ∀ y ∈ (x.cps.toList.filter fun c => !lwB c).map (fun c => PyData.str ⟨#[c]⟩), shp 0 y = true := fun y hy => by
      obtain ⟨c, hc, rfl⟩ := List.mem_map.mp hy
      have hc' := (List.mem_filter.mp hc).1
      have h2 : x.cps.all (· < 0x110000) = true := hok
      have h3 := Array.all_eq_true'.mp h2 c (by simpa using hc')
      show (#[c] : Array Nat).all (· < 0x110000) = true
      simpa using h3
    have e0 := eq_nilL hsh (by decide)
    rw [List.isEmpty_map, filter_none] at e0
    by_cases h2 : (1 : Int) ≤ (x.length : Int)
    · by_cases h3 : (x.length : Int) ≤ 4
      · have e : decide (1 ≤ x.length ∧ x.length ≤ 4) = true := decide_eq_true ⟨by omega, by omega⟩
        generalize hF : (x.cps.toList.filter fun c => !lwB c).map (fun c => PyData.str ⟨#[c]⟩) = FF at *
        simp -implicitDefEqProofs [M_Lis_name, D_Lis_name, startE, isiD, hl, h2, h3, it, g, nameB, hs', e, e0]
      · have e : decide (1 ≤ x.length ∧ x.length ≤ 4) = false := decide_eq_false (by omega)
        simp -implicitDefEqProofs [M_Lis_name, D_Lis_name, startE, isiD, hl, h2, h3, nameB, e]
    · have e : decide (1 ≤ x.length ∧ x.length ≤ 4) = false := decide_eq_false (by omega)
      simp -implicitDefEqProofs [M_Lis_name, D_Lis_name, startE, isiD, hl, h2, nameB, e]
  | _ => simp -implicitDefEqProofs [M_Lis_name, D_Lis_name, startE, isiD, nameB]

/-! boxes by shape: of plain data -/
def bsB (f : D → Bool) (many : Nat) : D → Bool
  | .tuple xs => decide (1 ≤ xs.length ∧ xs.length ≤ many) && xs.all f
  | _ => false
def leR : List D → Bool
  | [a, b] => spanB a && spanB b
  | _ => false
def liR (f : D → Bool) : List D → Bool
  | [g, bs] => whB g 0 999 && bsB f 4 bs
  | _ => false
def piR (f : D → Bool) : List D → Bool
  | [bs] => bsB f 3 bs
  | _ => false
def riR (f : D → Bool) : List D → Bool
  | [a, b, c, d, x] => (whB a 0 999 && whB b 0 999 && whB c 0 999 && whB d 0 999) && f x
  | _ => false
def shR (f : D → Bool) (w : Str) (r : List D) : Bool :=
  if w = "leaf" then leR r else if w = "row" ∨ w = "col" then liR f r else if w = "pile" then piR f r else if w = "rim" then riR f r else false
def shS (f : D → Bool) : D → Bool
  | .tuple (.str w :: nm :: r) => nameB nm && shR f w r
  | _ => false
def shB : Nat → D → Bool
  | 0, _ => false
  | n + 1, d => shS (shB n) d
theorem shR_nil (f : D → Bool) (w : Str) : shR f w [] = false := by
  unfold shR
  repeat' split
  all_goals rfl
theorem eqW {w : Str} (hw : PyData.strOk w = true) {z : Str} (hz : PyData.strOk z = true) : eqD (.str w) (.str z) = some (.bool (decide (w = z))) := eq_strs hw hz (by by_cases h : w = z <;> simp [h])
theorem neW {w : Str} (hw : PyData.strOk w = true) {z : Str} (hz : PyData.strOk z = true) : neD (.str w) (.str z) = some (.bool (!decide (w = z))) := ne_strs hw hz (by by_cases h : w = z <;> simp [h])
theorem inW2 {w : Str} (hw : PyData.strOk w = true) : inD (.str w) (.tuple [.str "row", .str "col"]) = some (.bool (decide (w = "row") || decide (w = "col"))) := by
  have h : okIn (.str w) [.str "row", .str "col"] = true := rfl
  show (if okIn (.str w) [.str "row", .str "col"] = true then some (PyData.bool (inSeq (.str w) [.str "row", .str "col"])) else none) = _
  rw [if_pos h]
  congr 2
  show (("row" : Str) == w || (("col" : Str) == w || false)) = _
  rw [Bool.or_false]
  congr 1
  · by_cases h : w = "row"
    · simp [h]
    · have h' : ¬ ("row" : Str) = w := fun q => h q.symm
      simp [h, h']
  · by_cases h : w = "col"
    · simp [h]
    · have h' : ¬ ("col" : Str) = w := fun q => h q.symm
      simp [h, h']
theorem ok_leaf : PyData.strOk "leaf" = true := by decide +kernel
theorem ok_row : PyData.strOk "row" = true := by decide +kernel
theorem ok_col : PyData.strOk "col" = true := by decide +kernel
theorem ok_pile : PyData.strOk "pile" = true := by decide +kernel
theorem ok_rim : PyData.strOk "rim" = true := by decide +kernel
/-- boxes in a tuple, the program's -/
theorem Pare_step {R1 R2 : List D → Option D} {b : Bool} {L N : Nat} (f : D → Bool) (many : Nat) (k : Int) (hL : L ≤ 10000) (hR : ∀ n d, n ≤ N → pl b L n d = true → R2 [d, .int k] = some (.bool (f d))) {n : Nat} {d : D} (hn : n ≤ N) (h : pl b L n d = true) :
    runF 4 (D_are_boxes R1 R2) [d, .int many, .int k] = some (.bool (bsB f many d)) := by
  cases d with
  | dict _ => cases n <;> cases h
  | tuple xs =>
    cases n with
    | zero => cases h
    | succ n =>
      obtain ⟨hl, hx⟩ := pl_tup.mp h
      have hs : sml xs.length = true := sml_of (by omega)
      have g : ∀ env : DEnv, env.length = 4 → env[2]? = some (some (.sh (.int k))) → lcGo (bNm 3) yesT (C_are_boxes_1 R1 R2) env xs = some (xs.map fun x => PyData.bool (f x)) := fun env he h2 => by
        have := lcGo_map (b := bNm 3) (el := C_are_boxes_1 R1 R2) (e := env) (fun x : D => x) (fun x => PyData.bool (f x)) xs fun x hm => ⟨_, rfl, by
          have h3 : 3 < env.length := by omega
          have r := hR n x (by omega) (hx x hm)
          simp -implicitDefEqProofs [C_are_boxes_1, h3, h2, r]⟩
        rwa [List.map_id'] at this
      by_cases h1 : (1 : Int) ≤ (xs.length : Int)
      · by_cases h2 : (xs.length : Int) ≤ (many : Int)
        · have e : decide (1 ≤ xs.length ∧ xs.length ≤ many) = true := decide_eq_true ⟨by omega, by omega⟩
          simp -implicitDefEqProofs [D_are_boxes, startE, isiD, h1, h2, hs, g, bsB, e]
          try rfl
        · have e : decide (1 ≤ xs.length ∧ xs.length ≤ many) = false := decide_eq_false (by omega)
          simp -implicitDefEqProofs [D_are_boxes, startE, isiD, h1, h2, bsB, e]
      · have e : decide (1 ≤ xs.length ∧ xs.length ≤ many) = false := decide_eq_false (by omega)
        simp -implicitDefEqProofs [D_are_boxes, startE, isiD, h1, bsB, e]
  | _ => simp -implicitDefEqProofs [D_are_boxes, startE, isiD, bsB]
theorem Pbox_step {R1 R2 : List D → Option D} {b : Bool} {L N : Nat} (f : D → Bool) (k : Nat) (hL : L ≤ 10000)
    (hR1 : ∀ (many n : Nat) d, n ≤ N → pl b L n d = true → R1 [d, .int many, .int k] = some (.bool (bsB f many d))) (hR2 : ∀ n d, n ≤ N → pl b L n d = true → R2 [d, .int k] = some (.bool (f d))) {n : Nat} {d : D} (hn : n ≤ N) (h : pl b L n d = true) :
    runF 4 (D_is_box_to R1 R2) [d, .int ((k : Int) + 1)] = some (.bool (shS f d)) := by
  have h0 : ¬ ((k : Int) + 1 = 0) := by omega
  cases d with
  | dict _ => cases n <;> cases h
  | tuple xs =>
    cases n with
    | zero => cases h
    | succ n =>
      obtain ⟨hl, hx⟩ := pl_tup.mp h
      match xs, hl, hx with
      | [], _, _ => simp -implicitDefEqProofs [D_is_box_to, startE, isiD, h0, shS]
      | [a], _, _ => simp -implicitDefEqProofs [D_is_box_to, startE, isiD, h0, shS]
      | [a, nm], _, _ =>
        have : shS f (.tuple [a, nm]) = false := by
          cases a <;> simp [shS, shR_nil]
        rw [this]
        simp -implicitDefEqProofs [D_is_box_to, startE, isiD, h0]
      | a :: nm :: c :: r, hl, hx =>
        have h3 : ¬ (((a :: nm :: c :: r).length : Int) < 3) := by simp only [List.length_cons]; omega
        have i0 : atI (a :: nm :: c :: r) 0 = some a := by rw [atI_pos (by decide)]; rfl
        have i1 : atI (a :: nm :: c :: r) 1 = some nm := by rw [atI_pos (by decide)]; rfl
        have i2 : atI (a :: nm :: c :: r) 2 = some c := by rw [atI_pos (by decide)]; rfl
        have pa := hx a (by simp)
        have pnm := Pname_eq (hx nm (by simp))
        have pc := hx c (by simp)
        cases a with
        | str w =>
          have hw := (pl_str.mp pa).1
          have e1 := eqW hw ok_leaf
          have e2 := inW2 hw
          have e3 := eqW hw ok_pile
          have e4 := neW hw ok_rim
          have ew := Pwhole_eq (lo := 0) (hi := 999) pc
          have es := Pisspan_eq pc hL
          have hln : ((((PyData.str w) :: nm :: c :: r).length : Nat) : Int) = ((r.length : Nat) : Int) + 3 := by simp only [List.length_cons]; omega
          show _ = some (PyData.bool (nameB nm && shR f w (c :: r)))
          cases hnm : nameB nm with
          | false =>
            rw [hnm] at pnm
            generalize hXS : (PyData.str w) :: nm :: c :: r = XS at *
            simp -implicitDefEqProofs [D_is_box_to, startE, isiD, h0, h3, i0, i1, pnm]
          | true =>
            rw [hnm] at pnm
            have cut : cutL ((PyData.str w) :: nm :: c :: r) (some 2) (some 6) = (c :: r).take 4 := by
              unfold cutL
              have : HT.sIx ((PyData.str w) :: nm :: c :: r).length 0 (some 2) = 2 := by
                have := HT.sIx_nat ((PyData.str w) :: nm :: c :: r).length 0 2
                rw [show ((2 : Nat) : Int) = 2 from rfl] at this
                rw [this]
                simp only [List.length_cons]
                omega
              rw [this]
              have h6 := HT.sIx_nat ((PyData.str w) :: nm :: c :: r).length ((PyData.str w) :: nm :: c :: r).length 6
              rw [show ((6 : Nat) : Int) = 6 from rfl] at h6
              rw [h6]
              show (c :: r).take _ = _
              simp only [List.length_cons]
              by_cases hr : r.length ≤ 3
              · rw [List.take_of_length_le (by simp; omega), List.take_of_length_le (by simp; omega)]
              · congr 1
                omega
            by_cases w1 : w = "leaf"
            · have d1 : shR f w (c :: r) = leR (c :: r) := if_pos w1
              rw [d1]
              simp only [w1, decide_true] at e1
              match r, hl, hx with
              | [x], hl, hx =>
                have i3 : atI [PyData.str w, nm, c, x] 3 = some x := rfl
                have ex := Pisspan_eq (hx x (by simp)) hL
                subst w1
                generalize hXS : [PyData.str "leaf", nm, c, x] = XS at *
                cases hc : spanB c <;> cases hxx : spanB x <;> simp only [hc, hxx] at es ex <;> simp -implicitDefEqProofs [D_is_box_to, startE, isiD, h0, h3, hln, i0, i1, i2, i3, pnm, e1, es, ex, leR, hc, hxx]
              | [], hl, hx =>
                subst w1
                generalize hXS : [PyData.str "leaf", nm, c] = XS at *
                simp -implicitDefEqProofs [D_is_box_to, startE, isiD, h0, h3, hln, i0, i1, pnm, e1, leR]
              | x :: y :: r, hl, hx =>
                subst w1
                have h4 : ¬ (((PyData.str "leaf" :: nm :: c :: x :: y :: r).length : Int) = 4) := by simp only [List.length_cons]; omega
                have h4' : ¬ ((PyData.str "leaf" :: nm :: c :: x :: y :: r).length = 4) := by simp only [List.length_cons]; omega
                generalize hXS : PyData.str "leaf" :: nm :: c :: x :: y :: r = XS at *
                simp -implicitDefEqProofs [D_is_box_to, startE, isiD, h0, h3, h4, h4', i0, i1, pnm, e1, leR]
            · simp only [w1, decide_false] at e1
              by_cases w2 : w = "row" ∨ w = "col"
              · have d1 : shR f w (c :: r) = liR f (c :: r) := by unfold shR; rw [if_neg w1, if_pos w2]
                rw [d1]
                have w2' : (decide (w = "row") || decide (w = "col")) = true := by simpa using w2
                rw [w2'] at e2
                match r, hl, hx with
                | [x], hl, hx =>
                  have i3 : atI [PyData.str w, nm, c, x] 3 = some x := rfl
                  have ex := hR1 4 n x (by omega) (hx x (by simp))
                  rw [show ((4 : Nat) : Int) = 4 from rfl] at ex
                  generalize hXS : [PyData.str w, nm, c, x] = XS at *
                  cases hc : whB c 0 999 <;> simp only [hc] at ew <;> simp -implicitDefEqProofs [D_is_box_to, startE, isiD, h0, h3, hln, i0, i1, i2, i3, pnm, e1, e2, ew, ex, liR, hc]
                | [], hl, hx =>
                  generalize hXS : [PyData.str w, nm, c] = XS at *
                  simp -implicitDefEqProofs [D_is_box_to, startE, isiD, h0, h3, hln, i0, i1, pnm, e1, e2, liR]
                | x :: y :: r, hl, hx =>
                  have h4 : ¬ (((PyData.str w :: nm :: c :: x :: y :: r).length : Int) = 4) := by simp only [List.length_cons]; omega
                  have h4' : ¬ ((PyData.str w :: nm :: c :: x :: y :: r).length = 4) := by simp only [List.length_cons]; omega
                  generalize hXS : PyData.str w :: nm :: c :: x :: y :: r = XS at *
                  simp -implicitDefEqProofs [D_is_box_to, startE, isiD, h0, h3, h4, h4', i0, i1, pnm, e1, e2, liR]
              · have w2' : (decide (w = "row") || decide (w = "col")) = false := by simpa using w2
                rw [w2'] at e2
                by_cases w3 : w = "pile"
                · have d1 : shR f w (c :: r) = piR f (c :: r) := by unfold shR; rw [if_neg w1, if_neg w2, if_pos w3]
                  rw [d1]
                  simp only [w3, decide_true] at e3
                  match r, hl, hx with
                  | [], hl, hx =>
                    have ex := hR1 3 n c (by omega) (hx c (by simp))
                    rw [show ((3 : Nat) : Int) = 3 from rfl] at ex
                    subst w3
                    generalize hXS : [PyData.str "pile", nm, c] = XS at *
                    simp -implicitDefEqProofs [D_is_box_to, startE, isiD, h0, h3, hln, i0, i1, i2, pnm, e1, e2, e3, ex, piR]
                  | x :: r, hl, hx =>
                    subst w3
                    have h4 : ¬ (((PyData.str "pile" :: nm :: c :: x :: r).length : Int) = 3) := by simp only [List.length_cons]; omega
                    have h4' : ¬ ((PyData.str "pile" :: nm :: c :: x :: r).length = 3) := by simp only [List.length_cons]; omega
                    generalize hXS : PyData.str "pile" :: nm :: c :: x :: r = XS at *
                    simp -implicitDefEqProofs [D_is_box_to, startE, isiD, h0, h3, h4, h4', i0, i1, pnm, e1, e2, e3, piR]
                · simp only [w3, decide_false] at e3
                  by_cases w4 : w = "rim"
                  · have d1 : shR f w (c :: r) = riR f (c :: r) := by unfold shR; rw [if_neg w1, if_neg w2, if_neg w3, if_pos w4]
                    rw [d1]
                    simp only [w4, decide_true] at e4
                    match r, hl, hx, cut with
                    | [x, y, z, u], hl, hx, cut =>
                      have i6 : atI [PyData.str w, nm, c, x, y, z, u] 6 = some u := rfl
                      have fx := Pwhole_eq (lo := 0) (hi := 999) (hx x (by simp))
                      have fy := Pwhole_eq (lo := 0) (hi := 999) (hx y (by simp))
                      have fz := Pwhole_eq (lo := 0) (hi := 999) (hx z (by simp))
                      have fu := hR2 n u (by omega) (hx u (by simp))
                      have g1 : ∀ env : DEnv, env.length = 4 → lcGo (bNm 3) yesT (C_is_box_to_1 R1 R2) env [c, x, y, z] = some [.bool (whB c 0 999), .bool (whB x 0 999), .bool (whB y 0 999), .bool (whB z 0 999)] := fun env he => by
                        have h1 : 3 < env.length := by omega
                        simp -implicitDefEqProofs [lcGo, C_is_box_to_1, h1, ew, fx, fy, fz]
                      have s4 : sml 4 = true := rfl
                      have cut' : cutL [PyData.str w, nm, c, x, y, z, u] (some 2) (some 6) = [c, x, y, z] := cut
                      subst w4
                      generalize hXS : [PyData.str "rim", nm, c, x, y, z, u] = XS at *
                      cases h1 : whB c 0 999 <;> cases h2 : whB x 0 999 <;> cases h3' : whB y 0 999 <;> cases h4 : whB z 0 999 <;> simp only [h1, h2, h3', h4] at g1 <;> simp -implicitDefEqProofs [D_is_box_to, startE, isiD, h0, h3, hln, i0, i1, i6, pnm, e1, e2, e3, e4, cut', s4, g1, fu, riR, h1, h2, h3', h4]
                    | [], hl, hx, _ =>
                      subst w4
                      generalize hXS : [PyData.str "rim", nm, c] = XS at *
                      simp -implicitDefEqProofs [D_is_box_to, startE, isiD, h0, h3, hln, i0, i1, pnm, e1, e2, e3, e4, riR]
                    | [x], hl, hx, _ =>
                      subst w4
                      generalize hXS : [PyData.str "rim", nm, c, x] = XS at *
                      simp -implicitDefEqProofs [D_is_box_to, startE, isiD, h0, h3, hln, i0, i1, pnm, e1, e2, e3, e4, riR]
                    | [x, y], hl, hx, _ =>
                      subst w4
                      generalize hXS : [PyData.str "rim", nm, c, x, y] = XS at *
                      simp -implicitDefEqProofs [D_is_box_to, startE, isiD, h0, h3, hln, i0, i1, pnm, e1, e2, e3, e4, riR]
                    | [x, y, z], hl, hx, _ =>
                      subst w4
                      generalize hXS : [PyData.str "rim", nm, c, x, y, z] = XS at *
                      simp -implicitDefEqProofs [D_is_box_to, startE, isiD, h0, h3, hln, i0, i1, pnm, e1, e2, e3, e4, riR]
                    | x :: y :: z :: u :: v :: r, hl, hx, _ =>
                      subst w4
                      have h4 : ¬ (((PyData.str "rim" :: nm :: c :: x :: y :: z :: u :: v :: r).length : Int) = 7) := by simp only [List.length_cons]; omega
                      have h4' : ¬ ((PyData.str "rim" :: nm :: c :: x :: y :: z :: u :: v :: r).length = 7) := by simp only [List.length_cons]; omega
                      generalize hXS : PyData.str "rim" :: nm :: c :: x :: y :: z :: u :: v :: r = XS at *
                      simp -implicitDefEqProofs [D_is_box_to, startE, isiD, h0, h3, h4, h4', i0, i1, pnm, e1, e2, e3, e4, riR]
                  · have d1 : shR f w (c :: r) = false := by unfold shR; rw [if_neg w1, if_neg w2, if_neg w3, if_neg w4]
                    rw [d1]
                    simp only [w4, decide_false] at e4
                    generalize hXS : PyData.str w :: nm :: c :: r = XS at *
                    simp -implicitDefEqProofs [D_is_box_to, startE, isiD, h0, h3, i0, i1, pnm, e1, e2, e3, e4]
        | dict _ => cases n <;> cases pa
        | _ =>
          show _ = some (PyData.bool false)
          generalize hXS : _ :: nm :: c :: r = XS at *
          simp -implicitDefEqProofs [D_is_box_to, startE, isiD, h0, h3, i0]
  | _ => simp -implicitDefEqProofs [D_is_box_to, startE, isiD, h0, shS]

theorem Pbox_eq {b : Bool} {L N : Nat} (hL : L ≤ 10000) : ∀ (k m n : Nat) (d : D), 2 * k + 1 ≤ m → n ≤ N → pl b L n d = true → M_is_box_to m [d, .int (k : Int)] = some (.bool (shB k d)) := by
  intro k
  induction k with
  | zero =>
    intro m n d hm hn h
    obtain ⟨m, rfl⟩ : ∃ j, m = j + 1 := ⟨m - 1, by omega⟩
    have e : M_is_box_to (m + 1) = runF 4 (D_is_box_to (M_are_boxes m) (M_is_box_to m)) := rfl
    rw [e]
    show _ = some (PyData.bool false)
    simp -implicitDefEqProofs [D_is_box_to, startE]
  | succ k ih =>
    intro m n d hm hn h
    obtain ⟨m, rfl⟩ : ∃ j, m = j + 2 := ⟨m - 2, by omega⟩
    have e : M_is_box_to (m + 2) = runF 4 (D_is_box_to (M_are_boxes (m + 1)) (M_is_box_to (m + 1))) := rfl
    rw [e]
    refine Pbox_step (N := N) (shB k) k hL (fun many n' d' hn' h' => ?_) (fun n' d' hn' h' => ih (m + 1) n' d' (by omega) hn' h') hn h
    have e2 : M_are_boxes (m + 1) = runF 4 (D_are_boxes (M_are_boxes m) (M_is_box_to m)) := rfl
    rw [e2]
    exact Pare_step (N := N) (shB k) many k hL (fun n'' d'' hn'' h'' => ih m n'' d'' (by omega) hn'' h'') hn' h'
/-! the law's -/
def szD : List (D × D) := [(.str "leaf", .int 4), (.str "row", .int 4), (.str "col", .int 4), (.str "pile", .int 3), (.str "rim", .int 7)]
theorem sz_eq : mergeKD [] [(.inr "leaf", .int 4), (.inr "row", .int 4), (.inr "col", .int 4), (.inr "pile", .int 3), (.inr "rim", .int 7)] = szD := by
  rfl
theorem look_sz {w : Str} (h1 : ¬ w = "leaf") (h2 : ¬ w = "row") (h3 : ¬ w = "col") (h4 : ¬ w = "pile") (h5 : ¬ w = "rim") : lookK szD (.inr w) = none := by
  have q : ∀ z : Str, ¬ w = z → decide (asKey (.str z) = some (Sum.inr w)) = false := fun z h => by
    refine decide_eq_false fun e => ?_
    have e' : (some (Sum.inr z) : Option Key) = some (Sum.inr w) := e
    cases e'
    exact h rfl
  unfold lookK szD
  simp only [List.find?_cons, q _ h1, q _ h2, q _ h3, q _ h4, q _ h5, List.find?_nil]
  rfl
theorem Lshape_step {R : List D → Option D} {b : Bool} {L N : Nat} (f : D → Bool) (k : Nat) (hL : L ≤ 10000) (hN : N ≤ 60)
    (hR : ∀ n d, n ≤ N → pl b L n d = true → R [d, .int k] = some (.bool (f d))) {n : Nat} {d : D} (hn : n ≤ N) (h : pl b L n d = true) :
    runF 5 (D_Lis_shape R) [d, .int ((k : Int) + 1)] = some (.bool (shS f d)) := by
  have h0 : ¬ ((k : Int) + 1 = 0) := by omega
  have g2 : ∀ (n : Nat) (xs : List D), n ≤ N → xs.length ≤ L → (∀ x ∈ xs, pl b L n x = true) → ∃ ys : List D, (∀ env : DEnv, env.length = 5 → env[1]? = some (some (.sh (.int ((k : Int) + 1)))) → lcGo (bNm 4) (T_Lis_shape_2 R) (C_Lis_shape_2 R) env xs = some ys) ∧ eqD (.list ys) (.list []) = some (.bool (xs.all f)) := fun n xs hn hl hx => by
    refine ⟨xs.filter fun x => !f x, fun env he h1 => ?_, ?_⟩
    · have := lcGo_typed (b := bNm 4) (t := T_Lis_shape_2 R) (el := C_Lis_shape_2 R) (e := env) (fun x : D => x) (fun x => x) (fun x => !f x) xs fun x hm => ⟨_, rfl, by
        have h4 : 4 < env.length := by omega
        have r := hR n x hn (hx x hm)
        simp -implicitDefEqProofs [T_Lis_shape_2, h4, h1, r], fun _ => by
        have h4 : 4 < env.length := by omega
        simp -implicitDefEqProofs [C_Lis_shape_2, h4]⟩
      rw [List.map_id'] at this
      rw [this, List.map_id']
    · rw [eq_nilL (n := n) (fun x hx' => pl_shp n x (hx x (List.mem_filter.mp hx').1)) (by omega), filter_none]
  cases d with
  | dict _ => cases n <;> cases h
  | tuple xs =>
    cases n with
    | zero => cases h
    | succ n =>
      obtain ⟨hl, hx⟩ := pl_tup.mp h
      match xs, hl, hx with
      | [], _, _ => simp -implicitDefEqProofs [D_Lis_shape, startE, isiD, h0, shS]
      | [a], _, _ => simp -implicitDefEqProofs [D_Lis_shape, startE, isiD, h0, shS]
      | [a, nm], _, _ =>
        have : shS f (.tuple [a, nm]) = false := by
          cases a <;> simp [shS, shR_nil]
        rw [this]
        simp -implicitDefEqProofs [D_Lis_shape, startE, isiD, h0]
      | a :: nm :: c :: r, hl, hx =>
        have h3 : ¬ (((a :: nm :: c :: r).length : Int) < 3) := by simp only [List.length_cons]; omega
        have i0 : atI (a :: nm :: c :: r) 0 = some a := by rw [atI_pos (by decide)]; rfl
        have i1 : atI (a :: nm :: c :: r) 1 = some nm := by rw [atI_pos (by decide)]; rfl
        have i2 : atI (a :: nm :: c :: r) 2 = some c := by rw [atI_pos (by decide)]; rfl
        have pa := hx a (by simp)
        have pnm := Lname_eq (hx nm (by simp))
        have pc := hx c (by simp)
        have b15 : Nat.ble 5 15 = true := rfl
        cases a with
        | str w =>
          have hw := (pl_str.mp pa).1
          have e1 := eqW hw ok_leaf
          have e3 := eqW hw ok_pile
          have e4 := eqW hw ok_rim
          have e5 := neW hw ok_pile
          have ew := Lfrom_eq (lo := 0) (hi := 999) pc
          have es := Lisspan_eq pc hL
          have hln : ((((PyData.str w) :: nm :: c :: r).length : Nat) : Int) = ((r.length : Nat) : Int) + 3 := by simp only [List.length_cons]; omega
          show _ = some (PyData.bool (nameB nm && shR f w (c :: r)))
          by_cases w1 : w = "leaf"
          · have d1 : shR f w (c :: r) = leR (c :: r) := if_pos w1
            rw [d1]
            simp only [w1, decide_true] at e1
            have lk : lookK szD (.inr w) = some (.int 4) := by rw [w1]; rfl
            match r, hl, hx with
            | [x], hl, hx =>
              have i3 : atI [PyData.str w, nm, c, x] 3 = some x := rfl
              have ex := Lisspan_eq (hx x (by simp)) hL
              subst w1
              generalize hXS : [PyData.str "leaf", nm, c, x] = XS at *
              cases hnm : nameB nm <;> cases hc : spanB c <;> cases hxx : spanB x <;> simp only [hnm, hc, hxx] at pnm es ex <;> simp -implicitDefEqProofs [D_Lis_shape, startE, isiD, h0, h3, hln, i0, i1, i2, i3, pnm, e1, es, ex, leR, hc, hxx, sz_eq, lk, b15]
            | [], hl, hx =>
              subst w1
              generalize hXS : [PyData.str "leaf", nm, c] = XS at *
              simp -implicitDefEqProofs [D_Lis_shape, startE, isiD, h0, h3, hln, i0, i1, leR, sz_eq, lk, b15]
            | x :: y :: r, hl, hx =>
              subst w1
              have h4 : ¬ (((PyData.str "leaf" :: nm :: c :: x :: y :: r).length : Int) = 4) := by simp only [List.length_cons]; omega
              have h4' : ¬ ((PyData.str "leaf" :: nm :: c :: x :: y :: r).length = 4) := by simp only [List.length_cons]; omega
              generalize hXS : PyData.str "leaf" :: nm :: c :: x :: y :: r = XS at *
              simp -implicitDefEqProofs [D_Lis_shape, startE, isiD, h0, h3, h4, h4', i0, i1, leR, sz_eq, lk, b15]
          · simp only [w1, decide_false] at e1
            by_cases w2 : w = "row" ∨ w = "col"
            · have d1 : shR f w (c :: r) = liR f (c :: r) := by unfold shR; rw [if_neg w1, if_pos w2]
              rw [d1]
              have w3 : ¬ w = "pile" := by
                rcases w2 with q | q <;> rw [q] <;> decide +kernel
              have w4 : ¬ w = "rim" := by
                rcases w2 with q | q <;> rw [q] <;> decide +kernel
              simp only [w3, decide_false] at e3 e5
              simp only [w4, decide_false] at e4
              have lk : lookK szD (.inr w) = some (.int 4) := by
                rcases w2 with q | q <;> rw [q] <;> rfl
              match r, hl, hx with
              | [x], hl, hx =>
                have i3 : atI [PyData.str w, nm, c, x] 3 = some x := rfl
                have px := hx x (by simp)
                generalize hXS : [PyData.str w, nm, c, x] = XS at *
                have i4 : atI [PyData.int 4, .int 3] 0 = some (.int 4) := rfl
                cases x with
                | tuple xs =>
                  cases n with
                  | zero => cases px
                  | succ n =>
                    obtain ⟨hl', hx'⟩ := pl_tup.mp px
                    obtain ⟨ys, gy, ey⟩ := g2 n xs (by omega) hl' hx'
                    have hs : sml xs.length = true := sml_of (by omega)
                    by_cases q1 : (1 : Int) ≤ (xs.length : Int)
                    · by_cases q2 : (xs.length : Int) ≤ 4
                      · have e : decide (1 ≤ xs.length ∧ xs.length ≤ 4) = true := decide_eq_true ⟨by omega, by omega⟩
                        cases hnm : nameB nm <;> cases hc : whB c 0 999 <;> simp only [hnm, hc] at pnm ew <;> simp -implicitDefEqProofs [D_Lis_shape, startE, isiD, h0, h3, hln, i0, i1, i2, i3, i4, pnm, e1, e3, e4, e5, ew, liR, bsB, hc, sz_eq, lk, b15, q1, q2, e, hs, gy, ey]
                      · have e : decide (1 ≤ xs.length ∧ xs.length ≤ 4) = false := decide_eq_false (by omega)
                        cases hnm : nameB nm <;> simp only [hnm] at pnm <;> simp -implicitDefEqProofs [D_Lis_shape, startE, isiD, h0, h3, hln, i0, i1, i2, i3, i4, pnm, e1, e3, e4, e5, liR, bsB, sz_eq, lk, b15, q1, q2, e]
                    · have e : decide (1 ≤ xs.length ∧ xs.length ≤ 4) = false := decide_eq_false (by omega)
                      cases hnm : nameB nm <;> simp only [hnm] at pnm <;> simp -implicitDefEqProofs [D_Lis_shape, startE, isiD, h0, h3, hln, i0, i1, i2, i3, i4, pnm, e1, e3, e4, e5, liR, bsB, sz_eq, lk, b15, q1, e]
                | dict _ => cases n <;> cases px
                | _ =>
                  cases hnm : nameB nm <;> simp only [hnm] at pnm <;> simp -implicitDefEqProofs [D_Lis_shape, startE, isiD, h0, h3, hln, i0, i1, i2, i3, pnm, e1, e3, e4, liR, bsB, sz_eq, lk, b15]
              | [], hl, hx =>
                generalize hXS : [PyData.str w, nm, c] = XS at *
                simp -implicitDefEqProofs [D_Lis_shape, startE, isiD, h0, h3, hln, i0, i1, liR, sz_eq, lk, b15]
              | x :: y :: r, hl, hx =>
                have h4 : ¬ (((PyData.str w :: nm :: c :: x :: y :: r).length : Int) = 4) := by simp only [List.length_cons]; omega
                have h4' : ¬ ((PyData.str w :: nm :: c :: x :: y :: r).length = 4) := by simp only [List.length_cons]; omega
                generalize hXS : PyData.str w :: nm :: c :: x :: y :: r = XS at *
                simp -implicitDefEqProofs [D_Lis_shape, startE, isiD, h0, h3, h4, h4', i0, i1, liR, sz_eq, lk, b15]
            · by_cases w3 : w = "pile"
              · have d1 : shR f w (c :: r) = piR f (c :: r) := by unfold shR; rw [if_neg w1, if_neg w2, if_pos w3]
                rw [d1]
                have w4 : ¬ w = "rim" := by rw [w3]; decide +kernel
                simp only [w3, decide_true] at e3 e5
                simp only [w4, decide_false] at e4
                have lk : lookK szD (.inr w) = some (.int 3) := by rw [w3]; rfl
                match r, hl, hx with
                | [], hl, hx =>
                  subst w3
                  generalize hXS : [PyData.str "pile", nm, c] = XS at *
                  have i4 : atI [PyData.int 4, .int 3] 1 = some (.int 3) := rfl
                  cases c with
                  | tuple xs =>
                    cases n with
                    | zero => cases pc
                    | succ n =>
                      obtain ⟨hl', hx'⟩ := pl_tup.mp pc
                      obtain ⟨ys, gy, ey⟩ := g2 n xs (by omega) hl' hx'
                      have hs : sml xs.length = true := sml_of (by omega)
                      by_cases q1 : (1 : Int) ≤ (xs.length : Int)
                      · by_cases q2 : (xs.length : Int) ≤ 3
                        · have e : decide (1 ≤ xs.length ∧ xs.length ≤ 3) = true := decide_eq_true ⟨by omega, by omega⟩
                          cases hnm : nameB nm <;> simp only [hnm] at pnm <;> simp -implicitDefEqProofs [D_Lis_shape, startE, isiD, h0, h3, hln, i0, i1, i2, i4, pnm, e1, e3, e4, e5, piR, bsB, sz_eq, lk, b15, q1, q2, e, hs, gy, ey]
                        · have e : decide (1 ≤ xs.length ∧ xs.length ≤ 3) = false := decide_eq_false (by omega)
                          cases hnm : nameB nm <;> simp only [hnm] at pnm <;> simp -implicitDefEqProofs [D_Lis_shape, startE, isiD, h0, h3, hln, i0, i1, i2, i4, pnm, e1, e3, e4, e5, piR, bsB, sz_eq, lk, b15, q1, q2, e]
                      · have e : decide (1 ≤ xs.length ∧ xs.length ≤ 3) = false := decide_eq_false (by omega)
                        cases hnm : nameB nm <;> simp only [hnm] at pnm <;> simp -implicitDefEqProofs [D_Lis_shape, startE, isiD, h0, h3, hln, i0, i1, i2, i4, pnm, e1, e3, e4, e5, piR, bsB, sz_eq, lk, b15, q1, e]
                  | dict _ => cases n <;> cases pc
                  | _ =>
                    cases hnm : nameB nm <;> simp only [hnm] at pnm <;> simp -implicitDefEqProofs [D_Lis_shape, startE, isiD, h0, h3, hln, i0, i1, i2, pnm, e1, e3, e4, piR, bsB, sz_eq, lk, b15]
                | x :: r, hl, hx =>
                  subst w3
                  have h4 : ¬ (((PyData.str "pile" :: nm :: c :: x :: r).length : Int) = 3) := by simp only [List.length_cons]; omega
                  have h4' : ¬ ((PyData.str "pile" :: nm :: c :: x :: r).length = 3) := by simp only [List.length_cons]; omega
                  generalize hXS : PyData.str "pile" :: nm :: c :: x :: r = XS at *
                  simp -implicitDefEqProofs [D_Lis_shape, startE, isiD, h0, h3, h4, h4', i0, i1, piR, sz_eq, lk, b15]
              · by_cases w4 : w = "rim"
                · have d1 : shR f w (c :: r) = riR f (c :: r) := by unfold shR; rw [if_neg w1, if_neg w2, if_neg w3, if_pos w4]
                  rw [d1]
                  simp only [w4, decide_true] at e4
                  have lk : lookK szD (.inr w) = some (.int 7) := by rw [w4]; rfl
                  match r, hl, hx with
                  | [x, y, z, u], hl, hx =>
                    have i6 : atI [PyData.str w, nm, c, x, y, z, u] 6 = some u := rfl
                    have px := hx x (by simp)
                    have py := hx y (by simp)
                    have pz := hx z (by simp)
                    have fx := Lfrom_eq (lo := 0) (hi := 999) px
                    have fy := Lfrom_eq (lo := 0) (hi := 999) py
                    have fz := Lfrom_eq (lo := 0) (hi := 999) pz
                    have fu := hR n u (by omega) (hx u (by simp))
                    have g1 : ∀ env : DEnv, env.length = 5 → lcGo (bNm 4) (T_Lis_shape_1 R) (C_Lis_shape_1 R) env [c, x, y, z] = some ([c, x, y, z].filter fun x => !whB x 0 999) := fun env he => by
                      have := lcGo_typed (b := bNm 4) (t := T_Lis_shape_1 R) (el := C_Lis_shape_1 R) (e := env) (fun x : D => x) (fun x => x) (fun x => !whB x 0 999) [c, x, y, z] fun v hm => ⟨_, rfl, by
                        have h4 : 4 < env.length := by omega
                        have r : M_Lfrom [v, .int 0, .int 999] = some (.bool (whB v 0 999)) := Lfrom_eq (hx v (by simp only [List.mem_cons, List.not_mem_nil, or_false] at hm ⊢; rcases hm with q | q | q | q <;> simp [q]))
                        simp -implicitDefEqProofs [T_Lis_shape_1, h4, r], fun _ => by
                        have h4 : 4 < env.length := by omega
                        simp -implicitDefEqProofs [C_Lis_shape_1, h4]⟩
                      rw [List.map_id'] at this
                      rw [this, List.map_id']
                    have n1 := ne_nilL (n := n) (xs := [c, x, y, z].filter fun x => !whB x 0 999) (fun v hv => pl_shp n v (hx v (by have hm := (List.mem_filter.mp hv).1; simp only [List.mem_cons, List.not_mem_nil, or_false] at hm ⊢; rcases hm with q | q | q | q <;> simp [q]))) (by omega)
                    rw [filter_none] at n1
                    have s4 : sml 4 = true := rfl
                    have cut' : cutL [PyData.str w, nm, c, x, y, z, u] (some 2) (some 6) = [c, x, y, z] := rfl
                    subst w4
                    have hall : [c, x, y, z].all (fun x => whB x 0 999) = (whB c 0 999 && whB x 0 999 && whB y 0 999 && whB z 0 999) := by simp [Bool.and_assoc]
                    rw [hall] at n1
                    generalize hXS : [PyData.str "rim", nm, c, x, y, z, u] = XS at *
                    generalize hYS : ([c, x, y, z].filter fun x => !whB x 0 999) = YS at *
                    show _ = some (PyData.bool (nameB nm && ((whB c 0 999 && whB x 0 999 && whB y 0 999 && whB z 0 999) && f u)))
                    generalize hAL : (whB c 0 999 && whB x 0 999 && whB y 0 999 && whB z 0 999) = AL at *
                    cases hnm : nameB nm <;> cases AL <;> simp only [hnm] at pnm <;> simp -implicitDefEqProofs [D_Lis_shape, startE, isiD, h0, h3, hln, i0, i1, i6, pnm, e1, e4, cut', s4, g1, n1, fu, sz_eq, lk, b15]
                  | [], hl, hx =>
                    subst w4
                    generalize hXS : [PyData.str "rim", nm, c] = XS at *
                    simp -implicitDefEqProofs [D_Lis_shape, startE, isiD, h0, h3, hln, i0, i1, riR, sz_eq, lk, b15]
                  | [x], hl, hx =>
                    subst w4
                    generalize hXS : [PyData.str "rim", nm, c, x] = XS at *
                    simp -implicitDefEqProofs [D_Lis_shape, startE, isiD, h0, h3, hln, i0, i1, riR, sz_eq, lk, b15]
                  | [x, y], hl, hx =>
                    subst w4
                    generalize hXS : [PyData.str "rim", nm, c, x, y] = XS at *
                    simp -implicitDefEqProofs [D_Lis_shape, startE, isiD, h0, h3, hln, i0, i1, riR, sz_eq, lk, b15]
                  | [x, y, z], hl, hx =>
                    subst w4
                    generalize hXS : [PyData.str "rim", nm, c, x, y, z] = XS at *
                    simp -implicitDefEqProofs [D_Lis_shape, startE, isiD, h0, h3, hln, i0, i1, riR, sz_eq, lk, b15]
                  | x :: y :: z :: u :: v :: r, hl, hx =>
                    subst w4
                    have h4 : ¬ (((PyData.str "rim" :: nm :: c :: x :: y :: z :: u :: v :: r).length : Int) = 7) := by simp only [List.length_cons]; omega
                    have h4' : ¬ ((PyData.str "rim" :: nm :: c :: x :: y :: z :: u :: v :: r).length = 7) := by simp only [List.length_cons]; omega
                    generalize hXS : PyData.str "rim" :: nm :: c :: x :: y :: z :: u :: v :: r = XS at *
                    simp -implicitDefEqProofs [D_Lis_shape, startE, isiD, h0, h3, h4, h4', i0, i1, riR, sz_eq, lk, b15]
                · have d1 : shR f w (c :: r) = false := by unfold shR; rw [if_neg w1, if_neg w2, if_neg w3, if_neg w4]
                  rw [d1]
                  have lk := look_sz w1 (fun q => w2 (.inl q)) (fun q => w2 (.inr q)) w3 w4
                  have h4 : ¬ (((PyData.str w :: nm :: c :: r).length : Int) = 0) := by simp only [List.length_cons]; omega
                  have h4' : ¬ (PyData.str w :: nm :: c :: r = []) := by simp
                  generalize hXS : PyData.str w :: nm :: c :: r = XS at *
                  simp -implicitDefEqProofs [D_Lis_shape, startE, isiD, h0, h3, h4, h4', i0, i1, sz_eq, lk, b15]
        | dict _ => cases n <;> cases pa
        | _ =>
          show _ = some (PyData.bool false)
          generalize hXS : _ :: nm :: c :: r = XS at *
          simp -implicitDefEqProofs [D_Lis_shape, startE, isiD, h0, h3, i0]
  | _ => simp -implicitDefEqProofs [D_Lis_shape, startE, isiD, h0, shS]
theorem Lshape_eq {b : Bool} {L N : Nat} (hL : L ≤ 10000) (hN : N ≤ 60) : ∀ (k m n : Nat) (d : D), k + 1 ≤ m → n ≤ N → pl b L n d = true → M_Lis_shape m [d, .int (k : Int)] = some (.bool (shB k d)) := by
  intro k
  induction k with
  | zero =>
    intro m n d hm hn h
    obtain ⟨m, rfl⟩ : ∃ j, m = j + 1 := ⟨m - 1, by omega⟩
    have e : M_Lis_shape (m + 1) = runF 5 (D_Lis_shape (M_Lis_shape m)) := rfl
    rw [e]
    show _ = some (PyData.bool false)
    simp -implicitDefEqProofs [D_Lis_shape, startE]
  | succ k ih =>
    intro m n d hm hn h
    obtain ⟨m, rfl⟩ : ∃ j, m = j + 1 := ⟨m - 1, by omega⟩
    have e : M_Lis_shape (m + 1) = runF 5 (D_Lis_shape (M_Lis_shape m)) := rfl
    rw [e]
    exact Lshape_step (N := N) (shB k) k hL hN (fun n' d' hn' h' => ih m n' d' (by omega) hn' h') hn h

/-! names of what is a box by shape -/
def insD : D → List D
  | .tuple [.str w, _, a] => match a with
    | .tuple xs => xs
    | _ => []
  | .tuple [.str w, _, _, a] => if w = "leaf" then [] else match a with
    | .tuple xs => xs
    | _ => []
  | .tuple [_, _, _, _, _, _, a] => [a]
  | _ => []
def nmOf : D → Str
  | .tuple (_ :: .str x :: _) => x
  | _ => ""
def nmD : Nat → D → List Str
  | 0, _ => []
  | n + 1, d => nmOf d :: (insD d).flatMap (nmD n)
theorem name_str {d : D} (h : nameB d = true) : ∃ x : Str, d = .str x := by
  cases d with
  | str x => exact ⟨x, rfl⟩
  | _ => cases h
theorem bsB_tup {f : D → Bool} {m : Nat} {d : D} (h : bsB f m d = true) : ∃ xs : List D, d = .tuple xs ∧ 1 ≤ xs.length ∧ xs.length ≤ m ∧ ∀ y ∈ xs, f y = true := by
  cases d with
  | tuple xs =>
    have h' : (decide (1 ≤ xs.length ∧ xs.length ≤ m) && xs.all f) = true := h
    rw [Bool.and_eq_true, decide_eq_true_eq, List.all_eq_true] at h'
    exact ⟨xs, rfl, h'.1.1, h'.1.2, h'.2⟩
  | _ => cases h
theorem shS_cases {f : D → Bool} {d : D} (h : shS f d = true) : ∃ x : Str, nameB (.str x) = true ∧ ((∃ a b, d = .tuple [.str "leaf", .str x, a, b]) ∨ (∃ c g xs, d = .tuple [.str (kindS c), .str x, g, .tuple xs] ∧ xs.length ≤ 4 ∧ ∀ y ∈ xs, f y = true)
    ∨ (∃ xs, d = .tuple [.str "pile", .str x, .tuple xs] ∧ xs.length ≤ 4 ∧ ∀ y ∈ xs, f y = true) ∨ (∃ a b c e y, d = .tuple [.str "rim", .str x, a, b, c, e, y] ∧ f y = true)) := by
  unfold shS at h
  split at h
  · rename_i w nm r
    rw [Bool.and_eq_true] at h
    obtain ⟨h1, h2⟩ := h
    obtain ⟨x, rfl⟩ := name_str h1
    refine ⟨x, h1, ?_⟩
    unfold shR at h2
    split at h2
    · rename_i hw
      subst hw
      unfold leR at h2
      split at h2
      · exact .inl ⟨_, _, rfl⟩
      · cases h2
    · split at h2
      · rename_i hw
        unfold liR at h2
        split at h2
        · rename_i g bs
          rw [Bool.and_eq_true] at h2
          obtain ⟨xs, rfl, _, h4, h5⟩ := bsB_tup h2.2
          refine .inr (.inl ?_)
          rcases hw with rfl | rfl
          · exact ⟨false, g, xs, rfl, h4, h5⟩
          · exact ⟨true, g, xs, rfl, h4, h5⟩
        · cases h2
      · split at h2
        · rename_i hw
          subst hw
          unfold piR at h2
          split at h2
          · obtain ⟨xs, rfl, _, h4, h5⟩ := bsB_tup h2
            exact .inr (.inr (.inl ⟨xs, rfl, by omega, h5⟩))
          · cases h2
        · split at h2
          · rename_i hw
            subst hw
            unfold riR at h2
            split at h2
            · rw [Bool.and_eq_true] at h2
              exact .inr (.inr (.inr ⟨_, _, _, _, _, rfl, h2.2⟩))
            · cases h2
          · cases h2
  · cases h
/-- what is in it, and its name -/
theorem shS_parts {f : D → Bool} {d : D} (h : shS f d = true) : M_boxes_in [d] = some (.tuple (insD d)) ∧ M_Lin [d] = some (.tuple (insD d)) ∧ ixD d (.int 1) = some (.str (nmOf d)) ∧ nameB (.str (nmOf d)) = true ∧ (insD d).length ≤ 4 ∧ ∀ y ∈ insD d, f y = true := by
  obtain ⟨x, hx, h⟩ := shS_cases h
  rcases h with ⟨a, b, rfl⟩ | ⟨c, g, xs, rfl, hl, hf⟩ | ⟨xs, rfl, hl, hf⟩ | ⟨a, b, c, e, y, rfl, hf⟩
  · have i0 : atI [PyData.str "leaf", .str x, a, b] 0 = some (.str "leaf") := rfl
    have e0 : insD (.tuple [.str "leaf", .str x, a, b]) = [] := by simp [insD]
    rw [e0]
    refine ⟨?_, ?_, rfl, hx, by simp, fun y hy => by cases hy⟩
    · simp -implicitDefEqProofs [M_boxes_in, D_boxes_in, startE, i0]
    · simp -implicitDefEqProofs [M_Lin, D_Lin, startE, i0]
  · have i0 : atI [PyData.str (kindS c), .str x, g, .tuple xs] 0 = some (.str (kindS c)) := rfl
    have i3 : atI [PyData.str (kindS c), .str x, g, .tuple xs] (-1) = some (.tuple xs) := rfl
    have i3' : atI [PyData.str (kindS c), .str x, g, .tuple xs] 3 = some (.tuple xs) := rfl
    have hk : ¬ kindS c = "leaf" := by cases c <;> decide +kernel
    have e0 : insD (.tuple [.str (kindS c), .str x, g, .tuple xs]) = xs := if_neg hk
    have e1 : eqD (.str (kindS c)) (.str "leaf") = some (.bool false) := by cases c <;> simp [kindS]
    have e2 : eqD (.str (kindS c)) (.str "rim") = some (.bool false) := by cases c <;> simp [kindS]
    rw [e0]
    refine ⟨?_, ?_, rfl, hx, hl, hf⟩
    · simp -implicitDefEqProofs [M_boxes_in, D_boxes_in, startE, i0, e1, e2, i3]
    · have z0 : ∀ q : D, atI [PyData.tuple xs, q] 0 = some (.tuple xs) := fun _ => rfl
      simp -implicitDefEqProofs [M_Lin, D_Lin, startE, i0, e1, e2, i3', z0]
  · have i0 : atI [PyData.str "pile", .str x, .tuple xs] 0 = some (.str "pile") := rfl
    have i3 : atI [PyData.str "pile", .str x, .tuple xs] (-1) = some (.tuple xs) := rfl
    have i3' : atI [PyData.str "pile", .str x, .tuple xs] 2 = some (.tuple xs) := rfl
    have e0 : insD (.tuple [.str "pile", .str x, .tuple xs]) = xs := rfl
    rw [e0]
    refine ⟨?_, ?_, rfl, hx, hl, hf⟩
    · simp -implicitDefEqProofs [M_boxes_in, D_boxes_in, startE, i0, i3]
    · have z0 : ∀ q : D, atI [PyData.tuple xs, q] 0 = some (.tuple xs) := fun _ => rfl
      simp -implicitDefEqProofs [M_Lin, D_Lin, startE, i0, i3', z0]
  · have i0 : atI [PyData.str "rim", .str x, a, b, c, e, y] 0 = some (.str "rim") := rfl
    have i6 : atI [PyData.str "rim", .str x, a, b, c, e, y] 6 = some y := rfl
    have c6 : cutL [PyData.str "rim", .str x, a, b, c, e, y] (some 6) none = [y] := rfl
    have e0 : insD (.tuple [.str "rim", .str x, a, b, c, e, y]) = [y] := rfl
    rw [e0]
    refine ⟨?_, ?_, rfl, hx, by simp, fun z hz => ?_⟩
    · simp -implicitDefEqProofs [M_boxes_in, D_boxes_in, startE, i0, i6]
    · have z0 : ∀ q : D, atI [q, PyData.tuple [y]] 1 = some (.tuple [y]) := fun _ => rfl
      simp -implicitDefEqProofs [M_Lin, D_Lin, startE, i0, i6, c6, z0]
    · rw [List.mem_singleton.mp hz]; exact hf
def cpD : Nat → Nat
  | 0 => 0
  | n + 1 => 1 + 4 * cpD n
theorem cpD_le {n : Nat} (h : n ≤ 5) : cpD n ≤ 400 := by
  match n, h with
  | 0, _ => decide
  | 1, _ => decide
  | 2, _ => decide
  | 3, _ => decide
  | 4, _ => decide
  | 5, _ => decide
theorem flat_leD {α β : Type} {k : Nat} {f : α → List β} : ∀ (xs : List α), (∀ x ∈ xs, (f x).length ≤ k) → (xs.flatMap f).length ≤ k * xs.length
  | [], _ => by simp
  | x :: xs, h => by
    have h1 := h x List.mem_cons_self
    have h2 := flat_leD xs fun y hy => h y (List.mem_cons_of_mem _ hy)
    rw [List.flatMap_cons, List.length_append, List.length_cons, Nat.mul_succ]
    omega
theorem nmD_ok : ∀ (n : Nat) (d : D), shB n d = true → (nmD n d).length ≤ cpD n ∧ ∀ x ∈ nmD n d, nameB (.str x) = true
  | 0, d, h => by cases h
  | n + 1, d, h => by
    obtain ⟨_, _, _, h3, h4, h5⟩ := shS_parts (f := shB n) h
    have q := fun y hy => nmD_ok n y (h5 y hy)
    constructor
    · show ((nmOf d :: (insD d).flatMap (nmD n)).length) ≤ 1 + 4 * cpD n
      rw [List.length_cons]
      have h1 := flat_leD (k := cpD n) (insD d) fun x hx => (q x hx).1
      have h2 : cpD n * (insD d).length ≤ cpD n * 4 := Nat.mul_le_mul_left _ h4
      omega
    · intro x hx
      have hx' : x ∈ nmOf d :: (insD d).flatMap (nmD n) := hx
      rcases List.mem_cons.mp hx' with rfl | hx'
      · exact h3
      · obtain ⟨y, hy, hx'⟩ := List.mem_flatMap.mp hx'
        exact (q y hy).2 x hx'
theorem namesD1 {n : Nat} {B : FS} (R : List D → Option D) (hB : B = sAsg 1 (c2 addD (vr 1) (cA R (consA (vr 2) nilA)))) {s0 : Option Sl} {k : Nat} (P : D → Prop) (hR : ∀ p, P p → R [p] = some (.tuple ((nmD n p).map PyData.str)) ∧ (nmD n p).length ≤ k) :
    ∀ (ps : List D) (acc : List Str) (x : Option Sl), (∀ p ∈ ps, P p) → acc.length + k * ps.length ≤ 100000 → ∃ x', forD (bNm 2) B ps [s0, some (.sh (.tuple (acc.map PyData.str))), x] = some (.nx [s0, some (.sh (.tuple ((acc ++ ps.flatMap (nmD n)).map PyData.str))), x'])
  | [], acc, x, _, _ => ⟨x, by rw [forD_n, List.flatMap_nil, List.append_nil]⟩
  | p :: ps, acc, x, h, hl => by
    obtain ⟨r, hk⟩ := hR p (h p List.mem_cons_self)
    rw [List.length_cons, Nat.mul_succ] at hl
    obtain ⟨x', hh⟩ := namesD1 R hB (s0 := s0) (k := k) P hR ps (acc ++ nmD n p) (some (.sh p)) (fun y q => h y (List.mem_cons_of_mem _ q)) (by rw [List.length_append]; omega)
    refine ⟨x', ?_⟩
    rw [List.flatMap_cons, ← List.append_assoc, ← hh, forD_c]
    have a : addD (.tuple (acc.map PyData.str)) (.tuple ((nmD n p).map PyData.str)) = some (.tuple ((acc ++ nmD n p).map PyData.str)) := by
      rw [List.map_append]
      exact add_t (by rw [List.length_map, List.length_map]; omega)
    generalize (acc ++ nmD n p).map PyData.str = AW at *
    generalize (nmD n p).map PyData.str = WP at *
    generalize acc.map PyData.str = AC at *
    subst hB
    simp -implicitDefEqProofs [r, a]
theorem Pnames_eq : ∀ (n m : Nat) (d : D), n ≤ m → n ≤ 5 → shB n d = true → M_names_in m [d] = some (.tuple ((nmD n d).map PyData.str)) := by
  intro n
  induction n with
  | zero => intro m d _ _ h; cases h
  | succ n ih =>
    intro m d hm hn h
    obtain ⟨m, rfl⟩ : ∃ j, m = j + 1 := ⟨m - 1, by omega⟩
    have hM : M_names_in (m + 1) = runF 3 (D_names_in (M_names_in m)) := rfl
    rw [hM]
    obtain ⟨bi, _, i1, _, h4, h5⟩ := shS_parts (f := shB n) h
    have cp := cpD_le (show n ≤ 5 by omega)
    have hl : cpD n * (insD d).length ≤ cpD n * 4 := Nat.mul_le_mul_left _ h4
    obtain ⟨x', lp⟩ := namesD1 (n := n) (B := B_names_in_1 (M_names_in m)) (M_names_in m) rfl (s0 := some (.sh d)) (k := cpD n) (fun p => shB n p = true) (fun p hp => ⟨ih m p (by omega) (by omega) hp, (nmD_ok n p hp).1⟩) (insD d) [nmOf d] none h5 (by simp; omega)
    rw [List.singleton_append] at lp
    have e : nmD (n + 1) d = nmOf d :: (insD d).flatMap (nmD n) := rfl
    have l1 : [nmOf d].map PyData.str = [.str (nmOf d)] := rfl
    rw [e]
    rw [l1] at lp
    generalize (nmOf d :: (insD d).flatMap (nmD n)).map PyData.str = W at *
    generalize insD d = PB at *
    generalize nmOf d = nd at *
    simp -implicitDefEqProofs [D_names_in, startE, i1, bi, lp]
theorem Lnames_eq : ∀ (n m : Nat) (d : D), n ≤ m → n ≤ 5 → shB n d = true → M_Lnames m [d] = some (.tuple ((nmD n d).map PyData.str)) := by
  intro n
  induction n with
  | zero => intro m d _ _ h; cases h
  | succ n ih =>
    intro m d hm hn h
    obtain ⟨m, rfl⟩ : ∃ j, m = j + 1 := ⟨m - 1, by omega⟩
    have hM : M_Lnames (m + 1) = runF 3 (D_Lnames (M_Lnames m)) := rfl
    rw [hM]
    obtain ⟨_, bi, i1, _, h4, h5⟩ := shS_parts (f := shB n) h
    have cp := cpD_le (show n ≤ 5 by omega)
    have hl : cpD n * (insD d).length ≤ cpD n * 4 := Nat.mul_le_mul_left _ h4
    obtain ⟨x', lp⟩ := namesD1 (n := n) (B := B_Lnames_1 (M_Lnames m)) (M_Lnames m) rfl (s0 := some (.sh d)) (k := cpD n) (fun p => shB n p = true) (fun p hp => ⟨ih m p (by omega) (by omega) hp, (nmD_ok n p hp).1⟩) (insD d) [nmOf d] none h5 (by simp; omega)
    rw [List.singleton_append] at lp
    have e : nmD (n + 1) d = nmOf d :: (insD d).flatMap (nmD n) := rfl
    have l1 : [nmOf d].map PyData.str = [.str (nmOf d)] := rfl
    rw [e]
    rw [l1] at lp
    generalize (nmOf d :: (insD d).flatMap (nmD n)).map PyData.str = W at *
    generalize insD d = PB at *
    generalize nmOf d = nd at *
    simp -implicitDefEqProofs [D_Lnames, startE, i1, bi, lp]
def boxB (d : D) : Bool := shB 4 d && ((TX.metT (nmD 4 d)).length == (nmD 4 d).length)
theorem len_strs (ys : List Str) : lenD (.tuple (ys.map PyData.str)) = some (.int (ys.length : Int)) := by
  rw [e_lenT, List.length_map]
theorem Pisbox_eq {b : Bool} {L n : Nat} {d : D} (hL : L ≤ 10000) (h : pl b L n d = true) : M_is_box [d] = some (.bool (boxB d)) := by
  have h1 := Pbox_eq (N := n) hL 4 12 n d (by decide) (Nat.le_refl _) h
  rw [show ((4 : Nat) : Int) = 4 from rfl] at h1
  unfold boxB
  cases hs : shB 4 d with
  | false =>
    rw [hs] at h1
    simp -implicitDefEqProofs [M_is_box, D_is_box, startE, h1]
  | true =>
    rw [hs] at h1
    have h2 := Pnames_eq 4 12 d (by decide) (by decide) hs
    have h3 := e_lensetT (ys := nmD 4 d) (by have := (nmD_ok 4 d hs).1; have := cpD_le (n := 4) (by decide); omega)
    have h4 := len_strs (nmD 4 d)
    generalize (nmD 4 d).map PyData.str = NS at *
    generalize (nmD 4 d).length = a at *
    generalize (TX.metT (nmD 4 d)).length = c at *
    have hc : ((c : Int) == (a : Int)) = (c == a) := by
      by_cases q : c = a
      · subst q; rw [beq_self_eq_true, beq_self_eq_true]
      · have : ¬ (c : Int) = (a : Int) := by omega
        rw [beq_eq_false_iff_ne.mpr this, beq_eq_false_iff_ne.mpr q]
    simp -implicitDefEqProofs [M_is_box, D_is_box, startE, h1, h2, h3, h4, hc, -e_lenT]
theorem Lisbox_eq {b : Bool} {L n : Nat} {d : D} (hL : L ≤ 10000) (hn : n ≤ 60) (h : pl b L n d = true) : M_Lis_box [d] = some (.bool (boxB d)) := by
  have h1 := Lshape_eq (N := n) hL hn 4 12 n d (by decide) (Nat.le_refl _) h
  rw [show ((4 : Nat) : Int) = 4 from rfl] at h1
  unfold boxB
  cases hs : shB 4 d with
  | false =>
    rw [hs] at h1
    simp -implicitDefEqProofs [M_Lis_box, D_Lis_box, startE, h1]
  | true =>
    rw [hs] at h1
    have h2 := Lnames_eq 4 12 d (by decide) (by decide) hs
    have h3 := e_lensetT (ys := nmD 4 d) (by have := (nmD_ok 4 d hs).1; have := cpD_le (n := 4) (by decide); omega)
    have h4 := len_strs (nmD 4 d)
    generalize (nmD 4 d).map PyData.str = NS at *
    generalize (nmD 4 d).length = a at *
    generalize (TX.metT (nmD 4 d)).length = c at *
    have hc : ((c : Int) == (a : Int)) = (c == a) := by
      by_cases q : c = a
      · subst q; rw [beq_self_eq_true, beq_self_eq_true]
      · have : ¬ (c : Int) = (a : Int) := by omega
        rw [beq_eq_false_iff_ne.mpr this, beq_eq_false_iff_ne.mpr q]
    simp -implicitDefEqProofs [M_Lis_box, D_Lis_box, startE, h1, h2, h3, h4, hc, -e_lenT]
/-! made boxes -/
theorem span_sp {s : Spn} (h : s.Ok) (h2 : s.Sm) : spanB (spD s) = true := by
  have a := h.lo0
  have b := h.low
  have c := h2.wi
  have d := h.gr0
  have e := h.sh0
  have f := h2.gr
  have g := h2.sh
  show (whB (.int s.lo) 0 999 && whB (.int s.wi) s.lo 999 && whB (.int s.gr) 0 9 && whB (.int s.sh) 0 9 && moB (optD s.mo) s.wi) = true
  have w : ∀ i lo hi : Int, lo ≤ i → i ≤ hi → whB (.int i) lo hi = true := fun i lo hi h1 h2 => by
    show (decide (lo ≤ i) && decide (i ≤ hi)) = true
    rw [decide_eq_true h1, decide_eq_true h2]; rfl
  have m : moB (optD s.mo) s.wi = true := by
    cases hm : s.mo with
    | none => rfl
    | some m => exact w m s.wi 999 (h.top m hm) (h2.mo m hm)
  rw [w _ _ _ a (by omega), w _ _ _ b c, w _ _ _ d f, w _ _ _ e g, m]
  rfl
theorem wh_int {i : Int} (h0 : 0 ≤ i) (h1 : i ≤ 999) : whB (.int i) 0 999 = true := by
  show (decide (0 ≤ i) && decide (i ≤ 999)) = true
  rw [decide_eq_true h0, decide_eq_true h1]; rfl
def lowS (nm : Str) : Bool := nm.cps.toList.all lwB
theorem low_ch {nm : Str} {k : Nat} (h : lowS nm = true) (hk : k < 4) : lowS (nm ++ chS k) = true := by
  show ((nm.cps ++ #[97 + k]).toList.all lwB) = true
  rw [Array.toList_append, List.all_append]
  have h1 : nm.cps.toList.all lwB = true := h
  rw [h1]
  have : lwB (97 + k) = true := decide_eq_true ⟨by omega, by omega⟩
  simp [this]
theorem name_low {nm : Str} (h : lowS nm = true) (h1 : 1 ≤ nm.length) (h2 : nm.length ≤ 4) : nameB (.str nm) = true := by
  show (decide (1 ≤ nm.length ∧ nm.length ≤ 4) && nm.cps.toList.all lwB) = true
  rw [decide_eq_true ⟨h1, h2⟩]
  exact h
theorem bs_of {f : D → Bool} {m : Nat} {xs : List D} (h1 : 1 ≤ xs.length) (h2 : xs.length ≤ m) (h3 : ∀ x ∈ xs, f x = true) : bsB f m (.tuple xs) = true := by
  show (decide (1 ≤ xs.length ∧ xs.length ≤ m) && xs.all f) = true
  rw [decide_eq_true ⟨h1, h2⟩, List.all_eq_true.mpr h3]
  rfl
theorem made_sh : ∀ (n : Nat) (nm : Str) (b : Bx n), Made n nm b → lowS nm = true → 1 ≤ nm.length → nm.length + n ≤ 5 → shB n (bxD n b) = true
  | 0, _, b, _, _, _, _ => nomatch b
  | n + 1, nm, b, h, hlow, h1, h2 => by
    have hnm := name_low hlow h1 (by omega)
    have mem : ∀ {ps : List (Bx n)}, ps.length ≤ 4 → (∀ k p, ps[k]? = some p → Made n (nm ++ chS k) p) → ∀ x ∈ ps.map (bxD n), shB n x = true := fun {ps} hl hp x hx => by
      obtain ⟨p, hm, rfl⟩ := List.mem_map.mp hx
      obtain ⟨k, hk⟩ := List.getElem?_of_mem hm
      have : k < ps.length := (List.getElem?_eq_some_iff.mp hk).1
      exact made_sh n _ p (hp k p hk) (low_ch hlow (by omega)) (by rw [len_ch]; omega) (by rw [len_ch]; omega)
    show shS (shB n) (bxD (n + 1) b) = true
    match (b : BxF (Bx n)), h with
    | .leaf nm' w h', h =>
      obtain ⟨rfl, a, b, c, d⟩ := h
      show (nameB (.str nm') && shR (shB n) "leaf" [spD w, spD h']) = true
      rw [hnm]
      have : shR (shB n) "leaf" [spD w, spD h'] = (spanB (spD w) && spanB (spD h')) := if_pos rfl
      rw [this, span_sp a b, span_sp c d]
      rfl
    | .line c nm' g ps, h =>
      obtain ⟨rfl, a1, a2, a3, a4, a5⟩ := h
      show (nameB (.str nm') && shR (shB n) (kindS c) [.int g, .tuple (ps.map (bxD n))]) = true
      rw [hnm]
      have k1 : ¬ kindS c = "leaf" := by cases c <;> decide +kernel
      have k2 : kindS c = "row" ∨ kindS c = "col" := by cases c
                                                        · exact .inl rfl
                                                        · exact .inr rfl
      have : shR (shB n) (kindS c) [.int g, .tuple (ps.map (bxD n))] = (whB (.int g) 0 999 && bsB (shB n) 4 (.tuple (ps.map (bxD n)))) := by
        unfold shR
        rw [if_neg k1, if_pos k2]
        rfl
      rw [this, wh_int a1 (by omega), bs_of (by simpa using a3) (by simpa using a4) (mem a4 a5)]
      rfl
    | .pile nm' ps, h =>
      obtain ⟨rfl, a3, a4, a5⟩ := h
      show (nameB (.str nm') && shR (shB n) "pile" [.tuple (ps.map (bxD n))]) = true
      rw [hnm]
      have : shR (shB n) "pile" [.tuple (ps.map (bxD n))] = bsB (shB n) 3 (.tuple (ps.map (bxD n))) := by
        unfold shR
        rw [if_neg (by decide +kernel), if_neg (by decide +kernel), if_pos rfl]
        rfl
      rw [this, bs_of (by simpa using a3) (by simpa using a4) (mem (by omega) a5)]
      rfl
    | .rim nm' a b c d p, h =>
      obtain ⟨rfl, h3, h4, h5, h6, h7⟩ := h
      show (nameB (.str nm') && shR (shB n) "rim" [.int a, .int b, .int c, .int d, bxD n p]) = true
      rw [hnm]
      have : shR (shB n) "rim" [.int a, .int b, .int c, .int d, bxD n p] = ((whB (.int a) 0 999 && whB (.int b) 0 999 && whB (.int c) 0 999 && whB (.int d) 0 999) && shB n (bxD n p)) := by
        unfold shR
        rw [if_neg (by decide +kernel), if_neg (by decide +kernel), if_neg (by decide +kernel), if_pos rfl]
        rfl
      rw [this, wh_int h3.1 (by omega), wh_int h4.1 (by omega), wh_int h5.1 (by omega), wh_int h6.1 (by omega), made_sh n _ p h7 (low_ch hlow (by decide)) (by rw [len_ch]; omega) (by rw [len_ch]; omega)]
      rfl
theorem strOk_chD {nm : Str} {k : Nat} (h : PyData.strOk nm = true) (hk : k < 4) : PyData.strOk (nm ++ chS k) = true := by
  show (nm.cps ++ #[97 + k]).all (· < 0x110000) = true
  rw [Array.all_append]
  have h1 : nm.cps.all (· < 0x110000) = true := h
  rw [h1]
  have : 97 + k < 0x110000 := by omega
  simp [this]
theorem pl_sp {s : Spn} (h : s.Ok) (h2 : s.Sm) : pl false 5 1 (spD s) = true := by
  have a := h.lo0
  have b := h.low
  have c := h2.wi
  have d := h.gr0
  have e := h.sh0
  have f := h2.gr
  have g := h2.sh
  refine pl_tup.mpr ⟨by simp, fun x hx => ?_⟩
  simp only [List.mem_cons, List.not_mem_nil, or_false] at hx
  rcases hx with rfl | rfl | rfl | rfl | rfl
  · exact pl_int.mpr (by omega)
  · exact pl_int.mpr (by omega)
  · cases hm : s.mo with
    | none => rfl
    | some m =>
      have h3 := h2.mo m hm
      have h4 := h.top m hm
      exact pl_int.mpr (by omega)
  · exact pl_int.mpr (by omega)
  · exact pl_int.mpr (by omega)
theorem made_pl : ∀ (n : Nat) (nm : Str) (b : Bx n), Made n nm b → PyData.strOk nm = true → nm.length + n ≤ 1000 → pl false 7 (2 * n) (bxD n b) = true
  | 0, _, b, _, _, _ => nomatch b
  | n + 1, nm, b, h, hok, h2 => by
    have mem : ∀ {ps : List (Bx n)}, ps.length ≤ 4 → (∀ k p, ps[k]? = some p → Made n (nm ++ chS k) p) → pl false 7 (2 * n + 1) (.tuple (ps.map (bxD n))) = true := fun {ps} hl hp => by
      refine pl_tup.mpr ⟨by rw [List.length_map]; omega, fun x hx => ?_⟩
      obtain ⟨p, hm, rfl⟩ := List.mem_map.mp hx
      obtain ⟨k, hk⟩ := List.getElem?_of_mem hm
      have : k < ps.length := (List.getElem?_eq_some_iff.mp hk).1
      exact made_pl n _ p (hp k p hk) (strOk_chD hok (by omega)) (by rw [len_ch]; omega)
    have hst : ∀ {z : Str}, PyData.strOk z = true → z.length ≤ 1000 → pl false 7 (2 * n + 1) (.str z) = true := fun h h' => pl_str.mpr ⟨h, h'⟩
    have hint : ∀ {i : Int}, 0 ≤ i → i ≤ 999 → pl false 7 (2 * n + 1) (.int i) = true := fun h h' => pl_int.mpr (by omega)
    have k2 : 2 * (n + 1) = 2 * n + 1 + 1 := by omega
    rw [k2]
    match (b : BxF (Bx n)), h with
    | .leaf nm' w h', h =>
      obtain ⟨rfl, a, b, c, d⟩ := h
      refine pl_tup.mpr ⟨by simp, fun x hx => ?_⟩
      simp only [List.mem_cons, List.not_mem_nil, or_false] at hx
      rcases hx with rfl | rfl | rfl | rfl
      · exact hst ok_leaf (by decide +kernel)
      · exact hst hok (by omega)
      · exact pl_mono (fun h => h) (by omega) 1 _ _ (by omega) (pl_sp a b)
      · exact pl_mono (fun h => h) (by omega) 1 _ _ (by omega) (pl_sp c d)
    | .line c nm' g ps, h =>
      obtain ⟨rfl, a1, a2, a3, a4, a5⟩ := h
      refine pl_tup.mpr ⟨by simp, fun x hx => ?_⟩
      simp only [List.mem_cons, List.not_mem_nil, or_false] at hx
      rcases hx with rfl | rfl | rfl | rfl
      · cases c
        · exact hst ok_row (by decide +kernel)
        · exact hst ok_col (by decide +kernel)
      · exact hst hok (by omega)
      · exact hint a1 (by omega)
      · exact mem a4 a5
    | .pile nm' ps, h =>
      obtain ⟨rfl, a3, a4, a5⟩ := h
      refine pl_tup.mpr ⟨by simp, fun x hx => ?_⟩
      simp only [List.mem_cons, List.not_mem_nil, or_false] at hx
      rcases hx with rfl | rfl | rfl
      · exact hst ok_pile (by decide +kernel)
      · exact hst hok (by omega)
      · exact mem (by omega) a5
    | .rim nm' a b c d p, h =>
      obtain ⟨rfl, h3, h4, h5, h6, h7⟩ := h
      refine pl_tup.mpr ⟨by simp, fun x hx => ?_⟩
      simp only [List.mem_cons, List.not_mem_nil, or_false] at hx
      rcases hx with rfl | rfl | rfl | rfl | rfl | rfl | rfl
      · exact hst ok_rim (by decide +kernel)
      · exact hst hok (by omega)
      · exact hint h3.1 (by omega)
      · exact hint h4.1 (by omega)
      · exact hint h5.1 (by omega)
      · exact hint h6.1 (by omega)
      · exact pl_mono (fun h => h) (by omega) (2 * n) _ _ (by omega) (made_pl n _ p h7 (strOk_chD hok (by decide)) (by rw [len_ch]; omega))

theorem nm_a : ("a" : Str).length = 1 := by decide +kernel
theorem nm_x : ("x" : Str).length = 1 := by decide +kernel

/-! how many places a made box has -/
def cB : Nat → Nat
  | 0 => 0
  | n + 1 => 15 + 4 * cB n
theorem cnt_one {k : Nat} {d : D} (h : ∀ xs, d ≠ .tuple xs) : cnt k d = 1 := by
  cases k <;> cases d <;> first | rfl | exact absurd rfl (h _)
theorem cnt_int {k : Nat} {i : Int} : cnt k (.int i) = 1 := cnt_one (by intro _ z; cases z)
theorem cnt_str {k : Nat} {i : Str} : cnt k (.str i) = 1 := cnt_one (by intro _ z; cases z)
theorem cnt_non {k : Nat} : cnt k .none = 1 := cnt_one (by intro _ z; cases z)
theorem cnt_tup {k : Nat} {xs : List D} : cnt (k + 1) (.tuple xs) = 1 + (xs.map (cnt k)).sum := rfl
theorem cnt_sp {k : Nat} (s : Spn) : cnt k (spD s) ≤ 6 := by
  cases k with
  | zero => show 1 ≤ 6; decide
  | succ k =>
    show 1 + ([PyData.int s.lo, .int s.wi, optD s.mo, .int s.gr, .int s.sh].map (cnt k)).sum ≤ 6
    have h' : cnt k (optD s.mo) = 1 := by
      cases s.mo with
      | none => exact cnt_non
      | some m => exact cnt_int
    simp [cnt_int, h']
theorem sum_le {α : Type} (f : α → Nat) (c : Nat) : ∀ (xs : List α), (∀ x ∈ xs, f x ≤ c) → (xs.map f).sum ≤ xs.length * c
  | [], _ => by simp
  | x :: xs, h => by
    have h1 := h x (by simp)
    have h2 := sum_le f c xs fun y hy => h y (by simp [hy])
    rw [List.map_cons, List.sum_cons, List.length_cons, Nat.add_mul]
    omega
theorem made_cnt : ∀ (n : Nat) (nm : Str) (b : Bx n) (k : Nat), Made n nm b → cnt k (bxD n b) ≤ cB n
  | 0, _, b, _, _ => nomatch b
  | n + 1, nm, b, 0, h => by
    have e : cnt 0 (bxD (n + 1) b) = 1 := by unfold cnt; rfl
    rw [e]
    show 1 ≤ 15 + 4 * cB n
    omega
  | n + 1, nm, b, k + 1, h => by
    have mem : ∀ {ps : List (Bx n)}, ps.length ≤ 4 → (∀ k p, ps[k]? = some p → Made n (nm ++ chS k) p) → cnt k (.tuple (ps.map (bxD n))) ≤ 1 + 4 * cB n := fun {ps} hl hp => by
      cases k with
      | zero => show 1 ≤ _; omega
      | succ k =>
        rw [cnt_tup]
        have h1 := sum_le (cnt k) (cB n) (ps.map (bxD n)) fun x hx => by
          obtain ⟨p, hm, rfl⟩ := List.mem_map.mp hx
          obtain ⟨j, hk⟩ := List.getElem?_of_mem hm
          exact made_cnt n _ p k (hp j p hk)
        rw [List.length_map] at h1
        have h2 : ps.length * cB n ≤ 4 * cB n := Nat.mul_le_mul_right _ hl
        omega
    match (b : BxF (Bx n)), h with
    | .leaf nm' w h', h =>
      have s1 := cnt_sp (k := k) w
      have s2 := cnt_sp (k := k) h'
      show 1 + ([PyData.str "leaf", .str nm', spD w, spD h'].map (cnt k)).sum ≤ 15 + 4 * cB n
      simp only [List.map_cons, List.map_nil, List.sum_cons, List.sum_nil, cnt_str, cnt_int]
      omega
    | .line c nm' g ps, h =>
      obtain ⟨_, _, _, _, h4, h5⟩ := h
      have := mem h4 h5
      show 1 + ([PyData.str (kindS c), .str nm', .int g, .tuple (ps.map (bxD n))].map (cnt k)).sum ≤ 15 + 4 * cB n
      simp only [List.map_cons, List.map_nil, List.sum_cons, List.sum_nil, cnt_str, cnt_int]
      omega
    | .pile nm' ps, h =>
      obtain ⟨_, _, h4, h5⟩ := h
      have := mem (by omega) h5
      show 1 + ([PyData.str "pile", .str nm', .tuple (ps.map (bxD n))].map (cnt k)).sum ≤ 15 + 4 * cB n
      simp only [List.map_cons, List.map_nil, List.sum_cons, List.sum_nil, cnt_str, cnt_int]
      omega
    | .rim nm' a b' c d p, h =>
      obtain ⟨_, _, _, _, _, h5⟩ := h
      have h6 := made_cnt n _ p k h5
      show 1 + ([PyData.str "rim", .str nm', .int a, .int b', .int c, .int d, bxD n p].map (cnt k)).sum ≤ 15 + 4 * cB n
      simp only [List.map_cons, List.map_nil, List.sum_cons, List.sum_nil, cnt_str, cnt_int]
      omega
theorem cB_le {n : Nat} (h : n ≤ 5) : cB n ≤ 100000 := by
  match n, h with
  | 0, _ => decide
  | 1, _ => decide
  | 2, _ => decide
  | 3, _ => decide
  | 4, _ => decide
  | 5, _ => decide

theorem cut_abcde : ∀ k : Fin 6, PyData.strOk (cutS "abcde" none (some ((k.val : Nat) : Int))) = true ∧ (cutS "abcde" none (some ((k.val : Nat) : Int))).length ≤ 5 := by decide +kernel
theorem cut_abcdef : ∀ k : Fin 7, PyData.strOk (cutS "abcdef" none (some ((k.val : Nat) : Int))) = true ∧ (cutS "abcdef" none (some ((k.val : Nat) : Int))).length ≤ 6 := by decide +kernel
theorem abcde_ex {k : Int} (h0 : 0 ≤ k) (h1 : k < 6) : ∃ z : Str, cutD (.str "abcde") none (some k) = some (.str z) ∧ PyData.strOk z = true ∧ z.length ≤ 5 := by
  obtain ⟨j, rfl⟩ : ∃ j : Nat, k = (j : Int) := ⟨k.toNat, by omega⟩
  have := cut_abcde ⟨j, by omega⟩
  have hs : sml ("abcde" : Str).length = true := by decide +kernel
  refine ⟨cutS "abcde" none (some (j : Int)), ?_, this.1, this.2⟩
  show (if sml ("abcde" : Str).length = true then some (PyData.str (cutS "abcde" none (some (j : Int)))) else none) = _
  rw [if_pos hs]
theorem abcdef_ex {k : Int} (h0 : 0 ≤ k) (h1 : k < 7) : ∃ z : Str, cutD (.str "abcdef") none (some k) = some (.str z) ∧ PyData.strOk z = true ∧ z.length ≤ 6 := by
  obtain ⟨j, rfl⟩ : ∃ j : Nat, k = (j : Int) := ⟨k.toNat, by omega⟩
  have := cut_abcdef ⟨j, by omega⟩
  have hs : sml ("abcdef" : Str).length = true := by decide +kernel
  refine ⟨cutS "abcdef" none (some (j : Int)), ?_, this.1, this.2⟩
  show (if sml ("abcdef" : Str).length = true then some (PyData.str (cutS "abcdef" none (some (j : Int)))) else none) = _
  rw [if_pos hs]
theorem ok_name {x : Str} (h : nameB (.str x) = true) : PyData.strOk x = true := by
  have h' : (decide (1 ≤ x.length ∧ x.length ≤ 4) && x.cps.toList.all lwB) = true := h
  rw [Bool.and_eq_true] at h'
  show x.cps.all (· < 0x110000) = true
  rw [Array.all_eq_true']
  intro c hc
  have := List.all_eq_true.mp h'.2 c (by simpa using hc)
  have := of_decide_eq_true this
  simp only [decide_eq_true_eq]
  omega
def lfD (x : Str) : D := .tuple [.str "leaf", .str x, .tuple [.int 0, .int 1, .int 2, .int 3, .int 4], .tuple [.int 0, .int 1, .none, .int 3, .int 4]]
theorem lf_pl {x : Str} {n : Nat} (h : PyData.strOk x = true) (hl : x.length ≤ 1000) : pl true 50 (n + 2) (lfD x) = true := by
  refine pl_tup.mpr ⟨by simp, fun y hy => ?_⟩
  simp only [List.mem_cons, List.not_mem_nil, or_false] at hy
  rcases hy with rfl | rfl | rfl | rfl
  · exact pl_str.mpr ⟨ok_leaf, by decide +kernel⟩
  · exact pl_str.mpr ⟨h, hl⟩
  · exact pl_mono (fun h => h) (Nat.le_refl _) 1 (n + 1) _ (by omega) (by decide +kernel)
  · exact pl_mono (fun h => h) (Nat.le_refl _) 1 (n + 1) _ (by omega) (by decide +kernel)
theorem pl_tupI {n : Nat} {xs : List D} (h : xs.length ≤ 50) (h2 : ∀ x ∈ xs, pl true 50 n x = true) : pl true 50 (n + 1) (.tuple xs) = true := pl_tup.mpr ⟨h, h2⟩
theorem pl_lstI {n : Nat} {xs : List D} (h : xs.length ≤ 50) (h2 : ∀ x ∈ xs, pl true 50 n x = true) : pl true 50 (n + 1) (.list xs) = true := pl_lst.mpr ⟨h, h2⟩
theorem all1 {P : D → Prop} {a : D} (h1 : P a) : ∀ x ∈ [a], P x := by
  intro x hx
  rw [List.mem_singleton.mp hx]; exact h1
theorem all3 {P : D → Prop} {a b c : D} (h1 : P a) (h2 : P b) (h3 : P c) : ∀ x ∈ [a, b, c], P x := by
  intro x hx
  simp only [List.mem_cons, List.not_mem_nil, or_false] at hx
  rcases hx with rfl | rfl | rfl <;> assumption
theorem all4 {P : D → Prop} {a b c d : D} (h1 : P a) (h2 : P b) (h3 : P c) (h4 : P d) : ∀ x ∈ [a, b, c, d], P x := by
  intro x hx
  simp only [List.mem_cons, List.not_mem_nil, or_false] at hx
  rcases hx with rfl | rfl | rfl | rfl <;> assumption
theorem sA {n : Nat} (x : Str) (h : PyData.strOk x = true) (h2 : x.length ≤ 1000) : pl true 50 n (.str x) = true := pl_str.mpr ⟨h, h2⟩
theorem once_eq (ns : List Int) : M_Lonce [.list (ns.map PyData.int)] = some (.bool true) := by
  obtain ⟨m, hm, m0, m1⟩ := mixed_ex ns 0 (by decide)
  obtain ⟨m', hm', m0', m1'⟩ := mixed_ex ns 1 (by decide)
  obtain ⟨m2, hm2, m20, m21⟩ := mixed_ex ns 2 (by decide)
  have z0 : ((0 : Nat) : Int) = 0 := rfl
  have z1 : ((1 : Nat) : Int) = 1 := rfl
  have z2 : ((2 : Nat) : Int) = 2 := rfl
  rw [z0] at hm
  rw [z1] at hm'
  rw [z2] at hm2
  have na := nm_a
  have oka : PyData.strOk "a" = true := by decide +kernel
  have okz : PyData.strOk "z" = true := by decide +kernel
  have lnz : ("z" : Str).length ≤ 1000 := by decide +kernel
  have lowa : lowS "a" = true := by decide +kernel
  -- the thing
  obtain ⟨dp, hdp⟩ : ∃ dp : Nat, m % 5 = (dp : Int) := ⟨(m % 5).toNat, by omega⟩
  obtain ⟨b, hb, mb⟩ := box_ex dp 11 (by omega) (m / 8) "a" (by omega) (by omega)
  have hdp' : (dp : Int) + 1 = 1 + m % 5 := by omega
  rw [hdp'] at hb
  have pb := made_pl _ _ _ mb oka (by omega)
  -- the known one
  obtain ⟨dq, hdq⟩ : ∃ dq : Nat, m % 4 = (dq : Int) := ⟨(m % 4).toNat, by omega⟩
  obtain ⟨c, hc, mc⟩ := box_ex dq 11 (by omega) (m / 8) "a" (by omega) (by omega)
  have hdq' : (dq : Int) + 1 = 1 + m % 4 := by omega
  rw [hdq'] at hc
  have sc := made_sh _ _ _ mc lowa (by omega) (by omega)
  have nk1 := Pnames_eq (dq + 1) 12 _ (by omega) (by omega) sc
  have nk2 := Lnames_eq (dq + 1) 12 _ (by omega) (by omega) sc
  have nk3 : neD (.tuple ((nmD (dq + 1) (bxD (dq + 1) c)).map PyData.str)) (.tuple ((nmD (dq + 1) (bxD (dq + 1) c)).map PyData.str)) = some (.bool false) := by
    refine ne_self (n := 1) (List.all_eq_true.mpr fun x hx => ?_)
    obtain ⟨y, hy, rfl⟩ := List.mem_map.mp hx
    exact ok_name ((nmD_ok _ _ sc).2 y hy)
  generalize (nmD (dq + 1) (bxD (dq + 1) c)).map PyData.str = NK at *
  generalize bxD (dq + 1) c = KN at *
  -- spoilt, or not
  obtain ⟨ds, hds, pds⟩ := spoilt_ex (L := 7) (by omega) _ (bxD (dp + 1) b) m' (m / 32 % 7) (by omega) pb (Nat.le_trans (made_cnt _ _ _ _ mb) (cB_le (by omega)))
  have pds' : pl true 50 20 ds = true := pl_mono (fun h => h) (by omega) _ 20 _ (by omega) pds
  have pb' : pl true 50 20 (bxD (dp + 1) b) = true := pl_mono (fun h => by cases h) (by omega) _ 20 _ (by omega) pb
  generalize bxD (dp + 1) b = BB at *
  -- the edge and one of others
  obtain ⟨ze, hze, okze, lze⟩ := abcdef_ex (k := 3 + m / 16384 % 3) (by omega) (by omega)
  have pe : pl true 50 20 (lfD ze) = true := lf_pl (n := 18) okze (by omega)
  have pe17 : pl true 50 17 (lfD ze) = true := lf_pl (n := 15) okze (by omega)
  have oth : ∀ x ∈ [PyData.tuple [.str "leaf", .str "a"], .tuple [.str "row", .str "a"], .tuple [.str "pile"], .tuple [], .tuple [.int 5, .str "a", .int 1, .tuple []], .tuple [.str "rim", .str "a", .int 1, .int 2, .int 3, .int 4],
      .list [.str "pile", .str "a", .tuple [lfD ze]], .tuple [.str "pile", .int 5, .tuple [lfD ze]], .tuple [.str "pile", .str "z", .list [lfD ze]], .tuple [.str "pile", .str "z", .tuple [.int 5]], .tuple [.str "leaf", .str "a", .tuple [.int 0, .int 1, .int 2, .int 3, .int 4]]], pl true 50 20 x = true := by
    intro x hx
    simp only [List.mem_cons, List.not_mem_nil, or_false] at hx
    have sp : pl true 50 19 (.str "pile") = true := sA _ ok_pile (by decide +kernel)
    have sa : pl true 50 19 (.str "a") = true := sA _ oka (by omega)
    have sz : pl true 50 19 (.str "z") = true := sA _ okz (by omega)
    rcases hx with rfl | rfl | rfl | rfl | rfl | rfl | rfl | rfl | rfl | rfl | rfl
    · decide +kernel
    · decide +kernel
    · decide +kernel
    · decide +kernel
    · decide +kernel
    · decide +kernel
    · exact pl_lstI (by simp) (all3 sp sa (pl_tupI (n := 18) (by simp) (all1 (lf_pl (n := 16) okze (by omega)))))
    · exact pl_tupI (by simp) (all3 sp (by decide +kernel) (pl_tupI (n := 18) (by simp) (all1 (lf_pl (n := 16) okze (by omega)))))
    · exact pl_tupI (by simp) (all3 sp sz (pl_lstI (n := 18) (by simp) (all1 (lf_pl (n := 16) okze (by omega)))))
    · decide +kernel
    · decide +kernel
  obtain ⟨dt, hdt, hat⟩ := atI_mem (r := m / 65536 % 11) (xs := [PyData.tuple [.str "leaf", .str "a"], .tuple [.str "row", .str "a"], .tuple [.str "pile"], .tuple [], .tuple [.int 5, .str "a", .int 1, .tuple []], .tuple [.str "rim", .str "a", .int 1, .int 2, .int 3, .int 4],
      .list [.str "pile", .str "a", .tuple [lfD ze]], .tuple [.str "pile", .int 5, .tuple [lfD ze]], .tuple [.str "pile", .str "z", .list [lfD ze]], .tuple [.str "pile", .str "z", .tuple [.int 5]], .tuple [.str "leaf", .str "a", .tuple [.int 0, .int 1, .int 2, .int 3, .int 4]]]) (by omega) (by show _ < ((11 : Nat) : Int); omega)
  have pdt := oth dt hdt
  clear oth hdt
  have key : ∀ d, pl true 50 20 d = true → M_is_box [d] = some (.bool (boxB d)) ∧ M_Lis_box [d] = some (.bool (boxB d)) ∧ neD (.bool (boxB d)) (.bool (boxB d)) = some (.bool false) := fun d h => ⟨Pisbox_eq (by decide) h, Lisbox_eq (by decide) (by decide) h, ne_self (n := 0) rfl⟩
  obtain ⟨ke1, ke2, ke3⟩ := key (lfD ze) pe
  obtain ⟨kt1, kt2, kt3⟩ := key dt pdt
  have elf : (PyData.tuple [.str "leaf", .str ze, .tuple [.int 0, .int 1, .int 2, .int 3, .int 4], .tuple [.int 0, .int 1, .none, .int 3, .int 4]]) = lfD ze := rfl
  have ixe : ixD (lfD ze) (.int 2) = some (.tuple [.int 0, .int 1, .int 2, .int 3, .int 4]) := rfl
  generalize lfD ze = LE at *
  generalize boxB LE = bLE at *
  generalize boxB dt = bdt at *
  have add1 : ∀ xs ys : List D, xs.length + ys.length ≤ 100 → addD (.list xs) (.list ys) = some (.list (xs ++ ys)) := fun xs ys h => add_l (by omega)
  have isb : ∀ x : Bool, isiD .bool (.bool x) = some (.bool true) := fun _ => rfl
  by_cases o1 : m / 64 % 5 = 1
  · -- one more around
    obtain ⟨b2, hb2, mb2⟩ := box_ex 1 11 (by omega) m2 "a" m20 (by omega)
    have pb2 : pl true 50 18 (bxD (1 + 1) b2) = true := pl_mono (fun h => by cases h) (by omega) _ 18 _ (by omega) (made_pl _ _ _ mb2 oka (by omega))
    have e2 : ((1 : Nat) : Int) + 1 = 2 := rfl
    rw [e2] at hb2
    generalize bxD (1 + 1) b2 = B2 at *
    obtain ⟨nm, hnm, pnm⟩ : ∃ z : D, atI [PyData.str "z", .str "a"] (m / 512 % 2) = some z ∧ pl true 50 19 z = true := by
      have : m / 512 % 2 = 0 ∨ m / 512 % 2 = 1 := by omega
      rcases this with q | q <;> rw [q]
      · exact ⟨_, rfl, sA _ okz (by omega)⟩
      · exact ⟨_, rfl, sA _ oka (by omega)⟩
    obtain ⟨mu, hmu, pmu⟩ : ∃ z : D, mulD (.tuple [B2]) (.int (1 + m / 1024 % 2)) = some z ∧ pl true 50 19 z = true := by
      have : m / 1024 % 2 = 0 ∨ m / 1024 % 2 = 1 := by omega
      rcases this with q | q <;> rw [q]
      · exact ⟨.tuple [B2], rfl, pl_tupI (n := 18) (by simp) (all1 pb2)⟩
      · refine ⟨.tuple [B2, B2], mul2_ok (by simp) (by simp), pl_tupI (n := 18) (by simp) ?_⟩
        intro x hx
        simp only [List.mem_cons, List.not_mem_nil, or_false, or_self] at hx
        rw [hx]; exact pb2
    have pt : pl true 50 20 (.tuple [.str "row", nm, .int 1, mu]) = true := pl_tupI (by simp) (all4 (sA _ ok_row (by decide +kernel)) pnm (by decide +kernel) pmu)
    obtain ⟨kx1, kx2, kx3⟩ := key _ pt
    have kx4 : eqD (.bool (boxB (.tuple [.str "row", nm, .int 1, mu]))) (.bool (boxB (.tuple [.str "row", nm, .int 1, mu]))) = some (.bool true) := DL.eq_self (n := 0) rfl
    generalize boxB (.tuple [.str "row", nm, .int 1, mu]) = bx at *
    by_cases hsp : 0 < m / 8 % 3
    · simp -implicitDefEqProofs [M_Lonce, D_Lonce, startE, hm, hm', hm2, fdiv_ok (b := 8), mod_ok (b := 5), mod_ok (b := 4), hb, hc, nk1, nk2, nk3, mod_ok (b := 3), hsp, fdiv_ok (b := 32), mod_ok (b := 7), hds, fdiv_ok (b := 64), o1, hb2, fdiv_ok (b := 512), mod_ok (b := 2), hnm, fdiv_ok (b := 1024), hmu, fdiv_ok (b := 16384), hze, elf, add1, ixe, fdiv_ok (b := 65536), mod_ok (b := 11), hat, ke1, ke2, ke3, kt1, kt2, kt3, kx1, kx2, kx4, isb]
    · simp -implicitDefEqProofs [M_Lonce, D_Lonce, startE, hm, hm', hm2, fdiv_ok (b := 8), mod_ok (b := 5), mod_ok (b := 4), hb, hc, nk1, nk2, nk3, mod_ok (b := 3), hsp, fdiv_ok (b := 32), mod_ok (b := 7), fdiv_ok (b := 64), o1, hb2, fdiv_ok (b := 512), mod_ok (b := 2), hnm, fdiv_ok (b := 1024), hmu, fdiv_ok (b := 16384), hze, elf, add1, ixe, fdiv_ok (b := 65536), mod_ok (b := 11), hat, ke1, ke2, ke3, kt1, kt2, kt3, kx1, kx2, kx4, isb]
  · by_cases o2 : m / 64 % 5 = 2
    · obtain ⟨d2, hd2⟩ : ∃ d2 : Nat, m / 512 % 4 = (d2 : Int) := ⟨(m / 512 % 4).toNat, by omega⟩
      obtain ⟨b2, hb2, mb2⟩ := box_ex d2 11 (by omega) m2 "a" m20 (by omega)
      have hd2' : (d2 : Int) + 1 = 1 + m / 512 % 4 := by omega
      rw [hd2'] at hb2
      have pb2 : pl true 50 18 (bxD (d2 + 1) b2) = true := pl_mono (fun h => by cases h) (by omega) _ 18 _ (by omega) (made_pl _ _ _ mb2 oka (by omega))
      generalize bxD (d2 + 1) b2 = B2 at *
      have pt : pl true 50 20 (.tuple [.str "pile", .str "z", .tuple [B2]]) = true := pl_tupI (by simp) (all3 (sA _ ok_pile (by decide +kernel)) (sA _ okz (by omega)) (pl_tupI (n := 18) (by simp) (all1 pb2)))
      obtain ⟨kx1, kx2, kx3⟩ := key _ pt
      have kx4 : eqD (.bool (boxB (.tuple [.str "pile", .str "z", .tuple [B2]]))) (.bool (boxB (.tuple [.str "pile", .str "z", .tuple [B2]]))) = some (.bool true) := DL.eq_self (n := 0) rfl
      generalize boxB (.tuple [.str "pile", .str "z", .tuple [B2]]) = bx at *
      by_cases hsp : 0 < m / 8 % 3
      · simp -implicitDefEqProofs [M_Lonce, D_Lonce, startE, hm, hm', hm2, fdiv_ok (b := 8), mod_ok (b := 5), mod_ok (b := 4), hb, hc, nk1, nk2, nk3, mod_ok (b := 3), hsp, fdiv_ok (b := 32), mod_ok (b := 7), hds, fdiv_ok (b := 64), o2, hb2, fdiv_ok (b := 512), mod_ok (b := 2), fdiv_ok (b := 1024), fdiv_ok (b := 16384), hze, elf, add1, ixe, fdiv_ok (b := 65536), mod_ok (b := 11), hat, ke1, ke2, ke3, kt1, kt2, kt3, kx1, kx2, kx4, isb]
      · simp -implicitDefEqProofs [M_Lonce, D_Lonce, startE, hm, hm', hm2, fdiv_ok (b := 8), mod_ok (b := 5), mod_ok (b := 4), hb, hc, nk1, nk2, nk3, mod_ok (b := 3), hsp, fdiv_ok (b := 32), mod_ok (b := 7), fdiv_ok (b := 64), o2, hb2, fdiv_ok (b := 512), mod_ok (b := 2), fdiv_ok (b := 1024), fdiv_ok (b := 16384), hze, elf, add1, ixe, fdiv_ok (b := 65536), mod_ok (b := 11), hat, ke1, ke2, ke3, kt1, kt2, kt3, kx1, kx2, kx4, isb]
    · by_cases o3 : m / 64 % 5 = 3
      · obtain ⟨zs, hzs, okzs, lzs⟩ := abcde_ex (k := m / 512 % 6) (by omega) (by omega)
        have it : itemsD (.str zs) = some (zs.cps.toList.map fun c => PyData.str ⟨#[c]⟩) := rfl
        have g : ∀ env : DEnv, env.length = 10 → lcGo (bNm 9) yesT C_Lonce_1 env (zs.cps.toList.map fun c => PyData.str ⟨#[c]⟩) = some (zs.cps.toList.map fun c => lfD ⟨#[c]⟩) := fun env he => by
          refine lcGo_map (fun c => PyData.str ⟨#[c]⟩) (fun c => lfD ⟨#[c]⟩) _ fun c hc => ⟨_, rfl, ?_⟩
          have h1 : 9 < env.length := by omega
          simp -implicitDefEqProofs [C_Lonce_1, h1, lfD]
        have hs' : sml zs.cps.size = true := sml_of (by have : zs.cps.size ≤ 5 := lzs; omega)
        have pls : pl true 50 19 (.tuple (zs.cps.toList.map fun c => lfD ⟨#[c]⟩)) = true := by
          refine pl_tupI (n := 18) (by simp; have : zs.cps.size ≤ 5 := lzs; omega) fun x hx => ?_
          obtain ⟨c, hc, rfl⟩ := List.mem_map.mp hx
          have h2 : zs.cps.all (· < 0x110000) = true := okzs
          have h3 := Array.all_eq_true'.mp h2 c (by simpa using hc)
          refine lf_pl (n := 16) ?_ (by show (1 : Nat) ≤ 1000; decide)
          show (#[c] : Array Nat).all (· < 0x110000) = true
          simpa using h3
        generalize (zs.cps.toList.map fun c => lfD ⟨#[c]⟩) = LS at *
        obtain ⟨th, hth, pt⟩ : ∃ z : D, atI [PyData.tuple [.str "pile", .str "z", .tuple LS], .tuple [.str "row", .str "z", .int 3, .tuple LS]] (m / 4096 % 2) = some z ∧ pl true 50 20 z = true := by
          have : m / 4096 % 2 = 0 ∨ m / 4096 % 2 = 1 := by omega
          rcases this with q | q <;> rw [q]
          · exact ⟨_, rfl, pl_tupI (by simp) (all3 (sA _ ok_pile (by decide +kernel)) (sA _ okz (by omega)) pls)⟩
          · exact ⟨_, rfl, pl_tupI (by simp) (all4 (sA _ ok_row (by decide +kernel)) (sA _ okz (by omega)) (by decide +kernel) pls)⟩
        obtain ⟨kx1, kx2, kx3⟩ := key _ pt
        have kx4 : eqD (.bool (boxB th)) (.bool (boxB th)) = some (.bool true) := DL.eq_self (n := 0) rfl
        generalize boxB th = bx at *
        by_cases hsp : 0 < m / 8 % 3
        · simp -implicitDefEqProofs [M_Lonce, D_Lonce, startE, hm, hm', hm2, fdiv_ok (b := 8), mod_ok (b := 5), mod_ok (b := 4), hb, hc, nk1, nk2, nk3, mod_ok (b := 3), hsp, fdiv_ok (b := 32), mod_ok (b := 7), hds, fdiv_ok (b := 64), o3, fdiv_ok (b := 512), mod_ok (b := 2), mod_ok (b := 6), fdiv_ok (b := 4096), hzs, it, g, hs', hth, fdiv_ok (b := 16384), hze, elf, add1, ixe, fdiv_ok (b := 65536), mod_ok (b := 11), hat, ke1, ke2, ke3, kt1, kt2, kt3, kx1, kx2, kx4, isb]
        · simp -implicitDefEqProofs [M_Lonce, D_Lonce, startE, hm, hm', hm2, fdiv_ok (b := 8), mod_ok (b := 5), mod_ok (b := 4), hb, hc, nk1, nk2, nk3, mod_ok (b := 3), hsp, fdiv_ok (b := 32), mod_ok (b := 7), fdiv_ok (b := 64), o3, fdiv_ok (b := 512), mod_ok (b := 2), mod_ok (b := 6), fdiv_ok (b := 4096), hzs, it, g, hs', hth, fdiv_ok (b := 16384), hze, elf, add1, ixe, fdiv_ok (b := 65536), mod_ok (b := 11), hat, ke1, ke2, ke3, kt1, kt2, kt3, kx1, kx2, kx4, isb]
      · by_cases hsp : 0 < m / 8 % 3
        · obtain ⟨kx1, kx2, kx3⟩ := key ds pds'
          have kx4 : eqD (.bool (boxB ds)) (.bool (boxB ds)) = some (.bool true) := DL.eq_self (n := 0) rfl
          generalize boxB ds = bx at *
          simp -implicitDefEqProofs [M_Lonce, D_Lonce, startE, hm, hm', hm2, fdiv_ok (b := 8), mod_ok (b := 5), mod_ok (b := 4), hb, hc, nk1, nk2, nk3, mod_ok (b := 3), hsp, fdiv_ok (b := 32), mod_ok (b := 7), hds, fdiv_ok (b := 64), o1, o2, o3, fdiv_ok (b := 16384), hze, elf, add1, ixe, fdiv_ok (b := 65536), mod_ok (b := 11), hat, ke1, ke2, ke3, kt1, kt2, kt3, kx1, kx2, kx4, isb]
        · obtain ⟨kx1, kx2, kx3⟩ := key BB pb'
          have kx4 : eqD (.bool (boxB BB)) (.bool (boxB BB)) = some (.bool true) := DL.eq_self (n := 0) rfl
          generalize boxB BB = bx at *
          simp -implicitDefEqProofs [M_Lonce, D_Lonce, startE, hm, hm', hm2, fdiv_ok (b := 8), mod_ok (b := 5), mod_ok (b := 4), hb, hc, nk1, nk2, nk3, mod_ok (b := 3), hsp, fdiv_ok (b := 32), mod_ok (b := 7), fdiv_ok (b := 64), o1, o2, o3, fdiv_ok (b := 16384), hze, elf, add1, ixe, fdiv_ok (b := 65536), mod_ok (b := 11), hat, ke1, ke2, ke3, kt1, kt2, kt3, kx1, kx2, kx4, isb]

theorem turn_eq (ns : List Int) (hl : ns.length ≤ 63) (i : Nat) : B_law_1 [some (.sh (.list (ns.map PyData.int))), some (.sh (.int (i : Int))), none] = some (.nx [some (.sh (.list (ns.map PyData.int))), some (.sh (.int (i : Int))), none]) := by
  have it : itemsD (.list (ns.map PyData.int)) = some (ns.map PyData.int) := rfl
  have g : ∀ env : DEnv, env = [some (.sh (.list (ns.map PyData.int))), some (.sh (.int (i : Int))), none] → lcGo (bNm 2) yesT C_law_1 env (ns.map PyData.int) = some (ns.map fun c => PyData.int (c + 104729 * (i : Int))) := fun env he => by
    subst he
    refine lcGo_map PyData.int (fun c => PyData.int (c + 104729 * (i : Int))) ns fun c hc => ⟨_, rfl, ?_⟩
    simp -implicitDefEqProofs [C_law_1, mul_l (a := 104729)]
  have e : (ns.map fun c => PyData.int (c + 104729 * (i : Int))) ++ [PyData.int (i : Int)] = ((ns.map fun c => c + 104729 * (i : Int)) ++ [(i : Int)]).map PyData.int := by simp
  have a : addD (.list (ns.map fun c => PyData.int (c + 104729 * (i : Int)))) (.list [.int (i : Int)]) = some (.list (((ns.map fun c => c + 104729 * (i : Int)) ++ [(i : Int)]).map PyData.int)) := by
    rw [← e]
    exact add_l (by simp; omega)
  have o := once_eq ((ns.map fun c => c + 104729 * (i : Int)) ++ [(i : Int)])
  have hs : sml (ns.map PyData.int).length = true := sml_of (by simp; omega)
  generalize ((ns.map fun c => c + 104729 * (i : Int)) ++ [(i : Int)]).map PyData.int = S2 at *
  generalize (ns.map fun c => PyData.int (c + 104729 * (i : Int))) = S1 at *
  generalize ns.map PyData.int = S0 at *
  have g' := g _ rfl
  simp -implicitDefEqProofs [B_law_1, it, hs, g', a, o]
theorem hM (ns : List Int) (hl : ns.length ≤ 63) : M_law [.list (ns.map PyData.int)] = some (.bool true) := by
  have t := turn_eq ns hl
  have b : ∀ (i : Nat) (x : Option Sl), (bNm 1) (.int (i : Int)) [some (.sh (.list (ns.map PyData.int))), x, none] = some [some (.sh (.list (ns.map PyData.int))), some (.sh (.int (i : Int))), none] := fun _ _ => rfl
  obtain ⟨e2, h1, x, rfl⟩ := forD_range (b := bNm 1) (body := B_law_1) (fun _ e => ∃ x, e = [some (.sh (.list (ns.map PyData.int))), x, none]) 8 [some (.sh (.list (ns.map PyData.int))), none, none] ⟨none, rfl⟩ (fun i e hi ⟨x, he⟩ => by
    subst he
    exact ⟨_, _, b i x, .inl (t i), ⟨_, rfl⟩⟩)
  have r8 : rng1D (.int 8) = some ((List.range 8).map fun i : Nat => PyData.int (i : Int)) := rng1_ok (n := 8) (by decide)
  generalize (List.range 8).map (fun i : Nat => PyData.int (i : Int)) = RR at *
  generalize ns.map PyData.int = S0 at *
  simp -implicitDefEqProofs [M_law, D_law, startE, r8, h1]

end W

theorem PySem.Challenge.cw_growbox_k08_lists_anywhere_holds : PySem.Challenge.rw_growbox_k08_lists_anywhere.Holds :=
  W.finish W.hM

