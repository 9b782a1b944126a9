import PyProof.Rows.All
import Wide.All
import OpenK.AllK
import Wide.FinOn
import KE.KStateDown
import Lean
import HandS.ForMost
import HandS.Evl
import HandS.Flow
import HandS.IsInst
import HandS.Wide
import HandS.TupMul
import HandS.TupAny
import HandS.More
import HandS.Conv
import HandS.Words
import HandS.WordsExc
import HandS.Defaults
import HandS.Ends
import HandS.Head0
import HandS.Head1
import HandS.Head2
import HandS.HeadEnd
import HandS.HeadHook1
import HandS.HeadHook2
import PyProof.StrBlock2
import HandS.Strs
import KE.GoesEnum
import KE.GoesZip
import KE.GoesMore
import HandS.HeadHook3
import HandS.Text
import KE.KSortTupG
import HandS.Sort
import HandS.Exc
import KE.GoesRaise
import HandS.ExcOwn
import HandS.TryOnly
import HandS.Text
import HandS.Dict
import KE.IntTextLaws
import HandS.Lambda
import PySem.Challenge.RW_growbox_k05_whole_texts_of_parts
set_option Elab.async false
set_option linter.all false
set_option maxRecDepth 100000
set_option maxHeartbeats 0

/-! DLay1: the value layer, its core: frozen heap, environments, judgements. -/
namespace DL
open PySem PySem.Spec PyProof.Rows L2 Evl

abbrev D := PyData

/-! ### data: as the library's, and dicts whose keys are ints and texts -/
def keyD : Key → D
  | .inl i => .int i
  | .inr x => .str x
mutual
inductive Dp (K : PySem.W.Frag) (H : Hp) : V → PyData → Prop
  | non : Dp K H .non .none
  | bl (b : Bool) : Dp K H (.bl b) (.bool b)
  | int (i : Int) : Dp K H (.int i) (.int i)
  | str (x : Str) : Dp K H (.str x) (.str x)
  | lst {a : Addr} {xs : List V} {ds : List PyData} : SqL K H a xs → DpAll K H xs ds → Dp K H (.ref a) (.list ds)
  | tup {a : Addr} {xs : List V} {ds : List PyData} : SqT K H a xs → DpAll K H xs ds → Dp K H (.ref a) (.tuple ds)
  | dic {a : Addr} {kvs : List (Key × V)} {ds : List (PyData × PyData)} : Rd H a (.dK kvs) → DpKv K H kvs ds → Dp K H (.ref a) (.dict ds)
inductive DpAll (K : PySem.W.Frag) (H : Hp) : List V → List PyData → Prop
  | nil : DpAll K H [] []
  | cons {v : V} {vs : List V} {d : PyData} {ds : List PyData} : Dp K H v d → DpAll K H vs ds → DpAll K H (v :: vs) (d :: ds)
inductive DpKv (K : PySem.W.Frag) (H : Hp) : List (Key × V) → List (PyData × PyData) → Prop
  | nil : DpKv K H [] []
  | cons {k : Key} {v : V} {kvs : List (Key × V)} {d : PyData} {ds : List (PyData × PyData)} : Dp K H v d → DpKv K H kvs ds → DpKv K H ((k, v) :: kvs) ((keyD k, d) :: ds)
end
mutual
theorem dp_l2 {K : PySem.W.Frag} {H : Hp} : ∀ {v : V} {d : D}, Dp K H v d → d.canLay0 = true → L2.Dp K H v d
  | _, _, .non, _ => .non
  | _, _, .bl b, _ => .bl b
  | _, _, .int i, _ => .int i
  | _, _, .str s, _ => .str s
  | _, _, .lst h hs, q => .lst h (dpa_l2 hs (by simpa [PyData.canLay0] using q))
  | _, _, .tup h hs, q => .tup h (dpa_l2 hs (by simpa [PyData.canLay0] using q))
  | _, _, .dic h hs, q => by simp [PyData.canLay0] at q
theorem dpa_l2 {K : PySem.W.Frag} {H : Hp} : ∀ {vs : List V} {ds : List D}, DpAll K H vs ds → PyData.canLayAll0 ds = true → L2.DpAll K H vs ds
  | _, _, .nil, _ => .nil
  | _, _, .cons h hs, q => by
    simp only [PyData.canLayAll0, Bool.and_eq_true] at q
    exact .cons (dp_l2 h q.1) (dpa_l2 hs q.2)
end
theorem dp_sh {K : PySem.W.Frag} {H : Hp} {v : V} {d : D} (h : Dp K H v d) (q : SeqAt.shaped d = true) : L2.Dp K H v d := dp_l2 h (SeqAt.canLay_of_shaped q)
/-! ### data under growing heaps -/
theorem rd_mono {F F' : Hp} (x : Ex F F') {a : Addr} {u : HO} (h : Rd F a u) : Rd F' a u := ex_rd x h
mutual
theorem dp_mono {K : PySem.W.Frag} {F F' : Hp} (x : Ex F F') : ∀ {v : V} {d : D}, Dp K F v d → Dp K F' v d
  | _, _, .non => .non
  | _, _, .bl b => .bl b
  | _, _, .int i => .int i
  | _, _, .str s => .str s
  | _, _, .lst h hs => .lst (ex_l x h) (dpa_mono x hs)
  | _, _, .tup h hs => .tup (ex_t x h) (dpa_mono x hs)
  | _, _, .dic h hs => .dic (rd_mono x h) (dpk_mono x hs)
theorem dpa_mono {K : PySem.W.Frag} {F F' : Hp} (x : Ex F F') : ∀ {vs : List V} {ds : List D}, DpAll K F vs ds → DpAll K F' vs ds
  | _, _, .nil => .nil
  | _, _, .cons h hs => .cons (dp_mono x h) (dpa_mono x hs)
theorem dpk_mono {K : PySem.W.Frag} {F F' : Hp} (x : Ex F F') : ∀ {vs : List (Key × V)} {ds : List (D × D)}, DpKv K F vs ds → DpKv K F' vs ds
  | _, _, .nil => .nil
  | _, _, .cons h hs => .cons (dp_mono x h) (dpk_mono x hs)
end

section
variable {K : PySem.W.Frag} {F : Hp}
theorem dpa_len : ∀ {vs : List V} {ds : List D}, DpAll K F vs ds → vs.length = ds.length
  | _, _, .nil => rfl
  | _, _, .cons _ hs => congrArg (· + 1) (dpa_len hs)
theorem dpa_get : ∀ {vs : List V} {ds : List D} {i : Nat} {d : D}, DpAll K F vs ds → ds[i]? = some d → ∃ v, vs[i]? = some v ∧ Dp K F v d
  | _, _, _, _, .nil, e => by simp at e
  | _, _, 0, _, .cons h _, e => by simp at e; subst e; exact ⟨_, rfl, h⟩
  | _, _, i + 1, d, .cons _ hs, e => by
    obtain ⟨v, e1, h⟩ := dpa_get (i := i) (d := d) hs (by simpa using e)
    exact ⟨v, by simpa using e1, h⟩
theorem dpa_getV : ∀ {vs : List V} {ds : List D} {i : Nat} {v : V}, DpAll K F vs ds → vs[i]? = some v → ∃ d, ds[i]? = some d ∧ Dp K F v d
  | _, _, _, _, .nil, e => by simp at e
  | _, _, 0, _, .cons h _, e => by simp at e; subst e; exact ⟨_, rfl, h⟩
  | _, _, i + 1, v, .cons _ hs, e => by
    obtain ⟨d, e1, h⟩ := dpa_getV (i := i) (v := v) hs (by simpa using e)
    exact ⟨d, by simpa using e1, h⟩
theorem dpa_append : ∀ {vs us : List V} {ds es : List D}, DpAll K F vs ds → DpAll K F us es → DpAll K F (vs ++ us) (ds ++ es)
  | _, _, _, _, .nil, s => s
  | _, _, _, _, .cons h hs, s => .cons h (dpa_append hs s)
theorem dpa_take : ∀ {vs : List V} {ds : List D} (n : Nat), DpAll K F vs ds → DpAll K F (vs.take n) (ds.take n)
  | _, _, 0, _ => .nil
  | _, _, _ + 1, .nil => .nil
  | _, _, n + 1, .cons h hs => .cons h (dpa_take n hs)
theorem dpa_drop : ∀ {vs : List V} {ds : List D} (n : Nat), DpAll K F vs ds → DpAll K F (vs.drop n) (ds.drop n)
  | _, _, 0, h => h
  | _, _, _ + 1, .nil => .nil
  | _, _, n + 1, .cons _ hs => dpa_drop n hs
theorem dpa_set {v : V} {d : D} (h : Dp K F v d) : ∀ {vs : List V} {ds : List D} (n : Nat), DpAll K F vs ds → DpAll K F (vs.set n v) (ds.set n d)
  | _, _, _, .nil => .nil
  | _, _, 0, .cons _ hs => .cons h hs
  | _, _, n + 1, .cons q hs => .cons q (dpa_set h n hs)
theorem dpa_ints : ∀ (ns : List Int), DpAll K F (ns.map V.int) (ns.map PyData.int)
  | [] => .nil
  | n :: ns => .cons (.int n) (dpa_ints ns)
theorem dp_int {v : V} {i : Int} (h : Dp K F v (.int i)) : v = .int i := by cases h; rfl
theorem dp_bl {v : V} {b : Bool} (h : Dp K F v (.bool b)) : v = .bl b := by cases h; rfl
theorem dp_str {v : V} {x : Str} (h : Dp K F v (.str x)) : v = .str x := by cases h; rfl
theorem dp_non {v : V} (h : Dp K F v .none) : v = .non := by cases h; rfl
theorem dp_tup {v : V} {ds : List D} (h : Dp K F v (.tuple ds)) : ∃ a vs, v = .ref a ∧ SqT K F a vs ∧ DpAll K F vs ds := by
  cases h with
  | tup h hs => exact ⟨_, _, rfl, h, hs⟩
theorem dp_lst {v : V} {ds : List D} (h : Dp K F v (.list ds)) : ∃ a vs, v = .ref a ∧ SqL K F a vs ∧ DpAll K F vs ds := by
  cases h with
  | lst h hs => exact ⟨_, _, rfl, h, hs⟩
theorem dpa_map_int : ∀ {vs : List V} {ns : List Int}, DpAll K F vs (ns.map PyData.int) → vs = ns.map V.int
  | _, [], .nil => rfl
  | _, _ :: _, .cons h hs => by rw [dp_int h, dpa_map_int hs]; rfl
theorem dpa_map_bl : ∀ {vs : List V} {ns : List Bool}, DpAll K F vs (ns.map PyData.bool) → vs = ns.map V.bl
  | _, [], .nil => rfl
  | _, _ :: _, .cons h hs => by rw [dp_bl h, dpa_map_bl hs]; rfl
theorem dpa_map_str : ∀ {vs : List V} {ns : List Str}, DpAll K F vs (ns.map PyData.str) → vs = ns.map V.str
  | _, [], .nil => rfl
  | _, _ :: _, .cons h hs => by rw [dp_str h, dpa_map_str hs]; rfl
end

/-! ### how heaps grow: H tracked, F frozen within H; tables of code objects may grow -/
/-- the name of the lambda that a law makes: none, unless its walk says so -/
def lamQ : Str := ""
def NTb (o : HO) : Prop := ∀ ps, o ≠ .tbl ps
def NT (F : Hp) : Prop := ∀ a ps, F a ≠ some (.tbl ps)
structure ExT (H H' : Hp) : Prop where
  keep : ∀ a o, H a = some o → NTb o → H' a = some o
  dom : ∀ a, H' a = none → H a = none
  tab : ∀ P, LamX.TabS H P lamQ → LamX.TabS H' P lamQ
theorem ExT.of {H H' : Hp} (x : Ex H H') : ExT H H' := ⟨fun a o e _ => x a o e, fun a e => fresh_back x e, fun P t => t.ext x⟩
theorem ExT.refl (H : Hp) : ExT H H := .of (Ex.refl H)
theorem ExT.trans {H H1 H2 : Hp} (a : ExT H H1) (b : ExT H1 H2) : ExT H H2 := ⟨fun x o e n => b.keep x o (a.keep x o e n) n, fun x e => a.dom x (b.dom x e), fun P t => b.tab P (a.tab P t)⟩
theorem ext_rd {H H' : Hp} {a : Addr} {u : HO} (x : ExT H H') (h : Rd H a u) (n : NTb u := by intro _ z; cases z) : Rd H' a u := by
  rcases h with h | ⟨o, h⟩
  · exact .inl (x.keep _ _ h n)
  · exact .inr ⟨o, x.keep _ _ h (by intro _ z; cases z)⟩
theorem ext_l {K : PySem.W.Frag} {H H' : Hp} {a : Addr} {xs : List V} (x : ExT H H') (h : SqL K H a xs) : SqL K H' a xs := by
  rcases h with h | h
  · exact .inl (ext_rd x h)
  · exact .inr h
theorem ext_t {K : PySem.W.Frag} {H H' : Hp} {a : Addr} {xs : List V} (x : ExT H H') (h : SqT K H a xs) : SqT K H' a xs := by
  rcases h with h | h
  · exact .inl (ext_rd x h)
  · exact .inr h
structure Gr (F H F' H' : Hp) : Prop where
  hx : ExT H H'
  ff : Ex F F'
  fh : Ex F' H'
  nf : ∀ a o, H a = some o → F' a = F a
  nt : NT F → NT F'
theorem Gr.hh {F H F' H' : Hp} (g : Gr F H F' H') (a : Addr) (o : HO) (h : H a = some o) (n : NTb o := by intro _ z; cases z) : H' a = some o := g.hx.keep a o h n
theorem Gr.fb {F H F' H' : Hp} (g : Gr F H F' H') {a : Addr} (h : H' a = none) : H a = none := g.hx.dom a h
theorem Gr.refl {F H : Hp} (h : Ex F H) : Gr F H F H := ⟨ExT.refl _, Ex.refl _, h, fun _ _ _ => rfl, id⟩
theorem Gr.trans {F H F1 H1 F2 H2 : Hp} (a : Gr F H F1 H1) (b : Gr F1 H1 F2 H2) : Gr F H F2 H2 :=
  ⟨a.hx.trans b.hx, a.ff.trans b.ff, b.fh, fun x o e => by
    cases h : H1 x with
    | none => rw [a.hx.dom x h] at e; cases e
    | some o' => exact (b.nf x o' h).trans (a.nf x o e), fun n => b.nt (a.nt n)⟩
theorem nt_upd {F : Hp} {p : Addr} {o : HO} (n : NT F) (h : NTb o) : NT (upd F p o) := fun a ps e => by
  by_cases q : a = p
  · subst q; rw [upd_same] at e; cases e; exact h _ rfl
  · rw [upd_ne q] at e; exact n a ps e
/-- a new object, frozen at once -/
theorem Gr.new {F H : Hp} (h : Ex F H) {p : Addr} {o : HO} (hp : H p = none) (n : NTb o := by intro _ z; cases z) : Gr F H (upd F p o) (upd H p o) :=
  ⟨.of (Ex.new hp), Ex.new (fresh_back h hp), fun a u e => by
    by_cases q : a = p
    · subst q; rw [upd_same] at e ⊢; exact e
    · rw [upd_ne q] at e ⊢; exact h a u e, fun a u e => by rw [upd_ne (ne_of_none e hp)], fun m => nt_upd m n⟩
/-- a new object, not frozen -/
theorem Gr.loose {F H : Hp} (h : Ex F H) {p : Addr} {o : HO} (hp : H p = none) : Gr F H F (upd H p o) :=
  ⟨.of (Ex.new hp), Ex.refl _, fun a u e => by rw [upd_ne (ne_of_none (h a u e) hp)]; exact h a u e, fun _ _ _ => rfl, id⟩
/-- freezing what was new at H -/
theorem Gr.frz {F H F' H' : Hp} (g : Gr F H F' H') {p : Addr} {o : HO} (hp : H p = none) (hf : F' p = none) (ho : H' p = some o) (n : NTb o := by intro _ z; cases z) : Gr F H (upd F' p o) H' :=
  ⟨g.hx, g.ff.trans (Ex.new hf), fun a u e => by
    by_cases q : a = p
    · subst q; rw [upd_same] at e; rw [← e]; exact ho
    · rw [upd_ne q] at e; exact g.fh a u e, fun a u e => by rw [upd_ne (ne_of_none e hp)]; exact g.nf a u e, fun m => nt_upd (g.nt m) n⟩
/-- objects that the tables do not speak of -/
def NEx (o : HO) : Prop := NTb o ∧ ∀ φ, o ≠ .ext φ
theorem tabS_upd {H : Hp} {p P : Addr} {q : Str} {u o : HO} (t : LamX.TabS H P q) (hu : H p = some u) (nu : NEx u) : LamX.TabS (upd H p o) P q := by
  obtain ⟨ps, h1, h2, h3⟩ := t
  have nP : P ≠ p := fun z => by rw [z, hu] at h1; cases h1; exact nu.1 _ rfl
  refine ⟨ps, by rw [upd_ne nP]; exact h1, h2, fun pos cv hc => ?_⟩
  obtain ⟨c, e1, e2⟩ := h3 pos cv hc
  have nc : c ≠ p := fun z => by rw [z, hu] at e2; cases e2; exact nu.2 _ rfl
  exact ⟨c, e1, by rw [upd_ne nc]; exact e2⟩
/-- an unfrozen object changes -/
theorem Gr.mut {F H F' H' : Hp} (g : Gr F H F' H') {p : Addr} {o u : HO} (hp : H p = none) (hf : F' p = none) (hu : H' p = some u) (nu : NEx u := by exact ⟨(by intro _ z; cases z), (by intro _ z; cases z)⟩) : Gr F H F' (upd H' p o) :=
  ⟨⟨fun a v e n => by rw [upd_ne (ne_of_none e hp)]; exact g.hx.keep a v e n, fun a e => g.hx.dom a (by
      by_cases q : a = p
      · subst q; rw [upd_same] at e; cases e
      · rw [upd_ne q] at e; exact e), fun P t => tabS_upd (g.hx.tab P t) hu nu⟩, g.ff, fun a u e => by rw [upd_ne (ne_of_none e hf)]; exact g.fh a u e, g.nf, g.nt⟩

/-- all but the tables -/
def ntH (H : Hp) : Hp := fun a => match H a with
  | some (.tbl _) => none
  | o => o
theorem ntH_some {H : Hp} {a : Addr} {o : HO} (h : H a = some o) (n : NTb o := by intro _ z; cases z) : ntH H a = some o := by
  unfold ntH
  rw [h]
  cases o <;> first | rfl | exact absurd rfl (n _)
theorem ntH_ex (H : Hp) : Ex (ntH H) H := fun a o e => by
  unfold ntH at e
  split at e
  · cases e
  · exact e
theorem ntH_nt (H : Hp) : NT (ntH H) := fun a ps e => by
  unfold ntH at e
  split at e
  · cases e
  · rename_i h
    exact h _ e
theorem ntH_sql {K : PySem.W.Frag} {H : Hp} {a : Addr} {xs : List V} (h : SqL K H a xs) : SqL K (ntH H) a xs := by
  rcases h with (h | ⟨o, h⟩) | h
  · exact .inl (.inl (ntH_some h))
  · exact .inl (.inr ⟨o, ntH_some h⟩)
  · exact .inr h
/-! ### a reader -/
/-- a reader's words, and where it stands, if that is told -/
structure LamT where
  ws : List D
  r : Option Addr
abbrev rdC (K : PySem.W.Frag) : Addr := He.ga K "Reader"
/-- at r a reader stands, at its word n; it is nobody else's -/
def SlAt (K : PySem.W.Frag) (B F H : Hp) (r : Addr) (L : LamT) (n : Int) : Prop := B r = none ∧ F r = none ∧ (∀ a, L.r = some a → a = r) ∧ ∃ dx wl, H r = some (.ins (rdC K) dx [(("words" : Str), .ref wl), (("at" : Str), .int n)]) ∧ Dp K F (.ref wl) (.list L.ws)
theorem SlAt.grow {K : PySem.W.Frag} {B F H F' H' : Hp} {f : Addr} {L : LamT} {n : Int} (g : Gr F H F' H') (h : SlAt K B F H f L n) : SlAt K B F' H' f L n := by
  obtain ⟨h0, h1, hz, dx, wl, h2, h3⟩ := h
  exact ⟨h0, (g.nf _ _ h2).trans h1, hz, dx, wl, g.hx.keep _ _ h2 (by intro _ z; cases z), dp_mono g.ff h3⟩
theorem SlAt.upd {K : PySem.W.Frag} {B F H : Hp} {f a : Addr} {L : LamT} {n : Int} {u o : HO} (h : SlAt K B F H f L n) (hu : H a = some u) (nu : ∀ C dx fs, u ≠ .ins C dx fs := by intro _ _ _ z; cases z) : SlAt K B F (L2.upd H a o) f L n := by
  obtain ⟨h0, h1, hz, dx, wl, h2, h3⟩ := h
  have ne : f ≠ a := fun z => by rw [z, hu] at h2; cases h2; exact nu _ _ _ rfl
  exact ⟨h0, h1, hz, dx, wl, by rw [upd_ne ne]; exact h2, h3⟩
theorem SlAt.updF {K : PySem.W.Frag} {B F H : Hp} {f a : Addr} {L : LamT} {n : Int} {u o : HO} (h : SlAt K B F H f L n) (hu : H a = some u) (fa : F a = none) (nu : ∀ C dx fs, u ≠ .ins C dx fs := by intro _ _ _ z; cases z) : SlAt K B (L2.upd F a o) H f L n := by
  obtain ⟨h0, h1, hz, dx, wl, h2, h3⟩ := h
  have ne : f ≠ a := fun z => by rw [z, hu] at h2; cases h2; exact nu _ _ _ rfl
  exact ⟨h0, by rw [upd_ne ne]; exact h1, hz, dx, wl, h2, dp_mono (Ex.new fa) h3⟩
-- END OF THE SLOTS' WORDS

/-- tables that are known of K's functions: none, unless a law's walk says so -/
def tabR (_ : PySem.W.Frag) (_ : Addr) : Prop := False
def TbK (K : PySem.W.Frag) (H : Hp) : Prop := ∀ P, tabR K P → LamX.TabS H P lamQ
theorem TbK.grow {K : PySem.W.Frag} {H H' : Hp} (t : TbK K H) (x : ExT H H') : TbK K H' := fun P r => x.tab P (t P r)
theorem TbK.upd {K : PySem.W.Frag} {H : Hp} {a : Addr} {u o : HO} (t : TbK K H) (hu : H a = some u) (nu : NEx u := by exact ⟨(by intro _ z; cases z), (by intro _ z; cases z)⟩) : TbK K (L2.upd H a o) := fun P r => tabS_upd (t P r) hu nu
/-! ### environments -/
/-- a slot: frozen data, or a list of its own -/
inductive Sl where
  | sh (d : D)
  | ow (xs : List D)
  | od (ds : List (D × D))
  | fn (L : LamT) (n : Int)
abbrev DEnv := List (Option Sl)

structure Ok (K : PySem.W.Frag) (B F0 F : Hp) (σ : L2.St) (H : Hp) (e : DEnv) : Prop where
  gr : Gr F0 B F H
  sh : ∀ (i : Nat) d, e[i]? = some (some (.sh d)) → ∃ v, σ[i]? = some (some v) ∧ Dp K F v d
  ow : ∀ (i : Nat) xs, e[i]? = some (some (.ow xs)) → ∃ a vs, σ[i]? = some (some (.ref a)) ∧ H a = some (.lst vs) ∧ B a = none ∧ F a = none ∧ DpAll K F vs xs
  inj : ∀ (i j : Nat) xs ys a, e[i]? = some (some (.ow xs)) → e[j]? = some (some (.ow ys)) → σ[i]? = some (some (.ref a)) → σ[j]? = some (some (.ref a)) → i = j
  od : ∀ (i : Nat) ds, e[i]? = some (some (.od ds)) → ∃ a kvs, σ[i]? = some (some (.ref a)) ∧ H a = some (.dK kvs) ∧ B a = none ∧ F a = none ∧ DpKv K F kvs ds
  ijd : ∀ (i j : Nat) ds es a, e[i]? = some (some (.od ds)) → e[j]? = some (some (.od es)) → σ[i]? = some (some (.ref a)) → σ[j]? = some (some (.ref a)) → i = j
  fn : ∀ (i : Nat) L n, e[i]? = some (some (.fn L n)) → ∃ f, σ[i]? = some (some (.ref f)) ∧ SlAt K B F H f L n
  nt : NT F
  tb : TbK K H
  len : e.length = σ.length

section
variable {K : PySem.W.Frag} {B F0 F F' : Hp} {σ : L2.St} {H H' : Hp} {e : DEnv}
theorem Ok.fh (o : Ok K B F0 F σ H e) : Ex F H := o.gr.fh
theorem Ok.grow (o : Ok K B F0 F σ H e) (g : Gr F H F' H') : Ok K B F0 F' σ H' e where
  gr := o.gr.trans g
  sh := fun i d h => let ⟨v, h1, h2⟩ := o.sh i d h; ⟨v, h1, dp_mono g.ff h2⟩
  ow := fun i xs h => let ⟨a, vs, h1, h2, h3, h4, h5⟩ := o.ow i xs h; ⟨a, vs, h1, g.hh _ _ h2, h3, (g.nf _ _ h2).trans h4, dpa_mono g.ff h5⟩
  inj := o.inj
  od := fun i xs h => let ⟨a, vs, h1, h2, h3, h4, h5⟩ := o.od i xs h; ⟨a, vs, h1, g.hh _ _ h2, h3, (g.nf _ _ h2).trans h4, dpk_mono g.ff h5⟩
  ijd := o.ijd
  fn := fun i L n h => let ⟨f, h1, h2⟩ := o.fn i L n h; ⟨f, h1, h2.grow g⟩
  nt := g.nt o.nt
  tb := o.tb.grow g.hx
  len := o.len
/-- a slot gets frozen data -/
theorem Ok.set {i : Nat} {v : V} {d : D} (o : Ok K B F0 F σ H e) (h : Dp K F v d) : Ok K B F0 F (σ.set i (some v)) H (e.set i (some (.sh d))) where
  gr := o.gr
  sh := fun j d' q => by
    by_cases hj : i = j
    · subst hj
      have hl : i < e.length := by
        have := (List.getElem?_eq_some_iff.mp q).1
        simpa using this
      rw [List.getElem?_set_self hl] at q
      cases q
      exact ⟨v, by rw [List.getElem?_set_self (by rw [← o.len]; exact hl)], h⟩
    · rw [List.getElem?_set_ne hj] at q ⊢
      exact o.sh j d' q
  ow := fun j xs q => by
    by_cases hj : i = j
    · subst hj
      have hl : i < e.length := by
        have := (List.getElem?_eq_some_iff.mp q).1
        simpa using this
      rw [List.getElem?_set_self hl] at q
      cases q
    · rw [List.getElem?_set_ne hj] at q ⊢
      exact o.ow j xs q
  inj := fun j k xs ys a q1 q2 q3 q4 => by
    have n1 : i ≠ j := by
      rintro rfl
      have hl : i < e.length := by simpa using (List.getElem?_eq_some_iff.mp q1).1
      rw [List.getElem?_set_self hl] at q1; cases q1
    have n2 : i ≠ k := by
      rintro rfl
      have hl : i < e.length := by simpa using (List.getElem?_eq_some_iff.mp q2).1
      rw [List.getElem?_set_self hl] at q2; cases q2
    rw [List.getElem?_set_ne n1] at q1 q3
    rw [List.getElem?_set_ne n2] at q2 q4
    exact o.inj j k xs ys a q1 q2 q3 q4
  od := fun j xs q => by
    have n1 : i ≠ j := by
      rintro rfl
      have hl : i < e.length := by simpa using (List.getElem?_eq_some_iff.mp q).1
      rw [List.getElem?_set_self hl] at q; cases q
    rw [List.getElem?_set_ne n1] at q ⊢
    exact o.od j xs q
  ijd := fun j k xs ys a q1 q2 q3 q4 => by
    have n1 : i ≠ j := by
      rintro rfl
      have hl : i < e.length := by simpa using (List.getElem?_eq_some_iff.mp q1).1
      rw [List.getElem?_set_self hl] at q1; cases q1
    have n2 : i ≠ k := by
      rintro rfl
      have hl : i < e.length := by simpa using (List.getElem?_eq_some_iff.mp q2).1
      rw [List.getElem?_set_self hl] at q2; cases q2
    rw [List.getElem?_set_ne n1] at q1 q3
    rw [List.getElem?_set_ne n2] at q2 q4
    exact o.ijd j k xs ys a q1 q2 q3 q4
  fn := fun j L n q => by
    have n1 : i ≠ j := by
      rintro rfl
      have hl : i < e.length := by simpa using (List.getElem?_eq_some_iff.mp q).1
      rw [List.getElem?_set_self hl] at q; cases q
    rw [List.getElem?_set_ne n1] at q ⊢
    exact o.fn j L n q
  nt := o.nt
  tb := o.tb
  len := by simpa using o.len
/-- a slot is forgotten -/
theorem Ok.del {i : Nat} {w : Option V} (o : Ok K B F0 F σ H e) : Ok K B F0 F (σ.set i w) H (e.set i none) where
  gr := o.gr
  sh := fun j d' q => by
    have n1 : i ≠ j := by
      rintro rfl
      have hl : i < e.length := by simpa using (List.getElem?_eq_some_iff.mp q).1
      rw [List.getElem?_set_self hl] at q; cases q
    rw [List.getElem?_set_ne n1] at q ⊢
    exact o.sh j d' q
  ow := fun j xs q => by
    have n1 : i ≠ j := by
      rintro rfl
      have hl : i < e.length := by simpa using (List.getElem?_eq_some_iff.mp q).1
      rw [List.getElem?_set_self hl] at q; cases q
    rw [List.getElem?_set_ne n1] at q ⊢
    exact o.ow j xs q
  inj := fun j k xs ys a q1 q2 q3 q4 => by
    have n1 : i ≠ j := by
      rintro rfl
      have hl : i < e.length := by simpa using (List.getElem?_eq_some_iff.mp q1).1
      rw [List.getElem?_set_self hl] at q1; cases q1
    have n2 : i ≠ k := by
      rintro rfl
      have hl : i < e.length := by simpa using (List.getElem?_eq_some_iff.mp q2).1
      rw [List.getElem?_set_self hl] at q2; cases q2
    rw [List.getElem?_set_ne n1] at q1 q3
    rw [List.getElem?_set_ne n2] at q2 q4
    exact o.inj j k xs ys a q1 q2 q3 q4
  od := fun j xs q => by
    have n1 : i ≠ j := by
      rintro rfl
      have hl : i < e.length := by simpa using (List.getElem?_eq_some_iff.mp q).1
      rw [List.getElem?_set_self hl] at q; cases q
    rw [List.getElem?_set_ne n1] at q ⊢
    exact o.od j xs q
  ijd := fun j k xs ys a q1 q2 q3 q4 => by
    have n1 : i ≠ j := by
      rintro rfl
      have hl : i < e.length := by simpa using (List.getElem?_eq_some_iff.mp q1).1
      rw [List.getElem?_set_self hl] at q1; cases q1
    have n2 : i ≠ k := by
      rintro rfl
      have hl : i < e.length := by simpa using (List.getElem?_eq_some_iff.mp q2).1
      rw [List.getElem?_set_self hl] at q2; cases q2
    rw [List.getElem?_set_ne n1] at q1 q3
    rw [List.getElem?_set_ne n2] at q2 q4
    exact o.ijd j k xs ys a q1 q2 q3 q4
  fn := fun j L n q => by
    have n1 : i ≠ j := by
      rintro rfl
      have hl : i < e.length := by simpa using (List.getElem?_eq_some_iff.mp q).1
      rw [List.getElem?_set_self hl] at q; cases q
    rw [List.getElem?_set_ne n1] at q ⊢
    exact o.fn j L n q
  nt := o.nt
  tb := o.tb
  len := by simpa using o.len
/-- a slot gets a list of its own, new -/
theorem Ok.setOw {i : Nat} {a : Addr} {vs : List V} {xs : List D} (o : Ok K B F0 F σ H e) (h0 : ∀ (j : Nat) ys b, e[j]? = some (some (.ow ys)) → σ[j]? = some (some (.ref b)) → j ≠ i → b ≠ a)
    (h1 : H a = some (.lst vs)) (h2 : B a = none) (h3 : F a = none) (h : DpAll K F vs xs) : Ok K B F0 F (σ.set i (some (.ref a))) H (e.set i (some (.ow xs))) where
  gr := o.gr
  sh := fun j d' q => by
    have n1 : i ≠ j := by
      rintro rfl
      have hl : i < e.length := by simpa using (List.getElem?_eq_some_iff.mp q).1
      rw [List.getElem?_set_self hl] at q; cases q
    rw [List.getElem?_set_ne n1] at q ⊢
    exact o.sh j d' q
  ow := fun j ys q => by
    by_cases hj : i = j
    · subst hj
      have hl : i < e.length := by simpa using (List.getElem?_eq_some_iff.mp q).1
      rw [List.getElem?_set_self hl] at q
      cases q
      exact ⟨a, vs, by rw [List.getElem?_set_self (by rw [← o.len]; exact hl)], h1, h2, h3, h⟩
    · rw [List.getElem?_set_ne hj] at q ⊢
      exact o.ow j ys q
  inj := fun j k xs' ys' b q1 q2 q3 q4 => by
    by_cases hj : i = j <;> by_cases hk : i = k
    · exact hj.symm.trans hk
    · subst hj
      have hl : i < σ.length := by
        have := (List.getElem?_eq_some_iff.mp q3).1
        simpa using this
      rw [List.getElem?_set_self hl] at q3
      cases q3
      rw [List.getElem?_set_ne hk] at q2 q4
      exact absurd rfl (h0 k _ _ q2 q4 (Ne.symm hk))
    · subst hk
      have hl : i < σ.length := by
        have := (List.getElem?_eq_some_iff.mp q4).1
        simpa using this
      rw [List.getElem?_set_self hl] at q4
      cases q4
      rw [List.getElem?_set_ne hj] at q1 q3
      exact absurd rfl (h0 j _ _ q1 q3 (Ne.symm hj))
    · rw [List.getElem?_set_ne hj] at q1 q3
      rw [List.getElem?_set_ne hk] at q2 q4
      exact o.inj j k _ _ b q1 q2 q3 q4
  od := fun j xs q => by
    have n1 : i ≠ j := by
      rintro rfl
      have hl : i < e.length := by simpa using (List.getElem?_eq_some_iff.mp q).1
      rw [List.getElem?_set_self hl] at q; cases q
    rw [List.getElem?_set_ne n1] at q ⊢
    exact o.od j xs q
  ijd := fun j k xs ys a q1 q2 q3 q4 => by
    have n1 : i ≠ j := by
      rintro rfl
      have hl : i < e.length := by simpa using (List.getElem?_eq_some_iff.mp q1).1
      rw [List.getElem?_set_self hl] at q1; cases q1
    have n2 : i ≠ k := by
      rintro rfl
      have hl : i < e.length := by simpa using (List.getElem?_eq_some_iff.mp q2).1
      rw [List.getElem?_set_self hl] at q2; cases q2
    rw [List.getElem?_set_ne n1] at q1 q3
    rw [List.getElem?_set_ne n2] at q2 q4
    exact o.ijd j k xs ys a q1 q2 q3 q4
  fn := fun j L n q => by
    have n1 : i ≠ j := by
      rintro rfl
      have hl : i < e.length := by simpa using (List.getElem?_eq_some_iff.mp q).1
      rw [List.getElem?_set_self hl] at q; cases q
    rw [List.getElem?_set_ne n1] at q ⊢
    exact o.fn j L n q
  nt := o.nt
  tb := o.tb
  len := by simpa using o.len
/-- the list of slot i changes in place -/
theorem Ok.mutOw {i : Nat} {a : Addr} {vs' : List V} {xs xs' : List D} (o : Ok K B F0 F σ H e) (he : e[i]? = some (some (.ow xs))) (hs : σ[i]? = some (some (.ref a))) (h : DpAll K F vs' xs') :
    Ok K B F0 F σ (upd H a (.lst vs')) (e.set i (some (.ow xs'))) := by
  obtain ⟨a', vs, s1, h1, h2, h3, h4⟩ := o.ow i xs he
  have ea : a = a' := by rw [hs] at s1; cases s1; rfl
  subst ea
  have hl : i < e.length := (List.getElem?_eq_some_iff.mp he).1
  have od1 : ∀ {j : Nat} {ys : List (D × D)}, (e.set i (some (.ow xs')))[j]? = some (some (.od ys)) → e[j]? = some (some (.od ys)) := fun {j ys} q => by
    have n1 : i ≠ j := by
      rintro rfl
      rw [List.getElem?_set_self hl] at q; cases q
    rw [List.getElem?_set_ne n1] at q
    exact q
  have fn1 : ∀ {j : Nat} {L : LamT} {n : Int}, (e.set i (some (.ow xs')))[j]? = some (some (.fn L n)) → e[j]? = some (some (.fn L n)) := fun {j L n} q => by
    have n1 : i ≠ j := by
      rintro rfl
      rw [List.getElem?_set_self hl] at q; cases q
    rw [List.getElem?_set_ne n1] at q
    exact q
  refine ⟨o.gr.mut h2 h3 h1, fun j d q => ?_, fun j ys q => ?_, fun j k ys zs b q1 q2 q3 q4 => ?_, fun j ys q => ?_, fun j k ys zs b q1 q2 q3 q4 => o.ijd j k ys zs b (od1 q1) (od1 q2) q3 q4, fun j L n q => (let ⟨f, g1, g2⟩ := o.fn j L n (fn1 q); ⟨f, g1, g2.upd h1⟩), o.nt, o.tb.upd h1, by simpa using o.len⟩
  · have n1 : i ≠ j := by
      rintro rfl
      rw [List.getElem?_set_self hl] at q; cases q
    rw [List.getElem?_set_ne n1] at q
    exact o.sh j d q
  · by_cases hj : i = j
    · subst hj
      rw [List.getElem?_set_self hl] at q
      cases q
      exact ⟨a, vs', hs, upd_same, h2, h3, h⟩
    · rw [List.getElem?_set_ne hj] at q
      obtain ⟨b, us, t1, t2, t3, t4, t5⟩ := o.ow j ys q
      refine ⟨b, us, t1, ?_, t3, t4, t5⟩
      rw [upd_ne]
      · exact t2
      · rintro rfl
        exact hj (o.inj i j _ _ b he q hs t1)
  · have f1 : ∀ {j : Nat} {ys : List D}, (e.set i (some (.ow xs')))[j]? = some (some (.ow ys)) → ∃ ys', e[j]? = some (some (.ow ys')) := fun {j ys} q => by
      by_cases hj : i = j
      · subst hj; exact ⟨_, he⟩
      · rw [List.getElem?_set_ne hj] at q; exact ⟨_, q⟩
    obtain ⟨y1, p1⟩ := f1 q1
    obtain ⟨y2, p2⟩ := f1 q2
    exact o.inj j k _ _ b p1 p2 q3 q4
  · obtain ⟨b, us, t1, t2, t3, t4, t5⟩ := o.od j ys (od1 q)
    refine ⟨b, us, t1, ?_, t3, t4, t5⟩
    rw [upd_ne]
    · exact t2
    · rintro rfl
      rw [h1] at t2
      cases t2
/-- the list of slot i is frozen -/
theorem Ok.freeze {i : Nat} {xs : List D} (o : Ok K B F0 F σ H e) (he : e[i]? = some (some (.ow xs))) : ∃ F', Ex F F' ∧ Ok K B F0 F' σ H (e.set i (some (.sh (.list xs)))) := by
  obtain ⟨a, vs, s1, h1, h2, h3, h4⟩ := o.ow i xs he
  have hl : i < e.length := (List.getElem?_eq_some_iff.mp he).1
  have x : Ex F (upd F a (.lst vs)) := Ex.new h3
  have od1 : ∀ {j : Nat} {ys : List (D × D)}, (e.set i (some (.sh (.list xs))))[j]? = some (some (.od ys)) → e[j]? = some (some (.od ys)) := fun {j ys} q => by
    have n1 : i ≠ j := by
      rintro rfl
      rw [List.getElem?_set_self hl] at q; cases q
    rw [List.getElem?_set_ne n1] at q
    exact q
  have fn1 : ∀ {j : Nat} {L : LamT} {n : Int}, (e.set i (some (.sh (.list xs))))[j]? = some (some (.fn L n)) → e[j]? = some (some (.fn L n)) := fun {j L n} q => by
    have n1 : i ≠ j := by
      rintro rfl
      rw [List.getElem?_set_self hl] at q; cases q
    rw [List.getElem?_set_ne n1] at q
    exact q
  refine ⟨upd F a (.lst vs), x, o.gr.frz h2 h3 h1, fun j d q => ?_, fun j ys q => ?_, fun j k ys zs b q1 q2 q3 q4 => ?_, fun j ys q => ?_, fun j k ys zs b q1 q2 q3 q4 => o.ijd j k ys zs b (od1 q1) (od1 q2) q3 q4, fun j L n q => (let ⟨f, g1, g2⟩ := o.fn j L n (fn1 q); ⟨f, g1, g2.updF h1 h3⟩), nt_upd o.nt (by intro _ z; cases z), o.tb, by simpa using o.len⟩
  · by_cases hj : i = j
    · subst hj
      rw [List.getElem?_set_self hl] at q
      cases q
      exact ⟨_, s1, .lst (SqL.of upd_same) (dpa_mono x h4)⟩
    · rw [List.getElem?_set_ne hj] at q
      obtain ⟨v, t1, t2⟩ := o.sh j d q
      exact ⟨v, t1, dp_mono x t2⟩
  · have n1 : i ≠ j := by
      rintro rfl
      rw [List.getElem?_set_self hl] at q; cases q
    rw [List.getElem?_set_ne n1] at q
    obtain ⟨b, us, t1, t2, t3, t4, t5⟩ := o.ow j ys q
    refine ⟨b, us, t1, t2, t3, ?_, dpa_mono x t5⟩
    rw [upd_ne]
    · exact t4
    · rintro rfl
      exact n1 (o.inj i j _ _ b he q s1 t1)
  · have n1 : ∀ {j : Nat} {ys : List D}, (e.set i (some (.sh (.list xs))))[j]? = some (some (.ow ys)) → i ≠ j := fun {j ys} q => by
      rintro rfl
      rw [List.getElem?_set_self hl] at q; cases q
    have m1 := n1 q1
    have m2 := n1 q2
    rw [List.getElem?_set_ne m1] at q1
    rw [List.getElem?_set_ne m2] at q2
    exact o.inj j k _ _ b q1 q2 q3 q4
  · obtain ⟨b, us, t1, t2, t3, t4, t5⟩ := o.od j ys (od1 q)
    refine ⟨b, us, t1, t2, t3, ?_, dpk_mono x t5⟩
    rw [upd_ne]
    · exact t4
    · rintro rfl
      rw [h1] at t2
      cases t2
/-- a slot gets a dict of its own, new -/
theorem Ok.setOd {i : Nat} {a : Addr} {kvs : List (Key × V)} {ds : List (D × D)} (o : Ok K B F0 F σ H e) (h0 : ∀ (j : Nat) ys b, e[j]? = some (some (.od ys)) → σ[j]? = some (some (.ref b)) → j ≠ i → b ≠ a)
    (h1 : H a = some (.dK kvs)) (h2 : B a = none) (h3 : F a = none) (h : DpKv K F kvs ds) : Ok K B F0 F (σ.set i (some (.ref a))) H (e.set i (some (.od ds))) where
  gr := o.gr
  sh := fun j d' q => by
    have n1 : i ≠ j := by
      rintro rfl
      have hl : i < e.length := by simpa using (List.getElem?_eq_some_iff.mp q).1
      rw [List.getElem?_set_self hl] at q; cases q
    rw [List.getElem?_set_ne n1] at q ⊢
    exact o.sh j d' q
  ow := fun j ys q => by
    have n1 : i ≠ j := by
      rintro rfl
      have hl : i < e.length := by simpa using (List.getElem?_eq_some_iff.mp q).1
      rw [List.getElem?_set_self hl] at q; cases q
    rw [List.getElem?_set_ne n1] at q ⊢
    exact o.ow j ys q
  inj := fun j k xs ys b q1 q2 q3 q4 => by
    have n1 : i ≠ j := by
      rintro rfl
      have hl : i < e.length := by simpa using (List.getElem?_eq_some_iff.mp q1).1
      rw [List.getElem?_set_self hl] at q1; cases q1
    have n2 : i ≠ k := by
      rintro rfl
      have hl : i < e.length := by simpa using (List.getElem?_eq_some_iff.mp q2).1
      rw [List.getElem?_set_self hl] at q2; cases q2
    rw [List.getElem?_set_ne n1] at q1 q3
    rw [List.getElem?_set_ne n2] at q2 q4
    exact o.inj j k xs ys b q1 q2 q3 q4
  od := fun j ys q => by
    by_cases hj : i = j
    · subst hj
      have hl : i < e.length := by simpa using (List.getElem?_eq_some_iff.mp q).1
      rw [List.getElem?_set_self hl] at q
      cases q
      exact ⟨a, kvs, by rw [List.getElem?_set_self (by rw [← o.len]; exact hl)], h1, h2, h3, h⟩
    · rw [List.getElem?_set_ne hj] at q ⊢
      exact o.od j ys q
  ijd := fun j k xs' ys' b q1 q2 q3 q4 => by
    by_cases hj : i = j <;> by_cases hk : i = k
    · exact hj.symm.trans hk
    · subst hj
      have hl : i < σ.length := by
        have := (List.getElem?_eq_some_iff.mp q3).1
        simpa using this
      rw [List.getElem?_set_self hl] at q3
      cases q3
      rw [List.getElem?_set_ne hk] at q2 q4
      exact absurd rfl (h0 k _ _ q2 q4 (Ne.symm hk))
    · subst hk
      have hl : i < σ.length := by
        have := (List.getElem?_eq_some_iff.mp q4).1
        simpa using this
      rw [List.getElem?_set_self hl] at q4
      cases q4
      rw [List.getElem?_set_ne hj] at q1 q3
      exact absurd rfl (h0 j _ _ q1 q3 (Ne.symm hj))
    · rw [List.getElem?_set_ne hj] at q1 q3
      rw [List.getElem?_set_ne hk] at q2 q4
      exact o.ijd j k _ _ b q1 q2 q3 q4
  fn := fun j L n q => by
    have n1 : i ≠ j := by
      rintro rfl
      have hl : i < e.length := by simpa using (List.getElem?_eq_some_iff.mp q).1
      rw [List.getElem?_set_self hl] at q; cases q
    rw [List.getElem?_set_ne n1] at q ⊢
    exact o.fn j L n q
  nt := o.nt
  tb := o.tb
  len := by simpa using o.len
/-- the dict of slot i changes in place -/
theorem Ok.mutOd {i : Nat} {a : Addr} {vs' : List (Key × V)} {xs xs' : List (D × D)} (o : Ok K B F0 F σ H e) (he : e[i]? = some (some (.od xs))) (hs : σ[i]? = some (some (.ref a))) (h : DpKv K F vs' xs') :
    Ok K B F0 F σ (upd H a (.dK vs')) (e.set i (some (.od xs'))) := by
  obtain ⟨a', vs, s1, h1, h2, h3, h4⟩ := o.od i xs he
  have ea : a = a' := by rw [hs] at s1; cases s1; rfl
  subst ea
  have hl : i < e.length := (List.getElem?_eq_some_iff.mp he).1
  have ow1 : ∀ {j : Nat} {ys : List D}, (e.set i (some (.od xs')))[j]? = some (some (.ow ys)) → e[j]? = some (some (.ow ys)) := fun {j ys} q => by
    have n1 : i ≠ j := by
      rintro rfl
      rw [List.getElem?_set_self hl] at q; cases q
    rw [List.getElem?_set_ne n1] at q
    exact q
  have od1 : ∀ {j : Nat} {ys : List (D × D)}, (e.set i (some (.od xs')))[j]? = some (some (.od ys)) → ∃ zs, e[j]? = some (some (.od zs)) := fun {j ys} q => by
    by_cases hj : i = j
    · subst hj; exact ⟨_, he⟩
    · rw [List.getElem?_set_ne hj] at q; exact ⟨_, q⟩
  have fn1 : ∀ {j : Nat} {L : LamT} {n : Int}, (e.set i (some (.od xs')))[j]? = some (some (.fn L n)) → e[j]? = some (some (.fn L n)) := fun {j L n} q => by
    have n1 : i ≠ j := by
      rintro rfl
      rw [List.getElem?_set_self hl] at q; cases q
    rw [List.getElem?_set_ne n1] at q
    exact q
  refine ⟨o.gr.mut h2 h3 h1, fun j d q => ?_, fun j ys q => ?_, fun j k ys zs b q1 q2 q3 q4 => o.inj j k ys zs b (ow1 q1) (ow1 q2) q3 q4, fun j ys q => ?_, fun j k ys zs b q1 q2 q3 q4 => ?_, fun j L n q => (let ⟨f, g1, g2⟩ := o.fn j L n (fn1 q); ⟨f, g1, g2.upd h1⟩), o.nt, o.tb.upd h1, by simpa using o.len⟩
  · have n1 : i ≠ j := by
      rintro rfl
      rw [List.getElem?_set_self hl] at q; cases q
    rw [List.getElem?_set_ne n1] at q
    exact o.sh j d q
  · obtain ⟨b, us, t1, t2, t3, t4, t5⟩ := o.ow j ys (ow1 q)
    refine ⟨b, us, t1, ?_, t3, t4, t5⟩
    rw [upd_ne]
    · exact t2
    · rintro rfl
      rw [h1] at t2
      cases t2
  · by_cases hj : i = j
    · subst hj
      rw [List.getElem?_set_self hl] at q
      cases q
      exact ⟨a, vs', hs, upd_same, h2, h3, h⟩
    · rw [List.getElem?_set_ne hj] at q
      obtain ⟨b, us, t1, t2, t3, t4, t5⟩ := o.od j ys q
      refine ⟨b, us, t1, ?_, t3, t4, t5⟩
      rw [upd_ne]
      · exact t2
      · rintro rfl
        exact hj (o.ijd i j _ _ b he q hs t1)
  · obtain ⟨y1, p1⟩ := od1 q1
    obtain ⟨y2, p2⟩ := od1 q2
    exact o.ijd j k _ _ b p1 p2 q3 q4
/-- the dict of slot i is frozen -/
theorem Ok.freezeD {i : Nat} {xs : List (D × D)} (o : Ok K B F0 F σ H e) (he : e[i]? = some (some (.od xs))) : ∃ F', Ex F F' ∧ Ok K B F0 F' σ H (e.set i (some (.sh (.dict xs)))) := by
  obtain ⟨a, vs, s1, h1, h2, h3, h4⟩ := o.od i xs he
  have hl : i < e.length := (List.getElem?_eq_some_iff.mp he).1
  have x : Ex F (upd F a (.dK vs)) := Ex.new h3
  have ow1 : ∀ {j : Nat} {ys : List D}, (e.set i (some (.sh (.dict xs))))[j]? = some (some (.ow ys)) → e[j]? = some (some (.ow ys)) := fun {j ys} q => by
    have n1 : i ≠ j := by
      rintro rfl
      rw [List.getElem?_set_self hl] at q; cases q
    rw [List.getElem?_set_ne n1] at q
    exact q
  have od1 : ∀ {j : Nat} {ys : List (D × D)}, (e.set i (some (.sh (.dict xs))))[j]? = some (some (.od ys)) → i ≠ j ∧ e[j]? = some (some (.od ys)) := fun {j ys} q => by
    have n1 : i ≠ j := by
      rintro rfl
      rw [List.getElem?_set_self hl] at q; cases q
    rw [List.getElem?_set_ne n1] at q
    exact ⟨n1, q⟩
  have fn1 : ∀ {j : Nat} {L : LamT} {n : Int}, (e.set i (some (.sh (.dict xs))))[j]? = some (some (.fn L n)) → e[j]? = some (some (.fn L n)) := fun {j L n} q => by
    have n1 : i ≠ j := by
      rintro rfl
      rw [List.getElem?_set_self hl] at q; cases q
    rw [List.getElem?_set_ne n1] at q
    exact q
  refine ⟨upd F a (.dK vs), x, o.gr.frz h2 h3 h1, fun j d q => ?_, fun j ys q => ?_, fun j k ys zs b q1 q2 q3 q4 => o.inj j k ys zs b (ow1 q1) (ow1 q2) q3 q4, fun j ys q => ?_, fun j k ys zs b q1 q2 q3 q4 => o.ijd j k ys zs b (od1 q1).2 (od1 q2).2 q3 q4, fun j L n q => (let ⟨f, g1, g2⟩ := o.fn j L n (fn1 q); ⟨f, g1, g2.updF h1 h3⟩), nt_upd o.nt (by intro _ z; cases z), o.tb, by simpa using o.len⟩
  · by_cases hj : i = j
    · subst hj
      rw [List.getElem?_set_self hl] at q
      cases q
      exact ⟨_, s1, .dic (.inl upd_same) (dpk_mono x h4)⟩
    · rw [List.getElem?_set_ne hj] at q
      obtain ⟨v, t1, t2⟩ := o.sh j d q
      exact ⟨v, t1, dp_mono x t2⟩
  · obtain ⟨b, us, t1, t2, t3, t4, t5⟩ := o.ow j ys (ow1 q)
    refine ⟨b, us, t1, t2, t3, ?_, dpa_mono x t5⟩
    rw [upd_ne]
    · exact t4
    · rintro rfl
      rw [h1] at t2
      cases t2
  · obtain ⟨n1, q⟩ := od1 q
    obtain ⟨b, us, t1, t2, t3, t4, t5⟩ := o.od j ys q
    refine ⟨b, us, t1, t2, t3, ?_, dpk_mono x t5⟩
    rw [upd_ne]
    · exact t4
    · rintro rfl
      exact n1 (o.ijd i j _ _ b he q s1 t1)
end

/-! ### the judgements -/
/-- readable: frozen, or a list in H whose items are frozen -/
def Rs (K : PySem.W.Frag) (F H : Hp) (v : V) (d : D) : Prop := Dp K F v d ∨ ∃ a vs xs, v = .ref a ∧ d = .list xs ∧ H a = some (.lst vs) ∧ DpAll K F vs xs
theorem Rs.grow {K : PySem.W.Frag} {F H F' H' : Hp} {v : V} {d : D} (g : Gr F H F' H') : Rs K F H v d → Rs K F' H' v d
  | .inl h => .inl (dp_mono g.ff h)
  | .inr ⟨a, vs, xs, h1, h2, h3, h4⟩ => .inr ⟨a, vs, xs, h1, h2, g.hh _ _ h3, dpa_mono g.ff h4⟩
theorem Rs.dp {K : PySem.W.Frag} {F H : Hp} {v : V} {d : D} (x : Ex F H) : Rs K F H v d → Dp K H v d
  | .inl h => dp_mono x h
  | .inr ⟨a, vs, xs, h1, h2, h3, h4⟩ => by subst h1 h2; exact .lst (SqL.of h3) (dpa_mono x h4)
/-- a list or tuple that is readable -/
theorem Rs.tup {K : PySem.W.Frag} {F H : Hp} {v : V} {ds : List D} (x : Ex F H) (h : Rs K F H v (.tuple ds)) : ∃ a vs, v = .ref a ∧ SqT K H a vs ∧ DpAll K F vs ds := by
  rcases h with h | ⟨a, vs, xs, _, h2, _⟩
  · obtain ⟨a, vs, rfl, h1, h2⟩ := dp_tup h
    exact ⟨a, vs, rfl, ex_t x h1, h2⟩
  · cases h2
theorem Rs.lst {K : PySem.W.Frag} {F H : Hp} {v : V} {ds : List D} (x : Ex F H) (h : Rs K F H v (.list ds)) : ∃ a vs, v = .ref a ∧ SqL K H a vs ∧ DpAll K F vs ds := by
  rcases h with h | ⟨a, vs, xs, h1, h2, h3, h4⟩
  · obtain ⟨a, vs, rfl, h1, h2⟩ := dp_lst h
    exact ⟨a, vs, rfl, ex_l x h1, h2⟩
  · cases h2
    exact ⟨a, vs, h1, SqL.of h3, h4⟩

abbrev FE := DEnv → Option D
abbrev FB := DEnv → Option Bool
abbrev FA := DEnv → Option (List D)

def TD (K : PySem.W.Frag) (f : FE) : TE := fun σ H Q => ∃ B F0 F e d, Ok K B F0 F σ H e ∧ f e = some d ∧ ∀ v F' H', Gr F H F' H' → Dp K F' v d → Q v H'
def TR (K : PySem.W.Frag) (f : FE) : TE := fun σ H Q => ∃ B F0 F e d, Ok K B F0 F σ H e ∧ f e = some d ∧ ∀ v F' H', Gr F H F' H' → Rs K F' H' v d → Q v H'
def TN (K : PySem.W.Frag) (f : FA) : TE := fun σ H Q => ∃ B F0 F e xs, Ok K B F0 F σ H e ∧ f e = some xs ∧ ∀ a vs F' H', Gr F H F' H' → H a = none → F' a = none → H' a = some (.lst vs) → DpAll K F' vs xs → Q (.ref a) H'
def TB (K : PySem.W.Frag) (f : FB) : TT := fun σ H Q => ∃ B F0 F e b, Ok K B F0 F σ H e ∧ f e = some b ∧ ∀ F' H', Gr F H F' H' → Q b H'
def TAr (K : PySem.W.Frag) (f : FA) : TA := fun σ H Q => ∃ B F0 F e ds, Ok K B F0 F σ H e ∧ f e = some ds ∧ ∀ vs F' H', Gr F H F' H' → DpAll K F' vs ds → Q vs H'

/-- frozen value | readable value | new list | test | arguments -/
def DE (X : Cx) (e : Expr) (f : FE) : Prop := PE X e (TD X.K f)
def DR (X : Cx) (e : Expr) (f : FE) : Prop := PE X e (TR X.K f)
def DN (X : Cx) (e : Expr) (f : FA) : Prop := PE X e (TN X.K f)
def DT (X : Cx) (e : Expr) (f : FB) : Prop := PT X e (TB X.K f)
def DW (X : Cx) (e : Expr) (f : FB) : Prop := PW X e (TB X.K f)
def DA (X : Cx) (es : List Expr) (f : FA) : Prop := PA X es (TAr X.K f)

section
variable {X : Cx} {e : Expr}
theorem pe_imp {t t' : TE} (h : PE X e t) (i : ∀ σ H Q, t' σ H Q → t σ H Q) : PE X e t' := ⟨fun pins s σ H Q I hw => h.run pins s σ H Q I (i _ _ _ hw)⟩
theorem pt_imp {t t' : TT} (h : PT X e t) (i : ∀ σ H Q, t' σ H Q → t σ H Q) : PT X e t' := ⟨fun pins s σ H Q I hw => h.run pins s σ H Q I (i _ _ _ hw)⟩
theorem pw_imp {t t' : TT} (h : PW X e t) (i : ∀ σ H Q, t' σ H Q → t σ H Q) : PW X e t' := ⟨fun wh pins s σ H Q I hw => h.run wh pins s σ H Q I (i _ _ _ hw)⟩
theorem pa_imp {es : List Expr} {t t' : TA} (h : PA X es t) (i : ∀ σ H Q, t' σ H Q → t σ H Q) : PA X es t' := ⟨fun pos pins s σ H Q I hw => h.run pos pins s σ H Q I (i _ _ _ hw)⟩
theorem ps_imp {st : Stmt} {t t' : TS} (h : PS X st t) (i : ∀ D σ H, t' D σ H → t D σ H) : PS X st t' := ⟨fun pins s σ H D I hw => h.run pins s σ H D I (i _ _ _ hw)⟩
theorem pss_imp {st : List Stmt} {t t' : TS} (h : PSs X st t) (i : ∀ D σ H, t' D σ H → t D σ H) : PSs X st t' := ⟨fun pins s σ H D I hw => h.run pins s σ H D I (i _ _ _ hw)⟩
theorem DE.dr {f : FE} (h : DE X e f) : DR X e f := pe_imp h fun σ H Q ⟨B, F0, F, env, d, ok, fe, q⟩ => ⟨B, F0, F, env, d, ok, fe, fun v F' H' g dp => q v F' H' g (.inl dp)⟩
theorem DN.de {f : FA} (h : DN X e f) : DE X e (fun env => (f env).map PyData.list) := pe_imp h fun σ H Q ⟨B, F0, F, env, d, ok, fe, q⟩ => by
  obtain ⟨xs, hx, rfl⟩ := Option.map_eq_some_iff.mp fe
  refine ⟨B, F0, F, env, xs, ok, hx, fun a vs F' H' g h1 h2 h3 h4 => ?_⟩
  have x : Ex F' (upd F' a (.lst vs)) := Ex.new h2
  exact q _ _ _ (g.frz h1 h2 h3) (.lst (SqL.of upd_same) (dpa_mono x h4))
theorem DN.dr {f : FA} (h : DN X e f) : DR X e (fun env => (f env).map PyData.list) := h.de.dr
end
end DL

/-! DLay2: expressions. -/
namespace DL
open PySem PySem.Spec PyProof.Rows L2 Evl

/-! ### denotations -/
def asB : D → Option Bool
  | .bool b => some b
  | _ => none
def vr (i : Nat) : FE := fun e => match e[i]? with
  | some (some (.sh d)) => some d
  | _ => none
def vo (i : Nat) : FE := fun e => match e[i]? with
  | some (some (.sh d)) => some d
  | some (some (.ow xs)) => some (.list xs)
  | _ => none
def cst (d : D) : FE := fun _ => some d
def c1 (g : D → Option D) (f : FE) : FE := fun e => (f e).bind g
def c2 (g : D → D → Option D) (f1 f2 : FE) : FE := fun e => (f1 e).bind fun x => (f2 e).bind fun y => g x y
def cA (g : List D → Option D) (f : FA) : FE := fun e => (f e).bind g
def nilA : FA := fun _ => some []
def consA (f : FE) (r : FA) : FA := fun e => (f e).bind fun x => (r e).bind fun xs => some (x :: xs)
def tup (f : FA) : FE := fun e => (f e).map PyData.tuple
def lstE (f : FA) : FE := fun e => (f e).map PyData.list
def tst (f : FE) : FB := fun e => (f e).bind asB
def andT (p q : FB) : FB := fun e => (p e).bind fun b => if b = true then q e else some false
def orT (p q : FB) : FB := fun e => (p e).bind fun b => if b = true then some true else q e
def notT (p : FB) : FB := fun e => (p e).map not
def andV (f g : FE) : FE := fun e => (f e).bind fun x => (asB x).bind fun b => if b = true then g e else some (.bool false)
def orV (f g : FE) : FE := fun e => (f e).bind fun x => (asB x).bind fun b => if b = true then some (.bool true) else g e
def notV (f : FE) : FE := fun e => (f e).bind fun x => (asB x).map fun b => .bool (!b)
def ifE (p : FB) (f g : FE) : FE := fun e => (p e).bind fun b => if b = true then f e else g e

/-- sizes that we stay below -/
def big : Nat := 100000
def sml (n : Nat) : Bool := Nat.ble n 100000
theorem sml_le {n : Nat} (h : sml n = true) : n ≤ big := Nat.le_of_ble_eq_true h
theorem sml_of {n : Nat} (h : n ≤ 100000) : sml n = true := Nat.ble_eq_true_of_le h
def mulOk (a b : Int) : Bool := decide (a.natAbs < 2 ^ 63) || decide (b.natAbs < 2 ^ 63) || (decide (a.natAbs < 2 ^ 4000) && decide (b.natAbs < 2 ^ 4000))
def addD : D → D → Option D
  | .int a, .int b => some (.int (a + b))
  | .str a, .str b => if sml (a.length + b.length) = true then some (.str (a ++ b)) else none
  | .tuple a, .tuple b => if sml (a.length + b.length) = true then some (.tuple (a ++ b)) else none
  | .list a, .list b => if sml (a.length + b.length) = true then some (.list (a ++ b)) else none
  | _, _ => none
def subD : D → D → Option D
  | .int a, .int b => some (.int (a - b))
  | _, _ => none
def mulD : D → D → Option D
  | .int a, .int b => if mulOk a b = true then some (.int (a * b)) else none
  | .tuple a, .int b => if a ≠ [] ∧ 2 ≤ b ∧ b ≤ 1000 ∧ a.length ≤ 1000 then some (.tuple (List.replicate b.toNat a).flatten) else if a ≠ [] ∧ b = 1 then some (.tuple a) else if a ≠ [] ∧ b = 0 then some (.tuple []) else none
  | _, _ => none
def fdivD : D → D → Option D
  | .int a, .int b => if 0 < b ∧ b.natAbs < 2 ^ 4000 then some (.int (a / b)) else none
  | _, _ => none
def modD : D → D → Option D
  | .int a, .int b => if 0 < b then some (.int (a % b)) else none
  | _, _ => none
def powD : D → D → Option D
  | .int a, .int b => if 0 ≤ b ∧ b ≤ 1000 ∧ a.natAbs < 2 ^ 64 then some (.int (a ^ b.toNat)) else none
  | _, _ => none
def negD : D → Option D
  | .int a => some (.int (-a))
  | _ => none
def ltD : D → D → Option D
  | .int a, .int b => some (.bool (decide (a < b)))
  | _, _ => none
def leD : D → D → Option D
  | .int a, .int b => some (.bool (decide (a ≤ b)))
  | .str a, .str b => some (.bool (!decide (b.cps.toList < a.cps.toList)))
  | _, _ => none
def gtD : D → D → Option D
  | .int a, .int b => some (.bool (decide (b < a)))
  | _, _ => none
def geD : D → D → Option D
  | .int a, .int b => some (.bool (decide (b ≤ a)))
  | _, _ => none
def eqD (a b : D) : Option D := if SeqAt.shaped a = true ∧ SeqAt.shaped b = true then some (.bool (PyData.eqv a b)) else none
def neD (a b : D) : Option D := if SeqAt.shaped a = true ∧ SeqAt.shaped b = true then some (.bool (!PyData.eqv a b)) else none
def isND (a : D) : Option D := match a with
  | .none => some (.bool true)
  | _ => some (.bool false)
def notND (a : D) : Option D := match a with
  | .none => some (.bool false)
  | _ => some (.bool true)
def ixD : D → D → Option D
  | .tuple xs, .int i => atI xs i
  | .list xs, .int i => atI xs i
  | .str z, .int i => if sml z.length = true then (atI z.cps.toList i).map fun c => .str ⟨#[c]⟩ else none
  | _, _ => none

theorem big_line : big ≤ sizeLine := by rw [sizeLine_eq]; decide

/-! ### values of operations -/
section
variable {K : PySem.W.Frag}
abbrev Kn (K : PySem.W.Frag) (F H : Hp) (d : D) (Q : VK) : Prop := ∀ v F' H', Gr F H F' H' → Dp K F' v d → Q v H'
def OpD (K : PySem.W.Frag) (r : R2) (g : D → D → Option D) : Prop := ∀ F H x y a b d Q, Ex F H → Rs K F H x a → Rs K F H y b → g a b = some d → Kn K F H d Q → r x y H Q
def OpDF (K : PySem.W.Frag) (r : R2) (g : D → D → Option D) : Prop := ∀ F H x y a b d Q, Ex F H → Dp K F x a → Dp K F y b → g a b = some d → Kn K F H d Q → r x y H Q
def UnD (K : PySem.W.Frag) (r : V → Hp → VK → Prop) (g : D → Option D) : Prop := ∀ F H x a d Q, Ex F H → Rs K F H x a → g a = some d → Kn K F H d Q → r x H Q
theorem rs_int {F H : Hp} {v : V} {i : Int} (h : Rs K F H v (.int i)) : v = .int i := by
  rcases h with h | ⟨_, _, _, _, h, _⟩
  · exact dp_int h
  · cases h
theorem rs_str {F H : Hp} {v : V} {i : Str} (h : Rs K F H v (.str i)) : v = .str i := by
  rcases h with h | ⟨_, _, _, _, h, _⟩
  · exact dp_str h
  · cases h
theorem rs_bl {F H : Hp} {v : V} {i : Bool} (h : Rs K F H v (.bool i)) : v = .bl i := by
  rcases h with h | ⟨_, _, _, _, h, _⟩
  · exact dp_bl h
  · cases h
theorem rs_tupF {F H : Hp} {v : V} {i : List D} (h : Rs K F H v (.tuple i)) : Dp K F v (.tuple i) := by
  rcases h with h | ⟨_, _, _, _, h, _⟩
  · exact h
  · cases h
theorem Kn.now {F H : Hp} {d : D} {Q : VK} {v : V} (q : Kn K F H d Q) (x : Ex F H) (h : Dp K F v d) : Q v H := q v F H (Gr.refl x) h
theorem Kn.tupN {F H : Hp} {Q : VK} {vs : List V} {ds : List D} (q : Kn K F H (.tuple ds) Q) (x : Ex F H) (h : DpAll K F vs ds) {p : Addr} (hp : H p = none) : Q (.ref p) (upd H p (.tup vs)) :=
  q _ _ _ (Gr.new x hp) (.tup (SqT.of upd_same) (dpa_mono (Ex.new (fresh_back x hp)) h))
theorem Kn.lstN {F H : Hp} {Q : VK} {vs : List V} {ds : List D} (q : Kn K F H (.list ds) Q) (x : Ex F H) (h : DpAll K F vs ds) {p : Addr} (hp : H p = none) : Q (.ref p) (upd H p (.lst vs)) :=
  q _ _ _ (Gr.new x hp) (.lst (SqL.of upd_same) (dpa_mono (Ex.new (fresh_back x hp)) h))
end

section
variable {X : Cx}
/-- list + list, wherever they stand -/
def rCatL (K : PySem.W.Frag) : R2 := fun x y H Q => ∃ l b xs zs, x = .ref l ∧ y = .ref b ∧ SqL K H l xs ∧ SqL K H b zs ∧ xs.length + zs.length ≤ sizeLine ∧ ∀ p, H p = none → Q (.ref p) (upd H p (.lst (xs ++ zs)))
theorem op_catL : OpR X (binaryOp .Add) (rCatL X.K) := by
  intro pins s σ H x y v u Q I rx ry h
  obtain ⟨l, b, xs, zs, rfl, rfl, hH, hB, hz, q⟩ := h
  cases rx
  cases ry
  obtain ⟨vs, r, ⟨⟨cls, dd, data, sl⟩, n, ho, hc, hdd, hd⟩, hl⟩ := I.list hH
  obtain ⟨ws, r2, ⟨⟨cls2, dd2, data2, sl2⟩, n2, ho2, hc2, hdd2, hd2⟩, hl2⟩ := I.list hB
  simp only at hc hd hc2 hd2
  subst hc hd hc2 hd2
  have e : vs.toArray ++ ws.toArray = (vs ++ ws).toArray := by simp
  have l1 := r.length
  have l2 := r2.length
  refine concat_meets ⟨_, ho, rfl⟩ ⟨_, ho2, rfl⟩ noFill_list_add seq_list_add PySem.F.slot_list_add PySem.F.entry_list_add (PySem.F.args_list_add_2 _ _) (list_addW l b vs.toArray ws.toArray n n2 dd dd2 sl sl2 (by simp; omega)) ⟨ho, ho2, ?_⟩
  rw [e]
  exact ⟨.ref _, _, I.lnew (t' := s.toks) (r.append r2) (by rw [List.length_append]; omega), rfl, q _ I.fresh⟩

def rAddA (K : PySem.W.Frag) : R2 := fun x y H Q => (rI0 (fun i j => .int (i + j)) x y H Q ∨ (∃ i j, x = .str i ∧ y = .str j ∧ i.length + j.length ≤ sizeLine ∧ Q (.str (i ++ j)) H)) ∨ (rCatA K x y H Q ∨ rCatL K x y H Q)
theorem op_addA : OpR X (binaryOp .Add) (rAddA X.K) := (op_add.or op_add_str).or (op_catA.or op_catL)
theorem od_add {K : PySem.W.Frag} : OpD K (rAddA K) addD := by
  intro F H x y a b d Q xf ha hb hg q
  unfold addD at hg
  split at hg
  · cases hg
    rw [rs_int ha, rs_int hb]
    exact .inl (.inl ⟨_, _, rfl, rfl, q.now xf (.int _)⟩)
  · split at hg
    · cases hg
      rw [rs_str ha, rs_str hb]
      rename_i i j hz
      exact .inl (.inr ⟨_, _, rfl, rfl, Nat.le_trans (sml_le hz) big_line, q.now xf (.str _)⟩)
    · cases hg
  · split at hg
    · cases hg
      rename_i hz
      have ha' := rs_tupF ha
      have hb' := rs_tupF hb
      obtain ⟨p, vs, rfl, s1, d1⟩ := dp_tup ha'
      obtain ⟨p2, us, rfl, s2, d2⟩ := dp_tup hb'
      have l1 := dpa_len d1
      have l2 := dpa_len d2
      have hbl := big_line
      have hz := sml_le hz
      refine .inr (.inl ⟨p, p2, vs, us, rfl, rfl, ex_t xf s1, ex_t xf s2, by omega, fun e => ?_, fun e1 e2 => ?_, fun e1 e2 p hp => ?_⟩)
      · subst e
        cases d1
        exact q.now xf hb'
      · subst e2
        cases d2
        rw [List.append_nil] at q
        exact q.now xf ha'
      · exact q.tupN xf (dpa_append d1 d2) hp
    · cases hg
  · split at hg
    · cases hg
      rename_i hz
      obtain ⟨p, vs, rfl, s1, d1⟩ := ha.lst xf
      obtain ⟨p2, us, rfl, s2, d2⟩ := hb.lst xf
      have l1 := dpa_len d1
      have l2 := dpa_len d2
      have hbl := big_line
      have hz := sml_le hz
      exact .inr (.inr ⟨p, p2, vs, us, rfl, rfl, s1, s2, by omega, fun p hp => q.lstN xf (dpa_append d1 d2) hp⟩)
    · cases hg
  · cases hg
theorem od_sub {K : PySem.W.Frag} : OpD K (rI0 fun i j => .int (i - j)) subD := by
  intro F H x y a b d Q xf ha hb hg q
  unfold subD at hg
  split at hg
  · cases hg
    rw [rs_int ha, rs_int hb]
    exact ⟨_, _, rfl, rfl, q.now xf (.int _)⟩
  · cases hg

theorem mulOk_ok {a b : Int} (h : mulOk a b = true) : CMul a b ∨ CMulW a b := by
  unfold mulOk at h
  simp only [Bool.or_eq_true, Bool.and_eq_true, decide_eq_true_eq] at h
  rcases h with (h | h) | ⟨h1, h2⟩
  · exact .inl (.inl ⟨by omega, by omega⟩)
  · exact .inl (.inr ⟨by omega, by omega⟩)
  · exact .inr (wide_mul h1 h2 (by decide) (by decide) (by decide))
theorem tuple_mul1 (l : Addr) (items : Array Value) (n : Nat) (dd : Option Addr) (sl : Array (Option Value)) (u : Tok) :
    Meets (Builtin.«tuple.__mul__» ⟨[.ref l, .int 1 u], []⟩) (fun _ R s => s.heap.get? l = some { cls := .type "tuple", dict := dd, data := .seq items n, slots := sl } ∧ R (.ok (.ret (Value.ref l))) s) :=
  .of_wp fun prog w A R s h => by
    obtain ⟨hp, g, d, tk, os⟩ := s
    obtain ⟨hl, h⟩ := h
    have f1 := AutoSeq1.idx_int
    wp_walk using wpAny_loadPart' hl
    exact ⟨_, rfl, h⟩
theorem tuple_mul0 (l : Addr) (items : Array Value) (n : Nat) (dd : Option Addr) (sl : Array (Option Value)) (u : Tok) (he : items.isEmpty = false) :
    Meets (Builtin.«tuple.__mul__» ⟨[.ref l, .int 0 u], []⟩) (fun _ R s => s.heap.get? l = some { cls := .type "tuple", dict := dd, data := .seq items n, slots := sl } ∧
      R (.ok (.ret (Value.ref s.heap.objs.size))) { s with heap := s.heap.push { cls := Value.type "tuple", data := Data.seq #[] }, toks := s.toks }) :=
  .of_wp fun prog w A R s h => by
    obtain ⟨hp, g, d, tk, os⟩ := s
    obtain ⟨hl, h⟩ := h
    have f1 := AutoSeq1.idx_int
    wp_walk using wpAny_loadPart' hl
    exact ⟨_, rfl, h⟩
/-- a tuple once, or not at all -/
def rRep01 (K : PySem.W.Frag) : R2 := fun x y H Q => ∃ l k xs, x = .ref l ∧ y = .int k ∧ SqT K H l xs ∧ xs ≠ [] ∧ ((k = 1 ∧ Q (.ref l) H) ∨ (k = 0 ∧ ∀ p, H p = none → Q (.ref p) (upd H p (.tup []))))
theorem op_rep01 : OpR X (binaryOp .Mult) (rRep01 X.K) := by
  intro pins s σ H x y v u Q I rx ry h
  obtain ⟨l, k, xs, rfl, rfl, hT, hne, q⟩ := h
  cases rx
  obtain ⟨t, rfl⟩ := ry
  obtain ⟨its, r, ⟨⟨cls, dd, data, sl⟩, ho, hc, n, hd⟩, hs⟩ := I.tuple hT
  simp only at hc hd
  subst hc hd
  have hle : its.length = xs.length := r.length.symm
  have hn : its ≠ [] := fun e => hne (by
    rw [e] at hle
    exact List.eq_nil_of_length_eq_zero hle.symm)
  have hi : its.toArray.isEmpty = false := by
    cases its with
    | nil => exact absurd rfl hn
    | cons a b => rfl
  rcases q with ⟨rfl, q⟩ | ⟨rfl, q⟩
  · refine wpAny_binaryOp_repeat_ref (T := "tuple") (U := "int") (by decide) ⟨_, ho, rfl⟩ (fun s' => typeIs_int s' 1 t) noFill_tuple_mul F.fills_int_mul F.slot_int_rmul repeat_tuple F.slot_int_index.lookup
      (call_meets F.slot_int_rmul (typeIs_int s 1 t) F.entry_int_rmul (F.args_int_rmul_2 _ _) (int_rmul_tuple 1 t l its.toArray n dd sl)
        ⟨ho, rfl, ⟨_, ho, rfl⟩, call_meets F.slot_tuple_mul ⟨_, ho, rfl⟩ F.entry_tuple_mul (F.args_tuple_mul_2 _ _) (tuple_mul1 l its.toArray n dd sl t) ⟨ho, ?_⟩⟩)
    exact ⟨.ref l, H, I, rfl, q⟩
  · refine wpAny_binaryOp_repeat_ref (T := "tuple") (U := "int") (by decide) ⟨_, ho, rfl⟩ (fun s' => typeIs_int s' 0 t) noFill_tuple_mul F.fills_int_mul F.slot_int_rmul repeat_tuple F.slot_int_index.lookup
      (call_meets F.slot_int_rmul (typeIs_int s 0 t) F.entry_int_rmul (F.args_int_rmul_2 _ _) (int_rmul_tuple 0 t l its.toArray n dd sl)
        ⟨ho, rfl, ⟨_, ho, rfl⟩, call_meets F.slot_tuple_mul ⟨_, ho, rfl⟩ F.entry_tuple_mul (F.args_tuple_mul_2 _ _) (tuple_mul0 l its.toArray n dd sl t hi) ⟨ho, ?_⟩⟩)
    refine ⟨.ref s.heap.objs.size, _, I.laid (t' := s.toks) (o := .tup []) (fun b ob q => Heap.get?_push_of_some _ q) (Nat.le_refl _) ?_, rfl, q _ (I.hok.fresh (Nat.le_refl _))⟩
    exact ⟨Nat.zero_le _, _, .nil, IsTup.new _ _⟩
def rMulA (K : PySem.W.Frag) : R2 := fun x y H Q => ((rI CMul (fun i j => .int (i * j)) x y H Q ∨ rI CMulW (fun i j => .int (i * j)) x y H Q) ∨ rRepT K x y H Q) ∨ rRep01 K x y H Q
theorem op_mulA : OpR X (binaryOp .Mult) (rMulA X.K) := ((op_mul.or op_mulW).or op_repT).or op_rep01
theorem od_mul {K : PySem.W.Frag} : OpD K (rMulA K) mulD := by
  intro F H x y a b d Q xf ha hb hg q
  unfold mulD at hg
  split at hg
  · split at hg
    · cases hg
      rename_i hz
      rw [rs_int ha, rs_int hb]
      rcases mulOk_ok hz with h | h
      · exact .inl (.inl (.inl ⟨_, _, rfl, rfl, h, q.now xf (.int _)⟩))
      · exact .inl (.inl (.inr ⟨_, _, rfl, rfl, h, q.now xf (.int _)⟩))
    · cases hg
  · split at hg
    · cases hg
      rename_i hz
      obtain ⟨z1, z2, z3, z4⟩ := hz
      rw [rs_int hb]
      obtain ⟨p, vs, rfl, s1, d1⟩ := dp_tup (rs_tupF ha)
      have l1 := dpa_len d1
      refine .inl (.inr ⟨p, _, vs, rfl, rfl, ex_t xf s1, ?_, z2, z3, by omega, fun p hp => q.tupN xf ?_ hp⟩)
      · intro e
        subst e
        cases d1
        exact z1 rfl
      · rename_i n _
        generalize n.toNat = m
        induction m with
        | zero => exact .nil
        | succ m ih =>
          rw [List.replicate_succ, List.replicate_succ, List.flatten_cons, List.flatten_cons]
          exact dpa_append d1 ih
    · split at hg
      · rename_i hz
        obtain ⟨z1, rfl⟩ := hz
        cases hg
        have ha' := rs_tupF ha
        obtain ⟨p, vs, rfl, s1, d1⟩ := dp_tup ha'
        rw [rs_int hb]
        exact .inr ⟨p, _, vs, rfl, rfl, ex_t xf s1, fun e => by subst e; cases d1; exact z1 rfl, .inl ⟨rfl, q.now xf ha'⟩⟩
      · split at hg
        · rename_i hz
          obtain ⟨z1, rfl⟩ := hz
          cases hg
          have ha' := rs_tupF ha
          obtain ⟨p, vs, rfl, s1, d1⟩ := dp_tup ha'
          rw [rs_int hb]
          exact .inr ⟨p, _, vs, rfl, rfl, ex_t xf s1, fun e => by subst e; cases d1; exact z1 rfl, .inr ⟨rfl, fun p hp => q.tupN xf .nil hp⟩⟩
        · cases hg
  · cases hg
theorem od_fdiv {K : PySem.W.Frag} : OpD K (rI CDivW fun i j => .int (i / j)) fdivD := by
  intro F H x y a b d Q xf ha hb hg q
  unfold fdivD at hg
  split at hg
  · split at hg
    · cases hg
      rename_i hz
      rw [rs_int ha, rs_int hb]
      exact ⟨_, _, rfl, rfl, wide_div hz.1 hz.2 (by decide) (by decide), q.now xf (.int _)⟩
    · cases hg
  · cases hg
theorem od_mod {K : PySem.W.Frag} : OpD K (rI (fun _ j => 0 < j) fun i j => .int (i % j)) modD := by
  intro F H x y a b d Q xf ha hb hg q
  unfold modD at hg
  split at hg
  · split at hg
    · cases hg
      rename_i hz
      rw [rs_int ha, rs_int hb]
      exact ⟨_, _, rfl, rfl, hz, q.now xf (.int _)⟩
    · cases hg
  · cases hg
theorem od_pow {K : PySem.W.Frag} : OpD K (rI CPow fun i j => .int (i ^ j.toNat)) powD := by
  intro F H x y a b d Q xf ha hb hg q
  unfold powD at hg
  split at hg
  · split at hg
    · cases hg
      rename_i hz
      obtain ⟨z1, z2, z3⟩ := hz
      rw [rs_int ha, rs_int hb]
      exact ⟨_, _, rfl, rfl, ⟨z1, by omega, z3⟩, q.now xf (.int _)⟩
    · cases hg
  · cases hg
theorem ud_neg {K : PySem.W.Frag} : UnD K (rU fun i => .int (-i)) negD := by
  intro F H x a d Q xf ha hg q
  unfold negD at hg
  split at hg
  · cases hg
    rw [rs_int ha]
    exact ⟨_, rfl, q.now xf (.int _)⟩
  · cases hg
theorem od_lt {K : PySem.W.Frag} : OpD K (rI0 fun i j => .bl (decide (i < j))) ltD := by
  intro F H x y a b d Q xf ha hb hg q
  unfold ltD at hg
  split at hg
  · cases hg
    rw [rs_int ha, rs_int hb]
    exact ⟨_, _, rfl, rfl, q.now xf (.bl _)⟩
  · cases hg
theorem od_gt {K : PySem.W.Frag} : OpD K (rI0 fun i j => .bl (decide (j < i))) gtD := by
  intro F H x y a b d Q xf ha hb hg q
  unfold gtD at hg
  split at hg
  · cases hg
    rw [rs_int ha, rs_int hb]
    exact ⟨_, _, rfl, rfl, q.now xf (.bl _)⟩
  · cases hg
theorem od_ge {K : PySem.W.Frag} : OpD K (rI0 fun i j => .bl (decide (j ≤ i))) geD := by
  intro F H x y a b d Q xf ha hb hg q
  unfold geD at hg
  split at hg
  · cases hg
    rw [rs_int ha, rs_int hb]
    exact ⟨_, _, rfl, rfl, q.now xf (.bl _)⟩
  · cases hg
theorem od_eq {K : PySem.W.Frag} : OpD K (rEqD K) eqD := by
  intro F H x y a b d Q xf ha hb hg q
  unfold eqD at hg
  split at hg
  · cases hg
    rename_i hz
    exact ⟨a, b, dp_sh (ha.dp xf) hz.1, dp_sh (hb.dp xf) hz.2, hz.1, hz.2, q.now xf (.bl _)⟩
  · cases hg
theorem od_ne {K : PySem.W.Frag} : OpD K (rNeD K) neD := by
  intro F H x y a b d Q xf ha hb hg q
  unfold neD at hg
  split at hg
  · cases hg
    rename_i hz
    exact ⟨a, b, dp_sh (ha.dp xf) hz.1, dp_sh (hb.dp xf) hz.2, hz.1, hz.2, q.now xf (.bl _)⟩
  · cases hg
/-- is None, is not None -/
theorem dp_isN {K : PySem.W.Frag} {F H : Hp} {x : V} {a : D} (h : Rs K F H x a) : isND a = some (.bool (decide (x = .non))) ∧ notND a = some (.bool (!decide (x = .non))) := by
  rcases h with h | ⟨_, _, _, rfl, rfl, _⟩
  · cases h <;> exact ⟨rfl, rfl⟩
  · exact ⟨rfl, rfl⟩
theorem ud_isN {K : PySem.W.Frag} : UnD K (fun x H Q => Q (.bl (decide (x = .non))) H) isND := by
  intro F H x a d Q xf ha hg q
  rw [(dp_isN ha).1] at hg
  cases hg
  exact q.now xf (.bl _)
theorem ud_notN {K : PySem.W.Frag} : UnD K (fun x H Q => Q (.bl (!decide (x = .non))) H) notND := by
  intro F H x a d Q xf ha hg q
  rw [(dp_isN ha).2] at hg
  cases hg
  exact q.now xf (.bl _)
/-- items -/
theorem atI_dp {K : PySem.W.Frag} {F : Hp} {vs : List V} {ds : List D} {i : Int} {d : D} (h : DpAll K F vs ds) (e : atI ds i = some d) : ∃ v, atI vs i = some v ∧ Dp K F v d := by
  unfold atI at e ⊢
  rw [dpa_len h]
  obtain ⟨j, e1, e2⟩ := Option.bind_eq_some_iff.mp e
  obtain ⟨v, e3, e4⟩ := dpa_get h e2
  exact ⟨v, by rw [e1]; exact e3, e4⟩
theorem od_ix {K : PySem.W.Frag} : OpD K (rIx K) ixD := by
  intro F H x y a b d Q xf ha hb hg q
  unfold ixD at hg
  split at hg
  · rw [rs_int hb]
    obtain ⟨p, vs, rfl, s1, d1⟩ := ha.tup xf
    obtain ⟨v, e, h⟩ := atI_dp d1 hg
    exact .inr (.inl ⟨_, _, _, _, rfl, rfl, s1, e, q.now xf h⟩)
  · rw [rs_int hb]
    obtain ⟨p, vs, rfl, s1, d1⟩ := ha.lst xf
    obtain ⟨v, e, h⟩ := atI_dp d1 hg
    exact .inl ⟨_, _, _, _, rfl, rfl, s1, e, q.now xf h⟩
  · split at hg
    · rename_i hz
      obtain ⟨c, e, rfl⟩ := Option.map_eq_some_iff.mp hg
      rw [rs_int hb, rs_str ha]
      exact .inr (.inr ⟨_, _, _, rfl, rfl, Nat.le_trans (sml_le hz) big_line, e, q.now xf (.str _)⟩)
    · cases hg
  · cases hg
end

/-! ### rules of expressions -/
section
variable {X : Cx} {a b c : Expr} {f g h : FE} {pos : Pos}
theorem de_var (i : Nat) {x : Str} {pos : Pos} (hN : X.N[i]? = some x := by rfl) (hv : Vis X.env.scope x := by first | exact Or.inl rfl | exact Or.inr (Or.inl rfl) | exact Or.inr (Or.inr rfl)) (hd : (x == ("__debug__" : Str)) = false := by decide)
    (hcd : (x == ("__classdict__" : Str)) = false := by decide) : DE X (.Name x pos) (vr i) := pe_imp (pe_var hN hv hd hcd) fun σ H Q ⟨B, F0, F, e, d, ok, fe, q⟩ => by
  unfold vr at fe
  split at fe
  · cases fe
    rename_i h
    obtain ⟨v, h1, h2⟩ := ok.sh i _ h
    exact ⟨v, h1, q v F H (Gr.refl ok.fh) h2⟩
  · cases fe
theorem dr_var (i : Nat) {x : Str} {pos : Pos} (hN : X.N[i]? = some x := by rfl) (hv : Vis X.env.scope x := by first | exact Or.inl rfl | exact Or.inr (Or.inl rfl) | exact Or.inr (Or.inr rfl)) (hd : (x == ("__debug__" : Str)) = false := by decide)
    (hcd : (x == ("__classdict__" : Str)) = false := by decide) : DR X (.Name x pos) (vo i) := pe_imp (pe_var hN hv hd hcd) fun σ H Q ⟨B, F0, F, e, d, ok, fe, q⟩ => by
  unfold vo at fe
  split at fe
  · cases fe
    rename_i h
    obtain ⟨v, h1, h2⟩ := ok.sh i _ h
    exact ⟨v, h1, q v F H (Gr.refl ok.fh) (.inl h2)⟩
  · cases fe
    rename_i h
    obtain ⟨a, vs, h1, h2, h3, h4, h5⟩ := ok.ow i _ h
    exact ⟨_, h1, q _ F H (Gr.refl ok.fh) (.inr ⟨a, vs, _, rfl, rfl, h2, h5⟩)⟩
  · cases fe
/-- a value that stands still -/
theorem de_cst {e : Expr} {v : V} {d : D} (h : PE X e (tC v)) (hd : ∀ F, Dp X.K F v d) : DE X e (cst d) := pe_imp h fun σ H Q ⟨B, F0, F, e, d', ok, fe, q⟩ => by
  cases fe
  exact q v F H (Gr.refl ok.fh) (hd F)
theorem de_int {i : Int} {j : Nat} : DE X (.Constant (.int i) j pos) (cst (.int i)) := de_cst pe_int fun _ => .int i
theorem de_bl {i : Bool} {j : Nat} : DE X (.Constant (.bool i) j pos) (cst (.bool i)) := de_cst pe_bl fun _ => .bl i
theorem de_str {i : Str} {j : Nat} : DE X (.Constant (.str i) j pos) (cst (.str i)) := de_cst pe_str fun _ => .str i
theorem de_non {j : Nat} : DE X (.Constant .none j pos) (cst .none) := de_cst pe_non fun _ => .non
/-- a constant of the module -/
theorem de_gint {x : Str} {i : Int} {t : Tok} (hg : Gl X x) (hm : X.mg x = some (.int i t)) (hd : (x == ("__debug__" : Str)) = false := by decide) : DE X (.Name x pos) (cst (.int i)) := de_cst (v := .int i) (pe_glob hg hm ⟨t, rfl⟩ hd) fun _ => .int i
theorem de_gstr {x : Str} {i : Str} {t : Tok} (hg : Gl X x) (hm : X.mg x = some (.str i t)) (hd : (x == ("__debug__" : Str)) = false := by decide) : DE X (.Name x pos) (cst (.str i)) := de_cst (v := .str i) (pe_glob hg hm ⟨t, rfl⟩ hd) fun _ => .str i

theorem bind2 {α β γ : Type} {x : Option α} {y : Option β} {g : α → β → Option γ} {z : γ} (h : (x.bind fun a => y.bind fun b => g a b) = some z) : ∃ a b, x = some a ∧ y = some b ∧ g a b = some z := by
  obtain ⟨a, e1, h⟩ := Option.bind_eq_some_iff.mp h
  obtain ⟨b, e2, h⟩ := Option.bind_eq_some_iff.mp h
  exact ⟨a, b, e1, e2, h⟩
theorem bind1 {α γ : Type} {x : Option α} {g : α → Option γ} {z : γ} (h : x.bind g = some z) : ∃ a, x = some a ∧ g a = some z := Option.bind_eq_some_iff.mp h

theorem dr_read {r : R2} {G : D → D → Option D} (hd : OpD X.K r G) (σ : L2.St) (H : Hp) (Q : VK) (h : TD X.K (c2 G f g) σ H Q) : tOp r (TR X.K f) (TR X.K g) σ H Q := by
  obtain ⟨B, F0, F, e, d, ok, fe, q⟩ := h
  obtain ⟨x, y, hx, hy, fe⟩ := bind2 fe
  refine ⟨B, F0, F, e, x, ok, hx, fun v F1 H1 g1 r1 => ⟨B, F0, F1, e, y, ok.grow g1, hy, fun u F2 H2 g2 r2 => ?_⟩⟩
  exact hd F2 H2 v u x y d Q g2.fh (r1.grow g2) r2 fe fun w F' H' g3 dp => q w F' H' ((g1.trans g2).trans g3) dp
theorem de_op {op : Operator} {r : R2} {G : D → D → Option D} (ho : OpR X (binaryOp op) r) (hd : OpD X.K r G) (ha : DR X a f) (hb : DR X b g) : DE X (.BinOp a op b pos) (c2 G f g) := pe_imp (pe_op ho ha hb) (dr_read hd)
theorem de_add (ha : DR X a f) (hb : DR X b g) : DE X (.BinOp a .Add b pos) (c2 addD f g) := de_op op_addA od_add ha hb
theorem de_sub (ha : DR X a f) (hb : DR X b g) : DE X (.BinOp a .Sub b pos) (c2 subD f g) := de_op op_sub od_sub ha hb
theorem de_mul (ha : DR X a f) (hb : DR X b g) : DE X (.BinOp a .Mult b pos) (c2 mulD f g) := de_op op_mulA od_mul ha hb
theorem de_fdiv (ha : DR X a f) (hb : DR X b g) : DE X (.BinOp a .FloorDiv b pos) (c2 fdivD f g) := de_op op_fdivW od_fdiv ha hb
theorem de_mod (ha : DR X a f) (hb : DR X b g) : DE X (.BinOp a .Mod b pos) (c2 modD f g) := de_op op_mod od_mod ha hb
theorem de_pow (ha : DR X a f) (hb : DR X b g) : DE X (.BinOp a .Pow b pos) (c2 powD f g) := de_op op_pow od_pow ha hb
theorem de_neg (ha : DR X a f) : DE X (.UnaryOp .USub a pos) (c1 negD f) := pe_imp (pe_un un_neg ha) fun σ H Q ⟨B, F0, F, e, d, ok, fe, q⟩ => by
  obtain ⟨x, hx, fe⟩ := bind1 fe
  exact ⟨B, F0, F, e, x, ok, hx, fun v F1 H1 g1 r1 => ud_neg F1 H1 v x d Q g1.fh r1 fe fun w F' H' g3 dp => q w F' H' (g1.trans g3) dp⟩
/-- items -/
theorem de_ix (ha : DR X a f) (hb : DR X b g) (hs : PlainIx b := by exact fun _ _ => rfl) : DE X (.Subscript a b pos) (c2 ixD f g) := pe_imp (pe_ix ix_seq ha hb hs) (dr_read od_ix)
/-- comparisons as values -/
theorem de_cmp {op : CmpOp} {r : R2} {G : D → D → Option D} (ho : OpR X (compareOp op) r) (hd : OpD X.K r G) (ha : DR X a f) (hb : DR X b g) (hm : behindInMarks op b = false) : DE X (.Compare a [op] [b] pos) (c2 G f g) := pe_imp (pe_cmpR ho ha hb hm) (dr_read hd)
theorem de_isN {j : Nat} {p : Pos} (ha : DR X a f) : DE X (.Compare a [.Is] [.Constant .none j p] pos) (c1 isND f) := pe_imp (pe_cmp (pc_isN ha)) fun σ H Q ⟨B, F0, F, e, d, ok, fe, q⟩ => by
  obtain ⟨x, hx, fe⟩ := bind1 fe
  exact ⟨B, F0, F, e, x, ok, hx, fun v F1 H1 g1 r1 => ud_isN F1 H1 v x d Q g1.fh r1 fe fun w F' H' g3 dp => q w F' H' (g1.trans g3) dp⟩
theorem de_notN {j : Nat} {p : Pos} (ha : DR X a f) : DE X (.Compare a [.IsNot] [.Constant .none j p] pos) (c1 notND f) := pe_imp (pe_cmp (pc_notN ha)) fun σ H Q ⟨B, F0, F, e, d, ok, fe, q⟩ => by
  obtain ⟨x, hx, fe⟩ := bind1 fe
  exact ⟨B, F0, F, e, x, ok, hx, fun v F1 H1 g1 r1 => ud_notN F1 H1 v x d Q g1.fh r1 fe fun w F' H' g3 dp => q w F' H' (g1.trans g3) dp⟩
/-- .. as tests -/
theorem tst_read {t : TE} (hd : ∀ σ H Q, TD X.K f σ H Q → t σ H Q) (σ : L2.St) (H : Hp) (Q : Bool → Hp → Prop) (h : TB X.K (tst f) σ H Q) : tTest t σ H Q := by
  obtain ⟨B, F0, F, e, k, ok, fe, q⟩ := h
  obtain ⟨x, hx, fe⟩ := bind1 fe
  refine hd _ _ _ ⟨B, F0, F, e, x, ok, hx, fun v F1 H1 g1 r1 => ?_⟩
  unfold asB at fe
  split at fe
  · cases fe
    exact ⟨k, dp_bl r1, q F1 H1 g1⟩
  · cases fe
theorem dt_cmp {op : CmpOp} {r : R2} {G : D → D → Option D} (ho : OpR X (compareOp op) r) (hd : OpD X.K r G) (ha : DR X a f) (hb : DR X b g) (hm : behindInMarks op b = false) : DT X (.Compare a [op] [b] pos) (tst (c2 G f g)) :=
  pt_imp (pt_cmpR ho ha hb hm) (tst_read (dr_read hd))
theorem dt_isN {j : Nat} {p : Pos} (ha : DR X a f) : DT X (.Compare a [.Is] [.Constant .none j p] pos) (tst (c1 isND f)) := pt_imp (pt_cmp (pc_isN ha)) (tst_read fun σ H Q ⟨B, F0, F, e, d, ok, fe, q⟩ => by
  obtain ⟨x, hx, fe⟩ := bind1 fe
  exact ⟨B, F0, F, e, x, ok, hx, fun v F1 H1 g1 r1 => ud_isN F1 H1 v x d Q g1.fh r1 fe fun w F' H' g3 dp => q w F' H' (g1.trans g3) dp⟩)
theorem dt_notN {j : Nat} {p : Pos} (ha : DR X a f) : DT X (.Compare a [.IsNot] [.Constant .none j p] pos) (tst (c1 notND f)) := pt_imp (pt_cmp (pc_notN ha)) (tst_read fun σ H Q ⟨B, F0, F, e, d, ok, fe, q⟩ => by
  obtain ⟨x, hx, fe⟩ := bind1 fe
  exact ⟨B, F0, F, e, x, ok, hx, fun v F1 H1 g1 r1 => ud_notN F1 H1 v x d Q g1.fh r1 fe fun w F' H' g3 dp => q w F' H' (g1.trans g3) dp⟩)
theorem dt_val {e : Expr} (ha : DE X e f) (he : ∀ whole, isTrue e X.env whole = (do let v ← whole; standAt e.pos; holding [v] (truthy v)) := by intro _; rfl) : DT X e (tst f) := pt_imp (pt_val ha he) (tst_read fun _ _ _ h => h)
/-- chains -/
def chD (G G' : D → D → Option D) (f g h : FE) : FE := fun e => (f e).bind fun x => (g e).bind fun y => (G x y).bind fun z => (asB z).bind fun k => if k = true then (h e).bind fun w => G' y w else some (.bool false)
theorem ch_read {r r' : R2} {G G' : D → D → Option D} (hd : OpD X.K r G) (hd' : OpD X.K r' G') (σ : L2.St) (H : Hp) (Q : VK) (hq : TD X.K (chD G G' f g h) σ H Q) : tChain r r' (TR X.K f) (TR X.K g) (TR X.K h) σ H Q := by
  obtain ⟨B, F0, F, e, d, ok, fe, q⟩ := hq
  obtain ⟨x, y, hx, hy, fe⟩ := bind2 fe
  obtain ⟨z, hz, fe⟩ := bind1 fe
  obtain ⟨k, hk, fe⟩ := bind1 fe
  refine ⟨B, F0, F, e, x, ok, hx, fun v F1 H1 g1 r1 => ⟨B, F0, F1, e, y, ok.grow g1, hy, fun u F2 H2 g2 r2 => ?_⟩⟩
  refine hd F2 H2 v u x y z _ g2.fh (r1.grow g2) r2 hz fun w F' H' g3 dp => ⟨k, ?_, ?_⟩
  · unfold asB at hk
    split at hk
    · cases hk; exact dp_bl dp
    · cases hk
  · cases k with
    | false =>
      simp only [Bool.false_eq_true, if_false] at fe ⊢
      cases fe
      exact q _ F' H' ((g1.trans g2).trans g3) (.bl _)
    | true =>
      simp only [if_true] at fe ⊢
      obtain ⟨w', hw, fe⟩ := bind1 fe
      refine ⟨B, F0, F', e, w', ((ok.grow g1).grow g2).grow g3, hw, fun u' F4 H4 g4 r4 => ?_⟩
      exact hd' F4 H4 u u' y w' d Q g4.fh ((r2.grow g3).grow g4) r4 fe fun w F' H' g5 dp => q w F' H' ((((g1.trans g2).trans g3).trans g4).trans g5) dp
theorem de_chain {op op' : CmpOp} {r r' : R2} {G G' : D → D → Option D} (ho : OpR X (compareOp op) r) (hd : OpD X.K r G) (ho' : OpR X (compareOp op') r') (hd' : OpD X.K r' G') (ha : DR X a f) (hb : DR X b g) (hc : DR X c h)
    (hm : lastMarks [op, op'] [b, c] = false := by with_unfolding_all rfl) : DE X (.Compare a [op, op'] [b, c] pos) (chD G G' f g h) := pe_imp (pe_chain ho ho' ha hb hc hm) (ch_read hd hd')
theorem dt_chain {op op' : CmpOp} {r r' : R2} {G G' : D → D → Option D} (ho : OpR X (compareOp op) r) (hd : OpD X.K r G) (ho' : OpR X (compareOp op') r') (hd' : OpD X.K r' G') (ha : DR X a f) (hb : DR X b g) (hc : DR X c h)
    (hm : lastMarks [op, op'] [b, c] = false := by with_unfolding_all rfl) : DT X (.Compare a [op, op'] [b, c] pos) (tst (chD G G' f g h)) := pt_imp (pt_chain ho ho' ha hb hc hm) (tst_read (ch_read hd hd'))
/-! and, or, not -/
variable {p q : FB} {rest : List Expr}
theorem DW.dt {e : Expr} (h : DW X e p) : DT X e p := PW.pt h
theorem dw_and1 (ha : DT X a p) : DW X (.BoolOp .And [a] pos) p := pw_and1 ha
theorem dw_or1 (ha : DT X a p) : DW X (.BoolOp .Or [a] pos) p := pw_or1 ha
theorem dw_and (ha : DT X a p) (hb : DW X (.BoolOp .And (b :: rest) pos) q) : DW X (.BoolOp .And (a :: b :: rest) pos) (andT p q) := pw_imp (pw_and ha hb) fun σ H Q ⟨B, F0, F, e, k, ok, fe, hq⟩ => by
  obtain ⟨x, hx, fe⟩ := bind1 fe
  refine ⟨B, F0, F, e, x, ok, hx, fun F1 H1 g1 => ?_⟩
  cases x with
  | true => simp only [if_true] at fe ⊢; exact ⟨B, F0, F1, e, k, ok.grow g1, fe, fun F2 H2 g2 => hq F2 H2 (g1.trans g2)⟩
  | false => simp only [Bool.false_eq_true, if_false] at fe ⊢; cases fe; exact hq F1 H1 g1
theorem dw_or (ha : DT X a p) (hb : DW X (.BoolOp .Or (b :: rest) pos) q) : DW X (.BoolOp .Or (a :: b :: rest) pos) (orT p q) := pw_imp (pw_or ha hb) fun σ H Q ⟨B, F0, F, e, k, ok, fe, hq⟩ => by
  obtain ⟨x, hx, fe⟩ := bind1 fe
  refine ⟨B, F0, F, e, x, ok, hx, fun F1 H1 g1 => ?_⟩
  cases x with
  | false => simp only [Bool.false_eq_true, if_false] at fe ⊢; exact ⟨B, F0, F1, e, k, ok.grow g1, fe, fun F2 H2 g2 => hq F2 H2 (g1.trans g2)⟩
  | true => simp only [if_true] at fe ⊢; cases fe; exact hq F1 H1 g1
theorem dt_not (ha : DT X a p) : DT X (.UnaryOp .Not a pos) (notT p) := pt_imp (pt_not ha) fun σ H Q ⟨B, F0, F, e, k, ok, fe, hq⟩ => by
  obtain ⟨x, hx, rfl⟩ := Option.map_eq_some_iff.mp fe
  exact ⟨B, F0, F, e, x, ok, hx, hq⟩
theorem asB_of {F : Hp} {x : D} {k : Bool} {v : V} (h : asB x = some k) (d : Dp X.K F v x) : v = .bl k := by
  unfold asB at h
  split at h
  · cases h; exact dp_bl d
  · cases h
theorem de_one {op : BoolOp} (h : DE X a f) : DE X (.BoolOp op [a] pos) f := pe_one h
theorem de_and (ha : DE X a f) (hb : DE X (.BoolOp .And (b :: rest) pos) g) : DE X (.BoolOp .And (a :: b :: rest) pos) (andV f g) := pe_imp (pe_and ha hb) fun σ H Q ⟨B, F0, F, e, d, ok, fe, hq⟩ => by
  obtain ⟨x, hx, fe⟩ := bind1 fe
  obtain ⟨k, hk, fe⟩ := bind1 fe
  refine ⟨B, F0, F, e, x, ok, hx, fun v F1 H1 g1 d1 => ⟨k, asB_of hk d1, ?_⟩⟩
  cases k with
  | true => simp only [if_true] at fe ⊢; exact ⟨B, F0, F1, e, d, ok.grow g1, fe, fun w F2 H2 g2 => hq w F2 H2 (g1.trans g2)⟩
  | false => simp only [Bool.false_eq_true, if_false] at fe ⊢; cases fe; exact hq _ F1 H1 g1 (.bl _)
theorem de_or (ha : DE X a f) (hb : DE X (.BoolOp .Or (b :: rest) pos) g) : DE X (.BoolOp .Or (a :: b :: rest) pos) (orV f g) := pe_imp (pe_or ha hb) fun σ H Q ⟨B, F0, F, e, d, ok, fe, hq⟩ => by
  obtain ⟨x, hx, fe⟩ := bind1 fe
  obtain ⟨k, hk, fe⟩ := bind1 fe
  refine ⟨B, F0, F, e, x, ok, hx, fun v F1 H1 g1 d1 => ⟨k, asB_of hk d1, ?_⟩⟩
  cases k with
  | false => simp only [Bool.false_eq_true, if_false] at fe ⊢; exact ⟨B, F0, F1, e, d, ok.grow g1, fe, fun w F2 H2 g2 => hq w F2 H2 (g1.trans g2)⟩
  | true => simp only [if_true] at fe ⊢; cases fe; exact hq _ F1 H1 g1 (.bl _)
theorem de_not (ha : DE X a f) : DE X (.UnaryOp .Not a pos) (notV f) := pe_imp (pe_not ha) fun σ H Q ⟨B, F0, F, e, d, ok, fe, hq⟩ => by
  obtain ⟨x, hx, fe⟩ := bind1 fe
  obtain ⟨k, hk, rfl⟩ := Option.map_eq_some_iff.mp fe
  exact ⟨B, F0, F, e, x, ok, hx, fun v F1 H1 g1 d1 => ⟨k, asB_of hk d1, hq _ F1 H1 g1 (.bl _)⟩⟩
theorem de_ife (hc : DT X c p) (ha : DE X a f) (hb : DE X b g) : DE X (.IfExp c a b pos) (ifE p f g) := pe_imp (pe_ifExp hc ha hb) fun σ H Q ⟨B, F0, F, e, d, ok, fe, hq⟩ => by
  obtain ⟨k, hk, fe⟩ := bind1 fe
  refine ⟨B, F0, F, e, k, ok, hk, fun F1 H1 g1 => ?_⟩
  cases k with
  | false => simp only [Bool.false_eq_true, if_false] at fe ⊢; exact ⟨B, F0, F1, e, d, ok.grow g1, fe, fun w F2 H2 g2 => hq w F2 H2 (g1.trans g2)⟩
  | true => simp only [if_true] at fe ⊢; exact ⟨B, F0, F1, e, d, ok.grow g1, fe, fun w F2 H2 g2 => hq w F2 H2 (g1.trans g2)⟩
/-! arguments, displays -/
variable {es : List Expr} {fa : FA}
theorem da_nil : DA X [] nilA := pa_imp pa_nil fun σ H Q ⟨B, F0, F, e, d, ok, fe, hq⟩ => by
  cases fe
  exact hq [] F H (Gr.refl ok.fh) .nil
theorem da_cons (ha : DE X a f) (hr : DA X es fa) (hs : starEach (a :: es) X.env = (false, eval a X.env) :: starEach es X.env := by rfl) : DA X (a :: es) (consA f fa) := pa_imp (pa_cons ha hr hs) fun σ H Q ⟨B, F0, F, e, d, ok, fe, hq⟩ => by
  obtain ⟨x, y, hx, hy, fe⟩ := bind2 fe
  cases fe
  exact ⟨B, F0, F, e, x, ok, hx, fun v F1 H1 g1 d1 => ⟨B, F0, F1, e, y, ok.grow g1, hy, fun vs F2 H2 g2 d2 => hq _ F2 H2 (g1.trans g2) (.cons (dp_mono g2.ff d1) d2)⟩⟩
theorem de_tup {x1 : Nat} (h : DA X es fa) (hl : ∀ e ds, fa e = some ds → ds.length ≤ big) : DE X (.Tuple es x1 pos) (tup fa) := pe_imp (pe_tup h) fun σ H Q ⟨B, F0, F, e, d, ok, fe, hq⟩ => by
  obtain ⟨xs, hx, rfl⟩ := Option.map_eq_some_iff.mp fe
  refine ⟨B, F0, F, e, xs, ok, hx, fun vs F1 H1 g1 d1 => ⟨?_, fun p hp => ?_⟩⟩
  · rw [dpa_len d1]; exact Nat.le_trans (hl _ _ hx) big_line
  · exact Kn.tupN (K := X.K) (fun v F' H' g2 dp => hq v F' H' (g1.trans g2) dp) g1.fh d1 hp
theorem dn_lst (h : DA X es fa) (hl : ∀ e ds, fa e = some ds → ds.length ≤ big) : DN X (.List es pos) fa := pe_imp (pe_lst h) fun σ H Q ⟨B, F0, F, e, xs, ok, hx, hq⟩ => by
  refine ⟨B, F0, F, e, xs, ok, hx, fun vs F1 H1 g1 d1 => ⟨?_, fun p hp => ?_⟩⟩
  · rw [dpa_len d1]; exact Nat.le_trans (hl _ _ hx) big_line
  · exact hq p vs F1 _ (g1.trans (Gr.loose g1.fh hp)) (g1.fb hp) (fresh_back g1.fh hp) upd_same d1
theorem ln_nil : ∀ e ds, nilA e = some ds → ds.length ≤ 0 := fun e ds h => by cases h; exact Nat.le_refl _
theorem ln_cons {n : Nat} (h : ∀ e ds, fa e = some ds → ds.length ≤ n) : ∀ e ds, consA f fa e = some ds → ds.length ≤ n + 1 := fun e ds hx => by
  obtain ⟨x, y, hx, hy, fe⟩ := bind2 hx
  cases fe
  exact Nat.succ_le_succ (h _ _ hy)
theorem ln_big {n : Nat} (h : ∀ e ds, fa e = some ds → ds.length ≤ n) (hn : n ≤ big := by decide) : ∀ e ds, fa e = some ds → ds.length ≤ big := fun e ds hx => Nat.le_trans (h e ds hx) hn
end
end DL

/-! DLay3: statements, targets, loops, comprehensions, defs. -/
namespace DL
open PySem PySem.Spec PyProof.Rows L2 Evl

inductive Fl where
  | nx (e : DEnv) | rt (d : D) | bk (e : DEnv) | ct (e : DEnv)
abbrev FS := DEnv → Option Fl
def Post (K : PySem.W.Frag) (B F0 F : Hp) (D : Ends) : Fl → Prop
  | .nx e => ∀ σ' F' H', Ex F F' → Ok K B F0 F' σ' H' e → D.nx σ' H'
  | .bk e => ∀ σ' F' H', Ex F F' → Ok K B F0 F' σ' H' e → D.bk σ' H'
  | .ct e => ∀ σ' F' H', Ex F F' → Ok K B F0 F' σ' H' e → D.ct σ' H'
  | .rt d => ∀ v F' H', Gr F0 B F' H' → Dp K F' v d → D.rt v H'
theorem Post.mono {K : PySem.W.Frag} {B F0 F F1 : Hp} {D : Ends} {r : Fl} (x : Ex F F1) (h : Post K B F0 F D r) : Post K B F0 F1 D r := by
  cases r with
  | nx e => exact fun σ' F' H' x' => h σ' F' H' (x.trans x')
  | bk e => exact fun σ' F' H' x' => h σ' F' H' (x.trans x')
  | ct e => exact fun σ' F' H' x' => h σ' F' H' (x.trans x')
  | rt d => exact h
def TSm (K : PySem.W.Frag) (f : FS) : TS := fun D σ H => ∃ B F0 F e r, Ok K B F0 F σ H e ∧ f e = some r ∧ Post K B F0 F D r
def DS (X : Cx) (st : Stmt) (f : FS) : Prop := PS X st (TSm X.K f)
def DSs (X : Cx) (st : List Stmt) (f : FS) : Prop := PSs X st (TSm X.K f)

/-! ### denotations -/
def sNx : FS := fun e => some (.nx e)
def sq (f g : FS) : FS := fun e => (f e).bind fun r => match r with
  | .nx e' => g e'
  | .rt d => some (.rt d)
  | .bk e' => some (.bk e')
  | .ct e' => some (.ct e')
def sAsg (i : Nat) (f : FE) : FS := fun e => (f e).map fun d => .nx (e.set i (some (.sh d)))
def sNew (i : Nat) (f : FA) : FS := fun e => (f e).map fun d => .nx (e.set i (some (.ow d)))
def sRet (f : FE) : FS := fun e => (f e).map .rt
def sIf (p : FB) (f g : FS) : FS := fun e => (p e).bind fun b => if b = true then f e else g e
def owAt (i : Nat) (e : DEnv) : Option (List D) := match e[i]? with
  | some (some (.ow xs)) => some xs
  | _ => none
def sApp (i : Nat) (f : FE) : FS := fun e => (f e).bind fun d => (owAt i e).bind fun xs => if sml (xs.length + 1) = true then some (.nx (e.set i (some (.ow (xs ++ [d]))))) else none
def sIns (i : Nat) (g f : FE) : FS := fun e => (g e).bind fun k => (f e).bind fun d => (owAt i e).bind fun xs => match k with
  | .int n => if sml (xs.length + 1) = true ∧ 0 ≤ n ∧ n < 2 ^ 63 then some (.nx (e.set i (some (.ow (xs.take n.toNat ++ [d] ++ xs.drop n.toNat))))) else none
  | _ => none
def sSet (i : Nat) (g f : FE) : FS := fun e => (f e).bind fun d => (g e).bind fun k => (owAt i e).bind fun xs => match k with
  | .int n => (ixN xs.length n).bind fun j => some (.nx (e.set i (some (.ow (xs.set j d)))))
  | _ => none
def seqOf : D → Option (List D)
  | .list xs => some xs
  | .tuple xs => some xs
  | _ => none
def sExt (i : Nat) (f : FE) : FS := fun e => (f e).bind fun d => (seqOf d).bind fun ys => (owAt i e).bind fun xs => if sml (xs.length + ys.length) = true then some (.nx (e.set i (some (.ow (xs ++ ys))))) else none
def frzE (i : Nat) (e : DEnv) : DEnv := match e[i]? with
  | some (some (.ow xs)) => e.set i (some (.sh (.list xs)))
  | some (some (.od ds)) => e.set i (some (.sh (.dict ds)))
  | _ => e
def sFrz (i : Nat) (f : FS) : FS := fun e => f (frzE i e)
abbrev BD := D → DEnv → Option DEnv
def bNm (i : Nat) : BD := fun d e => some (e.set i (some (.sh d)))
def bAll : List BD → List D → DEnv → Option DEnv
  | [], [], e => some e
  | b :: bs, d :: ds, e => (b d e).bind fun e' => bAll bs ds e'
  | _, _, _ => none
def bTp (bs : List BD) : BD := fun d e => match d with
  | .tuple ds => bAll bs ds e
  | _ => none
def sAsgT (b : BD) (f : FE) : FS := fun e => (f e).bind fun d => (b d e).map .nx
def sPar (i j : Nat) (f : FA) : FS := fun e => (f e).bind fun ds => match ds with
  | [v, w] => some (.nx ((e.set i (some (.sh v))).set j (some (.sh w))))
  | _ => none
def forD (b : BD) (body : FS) : List D → DEnv → Option Fl
  | [], e => some (.nx e)
  | d :: ds, e => (b d e).bind fun e1 => (body e1).bind fun r => match r with
    | .nx e2 => forD b body ds e2
    | .ct e2 => forD b body ds e2
    | .bk e2 => some (.nx e2)
    | .rt v => some (.rt v)
def sFor (fi : FA) (b : BD) (body : FS) : FS := fun e => (fi e).bind fun ds => forD b body ds e
def whileD (c : FB) (body : FS) : Nat → DEnv → Option Fl
  | 0, _ => none
  | n + 1, e => (c e).bind fun k => if k = true then (body e).bind fun r => match r with
      | .nx e2 => whileD c body n e2
      | .ct e2 => whileD c body n e2
      | .bk e2 => some (.nx e2)
      | .rt v => some (.rt v)
    else some (.nx e)
def sWhile (μ : DEnv → Nat) (c : FB) (body : FS) : FS := fun e => whileD c body (μ e) e
def wipeE (e : DEnv) : List Nat → DEnv
  | [] => e
  | v :: vs => (wipeE e vs).set v none
def lcGo (b : BD) (t : FB) (el : FE) (e : DEnv) : List D → Option (List D)
  | [] => some []
  | d :: ds => (b d e).bind fun e1 => (t e1).bind fun k => if k = true then (el e1).bind fun x => (lcGo b t el e ds).bind fun xs => some (x :: xs) else lcGo b t el e ds
def yesT : FB := fun _ => some true
def lcD (fi : FA) (b : BD) (t : FB) (el : FE) (vs : List Nat) : FA := fun e => (fi e).bind fun ds => if sml ds.length = true then lcGo b t el (wipeE e vs) ds else none

/-! ### small statements -/
section
variable {X : Cx} {st : Stmt} {rest body body2 : List Stmt} {f g : FS} {e e2 e3 : Expr} {fe fg : FE} {fa : FA} {p : FB} {pos : Pos}
theorem ds_nil : DSs X [] sNx := pss_imp pss_nil fun D σ H ⟨B, F0, F, e, r, ok, fe, q⟩ => by
  cases fe
  exact q σ F H (Ex.refl _) ok
theorem ds_cons (h1 : DS X st f) (h2 : DSs X rest g) : DSs X (st :: rest) (sq f g) := pss_imp (pss_cons h1 h2) fun D σ H ⟨B, F0, F, e, r, ok, fe, q⟩ => by
  obtain ⟨r1, h, fe⟩ := bind1 fe
  refine ⟨B, F0, F, e, r1, ok, h, ?_⟩
  cases r1 with
  | nx e' => exact fun σ' F' H' x ok' => ⟨B, F0, F', e', r, ok', fe, q.mono x⟩
  | rt d => cases fe; exact q
  | bk d => cases fe; exact q
  | ct d => cases fe; exact q
theorem ds_one (h1 : DS X st f) : DSs X [st] f := pss_one h1
theorem ds_pass : DS X (.Pass pos) sNx := ps_imp ps_pass fun D σ H ⟨B, F0, F, e, r, ok, fe, q⟩ => by
  cases fe
  exact q σ F H (Ex.refl _) ok
theorem ds_ret (he : DE X e fe) : DS X (.Return (some e) pos) (sRet fe) := ps_imp (ps_ret he) fun D σ H ⟨B, F0, F, e, r, ok, fr, q⟩ => by
  obtain ⟨d, h, rfl⟩ := Option.map_eq_some_iff.mp fr
  exact ⟨B, F0, F, e, d, ok, h, fun v F' H' g dp => q v F' H' (ok.gr.trans g) dp⟩
theorem ds_if {c : Expr} (hc : DT X c p) (ha : DSs X body f) (hb : DSs X body2 g) : DS X (.If c body body2 pos) (sIf p f g) := ps_imp (ps_if hc ha hb) fun D σ H ⟨B, F0, F, e, r, ok, fr, q⟩ => by
  obtain ⟨k, hk, fr⟩ := bind1 fr
  refine ⟨B, F0, F, e, k, ok, hk, fun F1 H1 g1 => ?_⟩
  cases k with
  | true => simp only [if_true] at fr ⊢; exact ⟨B, F0, F1, e, r, ok.grow g1, fr, q.mono g1.ff⟩
  | false => simp only [Bool.false_eq_true, if_false] at fr ⊢; exact ⟨B, F0, F1, e, r, ok.grow g1, fr, q.mono g1.ff⟩
theorem ds_asg (i : Nat) {x : Str} {pos' : Pos} (hN : X.N.Nodup) (he : DE X e fe) (hi : X.N[i]? = some x := by rfl) (hx : Loc X.env.scope x := by first | exact Or.inl rfl | exact Or.inr rfl) (hs : swapsWith e (some (.Name x pos')) pos.line X.env = pure false := by rfl)
    (hf : X.fn x = true ∨ X.env.scope.names.lookup x = some .local := by first | exact .inl rfl | exact .inr rfl | assumption) : DS X (.Assign [.Name x pos'] e pos) (sAsg i fe) := ps_imp (ps_set hN hi hx he hs hf) fun D σ H ⟨B, F0, F, e, r, ok, fr, q⟩ => by
  obtain ⟨d, h, rfl⟩ := Option.map_eq_some_iff.mp fr
  exact ⟨B, F0, F, e, d, ok, h, fun v F' H' g dp => q _ F' H' g.ff ((ok.grow g).set dp)⟩
theorem Ok.new {K : PySem.W.Frag} {B F0 F F' : Hp} {σ : L2.St} {H H' : Hp} {e : DEnv} {i : Nat} {a : Addr} {vs : List V} {xs : List D} (ok : Ok K B F0 F σ H e) (g : Gr F H F' H') (h1 : H a = none) (h2 : F' a = none) (h3 : H' a = some (.lst vs)) (h4 : DpAll K F' vs xs) :
    Ok K B F0 F' (σ.set i (some (.ref a))) H' (e.set i (some (.ow xs))) :=
  (ok.grow g).setOw (fun j ys b hj hs _ => by
    obtain ⟨a', vs', s1, t1, _⟩ := ok.ow j ys hj
    rw [hs] at s1
    cases s1
    exact ne_of_none t1 h1) h3 (ok.gr.fb h1) h2 h4
theorem ds_new (i : Nat) {x : Str} {pos' : Pos} (hN : X.N.Nodup) (he : DN X e fa) (hi : X.N[i]? = some x := by rfl) (hx : Loc X.env.scope x := by first | exact Or.inl rfl | exact Or.inr rfl) (hs : swapsWith e (some (.Name x pos')) pos.line X.env = pure false := by rfl)
    (hf : X.fn x = true ∨ X.env.scope.names.lookup x = some .local := by first | exact .inl rfl | exact .inr rfl | assumption) : DS X (.Assign [.Name x pos'] e pos) (sNew i fa) := ps_imp (ps_set hN hi hx he hs hf) fun D σ H ⟨B, F0, F, e, r, ok, fr, q⟩ => by
  obtain ⟨d, h, rfl⟩ := Option.map_eq_some_iff.mp fr
  exact ⟨B, F0, F, e, d, ok, h, fun a vs F' H' g h1 h2 h3 h4 => q _ F' H' g.ff (ok.new g h1 h2 h3 h4)⟩
/-- the ghost step: slot i is frozen ahead of the statement -/
theorem tsm_frz {K : PySem.W.Frag} (i : Nat) (D : Ends) (σ : L2.St) (H : Hp) (h : TSm K (sFrz i f) D σ H) : TSm K f D σ H := by
  obtain ⟨B, F0, F, e, r, ok, fr, q⟩ := h
  unfold sFrz frzE at fr
  split at fr
  · rename_i xs he
    obtain ⟨F', x, ok'⟩ := ok.freeze he
    exact ⟨B, F0, F', _, r, ok', fr, q.mono x⟩
  · rename_i xs he
    obtain ⟨F', x, ok'⟩ := ok.freezeD he
    exact ⟨B, F0, F', _, r, ok', fr, q.mono x⟩
  · exact ⟨B, F0, F, e, r, ok, fr, q⟩
theorem ds_frz (i : Nat) (h : DS X st f) : DS X st (sFrz i f) := ps_imp h (tsm_frz i)

/-! ### lists of one's own, changed -/
theorem owAt_some {i : Nat} {e : DEnv} {xs : List D} (h : owAt i e = some xs) : e[i]? = some (some (.ow xs)) := by
  unfold owAt at h
  split at h
  · cases h; assumption
  · cases h
theorem ds_app (i : Nat) {x : Str} {px apos cpos : Pos} (he : DE X e fe) (hi : X.N[i]? = some x := by rfl) (hv : Vis X.env.scope x := by first | exact Or.inl rfl | exact Or.inr (Or.inl rfl) | exact Or.inr (Or.inr rfl)) (hd : (x == ("__debug__" : Str)) = false := by decide)
    (hcd : (x == ("__classdict__" : Str)) = false := by decide) (hbase : attributeBase (.Name x px) "append" X.env (eval (.Name x px) X.env) = eval (.Name x px) X.env := by rfl)
    (hfew : ((backTo cpos (starEach [e] X.env)).all (fun x => !x.1) && (backToKw cpos (keywordEach [] X.env)).all (fun x => x.1.isSome) && decide (([e] : List Expr).length + ([] : List Keyword).length + (if ([] : List Keyword).isEmpty then 0 else 1) < 30)) = true := by rfl)
    (hline : (apos.endLine == cpos.line) = true := by rfl) (hs : starEach [e] X.env = (false, eval e X.env) :: starEach [] X.env := by rfl) (hsw : swapsWith (.Call (.Attribute (.Name x px) "append" apos) [e] [] cpos) none pos.line X.env = pure false := by rfl) :
    DS X (.Expr (.Call (.Attribute (.Name x px) "append" apos) [e] [] cpos) pos) (sApp i fe) :=
  ps_imp (ps_expr (pe_bm PySem.F.plainAttrs_list PySem.F.slot_list_append PySem.F.type_list_append mt_append (pe_var hi hv hd hcd) (pa_cons he pa_nil hs) hbase hfew hline hs rfl) hsw) fun D σ H ⟨B, F0, F, e, r, ok, fr, q⟩ => by
  obtain ⟨d, h, fr⟩ := bind1 fr
  obtain ⟨xs, hx, fr⟩ := bind1 fr
  split at fr
  · rename_i hz
    cases fr
    have hx := owAt_some hx
    obtain ⟨a, vs, h1, h2, h3, h4, h5⟩ := ok.ow i xs hx
    refine ⟨.ref a, h1, .inl ⟨rfl, _, SqL.of h2⟩, B, F0, F, e, d, ok, h, fun v F' H' g dp => ?_⟩
    refine ⟨a, vs, v, rfl, rfl, g.hh _ _ h2, ?_, q σ F' _ g.ff ((ok.grow g).mutOw hx h1 (dpa_append (dpa_mono g.ff h5) (.cons dp .nil)))⟩
    rw [dpa_len h5]
    exact Nat.lt_of_lt_of_le (sml_le hz) big_line
  · cases fr
theorem ds_ins (i : Nat) {x : Str} {px apos cpos : Pos} (he2 : DE X e2 fg) (he : DE X e fe) (hi : X.N[i]? = some x := by rfl) (hv : Vis X.env.scope x := by first | exact Or.inl rfl | exact Or.inr (Or.inl rfl) | exact Or.inr (Or.inr rfl)) (hd : (x == ("__debug__" : Str)) = false := by decide)
    (hcd : (x == ("__classdict__" : Str)) = false := by decide) (hbase : attributeBase (.Name x px) "insert" X.env (eval (.Name x px) X.env) = eval (.Name x px) X.env := by rfl)
    (hfew : ((backTo cpos (starEach [e2, e] X.env)).all (fun x => !x.1) && (backToKw cpos (keywordEach [] X.env)).all (fun x => x.1.isSome) && decide (([e2, e] : List Expr).length + ([] : List Keyword).length + (if ([] : List Keyword).isEmpty then 0 else 1) < 30)) = true := by rfl)
    (hline : (apos.endLine == cpos.line) = true := by rfl) (hs : starEach [e2, e] X.env = (false, eval e2 X.env) :: starEach [e] X.env := by rfl) (hs1 : starEach [e] X.env = (false, eval e X.env) :: starEach [] X.env := by rfl) (hpl : (backTo cpos (starEach [e] X.env)).any (·.1) = false := by rfl)
    (hsw : swapsWith (.Call (.Attribute (.Name x px) "insert" apos) [e2, e] [] cpos) none pos.line X.env = pure false := by rfl) :
    DS X (.Expr (.Call (.Attribute (.Name x px) "insert" apos) [e2, e] [] cpos) pos) (sIns i fg fe) :=
  ps_imp (ps_expr (pe_bm PySem.F.plainAttrs_list PySem.F.slot_list_insert PySem.F.type_list_insert mt_insert (pe_var hi hv hd hcd) (pa_cons he2 (pa_cons he pa_nil hs1) hs) hbase hfew hline hs hpl) hsw) fun D σ H ⟨B, F0, F, e, r, ok, fr, q⟩ => by
  obtain ⟨k, d, hk, h, fr⟩ := bind2 fr
  obtain ⟨xs, hx, fr⟩ := bind1 fr
  split at fr
  · split at fr
    · rename_i hz
      cases fr
      have hx := owAt_some hx
      obtain ⟨a, vs, h1, h2, h3, h4, h5⟩ := ok.ow i xs hx
      refine ⟨.ref a, h1, .inl ⟨rfl, _, SqL.of h2⟩, B, F0, F, e, _, ok, hk, fun v1 F1 H1 g1 dp1 => ⟨B, F0, F1, e, d, ok.grow g1, h, fun v F' H' g dp => ?_⟩⟩
      refine ⟨a, vs, _, v, rfl, by rw [dp_int dp1], g.hh _ _ (g1.hh _ _ h2), ?_, hz.2.1, hz.2.2, q σ F' _ (g1.trans g).ff (((ok.grow g1).grow g).mutOw hx h1 ?_)⟩
      · rw [dpa_len h5]
        exact Nat.lt_of_lt_of_le (sml_le hz.1) big_line
      · have h6 := dpa_mono (g1.trans g).ff h5
        exact dpa_append (dpa_append (dpa_take _ h6) (.cons dp .nil)) (dpa_drop _ h6)
    · cases fr
  · cases fr
/-- x[k] = e -/
theorem ds_set (i : Nat) {x : Str} {px ps : Pos} (he2 : DE X e2 fg) (he : DE X e fe) (hi : X.N[i]? = some x := by rfl) (hv : Vis X.env.scope x := by first | exact Or.inl rfl | exact Or.inr (Or.inl rfl) | exact Or.inr (Or.inr rfl)) (hd : (x == ("__debug__" : Str)) = false := by decide)
    (hcd : (x == ("__classdict__" : Str)) = false := by decide)
    (ha : ∀ v, assign (.Subscript (.Name x px) e2 ps) X.env v = (do
      let ov ← holding [v] (eval (.Name x px) X.env)
      let iv ← holding [v, ov] (eval e2 X.env)
      standAt ps
      holding [v, ov, iv] (setItem ov iv v)
      release [v, ov, iv] []) := by intro _; rfl)
    (hs : swapsWithSole [.Subscript (.Name x px) e2 ps] e pos.line X.env = pure false := by rfl) (hw : swappedStores [.Subscript (.Name x px) e2 ps] e X.env = pure none := by rfl)
    (h1 : (assignEach [.Subscript (.Name x px) e2 ps] X.env).map (·.2) = [assign (.Subscript (.Name x px) e2 ps) X.env] := by rfl) :
    DS X (.Assign [.Subscript (.Name x px) e2 ps] e pos) (sSet i fg fe) :=
  ps_imp (ps_asg he (pg_sub (pe_var hi hv hd hcd) he2 set_list ha) hs hw h1) fun D σ H ⟨B, F0, F, e, r, ok, fr, q⟩ => by
  obtain ⟨d, k, h, hk, fr⟩ := bind2 fr
  obtain ⟨xs, hx, fr⟩ := bind1 fr
  split at fr
  · obtain ⟨j, hj, fr⟩ := bind1 fr
    cases fr
    have hx := owAt_some hx
    refine ⟨B, F0, F, e, d, ok, h, fun v F' H' g dp => ?_⟩
    obtain ⟨a, vs, h1, h2, h3, h4, h5⟩ := (ok.grow g).ow i xs hx
    refine ⟨.ref a, h1, B, F0, F', e, _, ok.grow g, hk, fun v2 F2 H2 g2 dp2 => ?_⟩
    refine ⟨a, vs, _, j, rfl, dp_int dp2, g2.hh _ _ h2, by rw [dpa_len h5]; exact hj, q σ F2 _ (g.trans g2).ff (((ok.grow g).grow g2).mutOw hx h1 (dpa_set (dp_mono g2.ff dp) _ (dpa_mono g2.ff h5)))⟩
  · cases fr

/-! ### targets -/
def TGd (K : PySem.W.Frag) (vs : List Nat) (b : BD) : TG := fun v σ H Q => ∃ B F0 F e d e', Ok K B F0 F σ H e ∧ Dp K F v d ∧ b d e = some e' ∧ ∀ σ', Ok K B F0 F σ' H e' → σ'.length = σ.length → (∀ j, j ∉ vs → σ'[j]? = σ[j]?) → Q σ' H
def DG (X : Cx) (tg : Expr) (vs : List Nat) (b : BD) : Prop := PG X tg (TGd X.K vs b)
def TGsd (K : PySem.W.Frag) (vs : List Nat) (bs : List BD) : TGs := fun ws σ H Q => ∃ B F0 F e ds e', Ok K B F0 F σ H e ∧ DpAll K F ws ds ∧ bAll bs ds e = some e' ∧ ∀ σ', Ok K B F0 F σ' H e' → σ'.length = σ.length → (∀ j, j ∉ vs → σ'[j]? = σ[j]?) → Q σ' H
def DGs (X : Cx) (tgs : List Expr) (vs : List Nat) (bs : List BD) : Prop := PGs X tgs (TGsd X.K vs bs)
theorem pg_imp {tg : Expr} {t t' : TG} (h : PG X tg t) (i : ∀ v σ H Q, t' v σ H Q → t v σ H Q) : PG X tg t' := ⟨fun pins s σ H v u Q I r hw => h.run pins s σ H v u Q I r (i _ _ _ _ hw)⟩
theorem pgs_imp {tg : List Expr} {t t' : TGs} (h : PGs X tg t) (i : ∀ v σ H Q, t' v σ H Q → t v σ H Q) : PGs X tg t' := ⟨fun pins s σ H v u Q I r hw => h.run pins s σ H v u Q I r (i _ _ _ _ hw)⟩
theorem dg_name (i : Nat) {x : Str} (hN : X.N.Nodup) (hi : X.N[i]? = some x := by rfl) (hx : Loc X.env.scope x := by first | exact Or.inl rfl | exact Or.inr rfl) (hf : X.fn x = true ∨ X.env.scope.names.lookup x = some .local := by first | exact .inl rfl | exact .inr rfl | assumption) :
    DG X (.Name x pos) [i] (bNm i) := pg_imp (pg_name hN hi hx hf) fun v σ H Q ⟨B, F0, F, e, d, e', ok, dp, hb, q⟩ => by
  cases hb
  refine q _ (ok.set dp) (by simp) fun j hj => ?_
  rw [List.getElem?_set_ne]
  intro z
  exact hj (by simp [z])
theorem dgs_nil : DGs X [] [] [] := pgs_imp pgs_nil fun v σ H Q ⟨B, F0, F, e, d, e', ok, dp, hb, q⟩ => by
  cases dp with
  | nil => cases hb; exact ⟨rfl, q _ ok rfl fun _ _ => rfl⟩
  | cons => cases hb
theorem dgs_cons {tg : Expr} {tgs : List Expr} {vs ws : List Nat} {b : BD} {bs : List BD} (h1 : DG X tg vs b) (h2 : DGs X tgs ws bs) (hs : (assignEach (tg :: tgs) X.env).map (·.2) = assign tg X.env :: (assignEach tgs X.env).map (·.2) := by rfl) : DGs X (tg :: tgs) (vs ++ ws) (b :: bs) :=
  pgs_imp (pgs_cons h1 h2 hs) fun v σ H Q ⟨B, F0, F, e, d, e', ok, dp, hb, q⟩ => by
  cases dp with
  | nil => cases hb
  | cons h hs =>
    obtain ⟨e1, h1, hb⟩ := bind1 hb
    refine ⟨_, _, rfl, B, F0, F, e, _, e1, ok, h, h1, fun σ1 ok1 l1 k1 => ⟨B, F0, F, e1, _, e', ok1, hs, hb, fun σ2 ok2 l2 k2 => q σ2 ok2 (l2.trans l1) fun j hj => ?_⟩⟩
    rw [List.mem_append, not_or] at hj
    rw [k2 j hj.2, k1 j hj.1]
theorem bAll_len : ∀ {bs : List BD} {ds : List D} {e e' : DEnv}, bAll bs ds e = some e' → bs.length = ds.length
  | [], [], _, _, _ => rfl
  | _ :: bs, _ :: ds, e, e', h => by
    obtain ⟨e1, _, h⟩ := bind1 h
    exact congrArg (· + 1) (bAll_len h)
  | [], _ :: _, _, _, h => by cases h
  | _ :: _, [], _, _, h => by cases h
theorem dg_tup {tgs : List Expr} {k : Nat} {vs : List Nat} {bs : List BD} (hc : X.calm = true) (h : DGs X tgs vs bs) (hn : (assignEach tgs X.env).length = bs.length := by rfl) (hst : (assignEach tgs X.env).findIdx? (·.1) = none := by rfl) : DG X (.Tuple tgs k pos) vs (bTp bs) :=
  pg_imp (pg_tup hc h hn hst) fun v σ H Q ⟨B, F0, F, e, d, e', ok, dp, hb, q⟩ => by
  unfold bTp at hb
  split at hb
  · obtain ⟨a, ws, rfl, s1, d1⟩ := dp_tup dp
    exact ⟨a, ws, rfl, ex_t ok.fh s1, (dpa_len d1).trans (bAll_len hb).symm, B, F0, F, e, _, e', ok, d1, hb, q⟩
  · cases hb
theorem ds_asgT {tg : Expr} {vs : List Nat} {b : BD} (he : DE X e fe) (hg : DG X tg vs b) (hs : swapsWithSole [tg] e pos.line X.env = pure false := by rfl) (hw : swappedStores [tg] e X.env = pure none := by rfl)
    (h1 : (assignEach [tg] X.env).map (·.2) = [assign tg X.env] := by rfl) : DS X (.Assign [tg] e pos) (sAsgT b fe) := ps_imp (ps_asg he hg hs hw h1) fun D σ H ⟨B, F0, F, e, r, ok, fr, q⟩ => by
  obtain ⟨d, h, fr⟩ := bind1 fr
  obtain ⟨e', hb, rfl⟩ := Option.map_eq_some_iff.mp fr
  exact ⟨B, F0, F, e, d, ok, h, fun v F' H' g dp => ⟨B, F0, F', e, d, e', ok.grow g, dp, hb, fun σ' ok' _ _ => q σ' F' H' g.ff ok'⟩⟩
theorem ds_par (i j : Nat) {x y : Str} {px py pt : Pos} {kt k2 pt2} (hc : X.calm = true) (hN : X.N.Nodup) (ha : DA X [e, e2] fa) (hi : X.N[i]? = some x := by rfl) (hj : X.N[j]? = some y := by rfl) (hij : i ≠ j := by decide)
    (hx : X.env.scope.names.lookup x = some .local := by rfl) (hy : X.env.scope.names.lookup y = some .local := by rfl) (hw : swappedStores [.Tuple [.Name x px, .Name y py] kt pt] (.Tuple [e, e2] k2 pt2) X.env = pure (some [x, y]) := by rfl)
    (hs : swapsWithSole [.Tuple [.Name x px, .Name y py] kt pt] (.Tuple [e, e2] k2 pt2) pos.line X.env = pure false := by rfl) : DS X (.Assign [.Tuple [.Name x px, .Name y py] kt pt] (.Tuple [e, e2] k2 pt2) pos) (sPar i j fa) :=
  ps_imp (ps_par hc hN hi hj hij hx hy ha hw hs) fun D σ H ⟨B, F0, F, e, r, ok, fr, q⟩ => by
  obtain ⟨ds, h, fr⟩ := bind1 fr
  split at fr
  · cases fr
    refine ⟨B, F0, F, e, _, ok, h, fun vs F' H' g dp => ?_⟩
    cases dp with
    | cons d1 d2 =>
      cases d2 with
      | cons d2 d3 =>
        cases d3
        exact ⟨_, _, rfl, q _ F' H' g.ff (((ok.grow g).set d1).set d2)⟩
  · cases fr

/-! ### loops -/
/-- J walks ds, as long as G stands -/
def Wlk (K : PySem.W.Frag) (J : It) (G F : Hp) (ds : List D) : Prop := ∀ (i : Nat) F1 H1, i ≤ ds.length → Ex F F1 → Ex F1 H1 → ExT G H1 →
  (∀ d, ds[i]? = some d → J.go i H1 ∧ ∀ x H2, J.yld i H1 x H2 → ∃ F2, Gr F1 H1 F2 H2 ∧ Dp K F2 x d) ∧ (ds[i]? = none → J.stop i H1)
def TId (K : PySem.W.Frag) (f : FA) : TI := fun σ H R => ∃ B F0 F e ds, Ok K B F0 F σ H e ∧ f e = some ds ∧ ∀ J F' H', Gr F H F' H' → Wlk K J F' F' ds → R J H'
def TIr (K : PySem.W.Frag) (f : FA) : TI := fun σ H R => ∃ B F0 F e ds, Ok K B F0 F σ H e ∧ f e = some ds ∧ ∀ J F' H', Gr F H F' H' → Wlk K J H' F' ds → R J H'
def DI (X : Cx) (tg iter : Expr) (f : FA) : Prop := PI X tg iter (TId X.K f)
def DIr (X : Cx) (tg iter : Expr) (f : FA) : Prop := PI X tg iter (TIr X.K f)
theorem pi_imp {tg iter : Expr} {t t' : TI} (h : PI X tg iter t) (i : ∀ σ H R, t' σ H R → t σ H R) : PI X tg iter t' := ⟨fun pins s σ H R I hw => h.run pins s σ H R I (i _ _ _ hw)⟩
theorem DI.r {tg iter : Expr} (h : DI X tg iter fa) : DIr X tg iter fa := pi_imp h fun σ H R ⟨B, F0, F, e, ds, ok, fe, q⟩ => ⟨B, F0, F, e, ds, ok, fe, fun J F' H' g w => q J F' H' g fun i F1 H1 hi x1 x2 x3 => w i F1 H1 hi x1 x2 (.of (x1.trans x2))⟩
theorem ds_for {tg iter : Expr} {vs : List Nat} {b : BD} (hp : PassesOwn (model X.prog X.w) X.A X.env X.xe) (hc : X.calm = true) (hi : DI X tg iter fa) (hg : DG X tg vs b) (hb : DSs X body f) (hs : ∀ x, foldedSetIterable iter X.env x = pure x := by intro _; rfl) :
    DS X (.For tg iter body [] pos) (sFor fa b f) := ps_imp (ps_for hp hc hi hg hb hs) fun D σ H ⟨B, F0, F, e, r, ok, fr, q⟩ => by
  obtain ⟨ds, h, fr⟩ := bind1 fr
  refine ⟨B, F0, F, e, ds, ok, h, fun J F' H' g w => ?_⟩
  refine ⟨fun i m σ1 H1 => ∃ F1 e1, Ok X.K B F0 F1 σ1 H1 e1 ∧ Ex F' F1 ∧ forD b f (ds.drop i) e1 = some r ∧ m = ds.length - i ∧ i ≤ ds.length, ⟨ds.length, F', e, ok.grow g, Ex.refl _, fr, rfl, Nat.zero_le _⟩, ?_⟩
  rintro i m σ1 H1 ⟨F1, e1, ok1, x1, fr1, rfl, hi0⟩
  obtain ⟨w1, w2⟩ := w i F1 H1 hi0 x1 ok1.fh (.of (x1.trans ok1.fh))
  cases hd : ds[i]? with
  | none =>
    have hl : ds.length ≤ i := List.getElem?_eq_none_iff.mp hd
    rw [List.drop_eq_nil_of_le hl] at fr1
    cases fr1
    exact .inl ⟨w2 hd, q σ1 F1 H1 (g.ff.trans x1) ok1⟩
  | some d =>
    have hl : i < ds.length := (List.getElem?_eq_some_iff.mp hd).1
    have hd' : ds[i] = d := (List.getElem?_eq_some_iff.mp hd).2
    rw [List.drop_eq_getElem_cons hl, hd'] at fr1
    obtain ⟨go, yl⟩ := w1 d hd
    obtain ⟨e2, hb2, fr1⟩ := bind1 fr1
    obtain ⟨r2, hr2, fr1⟩ := bind1 fr1
    refine .inr ⟨go, fun σ2 H2 => ∃ F2 e2, Ok X.K B F0 F2 σ2 H2 e2 ∧ Ex F' F2 ∧ forD b f (ds.drop (i + 1)) e2 = some r, fun σ' H' ⟨F2, e2, a1, a2, a3⟩ => ⟨ds.length - (i + 1), by omega, F2, e2, a1, a2, a3, rfl, hl⟩, fun x H2 hy => ?_⟩
    obtain ⟨F2, g2, dp⟩ := yl x H2 hy
    refine ⟨B, F0, F2, e1, d, e2, ok1.grow g2, dp, hb2, fun σ3 ok3 _ _ => ⟨B, F0, F2, e2, r2, ok3, hr2, ?_⟩⟩
    cases r2 with
    | nx e3 => exact fun σ' F'' H'' x' ok' => ⟨F'', e3, ok', (x1.trans g2.ff).trans x', fr1⟩
    | ct e3 => exact fun σ' F'' H'' x' ok' => ⟨F'', e3, ok', (x1.trans g2.ff).trans x', fr1⟩
    | bk e3 => cases fr1; exact fun σ' F'' H'' x' ok' => q σ' F'' H'' (((g.ff.trans x1).trans g2.ff).trans x') ok'
    | rt d => cases fr1; exact q
theorem ds_while {c : Expr} (μ : DEnv → Nat) (hp : PassesOwn (model X.prog X.w) X.A X.env X.xe) (hc : DT X c p) (hb : DSs X body f) : DS X (.While c body [] pos) (sWhile μ p f) := ps_imp (ps_while hp hc hb) fun D σ H ⟨B, F0, F, e, r, ok, fr, q⟩ => by
  refine ⟨fun m σ1 H1 => ∃ F1 e1, Ok X.K B F0 F1 σ1 H1 e1 ∧ Ex F F1 ∧ whileD p f m e1 = some r, ⟨μ e, F, e, ok, Ex.refl _, fr⟩, ?_⟩
  rintro m σ1 H1 ⟨F1, e1, ok1, x1, fr1⟩
  cases m with
  | zero => cases fr1
  | succ m =>
    obtain ⟨k, hk, fr1⟩ := bind1 fr1
    refine ⟨B, F0, F1, e1, k, ok1, hk, fun F2 H2 g2 => ?_⟩
    cases k with
    | false =>
      simp only [Bool.false_eq_true, if_false] at fr1 ⊢
      cases fr1
      exact q σ1 F2 H2 (x1.trans g2.ff) (ok1.grow g2)
    | true =>
      simp only [if_true] at fr1 ⊢
      obtain ⟨r2, hr2, fr1⟩ := bind1 fr1
      refine ⟨fun σ2 H2 => ∃ F2 e2, Ok X.K B F0 F2 σ2 H2 e2 ∧ Ex F F2 ∧ whileD p f m e2 = some r, fun σ' H' h => ⟨m, Nat.lt_succ_self _, h⟩, B, F0, F2, e1, r2, ok1.grow g2, hr2, ?_⟩
      cases r2 with
      | nx e3 => exact fun σ' F'' H'' x' ok' => ⟨F'', e3, ok', (x1.trans g2.ff).trans x', fr1⟩
      | ct e3 => exact fun σ' F'' H'' x' ok' => ⟨F'', e3, ok', (x1.trans g2.ff).trans x', fr1⟩
      | bk e3 => cases fr1; exact fun σ' F'' H'' x' ok' => q σ' F'' H'' ((x1.trans g2.ff).trans x') ok'
      | rt d => cases fr1; exact q
end
end DL

/-! DLay4: comprehensions, what is walked, built-ins, defs. -/
namespace DL
open PySem PySem.Spec PyProof.Rows L2 Evl

/-! ### comprehensions -/
theorem wipe_eq {σ σ' : L2.St} {vs : List Nat} (h : ∀ j, j ∉ vs → σ'[j]? = σ[j]?) (hl : σ'.length = σ.length) : wipe σ' vs = wipe σ vs := by
  apply List.ext_getElem?
  intro j
  have key : ∀ (τ : L2.St) (ws : List Nat), j ∈ ws → (wipe τ ws)[j]? = if j < τ.length then some none else none := by
    intro τ ws
    induction ws with
    | nil => intro h; simp at h
    | cons w ws ih =>
      intro hm
      unfold wipe
      by_cases hw : w = j
      · subst hw
        by_cases hlt : w < τ.length
        · rw [List.getElem?_set_self (by rw [wipe_length]; exact hlt), if_pos hlt]
        · rw [if_neg hlt, List.getElem?_eq_none]; rw [List.length_set, wipe_length]; omega
      · rw [List.getElem?_set_ne hw]
        rcases List.mem_cons.mp hm with e | e
        · exact absurd e.symm hw
        · exact ih e
  by_cases hj : j ∈ vs
  · rw [key σ' vs hj, key σ vs hj, hl]
  · rw [wipe_out hj, wipe_out hj, h j hj]
section
variable {K : PySem.W.Frag} {B F0 F F' : Hp} {σ : L2.St} {H H' : Hp} {e : DEnv}
theorem Ok.wipe (o : Ok K B F0 F σ H e) : ∀ vs : List Nat, Ok K B F0 F (L2.wipe σ vs) H (wipeE e vs)
  | [] => o
  | v :: vs => (o.wipe vs).del
end
section
variable {X : Cx} {e : Expr} {fe : FE} {fa : FA} {p : FB} {pos : Pos}
def DTs (X : Cx) (ifs : List Expr) (f : FB) : Prop := PTs X ifs (TB X.K f)
theorem dts_nil : DTs X [] yesT := ⟨fun pins s σ H Q I ⟨B, F0, F, e, b, ok, fe, q⟩ => by
  cases fe
  exact pts_nil.run pins s σ H Q I (q F H (Gr.refl ok.fh))⟩
theorem dts_one {c : Expr} (h : DT X c p) : DTs X [c] p := pts_one h
/-- the reading of a comprehension -/
theorem lc_read {K : PySem.W.Frag} {b : BD} {ws vs : List Nat} (hw : ∀ j, j ∈ ws → j ∈ vs) (σ : L2.St) (H : Hp) (Q : VK) (h : TN K (lcD fa b p fe vs) σ H Q) : tLc (TIr K fa) (TGd K ws b) (TB K p) (TD K fe) vs σ H Q := by
  obtain ⟨B, F0, F, e, xs, ok, fr, q⟩ := h
  obtain ⟨ds, hd, fr⟩ := bind1 fr
  split at fr
  · rename_i hz
    refine ⟨B, F0, F, e, ds, ok, hd, fun J Fp Hs g w D hD => ?_⟩
    refine ⟨fun i m H1 => ∃ F1 acc ys zs, Gr Fp Hs F1 H1 ∧ H1 D = some (.lst acc) ∧ F1 D = none ∧ DpAll K F1 acc ys ∧ ys.length ≤ i ∧ lcGo b p fe (wipeE e vs) (ds.drop i) = some zs ∧ xs = ys ++ zs ∧ m = ds.length - i ∧ i ≤ ds.length,
      ⟨ds.length, Fp, [], [], xs, Gr.loose g.fh hD, upd_same, fresh_back g.fh hD, .nil, Nat.le_refl _, fr, rfl, rfl, Nat.zero_le _⟩, ?_⟩
    rintro i m H1 ⟨F1, acc, ys, zs, g1, hD1, hF1, dp1, hy, fr1, rfl, rfl, hi⟩
    have ok1 := ((ok.grow g).grow g1).wipe vs
    obtain ⟨w1, w2⟩ := w i F1 H1 hi g1.ff g1.fh g1.hx
    cases hd : ds[i]? with
    | none =>
      have hl : ds.length ≤ i := List.getElem?_eq_none_iff.mp hd
      rw [List.drop_eq_nil_of_le hl] at fr1
      cases fr1
      refine .inl ⟨w2 hd, q D acc F1 H1 (g.trans g1) (g.fb hD) hF1 hD1 ?_⟩
      rw [List.append_nil]
      exact dp1
    | some d =>
      have hl : i < ds.length := (List.getElem?_eq_some_iff.mp hd).1
      have hd' : ds[i] = d := (List.getElem?_eq_some_iff.mp hd).2
      rw [List.drop_eq_getElem_cons hl, hd'] at fr1
      obtain ⟨go, yl⟩ := w1 d hd
      obtain ⟨e2, hb2, fr1⟩ := bind1 fr1
      obtain ⟨k, hk, fr1⟩ := bind1 fr1
      refine .inr ⟨go, fun H2 => ∃ F2 acc ys zs', Gr Fp Hs F2 H2 ∧ H2 D = some (.lst acc) ∧ F2 D = none ∧ DpAll K F2 acc ys ∧ ys.length ≤ i + 1 ∧ lcGo b p fe (wipeE e vs) (ds.drop (i + 1)) = some zs' ∧ _ = ys ++ zs', fun H2 ⟨F2, acc2, ys2, zs2, a1, a2, a3, a4, a5, a6, a7⟩ => ⟨ds.length - (i + 1), by omega, F2, acc2, ys2, zs2, a1, a2, a3, a4, a5, a6, a7, rfl, hl⟩, fun x H2 hy2 => ?_⟩
      obtain ⟨F2, g2, dp⟩ := yl x H2 hy2
      refine ⟨B, F0, F2, wipeE e vs, d, e2, ok1.grow g2, dp, hb2, fun σ3 ok3 l3 k3 => ⟨?_, B, F0, F2, e2, k, ok3, hk, fun F3 H3 g3 => ?_⟩⟩
      · have e1 : wipe σ3 vs = wipe (wipe σ vs) vs := wipe_eq (fun j hj => k3 j fun z => hj (hw j z)) l3
        rw [e1]
        exact wipe_eq (fun j hj => wipe_out hj) (wipe_length _ _)
      · have g03 := (g1.trans g2).trans g3
        have hF3 : F3 D = none := by rw [(g2.trans g3).nf _ _ hD1]; exact hF1
        cases k with
        | false =>
          simp only [Bool.false_eq_true, if_false] at fr1 ⊢
          exact ⟨F3, acc, ys, zs, g03, (g2.trans g3).hh _ _ hD1, hF3, dpa_mono (g2.trans g3).ff dp1, Nat.le_succ_of_le hy, fr1, rfl⟩
        | true =>
          simp only [if_true] at fr1 ⊢
          obtain ⟨x', zs', hx', hzs', fr1⟩ := bind2 fr1
          cases fr1
          refine ⟨B, F0, F3, e2, x', ok3.grow g3, hx', fun v F4 H4 g4 dp4 => ⟨acc, ((g2.trans g3).trans g4).hh _ _ hD1, ?_, ?_⟩⟩
          · rw [dpa_len dp1]
            exact Nat.lt_of_lt_of_le (Nat.lt_of_le_of_lt hy hl) (Nat.le_trans (sml_le hz) big_line)
          · have hF4 : F4 D = none := by rw [((g2.trans g3).trans g4).nf _ _ hD1]; exact hF1
            refine ⟨F4, acc ++ [v], ys ++ [x'], zs', (g03.trans g4).mut hD hF4 (((g2.trans g3).trans g4).hh _ _ hD1), upd_same, hF4, dpa_append (dpa_mono ((g2.trans g3).trans g4).ff dp1) (.cons dp4 .nil), ?_, hzs', by simp⟩
            rw [List.length_append, List.length_singleton]
            exact Nat.succ_le_succ hy
  · cases fr

variable {elt tg iter : Expr} {ifs : List Expr} {scope : Scope} {own : List (Str × Nat)} {ws : List Nat} {b : BD}
theorem dn_lc (own : List (Str × Nat)) (hc : X.calm = true) (hN : X.N.Nodup) (hi : DIr X tg iter fa) (ok : BlkOk X.N X.env.scope scope own)
    (hg : ∀ (s : Shared) (H : Hp) (C : Addr) (cl : List (Str × Addr)) (fp : List Addr), DG (X.blk s H scope (compEnvC scope cl C X.env) fp) tg ws b) (ht : ∀ (s : Shared) (H : Hp) (C : Addr) (cl : List (Str × Addr)) (fp : List Addr), DTs (X.blk s H scope (compEnvC scope cl C X.env) fp) ifs p)
    (he : ∀ (s : Shared) (H : Hp) (C : Addr) (cl : List (Str × Addr)) (fp : List Addr), DE (X.blk s H scope (compEnvC scope cl C X.env) fp) elt fe) (hw : ∀ j, j ∈ ws → j ∈ own.map (·.2) := by decide) (hs : ∀ x, foldedSetIterable iter X.env x = pure x := by intro _; rfl) :
    DN X (.ListComp elt [⟨tg, iter, ifs, 0⟩] scope pos) (lcD fa b p fe (own.map (·.2))) := pe_imp (pe_lc (g := TGd X.K ws b) (tt := TB X.K p) (te := TD X.K fe) hc hN hi ok hg ht he hs) (lc_read hw)
/-- y = [..] on one line, y a local: frozen, or a list of its own -/
theorem ds_lc (i : Nat) {y : Str} {py spos : Pos} (own : List (Str × Nat)) (hc : X.calm = true) (hN : X.N.Nodup) (hi : DIr X tg iter fa) (ok : BlkOk X.N X.env.scope scope own)
    (hg : ∀ (s : Shared) (H : Hp) (C : Addr) (cl : List (Str × Addr)) (fp : List Addr), DG (X.blk s H scope (compEnvC scope cl C X.env) fp) tg ws b) (ht : ∀ (s : Shared) (H : Hp) (C : Addr) (cl : List (Str × Addr)) (fp : List Addr), DTs (X.blk s H scope (compEnvC scope cl C X.env) fp) ifs p)
    (he : ∀ (s : Shared) (H : Hp) (C : Addr) (cl : List (Str × Addr)) (fp : List Addr), DE (X.blk s H scope (compEnvC scope cl C X.env) fp) elt fe) (hw : ∀ j, j ∈ ws → j ∈ own.map (·.2) := by decide) (hy : X.N[i]? = some y := by rfl) (hyl : X.env.scope.names.lookup y = some .local := by rfl)
    (hsw : swapsWith (.ListComp elt [⟨tg, iter, ifs, 0⟩] scope pos) (some (.Name y py)) spos.line X.env = pure true := by exact sw_true rfl rfl rfl (by decide +kernel)) (hs : ∀ x, foldedSetIterable iter X.env x = pure x := by intro _; rfl) :
    DS X (.Assign [.Name y py] (.ListComp elt [⟨tg, iter, ifs, 0⟩] scope pos) spos) (sAsg i (lstE (lcD fa b p fe (own.map (·.2))))) := ps_imp (ps_setLc (g := TGd X.K ws b) (tt := TB X.K p) (te := TD X.K fe) hc hN hy hyl hsw hi ok hg ht he hs) fun D σ H ⟨B, F0, F, e, r, okk, fr, q⟩ => by
  obtain ⟨d, h, rfl⟩ := Option.map_eq_some_iff.mp fr
  obtain ⟨xs, hx, rfl⟩ := Option.map_eq_some_iff.mp h
  refine lc_read hw _ _ _ ⟨B, F0, F, e, xs, okk, hx, fun a vs F' H' g h1 h2 h3 h4 => ?_⟩
  have x : Ex F' (upd F' a (.lst vs)) := Ex.new h2
  have g' := g.frz h1 h2 h3
  exact q _ _ H' g'.ff ((okk.grow g').set (.lst (SqL.of upd_same) (dpa_mono x h4)))
theorem ds_lcN (i : Nat) {y : Str} {py spos : Pos} (own : List (Str × Nat)) (hc : X.calm = true) (hN : X.N.Nodup) (hi : DIr X tg iter fa) (ok : BlkOk X.N X.env.scope scope own)
    (hg : ∀ (s : Shared) (H : Hp) (C : Addr) (cl : List (Str × Addr)) (fp : List Addr), DG (X.blk s H scope (compEnvC scope cl C X.env) fp) tg ws b) (ht : ∀ (s : Shared) (H : Hp) (C : Addr) (cl : List (Str × Addr)) (fp : List Addr), DTs (X.blk s H scope (compEnvC scope cl C X.env) fp) ifs p)
    (he : ∀ (s : Shared) (H : Hp) (C : Addr) (cl : List (Str × Addr)) (fp : List Addr), DE (X.blk s H scope (compEnvC scope cl C X.env) fp) elt fe) (hw : ∀ j, j ∈ ws → j ∈ own.map (·.2) := by decide) (hy : X.N[i]? = some y := by rfl) (hyl : X.env.scope.names.lookup y = some .local := by rfl)
    (hsw : swapsWith (.ListComp elt [⟨tg, iter, ifs, 0⟩] scope pos) (some (.Name y py)) spos.line X.env = pure true := by exact sw_true rfl rfl rfl (by decide +kernel)) (hs : ∀ x, foldedSetIterable iter X.env x = pure x := by intro _; rfl) :
    DS X (.Assign [.Name y py] (.ListComp elt [⟨tg, iter, ifs, 0⟩] scope pos) spos) (sNew i (lcD fa b p fe (own.map (·.2)))) := ps_imp (ps_setLc (g := TGd X.K ws b) (tt := TB X.K p) (te := TD X.K fe) hc hN hy hyl hsw hi ok hg ht he hs) fun D σ H ⟨B, F0, F, e, r, okk, fr, q⟩ => by
  obtain ⟨xs, hx, rfl⟩ := Option.map_eq_some_iff.mp fr
  exact lc_read hw _ _ _ ⟨B, F0, F, e, xs, okk, hx, fun a vs F' H' g h1 h2 h3 h4 => q _ F' H' g.ff (okk.new g h1 h2 h3 h4)⟩
end

/-! ### what is walked -/
def itemsD : D → Option (List D)
  | .list xs => some xs
  | .tuple xs => some xs
  | .str z => some (z.cps.toList.map fun c => .str ⟨#[c]⟩)
  | _ => none
def itA (f : FE) : FA := fun e => (f e).bind itemsD
def rngL (lo hi : Int) : List D := (List.range (hi - lo).toNat).map fun i : Nat => PyData.int (lo + (i : Int))
def rngOk (i : Int) : Bool := decide (-(2 ^ 62) ≤ i) && decide (i < 2 ^ 62)
def rng1D : D → Option (List D)
  | .int j => if rngOk j = true then some (rngL 0 j) else none
  | _ => none
def rng2D : D → D → Option (List D)
  | .int i, .int j => if rngOk i = true ∧ rngOk j = true then some (rngL i j) else none
  | _, _ => none
def rg1 (f : FE) : FA := fun e => (f e).bind rng1D
def rg2 (f g : FE) : FA := fun e => (f e).bind fun x => (g e).bind fun y => rng2D x y
section
variable {K : PySem.W.Frag} {G F : Hp} {a : Addr} {vs : List V} {ds : List D}
theorem wlk_list (h : SqL K G a vs) (dp : DpAll K F vs ds) : Wlk K (Itl K a) G F ds := fun i F1 H1 hi0 x1 x2 x3 => by
  have s := ext_l x3 h
  refine ⟨fun d hd => ?_, fun hd => ⟨vs, s, ?_⟩⟩
  · obtain ⟨v, hv, dv⟩ := dpa_get dp hd
    refine ⟨⟨vs, v, s, hv⟩, fun x H2 ⟨e, hy⟩ => ?_⟩
    subst e
    have : v = x := Option.some.inj (hv.symm.trans (hy vs s))
    subst this
    exact ⟨F1, Gr.refl x2, dp_mono x1 dv⟩
  · rw [dpa_len dp]; exact List.getElem?_eq_none_iff.mp hd
theorem wlk_tup (h : SqT K G a vs) (dp : DpAll K F vs ds) : Wlk K (Itt K a) G F ds := fun i F1 H1 hi0 x1 x2 x3 => by
  have s := ext_t x3 h
  refine ⟨fun d hd => ?_, fun hd => ⟨vs, s, ?_⟩⟩
  · obtain ⟨v, hv, dv⟩ := dpa_get dp hd
    refine ⟨⟨vs, v, s, hv⟩, fun x H2 ⟨e, hy⟩ => ?_⟩
    subst e
    have : v = x := Option.some.inj (hv.symm.trans (hy vs s))
    subst this
    exact ⟨F1, Gr.refl x2, dp_mono x1 dv⟩
  · rw [dpa_len dp]; exact List.getElem?_eq_none_iff.mp hd
theorem wlk_str (z : Str) : Wlk K (Its z) G F (z.cps.toList.map fun c => .str ⟨#[c]⟩) := fun i F1 H1 hi0 x1 x2 x3 => by
  refine ⟨fun d hd => ?_, fun hd => ?_⟩
  · rw [List.getElem?_map] at hd
    obtain ⟨c, hc, rfl⟩ := Option.map_eq_some_iff.mp hd
    have hc' : z.cps[i]? = some c := by simpa using hc
    refine ⟨(Array.getElem?_eq_some_iff.mp hc').1, fun x H2 ⟨e, c', hc2, hx⟩ => ?_⟩
    subst e hx
    rw [hc'] at hc2
    cases hc2
    exact ⟨F1, Gr.refl x2, .str _⟩
  · rw [List.getElem?_map] at hd
    have := Option.map_eq_none_iff.mp hd
    show z.cps.size ≤ i
    have := List.getElem?_eq_none_iff.mp this
    simpa using this
theorem wlk_rng (lo hi : Int) : Wlk K (Itr lo (hi - lo).toNat) G F (rngL lo hi) := fun i F1 H1 hi0 x1 x2 x3 => by
  unfold rngL
  refine ⟨fun d hd => ?_, fun hd => ?_⟩
  · rw [List.getElem?_map] at hd
    obtain ⟨c, hc, rfl⟩ := Option.map_eq_some_iff.mp hd
    obtain ⟨hl, he⟩ := List.getElem?_eq_some_iff.mp hc
    rw [List.length_range] at hl
    rw [List.getElem_range] at he
    subst he
    refine ⟨hl, fun x H2 ⟨e, hx⟩ => ?_⟩
    subst e hx
    exact ⟨F1, Gr.refl x2, .int _⟩
  · have := List.getElem?_eq_none_iff.mp hd
    rw [List.length_map, List.length_range] at this
    exact this
end
section
variable {X : Cx} {e e2 tg : Expr} {f g : FE} {p pos : Pos}
/-- anything that can be walked -/
theorem pi_any {te : TE} (h : PE X e te) : PI X tg e (fun σ H R => te σ H fun x H1 => (∃ a, x = .ref a ∧ (∃ xs, SqL X.K H1 a xs) ∧ R (Itl X.K a) H1) ∨ (∃ a, x = .ref a ∧ (∃ xs, SqT X.K H1 a xs) ∧ R (Itt X.K a) H1) ∨ ∃ z, x = .str z ∧ R (Its z) H1) := by
  refine ⟨fun pins s σ H R I hw => ?_⟩
  refine thn (h.run pins s σ H _ I hw) fun v s1 ⟨x, H1, I1, r1, q1⟩ => ?_
  rcases q1 with ⟨a, rfl, ⟨xs, hq⟩, q⟩ | ⟨a, rfl, ⟨xs, hq⟩, q⟩ | ⟨z, rfl, q⟩
  · cases r1
    obtain ⟨its, rv, p, hz⟩ := I1.list hq
    refine wpAny_pyIter_list p.isList ?_
    refine ⟨s1.heap.objs.size, [s1.heap.objs.size], _, _, H1, rfl, I1.kept (t' := s1.toks) fun b o e => Heap.get?_push_of_some _ e, turn_list a _, ⟨_, Heap.get?_push_size _ rfl, rfl, rfl⟩, fun b hb => ?_, q⟩
    have e : b = s1.heap.objs.size := by simpa using hb
    subst e
    exact I1.fpOk (Nat.le_refl _) (I1.hok.fresh (Nat.le_refl _))
  · cases r1
    obtain ⟨its, rv, p, hz⟩ := I1.tuple hq
    refine wpAny_pyIter_tuple (show s1.heap.IsTuple a its.toArray from p) ?_
    refine ⟨s1.heap.objs.size, [s1.heap.objs.size], _, _, H1, rfl, I1.kept (t' := s1.toks) fun b o e => Heap.get?_push_of_some _ e, turn_tuple a _, ⟨_, Heap.get?_push_size _ rfl, rfl, rfl⟩, fun b hb => ?_, q⟩
    have e : b = s1.heap.objs.size := by simpa using hb
    subst e
    exact I1.fpOk (Nat.le_refl _) (I1.hok.fresh (Nat.le_refl _))
  · obtain ⟨t, rfl⟩ := r1
    cases ha : z.cps.all (· < 128)
    · exact wpAny_pyIter_wide ha (pi_one (tk := s1.toks) I1 _ (turn_str _ z t "str_iterator" (.inr rfl)) ⟨_, Heap.get?_push_size _ rfl, rfl, rfl⟩ q)
    · exact wpAny_pyIter_ascii ha (pi_one (tk := s1.toks) I1 _ (turn_str _ z t "str_ascii_iterator" (.inl rfl)) ⟨_, Heap.get?_push_size _ rfl, rfl, rfl⟩ q)
theorem di_any (h : DE X e f) : DI X tg e (itA f) := pi_imp (pi_any h) fun σ H R ⟨B, F0, F, e, ds, ok, fe, q⟩ => by
  obtain ⟨d, hd, fe⟩ := bind1 fe
  refine ⟨B, F0, F, e, d, ok, hd, fun v F' H' g dp => ?_⟩
  unfold itemsD at fe
  split at fe
  · cases fe
    obtain ⟨a, vs, rfl, h1, h2⟩ := dp_lst dp
    exact .inl ⟨a, rfl, ⟨vs, ex_l g.fh h1⟩, q _ F' H' g (wlk_list h1 h2)⟩
  · cases fe
    obtain ⟨a, vs, rfl, h1, h2⟩ := dp_tup dp
    exact .inr (.inl ⟨a, rfl, ⟨vs, ex_t g.fh h1⟩, q _ F' H' g (wlk_tup h1 h2)⟩)
  · cases fe
    exact .inr (.inr ⟨_, dp_str dp, q _ F' H' g (wlk_str _)⟩)
  · cases fe
theorem dir_any (h : DR X e f) : DIr X tg e (itA f) := pi_imp (pi_any h) fun σ H R ⟨B, F0, F, e, ds, ok, fe, q⟩ => by
  obtain ⟨d, hd, fe⟩ := bind1 fe
  refine ⟨B, F0, F, e, d, ok, hd, fun v F' H' g dp => ?_⟩
  unfold itemsD at fe
  split at fe
  · cases fe
    obtain ⟨a, vs, rfl, h1, h2⟩ := dp.lst g.fh
    exact .inl ⟨a, rfl, ⟨vs, h1⟩, q _ F' H' g (wlk_list h1 h2)⟩
  · cases fe
    obtain ⟨a, vs, rfl, h1, h2⟩ := dp.tup g.fh
    exact .inr (.inl ⟨a, rfl, ⟨vs, h1⟩, q _ F' H' g (wlk_tup h1 h2)⟩)
  · cases fe
    exact .inr (.inr ⟨_, rs_str dp, q _ F' H' g (wlk_str _)⟩)
  · cases fe
theorem di_rng1 (hm : X.mg "range" = none) (h : DE X e f) (hg : Gl X "range" := by rfl) (hs : starEach [e] X.env = [(false, eval e X.env)] := by rfl) : DI X tg (.Call (.Name "range" p) [e] [] pos) (rg1 f) := pi_imp (pi_range1 hg hm (pa_cons h pa_nil hs) hs) fun σ H R ⟨B, F0, F, e, ds, ok, fe, q⟩ => by
  obtain ⟨d, hd, fe⟩ := bind1 fe
  refine ⟨B, F0, F, e, d, ok, hd, fun v F' H' g dp => ?_⟩
  unfold rng1D at fe
  split at fe
  · rename_i j
    split at fe
    · rename_i hz
      cases fe
      unfold rngOk at hz
      simp only [Bool.and_eq_true, decide_eq_true_eq] at hz
      refine ⟨j, by rw [dp_int dp], hz.1, hz.2, q _ F' H' g ?_⟩
      have := wlk_rng (K := X.K) (G := F') (F := F') 0 j
      simpa using this
    · cases fe
  · cases fe
theorem di_rng2 (hm : X.mg "range" = none) (h : DE X e f) (h2 : DE X e2 g) (hg : Gl X "range" := by rfl) (hs : starEach [e, e2] X.env = [(false, eval e X.env), (false, eval e2 X.env)] := by rfl) (hs2 : starEach [e2] X.env = [(false, eval e2 X.env)] := by rfl) :
    DI X tg (.Call (.Name "range" p) [e, e2] [] pos) (rg2 f g) := pi_imp (pi_range2 hg hm (pa_cons h (pa_cons h2 pa_nil hs2) (by rw [hs, hs2])) hs hs2) fun σ H R ⟨B, F0, F, e, ds, ok, fe, q⟩ => by
  obtain ⟨d, d2, hd, hd2, fe⟩ := bind2 fe
  refine ⟨B, F0, F, e, d, ok, hd, fun v F1 H1 g1 dp1 => ⟨B, F0, F1, e, d2, ok.grow g1, hd2, fun v2 F' H' g2 dp2 => ?_⟩⟩
  unfold rng2D at fe
  split at fe
  · rename_i i j
    split at fe
    · rename_i hz
      cases fe
      unfold rngOk at hz
      simp only [Bool.and_eq_true, decide_eq_true_eq] at hz
      exact ⟨i, j, by rw [dp_int dp1, dp_int dp2], ⟨hz.1.1, hz.1.2, hz.2.1, hz.2.2⟩, q _ F' H' (g1.trans g2) (wlk_rng i j)⟩
    · cases fe
  · cases fe
end
end DL

/-! DLay5: built-ins, defs. -/
namespace DL
open PySem PySem.Spec PyProof.Rows L2 Evl

def asInts : List D → Option (List Int)
  | [] => some []
  | .int n :: r => (asInts r).map (n :: ·)
  | _ :: _ => none
def asBools : List D → Option (List Bool)
  | [] => some []
  | .bool n :: r => (asBools r).map (n :: ·)
  | _ :: _ => none
def asStrs : List D → Option (List Str)
  | [] => some []
  | .str n :: r => (asStrs r).map (n :: ·)
  | _ :: _ => none
theorem asInts_map : ∀ ns : List Int, asInts (ns.map PyData.int) = some ns
  | [] => rfl
  | n :: ns => by show (asInts (ns.map PyData.int)).map _ = _; rw [asInts_map ns]; rfl
theorem asBools_map : ∀ ns : List Bool, asBools (ns.map PyData.bool) = some ns
  | [] => rfl
  | n :: ns => by show (asBools (ns.map PyData.bool)).map _ = _; rw [asBools_map ns]; rfl
theorem asStrs_map : ∀ ns : List Str, asStrs (ns.map PyData.str) = some ns
  | [] => rfl
  | n :: ns => by show (asStrs (ns.map PyData.str)).map _ = _; rw [asStrs_map ns]; rfl
theorem asInts_of : ∀ {ds : List D} {ns : List Int}, asInts ds = some ns → ds = ns.map PyData.int
  | [], ns, h => by cases h; rfl
  | .int n :: r, ns, h => by
    obtain ⟨ms, e, rfl⟩ := Option.map_eq_some_iff.mp h
    rw [asInts_of e]; rfl
  | .none :: _, _, h => by cases h
  | .bool _ :: _, _, h => by cases h
  | .str _ :: _, _, h => by cases h
  | .list _ :: _, _, h => by cases h
  | .tuple _ :: _, _, h => by cases h
  | .dict _ :: _, _, h => by cases h
theorem asBools_of : ∀ {ds : List D} {ns : List Bool}, asBools ds = some ns → ds = ns.map PyData.bool
  | [], ns, h => by cases h; rfl
  | .bool n :: r, ns, h => by
    obtain ⟨ms, e, rfl⟩ := Option.map_eq_some_iff.mp h
    rw [asBools_of e]; rfl
  | .none :: _, _, h => by cases h
  | .int _ :: _, _, h => by cases h
  | .str _ :: _, _, h => by cases h
  | .list _ :: _, _, h => by cases h
  | .tuple _ :: _, _, h => by cases h
  | .dict _ :: _, _, h => by cases h
theorem asStrs_of : ∀ {ds : List D} {ns : List Str}, asStrs ds = some ns → ds = ns.map PyData.str
  | [], ns, h => by cases h; rfl
  | .str n :: r, ns, h => by
    obtain ⟨ms, e, rfl⟩ := Option.map_eq_some_iff.mp h
    rw [asStrs_of e]; rfl
  | .none :: _, _, h => by cases h
  | .int _ :: _, _, h => by cases h
  | .bool _ :: _, _, h => by cases h
  | .list _ :: _, _, h => by cases h
  | .tuple _ :: _, _, h => by cases h
  | .dict _ :: _, _, h => by cases h

def lenD : D → Option D
  | .list xs => some (.int xs.length)
  | .tuple xs => some (.int xs.length)
  | .str z => if sml z.length = true then some (.int z.length) else none
  | _ => none
def sumD : D → Option D
  | .list xs => (asInts xs).map fun ns => .int ns.sum
  | .tuple xs => (asInts xs).map fun ns => .int ns.sum
  | _ => none
def maxD : D → Option D
  | .list xs => (asInts xs).bind fun ns => ns.max?.map PyData.int
  | _ => none
def minD : D → Option D
  | .list xs => (asInts xs).bind fun ns => ns.min?.map PyData.int
  | _ => none
def anyD : D → Option D
  | .list xs => (asBools xs).map fun ns => .bool (ns.any id)
  | _ => none
def allD : D → Option D
  | .list xs => (asBools xs).map fun ns => .bool (ns.all id)
  | _ => none
def tupleD : D → Option D
  | .list xs => some (.tuple xs)
  | .tuple xs => some (.tuple xs)
  | _ => none
def absD : D → Option D
  | .int i => some (.int (if i < 0 then -i else i))
  | _ => none
def max2D : D → D → Option D
  | .int i, .int j => some (.int (if j > i then j else i))
  | _, _ => none
def min2D : D → D → Option D
  | .int i, .int j => some (.int (if j < i then j else i))
  | _, _ => none
def intD : D → Option D
  | .int i => some (.int i)
  | .bool b => some (.int (if b then 1 else 0))
  | _ => none
def strD : D → Option D
  | .int i => if i.natAbs < 2 ^ 1000 then some (.str (toString i)) else none
  | .none => some (.str "None")
  | .bool b => some (.str (if b then "True" else "False"))
  | _ => none
inductive Ty | int | bool | str | tuple | list
def isiD : Ty → D → Option D
  | .int, .int _ => some (.bool true)
  | .int, .bool _ => some (.bool true)
  | .bool, .bool _ => some (.bool true)
  | .str, .str _ => some (.bool true)
  | .tuple, .tuple _ => some (.bool true)
  | .list, .list _ => some (.bool true)
  | _, .dict _ => none
  | _, _ => some (.bool false)
def Ty.nm : Ty → String
  | .int => "int" | .bool => "bool" | .str => "str" | .tuple => "tuple" | .list => "list"

section
variable {X : Cx} {e e2 : Expr} {es : List Expr} {f g : FE} {fa : FA} {x : Str} {p pos : Pos}
def CD1 (K : PySem.W.Frag) (r : List V → Hp → VK → Prop) (g : D → Option D) : Prop := ∀ F H x a d Q, Ex F H → Rs K F H x a → g a = some d → Kn K F H d Q → r [x] H Q
def CD2 (K : PySem.W.Frag) (r : List V → Hp → VK → Prop) (g : D → D → Option D) : Prop := ∀ F H x y a b d Q, Ex F H → Rs K F H x a → Rs K F H y b → g a b = some d → Kn K F H d Q → r [x, y] H Q
theorem cd1_read {r : List V → Hp → VK → Prop} {G : D → Option D} (hd : CD1 X.K r G) (σ : L2.St) (H : Hp) (Q : VK) (h : TD X.K (c1 G f) σ H Q) : tCB r (tCons (TR X.K f) tNil) σ H Q := by
  obtain ⟨B, F0, F, e, d, ok, fe, q⟩ := h
  obtain ⟨x, hx, fe⟩ := bind1 fe
  exact ⟨B, F0, F, e, x, ok, hx, fun v F1 H1 g1 r1 => hd F1 H1 v x d Q g1.fh r1 fe fun w F' H' g3 dp => q w F' H' (g1.trans g3) dp⟩
theorem cd2_read {r : List V → Hp → VK → Prop} {G : D → D → Option D} (hd : CD2 X.K r G) (σ : L2.St) (H : Hp) (Q : VK) (h : TD X.K (c2 G f g) σ H Q) : tCB r (tCons (TR X.K f) (tCons (TR X.K g) tNil)) σ H Q := by
  obtain ⟨B, F0, F, e, d, ok, fe, q⟩ := h
  obtain ⟨x, y, hx, hy, fe⟩ := bind2 fe
  refine ⟨B, F0, F, e, x, ok, hx, fun v F1 H1 g1 r1 => ⟨B, F0, F1, e, y, ok.grow g1, hy, fun u F2 H2 g2 r2 => ?_⟩⟩
  exact hd F2 H2 v u x y d Q g2.fh (r1.grow g2) r2 fe fun w F' H' g3 dp => q w F' H' ((g1.trans g2).trans g3) dp
theorem de_b1 {id : String} {r : List V → Hp → VK → Prop} {G : D → Option D} (hc : CallR X (.builtin id) r) (hd : CD1 X.K r G) (hv : bootBuiltins x = some (.builtin id)) (hm : X.mg x = none) (h : DR X e f) (hg : Gl X x) (hn : x ≠ "__name__") (hdb : (x == ("__debug__" : Str)) = false)
    (hs : starEach [e] X.env = (false, eval e X.env) :: starEach [] X.env) : DE X (.Call (.Name x p) [e] [] pos) (c1 G f) := pe_imp (pe_callB hc hg hm hv (pa_cons h pa_nil hs) hn hdb hs rfl) (cd1_read hd)
theorem de_t1 {T : String} {r : List V → Hp → VK → Prop} {G : D → Option D} (hc : CallR X (.type T) r) (hd : CD1 X.K r G) (hv : bootBuiltins x = some (.type T)) (hm : X.mg x = none) (h : DR X e f) (hg : Gl X x) (hn : x ≠ "__name__") (hdb : (x == ("__debug__" : Str)) = false)
    (hs : starEach [e] X.env = (false, eval e X.env) :: starEach [] X.env) : DE X (.Call (.Name x p) [e] [] pos) (c1 G f) := pe_imp (pe_callTy hc hg hm hv (pa_cons h pa_nil hs) hn hdb hs rfl) (cd1_read hd)
theorem de_b2 {id : String} {r : List V → Hp → VK → Prop} {G : D → D → Option D} (hc : CallR X (.builtin id) r) (hd : CD2 X.K r G) (hv : bootBuiltins x = some (.builtin id)) (hm : X.mg x = none) (h : DR X e f) (h2 : DR X e2 g) (hg : Gl X x) (hn : x ≠ "__name__") (hdb : (x == ("__debug__" : Str)) = false)
    (hs : starEach [e, e2] X.env = (false, eval e X.env) :: starEach [e2] X.env) (hs2 : starEach [e2] X.env = (false, eval e2 X.env) :: starEach [] X.env) (hpl : (backTo pos (starEach [e2] X.env)).any (·.1) = false) : DE X (.Call (.Name x p) [e, e2] [] pos) (c2 G f g) :=
  pe_imp (pe_callB hc hg hm hv (pa_cons h (pa_cons h2 pa_nil hs2) hs) hn hdb hs hpl) (cd2_read hd)

theorem cd_len {K : PySem.W.Frag} : CD1 K (fun xs H Q => ∃ x n, xs = [x] ∧ LenV K x H n ∧ Q (.int n) H) lenD := by
  intro F H x a d Q xf ha hg q
  unfold lenD at hg
  split at hg
  · cases hg
    obtain ⟨p, vs, rfl, h1, h2⟩ := ha.lst xf
    exact ⟨_, _, rfl, .inl ⟨vs, h1, rfl⟩, by rw [dpa_len h2]; exact q.now xf (.int _)⟩
  · cases hg
    obtain ⟨p, vs, rfl, h1, h2⟩ := ha.tup xf
    exact ⟨_, _, rfl, .inr ⟨vs, h1, rfl⟩, by rw [dpa_len h2]; exact q.now xf (.int _)⟩
  · split at hg
    · rename_i hz
      cases hg
      rw [rs_str ha]
      exact ⟨_, _, rfl, ⟨Nat.le_trans (sml_le hz) big_line, rfl⟩, q.now xf (.int _)⟩
    · cases hg
  · cases hg
theorem sumT_raw {prog : Program} {w : World} {A : Around} {E : Value → Shared → Prop} {s : Shared} {l : Addr} {its : List Value} {ns : List Int} {Q : Value → Shared → Prop} (hh : A.handled = none) (hl : s.heap.IsTuple l its.toArray) (hi : IntsAre its ns)
    (h : ∀ h' tk t', (∀ b o, s.heap.get? b = some o → h'.get? b = some o) → Q (.int ns.sum t') { s with heap := h', toks := tk }) : wpAny (model prog w) A (call (.builtin "sum") [.ref l]) Q E s := by
  obtain ⟨xs, e⟩ := hi.allInts.items
  have hn : numsOf (intItems xs).toList = ns := by rw [← e]; exact hi.numsOf
  rw [nums_intItems] at hn
  rw [e] at hl
  have hlt : l < s.heap.objs.size := by obtain ⟨_, e, _⟩ := hl; exact Heap.lt_size e
  refine call_sum_walkG (wpAny_pyIter_tuple hl ?_)
  refine ⟨s.heap.objs.size, [s.heap.objs.size, l], [s.heap.objs.size], _, _, _, numAt xs, rfl, Walks.tuple (A := A.in1) hh _ l (Nat.ne_of_lt hlt) (intItems xs), ⟨⟨_, Heap.get?_push_size _ rfl, rfl, rfl⟩, hl.at fun o e => Heap.get?_push_of_some _ e⟩, fun b hb => ?_, (fun _ _ => intItems_at), fun h' tk t' hk => ?_⟩
  · show b < (s.heap.push _).objs.size
    rw [Heap.size_push]
    rcases List.mem_cons.mp hb with rfl | hb
    · exact Nat.lt_succ_self _
    · rcases List.mem_cons.mp hb with rfl | hb
      · exact Nat.lt_succ_of_lt hlt
      · cases hb
  · have hk' : ∀ b o, s.heap.get? b = some o → h'.get? b = some o := fun b o e => by
      refine hk b o (fun hm => ?_) (Heap.get?_push_of_some _ e)
      rcases List.mem_cons.mp hm with e1 | hm
      · exact absurd (e1 ▸ Heap.lt_size e) (Nat.lt_irrefl _)
      · cases hm
    have := h h' tk t' hk'
    have e2 : (intItems xs).size = xs.size := by simp [intItems]
    rw [e2, preSum_eq, List.take_of_length_le (by simp), hn]
    exact this
def rSumA (K : PySem.W.Frag) : List V → Hp → VK → Prop := fun vs H Q => rSum K vs H Q ∨ ∃ (a : Addr) (ns : List Int), vs = [V.ref a] ∧ SqT K H a (ns.map V.int) ∧ Q (.int ns.sum) H
theorem cr_sumA {X : Cx} (hc : X.calm = true) : CallR X (.builtin "sum") (rSumA X.K) := by
  intro pins s σ H vs us Q I r h
  rcases h with h | h
  · exact cr_sum hc pins s σ H vs us Q I r h
  · obtain ⟨a, ns, rfl, hs, q⟩ := h
    obtain ⟨its, rv, hl, _⟩ := I.tuple hs
    rw [Vals.ref1 r]
    exact sumT_raw (I.ok.hd hc) hl rv.ints fun h' tk t' hk => ⟨.int _, H, I.kept hk, ⟨_, rfl⟩, q⟩
theorem cd_sum {K : PySem.W.Frag} : CD1 K (rSumA K) sumD := by
  intro F H x a d Q xf ha hg q
  unfold sumD at hg
  split at hg
  · obtain ⟨ns, e, rfl⟩ := Option.map_eq_some_iff.mp hg
    obtain ⟨p, vs, rfl, h1, h2⟩ := ha.lst xf
    rw [asInts_of e] at h2
    have := dpa_map_int h2
    subst this
    exact .inl ⟨p, ns, rfl, h1, q.now xf (.int _)⟩
  · obtain ⟨ns, e, rfl⟩ := Option.map_eq_some_iff.mp hg
    obtain ⟨p, vs, rfl, h1, h2⟩ := ha.tup xf
    rw [asInts_of e] at h2
    have := dpa_map_int h2
    subst this
    exact .inr ⟨p, ns, rfl, h1, q.now xf (.int _)⟩
  · cases hg
theorem cd_max {K : PySem.W.Frag} : CD1 K (rMax K) maxD := by
  intro F H x a d Q xf ha hg q
  unfold maxD at hg
  split at hg
  · obtain ⟨ns, e, hg⟩ := bind1 hg
    obtain ⟨M, hM, rfl⟩ := Option.map_eq_some_iff.mp hg
    obtain ⟨p, vs, rfl, h1, h2⟩ := ha.lst xf
    rw [asInts_of e] at h2
    have := dpa_map_int h2
    subst this
    have hM' := List.max?_eq_some_iff.mp hM
    refine ⟨p, ns, rfl, h1, List.length_pos_of_mem hM'.1, fun m hm hle => ?_⟩
    have : m = M := Int.le_antisymm (hM'.2 m hm) (hle M hM'.1)
    subst this
    exact q.now xf (.int _)
  · cases hg
theorem cd_min {K : PySem.W.Frag} : CD1 K (rMin K) minD := by
  intro F H x a d Q xf ha hg q
  unfold minD at hg
  split at hg
  · obtain ⟨ns, e, hg⟩ := bind1 hg
    obtain ⟨M, hM, rfl⟩ := Option.map_eq_some_iff.mp hg
    obtain ⟨p, vs, rfl, h1, h2⟩ := ha.lst xf
    rw [asInts_of e] at h2
    have := dpa_map_int h2
    subst this
    have hM' := List.min?_eq_some_iff.mp hM
    refine ⟨p, ns, rfl, h1, List.length_pos_of_mem hM'.1, fun m hm hle => ?_⟩
    have : m = M := Int.le_antisymm (hle M hM'.1) (hM'.2 m hm)
    subst this
    exact q.now xf (.int _)
  · cases hg
theorem cd_any {K : PySem.W.Frag} : CD1 K (rAny K) anyD := by
  intro F H x a d Q xf ha hg q
  unfold anyD at hg
  split at hg
  · obtain ⟨ns, e, rfl⟩ := Option.map_eq_some_iff.mp hg
    obtain ⟨p, vs, rfl, h1, h2⟩ := ha.lst xf
    rw [asBools_of e] at h2
    have := dpa_map_bl h2
    subst this
    exact ⟨p, ns, rfl, h1, q.now xf (.bl _)⟩
  · cases hg
theorem cd_all {K : PySem.W.Frag} : CD1 K (rAll K) allD := by
  intro F H x a d Q xf ha hg q
  unfold allD at hg
  split at hg
  · obtain ⟨ns, e, rfl⟩ := Option.map_eq_some_iff.mp hg
    obtain ⟨p, vs, rfl, h1, h2⟩ := ha.lst xf
    rw [asBools_of e] at h2
    have := dpa_map_bl h2
    subst this
    exact ⟨p, ns, rfl, h1, q.now xf (.bl _)⟩
  · cases hg
theorem cd_tuple {K : PySem.W.Frag} : CD1 K (fun xs H Q => ∃ p ys, xs = [.ref p] ∧ ((SqL K H p ys ∧ ∀ l, H l = none → Q (.ref l) (upd H l (.tup ys))) ∨ (SqT K H p ys ∧ Q (.ref p) H))) tupleD := by
  intro F H x a d Q xf ha hg q
  unfold tupleD at hg
  split at hg
  · cases hg
    obtain ⟨p, vs, rfl, h1, h2⟩ := ha.lst xf
    exact ⟨p, vs, rfl, .inl ⟨h1, fun l hl => q.tupN xf h2 hl⟩⟩
  · cases hg
    have ha' := rs_tupF ha
    obtain ⟨p, vs, rfl, h1, h2⟩ := dp_tup ha'
    exact ⟨p, vs, rfl, .inr ⟨ex_t xf h1, q.now xf ha'⟩⟩
  · cases hg
theorem cd_abs {K : PySem.W.Frag} : CD1 K (fun xs H Q => ∃ i, xs = [.int i] ∧ Q (.int (if i < 0 then -i else i)) H) absD := by
  intro F H x a d Q xf ha hg q
  unfold absD at hg
  split at hg
  · cases hg
    rw [rs_int ha]
    exact ⟨_, rfl, q.now xf (.int _)⟩
  · cases hg
theorem cd_max2 {K : PySem.W.Frag} : CD2 K (fun xs H Q => ∃ i j, xs = [.int i, .int j] ∧ Q (.int (if j > i then j else i)) H) max2D := by
  intro F H x y a b d Q xf ha hb hg q
  unfold max2D at hg
  split at hg
  · cases hg
    rw [rs_int ha, rs_int hb]
    exact ⟨_, _, rfl, q.now xf (.int _)⟩
  · cases hg
theorem cd_min2 {K : PySem.W.Frag} : CD2 K (fun xs H Q => ∃ i j, xs = [.int i, .int j] ∧ Q (.int (if j < i then j else i)) H) min2D := by
  intro F H x y a b d Q xf ha hb hg q
  unfold min2D at hg
  split at hg
  · cases hg
    rw [rs_int ha, rs_int hb]
    exact ⟨_, _, rfl, q.now xf (.int _)⟩
  · cases hg
theorem cd_int {K : PySem.W.Frag} : CD1 K (fun xs H Q => (∃ i, xs = [.int i] ∧ Q (.int i) H) ∨ ∃ k, xs = [.bl k] ∧ Q (.int (if k then 1 else 0)) H) intD := by
  intro F H x a d Q xf ha hg q
  unfold intD at hg
  split at hg
  · cases hg
    rw [rs_int ha]
    exact .inl ⟨_, rfl, q.now xf (.int _)⟩
  · cases hg
    rw [rs_bl ha]
    exact .inr ⟨_, rfl, q.now xf (.int _)⟩
  · cases hg
def rStrA : List V → Hp → VK → Prop := fun xs H Q => (∃ i, xs = [.int i] ∧ i.natAbs.log2 < 1920 ∧ Q (.str (toString i)) H) ∨ (xs = [.non] ∧ Q (.str "None") H) ∨ ∃ b, xs = [.bl b] ∧ Q (.str (if b then "True" else "False")) H
theorem call_strA {X : Cx} : CallR X (.type "str") rStrA := by
  intro pins s σ H xs us Q I r h
  rcases h with h | ⟨rfl, q⟩ | ⟨b, rfl, q⟩
  · exact call_str_int pins s σ H xs us Q I r h
  · obtain ⟨u, rfl, r1⟩ := vals1 r
    cases r1
    exact PySem.P.str_of_none ⟨.str "None", H, I.tok _, ⟨_, rfl⟩, q⟩
  · obtain ⟨u, rfl, r1⟩ := vals1 r
    cases r1
    refine PySem.P.str_of_bool ⟨.str (if b then "True" else "False"), H, I.tok _, ⟨s.toks, ?_⟩, q⟩
    cases b <;> rfl
theorem cd_str {K : PySem.W.Frag} : CD1 K rStrA strD := by
  intro F H x a d Q xf ha hg q
  unfold strD at hg
  split at hg
  · split at hg
    · rename_i hz
      cases hg
      rw [rs_int ha]
      exact .inl ⟨_, rfl, Nat.lt_trans (PySem.Flt.log2_lt_of (by decide) hz) (by decide), q.now xf (.str _)⟩
    · cases hg
  · cases hg
    have hn : x = .non := by
      rcases ha with h | ⟨_, _, _, _, h, _⟩
      · exact dp_non h
      · cases h
    rw [hn]
    exact .inr (.inl ⟨rfl, q.now xf (.str _)⟩)
  · cases hg
    rw [rs_bl ha]
    exact .inr (.inr ⟨_, rfl, q.now xf (.str _)⟩)
  · cases hg

theorem de_len (hm : X.mg "len" = none) (h : DR X e f) (hg : Gl X "len" := by rfl) (hs : starEach [e] X.env = (false, eval e X.env) :: starEach [] X.env := by rfl) : DE X (.Call (.Name "len" p) [e] [] pos) (c1 lenD f) := de_b1 call_len cd_len PySem.boot_len hm h hg (by decide) (by decide) hs
theorem de_sum (hc : X.calm = true) (hm : X.mg "sum" = none) (h : DR X e f) (hg : Gl X "sum" := by rfl) (hs : starEach [e] X.env = (false, eval e X.env) :: starEach [] X.env := by rfl) : DE X (.Call (.Name "sum" p) [e] [] pos) (c1 sumD f) := de_b1 (cr_sumA hc) cd_sum (by decide +kernel) hm h hg (by decide) (by decide) hs
theorem de_max (hc : X.calm = true) (hm : X.mg "max" = none) (h : DR X e f) (hg : Gl X "max" := by rfl) (hs : starEach [e] X.env = (false, eval e X.env) :: starEach [] X.env := by rfl) : DE X (.Call (.Name "max" p) [e] [] pos) (c1 maxD f) := de_b1 (cr_max hc) cd_max (by decide +kernel) hm h hg (by decide) (by decide) hs
theorem de_min (hc : X.calm = true) (hm : X.mg "min" = none) (h : DR X e f) (hg : Gl X "min" := by rfl) (hs : starEach [e] X.env = (false, eval e X.env) :: starEach [] X.env := by rfl) : DE X (.Call (.Name "min" p) [e] [] pos) (c1 minD f) := de_b1 (cr_min hc) cd_min (by decide +kernel) hm h hg (by decide) (by decide) hs
theorem de_any (hc : X.calm = true) (hm : X.mg "any" = none) (h : DR X e f) (hg : Gl X "any" := by rfl) (hs : starEach [e] X.env = (false, eval e X.env) :: starEach [] X.env := by rfl) : DE X (.Call (.Name "any" p) [e] [] pos) (c1 anyD f) := de_b1 (cr_any hc) cd_any (by decide +kernel) hm h hg (by decide) (by decide) hs
theorem de_all (hc : X.calm = true) (hm : X.mg "all" = none) (h : DR X e f) (hg : Gl X "all" := by rfl) (hs : starEach [e] X.env = (false, eval e X.env) :: starEach [] X.env := by rfl) : DE X (.Call (.Name "all" p) [e] [] pos) (c1 allD f) := de_b1 (cr_all hc) cd_all (by decide +kernel) hm h hg (by decide) (by decide) hs
theorem de_abs (hm : X.mg "abs" = none) (h : DR X e f) (hg : Gl X "abs" := by rfl) (hs : starEach [e] X.env = (false, eval e X.env) :: starEach [] X.env := by rfl) : DE X (.Call (.Name "abs" p) [e] [] pos) (c1 absD f) := de_b1 call_abs cd_abs (by decide +kernel) hm h hg (by decide) (by decide) hs
theorem de_tuple (hm : X.mg "tuple" = none) (h : DR X e f) (hg : Gl X "tuple" := by rfl) (hs : starEach [e] X.env = (false, eval e X.env) :: starEach [] X.env := by rfl) : DE X (.Call (.Name "tuple" p) [e] [] pos) (c1 tupleD f) := de_t1 call_tuple_of cd_tuple (by decide +kernel) hm h hg (by decide) (by decide) hs
theorem de_toint (hm : X.mg "int" = none) (h : DR X e f) (hg : Gl X "int" := by rfl) (hs : starEach [e] X.env = (false, eval e X.env) :: starEach [] X.env := by rfl) : DE X (.Call (.Name "int" p) [e] [] pos) (c1 intD f) := de_t1 call_int1 cd_int (by decide +kernel) hm h hg (by decide) (by decide) hs
theorem de_tostr (hm : X.mg "str" = none) (h : DR X e f) (hg : Gl X "str" := by rfl) (hs : starEach [e] X.env = (false, eval e X.env) :: starEach [] X.env := by rfl) : DE X (.Call (.Name "str" p) [e] [] pos) (c1 strD f) := de_t1 call_strA cd_str (by decide +kernel) hm h hg (by decide) (by decide) hs
theorem de_max2 (hc : X.calm = true) (hm : X.mg "max" = none) (h : DR X e f) (h2 : DR X e2 g) (hg : Gl X "max" := by rfl) (hs : starEach [e, e2] X.env = (false, eval e X.env) :: starEach [e2] X.env := by rfl) (hs2 : starEach [e2] X.env = (false, eval e2 X.env) :: starEach [] X.env := by rfl) (hpl : (backTo pos (starEach [e2] X.env)).any (·.1) = false := by rfl) :
    DE X (.Call (.Name "max" p) [e, e2] [] pos) (c2 max2D f g) := de_b2 (call_max2 hc) cd_max2 (by decide +kernel) hm h h2 hg (by decide) (by decide) hs hs2 hpl
theorem de_min2 (hc : X.calm = true) (hm : X.mg "min" = none) (h : DR X e f) (h2 : DR X e2 g) (hg : Gl X "min" := by rfl) (hs : starEach [e, e2] X.env = (false, eval e X.env) :: starEach [e2] X.env := by rfl) (hs2 : starEach [e2] X.env = (false, eval e2 X.env) :: starEach [] X.env := by rfl) (hpl : (backTo pos (starEach [e2] X.env)).any (·.1) = false := by rfl) :
    DE X (.Call (.Name "min" p) [e, e2] [] pos) (c2 min2D f g) := de_b2 (call_min2 hc) cd_min2 (by decide +kernel) hm h h2 hg (by decide) (by decide) hs hs2 hpl
/-- list(..): a new list -/
def seqA (f : FE) : FA := fun e => (f e).bind seqOf
theorem dn_list (hm : X.mg "list" = none) (h : DR X e f) (hg : Gl X "list" := by rfl) (hs : starEach [e] X.env = (false, eval e X.env) :: starEach [] X.env := by rfl) : DN X (.Call (.Name "list" p) [e] [] pos) (seqA f) :=
  pe_imp (pe_callTy call_list_of hg hm (by decide +kernel) (pa_cons h pa_nil hs) (by decide) (by decide) hs rfl) fun σ H Q ⟨B, F0, F, e, xs, ok, fe, q⟩ => by
  obtain ⟨d, hd, fe⟩ := bind1 fe
  refine ⟨B, F0, F, e, d, ok, hd, fun v F' H' g dp => ?_⟩
  unfold seqOf at fe
  split at fe
  · cases fe
    obtain ⟨a, vs, rfl, h1, h2⟩ := dp.lst g.fh
    exact ⟨a, vs, rfl, .inl h1, fun l hl => q l vs F' _ (g.trans (Gr.loose g.fh hl)) (g.fb hl) (fresh_back g.fh hl) upd_same h2⟩
  · cases fe
    obtain ⟨a, vs, rfl, h1, h2⟩ := dp.tup g.fh
    exact ⟨a, vs, rfl, .inr h1, fun l hl => q l vs F' _ (g.trans (Gr.loose g.fh hl)) (g.fb hl) (fresh_back g.fh hl) upd_same h2⟩
  · cases fe
/-- list(range(..)), tuple(range(..)) -/
def rgSmall (i : Int) : Bool := decide (0 ≤ i) && decide (i ≤ 100000)
def rgS1 : D → Option (List D)
  | .int j => if rgSmall j = true then some (rngL 0 j) else none
  | _ => none
def rgS2 : D → D → Option (List D)
  | .int i, .int j => if rgSmall i = true ∧ rgSmall j = true then some (rngL i j) else none
  | _, _ => none
theorem rgSmall_ok {i j : Int} (h : rgSmall i = true) (h2 : rgSmall j = true) : RgOk i j := by
  unfold rgSmall at h h2
  simp only [Bool.and_eq_true, decide_eq_true_eq] at h h2
  have : big = 100000 := rfl
  exact RgOk.of_le h.1 (by omega) (by omega) h2.1
theorem dpa_rng {K : PySem.W.Frag} {F : Hp} (i j : Int) : DpAll K F (rgV i j) (rngL i j) := by
  have : rgV i j = ((List.range (j - i).toNat).map fun k : Nat => i + (k : Int)).map V.int := by unfold rgV; rw [List.map_map]; rfl
  rw [this]
  have e : rngL i j = ((List.range (j - i).toNat).map fun k : Nat => i + (k : Int)).map PyData.int := by unfold rngL; rw [List.map_map]; rfl
  rw [e]
  exact dpa_ints _
def lr1 (f : FE) : FA := fun e => (f e).bind rgS1
def lr2 (f g : FE) : FA := fun e => (f e).bind fun x => (g e).bind fun y => rgS2 x y
theorem dn_listRg {p2 pos2 : Pos} (hc : X.calm = true) (hm : X.mg "list" = none) (hm2 : X.mg "range" = none) (h : DE X e f) (hg : Gl X "list" := by rfl) (hg2 : Gl X "range" := by rfl) (hs : starEach [e] X.env = (false, eval e X.env) :: starEach [] X.env := by rfl)
    (na : starEach [.Call (.Name "range" p2) [e] [] pos2] X.env = (false, eval (.Call (.Name "range" p2) [e] [] pos2) X.env) :: starEach [] X.env := by rfl) : DN X (.Call (.Name "list" p) [.Call (.Name "range" p2) [e] [] pos2] [] pos) (lr1 f) :=
  pe_imp (pe_listRg hc hg hm (prg_1 hg2 hm2 h hs) na) fun σ H Q ⟨B, F0, F, e, xs, ok, fe, q⟩ => by
  obtain ⟨d, hd, fe⟩ := bind1 fe
  refine ⟨B, F0, F, e, d, ok, hd, fun v F' H' g dp => ?_⟩
  unfold rgS1 at fe
  split at fe
  · split at fe
    · rename_i hz
      cases fe
      exact ⟨_, dp_int dp, rgSmall_ok (by decide) hz, fun l hl => q l _ F' _ (g.trans (Gr.loose g.fh hl)) (g.fb hl) (fresh_back g.fh hl) upd_same (dpa_rng _ _)⟩
    · cases fe
  · cases fe
theorem de_tupRg1 {p2 pos2 : Pos} (hc : X.calm = true) (hm : X.mg "tuple" = none) (hm2 : X.mg "range" = none) (h : DE X e f) (hg : Gl X "tuple" := by rfl) (hg2 : Gl X "range" := by rfl) (hs : starEach [e] X.env = (false, eval e X.env) :: starEach [] X.env := by rfl)
    (na : starEach [.Call (.Name "range" p2) [e] [] pos2] X.env = (false, eval (.Call (.Name "range" p2) [e] [] pos2) X.env) :: starEach [] X.env := by rfl) : DE X (.Call (.Name "tuple" p) [.Call (.Name "range" p2) [e] [] pos2] [] pos) (tup (lr1 f)) :=
  pe_imp (pe_tupRg hc hg hm (prg_1 hg2 hm2 h hs) na) fun σ H Q ⟨B, F0, F, e, d, ok, fe, q⟩ => by
  obtain ⟨xs, fe1, rfl⟩ := Option.map_eq_some_iff.mp fe
  clear fe
  obtain ⟨d, hd, fe⟩ := bind1 fe1
  refine ⟨B, F0, F, e, d, ok, hd, fun v F' H' g dp => ?_⟩
  unfold rgS1 at fe
  split at fe
  · split at fe
    · rename_i hz
      cases fe
      exact ⟨_, dp_int dp, rgSmall_ok (by decide) hz, fun l hl => Kn.tupN (K := X.K) (fun v F' H' g2 dp => q v F' H' (g.trans g2) dp) g.fh (dpa_rng _ _) hl⟩
    · cases fe
  · cases fe
theorem de_tupRg2 {p2 pos2 : Pos} (hc : X.calm = true) (hm : X.mg "tuple" = none) (hm2 : X.mg "range" = none) (h : DE X e f) (h2 : DE X e2 g) (hg : Gl X "tuple" := by rfl) (hg2 : Gl X "range" := by rfl)
    (hs : starEach [e, e2] X.env = (false, eval e X.env) :: starEach [e2] X.env := by rfl) (hs2 : starEach [e2] X.env = (false, eval e2 X.env) :: starEach [] X.env := by rfl) (hpl : (backTo pos2 (starEach [e2] X.env)).any (·.1) = false := by rfl)
    (na : starEach [.Call (.Name "range" p2) [e, e2] [] pos2] X.env = (false, eval (.Call (.Name "range" p2) [e, e2] [] pos2) X.env) :: starEach [] X.env := by rfl) : DE X (.Call (.Name "tuple" p) [.Call (.Name "range" p2) [e, e2] [] pos2] [] pos) (tup (lr2 f g)) :=
  pe_imp (pe_tupRg hc hg hm (prg_2 hg2 hm2 h h2 hs hs2 hpl) na) fun σ H Q ⟨B, F0, F, e, d, ok, fe, q⟩ => by
  obtain ⟨xs, fe1, rfl⟩ := Option.map_eq_some_iff.mp fe
  clear fe
  obtain ⟨d, d2, hd, hd2, fe⟩ := bind2 fe1
  refine ⟨B, F0, F, e, d, ok, hd, fun v F1 H1 g1 dp1 => ⟨B, F0, F1, e, d2, ok.grow g1, hd2, fun v2 F' H' g2 dp2 => ?_⟩⟩
  unfold rgS2 at fe
  split at fe
  · split at fe
    · rename_i hz
      cases fe
      exact ⟨_, _, dp_int dp1, dp_int dp2, rgSmall_ok hz.1 hz.2, fun l hl => Kn.tupN (K := X.K) (fun v F' H' g3 dp => q v F' H' ((g1.trans g2).trans g3) dp) g2.fh (dpa_rng _ _) hl⟩
    · cases fe
  · cases fe
end

/-! ### defs -/
/-- what a def is worth: a function of data -/
def spD (K : PySem.W.Frag) (n : Nat) (M : List D → Option D) : Sp := fun vs H Q _ => ∃ F ds d, (Ex F H ∧ NT F ∧ TbK K H) ∧ DpAll K F vs ds ∧ ds.length = n ∧ M ds = some d ∧ ∀ v F' H', Gr F H F' H' → Dp K F' v d → Q v H'
abbrev FnD (P : Program) (w : World) (K : PySem.W.Frag) (mg : Str → Option Value) (base : Heap) (k : Nat) (f : Addr) (fd : FuncData) (ps : List Str) (M : List D → Option D) : Prop := FnOk P w K mg base CX0 k f fd ps (spD K ps.length M)
def startE (n : Nat) (ds : List D) : DEnv := ds.map (fun d => some (.sh d)) ++ List.replicate (n - ds.length) none
def runF (n : Nat) (body : FS) : List D → Option D := fun ds => (body (startE n ds)).bind fun r => match r with
  | .rt d => some d
  | .nx _ => some .none
  | _ => none
theorem ok_start {K : PySem.W.Frag} {F H : Hp} {N : List Str} {vs : List V} {ds : List D} (x : Ex F H) (nt : NT F) (tb : TbK K H) (h : DpAll K F vs ds) : Ok K H F F (L2.start N vs) H (startE N.length ds) where
  gr := Gr.refl x
  sh := fun i d hi => by
    unfold startE at hi
    unfold L2.start
    have hl := dpa_len h
    by_cases hlt : i < ds.length
    · rw [List.getElem?_append_left (by simpa using hlt), List.getElem?_map] at hi
      obtain ⟨d', hd, e⟩ := Option.map_eq_some_iff.mp hi
      cases e
      obtain ⟨v, hv, dv⟩ := dpa_get h hd
      refine ⟨v, ?_, dv⟩
      rw [List.getElem?_append_left (by simp; omega), List.getElem?_map, hv]; rfl
    · rw [List.getElem?_append_right (by simpa using hlt), List.getElem?_replicate] at hi
      split at hi <;> cases hi
  ow := fun i d hi => by
    unfold startE at hi
    by_cases hlt : i < ds.length
    · rw [List.getElem?_append_left (by simpa using hlt), List.getElem?_map] at hi
      obtain ⟨d', hd, e⟩ := Option.map_eq_some_iff.mp hi
      cases e
    · rw [List.getElem?_append_right (by simpa using hlt), List.getElem?_replicate] at hi
      split at hi <;> cases hi
  inj := fun i j xs ys a hi => by
    unfold startE at hi
    by_cases hlt : i < ds.length
    · rw [List.getElem?_append_left (by simpa using hlt), List.getElem?_map] at hi
      obtain ⟨d', hd, e⟩ := Option.map_eq_some_iff.mp hi
      cases e
    · rw [List.getElem?_append_right (by simpa using hlt), List.getElem?_replicate] at hi
      split at hi <;> cases hi
  od := fun i d hi => by
    unfold startE at hi
    by_cases hlt : i < ds.length
    · rw [List.getElem?_append_left (by simpa using hlt), List.getElem?_map] at hi
      obtain ⟨d', hd, e⟩ := Option.map_eq_some_iff.mp hi
      cases e
    · rw [List.getElem?_append_right (by simpa using hlt), List.getElem?_replicate] at hi
      split at hi <;> cases hi
  ijd := fun i j xs ys a hi => by
    unfold startE at hi
    by_cases hlt : i < ds.length
    · rw [List.getElem?_append_left (by simpa using hlt), List.getElem?_map] at hi
      obtain ⟨d', hd, e⟩ := Option.map_eq_some_iff.mp hi
      cases e
    · rw [List.getElem?_append_right (by simpa using hlt), List.getElem?_replicate] at hi
      split at hi <;> cases hi
  fn := fun i L n hi => by
    unfold startE at hi
    by_cases hlt : i < ds.length
    · rw [List.getElem?_append_left (by simpa using hlt), List.getElem?_map] at hi
      obtain ⟨d', hd, e⟩ := Option.map_eq_some_iff.mp hi
      cases e
    · rw [List.getElem?_append_right (by simpa using hlt), List.getElem?_replicate] at hi
      split at hi <;> cases hi
  nt := nt
  tb := tb
  len := by
    unfold startE L2.start
    have hl := dpa_len h
    simp [hl]
theorem fn_mk {P : Program} {w : World} {K : PySem.W.Frag} {mg : Str → Option Value} {base : Heap} {k : Nat} {x qual : Str} {args : Arguments} {st : List Stmt} {sc : Scope} {f : Addr} {fd : FuncData} {N ps : List Str} {body : FS} {n : Nat}
    (F : FunD K x qual args st sc [] [] f fd) (S : FnScope N ps sc) (hn : N.length = n)
    (hb : ∀ (cdv : Value) (A : Around) (outer : List Env) (s : Shared) (H : Hp) (E : XK), Room k (A.deeper (envOfC qual sc s.heap.objs.size f cdv)) → DSs (cxOf CX0 P w K mg base N qual sc f cdv A outer s H E).nox st body) :
    FnD P w K mg base (k + 1) f fd ps (runF n body) := by
  refine F.ok S (fun vs H Q E h => ?_) (fun cdv A outer s H vs Q E hr h => ⟨_, PSs.nox (hb cdv A outer s H E hr), ?_⟩)
  · obtain ⟨F, ds, d, x, dp, hl, _⟩ := h
    rw [dpa_len dp]; exact hl
  · obtain ⟨F, ds, d, x, dp, hl, hM, q⟩ := h
    obtain ⟨r, hr1, hM⟩ := bind1 hM
    have ok : Ok K H F F (L2.start N vs) H (startE n ds) := by rw [← hn]; exact ok_start x.1 x.2.1 x.2.2 dp
    refine ⟨H, F, F, startE n ds, r, ok, hr1, ?_⟩
    cases r with
    | rt d' => cases hM; exact fun v F' H' g dp => q v F' H' g dp
    | nx e' => cases hM; exact fun σ' F' H' _ ok' => q _ F' H' ok'.gr .non
    | bk e' => cases hM
    | ct e' => cases hM
section
variable {X : Cx} {e : Expr} {es : List Expr} {f : FE} {fa : FA} {x : Str} {p pos : Pos} {fd : FuncData} {ps : List Str} {k j : Nat} {fn : Addr} {M : List D → Option D}
theorem fn_none {P : Program} {w : World} {K : PySem.W.Frag} {mg : Str → Option Value} {base : Heap} {k : Nat} {f : Addr} {fd : FuncData} {ps : List Str} : FnD P w K mg base k f fd ps (fun _ => none) := ⟨fun vs H Q E h => (by obtain ⟨F, ds, d, _, _, _, h, _⟩ := h; cases h), fun A outer s H args us vs Q E hr e0 hb r h => (by obtain ⟨F, ds, d, _, _, _, h, _⟩ := h; cases h)⟩
theorem de_call (G : FnD X.prog X.w X.K X.mg X.base j fn fd ps M) (hr : Room k X.A) (hj : j ≤ k) (hm : X.mg x = some (.ref fn)) (kp : PySem.W.keepIn X.K (.ref fn) = true) (b : Binds X.K fd ps []) (ha : DA X (e :: es) fa) (hl : ∀ env ds, fa env = some ds → ds.length = ps.length)
    (hg : Gl X x := by rfl) (hdb : (x == ("__debug__" : Str)) = false := by decide) (he : starEach (e :: es) X.env = (false, eval e X.env) :: starEach es X.env := by rfl) (hpl : (backTo pos (starEach es X.env)).any (·.1) = false := by rfl) : DE X (.Call (.Name x p) (e :: es) [] pos) (cA M fa) :=
  pe_imp (pe_call (E := fun _ _ _ => False) G (hr.mono hj) hg hm kp b .nil pass0 ha hdb he hpl) fun σ H Q ⟨B, F0, F, env, d, ok, fe, q⟩ => by
  obtain ⟨ds, hd, fe⟩ := bind1 fe
  refine ⟨B, F0, F, env, ds, ok, hd, fun vs F' H' g dp => ?_⟩
  show spD X.K ps.length M (vs ++ []) H' Q _
  rw [List.append_nil]
  exact ⟨F', ds, d, ⟨g.fh, g.nt ok.nt, ok.tb.grow g.hx⟩, dp, hl _ _ hd, fe, fun v F2 H2 g2 dp2 => q v F2 H2 (g.trans g2) dp2⟩
theorem lev_le {j b n : Nat} (h : j ≤ b) : j ≤ b + n := Nat.le_trans h (Nat.le_add_right b n)
theorem lq_nil : ∀ e ds, nilA e = some ds → ds.length = 0 := fun e ds h => by cases h; rfl
theorem lq_cons {n : Nat} (h : ∀ e ds, fa e = some ds → ds.length = n) : ∀ e ds, consA f fa e = some ds → ds.length = n + 1 := fun e ds hx => by
  obtain ⟨x, y, hx, hy, fe⟩ := bind2 hx
  cases fe
  exact congrArg (· + 1) (h _ _ hy)
end
end DL

/-! DLay6: slices, isinstance, extend, is, in. -/
namespace DL
open PySem PySem.Spec PyProof.Rows L2 Evl

/-! ### slices -/
def cutL {α : Type} (xs : List α) (lo hi : Option Int) : List α := (xs.drop (HT.sIx xs.length 0 lo)).take (HT.sIx xs.length xs.length hi - HT.sIx xs.length 0 lo)
def cutD (d : D) (lo hi : Option Int) : Option D := match d with
  | .tuple xs => some (.tuple (cutL xs lo hi))
  | .list xs => some (.list (cutL xs lo hi))
  | .str z => if sml z.length = true then some (.str (cutS z lo hi)) else none
  | _ => none
abbrev FO := DEnv → Option (Option Int)
def noP : FO := fun _ => some none
def asI : D → Option Int
  | .int i => some i
  | _ => none
def yesP (f : FE) : FO := fun e => (f e).bind fun d => (asI d).map some
def slD (f : FE) (l h : FO) : FE := fun e => (f e).bind fun x => (l e).bind fun lo => (h e).bind fun hi => cutD x lo hi
section
variable {X : Cx} {e e2 : Expr} {f g : FE} {l h : FO} {pos p2 : Pos}
def TOd (K : PySem.W.Frag) (f : FO) : TO := fun σ H Q => ∃ B F0 F e o, Ok K B F0 F σ H e ∧ f e = some o ∧ ∀ F' H', Gr F H F' H' → Q o H'
def DO (X : Cx) (e : Option Expr) (f : FO) : Prop := PO X e (TOd X.K f)
theorem po_imp {e : Option Expr} {t t' : TO} (h : PO X e t) (i : ∀ σ H Q, t' σ H Q → t σ H Q) : PO X e t' := ⟨fun pins s σ H Q I hw => h.run pins s σ H Q I (i _ _ _ hw)⟩
theorem do_none : DO X none noP := po_imp po_none fun σ H Q ⟨B, F0, F, e, o, ok, fe, q⟩ => by
  cases fe
  exact q F H (Gr.refl ok.fh)
theorem do_some (h : DE X e f) : DO X (some e) (yesP f) := po_imp (po_some h) fun σ H Q ⟨B, F0, F, e, o, ok, fe, q⟩ => by
  obtain ⟨d, hd, fe⟩ := bind1 fe
  obtain ⟨i, hi, rfl⟩ := Option.map_eq_some_iff.mp fe
  refine ⟨B, F0, F, e, d, ok, hd, fun v F' H' g dp => ⟨i, ?_, q F' H' g⟩⟩
  unfold asI at hi
  split at hi
  · cases hi; exact dp_int dp
  · cases hi
theorem cutV_dp {K : PySem.W.Frag} {F : Hp} {vs : List V} {ds : List D} (h : DpAll K F vs ds) (lo hi : Option Int) : DpAll K F (cutV vs lo hi) (cutL ds lo hi) := by
  unfold cutV cutL
  rw [dpa_len h]
  exact dpa_take _ (dpa_drop _ h)
theorem cutL_whole {α : Type} {xs : List α} {lo hi : Option Int} (h : HT.sIx xs.length 0 lo = 0 ∧ HT.sIx xs.length xs.length hi = xs.length) : cutL xs lo hi = xs := by
  unfold cutL
  rw [h.1, h.2]
  simp
theorem de_slice (he : DR X e f) (hl : DO X e2' l) (hh : DO X e3' h) : DE X (.Subscript e (.Slice e2' e3' none p2) pos) (slD f l h) :=
  pe_imp (pe_slice (sl_list.or (sl_tupA.or sl_str)) he hl hh) fun σ H Q ⟨B, F0, F, e, d, ok, fe, q⟩ => by
  obtain ⟨x, hx, fe⟩ := bind1 fe
  obtain ⟨lo, hi, hlo, hhi, fe⟩ := bind2 fe
  refine ⟨B, F0, F, e, x, ok, hx, fun v F1 H1 g1 r1 => ⟨B, F0, F1, e, lo, ok.grow g1, hlo, fun F2 H2 g2 => ⟨B, F0, F2, e, hi, (ok.grow g1).grow g2, hhi, fun F3 H3 g3 => ?_⟩⟩⟩
  have r3 := (r1.grow g2).grow g3
  have q3 : Kn X.K F3 H3 d Q := fun w F' H' g4 dp => q w F' H' (((g1.trans g2).trans g3).trans g4) dp
  unfold cutD at fe
  split at fe
  · cases fe
    have r4 := rs_tupF r3
    obtain ⟨a, vs, rfl, s1, d1⟩ := dp_tup r4
    refine .inr (.inl ⟨a, vs, rfl, ex_t g3.fh s1, fun hw => ?_, fun _ p hp => q3.tupN g3.fh (cutV_dp d1 lo hi) hp⟩)
    rw [dpa_len d1] at hw
    rw [cutL_whole hw] at q3
    exact q3.now g3.fh r4
  · cases fe
    obtain ⟨a, vs, rfl, s1, d1⟩ := r3.lst g3.fh
    exact .inl ⟨a, vs, rfl, s1, fun p hp => q3.lstN g3.fh (cutV_dp d1 lo hi) hp⟩
  · split at fe
    · rename_i hz
      cases fe
      exact .inr (.inr ⟨_, rs_str r3, Nat.le_trans (sml_le hz) big_line, q3.now g3.fh (.str _)⟩)
    · cases fe
  · cases fe
end

/-! ### isinstance -/
section
variable {X : Cx} {e e2 : Expr} {f g : FE} {p p2 pos : Pos} {x : Str}
theorem tyx_lst {K : PySem.W.Frag} {H : Hp} {a : Addr} {xs : List V} (h : SqL K H a xs) : TyX K H (.ref a) (.type "list") := by
  rcases h with (h | ⟨o, h⟩) | ⟨o, its, n, h1, h2, _⟩
  · exact .base (.lst h)
  · exact .base (.frz h)
  · exact .kList h1 h2
theorem tyx_tup {K : PySem.W.Frag} {H : Hp} {a : Addr} {xs : List V} (h : SqT K H a xs) : TyX K H (.ref a) (.type "tuple") := by
  rcases h with (h | ⟨o, h⟩) | ⟨o, its, n, h1, h2, _⟩
  · exact .base (.tup h)
  · exact .fTuple h
  · exact .kTuple h1 h2
theorem isi_of {K : PySem.W.Frag} {F H : Hp} {v : V} {d r : D} {T : Ty} (x : Ex F H) (h : Rs K F H v d) (hi : isiD T d = some r) : ∃ t b, TyX K H v t ∧ PySem.W.kitOne K t (.type T.nm) = some b ∧ r = .bool b := by
  have h' := h.dp x
  cases h' with
  | non => cases T <;> cases hi <;> exact ⟨_, _, .base .non, kit_ty (by decide +kernel), rfl⟩
  | bl b => cases T <;> cases hi <;> exact ⟨_, _, .base (.bl b), kit_ty (by decide +kernel), rfl⟩
  | int b => cases T <;> cases hi <;> exact ⟨_, _, .base (.int b), kit_ty (by decide +kernel), rfl⟩
  | str b => cases T <;> cases hi <;> exact ⟨_, _, .base (.str b), kit_ty (by decide +kernel), rfl⟩
  | lst s _ => cases T <;> cases hi <;> exact ⟨_, _, tyx_lst s, kit_ty (by decide +kernel), rfl⟩
  | tup s _ => cases T <;> cases hi <;> exact ⟨_, _, tyx_tup s, kit_ty (by decide +kernel), rfl⟩
  | dic s _ => cases T <;> cases hi
theorem de_isi (T : Ty) (hm : X.mg "isinstance" = none) (hmT : X.mg T.nm = none) (h : DR X e f) (hx : x = (T.nm : Str) := by rfl) (hg : Gl X "isinstance" := by rfl) (hgT : Gl X x := by rfl)
    (hs : starEach [e, .Name x p2] X.env = (false, eval e X.env) :: starEach [.Name x p2] X.env := by rfl) (hs2 : starEach [.Name x p2] X.env = (false, eval (.Name x p2) X.env) :: starEach [] X.env := by rfl) (hpl : (backTo pos (starEach [.Name x p2] X.env)).any (·.1) = false := by rfl) :
    DE X (.Call (.Name "isinstance" p) [e, .Name x p2] [] pos) (c1 (isiD T) f) := by
  subst hx
  have hT : PE X (.Name (T.nm : Str) p2) (tC (.ty T.nm)) := by
    cases T <;> exact pe_bltn (u := .type _) hgT hmT (by decide +kernel) rfl (by decide) (by decide)
  refine pe_imp (pe_callB call_isi hg hm (by decide +kernel) (pa_cons h (pa_cons hT pa_nil hs2) hs) (by decide) (by decide) hs hpl) fun σ H Q ⟨B, F0, F, e, d, ok, fe, q⟩ => ?_
  obtain ⟨y, hy, fe⟩ := bind1 fe
  refine ⟨B, F0, F, e, y, ok, hy, fun v F1 H1 g1 r1 => ?_⟩
  obtain ⟨t, b, ht, hk, rfl⟩ := isi_of g1.fh r1 fe
  exact ⟨v, .ty T.nm, t, .type T.nm, b, rfl, .ty _, ht, hk, q _ F1 H1 g1 (.bl _)⟩
end

/-! ### is True, is not True -/
section
variable {X : Cx} {a b : Expr} {f g : FE} {pos : Pos}
def isBD : D → D → Option D
  | .bool c, .bool d => some (.bool (c == d))
  | _, _ => none
def notBD : D → D → Option D
  | .bool c, .bool d => some (.bool (c != d))
  | _, _ => none
theorem op_isB : OpR X (compareOp .Is) (fun x y H Q => ∃ c d, x = .bl c ∧ y = .bl d ∧ Q (.bl (c == d)) H) := by
  intro pins s σ H x y v u Q I rx ry h
  obtain ⟨c, d, rfl, rfl, q⟩ := h
  cases rx
  cases ry
  exact is_bool (fin_bl I q rfl)
theorem op_notB : OpR X (compareOp .IsNot) (fun x y H Q => ∃ c d, x = .bl c ∧ y = .bl d ∧ Q (.bl (c != d)) H) := by
  intro pins s σ H x y v u Q I rx ry h
  obtain ⟨c, d, rfl, rfl, q⟩ := h
  cases rx
  cases ry
  exact isnot_bool (fin_bl I q rfl)
theorem od_isB {K : PySem.W.Frag} : OpD K (fun x y H Q => ∃ c d, x = .bl c ∧ y = .bl d ∧ Q (.bl (c == d)) H) isBD := by
  intro F H x y a b d Q xf ha hb hg q
  unfold isBD at hg
  split at hg
  · cases hg
    exact ⟨_, _, rs_bl ha, rs_bl hb, q.now xf (.bl _)⟩
  · cases hg
theorem od_notB {K : PySem.W.Frag} : OpD K (fun x y H Q => ∃ c d, x = .bl c ∧ y = .bl d ∧ Q (.bl (c != d)) H) notBD := by
  intro F H x y a b d Q xf ha hb hg q
  unfold notBD at hg
  split at hg
  · cases hg
    exact ⟨_, _, rs_bl ha, rs_bl hb, q.now xf (.bl _)⟩
  · cases hg
end

/-! ### in, not in -/
section
variable {X : Cx} {a b : Expr} {f g : FE} {pos : Pos}
def flatD : D → Bool
  | .int _ => true
  | .str _ => true
  | .bool _ => true
  | .none => true
  | _ => false
def inSeq (x : D) (xs : List D) : Bool := xs.any fun y => PyData.eqv y x
def inStr (x z : Str) : Bool := !(Builtin.Str.occurrences z x 0 z.length 1).isEmpty
def sh63 (d : D) : Bool := d.canLay0 && decide (d.depth ≤ 62)
def okIn (x : D) (xs : List D) : Bool := (flatD x && xs.all flatD) || (sh63 x && PyData.canLayAll0 xs)
def inD (x y : D) : Option D := match y with
  | .list xs => if okIn x xs = true then some (.bool (inSeq x xs)) else none
  | .tuple xs => if okIn x xs = true then some (.bool (inSeq x xs)) else none
  | .str z => match x with
    | .str x => some (.bool (inStr x z))
    | _ => none
  | _ => none
def ninD (x y : D) : Option D := match y with
  | .list xs => if okIn x xs = true then some (.bool (!inSeq x xs)) else none
  | .tuple xs => if okIn x xs = true then some (.bool (!inSeq x xs)) else none
  | .str z => match x with
    | .str x => some (.bool (!inStr x z))
    | _ => none
  | _ => none
theorem flat_dp {K : PySem.W.Frag} {F : Hp} {v : V} {d : D} (h : Dp K F v d) (f : flatD d = true) : flatV v = true := by
  cases h <;> first | rfl | cases f
theorem flat_dpa {K : PySem.W.Frag} {F : Hp} : ∀ {vs : List V} {ds : List D}, DpAll K F vs ds → ds.all flatD = true → vs.all flatV = true
  | _, _, .nil, _ => rfl
  | _, _, .cons h hs, f => by
    rw [List.all_cons, Bool.and_eq_true] at f ⊢
    exact ⟨flat_dp h f.1, flat_dpa hs f.2⟩
theorem eqV_dp {K : PySem.W.Frag} {F : Hp} {v u : V} {d e : D} (h : Dp K F v d) (h2 : Dp K F u e) (f : flatD d = true) (f2 : flatD e = true) : eqV v u = PyData.eqv d e := by
  cases h <;> first | (cases f; done) | (cases h2 <;> first | (cases f2; done) | skip)
  all_goals (simp [eqV, PyData.eqv])
theorem inV_dp {K : PySem.W.Frag} {F : Hp} {v : V} {d : D} (h : Dp K F v d) (f : flatD d = true) : ∀ {vs : List V} {ds : List D}, DpAll K F vs ds → ds.all flatD = true → inV v vs = inSeq d ds
  | _, _, .nil, _ => rfl
  | _, _, .cons q qs, g => by
    rw [List.all_cons, Bool.and_eq_true] at g
    have ih := inV_dp h f qs g.2
    unfold inV inSeq at ih ⊢
    rw [List.any_cons, List.any_cons, ih, eqV_dp q h g.1 f]
end
end DL

/-! DLay7: in, extend. -/
namespace DL
open PySem PySem.Spec PyProof.Rows L2 Evl
section
variable {X : Cx}
open Classical in
noncomputable def eqR (h : Heap) (x : D) (u : Value) : Bool := if q : ∃ d, ∃ as, d.canLay0 = true ∧ Reads h u d as then PyData.eqv q.choose x else false
theorem eqR_of {h : Heap} {x d : D} {u : Value} {as : List Addr} (hc : d.canLay0 = true) (r : Reads h u d as) : eqR h x u = PyData.eqv d x := by
  have q : ∃ d, ∃ as, d.canLay0 = true ∧ Reads h u d as := ⟨d, as, hc, r⟩
  unfold eqR
  rw [dif_pos q]
  obtain ⟨as', hc', r'⟩ := q.choose_spec
  rw [SeqAt.Reads.unique _ _ _ _ _ hc' r' r]
theorem any_eqR {h : Heap} {x : D} : ∀ {ds : List D} {us : List Value} {as : List Addr}, ReadsAll h us ds as → PyData.canLayAll0 ds = true → us.any (eqR h x) = ds.any fun y => PyData.eqv y x
  | [], _, _, r, _ => by cases r; rfl
  | d :: ds, _, _, r, f => by
    cases r with
    | cons r1 r2 =>
      simp only [PyData.canLayAll0, Bool.and_eq_true] at f
      rw [List.any_cons, List.any_cons, eqR_of f.1 r1, any_eqR r2 f.2]
theorem mem_eqR {A : Around} {s : Shared} {x : D} {v : Value} {bs : List Addr} (rx : Reads s.heap v x bs) (hx : sh63 x = true) (hu : A.units + 64 < cLine) : ∀ {ds : List D} {us : List Value} {as : List Addr}, ReadsAll s.heap us ds as → PyData.canLayAll0 ds = true → ∀ u ∈ us, SeqAt.EqAt A.in1 s u v (eqR s.heap x u)
  | [], _, _, r, _ => fun u hu => by cases r; cases hu
  | d :: ds, _, _, r, f => fun u' hu' => by
    cases r with
    | cons r1 r2 =>
      simp only [PyData.canLayAll0, Bool.and_eq_true] at f
      rcases List.mem_cons.mp hu' with rfl | hu'
      · rw [eqR_of f.1 r1]
        unfold sh63 at hx
        simp only [Bool.and_eq_true, decide_eq_true_eq] at hx
        refine SeqAt.eqAt_reads d x A.in1 s _ _ _ _ r1 rx f.1 hx.1 ?_
        simp only [Around.in1_units]
        have := Nat.min_le_right d.depth x.depth
        omega
      · exact mem_eqR rx hx hu r2 f.2 u' hu'
def rInD (K : PySem.W.Frag) (neg : Bool) : R2 := fun x y H Q => ∃ p xs d ds, y = .ref p ∧ (SqL K H p xs ∨ SqT K H p xs) ∧ L2.Dp K H x d ∧ L2.DpAll K H xs ds ∧ sh63 d = true ∧ PyData.canLayAll0 ds = true ∧ Q (.bl (if neg then !inSeq d ds else inSeq d ds)) H
theorem op_in_D (hu : X.A.units + 64 < cLine) : OpR X (compareOp .In) (rInD X.K false) := by
  intro pins s σ H x y v u Q I rx ry h
  obtain ⟨p, xs, d, ds, rfl, hq, dx, da, fx, fs, q⟩ := h
  cases ry
  obtain ⟨bs, rdx⟩ := L2.Dp.reads I d x v dx rx
  rcases hq with hq | hq
  · obtain ⟨its, r, pl, hz⟩ := I.list hq
    obtain ⟨as, ra⟩ := L2.Dp.readsAll I ds _ _ da r
    refine SeqAt.in_listAt (eqR s.heap d) pl.isList (fun w hw => mem_eqR rdx fx hu ra fs w (by simpa using hw)) ⟨.bl _, H, I, rfl, ?_⟩
    rw [show its.toArray.any (eqR s.heap d) = its.any (eqR s.heap d) by simp, any_eqR ra fs]
    exact q
  · obtain ⟨its, r, pl, hz⟩ := I.tuple hq
    obtain ⟨as, ra⟩ := L2.Dp.readsAll I ds _ _ da r
    refine SeqAt.in_tupleAt (eqR s.heap d) pl (fun w hw => mem_eqR rdx fx hu ra fs w (by simpa using hw)) ⟨.bl _, H, I, rfl, ?_⟩
    rw [show its.toArray.any (eqR s.heap d) = its.any (eqR s.heap d) by simp, any_eqR ra fs]
    exact q
theorem op_nin_D (hu : X.A.units + 64 < cLine) : OpR X (compareOp .NotIn) (rInD X.K true) := by
  intro pins s σ H x y v u Q I rx ry h
  obtain ⟨p, xs, d, ds, rfl, hq, dx, da, fx, fs, q⟩ := h
  cases ry
  obtain ⟨bs, rdx⟩ := L2.Dp.reads I d x v dx rx
  rcases hq with hq | hq
  · obtain ⟨its, r, pl, hz⟩ := I.list hq
    obtain ⟨as, ra⟩ := L2.Dp.readsAll I ds _ _ da r
    refine SeqAt.notIn_listAt (eqR s.heap d) pl.isList (fun w hw => mem_eqR rdx fx hu ra fs w (by simpa using hw)) ⟨.bl _, H, I, rfl, ?_⟩
    rw [show its.toArray.any (eqR s.heap d) = its.any (eqR s.heap d) by simp, any_eqR ra fs]
    exact q
  · obtain ⟨its, r, pl, hz⟩ := I.tuple hq
    obtain ⟨as, ra⟩ := L2.Dp.readsAll I ds _ _ da r
    refine SeqAt.notIn_tupleAt (eqR s.heap d) pl (fun w hw => mem_eqR rdx fx hu ra fs w (by simpa using hw)) ⟨.bl _, H, I, rfl, ?_⟩
    rw [show its.toArray.any (eqR s.heap d) = its.any (eqR s.heap d) by simp, any_eqR ra fs]
    exact q
def rInA (K : PySem.W.Frag) : R2 := fun x y H Q => (rIn K false x y H Q ∨ rInD K false x y H Q) ∨ ∃ i j, x = .str i ∧ y = .str j ∧ Q (.bl (!(Builtin.Str.occurrences j i 0 j.length 1).isEmpty)) H
def rNinA (K : PySem.W.Frag) : R2 := fun x y H Q => (rIn K true x y H Q ∨ rInD K true x y H Q) ∨ ∃ i j, x = .str i ∧ y = .str j ∧ Q (.bl (!(!(Builtin.Str.occurrences j i 0 j.length 1).isEmpty))) H
theorem op_inA (hu : X.A.units + 64 < cLine) : OpR X (compareOp .In) (rInA X.K) := (op_in_seq.or (op_in_D hu)).or op_in_str
theorem op_ninA (hu : X.A.units + 64 < cLine) : OpR X (compareOp .NotIn) (rNinA X.K) := (op_notIn_seq.or (op_nin_D hu)).or op_notin_str
theorem rs_flat {K : PySem.W.Frag} {F H : Hp} {v : V} {d : D} (h : Rs K F H v d) (f : flatD d = true) : Dp K F v d := by
  rcases h with h | ⟨_, _, _, _, rfl, _⟩
  · exact h
  · cases f
theorem od_in {K : PySem.W.Frag} : OpD K (rInA K) inD := by
  intro F H x y a b d Q xf ha hb hg q
  unfold inD at hg
  split at hg
  · split at hg
    · rename_i hz
      cases hg
      unfold okIn at hz
      rcases (Bool.or_eq_true _ _).mp hz with hz | hz
      · rw [Bool.and_eq_true] at hz
        obtain ⟨p, vs, rfl, h1, h2⟩ := hb.lst xf
        have hx := rs_flat ha hz.1
        refine .inl (.inl ⟨p, vs, rfl, .inl h1, flat_dp hx hz.1, flat_dpa h2 hz.2, ?_⟩)
        simp only [Bool.false_eq_true, if_false, if_true]
        rw [inV_dp hx hz.1 h2 hz.2]
        exact q.now xf (.bl _)
      · rw [Bool.and_eq_true] at hz
        have hz1 := hz.1
        unfold sh63 at hz1
        rw [Bool.and_eq_true] at hz1
        have d1 := ha.dp xf
        have d2 := hb.dp xf
        cases d2 with
        | lst e1 e2 =>
          refine .inl (.inr ⟨_, _, _, _, rfl, .inl e1, dp_l2 d1 hz1.1, dpa_l2 e2 hz.2, hz.1, hz.2, ?_⟩)
          simp only [Bool.false_eq_true, if_false, if_true]
          exact q.now xf (.bl _)
    · cases hg
  · split at hg
    · rename_i hz
      cases hg
      unfold okIn at hz
      rcases (Bool.or_eq_true _ _).mp hz with hz | hz
      · rw [Bool.and_eq_true] at hz
        obtain ⟨p, vs, rfl, h1, h2⟩ := hb.tup xf
        have hx := rs_flat ha hz.1
        refine .inl (.inl ⟨p, vs, rfl, .inr h1, flat_dp hx hz.1, flat_dpa h2 hz.2, ?_⟩)
        simp only [Bool.false_eq_true, if_false, if_true]
        rw [inV_dp hx hz.1 h2 hz.2]
        exact q.now xf (.bl _)
      · rw [Bool.and_eq_true] at hz
        have hz1 := hz.1
        unfold sh63 at hz1
        rw [Bool.and_eq_true] at hz1
        have d1 := ha.dp xf
        have d2 := hb.dp xf
        cases d2 with
        | tup e1 e2 =>
          refine .inl (.inr ⟨_, _, _, _, rfl, .inr e1, dp_l2 d1 hz1.1, dpa_l2 e2 hz.2, hz.1, hz.2, ?_⟩)
          simp only [Bool.false_eq_true, if_false, if_true]
          exact q.now xf (.bl _)
    · cases hg
  · split at hg
    · cases hg
      exact .inr ⟨_, _, rs_str ha, rs_str hb, q.now xf (.bl _)⟩
    · cases hg
  · cases hg
theorem od_nin {K : PySem.W.Frag} : OpD K (rNinA K) ninD := by
  intro F H x y a b d Q xf ha hb hg q
  unfold ninD at hg
  split at hg
  · split at hg
    · rename_i hz
      cases hg
      unfold okIn at hz
      rcases (Bool.or_eq_true _ _).mp hz with hz | hz
      · rw [Bool.and_eq_true] at hz
        obtain ⟨p, vs, rfl, h1, h2⟩ := hb.lst xf
        have hx := rs_flat ha hz.1
        refine .inl (.inl ⟨p, vs, rfl, .inl h1, flat_dp hx hz.1, flat_dpa h2 hz.2, ?_⟩)
        simp only [Bool.false_eq_true, if_false, if_true]
        rw [inV_dp hx hz.1 h2 hz.2]
        exact q.now xf (.bl _)
      · rw [Bool.and_eq_true] at hz
        have hz1 := hz.1
        unfold sh63 at hz1
        rw [Bool.and_eq_true] at hz1
        have d1 := ha.dp xf
        have d2 := hb.dp xf
        cases d2 with
        | lst e1 e2 =>
          refine .inl (.inr ⟨_, _, _, _, rfl, .inl e1, dp_l2 d1 hz1.1, dpa_l2 e2 hz.2, hz.1, hz.2, ?_⟩)
          simp only [Bool.false_eq_true, if_false, if_true]
          exact q.now xf (.bl _)
    · cases hg
  · split at hg
    · rename_i hz
      cases hg
      unfold okIn at hz
      rcases (Bool.or_eq_true _ _).mp hz with hz | hz
      · rw [Bool.and_eq_true] at hz
        obtain ⟨p, vs, rfl, h1, h2⟩ := hb.tup xf
        have hx := rs_flat ha hz.1
        refine .inl (.inl ⟨p, vs, rfl, .inr h1, flat_dp hx hz.1, flat_dpa h2 hz.2, ?_⟩)
        simp only [Bool.false_eq_true, if_false, if_true]
        rw [inV_dp hx hz.1 h2 hz.2]
        exact q.now xf (.bl _)
      · rw [Bool.and_eq_true] at hz
        have hz1 := hz.1
        unfold sh63 at hz1
        rw [Bool.and_eq_true] at hz1
        have d1 := ha.dp xf
        have d2 := hb.dp xf
        cases d2 with
        | tup e1 e2 =>
          refine .inl (.inr ⟨_, _, _, _, rfl, .inr e1, dp_l2 d1 hz1.1, dpa_l2 e2 hz.2, hz.1, hz.2, ?_⟩)
          simp only [Bool.false_eq_true, if_false, if_true]
          exact q.now xf (.bl _)
    · cases hg
  · split at hg
    · cases hg
      exact .inr ⟨_, _, rs_str ha, rs_str hb, q.now xf (.bl _)⟩
    · cases hg
  · cases hg
end

/-! ### <= of ints and texts -/
section
variable {X : Cx}
theorem op_leA : OpR X (compareOp .LtE) (fun x y H Q => rI0 (fun i j => .bl (decide (i ≤ j))) x y H Q ∨ ∃ i j, x = .str i ∧ y = .str j ∧ Q (.bl (!decide (j.cps.toList < i.cps.toList))) H) := op_le.or op_le_str
theorem od_le {K : PySem.W.Frag} : OpD K (fun x y H Q => rI0 (fun i j => .bl (decide (i ≤ j))) x y H Q ∨ ∃ i j, x = .str i ∧ y = .str j ∧ Q (.bl (!decide (j.cps.toList < i.cps.toList))) H) leD := by
  intro F H x y a b d Q xf ha hb hg q
  unfold leD at hg
  split at hg
  · cases hg
    rw [rs_int ha, rs_int hb]
    exact .inl ⟨_, _, rfl, rfl, q.now xf (.bl _)⟩
  · cases hg
    rw [rs_str ha, rs_str hb]
    exact .inr ⟨_, _, rfl, rfl, q.now xf (.bl _)⟩
  · cases hg
end

/-! ### extend -/
theorem extW_list (l : Addr) (items : Array Value) (n : Nat) (b : Addr) (items2 : Array Value) (n2 : Nat) (dd : Option Addr) (sl : Array (Option Value)) (hs0 : ¬(!items.isEmpty && Builtin.List.listTooLong (items.size + items2.size)) = true) (hs1 : items.size ≤ sizeLine) (hs2 : items.size + items2.size ≤ sizeLine + 1) :
    Meets (Builtin.«list.extend» ⟨[.ref l, .ref b], []⟩) (fun _ R s => s.heap.get? l = some { cls := .type "list", dict := none, data := .seq items n, slots := #[] } ∧ s.heap.get? b = some { cls := .type "list", dict := dd, data := .seq items2 n2, slots := sl } ∧ R (.ok (.ret Value.none)) { s with heap := s.heap.update l (Obj.mapSeq fun x => x ++ items2), toks := s.toks }) :=
  .of_wp fun prog w A R s h => by
    obtain ⟨hp, g, d, tk, os⟩ := s; obtain ⟨hl, hb, h⟩ := h; have f1 := AutoSeq1.idx_int; have f2 := AutoSeq1.sub_tuple_tuple; have f3 := AutoSeq1.sub_list_list; have f4 := AutoSeq1.sub_tuple_list; have f5 := AutoSeq1.sub_list_tuple
    have hz' : (items ++ items2).size ≤ sizeLine + 1 := by rw [Array.size_append]; exact hs2
    wp_walk using (wpAny_updateSeq hl rfl (hz := hs1) (_hz' := hz')), AutoSeq1.wpAny_loadPart' hl, AutoSeq1.wpAny_loadPart' hb; exact ⟨_, rfl, h⟩
theorem extW_tup (l : Addr) (items : Array Value) (n : Nat) (b : Addr) (items2 : Array Value) (n2 : Nat) (dd : Option Addr) (sl : Array (Option Value)) (hs0 : ¬(!items.isEmpty && Builtin.List.listTooLong (items.size + items2.size)) = true) (hs1 : items.size ≤ sizeLine) (hs2 : items.size + items2.size ≤ sizeLine + 1) :
    Meets (Builtin.«list.extend» ⟨[.ref l, .ref b], []⟩) (fun _ R s => s.heap.get? l = some { cls := .type "list", dict := none, data := .seq items n, slots := #[] } ∧ s.heap.get? b = some { cls := .type "tuple", dict := dd, data := .seq items2 n2, slots := sl } ∧ R (.ok (.ret Value.none)) { s with heap := s.heap.update l (Obj.mapSeq fun x => x ++ items2), toks := s.toks }) :=
  .of_wp fun prog w A R s h => by
    obtain ⟨hp, g, d, tk, os⟩ := s; obtain ⟨hl, hb, h⟩ := h; have f1 := AutoSeq1.idx_int; have f2 := AutoSeq1.sub_tuple_tuple; have f3 := AutoSeq1.sub_list_list; have f4 := AutoSeq1.sub_tuple_list; have f5 := AutoSeq1.sub_list_tuple
    have hz' : (items ++ items2).size ≤ sizeLine + 1 := by rw [Array.size_append]; exact hs2
    wp_walk using (wpAny_updateSeq hl rfl (hz := hs1) (_hz' := hz')), AutoSeq1.wpAny_loadPart' hl, AutoSeq1.wpAny_loadPart' hb; exact ⟨_, rfl, h⟩
section
variable {X : Cx} {e : Expr} {fe : FE} {pos : Pos}
def rExtA (K : PySem.W.Frag) : V → List V → Hp → VK → Prop := fun x vs H Q => ∃ l b xs zs, x = .ref l ∧ vs = [.ref b] ∧ H l = some (.lst xs) ∧ (SqL K H b zs ∨ SqT K H b zs) ∧ xs.length + zs.length ≤ sizeLine ∧ Q .non (upd H l (.lst (xs ++ zs)))
theorem mt_extA : MtM X "list.extend" (rExtA X.K) := by
  intro pins s σ H x vs v us Q I rx rv h
  obtain ⟨l, b, xs, zs, rfl, rfl, hH, hB, hz, q⟩ := h
  cases rx
  obtain ⟨u, rfl, ru⟩ := rv.one
  cases ru
  obtain ⟨z, its, n, r, hl, e⟩ := I.lstM hH
  rcases hB with hB | hB
  · obtain ⟨its2, r2, ⟨⟨cls, dd, data, sl⟩, n2, ho, hc, hdd, hd⟩, hl2⟩ := I.list hB
    simp only at hc hd
    subst hc hd
    have hl3 := r2.length
    have hsz : its.toArray.size + its2.toArray.size ≤ sizeLine := by rw [List.size_toArray, List.size_toArray]; omega
    have hlong : ¬ (!its.toArray.isEmpty && Builtin.List.listTooLong (its.toArray.size + its2.toArray.size)) = true := by
      rw [notLongL hsz, Bool.and_false]
      exact Bool.false_ne_true
    refine call_meets PySem.F.slot_list_extend ⟨_, e, rfl⟩ PySem.F.entry_list_extend (PySem.F.args_list_extend_2 _ _) (extW_list l its.toArray n b its2.toArray n2 dd sl hlong (by rw [List.size_toArray]; omega) (by omega)) ⟨e, ho, ?_⟩
    refine ⟨.non, _, I.lset (its' := its ++ its2) hH e (by simp) (r.append r2) ?_, rfl, q⟩
    rw [List.length_append]
    omega
  · obtain ⟨its2, r2, ⟨⟨cls, dd, data, sl⟩, ho, hc, n2, hd⟩, hl2⟩ := I.tuple hB
    simp only at hc hd
    subst hc hd
    have hl3 := r2.length
    have hsz : its.toArray.size + its2.toArray.size ≤ sizeLine := by rw [List.size_toArray, List.size_toArray]; omega
    have hlong : ¬ (!its.toArray.isEmpty && Builtin.List.listTooLong (its.toArray.size + its2.toArray.size)) = true := by
      rw [notLongL hsz, Bool.and_false]
      exact Bool.false_ne_true
    refine call_meets PySem.F.slot_list_extend ⟨_, e, rfl⟩ PySem.F.entry_list_extend (PySem.F.args_list_extend_2 _ _) (extW_tup l its.toArray n b its2.toArray n2 dd sl hlong (by rw [List.size_toArray]; omega) (by omega)) ⟨e, ho, ?_⟩
    refine ⟨.non, _, I.lset (its' := its ++ its2) hH e (by simp) (r.append r2) ?_, rfl, q⟩
    rw [List.length_append]
    omega
theorem ds_ext (i : Nat) {x : Str} {px apos cpos : Pos} (he : DE X e fe) (hi : X.N[i]? = some x := by rfl) (hv : Vis X.env.scope x := by first | exact Or.inl rfl | exact Or.inr (Or.inl rfl) | exact Or.inr (Or.inr rfl)) (hd : (x == ("__debug__" : Str)) = false := by decide)
    (hcd : (x == ("__classdict__" : Str)) = false := by decide) (hbase : attributeBase (.Name x px) "extend" X.env (eval (.Name x px) X.env) = eval (.Name x px) X.env := by rfl)
    (hfew : ((backTo cpos (starEach [e] X.env)).all (fun x => !x.1) && (backToKw cpos (keywordEach [] X.env)).all (fun x => x.1.isSome) && decide (([e] : List Expr).length + ([] : List Keyword).length + (if ([] : List Keyword).isEmpty then 0 else 1) < 30)) = true := by rfl)
    (hline : (apos.endLine == cpos.line) = true := by rfl) (hs : starEach [e] X.env = (false, eval e X.env) :: starEach [] X.env := by rfl) (hsw : swapsWith (.Call (.Attribute (.Name x px) "extend" apos) [e] [] cpos) none pos.line X.env = pure false := by rfl) :
    DS X (.Expr (.Call (.Attribute (.Name x px) "extend" apos) [e] [] cpos) pos) (sExt i fe) :=
  ps_imp (ps_expr (pe_bm PySem.F.plainAttrs_list PySem.F.slot_list_extend PySem.F.type_list_extend mt_extA (pe_var hi hv hd hcd) (pa_cons he pa_nil hs) hbase hfew hline hs rfl) hsw) fun D σ H ⟨B, F0, F, e, r, ok, fr, q⟩ => by
  obtain ⟨d, h, fr⟩ := bind1 fr
  obtain ⟨ys, hys, fr⟩ := bind1 fr
  obtain ⟨xs, hx, fr⟩ := bind1 fr
  split at fr
  · rename_i hz
    cases fr
    have hx := owAt_some hx
    obtain ⟨a, vs, h1, h2, h3, h4, h5⟩ := ok.ow i xs hx
    refine ⟨.ref a, h1, .inl ⟨rfl, _, SqL.of h2⟩, B, F0, F, e, d, ok, h, fun v F' H' g dp => ?_⟩
    have key : ∃ b zs, v = .ref b ∧ (SqL X.K H' b zs ∨ SqT X.K H' b zs) ∧ DpAll X.K F' zs ys := by
      unfold seqOf at hys
      split at hys
      · cases hys
        obtain ⟨b, zs, e1, e2, e3⟩ := dp_lst dp
        exact ⟨b, zs, e1, .inl (ex_l g.fh e2), e3⟩
      · cases hys
        obtain ⟨b, zs, e1, e2, e3⟩ := dp_tup dp
        exact ⟨b, zs, e1, .inr (ex_t g.fh e2), e3⟩
      · cases hys
    obtain ⟨b, zs, rfl, hb, dz⟩ := key
    refine ⟨a, b, vs, zs, rfl, rfl, g.hh _ _ h2, hb, ?_, q σ F' _ g.ff ((ok.grow g).mutOw hx h1 (dpa_append (dpa_mono g.ff h5) dz))⟩
    rw [dpa_len h5, dpa_len dz]
    exact Nat.le_trans (sml_le hz) big_line
  · cases fr
end
end DL

/-! DLay8: the value layer in plain Lean: rewriting, loops, data that can be compared. -/
namespace DL
open PySem L2

/-! ### rewriting -/
def bindFl (r : Option Fl) (g : FS) : Option Fl := r.bind fun r => match r with
  | .nx e' => g e'
  | .rt d => some (.rt d)
  | .bk e' => some (.bk e')
  | .ct e' => some (.ct e')
def endFl (r : Option Fl) : Option D := r.bind fun r => match r with
  | .rt d => some d
  | .nx _ => some .none
  | _ => none
def ifFl (b : Option Bool) (f g : FS) (e : DEnv) : Option Fl := b.bind fun b => if b = true then f e else g e
section
variable {f g h : FE} {fa : FA} {p q : FB} {s t : FS} {e : DEnv} {i j : Nat}
@[simp] theorem e_vr : vr i e = (match e[i]? with
  | some (some (.sh d)) => some d
  | _ => none) := (rfl)
@[simp] theorem e_vo : vo i e = (match e[i]? with
  | some (some (.sh d)) => some d
  | some (some (.ow xs)) => some (.list xs)
  | _ => none) := (rfl)
@[simp] theorem e_cst {d : D} : cst d e = some d := (rfl)
@[simp] theorem e_c1 {G : D → Option D} : c1 G f e = (f e).bind G := (rfl)
@[simp] theorem e_c2 {G : D → D → Option D} : c2 G f g e = (f e).bind fun x => (g e).bind fun y => G x y := (rfl)
@[simp] theorem e_cA {G : List D → Option D} : cA G fa e = (fa e).bind G := (rfl)
@[simp] theorem e_nilA : nilA e = some [] := (rfl)
@[simp] theorem e_consA : consA f fa e = (f e).bind fun x => (fa e).bind fun xs => some (x :: xs) := (rfl)
@[simp] theorem e_tup : tup fa e = (fa e).map PyData.tuple := (rfl)
@[simp] theorem e_lstE : lstE fa e = (fa e).map PyData.list := (rfl)
@[simp] theorem e_tst : tst f e = (f e).bind asB := (rfl)
@[simp] theorem e_andT : andT p q e = (p e).bind fun b => if b = true then q e else some false := (rfl)
@[simp] theorem e_orT : orT p q e = (p e).bind fun b => if b = true then some true else q e := (rfl)
@[simp] theorem e_notT : notT p e = (p e).map not := (rfl)
@[simp] theorem e_andV : andV f g e = (f e).bind fun x => (asB x).bind fun b => if b = true then g e else some (.bool false) := (rfl)
@[simp] theorem e_orV : orV f g e = (f e).bind fun x => (asB x).bind fun b => if b = true then some (.bool true) else g e := (rfl)
@[simp] theorem e_notV : notV f e = (f e).bind fun x => (asB x).map fun b => .bool (!b) := (rfl)
@[simp] theorem e_ifE : ifE p f g e = (p e).bind fun b => if b = true then f e else g e := (rfl)
@[simp] theorem e_chD {G G' : D → D → Option D} : chD G G' f g h e = (f e).bind fun x => (g e).bind fun y => (G x y).bind fun z => (asB z).bind fun k => if k = true then (h e).bind fun w => G' y w else some (.bool false) := (rfl)
@[simp] theorem e_slD {l u : FO} : slD f l u e = (f e).bind fun x => (l e).bind fun lo => (u e).bind fun hi => cutD x lo hi := (rfl)
@[simp] theorem e_noP : noP e = some none := (rfl)
@[simp] theorem e_yesP : yesP f e = (f e).bind fun d => (asI d).map some := (rfl)
@[simp] theorem e_asI {k : Int} : asI (.int k) = some k := (rfl)
@[simp] theorem e_asB {b : Bool} : asB (.bool b) = some b := (rfl)
@[simp] theorem e_itA : itA f e = (f e).bind itemsD := (rfl)
@[simp] theorem e_rg1 : rg1 f e = (f e).bind rng1D := (rfl)
@[simp] theorem e_rg2 : rg2 f g e = (f e).bind fun x => (g e).bind fun y => rng2D x y := (rfl)
@[simp] theorem e_seqA : seqA f e = (f e).bind seqOf := (rfl)
@[simp] theorem e_lr1 : lr1 f e = (f e).bind rgS1 := (rfl)
@[simp] theorem e_lr2 : lr2 f g e = (f e).bind fun x => (g e).bind fun y => rgS2 x y := (rfl)
@[simp] theorem e_yesT : yesT e = some true := (rfl)
@[simp] theorem e_sNx : sNx e = some (.nx e) := (rfl)
@[simp] theorem e_sq : sq s t e = bindFl (s e) t := (rfl)
@[simp] theorem e_sAsg : sAsg i f e = (f e).map fun d => .nx (e.set i (some (.sh d))) := (rfl)
@[simp] theorem e_sNew : sNew i fa e = (fa e).map fun d => .nx (e.set i (some (.ow d))) := (rfl)
@[simp] theorem e_sRet : sRet f e = (f e).map .rt := (rfl)
@[simp] theorem e_sIf : sIf p s t e = ifFl (p e) s t e := (rfl)
@[simp] theorem e_ifFl {b : Bool} : ifFl (some b) s t e = if b = true then s e else t e := (rfl)
@[simp] theorem e_bnx {e' : DEnv} : bindFl (some (.nx e')) t = t e' := (rfl)
@[simp] theorem e_brt {d : D} : bindFl (some (.rt d)) t = some (.rt d) := (rfl)
@[simp] theorem e_bbk {e' : DEnv} : bindFl (some (.bk e')) t = some (.bk e') := (rfl)
@[simp] theorem e_bct {e' : DEnv} : bindFl (some (.ct e')) t = some (.ct e') := (rfl)
@[simp] theorem e_ert {d : D} : endFl (some (.rt d)) = some d := (rfl)
@[simp] theorem e_enx {e' : DEnv} : endFl (some (.nx e')) = some .none := (rfl)
@[simp] theorem e_sFrz : sFrz i s e = s (frzE i e) := (rfl)
@[simp] theorem e_sAsgT {b : BD} : sAsgT b f e = (f e).bind fun d => (b d e).map .nx := (rfl)
@[simp] theorem e_sFor {b : BD} : sFor fa b s e = (fa e).bind fun ds => forD b s ds e := (rfl)
@[simp] theorem e_sWhile {μ : DEnv → Nat} : sWhile μ p s e = whileD p s (μ e) e := (rfl)
@[simp] theorem e_lcD {b : BD} {vs : List Nat} : lcD fa b p f vs e = (fa e).bind fun ds => if sml ds.length = true then lcGo b p f (wipeE e vs) ds else none := (rfl)
@[simp] theorem e_sApp : sApp i f e = (f e).bind fun d => (owAt i e).bind fun xs => if sml (xs.length + 1) = true then some (.nx (e.set i (some (.ow (xs ++ [d]))))) else none := (rfl)
@[simp] theorem e_sExt : sExt i f e = (f e).bind fun d => (seqOf d).bind fun ys => (owAt i e).bind fun xs => if sml (xs.length + ys.length) = true then some (.nx (e.set i (some (.ow (xs ++ ys))))) else none := (rfl)
@[simp] theorem e_bNm {d : D} : bNm i d e = some (e.set i (some (.sh d))) := (rfl)
@[simp] theorem e_runF {n : Nat} {ds : List D} : runF n s ds = endFl (s (startE n ds)) := (rfl)
@[simp] theorem e_owAt : owAt i e = (match e[i]? with
  | some (some (.ow xs)) => some xs
  | _ => none) := (rfl)
@[simp] theorem e_frzE : frzE i e = (match e[i]? with
  | some (some (.ow xs)) => e.set i (some (.sh (.list xs)))
  | some (some (.od ds)) => e.set i (some (.sh (.dict ds)))
  | _ => e) := (rfl)
@[simp] theorem e_wipe0 : wipeE e [] = e := (rfl)
@[simp] theorem e_wipe1 {v : Nat} {vs : List Nat} : wipeE e (v :: vs) = (wipeE e vs).set v none := (rfl)
@[simp] theorem e_addI {a b : Int} : addD (.int a) (.int b) = some (.int (a + b)) := (rfl)
@[simp] theorem e_subI {a b : Int} : subD (.int a) (.int b) = some (.int (a - b)) := (rfl)
@[simp] theorem e_negI {a : Int} : negD (.int a) = some (.int (-a)) := (rfl)
@[simp] theorem e_ltI {a b : Int} : ltD (.int a) (.int b) = some (.bool (decide (a < b))) := (rfl)
@[simp] theorem e_leI {a b : Int} : leD (.int a) (.int b) = some (.bool (decide (a ≤ b))) := (rfl)
@[simp] theorem e_gtI {a b : Int} : gtD (.int a) (.int b) = some (.bool (decide (b < a))) := (rfl)
@[simp] theorem e_geI {a b : Int} : geD (.int a) (.int b) = some (.bool (decide (b ≤ a))) := (rfl)
@[simp] theorem e_lenL {xs : List D} : lenD (.list xs) = some (.int xs.length) := (rfl)
@[simp] theorem e_lenT {xs : List D} : lenD (.tuple xs) = some (.int xs.length) := (rfl)
@[simp] theorem e_tupleL {xs : List D} : tupleD (.list xs) = some (.tuple xs) := (rfl)
@[simp] theorem e_tupleT {xs : List D} : tupleD (.tuple xs) = some (.tuple xs) := (rfl)
@[simp] theorem e_ixT {xs : List D} {k : Int} : ixD (.tuple xs) (.int k) = atI xs k := (rfl)
@[simp] theorem e_ixL {xs : List D} {k : Int} : ixD (.list xs) (.int k) = atI xs k := (rfl)
@[simp] theorem e_itemsT {xs : List D} : itemsD (.tuple xs) = some xs := (rfl)
@[simp] theorem e_itemsL {xs : List D} : itemsD (.list xs) = some xs := (rfl)
@[simp] theorem e_seqOfT {xs : List D} : seqOf (.tuple xs) = some xs := (rfl)
@[simp] theorem e_seqOfL {xs : List D} : seqOf (.list xs) = some xs := (rfl)
@[simp] theorem e_max2 {a b : Int} : max2D (.int a) (.int b) = some (.int (if b > a then b else a)) := (rfl)
@[simp] theorem e_min2 {a b : Int} : min2D (.int a) (.int b) = some (.int (if b < a then b else a)) := (rfl)
@[simp] theorem e_sumL {xs : List D} : sumD (.list xs) = (asInts xs).map fun ns => .int ns.sum := (rfl)
@[simp] theorem e_sumT {xs : List D} : sumD (.tuple xs) = (asInts xs).map fun ns => .int ns.sum := (rfl)
@[simp] theorem e_allL {xs : List D} : allD (.list xs) = (asBools xs).map fun ns => .bool (ns.all id) := (rfl)
@[simp] theorem e_anyL {xs : List D} : anyD (.list xs) = (asBools xs).map fun ns => .bool (ns.any id) := (rfl)
@[simp] theorem e_minL {xs : List D} : minD (.list xs) = (asInts xs).bind fun ns => ns.min?.map PyData.int := (rfl)
@[simp] theorem e_maxL {xs : List D} : maxD (.list xs) = (asInts xs).bind fun ns => ns.max?.map PyData.int := (rfl)
@[simp] theorem e_asInts {ns : List Int} : asInts (ns.map PyData.int) = some ns := asInts_map ns
@[simp] theorem e_asBools {ns : List Bool} : asBools (ns.map PyData.bool) = some ns := asBools_map ns
@[simp] theorem e_intI {a : Int} : intD (.int a) = some (.int a) := (rfl)
@[simp] theorem e_intB {a : Bool} : intD (.bool a) = some (.int (if a then 1 else 0)) := (rfl)
@[simp] theorem e_isB {a b : Bool} : isBD (.bool a) (.bool b) = some (.bool (a == b)) := (rfl)
@[simp] theorem e_notB {a b : Bool} : notBD (.bool a) (.bool b) = some (.bool (a != b)) := (rfl)
@[simp] theorem e_cutT {xs : List D} {lo hi : Option Int} : cutD (.tuple xs) lo hi = some (.tuple (cutL xs lo hi)) := (rfl)
@[simp] theorem e_cutL {xs : List D} {lo hi : Option Int} : cutD (.list xs) lo hi = some (.list (cutL xs lo hi)) := (rfl)
end
theorem mul_ok {a b : Int} (h : mulOk a b = true) : mulD (.int a) (.int b) = some (.int (a * b)) := by simp [mulD, h]
theorem mulOk_r {a b : Int} (h1 : -(2 ^ 62) ≤ b) (h2 : b ≤ 2 ^ 62) : mulOk a b = true := by
  unfold mulOk
  have : b.natAbs < 2 ^ 63 := by omega
  simp [this]
theorem mulOk_l {a b : Int} (h1 : -(2 ^ 62) ≤ a) (h2 : a ≤ 2 ^ 62) : mulOk a b = true := by
  unfold mulOk
  have : a.natAbs < 2 ^ 63 := by omega
  simp [this]
theorem mul_r {a b : Int} (h1 : -(2 ^ 62) ≤ b) (h2 : b ≤ 2 ^ 62) : mulD (.int a) (.int b) = some (.int (a * b)) := mul_ok (mulOk_r h1 h2)
theorem mul_l {a b : Int} (h1 : -(2 ^ 62) ≤ a) (h2 : a ≤ 2 ^ 62) : mulD (.int a) (.int b) = some (.int (a * b)) := mul_ok (mulOk_l h1 h2)
theorem fdiv_ok {a b : Int} (h1 : 0 < b) (h2 : b ≤ 2 ^ 62) : fdivD (.int a) (.int b) = some (.int (a / b)) := by
  have h3 : b.natAbs < 2 ^ 63 := by omega
  have h4 : b.natAbs < 2 ^ 4000 := Nat.lt_of_lt_of_le h3 (Nat.pow_le_pow_right (by decide) (by decide))
  unfold fdivD
  exact if_pos ⟨h1, h4⟩
theorem mod_ok {a b : Int} (h1 : 0 < b) : modD (.int a) (.int b) = some (.int (a % b)) := by simp [modD, h1]
theorem add_t {xs ys : List D} (h : xs.length + ys.length ≤ 100000) : addD (.tuple xs) (.tuple ys) = some (.tuple (xs ++ ys)) := by simp [addD, sml_of h]
theorem add_l {xs ys : List D} (h : xs.length + ys.length ≤ 100000) : addD (.list xs) (.list ys) = some (.list (xs ++ ys)) := by simp [addD, sml_of h]
theorem rng1_ok {n : Nat} (h : n ≤ 100000) : rng1D (.int (n : Int)) = some ((List.range n).map fun i : Nat => PyData.int (i : Int)) := by
  have : rngOk (n : Int) = true := by
    unfold rngOk
    simp only [Bool.and_eq_true, decide_eq_true_eq]
    omega
  unfold rng1D
  simp only [this, if_true, rngL]
  simp
theorem rgS1_ok {n : Nat} (h : n ≤ 100000) : rgS1 (.int (n : Int)) = some ((List.range n).map fun i : Nat => PyData.int (i : Int)) := by
  have : rgSmall (n : Int) = true := by
    unfold rgSmall
    simp only [Bool.and_eq_true, decide_eq_true_eq]
    omega
  unfold rgS1
  simp only [this, if_true, rngL]
  simp
theorem pick3 {a b c r : Int} (h1 : 0 ≤ r) (h2 : r < 3) : ∃ v, (v = a ∨ v = b ∨ v = c) ∧ atI [PyData.int a, .int b, .int c] r = some (.int v) := by
  obtain rfl | rfl | rfl : r = 0 ∨ r = 1 ∨ r = 2 := by omega
  · exact ⟨a, .inl rfl, rfl⟩
  · exact ⟨b, .inr (.inl rfl), rfl⟩
  · exact ⟨c, .inr (.inr rfl), rfl⟩
theorem pick4 {a b c d r : Int} (h1 : 0 ≤ r) (h2 : r < 4) : ∃ v, (v = a ∨ v = b ∨ v = c ∨ v = d) ∧ atI [PyData.int a, .int b, .int c, .int d] r = some (.int v) := by
  obtain rfl | rfl | rfl | rfl : r = 0 ∨ r = 1 ∨ r = 2 ∨ r = 3 := by omega
  · exact ⟨a, .inl rfl, rfl⟩
  · exact ⟨b, .inr (.inl rfl), rfl⟩
  · exact ⟨c, .inr (.inr (.inl rfl)), rfl⟩
  · exact ⟨d, .inr (.inr (.inr rfl)), rfl⟩
/-- items by place -/
theorem atI_of {α : Type} {xs : List α} {n : Nat} {x : α} (h : xs[n]? = some x) : atI xs (n : Int) = some x := atI_nat h
theorem atI_pos {α : Type} {xs : List α} {k : Int} (h : 0 ≤ k) : atI xs k = xs[k.toNat]? := by
  unfold atI ixN
  rw [if_pos h]
  by_cases hk : k < xs.length
  · rw [if_pos hk]; rfl
  · rw [if_neg hk]
    have : xs.length ≤ k.toNat := by omega
    rw [List.getElem?_eq_none this]; rfl

/-! ### data that can be compared -/
def shp : Nat → D → Bool
  | _, .none => true
  | _, .bool _ => true
  | _, .int _ => true
  | _, .str x => PyData.strOk x
  | n + 1, .list xs => xs.all (shp n)
  | n + 1, .tuple xs => xs.all (shp n)
  | _, _ => false
theorem canLayAll_of {xs : List D} (h : ∀ x ∈ xs, x.canLay0 = true) : PyData.canLayAll0 xs = true := by
  induction xs with
  | nil => rfl
  | cons x xs ih => simp only [PyData.canLayAll0, Bool.and_eq_true]; exact ⟨h x (by simp), ih fun y hy => h y (by simp [hy])⟩
theorem depthAll_le {xs : List D} {n : Nat} (h : ∀ x ∈ xs, x.depth ≤ n) : PyData.depthAll xs ≤ n := by
  induction xs with
  | nil => simp [PyData.depthAll]
  | cons x xs ih => simp only [PyData.depthAll]; exact Nat.max_le.mpr ⟨h x (by simp), ih fun y hy => h y (by simp [hy])⟩
theorem shp_ok : ∀ (n : Nat) (d : D), shp n d = true → d.canLay0 = true ∧ d.depth ≤ n
  | _, .none, _ => ⟨rfl, by simp [PyData.depth]⟩
  | _, .bool _, _ => ⟨rfl, by simp [PyData.depth]⟩
  | _, .int _, _ => ⟨rfl, by simp [PyData.depth]⟩
  | n, .str x, h => ⟨by cases n <;> simpa [PyData.canLay0, shp] using h, by simp [PyData.depth]⟩
  | n + 1, .list xs, h => by
    have h' : ∀ x ∈ xs, shp n x = true := by simpa [shp] using h
    exact ⟨by simp only [PyData.canLay0]; exact canLayAll_of fun x hx => (shp_ok n x (h' x hx)).1, by simp only [PyData.depth]; exact Nat.succ_le_succ (depthAll_le fun x hx => (shp_ok n x (h' x hx)).2)⟩
  | n + 1, .tuple xs, h => by
    have h' : ∀ x ∈ xs, shp n x = true := by simpa [shp] using h
    exact ⟨by simp only [PyData.canLay0]; exact canLayAll_of fun x hx => (shp_ok n x (h' x hx)).1, by simp only [PyData.depth]; exact Nat.succ_le_succ (depthAll_le fun x hx => (shp_ok n x (h' x hx)).2)⟩
  | 0, .list xs, h => by simp [shp] at h
  | 0, .tuple xs, h => by simp [shp] at h
  | 0, .dict xs, h => by simp [shp] at h
  | _ + 1, .dict xs, h => by simp [shp] at h
theorem shaped_of {n : Nat} {d : D} (h : shp n d = true) (hn : n ≤ 64 := by decide) : SeqAt.shaped d = true := by
  obtain ⟨h1, h2⟩ := shp_ok n d h
  unfold SeqAt.shaped
  simp only [Bool.and_eq_true, decide_eq_true_eq]
  exact ⟨h1, Nat.le_trans h2 hn⟩
theorem eq_ok {n m : Nat} {a b : D} (ha : shp n a = true) (hb : shp m b = true) (hn : n ≤ 64 := by decide) (hm : m ≤ 64 := by decide) : eqD a b = some (.bool (PyData.eqv a b)) := by
  unfold eqD
  rw [if_pos ⟨shaped_of ha hn, shaped_of hb hm⟩]
theorem ne_ok {n m : Nat} {a b : D} (ha : shp n a = true) (hb : shp m b = true) (hn : n ≤ 64 := by decide) (hm : m ≤ 64 := by decide) : neD a b = some (.bool (!PyData.eqv a b)) := by
  unfold neD
  rw [if_pos ⟨shaped_of ha hn, shaped_of hb hm⟩]
@[simp] theorem eq_int {a b : Int} : eqD (.int a) (.int b) = some (.bool (a == b)) := eq_ok (n := 0) (m := 0) rfl rfl
@[simp] theorem ne_int {a b : Int} : neD (.int a) (.int b) = some (.bool (!(a == b))) := ne_ok (n := 0) (m := 0) rfl rfl
@[simp] theorem eq_boolD {a b : Bool} : eqD (.bool a) (.bool b) = some (.bool (a == b)) := eq_ok (n := 0) (m := 0) rfl rfl
theorem shp_ints (n : Nat) (ns : List Int) : shp (n + 1) (.tuple (ns.map PyData.int)) = true := by
  simp only [shp, List.all_map, List.all_eq_true]
  intro x _
  cases n <;> rfl
theorem shp_intsL (n : Nat) (ns : List Int) : shp (n + 1) (.list (ns.map PyData.int)) = true := by
  simp only [shp, List.all_map, List.all_eq_true]
  intro x _
  cases n <;> rfl
theorem eqvAll_map {α : Type} {f : α → D} (h : ∀ x y, PyData.eqv (f x) (f y) = true ↔ x = y) : ∀ xs ys : List α, PyData.eqvAll (xs.map f) (ys.map f) = true ↔ xs = ys
  | [], [] => by simp [PyData.eqvAll]
  | [], _ :: _ => by simp [PyData.eqvAll]
  | _ :: _, [] => by simp [PyData.eqvAll]
  | x :: xs, y :: ys => by
    simp only [List.map_cons, PyData.eqvAll, Bool.and_eq_true, List.cons.injEq]
    rw [h, eqvAll_map h xs ys]
theorem eqv_tup {α : Type} {f : α → D} (h : ∀ x y, PyData.eqv (f x) (f y) = true ↔ x = y) (xs ys : List α) : PyData.eqv (.tuple (xs.map f)) (.tuple (ys.map f)) = true ↔ xs = ys := by
  simp only [PyData.eqv]; exact eqvAll_map h xs ys
theorem eqv_lst {α : Type} {f : α → D} (h : ∀ x y, PyData.eqv (f x) (f y) = true ↔ x = y) (xs ys : List α) : PyData.eqv (.list (xs.map f)) (.list (ys.map f)) = true ↔ xs = ys := by
  simp only [PyData.eqv]; exact eqvAll_map h xs ys
theorem eqv_int (x y : Int) : PyData.eqv (.int x) (.int y) = true ↔ x = y := by simp [PyData.eqv]
theorem eqv_nat (x y : Nat) : PyData.eqv (.int (x : Int)) (.int (y : Int)) = true ↔ x = y := by
  simp only [PyData.eqv, beq_iff_eq]
  omega
theorem eqv_self {n : Nat} {d : D} (h : shp n d = true) : PyData.eqv d d = true   := SeqAt.eqv_refl d (shp_ok n d h).1
theorem ne_self {n : Nat} {d : D} (h : shp n d = true) (hn : n ≤ 64 := by decide) : neD d d = some (.bool false) := by rw [ne_ok h h hn hn, eqv_self h]; rfl
theorem eq_self {n : Nat} {d : D} (h : shp n d = true) (hn : n ≤ 64 := by decide) : eqD d d = some (.bool true) := by rw [eq_ok h h hn hn, eqv_self h]

/-! ### loops -/
/-- a for that runs through: an invariant by the number of turns -/
theorem forD_inv {b : BD} {body : FS} (P : Nat → DEnv → Prop) : ∀ (ds : List D) (k : Nat) (e : DEnv), P k e →
    (∀ (i : Nat) (d : D) (e : DEnv), ds[i]? = some d → P (k + i) e → ∃ e1 e2, b d e = some e1 ∧ (body e1 = some (.nx e2) ∨ body e1 = some (.ct e2)) ∧ P (k + i + 1) e2) →
    ∃ e', forD b body ds e = some (.nx e') ∧ P (k + ds.length) e'
  | [], k, e, h0, _ => ⟨e, rfl, h0⟩
  | d :: ds, k, e, h0, hs => by
    obtain ⟨e1, e2, h1, h2, h3⟩ := hs 0 d e rfl h0
    obtain ⟨e', h4, h5⟩ := forD_inv P ds (k + 1) e2 h3 fun i d e hd hp => by
      have e' : k + (i + 1) = k + 1 + i := by omega
      have := hs (i + 1) d e hd (by rw [e']; exact hp)
      rw [e'] at this
      exact this
    refine ⟨e', ?_, by rw [List.length_cons]; rw [show k + (ds.length + 1) = k + 1 + ds.length by omega]; exact h5⟩
    unfold forD
    rw [h1]
    rcases h2 with h2 | h2 <;> (simp only [Option.bind_some, h2]; exact h4)
/-- over typed items -/
theorem forD_typed {α : Type} {b : BD} {body : FS} (φ : α → D) (P : List α → DEnv → Prop) (xs : List α) (e : DEnv) (h0 : P [] e)
    (hs : ∀ (pre : List α) (x : α) (post : List α) (e : DEnv), xs = pre ++ x :: post → P pre e → ∃ e1 e2, b (φ x) e = some e1 ∧ (body e1 = some (.nx e2) ∨ body e1 = some (.ct e2)) ∧ P (pre ++ [x]) e2) :
    ∃ e', forD b body (xs.map φ) e = some (.nx e') ∧ P xs e' := by
  obtain ⟨e', h1, h2⟩ := forD_inv (b := b) (body := body) (fun k e => P (xs.take k) e) (xs.map φ) 0 e (by simpa using h0) fun i d e hd hp => by
    rw [List.getElem?_map] at hd
    obtain ⟨x, hx, rfl⟩ := Option.map_eq_some_iff.mp hd
    obtain ⟨hl, hx'⟩ := List.getElem?_eq_some_iff.mp hx
    rw [Nat.zero_add] at hp ⊢
    obtain ⟨e1, e2, a1, a2, a3⟩ := hs (xs.take i) x (xs.drop (i + 1)) e (by rw [← hx', ← List.drop_eq_getElem_cons hl, List.take_append_drop]) hp
    refine ⟨e1, e2, a1, a2, ?_⟩
    rw [List.take_add_one, hx]
    exact a3
  refine ⟨e', h1, ?_⟩
  simpa using h2
theorem forD_range {b : BD} {body : FS} (P : Nat → DEnv → Prop) (n : Nat) (e : DEnv) (h0 : P 0 e) (hs : ∀ (i : Nat) (e : DEnv), i < n → P i e → ∃ e1 e2, b (.int (i : Int)) e = some e1 ∧ (body e1 = some (.nx e2) ∨ body e1 = some (.ct e2)) ∧ P (i + 1) e2) :
    ∃ e', forD b body ((List.range n).map fun i : Nat => PyData.int (i : Int)) e = some (.nx e') ∧ P n e' := by
  obtain ⟨e', h1, h2⟩ := forD_inv (b := b) (body := body) P ((List.range n).map fun i : Nat => PyData.int (i : Int)) 0 e h0 fun i d e hd hp => by
    rw [List.getElem?_map] at hd
    obtain ⟨x, hx, rfl⟩ := Option.map_eq_some_iff.mp hd
    obtain ⟨hl, hx'⟩ := List.getElem?_eq_some_iff.mp hx
    rw [List.length_range] at hl
    rw [List.getElem_range] at hx'
    subst hx'
    rw [Nat.zero_add] at hp ⊢
    exact hs i e hl hp
  refine ⟨e', h1, ?_⟩
  simpa using h2
/-- a comprehension over typed items -/
theorem lcGo_typed {α : Type} {b : BD} {t : FB} {el : FE} {e : DEnv} (φ ψ : α → D) (p : α → Bool) : ∀ (xs : List α), (∀ x ∈ xs, ∃ e1, b (φ x) e = some e1 ∧ t e1 = some (p x) ∧ (p x = true → el e1 = some (ψ x))) → lcGo b t el e (xs.map φ) = some ((xs.filter p).map ψ)
  | [], _ => rfl
  | x :: xs, h => by
    obtain ⟨e1, h1, h2, h3⟩ := h x (by simp)
    have ih := lcGo_typed φ ψ p xs fun y hy => h y (by simp [hy])
    rw [List.map_cons]
    unfold lcGo
    rw [h1]
    simp only [Option.bind_some, h2]
    cases hp : p x with
    | true => simp only [if_true, h3 hp, Option.bind_some, ih, List.filter_cons_of_pos hp, List.map_cons]
    | false => simp only [Bool.false_eq_true, if_false, ih]; rw [List.filter_cons_of_neg (by simp [hp])]
theorem lcGo_map {α : Type} {b : BD} {el : FE} {e : DEnv} (φ ψ : α → D) (xs : List α) (h : ∀ x ∈ xs, ∃ e1, b (φ x) e = some e1 ∧ el e1 = some (ψ x)) : lcGo b yesT el e (xs.map φ) = some (xs.map ψ) := by
  have := lcGo_typed (b := b) (t := yesT) (el := el) (e := e) φ ψ (fun _ => true) xs fun x hx => by
    obtain ⟨e1, h1, h2⟩ := h x hx
    exact ⟨e1, h1, rfl, fun _ => h2⟩
  rw [this, List.filter_eq_self.mpr (fun _ _ => rfl)]
end DL
namespace DL
open PySem L2
/-- a comprehension whose items are only known to be some -/
theorem lcGo_exists {α β : Type} {b : BD} {t : FB} {el : FE} {e : DEnv} (φ : α → D) (ψ : β → D) (P : β → Prop) : ∀ (xs : List α), (∀ x ∈ xs, ∃ e1 y, b (φ x) e = some e1 ∧ t e1 = some true ∧ el e1 = some (ψ y) ∧ P y) → ∃ ys : List β, lcGo b t el e (xs.map φ) = some (ys.map ψ) ∧ ys.length = xs.length ∧ ∀ y ∈ ys, P y
  | [], _ => ⟨[], rfl, rfl, fun _ h => by cases h⟩
  | x :: xs, h => by
    obtain ⟨e1, y, h1, h2, h3, h4⟩ := h x (by simp)
    obtain ⟨ys, i1, i2, i3⟩ := lcGo_exists φ ψ P xs fun z hz => h z (by simp [hz])
    refine ⟨y :: ys, ?_, by simp [i2], fun z hz => ?_⟩
    · rw [List.map_cons]
      unfold lcGo
      rw [h1]
      simp only [Option.bind_some, h2, if_true, h3, i1, List.map_cons]
    · rcases List.mem_cons.mp hz with e | e
      · subst e; exact h4
      · exact i3 z e
end DL
namespace DL
open PySem L2
section
variable {α : Type}
@[simp] theorem e_asBools2 {xs : List α} {p : α → Bool} : asBools (xs.map fun x => PyData.bool (p x)) = some (xs.map p) := by
  have := asBools_map (xs.map p)
  rwa [List.map_map] at this
@[simp] theorem e_asBools3 {xs : List α} {p : α → Bool} : asBools (xs.map (PyData.bool ∘ p)) = some (xs.map p) := e_asBools2
@[simp] theorem e_asBools4 {n : Nat} {p : Bool} : asBools (List.replicate n (PyData.bool p)) = some (List.replicate n p) := by
  have := asBools_map (List.replicate n p)
  rwa [List.map_replicate] at this
@[simp] theorem e_asBoolsC {p : Bool} {ds : List D} : asBools (PyData.bool p :: ds) = (asBools ds).map (p :: ·) := (rfl)
@[simp] theorem e_asBoolsN : asBools [] = some [] := (rfl)
@[simp] theorem e_asInts2 {xs : List α} {p : α → Int} : asInts (xs.map fun x => PyData.int (p x)) = some (xs.map p) := by
  have := asInts_map (xs.map p)
  rwa [List.map_map] at this
@[simp] theorem e_asInts3 {xs : List α} {p : α → Int} : asInts (xs.map (PyData.int ∘ p)) = some (xs.map p) := e_asInts2
@[simp] theorem e_asIntsC {p : Int} {ds : List D} : asInts (PyData.int p :: ds) = (asInts ds).map (p :: ·) := (rfl)
@[simp] theorem e_asIntsN : asInts [] = some [] := (rfl)
end
end DL
namespace DL
open PySem L2
theorem sh63_of {n : Nat} {d : D} (h : shp n d = true) (hn : n ≤ 62 := by decide) : sh63 d = true := by
  obtain ⟨h1, h2⟩ := shp_ok n d h
  unfold sh63
  simp only [Bool.and_eq_true, decide_eq_true_eq]
  exact ⟨h1, Nat.le_trans h2 hn⟩
theorem okIn_of {n m : Nat} {x : D} {xs : List D} (hx : shp n x = true) (hxs : ∀ y ∈ xs, shp m y = true) (hn : n ≤ 62 := by decide) : okIn x xs = true := by
  unfold okIn
  rw [Bool.or_eq_true, Bool.and_eq_true, Bool.and_eq_true]
  exact .inr ⟨sh63_of hx hn, canLayAll_of fun y hy => (shp_ok m y (hxs y hy)).1⟩
theorem inL_ok {n m : Nat} {x : D} {xs : List D} (hx : shp n x = true) (hxs : ∀ y ∈ xs, shp m y = true) (hn : n ≤ 62 := by decide) : inD x (.list xs) = some (.bool (inSeq x xs)) := if_pos (okIn_of hx hxs hn)
theorem ninL_ok {n m : Nat} {x : D} {xs : List D} (hx : shp n x = true) (hxs : ∀ y ∈ xs, shp m y = true) (hn : n ≤ 62 := by decide) : ninD x (.list xs) = some (.bool (!inSeq x xs)) := if_pos (okIn_of hx hxs hn)
theorem inSeq_mem {n : Nat} {x : D} {xs : List D} (hx : shp n x = true) (h : x ∈ xs) : inSeq x xs = true := List.any_eq_true.mpr ⟨x, h, eqv_self hx⟩
theorem rng2_ok {a b : Nat} (h : b ≤ 100000) (h2 : a ≤ 100000) : rng2D (.int (a : Int)) (.int (b : Int)) = some ((List.range' a (b - a)).map fun i : Nat => PyData.int (i : Int)) := by
  have h3 : rngOk (a : Int) = true ∧ rngOk (b : Int) = true := by
    unfold rngOk
    simp only [Bool.and_eq_true, decide_eq_true_eq]
    omega
  show (if rngOk (a : Int) = true ∧ rngOk (b : Int) = true then some (rngL (a : Int) (b : Int)) else none) = _
  rw [if_pos h3, rngL, List.range'_eq_map_range, List.map_map, show ((b : Int) - (a : Int)).toNat = b - a by omega]
  rfl
theorem rgS2_ok {a b : Nat} (h : b ≤ 100000) (h2 : a ≤ 100000) : rgS2 (.int (a : Int)) (.int (b : Int)) = some ((List.range' a (b - a)).map fun i : Nat => PyData.int (i : Int)) := by
  have h3 : rgSmall (a : Int) = true ∧ rgSmall (b : Int) = true := by
    unfold rgSmall
    simp only [Bool.and_eq_true, decide_eq_true_eq]
    omega
  show (if rgSmall (a : Int) = true ∧ rgSmall (b : Int) = true then some (rngL (a : Int) (b : Int)) else none) = _
  rw [if_pos h3, rngL, List.range'_eq_map_range, List.map_map, show ((b : Int) - (a : Int)).toNat = b - a by omega]
  rfl
@[simp] theorem e_bTp {bs : List BD} {ds : List D} {e : DEnv} : bTp bs (.tuple ds) e = bAll bs ds e := (rfl)
@[simp] theorem e_bAll0 {e : DEnv} : bAll [] [] e = some e := (rfl)
@[simp] theorem e_bAll1 {b : BD} {bs : List BD} {d : D} {ds : List D} {e : DEnv} : bAll (b :: bs) (d :: ds) e = (b d e).bind fun e' => bAll bs ds e' := (rfl)
@[simp] theorem e_isN1 : isND .none = some (.bool true) := (rfl)
@[simp] theorem e_isN2 {ds : List D} : isND (.tuple ds) = some (.bool false) := (rfl)
@[simp] theorem e_isN3 {i : Int} : isND (.int i) = some (.bool false) := (rfl)
@[simp] theorem e_notN1 : notND .none = some (.bool false) := (rfl)
@[simp] theorem e_notN2 {ds : List D} : notND (.tuple ds) = some (.bool true) := (rfl)
@[simp] theorem e_notN3 {i : Int} : notND (.int i) = some (.bool true) := (rfl)
theorem pow2_ok {a : Int} (h1 : -(2 ^ 62) ≤ a) (h2 : a ≤ 2 ^ 62) : powD (.int a) (.int 2) = some (.int (a * a)) := by
  have h3 : a.natAbs < 2 ^ 64 := by omega
  show (if (0 : Int) ≤ 2 ∧ (2 : Int) ≤ 1000 ∧ a.natAbs < 2 ^ 64 then some (PyData.int (a ^ (2 : Int).toNat)) else none) = _
  rw [if_pos ⟨by decide, by decide, h3⟩]
  have : a ^ (2 : Int).toNat = a * a := by rw [show (2 : Int).toNat = 2 from rfl, Int.pow_succ, Int.pow_succ, Int.pow_zero, Int.one_mul]
  rw [this]
theorem forD_rangeF {b : BD} {body : FS} (P : Nat → DEnv → Prop) (a m : Nat) (e : DEnv) (h0 : P a e) (hs : ∀ (i : Nat) (e : DEnv), a ≤ i → i < a + m → P i e → ∃ e1 e2, b (.int (i : Int)) e = some e1 ∧ (body e1 = some (.nx e2) ∨ body e1 = some (.ct e2)) ∧ P (i + 1) e2) :
    ∃ e', forD b body ((List.range' a m).map fun i : Nat => PyData.int (i : Int)) e = some (.nx e') ∧ P (a + m) e' := by
  obtain ⟨e', h1, h2⟩ := forD_inv (b := b) (body := body) P ((List.range' a m).map fun i : Nat => PyData.int (i : Int)) a e h0 fun i d e hd hp => by
    rw [List.getElem?_map] at hd
    obtain ⟨x, hx, rfl⟩ := Option.map_eq_some_iff.mp hd
    obtain ⟨hl, hx'⟩ := List.getElem?_eq_some_iff.mp hx
    rw [List.length_range'] at hl
    rw [List.getElem_range'] at hx'
    have hx2 : x = a + i := by omega
    subst hx2
    exact hs (a + i) e (by omega) (by omega) hp
  refine ⟨e', h1, ?_⟩
  simpa using h2
end DL

/-! DLay9: enumerate, zip. -/
namespace PySem
theorem meets_enum_one {v : Value} {o : Obj} {H : Heap → Prop} (B : Begins v o H) :
    Meets (Builtin.«enumerate.__new__» ⟨[.type "enumerate", v], []⟩) (fun _ R s => H s.heap ∧
      R (.ok (.ret (.ref (s.heap.push o).objs.size))) { s with heap := (s.heap.push o).push { cls := .type "enumerate", data := .fields #[.none, .bool false, .ref s.heap.objs.size, rawInt 0, .none, .none] } }) :=
  .of_wp fun prog w A R s h => by
    obtain ⟨hp, g, d, tk, os⟩ := s; obtain ⟨h1, h⟩ := h
    have hsub := sub_enumerate
    have q1 : ∀ {A' : Around} {E : Value → Shared → Prop} {Q : Value → Shared → Prop}, Q (.ref hp.objs.size) ⟨(hp.push o), g, d, tk, os⟩ → wpAny (model prog w) A' (pyIter v) Q E ⟨hp, g, d, tk, os⟩ :=
      fun q => B.iter prog w _ _ ⟨hp, g, d, tk, os⟩ _ h1 q
    wp_walk using q1
    refine wpAny_stack_any fun st => wpAny_pure ?_
    split
    · rename_i c _ _ _ _ _
      cases (c == Value.type "enumerate")
      · wp_walk using q1
        exact ⟨_, rfl, h⟩
      · wp_walk using q1
        exact ⟨_, rfl, h⟩
    · wp_walk using q1
      exact ⟨_, rfl, h⟩
theorem enum_one {prog : Program} {w : World} {A : Around} {E : Value → Shared → Prop} {s : Shared} {v : Value} {o : Obj} {H : Heap → Prop} {Q : Value → Shared → Prop} (B : Begins v o H) (h1 : H s.heap)
    (h : ∀ h', IsEnum h' (s.heap.objs.size + 1) s.heap.objs.size 0 .none → h'.get? s.heap.objs.size = some o → h'.objs.size = s.heap.objs.size + 2 →
      (∀ b o, s.heap.get? b = some o → h'.get? b = some o) → Q (.ref (s.heap.objs.size + 1)) { s with heap := h' }) :
    wpAny (model prog w) A (call (.type "enumerate") [v]) Q E s := by
  refine callType_new F.called_enumerate (by decide) (F.typeCall_enumerate_1 _) (F.newCall_enumerate_1 _) (fun obj => F.args_object_init_2 obj _) F.entry_enumerate_new (meets_enum_one B) ⟨h1, ?_⟩
  have hz : (s.heap.push o).objs.size = s.heap.objs.size + 1 := Heap.size_push ..
  show _ ∧ _
  rw [hz]
  have he : IsEnum ((s.heap.push o).push { cls := .type "enumerate", data := .fields #[.none, .bool false, .ref s.heap.objs.size, rawInt 0, .none, .none] }) (s.heap.objs.size + 1) s.heap.objs.size 0 .none := by
    have := Heap.get?_push_size (s.heap.push o) (o := { cls := .type "enumerate", data := .fields #[.none, .bool false, .ref s.heap.objs.size, rawInt 0, .none, .none] }) rfl
    rw [hz] at this; exact this
  refine ⟨⟨_, he, rfl⟩, h _ he (Heap.get?_push_of_some _ (Heap.get?_push_size _ B.free)) (by rw [Heap.size_push, hz]) fun b o x => Heap.get?_push_of_some _ (Heap.get?_push_of_some _ x)⟩
end PySem
namespace DL
open PySem PySem.Spec PyProof.Rows L2 Evl

/-! ### a Turn from a WalksT -/
/-- the pairs that come: a new tuple of what Y tells -/
def Jt (R : Hp → Prop) (n : Nat) (Y : Nat → Hp → List V → Prop) : It :=
  ⟨fun i H => R H ∧ i < n, fun i H v H' => ∃ T xs, v = .ref T ∧ H T = none ∧ H' = upd H T (.tup xs) ∧ Y i H xs, fun i H => R H ∧ i = n⟩
theorem turn_walks {P : Program} {w : World} {K : PySem.W.Frag} {elts : List Expr} {kk : Nat} {tpos : Pos} {it : Addr} {fp : List Addr} {n : Nat} {R : Hp → Prop} {Y : Nat → Hp → List V → Prop} {tn : Nat → Heap → Prop}
    (mem : it ∈ fp) (obj : ∀ i h, tn i h → ∀ b ∈ fp, ∃ o, h.get? b = some o ∧ ∀ v, o.data ≠ .cell v)
    (keep : ∀ i h h', tn i h → (∀ b ∈ fp, ∀ o, h.get? b = some o → h'.get? b = some o) → tn i h')
    (self : ∀ (A : Around) (i : Nat) (s : Shared) (Q : Value → Shared → Prop) (E : Value → Shared → Prop), tn i s.heap → Q (.ref it) s → wpAny (model P w) A (pyIter (.ref it)) Q E s)
    (wk : ∀ (X : Cx), X.prog = P → X.w = w → X.K = K → X.calm = true → ∀ (i : Nat) (pins : List (Addr × Obj)) (s : Shared) (σ : L2.St) (H : Hp), Inv X pins σ H s → (∀ b ∈ fp, FpOk X pins H b) → tn i s.heap → R H →
      ∃ fpA wr Pt St Mid, (∀ b ∈ wr, b ∈ fp) ∧ WalksT P w X.A it fpA wr n Pt St Mid ∧ St i s.heap ∧ (∀ j h, St j h → tn j h) ∧ ∀ vals, Pt i vals → ∃ xs, Vals xs vals.toList ∧ xs.length ≤ 3 ∧ Y i H xs) :
    Turn P w K (.Tuple elts kk tpos) (Jt R n Y) fp it tn where
  mem := mem
  obj := obj
  keep := keep
  self := self
  item := by
    intro X hP hw hK hc i pins s σ H E I hf st hg
    obtain ⟨fpA, wr, Pt, St, Mid, sub, W, hst, back, vals⟩ := wk X hP hw hK hc i pins s σ H I hf st hg.1
    subst hP hw hK
    refine W.item i s _ E hg.2 hst fun T vs h' tk hp hT htup hmid hk => ⟨_, rfl, ?_⟩
    refine W.go elts kk tpos i T { s with heap := h', toks := tk } _ E hmid fun h'' hst' hk' => ?_
    obtain ⟨xs, rv, hl, hy⟩ := vals vs hp
    have hap := W.apart i T h' hmid
    have htup2 : IsTup h'' T vs := by
      obtain ⟨o, ho, r⟩ := htup
      exact ⟨o, hk' T o hap ho, r⟩
    have new : ObjOk X.prog X.w (upd H T (.tup xs)) h'' T (.tup xs) := ⟨Nat.le_trans hl (by rw [sizeLine_eq]; decide), vs.toList, rv, by simpa using htup2⟩
    have I1 : Inv X pins σ (upd H T (.tup xs)) { s with heap := h'', toks := tk } :=
      I.turnedNew (ch := wr) (fun b o hb q => hk' b o hb (hk b o hb q)) (fun b hb => hf b (sub b hb)) hT new
    refine ⟨.ref T, _, I1, rfl, ⟨T, xs, rfl, I.hok.fresh hT, rfl, hy⟩, back _ _ hst', fun b hb => ?_⟩
    obtain ⟨o, ho, _⟩ := obj i s.heap st b hb
    rw [upd_ne (Nat.ne_of_lt (Nat.lt_of_lt_of_le (Heap.lt_size ho) hT))]
    exact (hf b hb).1
  done := by
    intro X hP hw hK hc i pins s σ H E I hf st hg
    obtain ⟨fpA, wr, Pt, St, Mid, sub, W, hst, back, vals⟩ := wk X hP hw hK hc i pins s σ H I hf st hg.1
    subst hP hw hK
    have e := hg.2
    subst e
    exact W.done s _ E hst fun h' tk hk => ⟨rfl, I.turnedL (t' := tk) (ch := wr) hk fun b hb => hf b (sub b hb)⟩

/-! ### what can be drawn from -/
inductive Sk where
  | L (a : Addr) | T (a : Addr) | S (z : Str) (t : Tok)
def Sk.val : Sk → Value
  | .L a => .ref a
  | .T a => .ref a
  | .S z t => .str z t
def Sk.rd (K : PySem.W.Frag) (H : Hp) : Sk → List V → Prop
  | .L a, xs => SqL K H a xs
  | .T a, xs => SqT K H a xs
  | .S z _, xs => xs = z.cps.toList.map fun c => V.str ⟨#[c]⟩
def Sk.it (h : Heap) (it : Addr) (i : Nat) : Sk → Prop
  | .L a => h.IsListIter it a i
  | .T a => h.IsTupleIter it a i
  | .S z t => h.IsStrIter it (strIterType z) z t i
def Sk.obj : Sk → Obj
  | .L a => { cls := .type "list_iterator", data := .fields #[.ref a, .int 0 0] }
  | .T a => { cls := .type "tuple_iterator", data := .fields #[.ref a, .int 0 0] }
  | .S z t => { cls := .type (strIterType z), data := .fields #[.str z t, .int 0 0] }
def Sk.fr : Sk → List Addr
  | .L a => [a]
  | .T a => [a]
  | .S _ _ => []
theorem Sk.rd_mono {K : PySem.W.Frag} {G H : Hp} (x : ExT G H) {k : Sk} {xs : List V} (h : k.rd K G xs) : k.rd K H xs := by
  cases k with
  | L a => exact ext_l x h
  | T a => exact ext_t x h
  | S z t => exact h
theorem Sk.it_obj {h : Heap} {it : Addr} {i : Nat} {k : Sk} (q : k.it h it i) : ∃ o, h.get? it = some o ∧ ∀ v, o.data ≠ .cell v := by
  cases k with
  | L a => obtain ⟨o, ho, hc, hd⟩ := q; exact ⟨o, ho, fun v z => by rw [hd] at z; cases z⟩
  | T a => obtain ⟨o, ho, hc, hd⟩ := q; exact ⟨o, ho, fun v z => by rw [hd] at z; cases z⟩
  | S z t => obtain ⟨o, ho, hc, hd⟩ := q; exact ⟨o, ho, fun v z => by rw [hd] at z; cases z⟩
theorem Sk.it_keep {h h' : Heap} {it : Addr} {i : Nat} {k : Sk} (q : k.it h it i) (e : ∀ o, h.get? it = some o → h'.get? it = some o) : k.it h' it i := by
  cases k with
  | L a => obtain ⟨o, ho, r⟩ := q; exact ⟨o, e o ho, r⟩
  | T a => obtain ⟨o, ho, r⟩ := q; exact ⟨o, e o ho, r⟩
  | S z t => obtain ⟨o, ho, r⟩ := q; exact ⟨o, e o ho, r⟩
theorem Sk.it_new {h : Heap} {it : Addr} {k : Sk} (e : h.get? it = some k.obj) : k.it h it 0 := by
  cases k with
  | L a => exact ⟨_, e, rfl, rfl⟩
  | T a => exact ⟨_, e, rfl, rfl⟩
  | S z t => exact ⟨_, e, rfl, rfl⟩
section
variable {X : Cx} {pins : List (Addr × Obj)} {σ : L2.St} {H : Hp} {s : Shared}
theorem Sk.draws {P : Program} {w : World} {A : Around} {k : Sk} {xs : List V} {it : Addr} {i : Nat} (I : Inv X pins σ H s) (hh : A.handled = none) (rd : k.rd X.K H xs) (hit : k.it s.heap it i) :
    ∃ Pt St, Draws P w A it (it :: k.fr) xs.length Pt St ∧ St i s.heap ∧ (∀ j h, St j h → k.it h it j) ∧ ∀ (j : Nat) u, Pt j u → ∃ x, xs[j]? = some x ∧ RelV x u := by
  cases k with
  | L a =>
    obtain ⟨its, rv, p, hz⟩ := I.list rd
    have hne : a ≠ it := by
      rintro rfl
      obtain ⟨o, ho, hc, _⟩ := hit
      obtain ⟨o', ho', hc', _⟩ := p.isList
      rw [ho] at ho'; cases ho'
      have := hc.symm.trans hc'
      simp at this
    have hl : its.toArray.size = xs.length := by rw [List.size_toArray]; exact rv.length.symm
    refine ⟨_, _, hl ▸ Draws.list (prog := P) (w := w) (A := A) hh it a hne its.toArray, ⟨hit, p.isList⟩, fun j h q => q.1, fun j u q => ?_⟩
    have q' : its[j]? = some u := by simpa using q
    have hj : j < xs.length := by rw [rv.length]; exact (List.getElem?_eq_some_iff.mp q').1
    obtain ⟨u', hu, r⟩ := rv.get (List.getElem?_eq_getElem hj)
    rw [q'] at hu; cases hu
    exact ⟨_, List.getElem?_eq_getElem hj, r⟩
  | T a =>
    obtain ⟨its, rv, p, hz⟩ := I.tuple rd
    have hne : a ≠ it := by
      rintro rfl
      obtain ⟨o, ho, hc, _⟩ := hit
      obtain ⟨o', ho', hc', _⟩ := id p
      rw [ho] at ho'; cases ho'
      have := hc.symm.trans hc'
      simp at this
    have hl : its.toArray.size = xs.length := by rw [List.size_toArray]; exact rv.length.symm
    refine ⟨_, _, hl ▸ Draws.tuple (prog := P) (w := w) (A := A) hh it a hne its.toArray, ⟨hit, p⟩, fun j h q => q.1, fun j u q => ?_⟩
    have q' : its[j]? = some u := by simpa using q
    have hj : j < xs.length := by rw [rv.length]; exact (List.getElem?_eq_some_iff.mp q').1
    obtain ⟨u', hu, r⟩ := rv.get (List.getElem?_eq_getElem hj)
    rw [q'] at hu; cases hu
    exact ⟨_, List.getElem?_eq_getElem hj, r⟩
  | S z t =>
    have rd' : xs = z.cps.toList.map fun c => V.str ⟨#[c]⟩ := rd
    have hl : z.cps.size = xs.length := by rw [rd']; simp
    refine ⟨_, _, hl ▸ Draws.text (prog := P) (w := w) (A := A) hh it z t, hit, fun j h q => q, fun j u q => ?_⟩
    obtain ⟨c, v, hc, rfl⟩ := q
    have hc' : z.cps.toList[j]? = some c := by simpa using hc
    exact ⟨.str ⟨#[c]⟩, by rw [rd', List.getElem?_map, hc']; rfl, ⟨v, rfl⟩⟩
theorem Sk.begins {k : Sk} {xs : List V} (I : Inv X pins σ H s) (rd : k.rd X.K H xs) : ∃ Q : Heap → Prop, Begins k.val k.obj Q ∧ Q s.heap ∧ ∀ b ∈ k.fr, b < s.heap.objs.size := by
  cases k with
  | L a =>
    obtain ⟨its, rv, p, hz⟩ := I.list rd
    exact ⟨_, begins_list a its.toArray, p.isList, fun b hb => by have : b = a := by simpa [Sk.fr] using hb
                                                                  subst this; exact p.lt⟩
  | T a =>
    obtain ⟨its, rv, p, hz⟩ := I.tuple rd
    refine ⟨_, begins_tuple a its.toArray, p, fun b hb => ?_⟩
    have : b = a := by simpa [Sk.fr] using hb
    subst this
    obtain ⟨o, ho, _⟩ := p
    exact Heap.lt_size ho
  | S z t => exact ⟨_, begins_text z t, trivial, fun b hb => by simp [Sk.fr] at hb⟩
end

/-! ### enumerate -/
def tnE (N : Nat) (k : Sk) (i : Nat) (h : Heap) : Prop := (∃ old, IsEnum h (N + 1) N ((i : Nat) : Int) old) ∧ k.it h N i
theorem turn_en {P : Program} {w : World} {K : PySem.W.Frag} {elts : List Expr} {kk : Nat} {tpos : Pos} (N : Nat) (k : Sk) (xs : List V) (hN : ∀ b ∈ k.fr, b < N) :
    Turn P w K (.Tuple elts kk tpos) (Jt (fun H => k.rd K H xs) xs.length fun i _ ys => ∃ x, xs[i]? = some x ∧ ys = [.int (i : Nat), x]) [N + 1, N] (N + 1) (tnE N k) :=
  turn_walks (by simp) (fun i h st b hb => by
    obtain ⟨⟨old, he⟩, hi⟩ := st
    have e' : b = N + 1 ∨ b = N := by simpa using hb
    rcases e' with z | z
    · rw [z]; exact ⟨_, he, fun v q => nomatch q⟩
    · rw [z]; exact (Sk.it_obj hi)) (fun i h h' st q => let ⟨⟨old, he⟩, hi⟩ := st; ⟨⟨old, q (N + 1) (by simp) _ he⟩, Sk.it_keep hi fun o z => q N (by simp) o z⟩)
    (fun A i s Q E st h => let ⟨⟨_, he⟩, _⟩ := st; wpAny_pyIter_enum he h)
    fun X hP hw hK hc i pins s σ H I hf st rd => by
      subst hP hw hK
      obtain ⟨⟨old, he⟩, hi⟩ := st
      obtain ⟨Pt, St, D, hst, back, vals⟩ := Sk.draws (P := X.prog) (w := X.w) (A := X.A.in1) I (show X.A.in1.handled = none from I.ok.hd hc) rd hi
      have hfr : N + 1 ∉ N :: k.fr := fun hm => by
        rcases List.mem_cons.mp hm with e | e
        · exact Nat.succ_ne_self N e
        · exact absurd (hN _ e) (Nat.not_lt.mpr (Nat.le_succ N))
      refine ⟨_, [N + 1, N], _, _, _, fun b hb => hb, WalksT.enumFrom 0 D (N + 1) (Nat.succ_ne_self N) hfr (by simp), ⟨⟨old, by rw [Int.zero_add]; exact he⟩, hst⟩, fun j h q => ⟨?_, back j h q.2⟩, fun vs q => ?_⟩
      · obtain ⟨⟨old, he⟩, _⟩ := q
        rw [Int.zero_add] at he
        exact ⟨old, he⟩
      · obtain ⟨t, x, hx, rfl⟩ := q
        obtain ⟨y, hy, r⟩ := vals i x hx
        rw [Int.zero_add]
        exact ⟨[.int (i : Nat), y], .cons ⟨_, rfl⟩ (.cons r .nil), by simp, y, hy, rfl⟩
/-! ### zip -/
def tnZ2 (N : Nat) (k1 k2 : Sk) (i : Nat) (h : Heap) : Prop := IsZip h (N + 4) (N + 2) (N + 3) .none ∧ IsTupOf2 h (N + 2) (.ref N) (.ref (N + 1)) ∧ (∃ a1 a2, IsTupOf2 h (N + 3) a1 a2) ∧ k1.it h N i ∧ k2.it h (N + 1) i
theorem turn_z2 {P : Program} {w : World} {K : PySem.W.Frag} {elts : List Expr} {kk : Nat} {tpos : Pos} (N : Nat) (k1 k2 : Sk) (xs ys : List V) (h1 : ∀ b ∈ k1.fr, b < N) (h2 : ∀ b ∈ k2.fr, b < N) :
    Turn P w K (.Tuple elts kk tpos) (Jt (fun H => k1.rd K H xs ∧ k2.rd K H ys) (min xs.length ys.length) fun i _ zs => ∃ x y, xs[i]? = some x ∧ ys[i]? = some y ∧ zs = [x, y]) [N + 4, N + 2, N + 3, N, N + 1] (N + 4) (tnZ2 N k1 k2) :=
  turn_walks (by simp) (fun i h st b hb => by
    obtain ⟨hz, hTI, ⟨a1, a2, hTO⟩, hi1, hi2⟩ := st
    have e' : b = N + 4 ∨ b = N + 2 ∨ b = N + 3 ∨ b = N ∨ b = N + 1 := by simpa using hb
    rcases e' with z | z | z | z | z
    · rw [z]; exact ⟨_, hz, fun v q => nomatch q⟩
    · rw [z]; exact ⟨_, hTI, fun v q => nomatch q⟩
    · rw [z]; exact ⟨_, hTO, fun v q => nomatch q⟩
    · rw [z]; exact (Sk.it_obj hi1)
    · rw [z]; exact (Sk.it_obj hi2)) (fun i h h' st q => let ⟨hz, hTI, ⟨a1, a2, hTO⟩, hi1, hi2⟩ := st; ⟨q _ (by simp) _ hz, q _ (by simp) _ hTI, ⟨a1, a2, q _ (by simp) _ hTO⟩, Sk.it_keep hi1 fun o z => q _ (by simp) o z, Sk.it_keep hi2 fun o z => q _ (by simp) o z⟩)
    (fun A i s Q E st h => wpAny_pyIter_zip st.1 h)
    fun X hP hw hK hc i pins s σ H I hf st rd => by
      subst hP hw hK
      obtain ⟨hz, hTI, hTO, hi1, hi2⟩ := st
      obtain ⟨Pt1, St1, D1, hst1, back1, vals1⟩ := Sk.draws (P := X.prog) (w := X.w) (A := X.A.in1) I (show X.A.in1.handled = none from I.ok.hd hc) rd.1 hi1
      obtain ⟨Pt2, St2, D2, hst2, back2, vals2⟩ := Sk.draws (P := X.prog) (w := X.w) (A := X.A.in1) I (show X.A.in1.handled = none from I.ok.hd hc) rd.2 hi2
      refine ⟨_, [N + 4, N + 3, N, N + 1], _, _, _, fun b hb => ?_, WalksT.zipD2 (zip_sep2 h1 h2) D1 D2, ⟨hz, hTI, hTO, hst1, hst2⟩, fun j h q => ⟨q.1, q.2.1, q.2.2.1, back1 j h q.2.2.2.1, back2 j h q.2.2.2.2⟩, fun vs q => ?_⟩
      · have e' : b = N + 4 ∨ b = N + 3 ∨ b = N ∨ b = N + 1 := by simpa using hb
        rcases e' with z | z | z | z <;> simp [z]
      · obtain ⟨x, y, hx, hy, rfl⟩ := q
        obtain ⟨x', hx', r1⟩ := vals1 i x hx
        obtain ⟨y', hy', r2⟩ := vals2 i y hy
        exact ⟨[x', y'], .cons r1 (.cons r2 .nil), by simp, x', y', hx', hy', rfl⟩
def tnZ3 (N : Nat) (k1 k2 k3 : Sk) (i : Nat) (h : Heap) : Prop := IsZip h (N + 5) (N + 3) (N + 4) .none ∧ IsTupOf3 h (N + 3) (.ref N) (.ref (N + 1)) (.ref (N + 2)) ∧ (∃ a1 a2 a3, IsTupOf3 h (N + 4) a1 a2 a3) ∧ k1.it h N i ∧ k2.it h (N + 1) i ∧ k3.it h (N + 2) i
theorem turn_z3 {P : Program} {w : World} {K : PySem.W.Frag} {elts : List Expr} {kk : Nat} {tpos : Pos} (N : Nat) (k1 k2 k3 : Sk) (xs ys us : List V) (h1 : ∀ b ∈ k1.fr, b < N) (h2 : ∀ b ∈ k2.fr, b < N) (h3 : ∀ b ∈ k3.fr, b < N) :
    Turn P w K (.Tuple elts kk tpos) (Jt (fun H => k1.rd K H xs ∧ k2.rd K H ys ∧ k3.rd K H us) (min (min xs.length ys.length) us.length) fun i _ zs => ∃ x y u, xs[i]? = some x ∧ ys[i]? = some y ∧ us[i]? = some u ∧ zs = [x, y, u]) [N + 5, N + 3, N + 4, N, N + 1, N + 2] (N + 5) (tnZ3 N k1 k2 k3) :=
  turn_walks (by simp) (fun i h st b hb => by
    obtain ⟨hz, hTI, ⟨a1, a2, a3, hTO⟩, hi1, hi2, hi3⟩ := st
    have e' : b = N + 5 ∨ b = N + 3 ∨ b = N + 4 ∨ b = N ∨ b = N + 1 ∨ b = N + 2 := by simpa using hb
    rcases e' with z | z | z | z | z | z
    · rw [z]; exact ⟨_, hz, fun v q => nomatch q⟩
    · rw [z]; exact ⟨_, hTI, fun v q => nomatch q⟩
    · rw [z]; exact ⟨_, hTO, fun v q => nomatch q⟩
    · rw [z]; exact (Sk.it_obj hi1)
    · rw [z]; exact (Sk.it_obj hi2)
    · rw [z]; exact (Sk.it_obj hi3)) (fun i h h' st q => let ⟨hz, hTI, ⟨a1, a2, a3, hTO⟩, hi1, hi2, hi3⟩ := st; ⟨q _ (by simp) _ hz, q _ (by simp) _ hTI, ⟨a1, a2, a3, q _ (by simp) _ hTO⟩, Sk.it_keep hi1 fun o z => q _ (by simp) o z, Sk.it_keep hi2 fun o z => q _ (by simp) o z, Sk.it_keep hi3 fun o z => q _ (by simp) o z⟩)
    (fun A i s Q E st h => wpAny_pyIter_zip st.1 h)
    fun X hP hw hK hc i pins s σ H I hf st rd => by
      subst hP hw hK
      obtain ⟨hz, hTI, hTO, hi1, hi2, hi3⟩ := st
      obtain ⟨Pt1, St1, D1, hst1, back1, vals1⟩ := Sk.draws (P := X.prog) (w := X.w) (A := X.A.in1) I (show X.A.in1.handled = none from I.ok.hd hc) rd.1 hi1
      obtain ⟨Pt2, St2, D2, hst2, back2, vals2⟩ := Sk.draws (P := X.prog) (w := X.w) (A := X.A.in1) I (show X.A.in1.handled = none from I.ok.hd hc) rd.2.1 hi2
      obtain ⟨Pt3, St3, D3, hst3, back3, vals3⟩ := Sk.draws (P := X.prog) (w := X.w) (A := X.A.in1) I (show X.A.in1.handled = none from I.ok.hd hc) rd.2.2 hi3
      refine ⟨_, [N + 5, N + 4, N, N + 1, N + 2], _, _, _, fun b hb => ?_, WalksT.zipD3 (zip_sep3 h1 h2 h3) D1 D2 D3, ⟨hz, hTI, hTO, hst1, hst2, hst3⟩, fun j h q => ⟨q.1, q.2.1, q.2.2.1, back1 j h q.2.2.2.1, back2 j h q.2.2.2.2.1, back3 j h q.2.2.2.2.2⟩, fun vs q => ?_⟩
      · have e' : b = N + 5 ∨ b = N + 4 ∨ b = N ∨ b = N + 1 ∨ b = N + 2 := by simpa using hb
        rcases e' with z | z | z | z | z <;> simp [z]
      · obtain ⟨x, y, u, hx, hy, hu, rfl⟩ := q
        obtain ⟨x', hx', r1⟩ := vals1 i x hx
        obtain ⟨y', hy', r2⟩ := vals2 i y hy
        obtain ⟨u', hu', r3⟩ := vals3 i u hu
        exact ⟨[x', y', u'], .cons r1 (.cons r2 (.cons r3 .nil)), by simp, x', y', u', hx', hy', hu', rfl⟩
/-! ### the rules -/
/-- from data to a source -/
theorem sk_of {K : PySem.W.Frag} {F H : Hp} {v : V} {u : Value} {d : D} {ds : List D} (x : Ex F H) (dp : Dp K F v d) (r : RelV v u) (hi : itemsD d = some ds) : ∃ k : Sk, ∃ vs, k.val = u ∧ k.rd K F vs ∧ DpAll K F vs ds := by
  unfold itemsD at hi
  split at hi
  · cases hi
    obtain ⟨a, vs, rfl, h1, h2⟩ := dp_lst dp
    cases r
    exact ⟨.L a, vs, rfl, h1, h2⟩
  · cases hi
    obtain ⟨a, vs, rfl, h1, h2⟩ := dp_tup dp
    cases r
    exact ⟨.T a, vs, rfl, h1, h2⟩
  · cases hi
    have := dp_str dp
    subst this
    obtain ⟨t, rfl⟩ := r
    refine ⟨.S _ t, _, rfl, rfl, ?_⟩
    rename_i z
    generalize z.cps.toList = l
    induction l with
    | nil => exact .nil
    | cons c l ih => exact .cons (.str _) ih
  · cases hi
def enL (n : Nat) : List D → List D
  | [] => []
  | d :: ds => .tuple [.int n, d] :: enL (n + 1) ds
def z2L : List D → List D → List D
  | d :: ds, e :: es => .tuple [d, e] :: z2L ds es
  | _, _ => []
def z3L : List D → List D → List D → List D
  | d :: ds, e :: es, c :: cs => .tuple [d, e, c] :: z3L ds es cs
  | _, _, _ => []
def enA (f : FE) : FA := fun e => (f e).bind fun d => (itemsD d).map (enL 0)
def zp2 (f g : FE) : FA := fun e => (f e).bind fun c => (g e).bind fun d => (itemsD c).bind fun cs => (itemsD d).map (z2L cs)
def zp3 (f g h : FE) : FA := fun e => (f e).bind fun c => (g e).bind fun d => (h e).bind fun b => (itemsD c).bind fun cs => (itemsD d).bind fun ds => (itemsD b).map (z3L cs ds)
theorem enL_get : ∀ (ds : List D) (n i : Nat), (enL n ds)[i]? = (ds[i]?).map fun d => .tuple [.int ((n + i : Nat) : Int), d]
  | [], _, _ => rfl
  | d :: ds, n, 0 => rfl
  | d :: ds, n, i + 1 => by
    show (enL (n + 1) ds)[i]? = _
    rw [enL_get ds (n + 1) i]
    rw [show n + 1 + i = n + (i + 1) by omega]
    rfl
theorem enL_len : ∀ (ds : List D) (n : Nat), (enL n ds).length = ds.length
  | [], _ => rfl
  | d :: ds, n => congrArg (· + 1) (enL_len ds (n + 1))
theorem z2L_get : ∀ (cs ds : List D) (i : Nat), (z2L cs ds)[i]? = (cs[i]?).bind fun c => (ds[i]?).map fun d => .tuple [c, d]
  | [], _, _ => rfl
  | c :: cs, [], i => by
    cases h : (c :: cs)[i]? <;> rfl
  | c :: cs, d :: ds, 0 => rfl
  | c :: cs, d :: ds, i + 1 => z2L_get cs ds i
theorem z2L_len : ∀ (cs ds : List D), (z2L cs ds).length = min cs.length ds.length
  | [], _ => by simp [z2L]
  | c :: cs, [] => by simp [z2L]
  | c :: cs, d :: ds => by
    show (z2L cs ds).length + 1 = _
    rw [z2L_len cs ds]
    simp only [List.length_cons]
    omega
theorem z3L_get : ∀ (cs ds bs : List D) (i : Nat), (z3L cs ds bs)[i]? = (cs[i]?).bind fun c => (ds[i]?).bind fun d => (bs[i]?).map fun b => .tuple [c, d, b]
  | [], _, _, _ => rfl
  | c :: cs, [], _, i => by
    cases h : (c :: cs)[i]? <;> rfl
  | c :: cs, d :: ds, [], i => by
    cases h : (c :: cs)[i]? <;> cases h2 : (d :: ds)[i]? <;> rfl
  | c :: cs, d :: ds, b :: bs, 0 => rfl
  | c :: cs, d :: ds, b :: bs, i + 1 => z3L_get cs ds bs i
theorem z3L_len : ∀ (cs ds bs : List D), (z3L cs ds bs).length = min (min cs.length ds.length) bs.length
  | [], _, _ => by simp [z3L]
  | c :: cs, [], _ => by simp [z3L]
  | c :: cs, d :: ds, [] => by simp [z3L]
  | c :: cs, d :: ds, b :: bs => by
    show (z3L cs ds bs).length + 1 = _
    rw [z3L_len cs ds bs]
    simp only [List.length_cons]
    omega
theorem wlk_t {K : PySem.W.Frag} {G F : Hp} {R : Hp → Prop} {Y : Nat → Hp → List V → Prop} {n : Nat} {ds : List D} (hn : ds.length = n) (hR : ∀ H, ExT G H → R H)
    (hY : ∀ (i : Nat) H d xs, ds[i]? = some d → Y i H xs → ∃ es, d = .tuple es ∧ DpAll K F xs es) : Wlk K (Jt R n Y) G F ds := fun i F1 H1 hi x1 x2 x3 => by
  refine ⟨fun d hd => ⟨⟨hR _ x3, by rw [← hn]; exact (List.getElem?_eq_some_iff.mp hd).1⟩, fun x H2 hy => ?_⟩, fun hd => ⟨hR _ x3, ?_⟩⟩
  · obtain ⟨T, xs, rfl, hT, rfl, hy⟩ := hy
    obtain ⟨es, rfl, dp⟩ := hY i H1 d xs hd hy
    exact ⟨upd F1 T (.tup xs), Gr.new x2 hT, .tup (SqT.of upd_same) (dpa_mono (Ex.new (fresh_back x2 hT)) (dpa_mono x1 dp))⟩
  · have := List.getElem?_eq_none_iff.mp hd
    omega
section
variable {X : Cx} {e e2 e3 : Expr} {f g h : FE} {p pos tpos : Pos} {elts : List Expr} {kk : Nat}
theorem di_enum (hm : X.mg "enumerate" = none) (hc : X.calm = true) (h : DE X e f) (hg : Gl X "enumerate" := by rfl) (hs : starEach [e] X.env = [(false, eval e X.env)] := by rfl) : DI X (.Tuple elts kk tpos) (.Call (.Name "enumerate" p) [e] [] pos) (enA f) := by
  refine ⟨fun pins s σ H R I hw => ?_⟩
  obtain ⟨B, F0, F, env, ds, ok, fe, q⟩ := hw
  obtain ⟨d, hd, fe⟩ := bind1 fe
  obtain ⟨cs, hcs, rfl⟩ := Option.map_eq_some_iff.mp fe
  have ha : PA X [e] (TAr X.K (consA f nilA)) := da_cons h da_nil hs
  refine Call_ (ld_blt I hg hm boot_enumerate (PyProof.Rows.callWith_type1 (thn (ha.run pos pins s σ H (fun vs H1 => ∃ F1 v, vs = [v] ∧ Gr F H F1 H1 ∧ Dp X.K F1 v d) I ⟨B, F0, F, env, [d], ok, by simp [consA, nilA, hd], fun vs F1 H1 g1 dp => ?_⟩) fun us s1 ⟨vs, H1, I1, r1, q1⟩ => ?_) hs rfl))
  · cases dp with
    | cons d1 d2 => cases d2; exact ⟨F1, _, rfl, g1, d1⟩
  · obtain ⟨F1, v, rfl, g1, dp⟩ := q1
    obtain ⟨u, rfl, ru⟩ := vals1 r1
    obtain ⟨k, vs, hk, rd, dpa⟩ := sk_of g1.fh dp ru hcs
    obtain ⟨Qh, Bg, hq, hlt⟩ := Sk.begins I1 (Sk.rd_mono (.of g1.fh) rd)
    rw [hk] at Bg
    refine enum_one Bg hq fun h' he ho hsz hkp => wpAny_pyIter_enum he ?_
    have I2 : Inv X pins σ H1 { s1 with heap := h' } := I1.kept (t' := s1.toks) hkp
    refine ⟨s1.heap.objs.size + 1, [s1.heap.objs.size + 1, s1.heap.objs.size], _, _, H1, rfl, I2, turn_en s1.heap.objs.size k vs hlt, ⟨⟨.none, he⟩, Sk.it_new ho⟩, fun b hb => ?_, q _ F1 H1 g1 (wlk_t (by rw [enL_len, dpa_len dpa]) (fun H x => Sk.rd_mono x rd) fun i H d xs hd hy => ?_)⟩
    · have e' : b = s1.heap.objs.size + 1 ∨ b = s1.heap.objs.size := by simpa using hb
      have hle : s1.heap.objs.size ≤ b := by
        rcases e' with z | z
        · rw [z]; exact Nat.le_add_right _ _
        · rw [z]; exact Nat.le_refl _
      exact I1.fpOk hle (I1.hok.fresh hle)
    · obtain ⟨x, hx, rfl⟩ := hy
      rw [enL_get] at hd
      obtain ⟨c, hc, rfl⟩ := Option.map_eq_some_iff.mp hd
      obtain ⟨c', hc', dc⟩ := dpa_getV dpa hx
      have := Option.some.inj (hc.symm.trans hc')
      subst this
      rw [Nat.zero_add]
      exact ⟨_, rfl, .cons (.int _) (.cons dc .nil)⟩
theorem di_zip2 (hm : X.mg "zip" = none) (hc : X.calm = true) (h : DE X e f) (h2 : DE X e2 g) (hg : Gl X "zip" := by rfl) (hs : starEach [e, e2] X.env = (false, eval e X.env) :: starEach [e2] X.env := by rfl) (hs2 : starEach [e2] X.env = (false, eval e2 X.env) :: starEach [] X.env := by rfl)
    (hpl : (backTo pos (starEach [e2] X.env)).any (·.1) = false := by rfl) : DI X (.Tuple elts kk tpos) (.Call (.Name "zip" p) [e, e2] [] pos) (zp2 f g) := by
  refine ⟨fun pins s σ H R I hw => ?_⟩
  obtain ⟨B, F0, F, env, ds, ok, fe, q⟩ := hw
  obtain ⟨c, d, hcc, hd, fe⟩ := bind2 fe
  obtain ⟨cs, hcs, fe⟩ := bind1 fe
  obtain ⟨dd, hds, rfl⟩ := Option.map_eq_some_iff.mp fe
  have ha : PA X [e, e2] (TAr X.K (consA f (consA g nilA))) := da_cons h (da_cons h2 da_nil hs2) hs
  refine Call_ (ld_blt I hg hm PyProof.Rows.boot_zip (PyProof.Rows.callWith_type1 (thn (ha.run pos pins s σ H (fun vs H1 => ∃ F1 v1 v2, vs = [v1, v2] ∧ Gr F H F1 H1 ∧ Dp X.K F1 v1 c ∧ Dp X.K F1 v2 d) I ⟨B, F0, F, env, [c, d], ok, by simp [consA, nilA, hd, hcc], fun vs F1 H1 g1 dp => ?_⟩) fun us s1 ⟨vs, H1, I1, r1, q1⟩ => ?_) hs hpl))
  · cases dp with
    | cons d1 d2 => cases d2 with
      | cons d2 d3 => cases d3; exact ⟨F1, _, _, rfl, g1, d1, d2⟩
  · obtain ⟨F1, v1, v2, rfl, g1, dp1, dp2⟩ := q1
    obtain ⟨u1, u2, rfl, ru1, ru2⟩ := vals2 r1
    obtain ⟨k1, vs1, hk1, rd1, dpa1⟩ := sk_of g1.fh dp1 ru1 hcs
    obtain ⟨k2, vs2, hk2, rd2, dpa2⟩ := sk_of g1.fh dp2 ru2 hds
    obtain ⟨Q1, B1, hq1, hlt1⟩ := Sk.begins I1 (Sk.rd_mono (.of g1.fh) rd1)
    obtain ⟨Q2, B2, hq2, hlt2⟩ := Sk.begins I1 (Sk.rd_mono (.of g1.fh) rd2)
    rw [hk1] at B1
    rw [hk2] at B2
    refine zip_begins2 B1 B2 hq1 hq2 fun h' hz hTI hTO ho1 ho2 hsz hkp => wpAny_pyIter_zip hz ?_
    have I2 : Inv X pins σ H1 { s1 with heap := h' } := I1.kept (t' := s1.toks) hkp
    refine ⟨s1.heap.objs.size + 4, [s1.heap.objs.size + 4, s1.heap.objs.size + 2, s1.heap.objs.size + 3, s1.heap.objs.size, s1.heap.objs.size + 1], _, _, H1, rfl, I2, turn_z2 s1.heap.objs.size k1 k2 vs1 vs2 hlt1 hlt2, ⟨hz, hTI, ⟨_, _, hTO⟩, Sk.it_new ho1, Sk.it_new ho2⟩, fun b hb => ?_, q _ F1 H1 g1 (wlk_t (by rw [z2L_len, dpa_len dpa1, dpa_len dpa2]) (fun H x => ⟨Sk.rd_mono x rd1, Sk.rd_mono x rd2⟩) fun i H d xs hd hy => ?_)⟩
    · have e' : b = s1.heap.objs.size + 4 ∨ b = s1.heap.objs.size + 2 ∨ b = s1.heap.objs.size + 3 ∨ b = s1.heap.objs.size ∨ b = s1.heap.objs.size + 1 := by simpa using hb
      have hle : s1.heap.objs.size ≤ b := by
        rcases e' with z | z | z | z | z
        · rw [z]; exact Nat.le_add_right _ _
        · rw [z]; exact Nat.le_add_right _ _
        · rw [z]; exact Nat.le_add_right _ _
        · rw [z]; exact Nat.le_refl _
        · rw [z]; exact Nat.le_add_right _ _
      exact I1.fpOk hle (I1.hok.fresh hle)
    · obtain ⟨x, y, hx, hy, rfl⟩ := hy
      obtain ⟨c1, hc1, dc1⟩ := dpa_getV dpa1 hx
      obtain ⟨c2, hc2, dc2⟩ := dpa_getV dpa2 hy
      rw [z2L_get, hc1, hc2] at hd
      cases hd
      exact ⟨_, rfl, .cons dc1 (.cons dc2 .nil)⟩
theorem di_zip3 (hm : X.mg "zip" = none) (hc : X.calm = true) (h1 : DE X e f) (h2 : DE X e2 g) (h3 : DE X e3 h) (hg : Gl X "zip" := by rfl) (hs : starEach [e, e2, e3] X.env = (false, eval e X.env) :: starEach [e2, e3] X.env := by rfl) (hs2 : starEach [e2, e3] X.env = (false, eval e2 X.env) :: starEach [e3] X.env := by rfl)
    (hs3 : starEach [e3] X.env = (false, eval e3 X.env) :: starEach [] X.env := by rfl) (hpl : (backTo pos (starEach [e2, e3] X.env)).any (·.1) = false := by rfl) : DI X (.Tuple elts kk tpos) (.Call (.Name "zip" p) [e, e2, e3] [] pos) (zp3 f g h) := by
  refine ⟨fun pins s σ H R I hw => ?_⟩
  obtain ⟨B, F0, F, env, ds, ok, fe, q⟩ := hw
  obtain ⟨c, d, hcc, hd, fe⟩ := bind2 fe
  obtain ⟨b, cs, hbb, hcs, fe⟩ := bind2 fe
  obtain ⟨dd, hds, fe⟩ := bind1 fe
  obtain ⟨bs, hbs, rfl⟩ := Option.map_eq_some_iff.mp fe
  have ha : PA X [e, e2, e3] (TAr X.K (consA f (consA g (consA h nilA)))) := da_cons h1 (da_cons h2 (da_cons h3 da_nil hs3) hs2) hs
  refine Call_ (ld_blt I hg hm PyProof.Rows.boot_zip (PyProof.Rows.callWith_type1 (thn (ha.run pos pins s σ H (fun vs H1 => ∃ F1 v1 v2 v3, vs = [v1, v2, v3] ∧ Gr F H F1 H1 ∧ Dp X.K F1 v1 c ∧ Dp X.K F1 v2 d ∧ Dp X.K F1 v3 b) I ⟨B, F0, F, env, [c, d, b], ok, by simp [consA, nilA, hd, hcc, hbb], fun vs F1 H1 g1 dp => ?_⟩) fun us s1 ⟨vs, H1, I1, r1, q1⟩ => ?_) hs hpl))
  · cases dp with
    | cons d1 d2 => cases d2 with
      | cons d2 d3 => cases d3 with
        | cons d3 d4 => cases d4; exact ⟨F1, _, _, _, rfl, g1, d1, d2, d3⟩
  · obtain ⟨F1, v1, v2, v3, rfl, g1, dp1, dp2, dp3⟩ := q1
    cases r1 with
    | cons ru1 r1 => cases r1 with
      | cons ru2 r1 => cases r1 with
        | cons ru3 r1 =>
          cases r1
          obtain ⟨k1, vs1, hk1, rd1, dpa1⟩ := sk_of g1.fh dp1 ru1 hcs
          obtain ⟨k2, vs2, hk2, rd2, dpa2⟩ := sk_of g1.fh dp2 ru2 hds
          obtain ⟨k3, vs3, hk3, rd3, dpa3⟩ := sk_of g1.fh dp3 ru3 hbs
          obtain ⟨Q1, B1, hq1, hlt1⟩ := Sk.begins I1 (Sk.rd_mono (.of g1.fh) rd1)
          obtain ⟨Q2, B2, hq2, hlt2⟩ := Sk.begins I1 (Sk.rd_mono (.of g1.fh) rd2)
          obtain ⟨Q3, B3, hq3, hlt3⟩ := Sk.begins I1 (Sk.rd_mono (.of g1.fh) rd3)
          rw [hk1] at B1
          rw [hk2] at B2
          rw [hk3] at B3
          refine zip_begins3 B1 B2 B3 hq1 hq2 hq3 fun h' hz hTI hTO ho1 ho2 ho3 hsz hkp => wpAny_pyIter_zip hz ?_
          have I2 : Inv X pins σ H1 { s1 with heap := h' } := I1.kept (t' := s1.toks) hkp
          refine ⟨s1.heap.objs.size + 5, [s1.heap.objs.size + 5, s1.heap.objs.size + 3, s1.heap.objs.size + 4, s1.heap.objs.size, s1.heap.objs.size + 1, s1.heap.objs.size + 2], _, _, H1, rfl, I2, turn_z3 s1.heap.objs.size k1 k2 k3 vs1 vs2 vs3 hlt1 hlt2 hlt3, ⟨hz, hTI, ⟨_, _, _, hTO⟩, Sk.it_new ho1, Sk.it_new ho2, Sk.it_new ho3⟩, fun b hb => ?_, q _ F1 H1 g1 (wlk_t (by rw [z3L_len, dpa_len dpa1, dpa_len dpa2, dpa_len dpa3]) (fun H x => ⟨Sk.rd_mono x rd1, Sk.rd_mono x rd2, Sk.rd_mono x rd3⟩) fun i H d xs hd hy => ?_)⟩
          · have e' : b = s1.heap.objs.size + 5 ∨ b = s1.heap.objs.size + 3 ∨ b = s1.heap.objs.size + 4 ∨ b = s1.heap.objs.size ∨ b = s1.heap.objs.size + 1 ∨ b = s1.heap.objs.size + 2 := by simpa using hb
            have hle : s1.heap.objs.size ≤ b := by
              rcases e' with z | z | z | z | z | z
              · rw [z]; exact Nat.le_add_right _ _
              · rw [z]; exact Nat.le_add_right _ _
              · rw [z]; exact Nat.le_add_right _ _
              · rw [z]; exact Nat.le_refl _
              · rw [z]; exact Nat.le_add_right _ _
              · rw [z]; exact Nat.le_add_right _ _
            exact I1.fpOk hle (I1.hok.fresh hle)
          · obtain ⟨x, y, u, hx, hy, hu, rfl⟩ := hy
            obtain ⟨c1, hc1, dc1⟩ := dpa_getV dpa1 hx
            obtain ⟨c2, hc2, dc2⟩ := dpa_getV dpa2 hy
            obtain ⟨c3, hc3, dc3⟩ := dpa_getV dpa3 hu
            rw [z3L_get, hc1, hc2, hc3] at hd
            cases hd
            exact ⟨_, rfl, .cons dc1 (.cons dc2 (.cons dc3 .nil))⟩
@[simp] theorem e_enA {e : DEnv} : enA f e = (f e).bind fun d => (itemsD d).map (enL 0) := (rfl)
@[simp] theorem e_zp2 {e : DEnv} : zp2 f g e = (f e).bind fun c => (g e).bind fun d => (itemsD c).bind fun cs => (itemsD d).map (z2L cs) := (rfl)
@[simp] theorem e_zp3 {e : DEnv} : zp3 f g h e = (f e).bind fun c => (g e).bind fun d => (h e).bind fun b => (itemsD c).bind fun cs => (itemsD d).bind fun ds => (itemsD b).map (z3L cs ds) := (rfl)
end
end DL

/-! DLay10: tuples cut by steps. -/
namespace HT
open PySem PySem.Spec PyProof.Rows
section
variable {prog : Program} {w : World} {A : Around} {E : Value → Shared → Prop} {s : Shared}
theorem sliceApplied_st {sl : Addr} {vl vu vs : Value} {lo hi : Option Int} {st : Int} {n : Nat} {Q : Int × Int × Nat → Shared → Prop} (hs : s.heap.IsSliceOf sl vl vu vs) (pl : IsPart vl lo) (pu : IsPart vu hi) (ps : IsPart vs (some st)) (h0 : st ≠ 0)
    (h : Q ((Builtin.Slice.sliceAdjust lo hi st (n : Int)).1, st, Builtin.Slice.slicePlaces (Builtin.Slice.sliceAdjust lo hi st (n : Int)).1 (Builtin.Slice.sliceAdjust lo hi st (n : Int)).2 st) s) : wpAny (model prog w) A (Builtin.Slice.sliceApplied (.ref sl) (pure (n : Int))) Q E s := by
  obtain ⟨os, hos, hcs, hds⟩ := id hs
  unfold Builtin.Slice.sliceApplied Builtin.Slice.sliceFields
  refine wpAny_bind (wpAny_bind (wpAny_field hos hds (x := vl) rfl (wpAny_bind (wpAny_field hos hds (x := vu) rfl (wpAny_bind (wpAny_field hos hds (x := vs) rfl (wpAny_pure ?_)))))))
  refine wpAny_bind (slicePart_ ps ?_)
  show wpAny _ _ (if (st == 0) = true then _ else _) _ _ s
  rw [if_neg (by simpa using h0)]
  refine wpAny_bind (slicePart_ pl (wpAny_bind (slicePart_ pu (wpAny_bind (wpAny_pure ?_)))))
  show wpAny _ _ (match Builtin.Slice.sliceAdjust lo hi st (n : Int) with | (lo, hi) => pure (lo, st, Builtin.Slice.slicePlaces lo hi st)) _ _ s
  generalize Builtin.Slice.sliceAdjust lo hi st (n : Int) = r at h ⊢
  obtain ⟨a, b⟩ := r
  exact wpAny_pure h
theorem getItem_tuple_step {t sl : Addr} {items : Array Value} {vl vu vs : Value} {lo hi : Option Int} {st : Int} {Q : Value → Shared → Prop} (ht : IsTup s.heap t items) (hs : s.heap.IsSliceOf sl vl vu vs) (pl : IsPart vl lo) (pu : IsPart vu hi) (ps : IsPart vs (some st)) (h0 : st ≠ 0) (h1 : st ≠ 1)
    (hz : Builtin.Slice.slicePlaces (Builtin.Slice.sliceAdjust lo hi st (items.size : Int)).1 (Builtin.Slice.sliceAdjust lo hi st (items.size : Int)).2 st ≤ sizeLine)
    (h : Q (.ref s.heap.objs.size) { s with heap := s.heap.push { cls := .type "tuple", data := .seq ((List.range (Builtin.Slice.slicePlaces (Builtin.Slice.sliceAdjust lo hi st (items.size : Int)).1 (Builtin.Slice.sliceAdjust lo hi st (items.size : Int)).2 st)).filterMap fun (m : Nat) => items[((Builtin.Slice.sliceAdjust lo hi st (items.size : Int)).1 + (m : Int) * st).toNat]?).toArray } }) : wpAny (model prog w) A (getItem (.ref t) (.ref sl)) Q E s := by
  obtain ⟨os, hos, hcs, hds⟩ := id hs
  have hTs : s.TypeIs (.ref sl) "slice" := ⟨os, hos, hcs⟩
  unfold getItem
  try with_reducible refine wpAny_holding ?_
  first | refine wpAny_bind (wpAny_pure ?_) | skip
  refine wpAny_bind (wpAny_sequenceKey ht.typeIs (by decide) ?_)
  refine wpAny_bind (wpAny_callSpecial?_slot (name := Str.ofString "__getitem__") ht.typeIs PyProof.Rows.slot_tuple_getitem
    (wpAny_call_entry PyProof.Rows.slot_tuple_getitem ht.typeIs entry_tuple_getitem ?_ (args_tuple_getitem _ _)))
  show wpAny _ _ (Builtin.Tuple.tupleItemsOf (.ref t) >>= _) _ _ s
  refine wpAny_bind (tupleItemsOf_ ht ?_)
  refine wpAny_bind (wpAny_typeOf hTs ?_)
  rw [if_pos (by decide)]
  refine wpAny_bind (sliceApplied_st hs pl pu ps h0 ?_)
  generalize (Builtin.Slice.sliceAdjust lo hi st (items.size : Int)).1 = a at h hz ⊢
  generalize Builtin.Slice.slicePlaces a (Builtin.Slice.sliceAdjust lo hi st (items.size : Int)).2 st = n at h hz ⊢
  have htake : sizeOk (.seq ((List.range n).filterMap fun (m : Nat) => items[(a + (m : Int) * st).toNat]?).toArray) := by
    show ((List.range n).filterMap fun (m : Nat) => items[(a + (m : Int) * st).toNat]?).toArray.size ≤ sizeLine
    rw [List.size_toArray]
    refine Nat.le_trans (List.length_filterMap_le _ _) ?_
    rw [List.length_range]
    exact hz
  have hno : ¬ ((a == 0 && st == 1 && n == items.size) = true) := by
    intro q
    rw [Bool.and_eq_true, Bool.and_eq_true] at q
    exact h1 (eq_of_beq q.1.2)
  show wpAny _ _ (if (a == 0 && st == 1 && n == items.size) = true then _ else _) _ _ s
  rw [if_neg hno]
  first
    | exact wpAny_bind (m := Builtin.Tuple.tupleExact _) (wpAny_newObj_type (wpAny_pure ⟨_, rfl, wpAny_pure h⟩) htake)
    | exact wpAny_bind (m := Builtin.Tuple.tupleExact _) (wpAny_newObj_type (wpAny_bind (wpAny_pure (wpAny_pure ⟨_, rfl, wpAny_pure h⟩))) htake)
    | exact wpAny_bind (wpAny_bind (m := Builtin.Tuple.tupleExact _) (wpAny_newObj_type (wpAny_pure (wpAny_pure ⟨_, rfl, wpAny_pure h⟩)) htake))
    | exact wpAny_bind (wpAny_bind (m := Builtin.Tuple.tupleExact _) (wpAny_newObj_type (wpAny_pure ⟨_, rfl, wpAny_pure h⟩) htake))
end
end HT
namespace DL
open PySem PySem.Spec PyProof.Rows L2 Evl
/-- how many, where -/
def stN (n : Nat) (lo hi : Option Int) (st : Int) : Nat := Builtin.Slice.slicePlaces (Builtin.Slice.sliceAdjust lo hi st (n : Int)).1 (Builtin.Slice.sliceAdjust lo hi st (n : Int)).2 st
def stAt (n : Nat) (lo hi : Option Int) (st : Int) (m : Nat) : Nat := ((Builtin.Slice.sliceAdjust lo hi st (n : Int)).1 + (m : Int) * st).toNat
def stL {α : Type} (xs : List α) (lo hi : Option Int) (st : Int) : List α := (List.range (stN xs.length lo hi st)).filterMap fun m => xs[stAt xs.length lo hi st m]?
def stepD (d : D) (lo hi : Option Int) (st : Option Int) : Option D := match d, st with
  | .tuple xs, some st => if (decide (st ≠ 0) && decide (st ≠ 1) && sml (stN xs.length lo hi st)) = true then some (.tuple (stL xs lo hi st)) else none
  | _, _ => none
def slS (f : FE) (l h s : FO) : FE := fun e => (f e).bind fun x => (l e).bind fun lo => (h e).bind fun hi => (s e).bind fun st => stepD x lo hi st
theorem dpa_at {K : PySem.W.Frag} {F : Hp} : ∀ {vs : List V} {ds : List D}, DpAll K F vs ds → ∀ i : Nat, (vs[i]? = none ∧ ds[i]? = none) ∨ ∃ v d, vs[i]? = some v ∧ ds[i]? = some d ∧ Dp K F v d
  | _, _, .nil, i => .inl ⟨by simp, by simp⟩
  | _, _, .cons h hs, 0 => .inr ⟨_, _, rfl, rfl, h⟩
  | _, _, .cons h hs, i + 1 => by simpa using dpa_at hs i
theorem dpa_pick {K : PySem.W.Frag} {F : Hp} {vs : List V} {ds : List D} (h : DpAll K F vs ds) (g : Nat → Nat) : ∀ ks : List Nat, DpAll K F (ks.filterMap fun m => vs[g m]?) (ks.filterMap fun m => ds[g m]?)
  | [] => .nil
  | k :: ks => by
    have ih := dpa_pick h g ks
    rcases dpa_at h (g k) with ⟨h1, h2⟩ | ⟨v, d, h1, h2, h3⟩
    · simp only [List.filterMap_cons, h1, h2]; exact ih
    · simp only [List.filterMap_cons, h1, h2]; exact .cons h3 ih
theorem vals_at : ∀ {vs : List V} {us : List Value}, Vals vs us → ∀ i : Nat, (vs[i]? = none ∧ us[i]? = none) ∨ ∃ v u, vs[i]? = some v ∧ us[i]? = some u ∧ RelV v u
  | _, _, .nil, i => .inl ⟨by simp, by simp⟩
  | _, _, .cons h hs, 0 => .inr ⟨_, _, rfl, rfl, h⟩
  | _, _, .cons h hs, i + 1 => by simpa using vals_at hs i
theorem vals_pick {vs : List V} {us : List Value} (h : Vals vs us) (g : Nat → Nat) : ∀ ks : List Nat, Vals (ks.filterMap fun m => vs[g m]?) (ks.filterMap fun m => us[g m]?)
  | [] => .nil
  | k :: ks => by
    have ih := vals_pick h g ks
    rcases vals_at h (g k) with ⟨h1, h2⟩ | ⟨v, d, h1, h2, h3⟩
    · simp only [List.filterMap_cons, h1, h2]; exact ih
    · simp only [List.filterMap_cons, h1, h2]; exact .cons h3 ih
section
variable {X : Cx} {e : Expr} {lo hi : Option Expr} {st : Expr} {te : TE} {tl th ts : TO} {f : FE} {l h s : FO} {pos p2 : Pos}
def tSlS (K : PySem.W.Frag) (te : TE) (tl th ts : TO) : TE := fun σ H Q => te σ H fun x H1 => tl σ H1 fun lo H2 => th σ H2 fun hi H3 => ts σ H3 fun st H4 => ∃ a xs k, x = .ref a ∧ SqT K H4 a xs ∧ st = some k ∧ k ≠ 0 ∧ k ≠ 1 ∧ stN xs.length lo hi k ≤ sizeLine ∧ ∀ p, H4 p = none → Q (.ref p) (upd H4 p (.tup (stL xs lo hi k)))
theorem pe_sliceS (he : PE X e te) (hl : PO X lo tl) (hu : PO X hi th) (hs : PO X (some st) ts) : PE X (.Subscript e (.Slice lo hi (some st) p2) pos) (tSlS X.K te tl th ts) := by
  refine ⟨fun pins s σ H Q I h => ?_⟩
  refine Subscript_ (thn (he.run pins s σ H _ I h) fun v s1 ⟨x, H1, I1, r1, q1⟩ => ?_)
  refine wpAny_Slice (thn (hl.run pins s1 σ H1 _ I1 q1) fun vl s2 ⟨l, H2, I2, pl, q2⟩ => thn (hu.run pins s2 σ H2 _ I2 q2) fun vu s3 ⟨u, H3, I3, pu, q3⟩ => thn (hs.run pins s3 σ H3 _ I3 q3) fun vs s4 ⟨k', H4, I4, ps, q4⟩ => ?_)
  obtain ⟨a, xs, k, rfl, hx, rfl, h0, h1, hn, q⟩ := q4
  cases r1
  have I5 : Inv X pins σ H4 { s4 with heap := s4.heap.push { cls := .type "slice", data := .fields #[vl, vu, vs] } } := I4.kept (t' := s4.toks) fun b ob q => Heap.get?_push_of_some _ q
  obtain ⟨its, r, ht, hz⟩ := I5.tuple hx
  have hlen : its.toArray.size = xs.length := by rw [List.size_toArray]; exact r.length.symm
  show wpAny (model X.prog X.w) X.A (subscriptTail e (.Slice lo hi (some st) p2) (.ref a) (.ref s4.heap.objs.size)) (EP X pins σ Q) X.xe { s4 with heap := s4.heap.push { cls := .type "slice", data := .fields #[vl, vu, vs] } }
  refine tail_any (ops := [.ref a, .ref s4.heap.objs.size]) ht.typeIs PyProof.Rows.slot_tuple_getitem.lookup ?_ (by with_unfolding_all rfl)
  refine HT.getItem_tuple_step ht (Heap.IsSliceOf.new _ vl vu vs) pl pu ps h0 h1 (by rw [hlen]; exact hn) ?_
  rw [hlen]
  have hv := vals_pick r (stAt xs.length l u k) (List.range (stN xs.length l u k))
  refine ⟨.ref _, _, I5.laid (t' := s4.toks) (o := .tup (stL xs l u k)) (fun b ob q => Heap.get?_push_of_some _ q) (Nat.le_refl _) ?_, rfl, q _ (I5.hok.fresh (Nat.le_refl _))⟩
  refine ⟨Nat.le_trans (List.length_filterMap_le _ _) (by rw [List.length_range]; exact hn), _, hv, ?_⟩
  have e1 : (fun (m : Nat) => its.toArray[((Builtin.Slice.sliceAdjust l u k (xs.length : Int)).1 + (m : Int) * k).toNat]?) = fun m => its[stAt xs.length l u k m]? := by
    funext m
    simp [stAt]
  rw [e1]
  exact IsTup.new _ _
theorem de_sliceS (he : DR X e f) (hl : DO X lo l) (hh : DO X hi h) (hs : DO X (some st) s) : DE X (.Subscript e (.Slice lo hi (some st) p2) pos) (slS f l h s) :=
  pe_imp (pe_sliceS he hl hh hs) fun σ H Q ⟨B, F0, F, e, d, ok, fe, q⟩ => by
  obtain ⟨x, hx, fe⟩ := bind1 fe
  obtain ⟨lo, hi, hlo, hhi, fe⟩ := bind2 fe
  obtain ⟨st, hst, fe⟩ := bind1 fe
  refine ⟨B, F0, F, e, x, ok, hx, fun v F1 H1 g1 r1 => ⟨B, F0, F1, e, lo, ok.grow g1, hlo, fun F2 H2 g2 => ⟨B, F0, F2, e, hi, (ok.grow g1).grow g2, hhi, fun F3 H3 g3 => ⟨B, F0, F3, e, st, ((ok.grow g1).grow g2).grow g3, hst, fun F4 H4 g4 => ?_⟩⟩⟩⟩
  have r4 := ((r1.grow g2).grow g3).grow g4
  have q4 : Kn X.K F4 H4 d Q := fun w F' H' g5 dp => q w F' H' ((((g1.trans g2).trans g3).trans g4).trans g5) dp
  unfold stepD at fe
  split at fe
  · split at fe
    · rename_i hz
      cases fe
      rw [Bool.and_eq_true, Bool.and_eq_true, decide_eq_true_eq, decide_eq_true_eq] at hz
      have r5 := rs_tupF r4
      obtain ⟨a, vs, rfl, s1, d1⟩ := dp_tup r5
      refine ⟨a, vs, _, rfl, ex_t g4.fh s1, rfl, hz.1.1, hz.1.2, by rw [dpa_len d1]; exact Nat.le_trans (sml_le hz.2) big_line, fun p hp => ?_⟩
      refine q4.tupN g4.fh ?_ hp
      unfold stL
      rw [dpa_len d1]
      exact dpa_pick d1 _ _
    · cases fe
  · cases fe
@[simp] theorem e_slS {env : DEnv} : slS f l h s env = (f env).bind fun x => (l env).bind fun lo => (h env).bind fun hi => (s env).bind fun st => stepD x lo hi st := (rfl)
end
/-- xs[::-1] -/
theorem stL_rev {α : Type} (xs : List α) : stL xs none none (-1) = xs.reverse := by
  have h1 : stN xs.length none none (-1) = xs.length := by
    simp only [stN, Builtin.Slice.sliceAdjust, Builtin.Slice.slicePlaces]
    split <;> split <;> simp_all <;> omega
  have h2 : ∀ m, m < xs.length → stAt xs.length none none (-1) m = xs.length - 1 - m := fun m hm => by
    simp only [stAt, Builtin.Slice.sliceAdjust]
    simp
    omega
  unfold stL
  rw [h1]
  have key : ∀ n, n ≤ xs.length → (List.range n).filterMap (fun m => xs[stAt xs.length none none (-1) m]?) = (xs.reverse).take n := by
    intro n
    induction n with
    | zero => intro _; simp
    | succ n ih =>
      intro hn
      rw [List.range_succ, List.filterMap_append, ih (by omega), List.take_add_one]
      congr 1
      rw [List.getElem?_reverse (by omega), ← h2 n (by omega)]
      rw [List.getElem?_eq_getElem (by rw [h2 n (by omega)]; omega)]
      simp [List.filterMap_cons, List.getElem?_eq_getElem (show stAt xs.length none none (-1) n < xs.length by rw [h2 n (by omega)]; omega)]
  rw [key _ (Nat.le_refl _), ← List.length_reverse, List.take_length]
theorem step_rev {xs : List D} (h : xs.length ≤ 100000) : stepD (.tuple xs) none none (some (-1)) = some (.tuple xs.reverse) := by
  have h1 : stN xs.length none none (-1) = xs.length := by
    simp only [stN, Builtin.Slice.sliceAdjust, Builtin.Slice.slicePlaces]
    split <;> split <;> simp_all <;> omega
  show (if (decide ((-1 : Int) ≠ 0) && decide ((-1 : Int) ≠ 1) && sml (stN xs.length none none (-1))) = true then some (PyData.tuple (stL xs none none (-1))) else none) = _
  rw [stL_rev, h1, sml_of h]
  rfl
end DL

/-! DLay11: dicts as data: displays, d[k], d.get(k, x), in. -/
namespace DL
open PySem PySem.Spec PyProof.Rows L2 Evl
def asKey : D → Option Key
  | .int i => some (.inl i)
  | .str x => some (.inr x)
  | _ => none
theorem asKey_keyD (k : Key) : asKey (keyD k) = some k := by cases k <;> rfl
def lookK (ds : List (D × D)) (k : Key) : Option D := (ds.find? fun p => decide (asKey p.1 = some k)).map (·.2)
def putKD (ds : List (D × D)) (k : Key) (d : D) : List (D × D) :=
  if (ds.any fun p => decide (asKey p.1 = some k)) = true then ds.map (fun p => if asKey p.1 = some k then (p.1, d) else p) else ds ++ [(keyD k, d)]
def mergeKD (ds : List (D × D)) (more : List (Key × D)) : List (D × D) := more.foldl (fun acc kv => putKD acc kv.1 kv.2) ds
def dixD (d k : D) : Option D := match d with
  | .dict ds => (asKey k).bind (lookK ds)
  | _ => none
def dgetD (d k x : D) : Option D := match d with
  | .dict ds => (asKey k).map fun k => (lookK ds k).getD x
  | _ => none
section
variable {K : PySem.W.Frag} {F : Hp}
theorem dpk_look (k : Key) : ∀ {kvs : List (Key × V)} {ds : List (D × D)}, DpKv K F kvs ds → (valV kvs k = none ∧ lookK ds k = none) ∨ ∃ v d, valV kvs k = some v ∧ lookK ds k = some d ∧ Dp K F v d
  | _, _, .nil => .inl ⟨rfl, rfl⟩
  | _, _, .cons (k := k') h hs => by
    by_cases e : k' = k
    · refine .inr ⟨_, _, valV_pos e, ?_, h⟩
      simp [lookK, List.find?_cons, asKey_keyD, e]
    · have h1 : ∀ {v : V} {kvs : List (Key × V)}, valV ((k', v) :: kvs) k = valV kvs k := fun {v kvs} => valV_neg (p := (k', v)) e
      have h2 : ∀ {d : D} {ds : List (D × D)}, lookK ((keyD k', d) :: ds) k = lookK ds k := fun {d ds} => by simp [lookK, List.find?_cons, asKey_keyD, e]
      rw [h1, h2]
      exact dpk_look k hs
theorem dpk_any (k : Key) : ∀ {kvs : List (Key × V)} {ds : List (D × D)}, DpKv K F kvs ds → (kvs.any fun kv => decide (kv.1 = k)) = ds.any fun p => decide (asKey p.1 = some k)
  | _, _, .nil => rfl
  | _, _, .cons (k := k') h hs => by
    rw [List.any_cons, List.any_cons, dpk_any k hs, asKey_keyD]
    simp
theorem dpk_map (k : Key) {v : V} {d : D} (h0 : Dp K F v d) : ∀ {kvs : List (Key × V)} {ds : List (D × D)}, DpKv K F kvs ds → DpKv K F (kvs.map (fun kv => if kv.1 = k then (kv.1, v) else kv)) (ds.map (fun p => if asKey p.1 = some k then (p.1, d) else p))
  | _, _, .nil => .nil
  | _, _, .cons (k := k') h hs => by
    rw [List.map_cons, List.map_cons]
    by_cases e : k' = k
    · have e2 : asKey (keyD k') = some k := by rw [asKey_keyD, e]
      simp only [if_pos e, if_pos e2]
      exact .cons h0 (dpk_map k h0 hs)
    · have e2 : ¬ asKey (keyD k') = some k := by rw [asKey_keyD]; simpa using e
      simp only [if_neg e, if_neg e2]
      exact .cons h (dpk_map k h0 hs)
theorem dpk_snoc {k : Key} {v : V} {d : D} (h0 : Dp K F v d) : ∀ {kvs : List (Key × V)} {ds : List (D × D)}, DpKv K F kvs ds → DpKv K F (kvs ++ [(k, v)]) (ds ++ [(keyD k, d)])
  | _, _, .nil => .cons h0 .nil
  | _, _, .cons h hs => .cons h (dpk_snoc h0 hs)
theorem dpk_put (k : Key) {v : V} {d : D} (h0 : Dp K F v d) {kvs : List (Key × V)} {ds : List (D × D)} (h : DpKv K F kvs ds) : DpKv K F (putK kvs k v) (putKD ds k d) := by
  unfold putK putKD
  rw [dpk_any k h]
  split
  · exact dpk_map k h0 h
  · exact dpk_snoc h0 h
/-- pairs of a display -/
inductive KvD (K : PySem.W.Frag) (F : Hp) : List (Key × V) → List (Key × D) → Prop
  | nil : KvD K F [] []
  | cons {k : Key} {v : V} {d : D} {kvs : List (Key × V)} {kds : List (Key × D)} : Dp K F v d → KvD K F kvs kds → KvD K F ((k, v) :: kvs) ((k, d) :: kds)
theorem kvd_len : ∀ {kvs : List (Key × V)} {kds : List (Key × D)}, KvD K F kvs kds → kvs.length = kds.length
  | _, _, .nil => rfl
  | _, _, .cons _ hs => congrArg (· + 1) (kvd_len hs)
theorem dpk_merge : ∀ {more : List (Key × V)} {mds : List (Key × D)} {kvs : List (Key × V)} {ds : List (D × D)}, KvD K F more mds → DpKv K F kvs ds → DpKv K F (mergeK kvs more) (mergeKD ds mds)
  | _, _, _, _, .nil, h => h
  | _, _, _, _, .cons h hs, q => dpk_merge (kvs := putK _ _ _) (ds := putKD _ _ _) hs (dpk_put _ h q)
theorem dp_dic {v : V} {ds : List (D × D)} (h : Dp K F v (.dict ds)) : ∃ a kvs, v = .ref a ∧ Rd F a (.dK kvs) ∧ DpKv K F kvs ds := by
  cases h with
  | dic h hs => exact ⟨_, _, rfl, h, hs⟩
theorem dp_key {v : V} {d : D} {k : Key} (h : Dp K F v d) (hk : asKey d = some k) : v = kV k := by
  unfold asKey at hk
  split at hk
  · cases hk; exact dp_int h
  · cases hk; exact dp_str h
  · cases hk
end
def c3 (G : D → D → D → Option D) (f g h : FE) : FE := fun e => (f e).bind fun x => (g e).bind fun y => (h e).bind fun z => G x y z
abbrev FK := DEnv → Option (List (Key × D))
def nilK : FK := fun _ => some []
def consK (fk fv : FE) (fr : FK) : FK := fun e => (fk e).bind fun k => (asKey k).bind fun kk => (fv e).bind fun v => (fr e).map ((kk, v) :: ·)
def dspD (f : FK) : FE := fun e => (f e).bind fun kds => if Nat.ble kds.length 15 = true then some (.dict (mergeKD [] kds)) else none
section
variable {X : Cx} {pos : Pos} {k v : Expr} {ks : List (Option Expr)} {vs : List Expr} {fk fv f g h : FE} {fr : FK} {o i : Expr}
def TKd (K : PySem.W.Frag) (f : FK) : L2.St → Hp → (List (V × V) → Hp → Prop) → Prop := fun σ H Q => ∃ B F0 F e kds, Ok K B F0 F σ H e ∧ f e = some kds ∧ ∀ kvs F' H', Gr F H F' H' → KvD K F' kvs kds → Q (kvs.map fun kv => (kV kv.1, kv.2)) H'
def DK (X : Cx) (pos : Pos) (ks : List (Option Expr)) (vs : List Expr) (f : FK) : Prop := ∃ trs, PPs X pos ks vs trs ∧ ∀ σ H Q, TKd X.K f σ H Q → tPairs trs σ H Q
theorem kvd_mono {K : PySem.W.Frag} {F F' : Hp} (x : Ex F F') : ∀ {kvs : List (Key × V)} {kds : List (Key × D)}, KvD K F kvs kds → KvD K F' kvs kds
  | _, _, .nil => .nil
  | _, _, .cons h hs => .cons (dp_mono x h) (kvd_mono x hs)
theorem dk_nil : DK X pos [] [] nilK := ⟨[], pps_nil, fun σ H Q ⟨B, F0, F, e, kds, ok, fe, q⟩ => by
  cases fe
  exact q [] F H (Gr.refl ok.fh) .nil⟩
theorem dk_cons (hk : DE X k fk) (hv : DE X v fv) (hr : DK X pos ks vs fr) : DK X pos (some k :: ks) (v :: vs) (consK fk fv fr) := by
  obtain ⟨trs, h1, h2⟩ := hr
  refine ⟨_, pps_cons hk hv h1, fun σ H Q ⟨B, F0, F, e, kds, ok, fe, q⟩ => ?_⟩
  obtain ⟨x, hx, fe⟩ := bind1 fe
  obtain ⟨kk, hkk, fe⟩ := bind1 fe
  obtain ⟨d, hd, fe⟩ := bind1 fe
  obtain ⟨rs, hrs, rfl⟩ := Option.map_eq_some_iff.mp fe
  refine ⟨B, F0, F, e, x, ok, hx, fun v1 F1 H1 g1 d1 => ⟨B, F0, F1, e, d, ok.grow g1, hd, fun v2 F2 H2 g2 d2 => h2 _ _ _ ⟨B, F0, F2, e, rs, (ok.grow g1).grow g2, hrs, fun kvs F3 H3 g3 d3 => ?_⟩⟩⟩
  rw [dp_key d1 hkk]
  exact q ((kk, v2) :: kvs) F3 H3 ((g1.trans g2).trans g3) (.cons (dp_mono g3.ff d2) d3)
theorem de_disp (h : DK X pos ks vs fr) (hall : ks.all (·.isSome) = true := by rfl) (hl : ks.length = vs.length := by rfl) (h0 : ks ≠ [] := by exact fun h => nomatch h) (h15 : ks.length ≤ 15 := by decide) : DE X (.Dict ks vs pos) (dspD fr) := by
  obtain ⟨trs, h1, h2⟩ := h
  refine pe_imp (pe_disp h1 hall hl h0 h15) fun σ H Q ⟨B, F0, F, e, d, ok, fe, q⟩ p hp => ?_
  obtain ⟨kds, hk, fe⟩ := bind1 fe
  split at fe
  · rename_i hz
    cases fe
    have g0 : Gr F H F (upd H p (.dK [])) := Gr.loose ok.fh hp
    refine h2 _ _ _ ⟨B, F0, F, e, kds, ok.grow g0, hk, fun kvs F' H' g dk => ?_⟩
    have hp' : H' p = some (.dK []) := g.hh _ _ upd_same
    have hf : F' p = none := (g.nf p _ upd_same).trans (fresh_back ok.fh hp)
    refine ⟨hp', kvs, rfl, by rw [kvd_len dk]; exact Nat.le_of_ble_eq_true hz, ?_⟩
    have g1 : Gr F H F' (upd H' p (.dK (mergeK [] kvs))) := (g0.trans g).mut hp hf hp'
    have g2 : Gr F H (upd F' p (.dK (mergeK [] kvs))) (upd H' p (.dK (mergeK [] kvs))) := g1.frz hp hf upd_same
    exact q _ _ _ g2 (.dic (.inl upd_same) (dpk_mono (Ex.new hf) (dpk_merge dk .nil)))
  · cases fe
theorem de_dix {r : Nat} (hr : Room r X.A) (ho : DE X o f) (hi : DE X i g) (hs : NoSl i := by exact fun _ _ => rfl) : DE X (.Subscript o i pos) (c2 dixD f g) :=
  pe_imp (pe_dget (by have := hr.units; omega) ho hi hs) fun σ H Q ⟨B, F0, F, e, d, ok, fe, q⟩ => by
  obtain ⟨x, y, hx, hy, fe⟩ := bind2 fe
  refine ⟨B, F0, F, e, x, ok, hx, fun v1 F1 H1 g1 d1 => ⟨B, F0, F1, e, y, ok.grow g1, hy, fun v2 F2 H2 g2 d2 => ?_⟩⟩
  unfold dixD at fe
  split at fe
  · obtain ⟨kk, hkk, fe⟩ := bind1 fe
    obtain ⟨a, kvs, rfl, hR, hD⟩ := dp_dic (dp_mono g2.ff d1)
    rcases dpk_look kk hD with ⟨_, h2⟩ | ⟨v, d', h1, h2, h3⟩
    · rw [h2] at fe; cases fe
    · rw [h2] at fe
      cases fe
      refine ⟨a, v, rfl, .inl ⟨kvs, kk, rd_mono g2.fh hR, dp_key d2 hkk, h1.symm⟩, q _ F2 H2 (g1.trans g2) h3⟩
  · cases fe
theorem de_dget {x : Expr} {apos : Pos} {r : Nat} (hr : Room r X.A) (ho : DE X o f) (hi : DE X i g) (hx : DE X x h) (m : M2 X o "get" apos i x pos := by exact ⟨rfl, rfl, rfl, rfl⟩) : DE X (.Call (.Attribute o "get" apos) [i, x] [] pos) (c3 dgetD f g h) :=
  pe_imp (pe_dget2 (by have := hr.units; omega) ho hi hx m) fun σ H Q ⟨B, F0, F, e, d, ok, fe, q⟩ => by
  obtain ⟨x, y, hx, hy, fe⟩ := bind2 fe
  obtain ⟨z, hz, fe⟩ := bind1 fe
  refine ⟨B, F0, F, e, x, ok, hx, fun v1 F1 H1 g1 d1 => ?_⟩
  unfold dgetD at fe
  split at fe
  · obtain ⟨kk, hkk, rfl⟩ := Option.map_eq_some_iff.mp fe
    obtain ⟨a, kvs, rfl, hR, hD⟩ := dp_dic d1
    refine ⟨a, rfl, .inl ⟨kvs, rd_mono g1.fh hR⟩, B, F0, F1, e, y, ok.grow g1, hy, fun v2 F2 H2 g2 d2 => ⟨B, F0, F2, e, z, (ok.grow g1).grow g2, hz, fun v3 F3 H3 g3 d3 => ⟨valV kvs kk, .inl ⟨kvs, kk, rd_mono g3.fh (rd_mono g3.ff (rd_mono g2.ff hR)), dp_key d2 hkk, rfl⟩, ?_⟩⟩⟩
    rcases dpk_look kk (dpk_mono g3.ff (dpk_mono g2.ff hD)) with ⟨h1, h2⟩ | ⟨v, d', h1, h2, h3⟩
    · rw [h1]
      refine q _ F3 H3 ((g1.trans g2).trans g3) ?_
      rw [h2]
      exact d3
    · rw [h1]
      refine q _ F3 H3 ((g1.trans g2).trans g3) ?_
      rw [h2]
      exact h3
  · cases fe
end
section
variable {fk fv f g h : FE} {fr : FK} {e : DEnv}
@[simp] theorem e_c3 {G : D → D → D → Option D} : c3 G f g h e = (f e).bind fun x => (g e).bind fun y => (h e).bind fun z => G x y z := (rfl)
@[simp] theorem e_nilK : nilK e = some [] := (rfl)
@[simp] theorem e_consK : consK fk fv fr e = (fk e).bind fun k => (asKey k).bind fun kk => (fv e).bind fun v => (fr e).map ((kk, v) :: ·) := (rfl)
@[simp] theorem e_dspD : dspD fr e = (fr e).bind fun kds => if Nat.ble kds.length 15 = true then some (.dict (mergeKD [] kds)) else none := (rfl)
@[simp] theorem e_asKeyI {i : Int} : asKey (.int i) = some (.inl i) := (rfl)
@[simp] theorem e_asKeyS {x : Str} : asKey (.str x) = some (.inr x) := (rfl)
@[simp] theorem e_dixD {ds : List (D × D)} {k : D} : dixD (.dict ds) k = (asKey k).bind (lookK ds) := (rfl)
@[simp] theorem e_dgetD {ds : List (D × D)} {k x : D} : dgetD (.dict ds) k x = (asKey k).map fun k => (lookK ds k).getD x := (rfl)
end
end DL

/-! DLay12: dicts and tuples of texts that the module holds. -/
namespace DL
open PySem PySem.Spec PyProof.Rows L2 Evl He
abbrev TabS := List (Str × Str)
def lookT (tab : TabS) (z : Str) : Option Str := (tab.find? fun p => decide (p.1 = z)).map (·.2)
def dinG (tab : TabS) (d : D) : Option D := match d with
  | .str z => some (.bool (lookT tab z).isSome)
  | _ => none
def dninG (tab : TabS) (d : D) : Option D := match d with
  | .str z => some (.bool (!(lookT tab z).isSome))
  | _ => none
def dixG (tab : TabS) (d : D) : Option D := match d with
  | .str z => (lookT tab z).map PyData.str
  | _ => none
def dgetG (tab : TabS) (d x : D) : Option D := match d with
  | .str z => some (match lookT tab z with
    | some y => .str y
    | none => x)
  | _ => none
/-! ### what is looked at -/
def entX (e : DictEntry) : Option (Str × Int × Str) := match e.key, e.val with
  | .str x _, .str y _ => some (x, e.hash, y)
  | _, _ => none
def entsIn (P : Params) (tab : TabS) : List (Option (Str × Int × Str)) := tab.map fun p => some (p.1, PyData.keyHash P p.1, p.2)
def dicX (K : PySem.W.Frag) (a : Addr) : Option (List (Option (Str × Int × Str))) := match K.lookup a with
  | some ⟨.type c, none, .dict es _, sl⟩ => (match decide (c = "dict") && (sl.isEmpty && !(a == sysModules)) with
    | true => some (es.toList.map entX)
    | false => none)
  | _ => none
structure GTab (K : PySem.W.Frag) (w : World) (d : Addr) (tab : TabS) : Prop where
  kd : ∃ es n, KDict K w d es n
  at_ : ∀ z, (∃ y t, lookT tab z = some y ∧ PySem.W.nsIn K d z = some (some (.str y t))) ∨ (lookT tab z = none ∧ PySem.W.nsIn K d z = some none)
theorem ents_lit {P : Params} : ∀ {l : List DictEntry} {tab : TabS}, l.map entX = entsIn P tab → PySem.W.KeysLit P l
  | [], _, _ => trivial
  | e :: r, [], h => by cases h
  | e :: r, p :: tab, h => by
    have h1 : entX e :: r.map entX = some (p.1, PyData.keyHash P p.1, p.2) :: entsIn P tab := h
    injection h1 with h2 h3
    refine ⟨?_, ents_lit h3⟩
    unfold entX at h2
    split at h2
    · rename_i x t y u q1 q2
      simp only [Option.some.injEq, Prod.mk.injEq] at h2
      exact ⟨x, t, q1, by rw [h2.2.1, h2.1]⟩
    · cases h2
theorem ents_find {P : Params} (z : Str) : ∀ {l : List DictEntry} {tab : TabS}, l.map entX = entsIn P tab →
    (∃ y t e, lookT tab z = some y ∧ l.find? (·.key.isStr z) = some e ∧ e.val = .str y t) ∨ (lookT tab z = none ∧ l.find? (·.key.isStr z) = none)
  | [], [], _ => .inr ⟨rfl, rfl⟩
  | [], _ :: _, h => by cases h
  | e :: r, [], h => by cases h
  | e :: r, p :: tab, h => by
    have h1 : entX e :: r.map entX = some (p.1, PyData.keyHash P p.1, p.2) :: entsIn P tab := h
    injection h1 with h2 h3
    have ih := ents_find z h3
    unfold entX at h2
    split at h2
    · rename_i x t y u q1 q2
      simp only [Option.some.injEq, Prod.mk.injEq] at h2
      obtain ⟨rfl, _, rfl⟩ := h2
      have hk : e.key.isStr z = decide (p.1 = z) := by
        rw [q1]
        show (p.1 == z) = _
        exact Bool.eq_iff_iff.mpr (by simp)
      by_cases hz : p.1 = z
      · refine .inl ⟨p.2, u, e, ?_, ?_, q2⟩
        · simp [lookT, List.find?_cons, hz]
        · rw [List.find?_cons, hk, decide_eq_true hz]
      · have e1 : lookT (p :: tab) z = lookT tab z := by simp [lookT, List.find?_cons, hz]
        have e2 : (e :: r).find? (·.key.isStr z) = r.find? (·.key.isStr z) := by rw [List.find?_cons, hk, decide_eq_false hz]
        rw [e1, e2]
        exact ih
    · cases h2
theorem ents_ref {P : Params} : ∀ {l : List DictEntry} {tab : TabS}, l.map entX = entsIn P tab → l.any (·.refKey) = false
  | [], _, _ => rfl
  | e :: r, [], h => by cases h
  | e :: r, p :: tab, h => by
    have h1 : entX e :: r.map entX = some (p.1, PyData.keyHash P p.1, p.2) :: entsIn P tab := h
    injection h1 with h2 h3
    rw [List.any_cons, ents_ref h3, Bool.or_false]
    unfold entX at h2
    split at h2
    · rename_i x t y u q1 q2
      unfold DictEntry.refKey
      rw [q1]
    · cases h2
theorem gtab_of {K : PySem.W.Frag} {w : World} {a : Addr} {tab : TabS} (h : dicX K a = some (entsIn w.params tab)) : GTab K w a tab := by
  unfold dicX at h
  cases q : K.lookup a with
  | none =>
    rw [q] at h
    cases h
  | some o =>
    obtain ⟨oc, od, dt, osl⟩ := o
    rw [q] at h
    cases oc with
    | type c =>
      cases od with
      | none =>
        cases dt with
        | dict es n =>
          have h1 : (match decide (c = "dict") && (osl.isEmpty && !(a == sysModules)) with
            | true => some (es.toList.map entX)
            | false => none) = some (entsIn w.params tab) := h
          cases z : decide (c = "dict") && (osl.isEmpty && !(a == sysModules)) with
          | false =>
            rw [z] at h1
            cases h1
          | true =>
            rw [z] at h1
            obtain ⟨z1, z2⟩ := ba z
            obtain ⟨z3, z4⟩ := ba z2
            have e1 : c = "dict" := of_decide_eq_true z1
            have e2 : osl = #[] := Array.isEmpty_iff.mp z3
            have e3 : (a == sysModules) = false := by
              cases y : a == sysModules with
              | false => rfl
              | true =>
                rw [y] at z4
                cases z4
            subst e1 e2
            have hm := Option.some.inj h1
            refine ⟨⟨es, n, q, ents_lit hm, e3⟩, fun zz => ?_⟩
            rcases ents_find zz hm with ⟨y, t, e, g1, g2, g3⟩ | ⟨g1, g2⟩
            · refine .inl ⟨y, t, g1, ?_⟩
              unfold PySem.W.nsIn
              rw [q]
              show (match es.toList.find? (·.key.isStr zz) with
                | some e => some (some e.val)
                | none => if es.toList.any (·.refKey) then none else some none) = _
              rw [g2]
              show some (some e.val) = _
              rw [g3]
            · refine .inr ⟨g1, ?_⟩
              unfold PySem.W.nsIn
              rw [q]
              show (match es.toList.find? (·.key.isStr zz) with
                | some e => some (some e.val)
                | none => if es.toList.any (·.refKey) then none else some none) = _
              rw [g2, ents_ref hm]
              rfl
        | _ => cases h
      | some b => cases dt <;> cases h
    | _ => cases od <;> cases dt <;> cases h
/-! ### the Hook -/
abbrev AlX : Type := AlD × List (Option (List (Option (Str × Int × Str)))) × Bool
def obsX (fa : List Fa) (fn : List DefD) (ts : List (Str × TabS)) (us : List (Str × List Dv)) (K : PySem.W.Frag) : AlX := (obsD fa fn K, ts.map (fun t => dicX K (ga K t.1)), us.all fun u => tupB K u.1 u.2)
def valX (fn : List DefD) (ts : List (Str × TabS)) (w : World) : AlX := (valD fn, ts.map (fun t => some (entsIn w.params t.2)), true)
def obsXG (n : Nat) (fa : List Fa) (fn : List DefD) (ts : List (Str × TabS)) (us : List (Str × List Dv)) (g : Addr → Option Obj) : AlX := obsX fa fn ts us (frG g (asD g n))
def SaysX (fa : List Fa) (fn : List DefD) (ts : List (Str × TabS)) (us : List (Str × List Dv)) (w : World) (K : PySem.W.Frag) : Prop := obsX fa fn ts us K = valX fn ts w
def hookX (n : Nat) (fa : List Fa) (fn : List DefD) (ts : List (Str × TabS)) (us : List (Str × List Dv)) : PySem.W.Hook where
  α := AlX
  obs := fun s => obsXG n fa fn ts us s.heap.get?
  val := fun w => valX fn ts w
  says := fun w h => ∃ K : PySem.W.Frag, K.In h ∧ SaysX fa fn ts us w K
  of := fun _ _ e => ⟨_, frG_in, e⟩
  keeps := fun _ _ _ ⟨K, hK, c⟩ k => ⟨K, PySem.W.Frag.In.keeps hK k, c⟩
theorem obsXG_eq {n : Nat} {fa : List Fa} {fn : List DefD} {ts : List (Str × TabS)} {us : List (Str × List Dv)} {g : Addr → Option Obj} {s : Shared} (h : ∀ a, g a = s.heap.get? a) : obsXG n fa fn ts us g = (hookX n fa fn ts us).obs s := by
  have e : g = s.heap.get? := funext h
  rw [e] <;> rfl
section
variable {fa : List Fa} {fn : List DefD} {ts : List (Str × TabS)} {us : List (Str × List Dv)} {w : World} {K : PySem.W.Frag}
theorem SaysX.d (c : SaysX fa fn ts us w K) : SaysD fa fn K := congrArg (fun z : AlX => z.1) c
theorem SaysX.tab (c : SaysX fa fn ts us w K) (i : Nat) {t : Str × TabS} (h : ts[i]? = some t := by rfl) : GTab K w (ga K t.1) t.2 := by
  have e : ts.map (fun t => dicX K (ga K t.1)) = ts.map fun t => some (entsIn w.params t.2) := congrArg (fun z : AlX => z.2.1) c
  have e2 : (ts.map fun t => dicX K (ga K t.1))[i]? = (ts.map fun t => some (entsIn w.params t.2))[i]? := by rw [e]
  rw [List.getElem?_map, List.getElem?_map, h] at e2
  exact gtab_of (Option.some.inj e2)
theorem SaysX.tup (c : SaysX fa fn ts us w K) (i : Nat) {u : Str × List Dv} (h : us[i]? = some u := by rfl) (H : Hp) : SqT K H (ga K u.1) (u.2.map (Dv.v K)) := by
  have e : (us.all fun u => tupB K u.1 u.2) = true := congrArg (fun z : AlX => z.2.2) c
  exact tupB_ok (List.all_eq_true.mp e u (List.mem_of_getElem? h)) H
end
/-! ### the rules -/
section
variable {X : Cx} {a b : Expr} {f g : FE} {x : Str} {d : Addr} {tab : TabS} {p pos apos : Pos}
theorem de_gtup {zs : List Str} (hg : Gl X x) (hm : X.mg x = some (.ref d)) (hs : ∀ H : Hp, SqT X.K H d (zs.map V.str)) (hd : (x == ("__debug__" : Str)) = false := by decide) : DE X (.Name x p) (cst (.tuple (zs.map PyData.str))) :=
  de_cst (v := .ref d) (pe_glob hg hm rfl hd) fun F => .tup (hs F) (by
    induction zs with
    | nil => exact .nil
    | cons z zs ih =>
      refine .cons (.str z) ?_
      clear ih hs
      induction zs with
      | nil => exact .nil
      | cons y ys ih => exact .cons (.str y) ih)
theorem de_gin (hm : X.mg x = some (.ref d)) (D : GTab X.K X.w d tab) (ha : DE X a f) (hg : Gl X x := by rfl) (hb : behindInMarks .In (.Name x p) = false := by rfl) (hd : (x == ("__debug__" : Str)) = false := by decide) : DE X (.Compare a [.In] [.Name x p] pos) (c1 (dinG tab) f) := by
  obtain ⟨es, n, kd⟩ := D.kd
  refine pe_imp (pe_cmpR (op_in_kd kd) ha (pe_glob (v := .ref d) hg hm rfl hd) hb) fun σ H Q ⟨B, F0, F, e, r, ok, fe, q⟩ => ?_
  obtain ⟨v, hv, fe⟩ := bind1 fe
  refine ⟨B, F0, F, e, v, ok, hv, fun v1 F1 H1 g1 d1 => ?_⟩
  unfold dinG at fe
  split at fe
  · rename_i z
    cases fe
    rcases D.at_ z with ⟨y, t, h1, h2⟩ | ⟨h1, h2⟩
    · refine ⟨z, _, dp_str d1, rfl, h2, ?_⟩
      have := q (.bl true) F1 H1 g1 (by rw [h1]; exact .bl true)
      exact this
    · refine ⟨z, _, dp_str d1, rfl, h2, ?_⟩
      have := q (.bl false) F1 H1 g1 (by rw [h1]; exact .bl false)
      exact this
  · cases fe
theorem de_gnin (hm : X.mg x = some (.ref d)) (D : GTab X.K X.w d tab) (ha : DE X a f) (hg : Gl X x := by rfl) (hb : behindInMarks .NotIn (.Name x p) = false := by rfl) (hd : (x == ("__debug__" : Str)) = false := by decide) : DE X (.Compare a [.NotIn] [.Name x p] pos) (c1 (dninG tab) f) := by
  obtain ⟨es, n, kd⟩ := D.kd
  refine pe_imp (pe_cmpR (op_notIn_kd kd) ha (pe_glob (v := .ref d) hg hm rfl hd) hb) fun σ H Q ⟨B, F0, F, e, r, ok, fe, q⟩ => ?_
  obtain ⟨v, hv, fe⟩ := bind1 fe
  refine ⟨B, F0, F, e, v, ok, hv, fun v1 F1 H1 g1 d1 => ?_⟩
  unfold dninG at fe
  split at fe
  · rename_i z
    cases fe
    rcases D.at_ z with ⟨y, t, h1, h2⟩ | ⟨h1, h2⟩
    · refine ⟨z, _, dp_str d1, rfl, h2, ?_⟩
      have := q (.bl false) F1 H1 g1 (by rw [h1]; exact .bl false)
      exact this
    · refine ⟨z, _, dp_str d1, rfl, h2, ?_⟩
      have := q (.bl true) F1 H1 g1 (by rw [h1]; exact .bl true)
      exact this
  · cases fe
theorem dt_gin (hm : X.mg x = some (.ref d)) (D : GTab X.K X.w d tab) (ha : DE X a f) (hg : Gl X x := by rfl) (hb : behindInMarks .In (.Name x p) = false := by rfl) (hd : (x == ("__debug__" : Str)) = false := by decide) : DT X (.Compare a [.In] [.Name x p] pos) (tst (c1 (dinG tab) f)) := by
  obtain ⟨es, n, kd⟩ := D.kd
  refine pt_imp (pt_cmpR (op_in_kd kd) ha (pe_glob (v := .ref d) hg hm rfl hd) hb) (tst_read fun σ H Q ⟨B, F0, F, e, r, ok, fe, q⟩ => ?_)
  obtain ⟨v, hv, fe⟩ := bind1 fe
  refine ⟨B, F0, F, e, v, ok, hv, fun v1 F1 H1 g1 d1 => ?_⟩
  unfold dinG at fe
  split at fe
  · rename_i z
    cases fe
    rcases D.at_ z with ⟨y, t, h1, h2⟩ | ⟨h1, h2⟩
    · refine ⟨z, _, dp_str d1, rfl, h2, ?_⟩
      have := q (.bl true) F1 H1 g1 (by rw [h1]; exact .bl true)
      exact this
    · refine ⟨z, _, dp_str d1, rfl, h2, ?_⟩
      have := q (.bl false) F1 H1 g1 (by rw [h1]; exact .bl false)
      exact this
  · cases fe
theorem dt_gnin (hm : X.mg x = some (.ref d)) (D : GTab X.K X.w d tab) (ha : DE X a f) (hg : Gl X x := by rfl) (hb : behindInMarks .NotIn (.Name x p) = false := by rfl) (hd : (x == ("__debug__" : Str)) = false := by decide) : DT X (.Compare a [.NotIn] [.Name x p] pos) (tst (c1 (dninG tab) f)) := by
  obtain ⟨es, n, kd⟩ := D.kd
  refine pt_imp (pt_cmpR (op_notIn_kd kd) ha (pe_glob (v := .ref d) hg hm rfl hd) hb) (tst_read fun σ H Q ⟨B, F0, F, e, r, ok, fe, q⟩ => ?_)
  obtain ⟨v, hv, fe⟩ := bind1 fe
  refine ⟨B, F0, F, e, v, ok, hv, fun v1 F1 H1 g1 d1 => ?_⟩
  unfold dninG at fe
  split at fe
  · rename_i z
    cases fe
    rcases D.at_ z with ⟨y, t, h1, h2⟩ | ⟨h1, h2⟩
    · refine ⟨z, _, dp_str d1, rfl, h2, ?_⟩
      have := q (.bl false) F1 H1 g1 (by rw [h1]; exact .bl false)
      exact this
    · refine ⟨z, _, dp_str d1, rfl, h2, ?_⟩
      have := q (.bl true) F1 H1 g1 (by rw [h1]; exact .bl true)
      exact this
  · cases fe
theorem ix_kd {es : Array DictEntry} {n : Nat} (kd : KDict X.K X.w d es n) : IxR X (fun x y H Q => ∃ (z : Str) (u0 : Value) (v0 : V), x = .ref d ∧ y = .str z ∧ PySem.W.nsIn X.K d z = some (some u0) ∧ RelV v0 u0 ∧ Q v0 H) := by
  intro value slice pins s σ H x y v u Q I rx ry h hs
  have h' := h
  obtain ⟨z, u0, v0, rfl, rfl, e, r, q⟩ := h'
  cases rx
  exact tail_any (ops := [.ref d, u]) (kd_type kd I) PySem.F.slot_dict_getitem.lookup (op_item_kd kd pins s σ H (.ref d) (.str z) (.ref d) u Q I rfl ry h) hs
theorem de_gdix {r : Nat} (hm : X.mg x = some (.ref d)) (D : GTab X.K X.w d tab) (hr : Room r X.A) (hb : DE X b f) (hg : Gl X x := by rfl) (hs : PlainIx b := by exact fun _ _ => rfl) (hd : (x == ("__debug__" : Str)) = false := by decide) : DE X (.Subscript (.Name x p) b pos) (c1 (dixG tab) f) := by
  obtain ⟨es, n, kd⟩ := D.kd
  refine pe_imp (pe_ix (ix_kd kd) (pe_glob (v := .ref d) hg hm rfl hd) hb hs) fun σ H Q ⟨B, F0, F, e, r, ok, fe, q⟩ => ?_
  obtain ⟨v, hv, fe⟩ := bind1 fe
  refine ⟨B, F0, F, e, v, ok, hv, fun v1 F1 H1 g1 d1 => ?_⟩
  unfold dixG at fe
  split at fe
  · rename_i z
    obtain ⟨y', hy', rfl⟩ := Option.map_eq_some_iff.mp fe
    rcases D.at_ z with ⟨y, t, h1, h2⟩ | ⟨h1, h2⟩
    · rw [h1] at hy'
      have ey := Option.some.inj hy'
      subst ey
      exact ⟨z, _, .str y, rfl, dp_str d1, h2, ⟨t, rfl⟩, q _ F1 H1 g1 (.str y)⟩
    · rw [h1] at hy'
      cases hy'
  · cases fe
theorem pe_kget2 {o i e : Expr} {es : Array DictEntry} {n : Nat} {ty tx : TE} (kd : KDict X.K X.w d es n) (ho : PE X o (tC (.ref d))) (hi : PE X i ty) (he : PE X e tx) (m : M2 X o "get" apos i e pos) :
    PE X (.Call (.Attribute o "get" apos) [i, e] [] pos) (fun σ H Q => ty σ H fun y H1 => tx σ H1 fun z H2 => ∃ k v0, y = .str k ∧ ((∃ u0, PySem.W.nsIn X.K d k = some (some u0) ∧ RelV v0 u0) ∨ (PySem.W.nsIn X.K d k = some none ∧ v0 = z)) ∧ Q v0 H2) := by
  refine ⟨fun pins s σ H Q I h => ?_⟩
  refine wpAny_Call_method m.base m.few m.line PySem.F.plainAttrs_dict PySem.F.slot_dict_get PySem.F.type_dict_get (thn (ho.run pins s σ H (fun v H' => v = .ref d ∧ H' = H) I ⟨rfl, rfl⟩) fun u s1 ⟨x, H1, I1, rx, ex, eh⟩ => ?_)
  subst ex eh
  obtain rfl : u = Value.ref d := rx
  refine ⟨kd_type kd I1, fun b q => ?_, ?_⟩
  · cases q
    exact ⟨_, I1.kIn _ _ kd.at_, rfl⟩
  rw [m.trees]
  refine Calls.callWith_builtin rfl (Calls.evalArgs_plain (Calls.spliced_cons (thn (hi.run pins s1 σ H1 _ I1 h) fun iv s2 ⟨y, H2, I2, ry, q2⟩ =>
    Calls.spliced_cons (thn (he.run pins s2 σ H2 _ I2 q2) fun fv s3 ⟨z, H3, I3, rz, k, v0, ey, hk, q3⟩ => Calls.spliced_nil ?_))))
  subst ey
  obtain ⟨t, rfl⟩ := ry
  refine call_meetsIn PySem.F.slot_dict_get (kd_type kd I3) PySem.F.entry_dict_get (PySem.F.args_dict_get_3 _ _ _) (meets_dict_get_default (PySem.strKind X.prog X.w) d (PySem.strKind_is X.prog X.w k t) kd.low fv) ⟨_, PySem.W.mapOf_K (prog := X.prog) I3.kIn kd.at_ kd.lit, ?_⟩
  rcases hk with ⟨u0, h1, h2⟩ | ⟨h1, h2⟩
  · rw [PySem.W.find_K kd.at_ h1]
    exact ⟨v0, H3, I3.tok _, h2, q3⟩
  · rw [PySem.W.find_K kd.at_ h1]
    subst h2
    exact ⟨v0, H3, I3.tok _, rz, q3⟩
theorem de_gget {i e : Expr} {r : Nat} (hm : X.mg x = some (.ref d)) (D : GTab X.K X.w d tab) (hr : Room r X.A) (hi : DE X i f) (he : DE X e g) (hg : Gl X x := by rfl) (m : M2 X (.Name x p) "get" apos i e pos := by exact ⟨rfl, rfl, rfl, rfl⟩) (hd : (x == ("__debug__" : Str)) = false := by decide) : DE X (.Call (.Attribute (.Name x p) "get" apos) [i, e] [] pos) (c2 (dgetG tab) f g) := by
  obtain ⟨es, n, kd⟩ := D.kd
  refine pe_imp (pe_kget2 kd (pe_glob (v := .ref d) hg hm rfl hd) hi he m) fun σ H Q ⟨B, F0, F, e, r, ok, fe, q⟩ => ?_
  obtain ⟨u, y, hu, hy, fe⟩ := bind2 fe
  refine ⟨B, F0, F, e, u, ok, hu, fun v1 F1 H1 g1 d1 => ⟨B, F0, F1, e, y, ok.grow g1, hy, fun v2 F2 H2 g2 d2 => ?_⟩⟩
  unfold dgetG at fe
  split at fe
  · rename_i z
    cases fe
    rcases D.at_ z with ⟨w, t, h1, h2⟩ | ⟨h1, h2⟩
    · refine ⟨z, .str w, dp_str d1, .inl ⟨_, h2, ⟨t, rfl⟩⟩, q _ F2 H2 (g1.trans g2) ?_⟩
      rw [h1]
      exact .str w
    · refine ⟨z, v2, dp_str d1, .inr ⟨h2, rfl⟩, q _ F2 H2 (g1.trans g2) ?_⟩
      rw [h1]
      exact d2
  · cases fe
end
section
variable {tab : TabS} {z : Str} {x : D}
@[simp] theorem e_dinG : dinG tab (.str z) = some (.bool (lookT tab z).isSome) := (rfl)
@[simp] theorem e_dninG : dninG tab (.str z) = some (.bool (!(lookT tab z).isSome)) := (rfl)
@[simp] theorem e_dixG : dixG tab (.str z) = (lookT tab z).map PyData.str := (rfl)
@[simp] theorem e_dgetG : dgetG tab (.str z) x = some (match lookT tab z with
    | some y => .str y
    | none => x) := (rfl)
end
end DL

/-! DLay13: texts joined. -/
namespace DL
open PySem PySem.Spec PyProof.Rows L2 Evl
def jnOk (a : Str) (ys : List Str) : Bool := Nat.ble ((ys.map (·.length)).sum + ys.length * a.length) 16777216
def joinD (s d : D) : Option D := match s, d with
  | .str a, .list xs => (asStrs xs).bind fun ys => if jnOk a ys = true then some (.str (Txt.join a ys)) else none
  | .str a, .tuple xs => (asStrs xs).bind fun ys => if jnOk a ys = true then some (.str (Txt.join a ys)) else none
  | _, _ => none
section
variable {X : Cx} {o e : Expr} {f g : FE} {apos pos : Pos}
theorem de_join (ho : DE X o f) (he : DR X e g) (hs : starEach [e] X.env = [(false, eval e X.env)] := by rfl) (hbase : attributeBase o "join" X.env (eval o X.env) = eval o X.env := by rfl) (hline : (apos.endLine == pos.line) = true := by rfl) :
    DE X (.Call (.Attribute o "join" apos) [e] [] pos) (c2 joinD f g) :=
  pe_imp (pe_join ho he hs hbase hline) fun σ H Q ⟨B, F0, F, e, d, ok, fe, q⟩ => by
  obtain ⟨x, y, hx, hy, fe⟩ := bind2 fe
  unfold joinD at fe
  split at fe
  · obtain ⟨ys, hys, fe⟩ := bind1 fe
    split at fe
    · rename_i hz
      cases fe
      refine ⟨B, F0, F, e, _, ok, hx, fun v1 F1 H1 g1 d1 => ⟨⟨_, dp_str d1⟩, B, F0, F1, e, _, ok.grow g1, hy, fun v2 F2 H2 g2 r2 => ?_⟩⟩
      obtain ⟨p, vs, rfl, h1, h2⟩ := r2.lst g2.fh
      rw [asStrs_of hys] at h2
      have := dpa_map_str h2
      subst this
      exact ⟨_, p, ys, dp_str d1, rfl, .inl h1, Nat.le_of_ble_eq_true hz, q _ F2 H2 (g1.trans g2) (.str _)⟩
    · cases fe
  · obtain ⟨ys, hys, fe⟩ := bind1 fe
    split at fe
    · rename_i hz
      cases fe
      refine ⟨B, F0, F, e, _, ok, hx, fun v1 F1 H1 g1 d1 => ⟨⟨_, dp_str d1⟩, B, F0, F1, e, _, ok.grow g1, hy, fun v2 F2 H2 g2 r2 => ?_⟩⟩
      obtain ⟨p, vs, rfl, h1, h2⟩ := r2.tup g2.fh
      rw [asStrs_of hys] at h2
      have := dpa_map_str h2
      subst this
      exact ⟨_, p, ys, dp_str d1, rfl, .inr h1, Nat.le_of_ble_eq_true hz, q _ F2 H2 (g1.trans g2) (.str _)⟩
    · cases fe
  · cases fe
end
end DL

/-! DLay14: how long a while goes on. -/
namespace DL
open PySem L2
def muI (i : Nat) (e : DEnv) : Nat := match e[i]? with
  | some (some (.sh (.int n))) => n.natAbs + 1
  | _ => 1
def muL (i : Nat) (e : DEnv) : Nat := match e[i]? with
  | some (some (.ow xs)) => xs.length + 1
  | some (some (.sh (.list xs))) => xs.length + 1
  | _ => 1
@[simp] theorem e_sIns {i : Nat} {f g : FE} {e : DEnv} : sIns i g f e = (g e).bind fun k => (f e).bind fun d => (owAt i e).bind fun xs => match k with
  | .int n => if sml (xs.length + 1) = true ∧ 0 ≤ n ∧ n < 2 ^ 63 then some (.nx (e.set i (some (.ow (xs.take n.toNat ++ [d] ++ xs.drop n.toNat))))) else none
  | _ => none := (rfl)
@[simp] theorem e_sPar {i j : Nat} {f : FA} {e : DEnv} : sPar i j f e = (f e).bind fun ds => match ds with
  | [v, w] => some (.nx ((e.set i (some (.sh v))).set j (some (.sh w))))
  | _ => none := (rfl)
def nextFl (r : Option Fl) (k : DEnv → Option Fl) : Option Fl := r.bind fun r => match r with
  | .nx e2 => k e2
  | .ct e2 => k e2
  | .bk e2 => some (.nx e2)
  | .rt v => some (.rt v)
@[simp] theorem e_nnx {e : DEnv} {k : DEnv → Option Fl} : nextFl (some (.nx e)) k = k e := (rfl)
@[simp] theorem e_nct {e : DEnv} {k : DEnv → Option Fl} : nextFl (some (.ct e)) k = k e := (rfl)
@[simp] theorem e_nbk {e : DEnv} {k : DEnv → Option Fl} : nextFl (some (.bk e)) k = some (.nx e) := (rfl)
@[simp] theorem e_nrt {d : D} {k : DEnv → Option Fl} : nextFl (some (.rt d)) k = some (.rt d) := (rfl)
theorem forD_n {b : BD} {body : FS} {e : DEnv} : forD b body [] e = some (.nx e) := (rfl)
theorem forD_c {b : BD} {body : FS} {d : D} {ds : List D} {e : DEnv} : forD b body (d :: ds) e = (b d e).bind fun e1 => nextFl (body e1) (forD b body ds) := (rfl)
theorem whileD_c {c : FB} {body : FS} {n : Nat} {e : DEnv} : whileD c body (n + 1) e = (c e).bind fun k => if k = true then nextFl (body e) (whileD c body n) else some (.nx e) := (rfl)
@[simp] theorem e_absI {i : Int} : absD (.int i) = some (.int (if i < 0 then -i else i)) := (rfl)
end DL

/-! DLay15: sorted, of pairs of texts. -/
namespace DL
open PySem PySem.Spec PyProof.Rows L2 Evl

/-! ### the order, and sorting by it -/
def kp (p : Str × Str) : List (Int ⊕ List Nat) := [.inr p.1.cps.toList, .inr p.2.cps.toList]
def ltP2 (p q : Str × Str) : Bool := (listOrd itemOrd).blt (kp p) (kp q)
theorem kp_inj {p q : Str × Str} (h : kp p = kp q) : p = q := by
  obtain ⟨⟨⟨a⟩⟩, ⟨⟨b⟩⟩⟩ := p
  obtain ⟨⟨⟨c⟩⟩, ⟨⟨d⟩⟩⟩ := q
  simp only [kp, List.cons.injEq, Sum.inr.injEq, and_true] at h
  obtain ⟨h1, h2⟩ := h
  subst h1 h2
  rfl
theorem ltP2_irr (p : Str × Str) : ltP2 p p = false := (listOrd itemOrd).irrefl _
theorem ltP2_tot {p q : Str × Str} (h : ltP2 p q = false) (h' : ltP2 q p = false) : p = q := kp_inj ((listOrd itemOrd).total _ _ h h')
theorem ltP2_asym {p q : Str × Str} (h : ltP2 p q = true) : ltP2 q p = false := by
  cases hq : ltP2 q p
  · rfl
  · have := (listOrd itemOrd).trans _ _ _ h hq
    rw [(listOrd itemOrd).irrefl] at this
    cases this
theorem ltP2_le_trans {p q r : Str × Str} (h : ltP2 q p = false) (h' : ltP2 r q = false) : ltP2 r p = false := by
  cases hq : ltP2 r p
  · rfl
  · rcases (listOrd itemOrd).negTrans _ (kp q) _ hq with z | z
    · have z' : ltP2 r q = true := z
      rw [h'] at z'; cases z'
    · have z' : ltP2 q p = true := z
      rw [h] at z'; cases z'
def insP (p : Str × Str) : List (Str × Str) → List (Str × Str)
  | [] => [p]
  | q :: qs => if ltP2 q p = true then q :: insP p qs else p :: q :: qs
def srtP (ps : List (Str × Str)) : List (Str × Str) := ps.foldr insP []
/-- in order -/
def Srd (ps : List (Str × Str)) : Prop := ps.Pairwise fun a b => ltP2 b a = false
theorem insP_perm (p : Str × Str) : ∀ qs : List (Str × Str), (insP p qs).Perm (p :: qs)
  | [] => .refl _
  | q :: qs => by
    unfold insP
    split
    · exact ((insP_perm p qs).cons q).trans (.swap p q qs)
    · exact .refl _
theorem srtP_perm : ∀ ps : List (Str × Str), (srtP ps).Perm ps
  | [] => .refl _
  | p :: ps => (insP_perm p (srtP ps)).trans ((srtP_perm ps).cons p)
theorem insP_srd (p : Str × Str) : ∀ {qs : List (Str × Str)}, Srd qs → Srd (insP p qs)
  | [], _ => List.pairwise_singleton ..
  | q :: qs, h => by
    unfold Srd at h ⊢
    rw [List.pairwise_cons] at h
    unfold insP
    split
    · rename_i hc
      refine List.pairwise_cons.mpr ⟨fun r hr => ?_, insP_srd p h.2⟩
      rcases List.mem_cons.mp ((insP_perm p qs).mem_iff.mp hr) with rfl | hr
      · exact ltP2_asym hc
      · exact h.1 r hr
    · rename_i hc
      have hc' : ltP2 q p = false := by simpa using hc
      refine List.pairwise_cons.mpr ⟨fun r hr => ?_, List.pairwise_cons.mpr h⟩
      rcases List.mem_cons.mp hr with rfl | hr
      · exact hc'
      · exact ltP2_le_trans hc' (h.1 r hr)
theorem srtP_srd : ∀ ps : List (Str × Str), Srd (srtP ps)
  | [] => List.Pairwise.nil
  | p :: ps => insP_srd p (srtP_srd ps)
theorem srd_uniq : ∀ {ps qs : List (Str × Str)}, ps.Perm qs → Srd ps → Srd qs → ps = qs
  | [], qs, h, _, _ => (List.nil_perm.mp h).symm
  | p :: ps, [], h, _, _ => absurd (List.perm_nil.mp h) (by simp)
  | p :: ps, q :: qs, h, hp, hq => by
    unfold Srd at hp hq
    rw [List.pairwise_cons] at hp hq
    have e : p = q := by
      have h1 : q ∈ p :: ps := h.mem_iff.mpr List.mem_cons_self
      have h2 : p ∈ q :: qs := h.mem_iff.mp List.mem_cons_self
      rcases List.mem_cons.mp h1 with e | h1
      · exact e.symm
      · rcases List.mem_cons.mp h2 with e | h2
        · exact e
        · exact ltP2_tot (hq.1 p h2) (hp.1 q h1)
    subst e
    rw [srd_uniq (List.perm_cons p |>.mp h) hp.2 hq.2]
theorem srtP_congr {ps qs : List (Str × Str)} (h : ps.Perm qs) : srtP ps = srtP qs := srd_uniq ((srtP_perm ps).trans (h.trans (srtP_perm qs).symm)) (srtP_srd ps) (srtP_srd qs)

/-! ### as data -/
def p2D (p : Str × Str) : D := .tuple [.str p.1, .str p.2]
def asP2 : List D → Option (List (Str × Str))
  | [] => some []
  | .tuple [.str a, .str b] :: r => (asP2 r).map ((a, b) :: ·)
  | _ :: _ => none
theorem asP2_map : ∀ ps : List (Str × Str), asP2 (ps.map p2D) = some ps
  | [] => rfl
  | p :: ps => by
    show (asP2 (ps.map p2D)).map _ = _
    rw [asP2_map ps]
    rfl
theorem asP2_of {ds : List D} {ps : List (Str × Str)} (h : asP2 ds = some ps) : ds = ps.map p2D := by
  induction ds generalizing ps with
  | nil => cases h; rfl
  | cons d ds ih =>
    unfold asP2 at h
    split at h
    · rename_i e
      cases e
    · rename_i e
      obtain ⟨rfl, rfl⟩ := List.cons.inj e
      obtain ⟨qs, hq, rfl⟩ := Option.map_eq_some_iff.mp h
      rw [ih hq]
      rfl
    · cases h
def srtD : D → Option (List D)
  | .list xs => (asP2 xs).bind fun ps => if sml ps.length = true then some ((srtP ps).map p2D) else none
  | _ => none
def srtA (f : FE) : FA := fun e => (f e).bind srtD
@[simp] theorem e_srtA {f : FE} {e : DEnv} : srtA f e = (f e).bind srtD := (rfl)
theorem srtD_ok {ps : List (Str × Str)} (h : ps.length ≤ 100000) : srtD (.list (ps.map p2D)) = some ((srtP ps).map p2D) := by
  show (asP2 (ps.map p2D)).bind _ = _
  rw [asP2_map]
  simp only [Option.bind_some]
  rw [if_pos (sml_of h)]

/-! ### the rule -/
section
variable {X : Cx} {e : Expr} {f : FE} {p pos : Pos}
def rSort2 (K : PySem.W.Frag) : List V → Hp → VK → Prop := fun vs H Q => ∃ (a : Addr) (xs : List V) (ps : List (Str × Str)), vs = [V.ref a] ∧ SqL K H a xs ∧ xs.length = ps.length ∧ (∀ z ∈ xs.zip ps, ∃ t, z.1 = V.ref t ∧ SqT K H t [.str z.2.1, .str z.2.2]) ∧
  ∀ ys qs p, (ys.zip qs).Perm (xs.zip ps) → ys.length = qs.length → Srd qs → H p = none → Q (.ref p) (upd H p (.lst ys))
def decK : Option (List (Int ⊕ List Nat)) → Str × Str
  | some [.inr a, .inr b] => (⟨a.toArray⟩, ⟨b.toArray⟩)
  | _ => (⟨#[]⟩, ⟨#[]⟩)
theorem decK_kp (p : Str × Str) : decK (some (kp p)) = p := by
  obtain ⟨⟨a⟩, ⟨b⟩⟩ := p
  simp [kp, decK]
theorem tups_of {h : Heap} : ∀ {vs : List Value}, (∀ v ∈ vs, ∃ (a : Addr) (o : Obj) (x y : Str) (t1 t2 : Tok) (n : Nat), v = .ref a ∧ h.get? a = some o ∧ o.cls = .type "tuple" ∧ o.data = .seq #[.str x t1, .str y t2] n) → ∃ fs, TupsOf h (fun _ => true) vs fs
  | [], _ => ⟨[], .nil⟩
  | v :: vs, hv => by
    obtain ⟨fs, hf⟩ := tups_of fun u hu => hv u (List.mem_cons_of_mem _ hu)
    obtain ⟨a, o, x, y, t1, t2, n, rfl, ho, hc, hd⟩ := hv v List.mem_cons_self
    exact ⟨_, .cons ⟨a, o, _, n, rfl, ho, hc, hd, rfl, (fun z => by cases z), fun _ => ⟨x, t1, rfl⟩⟩ hf⟩
theorem key_of {h : Heap} {a : Addr} {o : Obj} {x y : Str} {t1 t2 : Tok} {n : Nat} (ho : h.get? a = some o) (hc : o.cls = .type "tuple") (hd : o.data = .seq #[.str x t1, .str y t2] n) : G.tupKeyC h (fun _ => true) (.ref a) = some (kp (x, y)) := by
  have h1 : G.isTupObj h (.ref a) = true := by
    show (match h.get? a with
      | some o => (match o.cls with | .type n => n == "tuple" | _ => false)
      | none => false) = true
    rw [ho]
    simp only [hc]
    decide
  unfold G.tupKeyC
  rw [if_pos h1]
  show (match h.get? a with
    | some o => match o.data with
      | .seq xs _ => tupItems (fun _ => true) 0 xs.toList
      | _ => none
    | none => none) = _
  rw [ho]
  simp only [hd]
  rfl
theorem zip_mem_of {α β : Type} : ∀ {xs : List α} {ys : List β}, xs.length = ys.length → ∀ x ∈ xs, ∃ y, (x, y) ∈ xs.zip ys
  | [], _, _, x, h => by simp at h
  | _ :: _, [], hl, _, _ => by simp at hl
  | x :: xs, y :: ys, hl, z, h => by
    rcases List.mem_cons.mp h with rfl | h
    · exact ⟨y, List.mem_cons_self⟩
    · obtain ⟨y', h'⟩ := zip_mem_of (xs := xs) (ys := ys) (by simpa using hl) z h
      exact ⟨y', List.mem_cons_of_mem _ h'⟩
theorem zip_map_eq {α β : Type} (k : α → β) : ∀ {xs : List α} {ys : List β}, xs.length = ys.length → (∀ z ∈ xs.zip ys, k z.1 = z.2) → ys = xs.map k
  | [], [], _, _ => rfl
  | [], _ :: _, hl, _ => by simp at hl
  | _ :: _, [], hl, _ => by simp at hl
  | x :: xs, y :: ys, hl, h => by
    have h1 := h (x, y) List.mem_cons_self
    rw [List.map_cons, ← zip_map_eq k (by simpa using hl) fun z hz => h z (List.mem_cons_of_mem _ hz)]
    rw [show k x = y from h1]
theorem cr_sort2 : CallR X (.builtin "sorted") (rSort2 X.K) := by
  intro pins s σ H vs us Q I r h
  obtain ⟨a, xs, ps, rfl, hs, hlen, hx, q⟩ := h
  obtain ⟨its, rv, hl, hz⟩ := I.list hs
  obtain ⟨u, rfl, ru⟩ := vals1 r
  obtain rfl : u = Value.ref a := ru
  obtain ⟨e1, e2⟩ := refs_back rv fun x m => by
    obtain ⟨p, hp⟩ := zip_mem_of hlen x m
    obtain ⟨t, e, _⟩ := hx _ hp
    exact ⟨t, e⟩
  have hil : its.length = ps.length := by rw [← rv.length]; exact hlen
  have ht : ∀ z ∈ its.zip ps, ∃ (a : Addr) (o : Obj) (t1 t2 : Tok) (n : Nat), z.1 = .ref a ∧ s.heap.get? a = some o ∧ o.cls = .type "tuple" ∧ o.data = .seq #[.str z.2.1 t1, .str z.2.2 t2] n := fun z hz' => by
    have hm : (backV z.1, z.2) ∈ xs.zip ps := by
      rw [e1, List.zip_map_left]
      exact List.mem_map.mpr ⟨z, hz', rfl⟩
    obtain ⟨t, e, hT⟩ := hx _ hm
    obtain ⟨t', et⟩ := e2 z.1 (List.of_mem_zip hz').1
    rw [et] at e
    have e : t' = t := by
      have : V.ref t' = V.ref t := e
      cases this; rfl
    subst e
    obtain ⟨its2, r2, ⟨o, ho, hc, n, hd⟩, _⟩ := I.tuple hT
    obtain ⟨u1, u2, rfl, ri, rj⟩ := vals2 r2
    obtain ⟨t1, rfl⟩ := ri
    obtain ⟨t2, rfl⟩ := rj
    exact ⟨t', o, t1, t2, n, et, ho, hc, hd⟩
  have hkz : ∀ z ∈ its.zip ps, G.tupKeyC s.heap (fun _ => true) z.1 = some (kp z.2) := fun z hz' => by
    obtain ⟨a, o, t1, t2, n, e, ho, hc, hd⟩ := ht z hz'
    rw [e]
    exact key_of ho hc hd
  obtain ⟨kv, hkv⟩ : ∃ kv : Value → Str × Str, kv = fun v => decK (G.tupKeyC s.heap (fun _ => true) v) := ⟨_, rfl⟩
  have hps : ps = its.map kv := zip_map_eq kv hil fun z hz' => by
    subst hkv
    show decK (G.tupKeyC s.heap (fun _ => true) z.1) = z.2
    rw [hkz z hz', decK_kp]
  have hkey : ∀ v ∈ its, G.tupKeyC s.heap (fun _ => true) v = some (kp (kv v)) := fun v hv => by
    obtain ⟨p, hp⟩ := zip_mem_of hil v hv
    have := hkz _ hp
    subst hkv
    show G.tupKeyC s.heap (fun _ => true) v = some (kp (decK (G.tupKeyC s.heap (fun _ => true) v)))
    rw [show G.tupKeyC s.heap (fun _ => true) v = some (kp p) from this, decK_kp]
  obtain ⟨fs, hfs⟩ := tups_of (h := s.heap) (vs := its) fun v hv => by
    obtain ⟨p, hp⟩ := zip_mem_of hil v hv
    obtain ⟨a, o, t1, t2, n, e, ho, hc, hd⟩ := ht _ hp
    exact ⟨a, o, _, _, t1, t2, n, e, ho, hc, hd⟩
  refine G.sorted_tups hl.isList hfs (fun v hv => ⟨_, hkey v hv⟩) (by rw [← rv.length]; exact hz) fun st' p1 p2 _ => ?_
  obtain ⟨arr, ha⟩ : ∃ arr, arrOf st' = arr := ⟨_, rfl⟩
  rw [ha] at p1 p2 ⊢
  have hself : ∀ z ∈ arr.toList, z.1 = z.2 ∧ z.2 ∈ its := fun z hz' => by
    have : z ∈ (pairsOf its).toList := p1.toList.mem_iff.mp hz'
    rw [pairsOf_toList] at this
    obtain ⟨e, hm⟩ := mem_zip_self this
    exact ⟨e, e ▸ hm⟩
  have hperm : (arr.map (·.2)).toList.Perm its := by
    have h1 := p1.toList.map (fun z : Keyed => z.2)
    rw [pairsOf_toList] at h1
    have h2 : (its.zip its).map (fun z : Keyed => z.2) = its := List.map_snd_zip (Nat.le_refl _)
    have h3 : (arr.map (·.2)).toList = arr.toList.map (fun z : Keyed => z.2) := by simp
    rw [h3]
    rw [h2] at h1
    exact h1
  have h3 : ∀ u ∈ (arr.map (·.2)).toList, ∃ a, u = Value.ref a := fun u hu => e2 u (hperm.mem_iff.mp hu)
  have hz2 : ∀ l : List Value, (l.map backV).zip (l.map kv) = l.map fun u => (backV u, kv u) := fun l => by
    induction l with
    | nil => rfl
    | cons u l ih => simp only [List.map_cons, List.zip_cons_cons, ih]
  obtain ⟨n, hn⟩ := sortedAll_at s.heap its (arr.map (·.2))
  refine ⟨.ref (s.heap.objs.size + 1), upd H (s.heap.objs.size + 1) (.lst ((arr.map (·.2)).toList.map backV)), I.laid (t' := s.toks) (fun _ _ => sortedAll_old) (Nat.le_succ _) ⟨?_, (arr.map (·.2)).toList, n, vals_back h3, by rw [Array.toArray_toList]; exact hn⟩, rfl, q _ ((arr.map (·.2)).toList.map kv) _ ?_ (by rw [List.length_map, List.length_map]) ?_ (I.hok.fresh (Nat.le_succ _))⟩
  · rw [List.length_map, hperm.length_eq, ← rv.length]; exact hz
  · rw [e1, hps, hz2, hz2]
    exact hperm.map _
  · have hsz : (pairsOf its).size = arr.size := by
      have := p1.toList.length_eq
      simp only [Array.length_toList] at this
      exact this.symm
    unfold Srd
    rw [List.pairwise_iff_getElem]
    intro i j hi hj hij
    simp only [List.length_map, Array.length_toList, Array.size_map] at hi hj
    have kk : ∀ (i : Nat) (hi : i < arr.size), KK (G.tupKindC s.heap fun _ => true) arr i = kp (kv arr[i].2) := fun i hi => by
      have hm : arr[i] ∈ arr.toList := by simp
      obtain ⟨z1, z2⟩ := hself _ hm
      unfold KK
      rw [Array.getElem?_eq_getElem hi]
      simp only
      show (G.tupKeyC s.heap (fun _ => true) arr[i].1).getD [] = _
      rw [z1, hkey _ z2]
      rfl
    have := p2 i j (Nat.le_of_lt hij) (by rw [hsz]; exact hj)
    rw [kk i hi, kk j hj] at this
    simp only [List.getElem_map, Array.getElem_toList, Array.getElem_map]
    exact this
theorem dpa_zip {K : PySem.W.Frag} {F : Hp} : ∀ {vs : List V} {ps : List (Str × Str)}, DpAll K F vs (ps.map p2D) → vs.length = ps.length ∧ ∀ z ∈ vs.zip ps, Dp K F z.1 (p2D z.2)
  | _, [], .nil => ⟨rfl, fun z hz => by simp at hz⟩
  | _, p :: ps, .cons h hs => by
    obtain ⟨h1, h2⟩ := dpa_zip hs
    refine ⟨by simp [h1], fun z hz => ?_⟩
    rcases List.mem_cons.mp hz with rfl | hz
    · exact h
    · exact h2 z hz
theorem zip_dpa {K : PySem.W.Frag} {F : Hp} : ∀ {vs : List V} {ps : List (Str × Str)}, vs.length = ps.length → (∀ z ∈ vs.zip ps, Dp K F z.1 (p2D z.2)) → DpAll K F vs (ps.map p2D)
  | [], [], _, _ => .nil
  | [], _ :: _, hl, _ => by simp at hl
  | _ :: _, [], hl, _ => by simp at hl
  | v :: vs, p :: ps, hl, h => .cons (h (v, p) List.mem_cons_self) (zip_dpa (by simpa using hl) fun z hz => h z (List.mem_cons_of_mem _ hz))
theorem dn_sorted (hm : X.mg "sorted" = none) (h : DR X e f) (hg : Gl X "sorted" := by rfl) (hs : starEach [e] X.env = (false, eval e X.env) :: starEach [] X.env := by rfl) : DN X (.Call (.Name "sorted" p) [e] [] pos) (srtA f) :=
  pe_imp (pe_callB cr_sort2 hg hm (by decide +kernel) (pa_cons h pa_nil hs) (by decide) (by decide) hs rfl) fun σ H Q ⟨B, F0, F, e, xs, ok, fe, q⟩ => by
  obtain ⟨d, hd, fe⟩ := bind1 fe
  refine ⟨B, F0, F, e, d, ok, hd, fun v F' H' g dp => ?_⟩
  unfold srtD at fe
  split at fe
  · obtain ⟨ps, hps, fe⟩ := bind1 fe
    split at fe
    · cases fe
      obtain ⟨a, vs, rfl, h1, h2⟩ := dp.lst g.fh
      rw [asP2_of hps] at h2
      obtain ⟨hl, hz⟩ := dpa_zip h2
      refine ⟨a, vs, ps, rfl, h1, hl, fun z hz' => ?_, fun ys qs l hp hlq hsr hl' => ?_⟩
      · obtain ⟨t, us, e, s1, s2⟩ := dp_tup (hz z hz')
        cases s2 with
        | cons q1 s2 =>
          cases s2 with
          | cons q2 s2 =>
            cases s2
            rw [dp_str q1, dp_str q2] at s1
            exact ⟨t, e, ex_t g.fh s1⟩
      · have hpq : qs.Perm ps := by
          have := hp.map Prod.snd
          rwa [List.map_snd_zip (by omega), List.map_snd_zip (by omega)] at this
        have hq : qs = srtP ps := srd_uniq (hpq.trans (srtP_perm ps).symm) hsr (srtP_srd ps)
        have hd2 : DpAll X.K F' ys (qs.map p2D) := zip_dpa hlq fun z hz' => hz z (hp.mem_iff.mp hz')
        rw [hq] at hd2
        exact q l ys F' _ (g.trans (Gr.loose g.fh hl')) (g.fb hl') (fresh_back g.fh hl') upd_same hd2
    · cases fe
  · cases fe
/-! ### list + list, a list of one's own -/
def catD : D → D → Option (List D)
  | .list a, .list b => if sml (a.length + b.length) = true then some (a ++ b) else none
  | _, _ => none
def catA (f g : FE) : FA := fun e => (f e).bind fun x => (g e).bind fun y => catD x y
@[simp] theorem e_catA {f g : FE} {e : DEnv} : catA f g e = (f e).bind fun x => (g e).bind fun y => catD x y := (rfl)
theorem catD_ok {xs ys : List D} (h : xs.length + ys.length ≤ 100000) : catD (.list xs) (.list ys) = some (xs ++ ys) := if_pos (sml_of h)
theorem dn_cat {a b : Expr} {g : FE} (ha : DR X a f) (hb : DR X b g) : DN X (.BinOp a .Add b pos) (catA f g) := pe_imp (pe_op op_catL ha hb) fun σ H Q ⟨B, F0, F, e, xs, ok, fe, q⟩ => by
  obtain ⟨x, y, hx, hy, fe⟩ := bind2 fe
  refine ⟨B, F0, F, e, x, ok, hx, fun v F1 H1 g1 r1 => ⟨B, F0, F1, e, y, ok.grow g1, hy, fun u F2 H2 g2 r2 => ?_⟩⟩
  unfold catD at fe
  split at fe
  · split at fe
    · rename_i hz
      cases fe
      obtain ⟨p, vs, rfl, s1, d1⟩ := (r1.grow g2).lst g2.fh
      obtain ⟨p2, us, rfl, s2, d2⟩ := r2.lst g2.fh
      have l1 := dpa_len d1
      have l2 := dpa_len d2
      have hbl := big_line
      have hz := sml_le hz
      exact ⟨p, p2, vs, us, rfl, rfl, s1, s2, by omega, fun l hl => q l _ F2 _ ((g1.trans g2).trans (Gr.loose g2.fh hl)) ((g1.trans g2).fb hl) (fresh_back g2.fh hl) upd_same (dpa_append d1 d2)⟩
    · cases fe
  · cases fe
end
end DL

/-! the set of many texts -/
namespace TX
open PySem PySem.Spec PyProof.Rows
/-- the texts met so far, each once -/
def addT (σ : List Str) (x : Str) : List Str := if σ.any (· == x) = true then σ else σ ++ [x]
def metT (xs : List Str) : List Str := xs.foldl addT []
theorem metT_snoc (xs : List Str) (x : Str) : metT (xs ++ [x]) = addT (metT xs) x := by unfold metT; rw [List.foldl_append]; rfl
theorem addT_len (σ : List Str) (x : Str) : (addT σ x).length = if σ.any (· == x) = true then σ.length else σ.length + 1 := by
  unfold addT
  split
  · rfl
  · rw [List.length_append]; rfl
theorem addT_any (σ : List Str) (x k : Str) : (addT σ x).any (· == k) = (σ.any (· == k) || decide (k = x)) := by
  unfold addT
  by_cases h : σ.any (· == x) = true
  · rw [if_pos h]
    by_cases e : k = x
    · rw [e, h, Bool.true_or]
    · rw [decide_eq_false e, Bool.or_false]
  · rw [if_neg h, List.any_append]
    congr 1
    show ((x == k) || false) = decide (k = x)
    rw [Bool.or_false]
    by_cases e : k = x
    · rw [decide_eq_true e, e]; exact beq_self_eq_true x
    · rw [decide_eq_false e]; exact beq_eq_false_iff_ne.mpr fun q => e q.symm
theorem metT_le : ∀ (n : Nat) (xs : List Str), (metT (xs.take n)).length ≤ n
  | 0, xs => by rw [List.take_zero]; exact Nat.le_refl _
  | n + 1, xs => by
    have ih := metT_le n xs
    rcases Nat.lt_or_ge n xs.length with h | h
    · rw [List.take_succ_eq_append_getElem h, metT_snoc, addT_len]
      split <;> omega
    · rw [List.take_of_length_le (by omega)]
      rw [List.take_of_length_le h] at ih
      omega
section
variable {prog : Program} {w : World} {A : Around} {R : Result → Shared → Prop} {I : Addr} {fp wr : List Addr} {G : Array GenState → Array GenState → Prop} {n : Nat} {P : Nat → Value → Prop} {St : Nat → Shared → Prop}
/-- a set takes texts one by one -/
theorem take_texts (W : WalksS prog w A.in1 I fp wr G n P St) (S : Addr) (hSf : S ∉ fp) (xs : List Str) (hsz : xs.length = n) (hb : n + 1 < scanBound)
    (hval : ∀ i v, P i v → ∃ t, v = .str (xs.getD i Str.empty) t) :
    ∀ (k i : Nat) (s : Shared), n - i = k → i ≤ n → St i s →
      s.heap.SetOf (PySem.strKind prog w) S (fun q => (metT (xs.take i)).any (· == q)) (metT (xs.take i)).length →
      (∀ s', Moved (S :: wr) G s s' → s'.heap.SetOf (PySem.strKind prog w) S (fun q => (metT xs).any (· == q)) (metT xs).length → R (.ok (.ret .none)) s') →
      codeAny (model prog w) A (.builtin "set.update.loop" ⟨[.ref S, .ref I], []⟩) R s := by
  have notW : S ∉ wr := fun q => hSf (W.sub _ q)
  have keeps : ∀ {s s' : Shared} {T : Str → Bool} {m : Nat}, Moved wr G s s' → s.heap.SetOf (PySem.strKind prog w) S T m → s'.heap.SetOf (PySem.strKind prog w) S T m := fun {s s' T m} mv q => by
    obtain ⟨o, es, ep, tb, ho, q⟩ := q
    exact ⟨o, es, ep, tb, mv.heap S _ notW ho, q⟩
  intro k
  induction k with
  | zero =>
    intro i s hk hi hst hS hR
    have e : i = n := by omega
    subst e
    rw [List.take_of_length_le (by omega)] at hS
    refine codeAny_builtin PyProof.Rows.F.entry_set_update_loop ?_
    rw [Around.under_plainId PyProof.Rows.F.plain_set_update_loop _]
    show wpAny _ A.in1 (pyNext (.ref I) >>= _) _ _ s
    refine wpAny_bind (W.done s _ _ hst fun s' mv => ?_)
    show wpAny _ A.in1 (ret Value.none) _ _ s'
    exact wpAny_pure (hR s' (mv.mono fun b q => List.mem_cons_of_mem _ q) (keeps mv hS))
  | succ k ih =>
    intro i s hk hi hst hS hR
    have lt : i < n := by omega
    refine codeAny_builtin PyProof.Rows.F.entry_set_update_loop ?_
    rw [Around.under_plainId PyProof.Rows.F.plain_set_update_loop _]
    show wpAny _ A.in1 (pyNext (.ref I) >>= _) _ _ s
    refine wpAny_bind (W.item i s _ _ lt hst fun v s' hP hst' mv => ?_)
    obtain ⟨t, rfl⟩ := hval i v hP
    have hS' := keeps mv hS
    show wpAny _ A.in1 (holding [Value.str (xs.getD i Str.empty) t] (setAdd S (.str (xs.getD i Str.empty) t)) >>= _) _ _ s'
    refine wpAny_bind (wpAny_holding ?_)
    unfold setAdd
    refine wpAny_holding ?_
    refine wpAny_bind ((PySem.strKind prog w).pyHash (k := xs.getD i Str.empty) (strKind_is _ _ _ _) ?_)
    have room := metT_le i xs
    refine wpAny_setAddHashed_of (knd := PySem.strKind prog w) (s := { s' with toks := s'.toks + 1 }) (strKind_is _ _ _ _) rfl hS' (by omega) fun h' sb hS2 => ?_
    have e1 : xs.take (i + 1) = xs.take i ++ [xs.getD i Str.empty] := by
      rw [List.take_succ_eq_append_getElem (by omega), List.getD_eq_getElem?_getD, List.getElem?_eq_getElem (by omega)]
      rfl
    have hSi : h'.SetOf (PySem.strKind prog w) S (fun q => (metT (xs.take (i + 1))).any (· == q)) (metT (xs.take (i + 1))).length :=
      SetOf_congr hS2 (fun q => by rw [e1, metT_snoc, addT_any]) (by rw [e1, metT_snoc, addT_len])
    refine wpAny_pure ⟨plainId_quiet PyProof.Rows.F.plain_set_update_loop _, ih (i + 1) _ (by omega) lt (W.frame _ s' _ _ hst' (Nat.le_succ _) fun b hb' o e => ?_) hSi fun s'' mv2 hS'' => ?_⟩
    · rw [sb.2 b (fun q : b = S => hSf (q ▸ hb'))]; exact e
    · refine hR s'' (Moved.trans W.gtrans ((mv.mono fun b q => List.mem_cons_of_mem _ q).then_heap (Nat.le_succ _) fun b o hb' e => ?_) mv2) hS''
      rw [sb.2 b (fun q : b = S => hb' (q ▸ List.mem_cons_self))]; exact e
end
section
variable {prog : Program} {w : World} {A : Around} {E : Value → Shared → Prop} {s : Shared}
abbrev fresh (led : Bool) : Obj := { cls := .type "set", dict := none, data := .set #[] 0 (.fresh 0 0 led) }
/-- what a call of set leaves: a set of the texts, and all that was -/
def Left (prog : Program) (w : World) (s : Shared) (xs : List Str) (s2 : Shared) : Prop := ∃ h' tk, s2 = { s with heap := h', toks := tk } ∧
  h'.SetOf (PySem.strKind prog w) s.heap.objs.size (fun q => (metT xs).any (· == q)) (metT xs).length ∧ ∀ b o, b < s.heap.objs.size → s.heap.get? b = some o → h'.get? b = some o
theorem left_of {led : Bool} {it : Obj} {xs : List Str} {s' : Shared} {G : Array GenState → Array GenState → Prop} (hG : ∀ {a b}, G a b → b = a)
    (mv : Moved [s.heap.objs.size, (s.heap.push (fresh led)).objs.size] G { s with heap := (s.heap.push (fresh led)).push it } s')
    (hS : s'.heap.SetOf (PySem.strKind prog w) s.heap.objs.size (fun q => (metT xs).any (· == q)) (metT xs).length) : Left prog w s xs s' := by
  obtain ⟨h', g', d', tk', os'⟩ := s'
  have eg : g' = s.gens := hG mv.gens
  have ed : d' = s.drawn := mv.drawn
  have eo : os' = s.os := mv.os
  subst eg; subst ed; subst eo
  refine ⟨h', tk', rfl, hS, fun b o hb e => mv.heap b o ?_ (Heap.get?_push_of_some _ (Heap.get?_push_of_some _ e))⟩
  rw [Heap.size_push]
  simp only [List.mem_cons, List.not_mem_nil, or_false, not_or]
  exact ⟨Nat.ne_of_lt hb, Nat.ne_of_lt (Nat.lt_succ_of_lt hb)⟩
theorem set_texts {l : Addr} {items : Array Value} {xs : List Str} {Q : Value → Shared → Prop} (hh : A.handled = none) (hl : s.heap.IsList l items ∨ s.heap.IsTuple l items) (hi : StrsAre items.toList xs) (hb : xs.length + 1 < scanBound)
    (h : ∀ s2, Left prog w s xs s2 → Q (.ref s.heap.objs.size) s2) : wpAny (model prog w) A (call (.type "set") [.ref l]) Q E s := by
  obtain ⟨c, tl, hmro⟩ := PySem.F.called_set.mro
  have hmade := PySem.F.called_set.made
  have hsub := PySem.F.called_set.sub
  refine wpAny_call (codeAny_of_tree ?_)
  show wpAny _ _ (callAny (.type "set") _) _ _ _
  refine wpAny_pure ⟨Code.quiet_builtin _ (by decide +kernel), codeAny_builtin PySem.F.entry_type_call ?_⟩
  rw [Around.under_plain (weight_type_call_type "set" [.ref l] []) rfl]
  have h1 := PySem.F.called_set.notType
  have h2 := PySem.F.called_set.canCreate
  have hct := PySem.F.typeCall_set_1 (.ref l)
  repeat (any_goals (first | assumption | wp_step))
  refine codeAny_mono (code_set_new_1 (.ref l) (E := E) (Q₁ := fun obj s₁ => ∃ led : Bool, obj = .ref s.heap.objs.size ∧ s₁ = { s with heap := s.heap.push (fresh led) }) fun led => ⟨led, rfl, rfl⟩) fun r s₁ hr => ?_
  cases r with
  | error e => exact hr
  | ok fl =>
    cases fl with
    | ret obj =>
      obtain ⟨led, rfl, rfl⟩ := hr
      have hS : (s.heap.push (fresh led)).get? s.heap.objs.size = some (fresh led) := Heap.get?_push_size _ rfl
      have hT : Shared.TypeIs { s with heap := s.heap.push (fresh led) } (.ref s.heap.objs.size) "set" := ⟨_, hS, rfl⟩
      have hli := PySem.F.called_set.init.lookup
      have hbi := PySem.F.called_set.init.bind (.ref s.heap.objs.size)
      repeat (any_goals (first | assumption | wp_step))
      have hsz : xs.length = items.size := by rw [← StrsAre.len_eq hi, Array.length_toList]
      have hval : ∀ (i : Nat) (v : Value), items[i]? = some v → ∃ t, v = .str (xs.getD i Str.empty) t := fun i v hv => SS.strs_at hi i v (by rw [Array.getElem?_toList]; exact hv)
      have hh3 : A.in1.in1.in1.handled = none := by simp [hh]
      have fr : ∀ it : Obj, ((s.heap.push (fresh led)).push it).SetOf (PySem.strKind prog w) s.heap.objs.size (fun q => (metT (xs.take 0)).any (· == q)) (metT (xs.take 0)).length := fun it =>
        SetOf_congr ((setObjOf_fresh (knd := PySem.strKind prog w) led).setOf (Heap.get?_push_of_some _ hS) (by unfold scanBound; omega)) (fun _ => rfl) rfl
      refine codeAny_mono (codeAny_call_builtin (R := wants (fun r s₂ => r = .none ∧ Left prog w s xs s₂) E) PySem.F.called_set.init.plain PySem.F.entry_set_init (check_set_init_1 hT ?_)) fun r₂ s₂ hr₂ => ?_
      · rcases hl with hl | hl
        · obtain ⟨⟨ocls, odict, odata, oslots⟩, hol, hcl, nl, hdl⟩ := hl
          simp only at hcl hdl
          subst hcl; subst hdl
          have hlS : l < s.heap.objs.size := Heap.lt_size hol
          have hol' : (s.heap.push (fresh led)).get? l = some { cls := .type "list", dict := odict, data := .seq items nl, slots := oslots } := Heap.get?_push_of_some _ hol
          have hsls := PySem.F.sub_list_set
          have hslf := PySem.F.sub_list_frozenset
          have hne : (Value.type "list" == Value.type "dict") = false := by decide
          have hl1 : (s.heap.push (fresh led)).IsList l items := ⟨_, hol', rfl, nl, rfl⟩
          have apart : l ≠ (s.heap.push (fresh led)).objs.size := by
            rw [Heap.size_push]; exact Nat.ne_of_lt (Nat.lt_succ_of_lt hlS)
          have outs : s.heap.objs.size ∉ [(s.heap.push (fresh led)).objs.size, l] := by
            rw [Heap.size_push]; simp only [List.mem_cons, List.not_mem_nil, or_false, not_or]
            exact ⟨Nat.ne_of_lt (Nat.lt_succ_self _), Nat.ne_of_gt hlS⟩
          unfold Builtin.«set.__init__» noKeywords Builtin.Frozenset.updateFrom
          generalize hPI : pyIter = PI
          wp_walk
          subst hPI
          refine wpAny_pyIter_list hl1 (wpAny_bind (wpAny_runValue ?_))
          refine take_texts ((Walks.list hh3 _ l apart items).toS) s.heap.objs.size outs xs hsz (by omega) hval (items.size - 0) 0 _ (by omega) (Nat.zero_le _) ⟨⟨_, Heap.get?_push_size _ rfl, rfl, rfl⟩, (hl1.push _)⟩ (fr _) fun s' mv hS' => ?_
          show wpAny _ _ _ _ _ _
          refine wpAny_pure ?_
          show wpAny _ _ (ret Value.none) _ _ _
          exact wpAny_pure ⟨rfl, left_of (fun q => q) mv hS'⟩
        · obtain ⟨⟨ocls, odict, odata, oslots⟩, hol, hcl, nl, hdl⟩ := hl
          simp only at hcl hdl
          subst hcl; subst hdl
          have hlS : l < s.heap.objs.size := Heap.lt_size hol
          have hol' : (s.heap.push (fresh led)).get? l = some { cls := .type "tuple", dict := odict, data := .seq items nl, slots := oslots } := Heap.get?_push_of_some _ hol
          have hsls := PySem.F.sub_tuple_set
          have hslf := PySem.F.sub_tuple_frozenset
          have hne : (Value.type "tuple" == Value.type "dict") = false := by decide
          have hl1 : (s.heap.push (fresh led)).IsTuple l items := ⟨_, hol', rfl, nl, rfl⟩
          have apart : l ≠ (s.heap.push (fresh led)).objs.size := by
            rw [Heap.size_push]; exact Nat.ne_of_lt (Nat.lt_succ_of_lt hlS)
          have outs : s.heap.objs.size ∉ [(s.heap.push (fresh led)).objs.size, l] := by
            rw [Heap.size_push]; simp only [List.mem_cons, List.not_mem_nil, or_false, not_or]
            exact ⟨Nat.ne_of_lt (Nat.lt_succ_self _), Nat.ne_of_gt hlS⟩
          unfold Builtin.«set.__init__» noKeywords Builtin.Frozenset.updateFrom
          generalize hPI : pyIter = PI
          wp_walk
          subst hPI
          refine wpAny_pyIter_tuple hl1 (wpAny_bind (wpAny_runValue ?_))
          refine take_texts ((Walks.tuple hh3 _ l apart items).toS) s.heap.objs.size outs xs hsz (by omega) hval (items.size - 0) 0 _ (by omega) (Nat.zero_le _) ⟨⟨_, Heap.get?_push_size _ rfl, rfl, rfl⟩, (hl1.push _)⟩ (fr _) fun s' mv hS' => ?_
          show wpAny _ _ _ _ _ _
          refine wpAny_pure ?_
          show wpAny _ _ (ret Value.none) _ _ _
          exact wpAny_pure ⟨rfl, left_of (fun q => q) mv hS'⟩
      · cases r₂ with
        | error e => exact hr₂
        | ok fl₂ =>
          cases fl₂ with
          | ret r =>
            obtain ⟨rfl, hr₂⟩ := hr₂
            obtain ⟨h', tk, rfl, hS', hk'⟩ := hr₂
            repeat (any_goals (first | assumption | wp_step))
            exact h _ ⟨h', tk, rfl, hS', hk'⟩
          | _ => exact hr₂.elim
    | _ => exact hr.elim
end
end TX

/-! len(set(texts)) -/
namespace L2
open PySem PySem.Spec PyProof.Rows
section
variable {X : Cx}
def tLenS (K : PySem.W.Frag) (ta : TE) : TE := fun σ H Q => ta σ H fun x H1 => ∃ l, ∃ xs : List Str, x = .ref l ∧ (SqL K H1 l (xs.map V.str) ∨ SqT K H1 l (xs.map V.str)) ∧ xs.length + 1 < scanBound ∧ Q (.int (TX.metT xs).length) H1
theorem pe_lenS {a : Expr} {ta : TE} {p p2 q pos : Pos} (hc : X.calm = true) (hg : Gl X "len") (hm : X.mg "len" = none) (hg2 : Gl X "set") (hm2 : X.mg "set" = none) (ha : PE X a ta)
    (na : starEach [a] X.env = (false, eval a X.env) :: starEach [] X.env := by rfl) : PE X (.Call (.Name "len" p) [.Call (.Name "set" p2) [a] [] q] [] pos) (tLenS X.K ta) := by
  refine ⟨fun pins s σ H Q I h => ?_⟩
  refine Call_ (ld_blt I hg hm boot_len ?_)
  refine callWith_builtin1 (args_cons ?_ rfl) rfl rfl
  refine Call_ (ld_blt I hg2 hm2 boot_set ?_)
  refine callWith_type1 (args_cons (thn (ha.run pins s σ H _ I h) fun v s1 ⟨x, H1, I1, r1, q1⟩ => args_nil ?_) na) na rfl
  obtain ⟨l, xs, rfl, hq, h1, q1⟩ := q1
  cases r1
  have fin : ∀ s2, TX.Left X.prog X.w s1 xs s2 → wpAny (model X.prog X.w) X.A (spliced (backTo pos (starEach [] X.env))) (fun vs s₂ => wpAny (model X.prog X.w) X.A (call (.builtin "len") (Value.ref s1.heap.objs.size :: vs)) (EP X pins σ Q) X.xe s₂) X.xe s2 := fun s2 hs2 => by
    obtain ⟨h', tk, rfl, hS, hk⟩ := hs2
    have le := TX.metT_le xs.length xs
    rw [List.take_of_length_le (Nat.le_refl _)] at le
    obtain ⟨o, es, ep, t, ho, hex, hd, _, _, hbd, hf, hn⟩ := hS
    have I2 : Inv X pins σ H1 { s1 with heap := h', toks := tk } := I1.kept fun b o e => hk b o (Heap.lt_size e) e
    refine args_nil (call_len_set ho hex hd hf (by unfold scanBound at hbd; omega) ⟨.int (TX.metT xs).length, H1, I2.tok _, ⟨_, by rw [hn]⟩, q1⟩)
  rcases hq with hq | hq
  · obtain ⟨its, r, pl, hz⟩ := I1.list hq
    exact TX.set_texts (I1.ok.hd hc) (.inl pl.isList) (by simpa using strsAre_of r) h1 fin
  · obtain ⟨its, r, pl, hz⟩ := I1.tuple hq
    exact TX.set_texts (I1.ok.hd hc) (.inr pl) (by simpa using strsAre_of r) h1 fin
end
end L2
namespace DL
open PySem PySem.Spec PyProof.Rows L2 Evl
def stOk (ys : List Str) : Bool := Nat.ble ys.length 4000
def lensetD (d : D) : Option D := match d with
  | .list xs => (asStrs xs).bind fun ys => if stOk ys = true then some (.int (TX.metT ys).length) else none
  | .tuple xs => (asStrs xs).bind fun ys => if stOk ys = true then some (.int (TX.metT ys).length) else none
  | _ => none
section
variable {X : Cx} {a : Expr} {f : FE} {p p2 q pos : Pos}
theorem de_lenset (hc : X.calm = true) (hm : X.mg "len" = none) (hm2 : X.mg "set" = none) (h : DR X a f) (hg : Gl X "len" := by rfl) (hg2 : Gl X "set" := by rfl) (na : starEach [a] X.env = (false, eval a X.env) :: starEach [] X.env := by rfl) :
    DE X (.Call (.Name "len" p) [.Call (.Name "set" p2) [a] [] q] [] pos) (c1 lensetD f) :=
  pe_imp (pe_lenS hc hg hm hg2 hm2 h na) fun σ H Q ⟨B, F0, F, e, d, ok, fe, q⟩ => by
  obtain ⟨x, hx, fe⟩ := bind1 fe
  refine ⟨B, F0, F, e, x, ok, hx, fun v F1 H1 g1 r1 => ?_⟩
  unfold lensetD at fe
  split at fe
  · obtain ⟨ys, hys, fe⟩ := bind1 fe
    split at fe
    · rename_i hz
      cases fe
      obtain ⟨l, vs, rfl, h1, h2⟩ := r1.lst g1.fh
      rw [asStrs_of hys] at h2
      have := dpa_map_str h2
      subst this
      exact ⟨l, ys, rfl, .inl h1, by have := Nat.le_of_ble_eq_true hz; unfold scanBound; omega, q _ F1 H1 g1 (.int _)⟩
    · cases fe
  · obtain ⟨ys, hys, fe⟩ := bind1 fe
    split at fe
    · rename_i hz
      cases fe
      obtain ⟨l, vs, rfl, h1, h2⟩ := r1.tup g1.fh
      rw [asStrs_of hys] at h2
      have := dpa_map_str h2
      subst this
      exact ⟨l, ys, rfl, .inr h1, by have := Nat.le_of_ble_eq_true hz; unfold scanBound; omega, q _ F1 H1 g1 (.int _)⟩
    · cases fe
  · cases fe
theorem e_lensetT {ys : List Str} (h : ys.length ≤ 4000) : lensetD (.tuple (ys.map PyData.str)) = some (.int (TX.metT ys).length) := by
  unfold lensetD
  simp only
  rw [asStrs_map]
  exact if_pos (Nat.ble_eq_true_of_le h)
theorem e_lensetL {ys : List Str} (h : ys.length ≤ 4000) : lensetD (.list (ys.map PyData.str)) = some (.int (TX.metT ys).length) := by
  unfold lensetD
  simp only
  rw [asStrs_map]
  exact if_pos (Nat.ble_eq_true_of_le h)
end
end DL

/-! DLay18: dict(list of pairs) -/
namespace DL
open PySem PySem.Spec PyProof.Rows L2 Evl
def asKvs : List D → Option (List (Key × D))
  | [] => some []
  | .tuple [k, v] :: ds => (asKey k).bind fun kk => (asKvs ds).map ((kk, v) :: ·)
  | _ :: _ => none
def dictPD : D → Option D
  | .list ds => (asKvs ds).map fun kds => .dict (mergeKD [] kds)
  | _ => none
theorem asKvs_dpa {K : PySem.W.Frag} {F H : Hp} (xf : Ex F H) : ∀ {ds : List D} {kds : List (Key × D)} {vs : List V}, asKvs ds = some kds → DpAll K F vs ds →
    ∃ (ps : List Addr) (kvs : List (Key × V)), vs = ps.map V.ref ∧ Paired (fun p kv => SqT K H p [kV kv.1, kv.2]) ps kvs ∧ KvD K F kvs kds
  | [], _, _, h, .nil => by
    cases h
    exact ⟨[], [], rfl, .nil, .nil⟩
  | d :: ds, kds, _, h, .cons hd hs => by
    unfold asKvs at h
    split at h
    · cases ‹_ :: _ = []›
    · rename_i k v ds' e
      cases e
      obtain ⟨kk, hk, h⟩ := bind1 h
      obtain ⟨r, hr, rfl⟩ := Option.map_eq_some_iff.mp h
      obtain ⟨ps, kvs, rfl, h2, h3⟩ := asKvs_dpa xf hr hs
      obtain ⟨a, us, rfl, hS, hA⟩ := dp_tup hd
      cases hA with
      | cons h4 hA =>
        cases hA with
        | cons h5 hA =>
          cases hA
          rw [dp_key h4 hk] at hS
          exact ⟨a :: ps, (kk, _) :: kvs, rfl, .cons (ex_t xf hS) h2, .cons h5 h3⟩
    · cases h
def rDictP (K : PySem.W.Frag) : List V → Hp → VK → Prop := fun xs H Q => ∃ (a : Addr) (ps : List Addr) (kvs : List (Key × V)), xs = [.ref a] ∧ SqL K H a (ps.map V.ref) ∧ Paired (fun p kv => SqT K H p [kV kv.1, kv.2]) ps kvs ∧
    ∀ p, H p = none → Q (.ref p) (upd H p (.dK (mergeK [] kvs)))
theorem cd_dictP {K : PySem.W.Frag} : CD1 K (rDictP K) dictPD := by
  intro F H x a d Q xf ha hg q
  unfold dictPD at hg
  split at hg
  · obtain ⟨kds, hk, rfl⟩ := Option.map_eq_some_iff.mp hg
    obtain ⟨l, vs, rfl, h1, h2⟩ := ha.lst xf
    obtain ⟨ps, kvs, rfl, h3, h4⟩ := asKvs_dpa xf hk h2
    refine ⟨l, ps, kvs, rfl, h1, h3, fun p hp => ?_⟩
    have g := Gr.new (o := .dK (mergeK [] kvs)) xf hp
    exact q _ _ _ g (.dic (.inl upd_same) (dpk_mono g.ff (dpk_merge h4 .nil)))
  · cases hg
section
variable {X : Cx} {e : Expr} {f : FE} {p pos : Pos}
theorem de_dictP (hc : X.calm = true) (hm : X.mg "dict" = none) (h : DR X e f) (hg : Gl X "dict" := by rfl) (hs : starEach [e] X.env = (false, eval e X.env) :: starEach [] X.env := by rfl) : DE X (.Call (.Name "dict" p) [e] [] pos) (c1 dictPD f) :=
  de_t1 (call_dictP hc) cd_dictP (by rfl) hm h hg (by decide) (by decide) hs
end
theorem asKvs_map (ps : List (Key × D)) : asKvs (ps.map fun p => .tuple [keyD p.1, p.2]) = some ps := by
  induction ps with
  | nil => rfl
  | cons p ps ih =>
    rw [List.map_cons]
    show (asKey (keyD p.1)).bind (fun kk => (asKvs (ps.map fun p => .tuple [keyD p.1, p.2])).map ((kk, p.2) :: ·)) = _
    rw [asKey_keyD, ih]
    rfl
/-- what is stored last counts -/
theorem look_put (ds : List (D × D)) (k j : Key) (d : D) : lookK (putKD ds k d) j = if j = k then some d else lookK ds j := by
  have key : ∀ ds : List (D × D), lookK (ds.map (fun p => if asKey p.1 = some k then (p.1, d) else p)) j = (lookK ds j).map fun x => if j = k then d else x := by
    intro ds
    induction ds with
    | nil => rfl
    | cons p ds ih =>
      unfold lookK at ih ⊢
      rw [List.map_cons, List.find?_cons, List.find?_cons]
      by_cases h1 : asKey p.1 = some k
      · rw [if_pos h1]
        by_cases h2 : asKey p.1 = some j
        · have e : j = k := by rw [h1] at h2; exact (Option.some.inj h2).symm
          simp only [h2, decide_true, e, if_true, Option.map_some]
        · simp only [h2, decide_false]
          exact ih
      · rw [if_neg h1]
        by_cases h2 : asKey p.1 = some j
        · have e : ¬ j = k := fun q => h1 (by rw [h2, q])
          simp only [h2, decide_true, e, if_false, Option.map_some]
        · simp only [h2, decide_false]
          exact ih
  have none_of : ∀ ds : List (D × D), (ds.any fun p => decide (asKey p.1 = some k)) = false → lookK ds k = none := by
    intro ds h
    unfold lookK
    rw [List.find?_eq_none.mpr fun p hp => ?_]
    · rfl
    · have := List.any_eq_false.mp h p hp
      simpa using this
  unfold putKD
  split
  · rename_i h
    rw [key]
    by_cases e : j = k
    · subst e
      rw [if_pos rfl]
      have : ∃ x, lookK ds j = some x := by
        obtain ⟨p, hp, hk⟩ := List.any_eq_true.mp h
        unfold lookK
        cases hf : ds.find? fun p => decide (asKey p.1 = some j) with
        | none =>
          have := List.find?_eq_none.mp hf p hp
          exact absurd hk this
        | some q => exact ⟨_, rfl⟩
      obtain ⟨x, hx⟩ := this
      rw [hx]
      simp
    · rw [if_neg e]
      simp only [if_neg e]
      cases lookK ds j <;> rfl
  · rename_i h
    have h' : (ds.any fun p => decide (asKey p.1 = some k)) = false := by simpa using h
    unfold lookK
    rw [List.find?_append]
    by_cases e : j = k
    · subst e
      rw [if_pos rfl]
      have := none_of ds h'
      unfold lookK at this
      rw [Option.map_eq_none_iff.mp this]
      simp [List.find?_cons, asKey_keyD]
    · rw [if_neg e]
      have e2 : ¬ k = j := fun q => e q.symm
      simp only [List.find?_cons, asKey_keyD, Option.some.injEq, e2, decide_false, List.find?_nil, Option.or_none]
theorem look_merge : ∀ (kds : List (Key × D)) (ds : List (D × D)) (j : Key), (kds.map (·.1)).Nodup → lookK (mergeKD ds kds) j = ((kds.find? fun p => decide (p.1 = j)).map (·.2)).or (lookK ds j)
  | [], ds, j, _ => rfl
  | (k, d) :: kds, ds, j, h => by
    rw [List.map_cons, List.nodup_cons] at h
    show lookK (mergeKD (putKD ds k d) kds) j = _
    rw [look_merge kds _ j h.2, look_put, List.find?_cons]
    by_cases e : k = j
    · subst e
      simp only [decide_true, if_true, Option.map_some, Option.some_or]
      have : kds.find? (fun p => decide (p.1 = k)) = none := List.find?_eq_none.mpr fun p hp q => h.1 (List.mem_map.mpr ⟨p, hp, of_decide_eq_true q⟩)
      rw [this]
      rfl
    · have e2 : ¬ j = k := fun q => e q.symm
      simp only [e, e2, decide_false, if_false]
theorem look_merge_mem {kds : List (Key × D)} {k : Key} {d : D} (h : (kds.map (·.1)).Nodup) (hm : (k, d) ∈ kds) : lookK (mergeKD [] kds) k = some d := by
  rw [look_merge kds [] k h]
  have : kds.find? (fun p => decide (p.1 = k)) = some (k, d) := by
    induction kds with
    | nil => cases hm
    | cons p kds ih =>
      rw [List.map_cons, List.nodup_cons] at h
      rw [List.find?_cons]
      rcases List.mem_cons.mp hm with e | e
      · rw [← e]
        simp
      · have : ¬ p.1 = k := fun q => h.1 (by rw [q]; exact List.mem_map.mpr ⟨_, e, rfl⟩)
        simp only [this, decide_false]
        exact ih h.2 e
  rw [this]
  rfl
end DL

/-! DLay19: dicts of one's own: made, stored into, updated -/
namespace L2
open PySem PySem.Spec PyProof.Rows
section
variable {X : Cx} {o e : Expr} {apos cpos : Pos} {td ty : TE}
/-- d.update(d2) -/
def tDUpd (td ty : TE) : TE := fun σ H Q => td σ H fun x H1 => ∃ a, x = .ref a ∧ IsD H1 a ∧ ty σ H1 fun y H2 => ∃ b kvs more, y = .ref b ∧ a ≠ b ∧ H2 a = some (.dK kvs) ∧ Rd H2 b (.dK more) ∧ kvs.length + more.length ≤ sizeLine ∧ Q .non (upd H2 a (.dK (mergeK kvs more)))
theorem pe_dupd (ho : PE X o td) (he : PE X e ty) (m : M1 X o "update" apos e cpos) : PE X (.Call (.Attribute o "update" apos) [e] [] cpos) (tDUpd td ty) := by
  refine ⟨fun pins s σ H Q I h => ?_⟩
  refine wpAny_Call_method m.base m.few m.line PySem.F.plainAttrs_dict PySem.F.slot_dict_update PySem.F.type_dict_update (thn (ho.run pins s σ H _ I h) fun u s1 ⟨x, H1, I1, rx, a, ex, d, q1⟩ => ?_)
  subst ex
  obtain rfl : u = Value.ref a := rx
  obtain ⟨t1, t2, _⟩ := isD_at I1 d
  refine ⟨t1, t2, ?_⟩
  rw [m.trees]
  refine Calls.callWith_builtin rfl (Calls.evalArgs_plain (Calls.spliced_cons (thn (he.run pins s1 σ H1 _ I1 q1) fun iv s2 ⟨y, H2, I2, ry, b, kvs, more, ey, hne, ea, eb, hz, q2⟩ => Calls.spliced_nil ?_)))
  subst ey
  obtain rfl : iv = Value.ref b := ry
  obtain ⟨z, hd, vs, rel, dd⟩ := dk_of I2.hok ea
  obtain ⟨z2, hd2, vs2, rel2, dd2⟩ := dk_rd I2.hok eb
  refine call_meetsIn PySem.F.slot_dict_update dd.typeIs PySem.F.entry_dict_update (PySem.F.args_dict_update_2 _ _) (meets_dict_update (mixKind X.prog X.w) a b hne hd2) ⟨vs, vs2, dd, dd2, by rw [← rel.length, ← rel2.length]; exact hz, fun h' dd' _ hs => ?_⟩
  have hl : (mergeK kvs more).length ≤ sizeLine := Nat.le_trans (length_mergeK more kvs) hz
  have he : ∃ q, h'.get? a = some q := let ⟨q, _, _, hq, _⟩ := dd'; ⟨q, hq⟩
  exact ⟨.non, _, d_write (t' := s2.toks) I2 (by rw [ea]; exact True.intro) hs he (dk_new hl hd (KV.merge rel2 rel) dd'), rfl, q2⟩
end
end L2
namespace DL
open PySem PySem.Spec PyProof.Rows L2 Evl
abbrev FD := DEnv → Option (List (D × D))
def TNd (K : PySem.W.Frag) (f : FD) : TE := fun σ H Q => ∃ B F0 F e ds, Ok K B F0 F σ H e ∧ f e = some ds ∧ ∀ a kvs F' H', Gr F H F' H' → H a = none → F' a = none → H' a = some (.dK kvs) → DpKv K F' kvs ds → Q (.ref a) H'
def DNd (X : Cx) (e : Expr) (f : FD) : Prop := PE X e (TNd X.K f)
def newD : FD := fun _ => some []
def dspN (f : FK) : FD := fun e => (f e).bind fun kds => if Nat.ble kds.length 15 = true then some (mergeKD [] kds) else none
def sNewD (i : Nat) (f : FD) : FS := fun e => (f e).map fun ds => .nx (e.set i (some (.od ds)))
def odAt (i : Nat) (e : DEnv) : Option (List (D × D)) := match e[i]? with
  | some (some (.od ds)) => some ds
  | _ => none
def sPut (i : Nat) (g f : FE) : FS := fun e => (f e).bind fun d => (g e).bind fun k => (asKey k).bind fun kk => (odAt i e).bind fun ds => if sml (ds.length + 1) = true then some (.nx (e.set i (some (.od (putKD ds kk d))))) else none
/-- entries of a dict: keys and values -/
def kvsOf : List (D × D) → Option (List (Key × D))
  | [] => some []
  | (k, d) :: ds => (asKey k).bind fun kk => (kvsOf ds).map ((kk, d) :: ·)
def sUpd (i : Nat) (f : FE) : FS := fun e => (f e).bind fun d => match d with
  | .dict es => (kvsOf es).bind fun kes => (odAt i e).bind fun ds => if sml (ds.length + es.length) = true then some (.nx (e.set i (some (.od (mergeKD ds kes))))) else none
  | _ => none
section
variable {X : Cx} {pos : Pos} {e e2 : Expr} {fe fg : FE} {fd : FD} {fr : FK} {ks : List (Option Expr)} {vs : List Expr}
theorem dnd_new : DNd X (.Dict [] [] pos) newD := pe_imp pe_dnewK fun σ H Q ⟨B, F0, F, e, ds, ok, fe, q⟩ p hp => by
  cases fe
  exact q p [] F _ (Gr.loose ok.fh hp) hp (fresh_back ok.fh hp) upd_same .nil
theorem dnd_disp (h : DK X pos ks vs fr) (hall : ks.all (·.isSome) = true := by rfl) (hl : ks.length = vs.length := by rfl) (h0 : ks ≠ [] := by exact fun h => nomatch h) (h15 : ks.length ≤ 15 := by decide) : DNd X (.Dict ks vs pos) (dspN fr) := by
  obtain ⟨trs, h1, h2⟩ := h
  refine pe_imp (pe_disp h1 hall hl h0 h15) fun σ H Q ⟨B, F0, F, e, d, ok, fe, q⟩ p hp => ?_
  obtain ⟨kds, hk, fe⟩ := bind1 fe
  split at fe
  · rename_i hz
    cases fe
    have g0 : Gr F H F (upd H p (.dK [])) := Gr.loose ok.fh hp
    refine h2 _ _ _ ⟨B, F0, F, e, kds, ok.grow g0, hk, fun kvs F' H' g dk => ?_⟩
    have hp' : H' p = some (.dK []) := g.hh _ _ upd_same
    have hf : F' p = none := (g.nf p _ upd_same).trans (fresh_back ok.fh hp)
    refine ⟨hp', kvs, rfl, by rw [kvd_len dk]; exact Nat.le_of_ble_eq_true hz, ?_⟩
    have g1 : Gr F H F' (upd H' p (.dK (mergeK [] kvs))) := (g0.trans g).mut hp hf hp'
    exact q p _ _ _ g1 hp hf upd_same (dpk_merge dk .nil)
  · cases fe
theorem Ok.newD {K : PySem.W.Frag} {B F0 F F' : Hp} {σ : L2.St} {H H' : Hp} {e : DEnv} {i : Nat} {a : Addr} {vs : List (Key × V)} {xs : List (D × D)} (ok : Ok K B F0 F σ H e) (g : Gr F H F' H') (h1 : H a = none) (h2 : F' a = none) (h3 : H' a = some (.dK vs)) (h4 : DpKv K F' vs xs) :
    Ok K B F0 F' (σ.set i (some (.ref a))) H' (e.set i (some (.od xs))) :=
  (ok.grow g).setOd (fun j ys b hj hs _ => by
    obtain ⟨a', vs', s1, t1, _⟩ := ok.od j ys hj
    rw [hs] at s1
    cases s1
    exact ne_of_none t1 h1) h3 (ok.gr.fb h1) h2 h4
theorem ds_newD (i : Nat) {x : Str} {pos' : Pos} (hN : X.N.Nodup) (he : DNd X e fd) (hi : X.N[i]? = some x := by rfl) (hx : Loc X.env.scope x := by first | exact Or.inl rfl | exact Or.inr rfl) (hs : swapsWith e (some (.Name x pos')) pos.line X.env = pure false := by rfl)
    (hf : X.fn x = true ∨ X.env.scope.names.lookup x = some .local := by first | exact .inl rfl | exact .inr rfl | assumption) : DS X (.Assign [.Name x pos'] e pos) (sNewD i fd) := ps_imp (ps_set hN hi hx he hs hf) fun D σ H ⟨B, F0, F, e, r, ok, fr, q⟩ => by
  obtain ⟨d, h, rfl⟩ := Option.map_eq_some_iff.mp fr
  exact ⟨B, F0, F, e, d, ok, h, fun a vs F' H' g h1 h2 h3 h4 => q _ F' H' g.ff (ok.newD g h1 h2 h3 h4)⟩
theorem odAt_some {i : Nat} {e : DEnv} {xs : List (D × D)} (h : odAt i e = some xs) : e[i]? = some (some (.od xs)) := by
  unfold odAt at h
  split at h
  · cases h; assumption
  · cases h
theorem dpk_len {K : PySem.W.Frag} {F : Hp} : ∀ {kvs : List (Key × V)} {ds : List (D × D)}, DpKv K F kvs ds → kvs.length = ds.length
  | _, _, .nil => rfl
  | _, _, .cons _ hs => congrArg (· + 1) (dpk_len hs)
theorem dpk_kvs {K : PySem.W.Frag} {F : Hp} : ∀ {kvs : List (Key × V)} {ds : List (D × D)} {kes : List (Key × D)}, DpKv K F kvs ds → kvsOf ds = some kes → KvD K F kvs kes
  | _, _, _, .nil, h => by cases h; exact .nil
  | _, _, kes, .cons (k := k) h hs, q => by
    unfold kvsOf at q
    rw [asKey_keyD] at q
    obtain ⟨r, hr, rfl⟩ := Option.map_eq_some_iff.mp q
    exact .cons h (dpk_kvs hs hr)
/-- d[k] = e -/
theorem ds_dput (i : Nat) {x : Str} {px ps : Pos} {r : Nat} (hr : Room r X.A) (he2 : DE X e2 fg) (he : DE X e fe) (hi : X.N[i]? = some x := by rfl) (hv : Vis X.env.scope x := by first | exact Or.inl rfl | exact Or.inr (Or.inl rfl) | exact Or.inr (Or.inr rfl)) (hd : (x == ("__debug__" : Str)) = false := by decide)
    (hcd : (x == ("__classdict__" : Str)) = false := by decide) (hs : swapsWith e (some (.Subscript (.Name x px) e2 ps)) pos.line X.env = pure false := by rfl) :
    DS X (.Assign [.Subscript (.Name x px) e2 ps] e pos) (sPut i fg fe) :=
  ps_imp (ps_dput (by have := hr.units; omega) (pe_var hi hv hd hcd) he2 he hs) fun D σ H ⟨B, F0, F, e, r, ok, fr, q⟩ => by
  obtain ⟨d, k, h, hk, fr⟩ := bind2 fr
  obtain ⟨kk, hkk, fr⟩ := bind1 fr
  obtain ⟨xs, hx, fr⟩ := bind1 fr
  split at fr
  · rename_i hz
    cases fr
    have hx := odAt_some hx
    refine ⟨B, F0, F, e, d, ok, h, fun v F' H' g dp => ?_⟩
    obtain ⟨a, kvs, h1, h2, h3, h4, h5⟩ := (ok.grow g).od i xs hx
    refine ⟨.ref a, h1, B, F0, F', e, _, ok.grow g, hk, fun v2 F2 H2 g2 dp2 => ?_⟩
    rw [dp_key dp2 hkk]
    refine ⟨a, _, rfl, DPut.k (g2.hh _ _ h2) ?_, q σ F2 _ (g.trans g2).ff (((ok.grow g).grow g2).mutOd hx h1 (dpk_put kk (dp_mono g2.ff dp) (dpk_mono g2.ff h5)))⟩
    rw [dpk_len h5]
    exact Nat.lt_of_lt_of_le (sml_le hz) big_line
  · cases fr
/-- d.update(e) -/
theorem ds_dupd (i : Nat) {x : Str} {px apos cpos : Pos} (he : DE X e fe) (hi : X.N[i]? = some x := by rfl) (hv : Vis X.env.scope x := by first | exact Or.inl rfl | exact Or.inr (Or.inl rfl) | exact Or.inr (Or.inr rfl)) (hd : (x == ("__debug__" : Str)) = false := by decide)
    (hcd : (x == ("__classdict__" : Str)) = false := by decide) (m : M1 X (.Name x px) "update" apos e cpos := by exact ⟨rfl, rfl, rfl, rfl⟩) (hsw : swapsWith (.Call (.Attribute (.Name x px) "update" apos) [e] [] cpos) none pos.line X.env = pure false := by rfl) :
    DS X (.Expr (.Call (.Attribute (.Name x px) "update" apos) [e] [] cpos) pos) (sUpd i fe) :=
  ps_imp (ps_expr (pe_dupd (pe_var hi hv hd hcd) he m) hsw) fun D σ H ⟨B, F0, F, e, r, ok, fr, q⟩ => by
  obtain ⟨d, h, fr⟩ := bind1 fr
  split at fr
  · rename_i es
    obtain ⟨kes, hke, fr⟩ := bind1 fr
    obtain ⟨xs, hx, fr⟩ := bind1 fr
    split at fr
    · rename_i hz
      cases fr
      have hx := odAt_some hx
      obtain ⟨a, kvs, h1, h2, h3, h4, h5⟩ := ok.od i xs hx
      refine ⟨.ref a, h1, a, rfl, .inl ⟨kvs, .inl h2⟩, B, F0, F, e, _, ok, h, fun v F' H' g dp => ?_⟩
      obtain ⟨b, more, rfl, hR, hD⟩ := dp_dic dp
      have hne : a ≠ b := by
        rintro rfl
        have hf : F' a = none := (g.nf _ _ h2).trans h4
        rcases hR with hR | ⟨o, hR⟩
        · rw [hf] at hR; cases hR
        · rw [hf] at hR; cases hR
      refine ⟨b, kvs, more, rfl, hne, g.hh _ _ h2, rd_mono g.fh hR, ?_, q σ F' _ g.ff ((ok.grow g).mutOd hx h1 (dpk_merge (dpk_kvs hD hke) (dpk_mono g.ff h5)))⟩
      rw [dpk_len h5, dpk_len hD]
      exact Nat.le_trans (sml_le hz) big_line
    · cases fr
  · cases fr
end
section
variable {e : DEnv} {f g : FE} {fd : FD} {fr : FK} {i : Nat}
@[simp] theorem e_newD : newD e = some [] := (rfl)
@[simp] theorem e_dspN : dspN fr e = (fr e).bind fun kds => if Nat.ble kds.length 15 = true then some (mergeKD [] kds) else none := (rfl)
@[simp] theorem e_sNewD : sNewD i fd e = (fd e).map fun ds => .nx (e.set i (some (.od ds))) := (rfl)
@[simp] theorem e_odAt : odAt i e = (match e[i]? with
  | some (some (.od ds)) => some ds
  | _ => none) := (rfl)
@[simp] theorem e_sPut : sPut i g f e = (f e).bind fun d => (g e).bind fun k => (asKey k).bind fun kk => (odAt i e).bind fun ds => if sml (ds.length + 1) = true then some (.nx (e.set i (some (.od (putKD ds kk d))))) else none := (rfl)
def updFl (i : Nat) (e : DEnv) (d : D) : Option Fl := match d with
  | .dict es => (kvsOf es).bind fun kes => (odAt i e).bind fun ds => if sml (ds.length + es.length) = true then some (.nx (e.set i (some (.od (mergeKD ds kes))))) else none
  | _ => none
@[simp] theorem e_sUpd : sUpd i f e = (f e).bind (updFl i e) := (rfl)
@[simp] theorem e_updFl {es : List (D × D)} : updFl i e (.dict es) = (kvsOf es).bind fun kes => (odAt i e).bind fun ds => if sml (ds.length + es.length) = true then some (.nx (e.set i (some (.od (mergeKD ds kes))))) else none := (rfl)
end
end DL

/-! DLay20: a text once -/
namespace DL
open PySem PySem.Spec PyProof.Rows L2 Evl
def mulSD : D → D → Option D
  | .str x, .int n => if n = 1 then some (.str x) else none
  | _, _ => none
section
variable {X : Cx} {a b : Expr} {f g : FE} {pos : Pos}
def rMulS : R2 := fun x y H Q => ∃ i, x = .str i ∧ y = .int 1 ∧ Q (.str i) H
theorem op_mulS : OpR X (binaryOp .Mult) rMulS := by
  intro pins s σ H x y v u Q I rx ry h
  obtain ⟨i, rfl, rfl, q⟩ := h
  obtain ⟨t, rfl⟩ := rx
  obtain ⟨t', rfl⟩ := ry
  have e : Txt.mul i 1 = i := by
    unfold Txt.mul
    rw [if_neg (by decide), if_pos (by simp)]
  refine SB.mul (n := 1) ⟨by decide, fun _ h => by simp at h, fun _ h => by simp at h⟩ fun t2 tk => ?_
  rw [e]
  exact ⟨.str i, H, I.tok _, ⟨t2, rfl⟩, q⟩
theorem od_mulS {K : PySem.W.Frag} : OpD K rMulS mulSD := by
  intro F H x y a b d Q xf ha hb hg q
  unfold mulSD at hg
  split at hg
  · split at hg
    · rename_i hz
      subst hz
      cases hg
      rw [rs_int hb]
      have := rs_flat ha rfl
      rw [dp_str this]
      exact ⟨_, rfl, rfl, q.now xf (.str _)⟩
    · cases hg
  · cases hg
theorem de_mulS (ha : DR X a f) (hb : DR X b g) : DE X (.BinOp a .Mult b pos) (c2 mulSD f g) := de_op op_mulS od_mulS ha hb
end
theorem mulS1 {x : Str} : mulSD (.str x) (.int 1) = some (.str x) := by simp [mulSD]
end DL

/-! DLay24: a list comprehension whose element may raise (out of a call) -/
namespace L2
open PySem PySem.Spec PyProof.Rows
section
variable {X : Cx}
/-- what a call in the element lets out leaves the comprehension's block, then is in the def's air -/
theorem lc_fail {pins : List (Addr × Obj)} {σ : St} {H3 : Hp} {s3 : Shared} {scope : Scope} {ce : Env} {fp : List Addr} {pn : List (Addr × Obj)} {WD : XK} (I3 : Inv X pins σ H3 s3) (cL : ce.locals = s3.heap.objs.size) (cF : ce.frame = X.env.frame)
    (f3 : ∀ b ∈ fp, FpOk X pins H3 b ∧ b < s3.heap.objs.size) (hs : X.stack = X.env :: X.outer) (hf : X.env.frame = some X.env.locals) (tk : Takes X (fun cls d _ H => WD cls d H)) :
    Passes (L2.CX X.prog X.w) ((X.blk s3 H3 scope ce fp).tr pn (notedBy (model X.prog X.w) X.A ce (CompFails (model X.prog X.w) X.A X.xe ce))) WD := by
  intro pins' σ' H' s e s' I' c
  obtain ⟨a, B, H'', cls, d, rfl, fl, hok, ub, na, os, ag, hE⟩ := c
  have fl : HandSPX.FlyingZ B X.stack a (Zc cls d) s'.heap := fl
  have ub : UB (frs X.stack) H' H'' s.heap B s'.heap := ub
  have os : s'.os = s.os := os
  have nC : H' ce.locals = none := I'.free
  obtain ⟨m, hnC, _⟩ := I'.loc
  have hnC : s.heap.Ns ce.locals m := hnC
  have Cfr : ce.locals ∉ frs X.stack := fun z => by
    rcases List.mem_cons.mp (I3.stkSub _ z) with z | z
    · have := I3.lt
      rw [← z, cL] at this
      exact Nat.lt_irrefl _ this
    · rw [cL] at z
      exact I3.nofs (Nat.le_refl _) z
  obtain ⟨oC, es, ep, hoC, hdC, rC⟩ := hnC
  have hBC : B.get? ce.locals = some oC := ub.keep _ _ hoC nC Cfr
  have nC2 : H'' ce.locals = none := ub.free _ _ hoC nC
  have hfr : X.A.frames = some (X.env :: X.outer) := by rw [I3.ok.frames, hs]
  show wpAny _ _ (noteFrame (.ref a) ce) _ _ s'
  rw [noteFrame_env _ cF]
  have fl' := fl
  rw [hs] at fl'
  refine HandSPX.looks_onZ Zc.steady hfr hf fl' fun h1 held up1 => ?_
  refine ⟨m, ⟨oC, es, ep, held.1 _ _ hBC, hdC, rC⟩, fun h2 m2 hn2 sb => ?_⟩
  obtain ⟨k1, k2, k3, oe, vs, T, oT, ts, he, hz, hd, hv1, hnT, hTe, hT, hdT, hv3⟩ := held
  have hC1 : h1.get? ce.locals = some oC := k1 _ _ hBC
  have naC : a ≠ ce.locals := fun z => by
    rw [z, hC1] at he; cases he; rw [hdC] at hd; cases hd
  have nTC : T ≠ ce.locals := fun z => by
    rw [z, hC1] at hT; cases hT; rw [hdC] at hdT; cases hdT
  have sb2 : ∀ b, b ≠ ce.locals → h2.get? b = h1.get? b := sb.2
  -- the ground without the block
  have g0 : ∀ b o, (PySem.W.hideAll B [ce.locals]).get? b = some o → B.get? b = some o := fun b o q => PySem.W.of_hideAll _ q
  have g1 : ∀ b o, (PySem.W.hideAll B [ce.locals]).get? b = some o → b ≠ ce.locals := fun b o q z => by
    rw [z, PySem.W.hideAll_none _ (List.mem_singleton.mpr rfl)] at q; cases q
  have g2 : ∀ b o, B.get? b = some o → b ≠ ce.locals → (PySem.W.hideAll B [ce.locals]).get? b = some o := fun b o q n => PySem.W.hideAll_get _ q fun z => n (List.mem_singleton.mp z)
  have gn : ∀ b, B.get? b = none → (PySem.W.hideAll B [ce.locals]).get? b = none := fun b q => by
    cases e : (PySem.W.hideAll B [ce.locals]).get? b with
    | none => rfl
    | some o => rw [g0 b o e] at q; cases q
  generalize PySem.W.hideAll B [ce.locals] = B2 at g0 g1 g2 gn
  have held2 : HandSPX.HeldZ B2 (X.env :: X.outer) a (Zc cls d) X.env.locals h2 := by
    refine ⟨fun b o q => (sb2 b (g1 b o q)).trans (k1 b o (g0 b o q)), gn _ k2, funFrames_none (Heap.FunFrames.sameBut sb hn2 k3) fun L hL => gn _ ((k3.mem hL).1), oe, vs, T, oT, ts, (sb2 a naC).trans he, hz, hd, hv1, gn _ hnT, hTe, (sb2 T nTC).trans hT, hdT, hv3⟩
  unfold PySem.passOn
  refine wpAny_bind (wpAny_field ((sb2 a naC).trans he) hd hv1 ?_)
  rw [if_neg (show ¬ ((Value.ref T == Value.none) = true) from by simp), cF, hf]
  refine wpAny_bind (HandSPX.setFlight_onZ (s := { s' with heap := h2 }) held2 fun h3 held3 up3 => ?_)
  refine wpAny_throw ?_
  -- the state without the exception
  obtain ⟨G, q1, q2⟩ := restrict h3 fun b => (B2.get? b).isSome || decide (b ∈ frs X.stack)
  have st : B2.StaysIn h3 := held3.1
  have gB : ∀ b o, B2.get? b = some o → G.get? b = some o := fun b o e => by
    rw [q1 b (by simp [e])]
    exact st b o e
  have gF : ∀ b, b ∈ frs X.stack → G.get? b = h3.get? b := fun b hb => q1 b (by simp [hb])
  have og : ∀ b o, G.get? b = some o → h3.get? b = some o ∧ ((B2.get? b).isSome = true ∨ b ∈ frs X.stack) := fun b o e => by
    cases q : ((B2.get? b).isSome || decide (b ∈ frs X.stack)) with
    | false => rw [q2 b q] at e; cases e
    | true =>
      rw [q1 b q] at e
      exact ⟨e, by simpa [Bool.or_eq_true] using q⟩
  have u1 : Un (frs X.stack) fp H3 H' s3.heap s.heap := I'.base
  have ltC : ∀ b o, s3.heap.get? b = some o → b ≠ ce.locals := fun b o e => by rw [cL]; exact Nat.ne_of_lt (Heap.lt_size e)
  -- a frame's object, up to slots
  have frm : ∀ b o, b ∈ frs X.stack → s'.heap.get? b = some o → (∀ vs, o.data ≠ .fields vs) → ∃ sl, G.get? b = some { o with slots := sl } := fun b o hb e hn => by
    obtain ⟨sl, e1⟩ := up1 b o e hn
    have e2 : h2.get? b = some { o with slots := sl } := (sb2 b fun z => Cfr (z ▸ hb)).trans e1
    obtain ⟨sl2, e3⟩ := up3 b _ e2 hn
    exact ⟨sl2, (gF b hb).trans e3⟩
  have isF : ∀ b o, b ∈ frs X.stack → s'.heap.get? b = some o → ∀ vs, o.data ≠ .fields vs := fun b o hb e => by
    obtain ⟨_, o2, e2, hn⟩ := fl.2.2.1.mem hb
    rw [e] at e2; cases e2
    exact hn
  have un : Un (frs X.stack) fp H3 H'' s3.heap G := by
    refine ⟨fun b o e n hb hx => gB b o (g2 b o (ub.keep b o (u1.keep b o e n hb hx) (u1.free b o e n hx) hb) (ltC b o e)), fun b o e n hb hx => ?_, fun b o e n hx => ?_, fun b o e hx => ?_, fun b xs e => ub.tups b xs (u1.tups b xs e), fun b o u e => ub.frzs b o u (u1.frzs b o u e), fun b ps e => ?_⟩
    · obtain ⟨sl, e1⟩ := u1.slot b o e n hb hx
      obtain ⟨sl2, e2⟩ := ub.slot b _ e1 hb
      obtain ⟨sl3, e3⟩ := frm b _ hb e2 (isF b _ hb e2)
      exact ⟨sl3, e3⟩
    · obtain ⟨o', e1⟩ := u1.there b o e hx
      exact ub.free b o' e1 (u1.free b o e n hx)
    · obtain ⟨o', e1⟩ := u1.there b o e hx
      by_cases hb : b ∈ frs X.stack
      · obtain ⟨sl, e2⟩ := ub.slot b o' e1 hb
        obtain ⟨sl2, e3⟩ := frm b _ hb e2 (isF b _ hb e2)
        exact ⟨_, e3⟩
      · obtain ⟨o2, e2⟩ := ub.there b o' e1 hb
        exact ⟨o2, gB b o2 (g2 b o2 e2 (ltC b o e))⟩
    · obtain ⟨m1, e1⟩ := u1.tbls b ps e
      obtain ⟨m2', e2⟩ := ub.tbls b _ e1
      exact ⟨m1 ++ m2', by rw [e2, Array.append_assoc]⟩
  have hokG : HOk X.prog X.w H'' G := fun b o q => (hok b o q).stay (fun b' u hb' e => gB b' u (g2 b' u e fun z => by
    rcases hb' with z' | z'
    · rw [← z', z, nC2] at q; cases q
    · rw [z, nC2] at z'; cases z')) (fun _ r => r) fun _ _ r => r
  have J : Inv X pins σ H'' { s with heap := G, gens := s'.gens, drawn := s'.drawn, toks := s'.toks } := I3.call' (ch := fp) I'.os un hokG ag fun b hb => ⟨(f3 b hb).1.2.2.2.1, (f3 b hb).1.2.1, (f3 b hb).1.2.2.2.2.1, (f3 b hb).1.2.2.2.2.2⟩
  refine tk (.ref a) _ ⟨a, B2, { s with heap := G, gens := s'.gens, drawn := s'.drawn, toks := s'.toks }, pins, σ, H'', cls, d, rfl, J, fun b o e hb => ?_, Heap.UpToSlots.of_keeps fun b o e => (og b o e).1, .inr (.inr (by rw [hs]; exact held3)), na, os, ag, hE⟩
  obtain ⟨e1, h⟩ := og b o e
  rcases h with h | h
  · obtain ⟨o', q⟩ := Option.isSome_iff_exists.mp h
    have z := st b o' q
    rw [e1] at z; cases z
    exact q
  · exact absurd h hb
theorem pe_lcX {elt tg iter : Expr} {ifs : List Expr} {scope : Scope} {own : List (Str × Nat)} {pos : Pos} {wi : TI} {g : TG} {tt : TT} {te : TE} {WD : XK} (hc : X.calm = true) (hN : X.N.Nodup) (hst : X.stack = X.env :: X.outer) (hfr : X.env.frame = some X.env.locals) (tk : Takes X (fun cls d _ H => WD cls d H))
    (hi : PI X tg iter wi) (ok : BlkOk X.N X.env.scope scope own)
    (hg : ∀ (s : Shared) (H : Hp) (C : Addr) (cl : List (Str × Addr)) (fp : List Addr), PG (X.blk s H scope (compEnvC scope cl C X.env) fp) tg g) (ht : ∀ (s : Shared) (H : Hp) (C : Addr) (cl : List (Str × Addr)) (fp : List Addr), PTs (X.blk s H scope (compEnvC scope cl C X.env) fp) ifs tt)
    (he : ∀ (s : Shared) (H : Hp) (C : Addr) (cl : List (Str × Addr)) (fp : List Addr) (pn : List (Addr × Obj)) (xe : Value → Shared → Prop), Passes (L2.CX X.prog X.w) ((X.blk s H scope (compEnvC scope cl C X.env) fp).tr pn xe) WD → PE ((X.blk s H scope (compEnvC scope cl C X.env) fp).tr pn xe) elt te)
    (hs : ∀ x, foldedSetIterable iter X.env x = pure x := by intro _; rfl) :
    PE X (.ListComp elt [⟨tg, iter, ifs, 0⟩] scope pos) (tLc wi g tt te (own.map (·.2))) := by
  refine ⟨fun pins s σ H Q I h => ?_⟩
  rw [eval_ListComp]
  have hfree : ∀ y ∈ scope.names, y.2 = .free → ∃ c, X.env.cells.lookup y.1 = some c := fun y hy e => by
    rcases ok.free y hy e with k | k
    · exact I.ok.has _ (.inl k)
    · exact I.ok.has _ (.inr k)
  refine comprehension_at (use := none) rfl hs (closure_ok hfree) ok.kind (fun y hy e => by rw [ok.uniq y hy, e])
    (thn (hi.run pins s σ H _ I h) fun xv s1 hx => thn hx fun itv s2 h2 => ?_)
  obtain ⟨it, fp, tn, J, H2, e, I2, T, st2, f2, q⟩ := h2
  subst e
  refine wpAny_newObj_type (newEnv_comp ?_) (by show 0 ≤ sizeLine; decide)
  generalize hD : s2.heap.objs.size = D
  have hDn : H2 D = none := I2.hok.fresh (Nat.le_of_eq hD)
  obtain ⟨W, ⟨m0, w0⟩, turn⟩ := q D hDn
  -- the new list
  generalize hs3 : ({ s2 with heap := s2.heap.push { cls := .type "list", data := .seq ([] : List Value).toArray } } : Shared) = s3
  have I3 : Inv X pins σ (upd H2 D (.lst [])) s3 := by
    rw [← hs3]
    refine I2.laid (t' := s2.toks) (fun b o e => Heap.get?_push_of_some _ e) (Nat.le_of_eq hD) ⟨Nat.zero_le _, [], 0, .nil, ?_⟩
    rw [← hD]
    exact Heap.get?_push_size _ rfl
  have h3 : s3.heap = s2.heap.push { cls := .type "list", data := .seq ([] : List Value).toArray } := by rw [← hs3]
  have sz : ∀ b ∈ fp, b < s2.heap.objs.size := fun b hb => by
    obtain ⟨o, e, _⟩ := T.obj _ _ st2 b hb
    exact Heap.lt_size e
  have f3 : ∀ b ∈ fp, FpOk X pins (upd H2 D (.lst [])) b ∧ b < s3.heap.objs.size := fun b hb => by
    have hlt := sz b hb
    refine ⟨⟨?_, (f2 b hb).2⟩, by rw [h3, Heap.size_push]; exact Nat.lt_succ_of_lt hlt⟩
    rw [upd_ne (by rw [← hD]; exact Nat.ne_of_lt hlt)]
    exact (f2 b hb).1
  have st3 : tn 0 s3.heap := T.keep _ _ _ st2 fun b _ o e => by rw [h3]; exact Heap.get?_push_of_some _ e
  have I4 := block_start I3 ok hN f3
  have pg := hg s3 (upd H2 D (.lst [])) s3.heap.objs.size (cellsFrom (s3.heap.objs.size + 1) scope.names (cloFrom X.env.cells scope.names [])) fp
  have pt := ht s3 (upd H2 D (.lst [])) s3.heap.objs.size (cellsFrom (s3.heap.objs.size + 1) scope.names (cloFrom X.env.cells scope.names [])) fp
  have pe := he s3 (upd H2 D (.lst [])) s3.heap.objs.size (cellsFrom (s3.heap.objs.size + 1) scope.names (cloFrom X.env.cells scope.names [])) fp
  show codeAny _ _ (.compStart (.ListComp elt [⟨tg, iter, ifs, 0⟩] scope pos) 0 (.ref it) (.ref D) (compEnvC scope (cellsFrom (s3.heap.objs.size + 1) scope.names (cloFrom X.env.cells scope.names [])) s3.heap.objs.size X.env)) (compEnds (model X.prog X.w) X.A X.xe none _ (.ref D) (compEnvC scope (cellsFrom (s3.heap.objs.size + 1) scope.names (cloFrom X.env.cells scope.names [])) s3.heap.objs.size X.env)) { s3 with heap := pushCells (s3.heap.push { cls := .type "dict", data := .dict #[] }) scope.names }
  have nfp : ∀ b ∈ fp, (upd H2 D (.lst [])) b = none := fun b hb => (f3 b hb).1.1
  generalize hce : compEnvC scope (cellsFrom (s3.heap.objs.size + 1) scope.names (cloFrom X.env.cells scope.names [])) s3.heap.objs.size X.env = ce at I4 pg pt pe ⊢
  have cL : ce.locals = s3.heap.objs.size := by subst hce; rfl
  have cF : ce.frame = X.env.frame := by subst hce; rfl
  generalize hH3 : upd H2 D (.lst []) = H3 at I3 I4 pg pt pe w0 nfp f3
  generalize hs4 : ({ s3 with heap := pushCells (s3.heap.push { cls := .type "dict", data := .dict #[] }) scope.names } : Shared) = s4 at I4 ⊢
  have st4 : tn 0 s4.heap := T.keep _ _ _ st3 fun b _ o e => by rw [← hs4]; exact pushCells_keeps _ _ _ _ (Heap.get?_push_of_some _ e)
  have stat : ∀ {σ' : St} {H' : Hp} {s' : Shared}, Inv (X.blk s3 H3 scope ce fp) [] σ' H' s' → (∀ b ∈ fp, H' b = none) → ∀ b ∈ fp, FpOk (X.blk s3 H3 scope ce fp) [] H' b := fun {σ' H' s'} I' hn b hb =>
    ⟨hn b hb, (I'.ok.exf b hb).1, I'.ok.exfs b hb, .inl hb, fun x c e => (I'.ok.exf b hb).2 x c e, fun p hp => absurd (show p ∈ ([] : List (Addr × Obj)) ++ [] from hp) (by simp)⟩
  have loop : codeAny (model X.prog X.w) X.A (.compLoop (.ListComp elt [⟨tg, iter, ifs, 0⟩] scope pos) 0 (.ref it) (.ref D) ce) (compEnds (model X.prog X.w) X.A X.xe none (EP X pins σ Q) (.ref D) ce) s4 := by
    refine compLoop_any (fun n s' => ∃ i H', Inv (X.blk s3 H3 scope ce fp) [] (wipe σ (own.map (·.2))) H' s' ∧ tn i s'.heap ∧ (∀ b ∈ fp, H' b = none) ∧ W i n H') ?_ m0 ⟨0, H3, I4, st4, nfp, w0⟩
    rintro n s5 ⟨i, H5, I5, st5, n5, w5⟩
    rcases turn i n H5 w5 with ⟨stop, qq⟩ | ⟨go, Nx, hNx, step⟩
    · have td := T.done (X.blk s3 H3 scope ce fp) rfl rfl rfl hc i [] s5 _ H5 (fun _ _ => False) I5 (stat I5 n5) st5 stop
      refine thnF td fun r s6 ⟨hr, I6⟩ => ?_
      subst hr
      -- back in the def's context
      have I7 : Inv X pins σ H5 s6 := I3.call' (ch := fp) I6.os I6.base I6.hok I6.bare fun b hb => ⟨(f3 b hb).1.2.2.2.1, (f3 b hb).1.2.1, (f3 b hb).1.2.2.2.2.1, (f3 b hb).1.2.2.2.2.2⟩
      have nC : H5 s3.heap.objs.size = none := by
        have z : H5 ce.locals = none := I6.free
        rw [cL] at z
        exact z
      obtain ⟨m, hn, _⟩ := I6.loc
      have hn : s6.heap.Ns ce.locals m := hn
      obtain ⟨z0, z1, z2, z3, z4, z5⟩ := I3.fpOk (Nat.le_refl _) nC
      refine ⟨m, hn, fun h'' sb => ?_⟩
      rw [cL] at sb
      exact ⟨.ref D, H5, I7.turned (t' := s6.toks) (fun b o hb e => (sb.2 b hb).trans e) z0 z1 z3 z4 z5, rfl, qq⟩
    · have ti := T.item (X.blk s3 H3 scope ce fp) rfl rfl rfl hc i [] s5 _ H5 (fun _ _ => False) I5 (stat I5 n5) st5 go
      refine thnF ti fun r s6 ⟨u, hr, h6⟩ => ?_
      subst hr
      refine thnF h6 fun _ s7 ⟨x, H7, I7, r7, y7, st7, n7⟩ => ?_
      have I7' := I7.pinned (stat I7 n7) (T.obj _ _ st7)
      refine thnF (pg.run _ s7 _ H7 x u _ I7' r7 (step x H7 y7)) fun _ s8 ⟨σ8, H8, I8, hw8, q8⟩ => ?_
      refine thnF (pt.run _ s8 σ8 H8 _ I8 q8) fun b s9 ⟨H9, I9, q9⟩ => ?_
      -- the turn's end
      have fin : ∀ {s' : Shared} {H' : Hp}, Inv (X.blk s3 H3 scope ce fp) ([] ++ pinsAt fp s7.heap) σ8 H' s' → Nx H' → ∃ m, m < n ∧ ∃ i H', Inv (X.blk s3 H3 scope ce fp) [] (wipe σ (own.map (·.2))) H' s' ∧ tn i s'.heap ∧ (∀ b ∈ fp, H' b = none) ∧ W i m H' := fun {s' H'} I' nx => by
        obtain ⟨m', hm, w'⟩ := hNx H' nx
        have pin' : ∀ b ∈ fp, ∀ o, s7.heap.get? b = some o → s'.heap.get? b = some o ∧ H' b = none := fun b hb o e =>
          let z := I'.pin (b, o) (List.mem_append_right _ (List.mem_append_right _ (mem_pinsAt hb e)))
          ⟨z.1, z.2.1⟩
        have hl : (wipe σ (own.map (·.2))).length = σ8.length := by rw [← hw8, wipe_length]
        refine ⟨m', hm, i + 1, H', (I'.unpinned (pins := [])).weak hl (fun j v e => ?_), T.keep _ _ _ st7 fun b hb o e => (pin' b hb o e).1, fun b hb => ?_, w'⟩
        · rw [← hw8] at e
          exact (wipe_some e).1
        · obtain ⟨o, e, _⟩ := T.obj _ _ st7 b hb
          exact (pin' b hb o e).2
      cases b with
      | false =>
        simp only [Bool.false_eq_true, if_false] at q9 ⊢
        exact fin I9 q9
      | true =>
        simp only [if_true] at q9 ⊢
        have okb := I9.ok
        refine wpAny_mono ((pe _ (notedBy (model X.prog X.w) X.A ce (CompFails (model X.prog X.w) X.A X.xe ce)) (lc_fail I3 cL cF f3 hst hfr tk)).run [] s9 σ8 H9 _ (I9.toTry _) q9) (fun z s10 hz10' => ?_) fun _ _ y => y
        obtain ⟨yv, H10, I10', r10, acc, hD10, hz10, nx⟩ := hz10'
        have I10 := I10'.ofTry okb
        exact app_ok (X := X.blk s3 H3 scope ce fp) I10 hD10 hz10 r10 fun s11 I11 => fin I11 nx
  exact codeAny_compStart_list loop (T.self X.A 0 _ _ _ st4 loop)
end
end L2

/-! DLay25: a reader (an object with a field that its methods change) and exceptions -/
namespace DL
open PySem PySem.Spec PyProof.Rows L2 Evl
/-! ### a heap without one object -/
def offH (H : Hp) (r : Addr) : Hp := fun b => if b = r then none else H b
theorem offH_same {H : Hp} {r : Addr} : offH H r r = none := if_pos rfl
theorem offH_ne {H : Hp} {r b : Addr} (h : b ≠ r) : offH H r b = H b := if_neg h
theorem offH_some {H : Hp} {r b : Addr} {o : HO} (h : offH H r b = some o) : b ≠ r ∧ H b = some o := by
  by_cases z : b = r
  · subst z; rw [offH_same] at h; cases h
  · rw [offH_ne z] at h; exact ⟨z, h⟩
theorem tabS_off {H : Hp} {r P C dx : Addr} {q : Str} {fs : List (Str × V)} (t : LamX.TabS H P q) (hr : H r = some (.ins C dx fs)) : LamX.TabS (offH H r) P q := by
  obtain ⟨ps, h1, h2, h3⟩ := t
  have n1 : P ≠ r := fun z => by rw [z, hr] at h1; cases h1
  refine ⟨ps, by rw [offH_ne n1]; exact h1, h2, fun pos cv hc => ?_⟩
  obtain ⟨c, e1, e2⟩ := h3 pos cv hc
  have n2 : c ≠ r := fun z => by rw [z, hr] at e2; cases e2
  exact ⟨c, e1, by rw [offH_ne n2]; exact e2⟩
theorem gr_off {F0 B F H : Hp} {r C dx : Addr} {fs : List (Str × V)} (g : Gr F0 B F H) (hB : B r = none) (hF : F r = none) (hr : H r = some (.ins C dx fs)) : Gr F0 B F (offH H r) where
  hx := ⟨fun a o e n => by
    have z : a ≠ r := fun z => by rw [z, hB] at e; cases e
    rw [offH_ne z]
    exact g.hx.keep a o e n, fun a e => by
    by_cases z : a = r
    · rw [z]; exact hB
    · rw [offH_ne z] at e; exact g.hx.dom a e, fun P t => tabS_off (g.hx.tab P t) hr⟩
  ff := g.ff
  fh := fun a o e => by
    have z : a ≠ r := fun z => by rw [z, hF] at e; cases e
    rw [offH_ne z]
    exact g.fh a o e
  nf := g.nf
  nt := g.nt
/-- no slot but i holds a reader -/
def sole (i : Nat) : Nat → DEnv → Bool
  | _, [] => true
  | j, some (.fn _ _) :: e => (j == i) && sole i (j + 1) e
  | j, _ :: e => sole i (j + 1) e
theorem sole_at {i : Nat} : ∀ {e : DEnv} {k : Nat}, sole i k e = true → ∀ (j : Nat) L n, e[j]? = some (some (.fn L n)) → k + j = i
  | [], _, _, j, L, n, h => by simp at h
  | a :: e, k, hs, 0, L, n, h => by
    have h' : a = some (.fn L n) := by simpa using h
    subst h'
    have : ((k == i) && sole i (k + 1) e) = true := hs
    rw [Bool.and_eq_true] at this
    simpa using this.1
  | a :: e, k, hs, j + 1, L, n, h => by
    have h' : e[j]? = some (some (.fn L n)) := by simpa using h
    have hs' : sole i (k + 1) e = true := by
      cases a with
      | none => exact hs
      | some s =>
        cases s with
        | fn L' n' =>
          have : ((k == i) && sole i (k + 1) e) = true := hs
          rw [Bool.and_eq_true] at this
          exact this.2
        | sh _ => exact hs
        | ow _ => exact hs
        | od _ => exact hs
    have := sole_at hs' j L n h'
    omega
/-- behind a method's call -/
theorem Ok.rdr {K : PySem.W.Frag} {B F0 F F' : Hp} {σ : L2.St} {H H' : Hp} {e : DEnv} {i : Nat} {r : Addr} {L : LamT} {n n' : Int} (ok : Ok K B F0 F σ H e) (he : e[i]? = some (some (.fn L n))) (hs : σ[i]? = some (some (.ref r))) (hso : sole i 0 e = true)
    (g : Gr F (offH H r) F' H') {L2 : LamT} (h' : SlAt K (offH H r) F' H' r L2 n') (hL : L2.ws = L.ws) : Ok K B F0 F' σ H' (e.set i (some (.fn L n'))) := by
  obtain ⟨r2, s2, b1, b2, bz, dx, wl, b3, b4⟩ := ok.fn i L n he
  have er : r = r2 := by rw [hs] at s2; cases s2; rfl
  subst er
  have hl : i < e.length := (List.getElem?_eq_some_iff.mp he).1
  have g1 := gr_off ok.gr b1 b2 b3
  have oth : ∀ {j : Nat} {s : Sl}, (e.set i (some (.fn L n')))[j]? = some (some s) → (∀ L n, s ≠ .fn L n) → e[j]? = some (some s) := fun {j s} q hn => by
    by_cases z : i = j
    · subst z
      rw [List.getElem?_set_self hl] at q
      cases q
      exact absurd rfl (hn _ _)
    · rw [List.getElem?_set_ne z] at q
      exact q
  have ne : ∀ {a : Addr} {o : HO}, H a = some o → (∀ C dx fs, o ≠ .ins C dx fs) → a ≠ r := fun {a o} e hn z => by
    rw [z, b3] at e; cases e; exact hn _ _ _ rfl
  exact {
    gr := g1.trans g
    sh := fun j d q => let ⟨v, h1, h2⟩ := ok.sh j d (oth q (by intro _ _ z; cases z)); ⟨v, h1, dp_mono g.ff h2⟩
    ow := fun j xs q => by
      obtain ⟨a, vs, h1, h2, h3, h4, h5⟩ := ok.ow j xs (oth q (by intro _ _ z; cases z))
      have z := ne h2 (by intro _ _ _ z; cases z)
      have h2' : offH H r a = some (.lst vs) := by rw [offH_ne z]; exact h2
      exact ⟨a, vs, h1, g.hh _ _ h2', h3, (g.nf _ _ h2').trans h4, dpa_mono g.ff h5⟩
    inj := fun j k xs ys a q1 q2 => ok.inj j k xs ys a (oth q1 (by intro _ _ z; cases z)) (oth q2 (by intro _ _ z; cases z))
    od := fun j xs q => by
      obtain ⟨a, vs, h1, h2, h3, h4, h5⟩ := ok.od j xs (oth q (by intro _ _ z; cases z))
      have z := ne h2 (by intro _ _ _ z; cases z)
      have h2' : offH H r a = some (.dK vs) := by rw [offH_ne z]; exact h2
      exact ⟨a, vs, h1, g.hh _ _ h2', h3, (g.nf _ _ h2').trans h4, dpk_mono g.ff h5⟩
    ijd := fun j k xs ys a q1 q2 => ok.ijd j k xs ys a (oth q1 (by intro _ _ z; cases z)) (oth q2 (by intro _ _ z; cases z))
    fn := fun j L' m q => by
      have ji : j = i := by
        by_cases z : i = j
        · exact z.symm
        · rw [List.getElem?_set_ne z] at q
          have := sole_at hso j L' m q
          omega
      subst ji
      rw [List.getElem?_set_self hl] at q
      cases q
      exact ⟨r, hs, b1, h'.2.1, bz, by rw [← hL]; exact h'.2.2.2⟩
    nt := g.nt ok.nt
    tb := fun P t => g.hx.tab P (tabS_off (ok.tb P t) b3)
    len := by simpa using ok.len }
/-! ### expressions that may change the reader (in slot i), may raise -/
inductive Out where
  | val (d : D) (e : DEnv)
  | exc
abbrev FX := DEnv → Option Out
abbrev RdS (i : Nat) (e : DEnv) : Prop := ∃ L n, e[i]? = some (some (.fn L n))
theorem Gr.offL {F H F' H' : Hp} {r : Addr} (g : Gr F H F' H') (hF : F r = none) : Gr F (offH H r) F' H' where
  hx := ⟨fun a o e n => g.hx.keep a o (offH_some e).2 n, fun a e => by
    by_cases z : a = r
    · rw [z]; exact offH_same
    · rw [offH_ne z]; exact g.hx.dom a e, fun P t => g.hx.tab P (t.ext fun b o e => (offH_some e).2)⟩
  ff := g.ff
  fh := g.fh
  nf := fun a o e => g.nf a o (offH_some e).2
  nt := g.nt
theorem gr_put {F H : Hp} {r : Addr} {o : HO} (x : Ex F H) (hF : F r = none) : Gr F (offH H r) F (upd H r o) where
  hx := .of fun b u e => by
    obtain ⟨z, e⟩ := offH_some e
    rw [upd_ne z]; exact e
  ff := Ex.refl _
  fh := fun b u e => by
    have z : b ≠ r := fun z => by rw [z, hF] at e; cases e
    rw [upd_ne z]; exact x b u e
  nf := fun _ _ _ => rfl
  nt := id
theorem Ok.offS {K : PySem.W.Frag} {B F0 F : Hp} {σ : L2.St} {H : Hp} {e : DEnv} {i : Nat} {r : Addr} (ok : Ok K B F0 F σ H e) (he : RdS i e) (hs : σ[i]? = some (some (.ref r))) : F r = none ∧ B r = none ∧ ∃ dx fs, H r = some (.ins (rdC K) dx fs) := by
  obtain ⟨L, n, he⟩ := he
  obtain ⟨r2, s2, b1, b2, bz, dx, wl, b3, b4⟩ := ok.fn i L n he
  have er : r = r2 := by rw [hs] at s2; cases s2; rfl
  subst er
  exact ⟨b2, b1, dx, _, b3⟩
theorem stepO {K : PySem.W.Frag} {B F0 F F1 F2 : Hp} {σ : L2.St} {H H1 H2 : Hp} {e1 : DEnv} {i : Nat} {r : Addr} (g1 : Gr F (offH H r) F1 H1) (ok1 : Ok K B F0 F1 σ H1 e1) (he : RdS i e1) (hs : σ[i]? = some (some (.ref r))) (g2 : Gr F1 (offH H1 r) F2 H2) : Gr F (offH H r) F2 H2 := by
  obtain ⟨a, b, dx, fs, c⟩ := ok1.offS he hs
  exact (gr_off g1 offH_same a c).trans g2
def PostE (K : PySem.W.Frag) (CN : Addr) (E : XK) (i : Nat) (B F0 F : Hp) (σ : L2.St) (H : Hp) (r : Addr) (Q : VK) : Out → Prop
  | .val d e' => ∀ v F' H', Gr F (offH H r) F' H' → Ok K B F0 F' σ H' e' → RdS i e' → Dp K F' v d → Q v H'
  | .exc => ∀ F' H', Gr F0 B F' H' → E (.ref CN) none H'
def TX (K : PySem.W.Frag) (CN : Addr) (E : XK) (i : Nat) (f : FX) : TE := fun σ H Q => ∃ B F0 F e o r, Ok K B F0 F σ H e ∧ RdS i e ∧ σ[i]? = some (some (.ref r)) ∧ f e = some o ∧ PostE K CN E i B F0 F σ H r Q o
def DX (X : Cx) (CN : Addr) (E : XK) (i : Nat) (e : Expr) (f : FX) : Prop := PE X e (TX X.K CN E i f)
def liftE (f : FE) : FX := fun e => (f e).map (.val · e)
def bindX (o : Option Out) (k : D → DEnv → Option Out) : Option Out := o.bind fun o => match o with
  | .val d e => k d e
  | .exc => some .exc
def opX (G : D → D → Option D) (f g : FX) : FX := fun e => bindX (f e) fun a e1 => bindX (g e1) fun b e2 => (G a b).map (.val · e2)
def c1X (G : D → Option D) (f : FX) : FX := fun e => bindX (f e) fun a e1 => (G a).map (.val · e1)
inductive OutA where
  | val (ds : List D) (e : DEnv)
  | exc
abbrev FXA := DEnv → Option OutA
def PostA (K : PySem.W.Frag) (CN : Addr) (E : XK) (i : Nat) (B F0 F : Hp) (σ : L2.St) (H : Hp) (r : Addr) (Q : List V → Hp → Prop) : OutA → Prop
  | .val ds e' => ∀ vs F' H', Gr F (offH H r) F' H' → Ok K B F0 F' σ H' e' → RdS i e' → DpAll K F' vs ds → Q vs H'
  | .exc => ∀ F' H', Gr F0 B F' H' → E (.ref CN) none H'
def TXA (K : PySem.W.Frag) (CN : Addr) (E : XK) (i : Nat) (f : FXA) : TA := fun σ H Q => ∃ B F0 F e o r, Ok K B F0 F σ H e ∧ RdS i e ∧ σ[i]? = some (some (.ref r)) ∧ f e = some o ∧ PostA K CN E i B F0 F σ H r Q o
def DXA (X : Cx) (CN : Addr) (E : XK) (i : Nat) (es : List Expr) (f : FXA) : Prop := PA X es (TXA X.K CN E i f)
def nilX : FXA := fun e => some (.val [] e)
def consX (f : FX) (g : FXA) : FXA := fun e => (f e).bind fun o => match o with
  | .exc => some .exc
  | .val d e1 => (g e1).bind fun o => match o with
    | .exc => some .exc
    | .val ds e2 => some (.val (d :: ds) e2)
def tupX (f : FXA) : FX := fun e => (f e).bind fun o => match o with
  | .exc => some .exc
  | .val ds e1 => some (.val (.tuple ds) e1)
section
variable {X : Cx} {CN : Addr} {E : XK} {i : Nat} {a b : Expr} {es : List Expr} {f g : FX} {fe : FE} {fa : FXA} {pos : Pos}
theorem dx_de (h : DE X a fe) : DX X CN E i a (liftE fe) := pe_imp h fun σ H Q ⟨B, F0, F, e, o, r, ok, rs, hs, fo, q⟩ => by
  obtain ⟨d, hd, rfl⟩ := Option.map_eq_some_iff.mp fo
  exact ⟨B, F0, F, e, d, ok, hd, fun v F' H' g dp => q v F' H' (g.offL (ok.offS rs hs).1) (ok.grow g) rs dp⟩
theorem dx_op2 {r : R2} {G : D → D → Option D} (hd : OpD X.K r G) (σ : L2.St) (H : Hp) (Q : VK) (h : TX X.K CN E i (opX G f g) σ H Q) : tOp r (TX X.K CN E i f) (TX X.K CN E i g) σ H Q := by
  obtain ⟨B, F0, F, e, o, rr, ok, rs, hs, fo, q⟩ := h
  unfold opX bindX at fo
  obtain ⟨o1, h1, fo⟩ := bind1 fo
  cases o1 with
  | exc => cases fo; exact ⟨B, F0, F, e, .exc, rr, ok, rs, hs, h1, q⟩
  | val d1 e1 =>
    refine ⟨B, F0, F, e, .val d1 e1, rr, ok, rs, hs, h1, fun v F1 H1 g1 ok1 rs1 p1 => ?_⟩
    obtain ⟨o2, h2, fo⟩ := bind1 fo
    cases o2 with
    | exc => cases fo; exact ⟨B, F0, F1, e1, .exc, rr, ok1, rs1, hs, h2, q⟩
    | val d2 e2 =>
      refine ⟨B, F0, F1, e1, .val d2 e2, rr, ok1, rs1, hs, h2, fun u F2 H2 g2 ok2 rs2 p2 => ?_⟩
      obtain ⟨d, hd', rfl⟩ := Option.map_eq_some_iff.mp fo
      exact hd F2 H2 v u d1 d2 d Q ok2.fh (.inl (dp_mono g2.ff p1)) (.inl p2) hd' fun w F' H' g dp => q w F' H' (stepO (stepO g1 ok1 rs1 hs g2) ok2 rs2 hs (g.offL (ok2.offS rs2 hs).1)) (ok2.grow g) rs2 dp
theorem dx_op {op : Operator} {r : R2} {G : D → D → Option D} (ho : OpR X (binaryOp op) r) (hd : OpD X.K r G) (ha : DX X CN E i a f) (hb : DX X CN E i b g) : DX X CN E i (.BinOp a op b pos) (opX G f g) := pe_imp (pe_op ho ha hb) (dx_op2 hd)
theorem dx_add (ha : DX X CN E i a f) (hb : DX X CN E i b g) : DX X CN E i (.BinOp a .Add b pos) (opX addD f g) := dx_op op_addA od_add ha hb
theorem dx_cmp {op : CmpOp} {r : R2} {G : D → D → Option D} (ho : OpR X (compareOp op) r) (hd : OpD X.K r G) (ha : DX X CN E i a f) (hb : DX X CN E i b g) (hm : behindInMarks op b = false) : DX X CN E i (.Compare a [op] [b] pos) (opX G f g) := pe_imp (pe_cmpR ho ha hb hm) (dx_op2 hd)
theorem dxa_nil : DXA X CN E i [] nilX := pa_imp pa_nil fun σ H Q ⟨B, F0, F, e, o, r, ok, rs, hs, fo, q⟩ => by
  cases fo
  exact q [] F H ((Gr.refl ok.fh).offL (ok.offS rs hs).1) ok rs .nil
theorem dxa_cons (ha : DX X CN E i a f) (hr : DXA X CN E i es fa) (hst : starEach (a :: es) X.env = (false, eval a X.env) :: starEach es X.env := by rfl) : DXA X CN E i (a :: es) (consX f fa) := pa_imp (pa_cons ha hr hst) fun σ H Q ⟨B, F0, F, e, o, r, ok, rs, hs, fo, q⟩ => by
  obtain ⟨o1, h1, fo⟩ := bind1 fo
  cases o1 with
  | exc => cases fo; exact ⟨B, F0, F, e, .exc, r, ok, rs, hs, h1, q⟩
  | val d1 e1 =>
    refine ⟨B, F0, F, e, .val d1 e1, r, ok, rs, hs, h1, fun v F1 H1 g1 ok1 rs1 p1 => ?_⟩
    obtain ⟨o2, h2, fo⟩ := bind1 fo
    cases o2 with
    | exc => cases fo; exact ⟨B, F0, F1, e1, .exc, r, ok1, rs1, hs, h2, q⟩
    | val ds e2 =>
      cases fo
      exact ⟨B, F0, F1, e1, .val ds e2, r, ok1, rs1, hs, h2, fun vs F2 H2 g2 ok2 rs2 p2 => q _ F2 H2 (stepO g1 ok1 rs1 hs g2) ok2 rs2 (.cons (dp_mono g2.ff p1) p2)⟩
theorem dx_tup {x1 : Nat} (h : DXA X CN E i es fa) (hl : ∀ e ds e', fa e = some (.val ds e') → ds.length ≤ big) : DX X CN E i (.Tuple es x1 pos) (tupX fa) := pe_imp (pe_tup h) fun σ H Q ⟨B, F0, F, e, o, r, ok, rs, hs, fo, q⟩ => by
  obtain ⟨o1, h1, fo⟩ := bind1 fo
  cases o1 with
  | exc => cases fo; exact ⟨B, F0, F, e, .exc, r, ok, rs, hs, h1, q⟩
  | val ds e1 =>
    cases fo
    refine ⟨B, F0, F, e, .val ds e1, r, ok, rs, hs, h1, fun vs F1 H1 g1 ok1 rs1 d1 => ⟨?_, fun p hp => ?_⟩⟩
    · rw [dpa_len d1]; exact Nat.le_trans (hl _ _ _ h1) big_line
    · exact Kn.tupN (K := X.K) (fun v F' H' g2 dp => q v F' H' (stepO g1 ok1 rs1 hs (g2.offL (ok1.offS rs1 hs).1)) (ok1.grow g2) rs1 dp) ok1.fh d1 hp
theorem lx_nil : ∀ e ds e', nilX e = some (.val ds e') → ds.length ≤ 0 := fun e ds e' h => by cases h; exact Nat.le_refl _
theorem lx_cons {n : Nat} (h : ∀ e ds e', fa e = some (.val ds e') → ds.length ≤ n) : ∀ e ds e', consX f fa e = some (.val ds e') → ds.length ≤ n + 1 := fun e ds e' hx => by
  obtain ⟨o1, h1, hx⟩ := bind1 hx
  cases o1 with
  | exc => cases hx
  | val d e1 =>
    obtain ⟨o2, h2, hx⟩ := bind1 hx
    cases o2 with
    | exc => cases hx
    | val ds2 e2 => cases hx; exact Nat.succ_le_succ (h _ _ _ h2)
theorem lx_big {n : Nat} (h : ∀ e ds e', fa e = some (.val ds e') → ds.length ≤ n) (hn : n ≤ big := by decide) : ∀ e ds e', fa e = some (.val ds e') → ds.length ≤ big := fun e ds e' hx => Nat.le_trans (h _ _ _ hx) hn
/-- tuple(e) -/
theorem dx_tuple {p : Pos} (hm : X.mg "tuple" = none) (h : DX X CN E i a f) (hg : Gl X "tuple" := by rfl) (hst : starEach [a] X.env = (false, eval a X.env) :: starEach [] X.env := by rfl) : DX X CN E i (.Call (.Name "tuple" p) [a] [] pos) (c1X tupleD f) :=
  pe_imp (pe_callTy call_tuple_of hg hm (by decide +kernel) (pa_cons h pa_nil hst) (by decide) (by decide) hst rfl) fun σ H Q ⟨B, F0, F, e, o, r, ok, rs, hs, fo, q⟩ => by
  unfold c1X bindX at fo
  obtain ⟨o1, h1, fo⟩ := bind1 fo
  cases o1 with
  | exc => cases fo; exact ⟨B, F0, F, e, .exc, r, ok, rs, hs, h1, q⟩
  | val d1 e1 =>
    refine ⟨B, F0, F, e, .val d1 e1, r, ok, rs, hs, h1, fun v F1 H1 g1 ok1 rs1 p1 => ?_⟩
    obtain ⟨d, hd', rfl⟩ := Option.map_eq_some_iff.mp fo
    exact cd_tuple F1 H1 v d1 d Q ok1.fh (.inl p1) hd' fun w F' H' g dp => q w F' H' (stepO g1 ok1 rs1 hs (g.offL (ok1.offS rs1 hs).1)) (ok1.grow g) rs1 dp
end
end DL

/-! DLay26: the reader's fields and methods; statements that may raise; defs and methods that may raise -/
namespace DL
open PySem PySem.Spec PyProof.Rows L2 Evl
/-- what is known of the reader's class -/
structure RdK (K : PySem.W.Frag) : Prop where
  c : Cls K (rdC K)
  nat : NoAttr K (rdC K) "at"
  nws : NoAttr K (rdC K) "words"
/-! ### fields -/
def atE (i : Nat) : FE := fun e => match e[i]? with
  | some (some (.fn _ n)) => some (.int n)
  | _ => none
def wordsE (i : Nat) : FE := fun e => match e[i]? with
  | some (some (.fn L _)) => some (.list L.ws)
  | _ => none
def sAt (i : Nat) (f : FE) : FS := fun e => (f e).bind fun d => match d, e[i]? with
  | .int m, some (some (.fn L _)) => if sole i 0 e = true then some (.nx (e.set i (some (.fn L m)))) else none
  | _, _ => none
theorem look_at {wl : V} {n : V} : List.lookup ("at" : Str) [(("words" : Str), wl), (("at" : Str), n)] = some n := by
  have h : (("at" : Str) == ("words" : Str)) = false := by decide +kernel
  simp [List.lookup, h]
theorem look_ws {wl : V} {n : V} : List.lookup ("words" : Str) [(("words" : Str), wl), (("at" : Str), n)] = some wl := by
  simp [List.lookup]
theorem put_at {wl n m : V} : putF ("at" : Str) m [(("words" : Str), wl), (("at" : Str), n)] = [(("words" : Str), wl), (("at" : Str), m)] := by
  have h : ¬ (("words" : Str) = ("at" : Str)) := by decide +kernel
  simp [putF, h]
theorem look_no {m : Str} {wl n : V} (h1 : (m == ("words" : Str)) = false) (h2 : (m == ("at" : Str)) = false) : List.lookup m [(("words" : Str), wl), (("at" : Str), n)] = none := by
  simp [List.lookup, h1, h2]
section
variable {X : Cx} {x : Str} {px pos pos' : Pos} {a : Expr} {es : List Expr} {fe : FE} {fa : FA}
theorem de_at (i : Nat) (k : RdK X.K) (hN : X.N[i]? = some x := by rfl) (hv : Vis X.env.scope x := by first | exact Or.inl rfl | exact Or.inr (Or.inl rfl) | exact Or.inr (Or.inr rfl)) (hd : (x == ("__debug__" : Str)) = false := by decide) (hcd : (x == ("__classdict__" : Str)) = false := by decide)
    (hb : attributeBase (.Name x px) "at" X.env (eval (.Name x px) X.env) = eval (.Name x px) X.env := by rfl) : DE X (.Attribute (.Name x px) "at" pos) (atE i) := pe_imp (pe_fld (pe_var hN hv hd hcd) hb) fun σ H Q ⟨B, F0, F, e, d, ok, fo, q⟩ => by
  unfold atE at fo
  split at fo
  · rename_i L n he
    cases fo
    obtain ⟨r, s1, b1, b2, bz, dx, wl, b3, b4⟩ := ok.fn i L n he
    exact ⟨.ref r, s1, r, _, dx, _, .int n, rfl, b3, k.c, k.nat, look_at, q _ F H (Gr.refl ok.fh) (.int n)⟩
  · cases fo
theorem de_words (i : Nat) (k : RdK X.K) (hN : X.N[i]? = some x := by rfl) (hv : Vis X.env.scope x := by first | exact Or.inl rfl | exact Or.inr (Or.inl rfl) | exact Or.inr (Or.inr rfl)) (hd : (x == ("__debug__" : Str)) = false := by decide) (hcd : (x == ("__classdict__" : Str)) = false := by decide)
    (hb : attributeBase (.Name x px) "words" X.env (eval (.Name x px) X.env) = eval (.Name x px) X.env := by rfl) : DE X (.Attribute (.Name x px) "words" pos) (wordsE i) := pe_imp (pe_fld (pe_var hN hv hd hcd) hb) fun σ H Q ⟨B, F0, F, e, d, ok, fo, q⟩ => by
  unfold wordsE at fo
  split at fo
  · rename_i L n he
    cases fo
    obtain ⟨r, s1, b1, b2, bz, dx, wl, b3, b4⟩ := ok.fn i L n he
    exact ⟨.ref r, s1, r, _, dx, _, .ref wl, rfl, b3, k.c, k.nws, look_ws, q _ F H (Gr.refl ok.fh) b4⟩
  · cases fo
theorem ds_at (i : Nat) (k : RdK X.K) (he : DE X a fe) (hN : X.N[i]? = some x := by rfl) (hv : Vis X.env.scope x := by first | exact Or.inl rfl | exact Or.inr (Or.inl rfl) | exact Or.inr (Or.inr rfl)) (hd : (x == ("__debug__" : Str)) = false := by decide) (hcd : (x == ("__classdict__" : Str)) = false := by decide)
    (hs : swapsWith a (some (.Attribute (.Name x px) "at" pos')) pos.line X.env = pure false := by rfl) : DS X (.Assign [.Attribute (.Name x px) "at" pos'] a pos) (sAt i fe) := ps_imp (ps_fld (pe_var hN hv hd hcd) he hs) fun D σ H ⟨B, F0, F, e, r, ok, fo, q⟩ => by
  obtain ⟨d, hd', fo⟩ := bind1 fo
  split at fo
  · rename_i m L n hen
    split at fo
    · rename_i hso
      cases fo
      refine ⟨B, F0, F, e, .int m, ok, hd', fun v F1 H1 g1 dp => ?_⟩
      have ok1 := ok.grow g1
      obtain ⟨rr, s1, b1, b2, bz, dx, wl, b3, b4⟩ := ok1.fn i L n hen
      refine ⟨.ref rr, s1, rr, _, dx, _, rfl, b3, k.c, k.nat, (by show 2 < 1000; decide), ?_⟩
      rw [dp_int dp, put_at]
      exact q σ F1 _ g1.ff (ok1.rdr hen s1 hso (gr_put ok1.fh b2) ⟨offH_same, b2, bz, dx, wl, upd_same, b4⟩ rfl)
    · cases fo
  · cases fo
end
/-! ### methods -/
abbrev MR := List D → Int → List D → Option (Option (D × Int))
def spR (K : PySem.W.Frag) (CN : Addr) (M : MR) : Sp := fun vs H Q E => ∃ F r ws n vs' ds o, vs = .ref r :: vs' ∧ (Ex F H ∧ NT F ∧ TbK K H) ∧ SlAt K (offH H r) F H r ⟨ws, some r⟩ n ∧ DpAll K F vs' ds ∧ M ws n ds = some o ∧
  match o with
  | some (d, n') => ∀ v F' H', Gr F (offH H r) F' H' → SlAt K (offH H r) F' H' r ⟨ws, some r⟩ n' → Dp K F' v d → Q v H'
  | none => ∀ F' H', Gr F (offH H r) F' H' → E (.ref CN) none H'
/-- the length of the arguments is told, too -/
def spRn (K : PySem.W.Frag) (CN : Addr) (m : Nat) (M : MR) : Sp := fun vs H Q E => vs.length = m ∧ spR K CN M vs H Q E
abbrev FnM (P : Program) (w : World) (K : PySem.W.Frag) (mg : Str → Option Value) (base : Heap) (k : Nat) (f : Addr) (fd : FuncData) (ps : List Str) (CN : Addr) (M : MR) : Prop := FnOk P w K mg base (L2.CX P w) k f fd ps (spRn K CN ps.length M)
def mthX (i m : Nat) (M : MR) (fa : FA) : FX := fun e => (fa e).bind fun ds => match e[i]? with
  | some (some (.fn L n)) => if sole i 0 e = true ∧ ds.length + 1 = m then (M L.ws n ds).map fun r => match r with
    | some (d, n') => .val d (e.set i (some (.fn L n')))
    | none => .exc
    else none
  | _ => none
section
variable {X : Cx} {x m : Str} {px apos pos : Pos} {a : Expr} {es : List Expr} {fa : FA} {CN : Addr} {E : XK} {k : Nat} {f : Addr} {fd : FuncData} {ps : List Str} {M : MR}
theorem mth_read (i : Nat) (hx : Passes (L2.CX X.prog X.w) X E) (hl1 : (m == ("words" : Str)) = false) (hl2 : (m == ("at" : Str)) = false) (σ : L2.St) (H : Hp) (Q : VK) (h : TX X.K CN E i (mthX i ps.length M fa) σ H Q) :
    tMeth (rdC X.K) m (spRn X.K CN ps.length M) [] E (tVar i) (TAr X.K fa) σ H Q := by
  obtain ⟨B, F0, F, e, o, r, ok, rs, hs, fo, q⟩ := h
  obtain ⟨ds, hds, fo⟩ := bind1 fo
  split at fo
  · rename_i L n hen
    split at fo
    · rename_i hc
      obtain ⟨hso, hlen⟩ := hc
      obtain ⟨res, hres, rfl⟩ := Option.map_eq_some_iff.mp fo
      obtain ⟨r2, s2, b1, b2, bz, dx, wl, b3, b4⟩ := ok.fn i L n hen
      have er : r = r2 := by rw [hs] at s2; cases s2; rfl
      subst er
      refine ⟨.ref r, hs, r, dx, _, rfl, b3, look_no hl1 hl2, B, F0, F, e, ds, ok, hds, fun vs F1 H1 g1 dps => ?_⟩
      have ok1 := ok.grow g1
      obtain ⟨r3, s3, c1, c2, cz, dx', wl', c3, c4⟩ := ok1.fn i L n hen
      have er : r = r3 := by rw [hs] at s3; cases s3; rfl
      subst er
      refine ⟨by simp [dpa_len dps, hlen], F1, r, L.ws, n, vs ++ [], ds, res, rfl, ⟨ok1.fh, ok1.nt, ok1.tb⟩, ⟨offH_same, c2, fun a z => (Option.some.inj z).symm, dx', wl', c3, c4⟩, by rw [List.append_nil]; exact dps, hres, ?_⟩
      have hl : i < e.length := (List.getElem?_eq_some_iff.mp hen).1
      have ga : Gr F (offH H r) F1 H1 := g1.offL b2
      cases res with
      | some p =>
        obtain ⟨d, n'⟩ := p
        exact fun v F' H' g sl dp => q v F' H' (stepO ga ok1 ⟨L, n, hen⟩ hs g) (ok1.rdr hen hs hso g sl rfl) ⟨L, n', by rw [List.getElem?_set_self hl]⟩ dp
      | none => exact fun F' H' g => q F' H' ((gr_off ok1.gr c1 c2 c3).trans g)
    · cases fo
  · cases fo
theorem dx_meth0 {pl : Sem Bool} (i : Nat) (kk : RdK X.K) (hm : Meth X.K (rdC X.K) m f) (F : FnM X.prog X.w X.K X.mg X.base k f fd ps CN M) (hr : Room k X.A) (hb : Binds X.K fd ps []) (hx : Passes (L2.CX X.prog X.w) X E)
    (hl1 : (m == ("words" : Str)) = false := by decide +kernel) (hl2 : (m == ("at" : Str)) = false := by decide +kernel)
    (hN : X.N[i]? = some x := by rfl) (hv : Vis X.env.scope x := by first | exact Or.inl rfl | exact Or.inr (Or.inl rfl) | exact Or.inr (Or.inr rfl)) (hd : (x == ("__debug__" : Str)) = false := by decide) (hcd : (x == ("__classdict__" : Str)) = false := by decide)
    (ht : eval (.Call (.Attribute (.Name x px) m apos) [] [] pos) X.env = (do
      let ov ← eval (.Name x px) X.env
      standAt apos.atName
      let (f, first) ← holding [ov] (getMethod ov m pl)
      callWith pos f first (backTo pos (starEach [] X.env)) (backToKw pos (keywordEach [] X.env))) := by rfl) :
    DX X CN E i (.Call (.Attribute (.Name x px) m apos) [] [] pos) (mthX i ps.length M nilA) :=
  pe_imp (pe_meth0 (pl := pl) (pe_var hN hv hd hcd) kk.c hm F hr hb .nil hx ht) fun σ H Q h => by
    obtain ⟨v, s1, a, dx, fs, h1, h2, h3, B, F0, F, e, ds, ok, hds, q⟩ := mth_read (fa := nilA) i hx hl1 hl2 σ H Q h
    cases hds
    exact ⟨v, s1, a, dx, fs, h1, h2, h3, q [] F H (Gr.refl ok.fh) .nil⟩
theorem dx_meth {pl : Sem Bool} (i : Nat) (kk : RdK X.K) (hm : Meth X.K (rdC X.K) m f) (F : FnM X.prog X.w X.K X.mg X.base k f fd ps CN M) (hr : Room k X.A) (hb : Binds X.K fd ps []) (hx : Passes (L2.CX X.prog X.w) X E) (ha : DA X (a :: es) fa)
    (hl1 : (m == ("words" : Str)) = false := by decide +kernel) (hl2 : (m == ("at" : Str)) = false := by decide +kernel)
    (hN : X.N[i]? = some x := by rfl) (hv : Vis X.env.scope x := by first | exact Or.inl rfl | exact Or.inr (Or.inl rfl) | exact Or.inr (Or.inr rfl)) (hd : (x == ("__debug__" : Str)) = false := by decide) (hcd : (x == ("__classdict__" : Str)) = false := by decide)
    (hst : starEach (a :: es) X.env = (false, eval a X.env) :: starEach es X.env := by rfl) (hpl : (backTo pos (starEach es X.env)).any (·.1) = false := by rfl)
    (ht : eval (.Call (.Attribute (.Name x px) m apos) (a :: es) [] pos) X.env = (do
      let ov ← eval (.Name x px) X.env
      standAt apos.atName
      let (f, first) ← holding [ov] (getMethod ov m pl)
      callWith pos f first (backTo pos (starEach (a :: es) X.env)) (backToKw pos (keywordEach [] X.env))) := by rfl) :
    DX X CN E i (.Call (.Attribute (.Name x px) m apos) (a :: es) [] pos) (mthX i ps.length M fa) :=
  pe_imp (pe_meth (pl := pl) (pe_var hN hv hd hcd) kk.c hm F hr hb .nil hx ha hst hpl ht) (mth_read i hx hl1 hl2)
end
/-! ### statements that may raise -/
inductive FlX where
  | nx (e : DEnv) | rt (d : D) (e : DEnv) | exc
abbrev FSX := DEnv → Option FlX
def PostX (K : PySem.W.Frag) (CN : Addr) (E : XK) (B F0 F : Hp) (D : Ends) : FlX → Prop
  | .nx e => ∀ σ' F' H', Ex F F' → Ok K B F0 F' σ' H' e → D.nx σ' H'
  | .rt d e => ∀ v σ' F' H', Ok K B F0 F' σ' H' e → Dp K F' v d → D.rt v H'
  | .exc => ∀ F' H', Gr F0 B F' H' → E (.ref CN) none H'
theorem PostX.mono {K : PySem.W.Frag} {CN : Addr} {E : XK} {B F0 F F1 : Hp} {D : Ends} {r : FlX} (x : Ex F F1) (h : PostX K CN E B F0 F D r) : PostX K CN E B F0 F1 D r := by
  cases r with
  | nx e => exact fun σ' F' H' x' => h σ' F' H' (x.trans x')
  | rt d e => exact h
  | exc => exact h
def TSX (K : PySem.W.Frag) (CN : Addr) (E : XK) (f : FSX) : TS := fun D σ H => ∃ B F0 F e r, Ok K B F0 F σ H e ∧ f e = some r ∧ PostX K CN E B F0 F D r
def DSX (X : Cx) (CN : Addr) (E : XK) (st : Stmt) (f : FSX) : Prop := PS X st (TSX X.K CN E f)
def DSXs (X : Cx) (CN : Addr) (E : XK) (st : List Stmt) (f : FSX) : Prop := PSs X st (TSX X.K CN E f)
def isRd (i : Nat) (e : DEnv) : Bool := match e[i]? with
  | some (some (.fn _ _)) => true
  | _ => false
theorem isRd_at {i : Nat} {e : DEnv} (h : isRd i e = true) : RdS i e := by
  unfold isRd at h
  split at h
  · rename_i L n he; exact ⟨L, n, he⟩
  · cases h
def xNx : FSX := fun e => some (.nx e)
def xSeq (f g : FSX) : FSX := fun e => (f e).bind fun r => match r with
  | .nx e' => g e'
  | r => some r
def xDS (f : FS) : FSX := fun e => (f e).bind fun r => match r with
  | .nx e' => some (.nx e')
  | _ => none
def xIf (p : FB) (f g : FSX) : FSX := fun e => (p e).bind fun b => if b = true then f e else g e
def xBind (i : Nat) (f : FX) (k : D → DEnv → Option FlX) : FSX := fun e => if isRd i e = true then (f e).bind fun o => match o with
  | .val d e' => k d e'
  | .exc => some .exc
  else none
def xRet (i : Nat) (f : FX) : FSX := xBind i f fun d e => some (.rt d e)
def xAsg (i j : Nat) (f : FX) : FSX := xBind i f fun d e => some (.nx (e.set j (some (.sh d))))
def xExpr (i : Nat) (f : FX) : FSX := xBind i f fun _ e => some (.nx e)
def xIfX (i : Nat) (f : FX) (s t : FSX) : FSX := xBind i f fun d e => (asB d).bind fun b => if b = true then s e else t e
def xExc : FSX := fun _ => some .exc
def xRetD (f : FE) : FSX := fun e => (f e).map fun d => .rt d e
section
variable {X : Cx} {CN : Addr} {E : XK} {st : Stmt} {rest body body2 : List Stmt} {fs : FS} {f g : FSX} {fx : FX} {fe : FE} {p : FB} {e : Expr} {pos pos' : Pos}
theorem dsx_nil : DSXs X CN E [] xNx := pss_imp pss_nil fun D σ H ⟨B, F0, F, e, r, ok, fo, q⟩ => by
  cases fo
  exact q σ F H (Ex.refl _) ok
theorem dsx_cons (h1 : DSX X CN E st f) (h2 : DSXs X CN E rest g) : DSXs X CN E (st :: rest) (xSeq f g) := pss_imp (pss_cons h1 h2) fun D σ H ⟨B, F0, F, e, r, ok, fo, q⟩ => by
  obtain ⟨r1, h, fo⟩ := bind1 fo
  refine ⟨B, F0, F, e, r1, ok, h, ?_⟩
  cases r1 with
  | nx e' => exact fun σ' F' H' x ok' => ⟨B, F0, F', e', r, ok', fo, q.mono x⟩
  | rt d e' => cases fo; exact q
  | exc => cases fo; exact q
theorem dsx_one (h1 : DSX X CN E st f) : DSXs X CN E [st] f := pss_one h1
theorem dsx_ds (h : DS X st fs) : DSX X CN E st (xDS fs) := ps_imp h fun D σ H ⟨B, F0, F, e, r, ok, fo, q⟩ => by
  obtain ⟨r1, h, fo⟩ := bind1 fo
  cases r1 with
  | nx e' => cases fo; exact ⟨B, F0, F, e, .nx e', ok, h, q⟩
  | rt _ => cases fo
  | bk _ => cases fo
  | ct _ => cases fo
theorem dsx_if {c : Expr} (hc : DT X c p) (ha : DSXs X CN E body f) (hb : DSXs X CN E body2 g) : DSX X CN E (.If c body body2 pos) (xIf p f g) := ps_imp (ps_if hc ha hb) fun D σ H ⟨B, F0, F, e, r, ok, fr, q⟩ => by
  obtain ⟨k, hk, fr⟩ := bind1 fr
  refine ⟨B, F0, F, e, k, ok, hk, fun F1 H1 g1 => ?_⟩
  cases k with
  | true => simp only [if_true] at fr ⊢; exact ⟨B, F0, F1, e, r, ok.grow g1, fr, q.mono g1.ff⟩
  | false => simp only [Bool.false_eq_true, if_false] at fr ⊢; exact ⟨B, F0, F1, e, r, ok.grow g1, fr, q.mono g1.ff⟩
/-- an effectful expression, then something -/
theorem xb_read {i : Nat} {k : D → DEnv → Option FlX} {D : Ends} {σ : L2.St} {H : Hp} {Q : VK} (h : TSX X.K CN E (xBind i fx k) D σ H) (hs : ∀ {B F0 F} {e : DEnv}, Ok X.K B F0 F σ H e → RdS i e → ∃ r, σ[i]? = some (some (.ref r)))
    (hQ : ∀ B F0 F d e r v F' H', k d e = some r → PostX X.K CN E B F0 F D r → Ex F F' → Ok X.K B F0 F' σ H' e → RdS i e → Dp X.K F' v d → Q v H') : TX X.K CN E i fx σ H Q := by
  obtain ⟨B, F0, F, e, r, ok, fo, q⟩ := h
  unfold xBind at fo
  split at fo
  · rename_i hrd
    have rs := isRd_at hrd
    obtain ⟨rr, hrr⟩ := hs ok rs
    obtain ⟨o, ho, fo⟩ := bind1 fo
    refine ⟨B, F0, F, e, o, rr, ok, rs, hrr, ho, ?_⟩
    cases o with
    | exc => cases fo; exact q
    | val d e' => exact fun v F' H' g ok' rs' dp => hQ B F0 F d e' r v F' H' fo q g.ff ok' rs' dp
  · cases fo
theorem rd_ref {K : PySem.W.Frag} {i : Nat} {B F0 F : Hp} {σ : L2.St} {H : Hp} {e : DEnv} (ok : Ok K B F0 F σ H e) (rs : RdS i e) : ∃ r, σ[i]? = some (some (.ref r)) := by
  obtain ⟨L, n, he⟩ := rs
  obtain ⟨r, s, _⟩ := ok.fn i L n he
  exact ⟨r, s⟩
theorem dsx_ret {i : Nat} (h : DX X CN E i e fx) : DSX X CN E (.Return (some e) pos) (xRet i fx) := ps_imp (ps_ret h) fun D σ H hh =>
  xb_read (X := X) (CN := CN) (E := E) hh rd_ref fun B F0 F d e' r v F' H' hk q x ok' _ dp => by cases hk; exact q v σ F' H' ok' dp
theorem dsx_retD (h : DE X e fe) : DSX X CN E (.Return (some e) pos) (xRetD fe) := ps_imp (ps_ret h) fun D σ H ⟨B, F0, F, e, r, ok, fr, q⟩ => by
  obtain ⟨d, hd, rfl⟩ := Option.map_eq_some_iff.mp fr
  exact ⟨B, F0, F, e, d, ok, hd, fun v F' H' g dp => q v σ F' H' (ok.grow g) dp⟩
theorem dsx_expr {i : Nat} (h : DX X CN E i e fx) (hs : swapsWith e none pos.line X.env = pure false := by rfl) : DSX X CN E (.Expr e pos) (xExpr i fx) := ps_imp (ps_expr h hs) fun D σ H hh =>
  xb_read (X := X) (CN := CN) (E := E) hh rd_ref fun B F0 F d e' r v F' H' hk q x ok' _ dp => by cases hk; exact q σ F' H' x ok'
theorem dsx_asg {i : Nat} (j : Nat) {x : Str} (hN : X.N.Nodup) (h : DX X CN E i e fx) (hi : X.N[j]? = some x := by rfl) (hx : Loc X.env.scope x := by first | exact Or.inl rfl | exact Or.inr rfl) (hs : swapsWith e (some (.Name x pos')) pos.line X.env = pure false := by rfl)
    (hf : X.fn x = true ∨ X.env.scope.names.lookup x = some .local := by first | exact .inl rfl | exact .inr rfl | assumption) : DSX X CN E (.Assign [.Name x pos'] e pos) (xAsg i j fx) := ps_imp (ps_set hN hi hx h hs hf) fun D σ H hh =>
  xb_read (X := X) (CN := CN) (E := E) hh rd_ref fun B F0 F d e' r v F' H' hk q x ok' _ dp => by cases hk; exact q _ F' H' x (ok'.set dp)
/-- if a op b: .., the comparison effectful -/
theorem dsx_ifX {i : Nat} {a b : Expr} {fa fb : FX} {op : CmpOp} {r : R2} {G : D → D → Option D} (ho : OpR X (compareOp op) r) (hd : OpD X.K r G) (ha : DX X CN E i a fa) (hb : DX X CN E i b fb) (hm : behindInMarks op b = false) (h1 : DSXs X CN E body f) (h2 : DSXs X CN E body2 g) :
    DSX X CN E (.If (.Compare a [op] [b] pos') body body2 pos) (xIfX i (opX G fa fb) f g) := ps_imp (ps_if (pt_cmpR ho ha hb hm) h1 h2) fun D σ H hh =>
  dx_op2 hd σ H _ (xb_read (X := X) (CN := CN) (E := E) hh rd_ref fun B F0 F d e' r v F' H' hk q x ok' _ dp => by
    obtain ⟨k, hk1, hk⟩ := bind1 hk
    unfold asB at hk1
    split at hk1
    · cases hk1
      refine ⟨k, dp_bl dp, ?_⟩
      cases k with
      | true => simp only [if_true] at hk ⊢; exact ⟨B, F0, F', e', r, ok', hk, q.mono x⟩
      | false => simp only [Bool.false_eq_true, if_false] at hk ⊢; exact ⟨B, F0, F', e', r, ok', hk, q.mono x⟩
    · cases hk1)
/-- raise X('m') -/
theorem dsx_raise {B' newId initId : String} {bmB : List Value} {x m : Str} {j : Nat} {p p2 pos2 : Pos} (hc : X.calm = true) (tk : Takes X (fun cls d _ H => E cls d H)) (FB : ExcBaseFacts B' newId initId bmB) (q : PySem.W.excIn X.K CN bmB newId = true) (gC : X.mg x = some (.ref CN)) (kC : PySem.W.keepIn X.K (.ref CN) = true)
    (r : Raises X (.ref CN)) (hg : Gl X x := by rfl) (hdb : (x == ("__debug__" : Str)) = false := by decide) : DSX X CN E (.Raise (some (.Call (.Name x p) [.Constant (.str m) j p2] [] pos2)) none pos) xExc := ps_imp (ps_raise hc tk (pmk_own FB q gC kC r hg hdb)) fun D σ H ⟨B, F0, F, e, o, ok, fo, q⟩ => by
  cases fo
  exact q F H ok.gr
end
end DL

/-! DLay27: loops, appends, the reader made; methods and defs that may raise; what is raised caught -/
namespace DL
open PySem PySem.Spec PyProof.Rows L2 Evl
/-! ### while, append -/
def xWhileG (p : FB) (f : FSX) : Nat → DEnv → Option FlX
  | 0, _ => none
  | n + 1, e => (p e).bind fun k => if k = true then (f e).bind fun r => match r with
      | .nx e2 => xWhileG p f n e2
      | r => some r
    else some (.nx e)
def xWhile (μ : DEnv → Nat) (p : FB) (f : FSX) : FSX := fun e => xWhileG p f (μ e) e
def xApp (i j : Nat) (f : FX) : FSX := fun e => (owAt j e).bind fun _ => xBind i f (fun d e => (owAt j e).bind fun xs => if sml (xs.length + 1) = true then some (.nx (e.set j (some (.ow (xs ++ [d]))))) else none) e
section
variable {X : Cx} {CN : Addr} {E : XK} {body : List Stmt} {f : FSX} {fx : FX} {p : FB} {e : Expr} {pos : Pos}
theorem dsx_while {c : Expr} (μ : DEnv → Nat) (hp : PassesOwn (model X.prog X.w) X.A X.env X.xe) (hc : DT X c p) (hb : DSXs X CN E body f) : DSX X CN E (.While c body [] pos) (xWhile μ p f) := ps_imp (ps_while hp hc hb) fun D σ H ⟨B, F0, F, e, r, ok, fr, q⟩ => by
  refine ⟨fun m σ1 H1 => ∃ F1 e1, Ok X.K B F0 F1 σ1 H1 e1 ∧ Ex F F1 ∧ xWhileG p f m e1 = some r, ⟨μ e, F, e, ok, Ex.refl _, fr⟩, ?_⟩
  rintro m σ1 H1 ⟨F1, e1, ok1, x1, fr1⟩
  cases m with
  | zero => cases fr1
  | succ m =>
    obtain ⟨k, hk, fr1⟩ := bind1 fr1
    refine ⟨B, F0, F1, e1, k, ok1, hk, fun F2 H2 g2 => ?_⟩
    cases k with
    | false =>
      simp only [Bool.false_eq_true, if_false] at fr1 ⊢
      cases fr1
      exact q σ1 F2 H2 (x1.trans g2.ff) (ok1.grow g2)
    | true =>
      simp only [if_true] at fr1 ⊢
      obtain ⟨r2, hr2, fr1⟩ := bind1 fr1
      refine ⟨fun σ2 H2 => ∃ F2 e2, Ok X.K B F0 F2 σ2 H2 e2 ∧ Ex F F2 ∧ xWhileG p f m e2 = some r, fun σ' H' h => ⟨m, Nat.lt_succ_self _, h⟩, B, F0, F2, e1, r2, ok1.grow g2, hr2, ?_⟩
      cases r2 with
      | nx e3 => exact fun σ' F'' H'' x' ok' => ⟨F'', e3, ok', (x1.trans g2.ff).trans x', fr1⟩
      | rt d e3 => cases fr1; exact q
      | exc => cases fr1; exact q
theorem dsx_app {i : Nat} (j : Nat) {x : Str} {px apos cpos : Pos} (he : DX X CN E i e fx) (hi : X.N[j]? = some x := by rfl) (hv : Vis X.env.scope x := by first | exact Or.inl rfl | exact Or.inr (Or.inl rfl) | exact Or.inr (Or.inr rfl)) (hd : (x == ("__debug__" : Str)) = false := by decide)
    (hcd : (x == ("__classdict__" : Str)) = false := by decide) (hbase : attributeBase (.Name x px) "append" X.env (eval (.Name x px) X.env) = eval (.Name x px) X.env := by rfl)
    (hfew : ((backTo cpos (starEach [e] X.env)).all (fun x => !x.1) && (backToKw cpos (keywordEach [] X.env)).all (fun x => x.1.isSome) && decide (([e] : List Expr).length + ([] : List Keyword).length + (if ([] : List Keyword).isEmpty then 0 else 1) < 30)) = true := by rfl)
    (hline : (apos.endLine == cpos.line) = true := by rfl) (hs : starEach [e] X.env = (false, eval e X.env) :: starEach [] X.env := by rfl) (hsw : swapsWith (.Call (.Attribute (.Name x px) "append" apos) [e] [] cpos) none pos.line X.env = pure false := by rfl) :
    DSX X CN E (.Expr (.Call (.Attribute (.Name x px) "append" apos) [e] [] cpos) pos) (xApp i j fx) :=
  ps_imp (ps_expr (pe_bm PySem.F.plainAttrs_list PySem.F.slot_list_append PySem.F.type_list_append mt_append (pe_var hi hv hd hcd) (pa_cons he pa_nil hs) hbase hfew hline hs rfl) hsw) fun D σ H ⟨B, F0, F, e, r, ok, fr, q⟩ => by
  obtain ⟨xs0, hx0, fr⟩ := bind1 fr
  have hx0 := owAt_some hx0
  obtain ⟨a, vs, h1, h2, h3, h4, h5⟩ := ok.ow j xs0 hx0
  refine ⟨.ref a, h1, .inl ⟨rfl, _, SqL.of h2⟩, ?_⟩
  refine xb_read (X := X) (CN := CN) (E := E) (D := D) ⟨B, F0, F, e, r, ok, fr, q⟩ rd_ref fun B F0 F d e' r v F' H' hk q x ok' _ dp => ?_
  obtain ⟨xs, hx, hk⟩ := bind1 hk
  split at hk
  · rename_i hz
    cases hk
    have hx := owAt_some hx
    obtain ⟨a', vs', k1, k2, k3, k4, k5⟩ := ok'.ow j xs hx
    have ea : a = a' := by rw [h1] at k1; cases k1; rfl
    subst ea
    refine ⟨a, vs', v, rfl, rfl, k2, ?_, q σ F' _ x (ok'.mutOw hx h1 (dpa_append k5 (.cons dp .nil)))⟩
    rw [dpa_len k5]
    exact Nat.lt_of_lt_of_le (sml_le hz) big_line
  · cases hk
end
/-! ### a slot gets a reader -/
theorem Ok.setFn {K : PySem.W.Frag} {B F0 F : Hp} {σ : L2.St} {H : Hp} {e : DEnv} {i : Nat} {r : Addr} {L : LamT} {n : Int} (o : Ok K B F0 F σ H e) (h : SlAt K B F H r L n) : Ok K B F0 F (σ.set i (some (.ref r))) H (e.set i (some (.fn L n))) := by
  have n1 : ∀ {j : Nat} {s : Sl}, (e.set i (some (.fn L n)))[j]? = some (some s) → (∀ L n, s ≠ .fn L n) → i ≠ j := fun {j s} q hn => by
    rintro rfl
    have hl : i < e.length := by simpa using (List.getElem?_eq_some_iff.mp q).1
    rw [List.getElem?_set_self hl] at q; cases q; exact hn _ _ rfl
  exact {
    gr := o.gr
    sh := fun j d q => by
      have z := n1 q (by intro _ _ z; cases z)
      rw [List.getElem?_set_ne z] at q ⊢
      exact o.sh j d q
    ow := fun j d q => by
      have z := n1 q (by intro _ _ z; cases z)
      rw [List.getElem?_set_ne z] at q ⊢
      exact o.ow j d q
    inj := fun j k xs ys a q1 q2 q3 q4 => by
      have z1 := n1 q1 (by intro _ _ z; cases z)
      have z2 := n1 q2 (by intro _ _ z; cases z)
      rw [List.getElem?_set_ne z1] at q1 q3
      rw [List.getElem?_set_ne z2] at q2 q4
      exact o.inj j k xs ys a q1 q2 q3 q4
    od := fun j d q => by
      have z := n1 q (by intro _ _ z; cases z)
      rw [List.getElem?_set_ne z] at q ⊢
      exact o.od j d q
    ijd := fun j k xs ys a q1 q2 q3 q4 => by
      have z1 := n1 q1 (by intro _ _ z; cases z)
      have z2 := n1 q2 (by intro _ _ z; cases z)
      rw [List.getElem?_set_ne z1] at q1 q3
      rw [List.getElem?_set_ne z2] at q2 q4
      exact o.ijd j k xs ys a q1 q2 q3 q4
    fn := fun j L' m q => by
      by_cases z : i = j
      · subst z
        have hl : i < e.length := by simpa using (List.getElem?_eq_some_iff.mp q).1
        rw [List.getElem?_set_self hl] at q
        cases q
        exact ⟨r, by rw [List.getElem?_set_self (by rw [← o.len]; exact hl)], h⟩
      · rw [List.getElem?_set_ne z] at q ⊢
        exact o.fn j L' m q
    nt := o.nt
    tb := o.tb
    len := by simpa using o.len }
def spInit (K : PySem.W.Frag) : Sp := fun vs H Q _ => ∃ x dx v, vs = [.ref x, v] ∧ H x = some (.ins (rdC K) dx []) ∧ Q .non (upd (upd H x (.ins (rdC K) dx [(("words" : Str), v)])) x (.ins (rdC K) dx [(("words" : Str), v), (("at" : Str), .int 0)]))
def sMake (j : Nat) (f : FE) : FS := fun e => (f e).bind fun d => match d with
  | .list ws => some (.nx (e.set j (some (.fn ⟨ws, none⟩ 0))))
  | _ => none
section
variable {X : Cx} {x y : Str} {p pos pos' : Pos} {a : Expr} {fe : FE} {f : Addr} {fd : FuncData} {ps : List Str} {k : Nat}
theorem ds_make (j : Nat) (hN : X.N.Nodup) (M : Mk X.K (rdC X.K) f) (F : FnOk X.prog X.w X.K X.mg X.base CX0 k f fd ps (spInit X.K)) (hr : Room (k + 1) X.A) (hm : X.mg x = some (.ref (rdC X.K))) (hb : Binds X.K fd ps []) (ha : DE X a fe) (hg : Gl X x := by rfl)
    (hi : X.N[j]? = some y := by rfl) (hx : Loc X.env.scope y := by first | exact Or.inl rfl | exact Or.inr rfl) (hdb : (x == ("__debug__" : Str)) = false := by decide) (hst : starEach [a] X.env = (false, eval a X.env) :: starEach [] X.env := by rfl) (hpl : (backTo pos (starEach [] X.env)).any (·.1) = false := by rfl)
    (hs : swapsWith (.Call (.Name x p) [a] [] pos) (some (.Name y pos')) pos'.line X.env = pure false := by rfl) (hf : X.fn y = true ∨ X.env.scope.names.lookup y = some .local := by first | exact .inl rfl | exact .inr rfl | assumption) {spos : Pos} (hs2 : swapsWith (.Call (.Name x p) [a] [] pos) (some (.Name y pos')) spos.line X.env = pure false := by rfl) :
    DS X (.Assign [.Name y pos'] (.Call (.Name x p) [a] [] pos) spos) (sMake j fe) :=
  ps_imp (ps_set hN hi hx (pe_make (E := fun _ _ _ => False) M F hr hg hm hb .nil pass0 (pa_cons ha pa_nil hst) hdb hst hpl) hs2 hf) fun D σ H ⟨B, F0, F, e, r, ok, fo, q⟩ => by
  obtain ⟨d, hd, fo⟩ := bind1 fo
  split at fo
  · rename_i ws
    cases fo
    refine ⟨B, F0, F, e, .list ws, ok, hd, fun v F1 H1 g1 dp x dx hx hdx ne => ?_⟩
    have ok1 := ok.grow g1
    refine ⟨x, dx, v, rfl, upd_same, rfl, ?_⟩
    obtain ⟨wl, vs, ev, hl, hv⟩ := dp_lst dp
    subst ev
    have kp : ∀ b u, H1 b = some u → (upd (upd (upd (upd H1 dx (.own x)) x (.ins (rdC X.K) dx [])) x (.ins (rdC X.K) dx [(("words" : Str), V.ref wl)])) x (.ins (rdC X.K) dx [(("words" : Str), V.ref wl), (("at" : Str), .int 0)])) b = some u := fun b u e => by
      have z1 := ne_of_none e hx
      have z2 := ne_of_none e hdx
      rw [upd_ne z1, upd_ne z1, upd_ne z1, upd_ne z2]
      exact e
    have g2 : Gr F1 H1 F1 (upd (upd (upd (upd H1 dx (.own x)) x (.ins (rdC X.K) dx [])) x (.ins (rdC X.K) dx [(("words" : Str), V.ref wl)])) x (.ins (rdC X.K) dx [(("words" : Str), V.ref wl), (("at" : Str), .int 0)])) :=
      ⟨.of kp, Ex.refl _, fun b u e => kp b u (ok1.fh b u e), fun _ _ _ => rfl, id⟩
    exact q _ F1 _ g1.ff ((ok1.grow g2).setFn ⟨ok1.gr.fb hx, fresh_back ok1.fh hx, (fun _ z => by cases z), dx, wl, upd_same, dp⟩)
  · cases fo
end
/-! ### methods, defs -/
theorem ok_startM {K : PySem.W.Frag} {F H : Hp} {N : List Str} {y : Str} {r : Addr} {L : LamT} {n : Int} {vs : List V} {ds : List D} (x : Ex F H) (nt : NT F) (tb : TbK K H) (sl : SlAt K (offH H r) F H r L n) (h : DpAll K F vs ds) :
    Ok K (offH H r) F F (L2.start (y :: N) (.ref r :: vs)) H (some (.fn L n) :: startE N.length ds) := by
  have ok := ok_start (N := N) x nt tb h
  have es : L2.start (y :: N) (.ref r :: vs) = some (.ref r) :: L2.start N vs := by
    unfold L2.start
    simp
  rw [es]
  exact {
    gr := (Gr.refl x).offL sl.2.1
    sh := fun j d q => match j, q with
      | 0, q => by cases q
      | j + 1, q => ok.sh j d q
    ow := fun j d q => match j, q with
      | 0, q => by cases q
      | j + 1, q => by
        have q' : (startE N.length ds)[j]? = some (some (.ow d)) := q
        unfold startE at q'
        by_cases hlt : j < ds.length
        · rw [List.getElem?_append_left (by simpa using hlt), List.getElem?_map] at q'
          obtain ⟨d', hd, e⟩ := Option.map_eq_some_iff.mp q'
          cases e
        · rw [List.getElem?_append_right (by simpa using hlt), List.getElem?_replicate] at q'
          split at q' <;> cases q'
    inj := fun j k xs ys a q1 q2 q3 q4 => match j, k, q1, q2, q3, q4 with
      | 0, _, q1, _, _, _ => by cases q1
      | _ + 1, 0, _, q2, _, _ => by cases q2
      | j + 1, k + 1, q1, q2, q3, q4 => congrArg (· + 1) (ok.inj j k xs ys a q1 q2 q3 q4)
    od := fun j d q => match j, q with
      | 0, q => by cases q
      | j + 1, q => by
        have q' : (startE N.length ds)[j]? = some (some (.od d)) := q
        unfold startE at q'
        by_cases hlt : j < ds.length
        · rw [List.getElem?_append_left (by simpa using hlt), List.getElem?_map] at q'
          obtain ⟨d', hd, e⟩ := Option.map_eq_some_iff.mp q'
          cases e
        · rw [List.getElem?_append_right (by simpa using hlt), List.getElem?_replicate] at q'
          split at q' <;> cases q'
    ijd := fun j k xs ys a q1 q2 q3 q4 => match j, k, q1, q2, q3, q4 with
      | 0, _, q1, _, _, _ => by cases q1
      | _ + 1, 0, _, q2, _, _ => by cases q2
      | j + 1, k + 1, q1, q2, q3, q4 => congrArg (· + 1) (ok.ijd j k xs ys a q1 q2 q3 q4)
    fn := fun j L' m q => match j, q with
      | 0, q => by cases q; exact ⟨r, rfl, sl⟩
      | j + 1, q => by
        have q' : (startE N.length ds)[j]? = some (some (.fn L' m)) := q
        unfold startE at q'
        by_cases hlt : j < ds.length
        · rw [List.getElem?_append_left (by simpa using hlt), List.getElem?_map] at q'
          obtain ⟨d', hd, e⟩ := Option.map_eq_some_iff.mp q'
          cases e
        · rw [List.getElem?_append_right (by simpa using hlt), List.getElem?_replicate] at q'
          split at q' <;> cases q'
    nt := nt
    tb := tb
    len := by
      have := ok.len
      show (startE N.length ds).length + 1 = (L2.start N vs).length + 1
      rw [this] }
open Classical in
/-- the reader's place at the end -/
noncomputable def endM (L : LamT) (d : D) (e : DEnv) : Option (Option (D × Int)) := match e[(0 : Nat)]? with
  | some (some (.fn L' n)) => if L' = L then some (some (d, n)) else none
  | _ => none
noncomputable def runA (n : Nat) (body : FSX) (L : LamT) (at_ : Int) (ds : List D) : Option (Option (D × Int)) := (body (some (.fn L at_) :: startE n ds)).bind fun r => match r with
  | .rt d e => endM L d e
  | .nx e => endM L .none e
  | .exc => some none
open Classical in
/-- what comes out wherever the reader stands -/
noncomputable def runM (n : Nat) (body : FSX) : MR := fun ws at_ ds => if h : ∃ o, ∀ r : Addr, runA n body ⟨ws, some r⟩ at_ ds = some o then some h.choose else none
theorem runM_eq {n : Nat} {body : FSX} {ws : List D} {at_ : Int} {ds : List D} {o : Option (D × Int)} (h : ∀ r : Addr, runA n body ⟨ws, some r⟩ at_ ds = some o) : runM n body ws at_ ds = some o := by
  have hx : ∃ o, ∀ r : Addr, runA n body ⟨ws, some r⟩ at_ ds = some o := ⟨o, h⟩
  unfold runM
  rw [dif_pos hx]
  have h2 := hx.choose_spec 0
  rw [h 0] at h2
  exact h2.symm
theorem runM_at {n : Nat} {body : FSX} {ws : List D} {at_ : Int} {ds : List D} {o : Option (D × Int)} (h : runM n body ws at_ ds = some o) (r : Addr) : runA n body ⟨ws, some r⟩ at_ ds = some o := by
  unfold runM at h
  split at h
  · rename_i hx
    cases h
    exact hx.choose_spec r
  · cases h
theorem takes_cx {P : Program} {w : World} {K : PySem.W.Frag} {mg : Str → Option Value} {base : Heap} {N : List Str} {qual : Str} {sc : Scope} {f : Addr} {cdv : Value} {A : Around} {outer : List Env} {s : Shared} {H : Hp} {E : XK} :
    Takes (cxOf (L2.CX P w) P w K mg base N qual sc f cdv A outer s H E) (fun cls d _ H => E cls d H) := takes_of rfl rfl rfl rfl
theorem passes_cx {P : Program} {w : World} {K : PySem.W.Frag} {mg : Str → Option Value} {base : Heap} {N : List Str} {qual : Str} {sc : Scope} {f : Addr} {cdv : Value} {A : Around} {outer : List Env} {s : Shared} {H : Hp} {E : XK} :
    Passes (L2.CX P w) (cxOf (L2.CX P w) P w K mg base N qual sc f cdv A outer s H E) E := passes_call takes_cx fun _ _ _ _ h => h
theorem own_cx {P : Program} {w : World} {K : PySem.W.Frag} {mg : Str → Option Value} {base : Heap} {N : List Str} {qual : Str} {sc : Scope} {f : Addr} {cdv : Value} {A : Around} {outer : List Env} {s : Shared} {H : Hp} {E : XK} :
    PassesOwn (model P w) (cxOf (L2.CX P w) P w K mg base N qual sc f cdv A outer s H E).A (cxOf (L2.CX P w) P w K mg base N qual sc f cdv A outer s H E).env (cxOf (L2.CX P w) P w K mg base N qual sc f cdv A outer s H E).xe := PassesOwn.leaving
section
variable {P : Program} {w : World} {K : PySem.W.Frag} {mg : Str → Option Value} {base : Heap} {k : Nat} {x qual : Str} {args : Arguments} {st : List Stmt} {sc : Scope} {f CN : Addr} {fd : FuncData} {N ps : List Str} {y : Str} {body : FSX} {n : Nat}
theorem fn_mkM (F : FunD K x qual args st sc [] [] f fd) (S : FnScope (y :: N) ps sc) (hn : N.length = n)
    (hb : ∀ (cdv : Value) (A : Around) (outer : List Env) (s : Shared) (H : Hp) (E : XK), Room k (A.deeper (envOfC qual sc s.heap.objs.size f cdv)) → DSXs (cxOf (L2.CX P w) P w K mg base (y :: N) qual sc f cdv A outer s H E) CN E st body) :
    FnM P w K mg base (k + 1) f fd ps CN (runM n body) := by
  refine F.ok S (fun vs H Q E h => h.1) (fun cdv A outer s H vs Q E hr h => ⟨_, hb cdv A outer s H E hr, ?_⟩)
  obtain ⟨_, F, r, ws, at_, vs', ds, o, rfl, ⟨x1, x2, x3⟩, sl, dps, hM, q⟩ := h
  have hM := runM_at hM r
  unfold runA at hM
  obtain ⟨res, hres, hM⟩ := bind1 hM
  rw [← hn] at hres
  refine ⟨offH H r, F, F, _, res, ok_startM x1 x2 x3 sl dps, hres, ?_⟩
  have fin : ∀ (d : D) (e' : DEnv), endM ⟨ws, some r⟩ d e' = some o → ∀ v σ' F' H', Ok K (offH H r) F F' σ' H' e' → Dp K F' v d → Q v H' := fun d e' he v σ' F' H' ok' dp => by
    unfold endM at he
    split at he
    · rename_i L' n' hen
      split at he
      · rename_i hw
        cases he
        subst hw
        obtain ⟨r2, s2, sl2⟩ := ok'.fn 0 _ n' hen
        have er : r = r2 := sl2.2.2.1 r rfl
        subst er
        exact q v F' H' ok'.gr sl2 dp
      · cases he
    · cases he
  cases res with
  | rt d e' => exact fun v σ' F' H' ok' dp => fin d e' hM v σ' F' H' ok' dp
  | nx e' => exact fun σ' F' H' _ ok' => fin .none e' hM _ σ' F' H' ok' .non
  | exc => cases hM; exact fun F' H' g => q F' H' g
end
end DL

/-! DLay28: a comprehension whose element moves the reader; defs that may raise; what is raised caught -/
namespace DL
open PySem PySem.Spec PyProof.Rows L2 Evl
/-! ### [self.m() for k in range(n)] -/
open Classical in
noncomputable def lcXGo (i : Nat) (b : BD) (fx : FX) (vs : List Nat) (e0 : DEnv) (L : LamT) : List D → Int → List D → Option OutA
  | [], n, acc => some (.val acc (e0.set i (some (.fn L n))))
  | d :: ds, n, acc => (b d (wipeE (e0.set i (some (.fn L n))) vs)).bind fun e1 => if isRd i e1 = true then (fx e1).bind fun o => match o with
    | .exc => some .exc
    | .val x e2 => match e2[i]? with
      | some (some (.fn L' n')) => if L' = L then lcXGo i b fx vs e0 L ds n' (acc ++ [x]) else none
      | _ => none
    else none
noncomputable def lcX (i : Nat) (fa : FA) (b : BD) (fx : FX) (vs : List Nat) : FX := fun e => (fa e).bind fun ds => if sml ds.length = true then match e[i]? with
  | some (some (.fn L n)) => if sole i 0 e = true then (lcXGo i b fx vs e L ds n []).map fun o => match o with
    | .exc => .exc
    | .val xs e' => .val (.list xs) e'
    else none
  | _ => none
  else none
section
variable {X : Cx} {fa : FA} {b : BD} {fx : FX} {CN : Addr} {E : XK} {pos : Pos}
theorem lcx_read {K : PySem.W.Frag} {i : Nat} {ws vs : List Nat} (hw : ∀ j, j ∈ ws → j ∈ vs) (hi : i ∉ vs) (σ : L2.St) (H : Hp) (Q : VK) (h : TX K CN E i (lcX i fa b fx vs) σ H Q) : tLc (TId K fa) (TGd K ws b) tYes (TX K CN E i fx) vs σ H Q := by
  obtain ⟨B, F0, F, e, o, r, ok, rs, hs, fr, q⟩ := h
  obtain ⟨ds, hd, fr⟩ := bind1 fr
  split at fr
  · rename_i hz
    split at fr
    · rename_i L n0 hen
      split at fr
      · rename_i hso
        obtain ⟨res, hres, rfl⟩ := Option.map_eq_some_iff.mp fr
        refine ⟨B, F0, F, e, ds, ok, hd, fun J Fp Hs g w D hD => ?_⟩
        have okS := ok.grow g
        obtain ⟨r2, s2, b1, b2, bz, dx, wl, b3, b4⟩ := okS.fn i L n0 hen
        have er : r = r2 := by rw [hs] at s2; cases s2; rfl
        subst er
        have nDr : D ≠ r := fun z => by rw [z, b3] at hD; cases hD
        have hDo : offH Hs r D = none := by rw [offH_ne nDr]; exact hD
        have hF0 := (ok.offS rs hs).1
        refine ⟨fun k m H1 => ∃ F1 acc ys n, Gr Fp (offH Hs r) F1 H1 ∧ H1 D = some (.lst acc) ∧ F1 D = none ∧ SlAt K (offH Hs r) F1 H1 r L n ∧ DpAll K F1 acc ys ∧ ys.length ≤ k ∧ lcXGo i b fx vs e L (ds.drop k) n ys = some res ∧ m = ds.length - k ∧ k ≤ ds.length,
          ⟨ds.length, Fp, [], [], n0, (Gr.loose g.fh hD).offL b2, upd_same, fresh_back g.fh hD, ⟨offH_same, b2, bz, dx, wl, by rw [upd_ne (Ne.symm nDr)]; exact b3, b4⟩, .nil, Nat.le_refl _, hres, rfl, Nat.zero_le _⟩, ?_⟩
        rintro k m H1 ⟨F1, acc, ys, n, g1, hD1, hF1, sl1, dp1, hy, fr1, rfl, hk⟩
        have ok1 := okS.rdr hen hs hso g1 sl1 rfl
        obtain ⟨w1, w2⟩ := w k F1 H1 hk g1.ff g1.fh (.of (g1.ff.trans g1.fh))
        have gA : Gr F (offH H r) F1 H1 := stepO (g.offL hF0) okS ⟨L, n0, hen⟩ hs g1
        have hDH : offH H r D = none := by rw [offH_ne nDr]; exact g.fb hD
        have hl0 : i < e.length := (List.getElem?_eq_some_iff.mp hen).1
        cases hd : ds[k]? with
        | none =>
          have hl : ds.length ≤ k := List.getElem?_eq_none_iff.mp hd
          rw [List.drop_eq_nil_of_le hl] at fr1
          unfold lcXGo at fr1
          cases fr1
          have x : Ex F1 (upd F1 D (.lst acc)) := Ex.new hF1
          have sl2 : SlAt K (offH Hs r) (upd F1 D (.lst acc)) H1 r L n := sl1.updF hD1 hF1
          refine .inl ⟨w2 hd, q _ _ H1 (gA.frz hDH hF1 hD1) (okS.rdr hen hs hso (g1.frz hDo hF1 hD1) sl2 rfl) ⟨L, n, by rw [List.getElem?_set_self hl0]⟩ (.lst (SqL.of upd_same) (dpa_mono x dp1))⟩
        | some d =>
          have hl : k < ds.length := (List.getElem?_eq_some_iff.mp hd).1
          have hd' : ds[k] = d := (List.getElem?_eq_some_iff.mp hd).2
          rw [List.drop_eq_getElem_cons hl, hd'] at fr1
          unfold lcXGo at fr1
          obtain ⟨go, yl⟩ := w1 d hd
          obtain ⟨e2, hb2, fr1⟩ := bind1 fr1
          split at fr1
          · rename_i hrd
            obtain ⟨o2, ho2, fr1⟩ := bind1 fr1
            refine .inr ⟨go, fun H2 => ∃ F1 acc ys n, Gr Fp (offH Hs r) F1 H2 ∧ H2 D = some (.lst acc) ∧ F1 D = none ∧ SlAt K (offH Hs r) F1 H2 r L n ∧ DpAll K F1 acc ys ∧ ys.length ≤ k + 1 ∧ lcXGo i b fx vs e L (ds.drop (k + 1)) n ys = some res,
              fun H2 ⟨F2, acc2, ys2, n2, a1, a2, a3, a4, a5, a6, a7⟩ => ⟨ds.length - (k + 1), by omega, F2, acc2, ys2, n2, a1, a2, a3, a4, a5, a6, a7, rfl, hl⟩, fun x H2 hy2 => ?_⟩
            obtain ⟨F2, g2, dp⟩ := yl x H2 hy2
            refine ⟨B, F0, F2, wipeE (e.set i (some (.fn L n))) vs, d, e2, (ok1.wipe vs).grow g2, dp, hb2, fun σ3 ok3 l3 k3 => ⟨?_, ?_⟩⟩
            · have e1 : wipe σ3 vs = wipe (wipe σ vs) vs := wipe_eq (fun j hj => k3 j fun z => hj (hw j z)) l3
              rw [e1]
              exact wipe_eq (fun j hj => wipe_out hj) (wipe_length _ _)
            · simp only [tYes, if_true]
              have hs3 : σ3[i]? = some (some (.ref r)) := by
                rw [k3 i (fun z => hi (hw i z)), wipe_out hi]
                exact hs
              have rs3 := isRd_at hrd
              obtain ⟨c2, c1, dx3, fs3, c3⟩ := ok3.offS rs3 hs3
              have g12 : Gr Fp (offH Hs r) F2 H2 := g1.trans g2
              have hD2 : H2 D = some (.lst acc) := g2.hh _ _ hD1
              refine ⟨B, F0, F2, e2, o2, r, ok3, rs3, hs3, ho2, ?_⟩
              cases o2 with
              | exc => cases fr1; exact q
              | val x' e3 =>
                intro v F3 H3 g3 ok4 rs4 dp4
                have hD2o : offH H2 r D = some (.lst acc) := by rw [offH_ne nDr]; exact hD2
                have hD3 : H3 D = some (.lst acc) := g3.hh _ _ hD2o
                have hF3 : F3 D = none := by rw [g3.nf _ _ hD2o, g2.nf _ _ hD1]; exact hF1
                refine ⟨acc, hD3, ?_, ?_⟩
                · rw [dpa_len dp1]
                  exact Nat.lt_of_lt_of_le (Nat.lt_of_le_of_lt hy hl) (Nat.le_trans (sml_le hz) big_line)
                · dsimp only at fr1
                  split at fr1
                  · rename_i L' n' hen4
                    split at fr1
                    · rename_i eL
                      subst eL
                      obtain ⟨r4, s4, d1, d2, dz, dx4, wl4, d3, d4⟩ := ok4.fn i L' n' hen4
                      have er : r = r4 := by rw [hs3] at s4; cases s4; rfl
                      subst er
                      have g13 : Gr Fp (offH Hs r) F3 H3 := (gr_off g12 offH_same c2 c3).trans g3
                      refine ⟨F3, acc ++ [v], ys ++ [x'], n', g13.mut hDo hF3 hD3, upd_same, hF3, ⟨offH_same, d2, dz, dx4, wl4, by rw [upd_ne (Ne.symm nDr)]; exact d3, d4⟩, dpa_append (dpa_mono (g2.ff.trans g3.ff) dp1) (.cons dp4 .nil), ?_, fr1⟩
                      rw [List.length_append, List.length_singleton]
                      exact Nat.succ_le_succ hy
                    · cases fr1
                  · cases fr1
          · cases fr1
      · cases fr
    · cases fr
  · cases fr
variable {elt tg iter : Expr} {scope : Scope} {own : List (Str × Nat)} {ws : List Nat}
theorem dx_lc {i : Nat} (own : List (Str × Nat)) (hc : X.calm = true) (hN : X.N.Nodup) (hst : X.stack = X.env :: X.outer) (hfr : X.env.frame = some X.env.locals) (tk : Takes X (fun cls d _ H => E cls d H)) (hi : DI X tg iter fa) (ok : BlkOk X.N X.env.scope scope own)
    (hg : ∀ (s : Shared) (H : Hp) (C : Addr) (cl : List (Str × Addr)) (fp : List Addr), DG (X.blk s H scope (compEnvC scope cl C X.env) fp) tg ws b)
    (he : ∀ (s : Shared) (H : Hp) (C : Addr) (cl : List (Str × Addr)) (fp : List Addr) (pn : List (Addr × Obj)) (xe : Value → Shared → Prop), Passes (L2.CX X.prog X.w) ((X.blk s H scope (compEnvC scope cl C X.env) fp).tr pn xe) E → DX ((X.blk s H scope (compEnvC scope cl C X.env) fp).tr pn xe) CN E i elt fx)
    (hw : ∀ j, j ∈ ws → j ∈ own.map (·.2) := by decide) (hiv : i ∉ own.map (·.2) := by decide) (hs : ∀ x, foldedSetIterable iter X.env x = pure x := by intro _; rfl) :
    DX X CN E i (.ListComp elt [⟨tg, iter, [], 0⟩] scope pos) (lcX i fa b fx (own.map (·.2))) := pe_imp (pe_lcX (g := TGd X.K ws b) (tt := tYes) (te := TX X.K CN E i fx) (WD := E) hc hN hst hfr tk hi ok hg (fun _ _ _ _ _ => pts_nil) he hs) (lcx_read hw hiv)
end
/-! ### defs that may raise -/
def spX (K : PySem.W.Frag) (CN : Addr) (m : Nat) (M : List D → Option (Option D)) : Sp := fun vs H Q E => vs.length = m ∧ ∃ F ds o, (Ex F H ∧ NT F ∧ TbK K H) ∧ DpAll K F vs ds ∧ M ds = some o ∧
  match o with
  | some d => ∀ v F' H', Gr F H F' H' → Dp K F' v d → Q v H'
  | none => ∀ F' H', Gr F H F' H' → E (.ref CN) none H'
abbrev FnX (P : Program) (w : World) (K : PySem.W.Frag) (mg : Str → Option Value) (base : Heap) (k : Nat) (f : Addr) (fd : FuncData) (ps : List Str) (CN : Addr) (M : List D → Option (Option D)) : Prop := FnOk P w K mg base (L2.CX P w) k f fd ps (spX K CN ps.length M)
def runX (n : Nat) (body : FSX) : List D → Option (Option D) := fun ds => (body (startE n ds)).bind fun r => match r with
  | .rt d _ => some (some d)
  | .nx _ => some (some .none)
  | .exc => some none
def noRaise (M : List D → Option (Option D)) : List D → Option D := fun ds => (M ds).bind id
def raisesD (M : List D → Option (Option D)) : List D → Option D := fun ds => (M ds).map fun o => .bool o.isNone
section
variable {P : Program} {w : World} {K : PySem.W.Frag} {mg : Str → Option Value} {base : Heap} {k : Nat} {x qual : Str} {args : Arguments} {st : List Stmt} {sc : Scope} {f CN : Addr} {fd : FuncData} {N ps : List Str} {y : Str} {body : FSX} {n : Nat} {M : List D → Option (Option D)}
theorem fn_mkX (F : FunD K x qual args st sc [] [] f fd) (S : FnScope N ps sc) (hn : N.length = n)
    (hb : ∀ (cdv : Value) (A : Around) (outer : List Env) (s : Shared) (H : Hp) (E : XK), Room k (A.deeper (envOfC qual sc s.heap.objs.size f cdv)) → DSXs (cxOf (L2.CX P w) P w K mg base N qual sc f cdv A outer s H E) CN E st body) :
    FnX P w K mg base (k + 1) f fd ps CN (runX n body) := by
  refine F.ok S (fun vs H Q E h => h.1) (fun cdv A outer s H vs Q E hr h => ⟨_, hb cdv A outer s H E hr, ?_⟩)
  obtain ⟨_, F, ds, o, ⟨x1, x2, x3⟩, dps, hM, q⟩ := h
  unfold runX at hM
  obtain ⟨res, hres, hM⟩ := bind1 hM
  rw [← hn] at hres
  refine ⟨H, F, F, _, res, ok_start x1 x2 x3 dps, hres, ?_⟩
  cases res with
  | rt d e' => cases hM; exact fun v σ' F' H' ok' dp => q v F' H' ok'.gr dp
  | nx e' => cases hM; exact fun σ' F' H' _ ok' => q _ F' H' ok'.gr .non
  | exc => cases hM; exact fun F' H' g => q F' H' g
/-- called where it does not raise -/
theorem fn_noRaise (G : FnX P w K mg base k f fd ps CN M) : FnD P w K mg base k f fd ps (noRaise M) := by
  have conv : ∀ vs H Q E, spD K ps.length (noRaise M) vs H Q E → spX K CN ps.length M vs H Q (fun _ _ _ => False) := fun vs H Q E h => by
    obtain ⟨F, ds, d, x, dp, hl, hM, q⟩ := h
    unfold noRaise at hM
    obtain ⟨o, ho, hM⟩ := bind1 hM
    cases o with
    | none => cases hM
    | some d' =>
      have e : d' = d := Option.some.inj hM
      subst e
      exact ⟨by rw [dpa_len dp]; exact hl, F, ds, some d', x, dp, ho, q⟩
  refine ⟨fun vs H Q E h => (conv vs H Q E h).1, fun A outer s H as us vs Q E hr e0 hb r h => codeAny_mono (G.run A outer s H as us vs Q (fun _ _ _ => False) hr e0 hb r (conv vs H Q E h)) fun r s' hq => ?_⟩
  cases r with
  | error e =>
    obtain ⟨a, B, H', cls, d, _, _, _, _, _, _, _, hE⟩ := hq
    exact hE.elim
  | ok fl => cases fl <;> exact hq
/-- try: f(x) except X: return True; return False -/
theorem fn_raises {fr : Addr} {fdr : FuncData} {psr : List Str} {xr xt xn : Str} {j1 j2 : Nat} {p1 p2 p3 p4 p5 p6 p7 p8 p9 p10 p11 : Pos} {N : List Str}
    (F : FunD K x qual args [.Try [.Expr (.Call (.Name xr p1) [.Name xt p2] [] p3) p4] [.ExceptHandler (some (.Name xn p5)) none [.Return (some (.Constant (.bool true) j1 p6)) p7] p8] [] [] p9, .Return (some (.Constant (.bool false) j2 p10)) p11] sc [] [] f fd)
    (S : FnScope N [xt] sc) (G : FnX P w K mg base k fr fdr psr CN M) (hps : psr.length = 1) (hm : mg xr = some (.ref fr)) (kp : PySem.W.keepIn K (.ref fr) = true) (b : Binds K fdr psr []) (hn : mg xn = some (.ref CN)) (te : PySem.W.exmOne K (.ref CN) (.ref CN) = some true)
    (hN : N[0]? = some xt) (hv : Vis sc xt) (hd : (xt == ("__debug__" : Str)) = false) (hcd : (xt == ("__classdict__" : Str)) = false)
    (hgr : ∀ (cdv : Value) (A : Around) (outer : List Env) (s : Shared) (H : Hp) (E : XK), Gl (cxOf CX0 P w K mg base N qual sc f cdv A outer s H E) xr) (hdr : (xr == ("__debug__" : Str)) = false)
    (hgn : ∀ (cdv : Value) (A : Around) (outer : List Env) (s : Shared) (H : Hp) (E : XK), Gl (cxOf CX0 P w K mg base N qual sc f cdv A outer s H E) xn) (hdn : (xn == ("__debug__" : Str)) = false) :
    FnD P w K mg base (k + 1) f fd [xt] (raisesD M) := by
  refine F.ok S (fun vs H Q E h => ?_) (fun cdv A outer s H vs Q E hr h => ⟨_, pss_cons (ps_try_only (c := .ref CN) (Wout := fun _ _ _ _ => False) (tb := fun W => tDrop (tCallS (spX K CN psr.length M) (WE W) (tCons (tVar 0) tNil))) (ts := fun _ _ _ => tRet (tC (.bl true))) rfl rfl ⟨hgn cdv A outer s H E, hdn, .inl hn⟩
    (fun u s' ⟨_, _, _, _, _, _, _, _, _, _, _, _, _, _, _, _, z⟩ => z.elim) (fun W pn xe tk hp => pss_one (ps_expr (pe_callS G hr (hgr cdv A outer s H E) hm kp b (fun σ => passAt tk σ) (pa_cons (pe_var hN hv hd hcd) pa_nil rfl) hdr rfl rfl)))
    (fun a oe cls d pn hz hd => pss_one (ps_ret pe_bl))) (pss_one (ps_ret pe_bl)), ?_⟩)
  · obtain ⟨F, ds, d, _, dp, hl, _⟩ := h
    rw [dpa_len dp]; exact hl
  · obtain ⟨F, ds, d, x, dp, hl, hM, q⟩ := h
    obtain ⟨o, ho, rfl⟩ := Option.map_eq_some_iff.mp hM
    obtain ⟨v, rfl⟩ : ∃ v, vs = [v] := by
      have := dpa_len dp
      rw [hl] at this
      match vs, this with
      | [v], _ => exact ⟨v, rfl⟩
    refine ⟨v, rfl, hps.symm, F, ds, o, x, dp, ho, ?_⟩
    cases o with
    | some d' => exact fun v' F' H' g dp' => q _ F' H' g (.bl _)
    | none => exact fun F' H' g => ⟨true, te, fun _ a _ => q _ F' H' g (.bl _), fun z => by cases z⟩
/-- __init__(self, words): self.words = words; self.at = 0 -/
theorem init_read {N : List Str} (kk : RdK K) (vs : List V) (H : Hp) (Q : VK) (E : XK) (h : spInit K vs H Q E) : tSeq (sFld K (tVar 0) (tVar 1) "words") (sFld K (tVar 0) (tC (.int 0)) "at") { nx := fun _ H' => Q .non H', rt := Q } (L2.start N vs) H := by
  obtain ⟨x, dx, v, rfl, hx, q⟩ := h
  have h1 : ¬ (("words" : Str) = ("at" : Str)) := by decide +kernel
  refine ⟨v, rfl, .ref x, rfl, x, rdC K, dx, [], rfl, hx, kk.c, kk.nws, (by show 0 < 1000; decide), .ref x, rfl, x, rdC K, dx, [(("words" : Str), v)], rfl, upd_same, kk.c, kk.nat, (by show 1 < 1000; decide), ?_⟩
  have e : putF ("at" : Str) (V.int 0) [(("words" : Str), v)] = [(("words" : Str), v), (("at" : Str), .int 0)] := by simp [putF, h1]
  rw [e]
  exact q
end
end DL
namespace DL
open PySem
/-- the words still to come, and one -/
def muR (i : Nat) : DEnv → Nat := fun e => match e[i]? with
  | some (some (.fn L n)) => L.ws.length + 1 - n.toNat
  | _ => 0
def clsBody : Stmt → List Stmt
  | .ClassDef _ _ _ b _ _ _ _ _ _ _ => b
  | _ => []
theorem fn_noneM {P : Program} {w : World} {K : PySem.W.Frag} {mg : Str → Option Value} {base : Heap} {k : Nat} {f : Addr} {fd : FuncData} {ps : List Str} {CN : Addr} : FnM P w K mg base k f fd ps CN (fun _ _ _ => none) :=
  ⟨fun vs H Q E h => h.1, fun A outer s H args us vs Q E hr e0 hb r h => (by obtain ⟨_, F, r, ws, n, vs', ds, o, _, _, _, _, h, _⟩ := h; cases h)⟩
end DL

/-! DLay29: text.split(sep) -/
namespace DL
open PySem PySem.Spec PyProof.Rows L2 Evl
def sml640 (n : Nat) : Bool := Nat.ble n 640
def splA (f g : FE) : FA := fun e => (f e).bind fun x => (g e).bind fun y => match x, y with
  | .str a, .str b => if (b.length == 0) = false ∧ sml (a.length + 2) = true then some ((Txt.split a b).map PyData.str) else none
  | _, _ => none
theorem dpa_strs {K : PySem.W.Frag} {F : Hp} : ∀ (ns : List Str), DpAll K F (ns.map V.str) (ns.map PyData.str)
  | [] => .nil
  | n :: ns => .cons (.str n) (dpa_strs ns)
section
variable {X : Cx} {o e : Expr} {f g : FE} {apos pos : Pos}
theorem dn_split (ho : DE X o f) (he : DE X e g) (hs : starEach [e] X.env = [(false, eval e X.env)] := by rfl) (hbase : attributeBase o "split" X.env (eval o X.env) = eval o X.env := by rfl) (hline : (apos.endLine == pos.line) = true := by rfl) :
    DN X (.Call (.Attribute o "split" apos) [e] [] pos) (splA f g) := pe_imp (pe_split ho he hs hbase hline) fun σ H Q ⟨B, F0, F, e, xs, ok, fe, q⟩ => by
  obtain ⟨x, y, hx, hy, fe⟩ := bind2 fe
  split at fe
  · rename_i a b
    split at fe
    · rename_i hz
      cases fe
      refine ⟨B, F0, F, e, _, ok, hx, fun v1 F1 H1 g1 d1 => ⟨⟨_, dp_str d1⟩, B, F0, F1, e, _, ok.grow g1, hy, fun v2 F2 H2 g2 d2 => ?_⟩⟩
      refine ⟨a, b, dp_str d1, by rw [dp_str d2], hz.1, Nat.le_trans (sml_le hz.2) big_line, fun p hp => ?_⟩
      have g12 := g1.trans g2
      exact q p _ F2 _ (g12.trans (Gr.loose g2.fh hp)) (g12.fb hp) (fresh_back g2.fh hp) upd_same (dpa_strs _)
    · cases fe
  · cases fe
/-- int(text) -/
def intSD : D → Option D
  | .str a => if sml640 a.length = true then (PySem.intText? a).map .int else none
  | _ => none
theorem cd_intS {K : PySem.W.Frag} : CD1 K (fun xs H Q => ∃ a n, xs = [.str a] ∧ PySem.intText? a = some n ∧ a.length ≤ 640 ∧ Q (.int n) H) intSD := by
  intro F H x a d Q xf ha hg q
  unfold intSD at hg
  split at hg
  · rename_i z
    split at hg
    · rename_i hz
      obtain ⟨n, hn, rfl⟩ := Option.map_eq_some_iff.mp hg
      rw [rs_str ha]
      exact ⟨z, n, rfl, hn, Nat.le_of_ble_eq_true hz, q.now xf (.int _)⟩
    · cases hg
  · cases hg
theorem de_intS {p : Pos} (hm : X.mg "int" = none) (h : DR X e f) (hg : Gl X "int" := by rfl) (hs : starEach [e] X.env = (false, eval e X.env) :: starEach [] X.env := by rfl) : DE X (.Call (.Name "int" p) [e] [] pos) (c1 intSD f) := de_t1 call_int_str cd_intS (by decide +kernel) hm h hg (by decide) (by decide) hs
@[simp] theorem e_splA {e : DEnv} : splA f g e = (f e).bind fun x => (g e).bind fun y => match x, y with
  | .str a, .str b => if (b.length == 0) = false ∧ sml (a.length + 2) = true then some ((Txt.split a b).map PyData.str) else none
  | _, _ => none := (rfl)
end
end DL

/-! DLay30: the words of DLay25..29, computed -/
namespace DL
open PySem
def flX (o : Option FlX) (g : FSX) : Option FlX := o.bind fun r => match r with
  | .nx e' => g e'
  | r => some r
def nxX (o : Option Fl) : Option FlX := o.bind fun r => match r with
  | .nx e' => some (.nx e')
  | _ => none
def outX (o : Option Out) (k : D → DEnv → Option FlX) : Option FlX := o.bind fun o => match o with
  | .val d e' => k d e'
  | .exc => some .exc
def ifX (b : Option Bool) (f g : FSX) (e : DEnv) : Option FlX := b.bind fun b => if b = true then f e else g e
section
variable {f g : FSX} {fs : FS} {p : FB} {fx gx : FX} {fa : FXA} {fe : FE} {e e' : DEnv} {i j : Nat} {k : D → DEnv → Option FlX} {d : D} {ds : List D}
@[simp] theorem flX_nx : flX (some (.nx e)) g = g e := (rfl)
@[simp] theorem flX_rt : flX (some (.rt d e)) g = some (.rt d e) := (rfl)
@[simp] theorem flX_exc : flX (some .exc) g = some .exc := (rfl)
@[simp] theorem nxX_nx : nxX (some (.nx e)) = some (.nx e) := (rfl)
@[simp] theorem outX_val : outX (some (.val d e)) k = k d e := (rfl)
@[simp] theorem outX_exc : outX (some .exc) k = some .exc := (rfl)
@[simp] theorem ifX_t : ifX (some true) f g e = f e := (rfl)
@[simp] theorem ifX_f : ifX (some false) f g e = g e := (rfl)
@[simp] theorem e_xNx : xNx e = some (.nx e) := (rfl)
@[simp] theorem e_xExc : xExc e = some .exc := (rfl)
@[simp] theorem e_xSeq : xSeq f g e = flX (f e) g := (rfl)
@[simp] theorem e_xDS : xDS fs e = nxX (fs e) := (rfl)
@[simp] theorem e_xIf : xIf p f g e = ifX (p e) f g e := (rfl)
@[simp] theorem e_xBind : xBind i fx k e = if isRd i e = true then outX (fx e) k else none := (rfl)
@[simp] theorem e_xRet : xRet i fx e = if isRd i e = true then outX (fx e) (fun d e => some (.rt d e)) else none := (rfl)
@[simp] theorem e_xAsg : xAsg i j fx e = if isRd i e = true then outX (fx e) (fun d e => some (.nx (e.set j (some (.sh d))))) else none := (rfl)
@[simp] theorem e_xExpr : xExpr i fx e = if isRd i e = true then outX (fx e) (fun _ e => some (.nx e)) else none := (rfl)
@[simp] theorem e_xRetD : xRetD fe e = (fe e).map fun d => .rt d e := (rfl)
@[simp] theorem e_xIfX : xIfX i fx f g e = if isRd i e = true then outX (fx e) (fun d e => ifX (asB d) f g e) else none := (rfl)
@[simp] theorem e_liftE : liftE fe e = (fe e).map (.val · e) := (rfl)
@[simp] theorem e_opX {G : D → D → Option D} : opX G fx gx e = bindX (fx e) fun a e1 => bindX (gx e1) fun b e2 => (G a b).map (.val · e2) := (rfl)
@[simp] theorem e_c1X {G : D → Option D} : c1X G fx e = bindX (fx e) fun a e1 => (G a).map (.val · e1) := (rfl)
@[simp] theorem bindX_val {k : D → DEnv → Option Out} : bindX (some (.val d e)) k = k d e := (rfl)
@[simp] theorem bindX_exc {k : D → DEnv → Option Out} : bindX (some .exc) k = some .exc := (rfl)
def bindA (o : Option OutA) (k : List D → DEnv → Option Out) : Option Out := o.bind fun o => match o with
  | .exc => some .exc
  | .val ds e1 => k ds e1
def bindAA (o : Option Out) (k : D → DEnv → Option OutA) : Option OutA := o.bind fun o => match o with
  | .exc => some .exc
  | .val d e1 => k d e1
def consO (d : D) (o : Option OutA) : Option OutA := o.bind fun o => match o with
  | .exc => some .exc
  | .val ds e2 => some (.val (d :: ds) e2)
@[simp] theorem e_tupX : tupX fa e = bindA (fa e) fun ds e1 => some (.val (.tuple ds) e1) := (rfl)
@[simp] theorem e_nilX : nilX e = some (.val [] e) := (rfl)
@[simp] theorem e_consX : consX fx fa e = bindAA (fx e) fun d e1 => consO d (fa e1) := (rfl)
@[simp] theorem bindA_val {k : List D → DEnv → Option Out} : bindA (some (.val ds e)) k = k ds e := (rfl)
@[simp] theorem bindA_exc {k : List D → DEnv → Option Out} : bindA (some .exc) k = some .exc := (rfl)
@[simp] theorem bindAA_val {k : D → DEnv → Option OutA} : bindAA (some (.val d e)) k = k d e := (rfl)
@[simp] theorem bindAA_exc {k : D → DEnv → Option OutA} : bindAA (some .exc) k = some .exc := (rfl)
@[simp] theorem consO_val : consO d (some (.val ds e)) = some (.val (d :: ds) e) := (rfl)
@[simp] theorem consO_exc : consO d (some .exc) = some .exc := (rfl)
/-- at the front -/
@[simp] theorem isRd_0 {L : LamT} {n : Int} : isRd 0 (some (.fn L n) :: e) = true := (rfl)
@[simp] theorem e_atE {L : LamT} {n : Int} : atE 0 (some (.fn L n) :: e) = some (.int n) := (rfl)
@[simp] theorem e_wordsE {L : LamT} {n : Int} : wordsE 0 (some (.fn L n) :: e) = some (.list L.ws) := (rfl)
def noFn : DEnv → Bool
  | [] => true
  | some (.fn _ _) :: _ => false
  | _ :: e => noFn e
theorem sole_no {i : Nat} : ∀ {e : DEnv} {k : Nat}, noFn e = true → sole i k e = true
  | [], _, _ => rfl
  | none :: e, k, h => sole_no (e := e) (k := k + 1) h
  | some (.sh _) :: e, k, h => sole_no (e := e) (k := k + 1) h
  | some (.ow _) :: e, k, h => sole_no (e := e) (k := k + 1) h
  | some (.od _) :: e, k, h => sole_no (e := e) (k := k + 1) h
  | some (.fn _ _) :: e, k, h => by cases h
@[simp] theorem noFn_nil : noFn [] = true := (rfl)
@[simp] theorem noFn_none : noFn (none :: e) = noFn e := (rfl)
@[simp] theorem noFn_sh : noFn (some (.sh d) :: e) = noFn e := (rfl)
@[simp] theorem noFn_ow : noFn (some (.ow ds) :: e) = noFn e := (rfl)
theorem sole_0 {L : LamT} {n : Int} (h : noFn e = true) : sole 0 0 (some (.fn L n) :: e) = true := by
  show ((0 == 0) && sole 0 1 e) = true
  rw [sole_no h]
  rfl
theorem e_sAt {L : LamT} {n m : Int} (h : noFn e = true) (hf : fe (some (.fn L n) :: e) = some (.int m)) : sAt 0 fe (some (.fn L n) :: e) = some (.nx (some (.fn L m) :: e)) := by
  unfold sAt
  rw [hf]
  show (if sole 0 0 (some (.fn L n) :: e) = true then _ else _) = _
  rw [if_pos (sole_0 h)]
  rfl
def mrX (L : LamT) (e : DEnv) (r : Option (Option (D × Int))) : Option Out := r.map fun r => match r with
  | some (d, n') => .val d (some (.fn L n') :: e)
  | none => .exc
@[simp] theorem mrX_some {L : LamT} {n : Int} : mrX L e (some (some (d, n))) = some (.val d (some (.fn L n) :: e)) := (rfl)
@[simp] theorem mrX_none {L : LamT} : mrX L e (some none) = some .exc := (rfl)
theorem e_mthX {L : LamT} {n : Int} {m : Nat} {M : MR} {fa : FA} (h : noFn e = true) (hf : fa (some (.fn L n) :: e) = some ds) (hl : ds.length + 1 = m) : mthX 0 m M fa (some (.fn L n) :: e) = mrX L e (M L.ws n ds) := by
  unfold mthX
  rw [hf]
  show (if sole 0 0 (some (.fn L n) :: e) = true ∧ ds.length + 1 = m then _ else _) = _
  rw [if_pos ⟨sole_0 h, hl⟩]
  rfl
@[simp] theorem e_endM {L : LamT} {n : Int} : endM L d (some (.fn L n) :: e) = some (some (d, n)) := by
  unfold endM
  exact if_pos rfl
noncomputable def endA (L : LamT) (r : Option FlX) : Option (Option (D × Int)) := r.bind fun r => match r with
  | .rt d e => endM L d e
  | .nx e => endM L .none e
  | .exc => some none
theorem runA_eq {n : Nat} {body : FSX} {L : LamT} {a : Int} : runA n body L a ds = endA L (body (some (.fn L a) :: startE n ds)) := (rfl)
@[simp] theorem endA_rt {L : LamT} : endA L (some (.rt d e)) = endM L d e := (rfl)
@[simp] theorem endA_exc {L : LamT} : endA L (some .exc) = some none := (rfl)
end
end DL

namespace W
open PySem PySem.Spec PyProof.Rows L2 Evl DL
noncomputable section
def topS (i : Nat) : Stmt := PySem.Challenge.pw_growbox_k05_whole_texts_of_parts.main.body.getD i (.Pass ⟨0, 0, 0, 0⟩)
abbrev FnP (K : PySem.W.Frag) (x : Str) (st : Stmt) (f : Addr) (fd : FuncData) : Prop := FunD K x x (defArgs st) (defBody st) (defScope st) [] [] f fd
abbrev s_is_whole : Stmt := topS 8
abbrev N_is_whole : List Str := ["thing", "low", "high"]
theorem sc_is_whole : FnScope N_is_whole ["thing", "low", "high"] (defScope s_is_whole) := ⟨rfl, rfl, rfl, by decide +kernel, rfl, by decide +kernel, by decide +kernel⟩
abbrev s_is_name : Stmt := topS 9
abbrev N_is_name : List Str := ["thing", "sign"]
theorem sc_is_name : FnScope N_is_name ["thing"] (defScope s_is_name) := ⟨rfl, rfl, rfl, by decide +kernel, rfl, by decide +kernel, by decide +kernel⟩
abbrev s_is_span : Stmt := topS 10
abbrev N_is_span : List Str := ["thing", "part"]
theorem sc_is_span : FnScope N_is_span ["thing"] (defScope s_is_span) := ⟨rfl, rfl, rfl, by decide +kernel, rfl, by decide +kernel, by decide +kernel⟩
abbrev s_are_boxes : Stmt := topS 11
abbrev N_are_boxes : List Str := ["thing", "many", "deep", "part"]
theorem sc_are_boxes : FnScope N_are_boxes ["thing", "many", "deep"] (defScope s_are_boxes) := ⟨rfl, rfl, rfl, by decide +kernel, rfl, by decide +kernel, by decide +kernel⟩
abbrev s_is_box_to : Stmt := topS 12
abbrev N_is_box_to : List Str := ["thing", "deep", "word", "part"]
theorem sc_is_box_to : FnScope N_is_box_to ["thing", "deep"] (defScope s_is_box_to) := ⟨rfl, rfl, rfl, by decide +kernel, rfl, by decide +kernel, by decide +kernel⟩
abbrev s_boxes_in : Stmt := topS 13
abbrev N_boxes_in : List Str := ["box"]
theorem sc_boxes_in : FnScope N_boxes_in ["box"] (defScope s_boxes_in) := ⟨rfl, rfl, rfl, by decide +kernel, rfl, by decide +kernel, by decide +kernel⟩
abbrev s_names_in : Stmt := topS 14
abbrev N_names_in : List Str := ["box", "found", "part"]
theorem sc_names_in : FnScope N_names_in ["box"] (defScope s_names_in) := ⟨rfl, rfl, rfl, by decide +kernel, rfl, by decide +kernel, by decide +kernel⟩
abbrev s_is_box : Stmt := topS 15
abbrev N_is_box : List Str := ["thing"]
theorem sc_is_box : FnScope N_is_box ["thing"] (defScope s_is_box) := ⟨rfl, rfl, rfl, by decide +kernel, rfl, by decide +kernel, by decide +kernel⟩
abbrev s_span_words : Stmt := topS 21
abbrev N_span_words : List Str := ["span", "part"]
theorem sc_span_words : FnScope N_span_words ["span"] (defScope s_span_words) := ⟨rfl, rfl, rfl, by decide +kernel, rfl, by decide +kernel, by decide +kernel⟩
abbrev s_box_words : Stmt := topS 22
abbrev N_box_words : List Str := ["box", "found", "part"]
theorem sc_box_words : FnScope N_box_words ["box"] (defScope s_box_words) := ⟨rfl, rfl, rfl, by decide +kernel, rfl, by decide +kernel, by decide +kernel⟩
abbrev s_written : Stmt := topS 23
abbrev N_written : List Str := ["box"]
theorem sc_written : FnScope N_written ["box"] (defScope s_written) := ⟨rfl, rfl, rfl, by decide +kernel, rfl, by decide +kernel, by decide +kernel⟩
abbrev s_read : Stmt := topS 29
abbrev N_read : List Str := ["text", "reader", "found"]
theorem sc_read : FnScope N_read ["text"] (defScope s_read) := ⟨rfl, rfl, rfl, by decide +kernel, rfl, by decide +kernel, by decide +kernel⟩
abbrev s_Lcell_at : Stmt := topS 31
abbrev N_Lcell_at : List Str := ["script", "k"]
theorem sc_Lcell_at : FnScope N_Lcell_at ["script", "k"] (defScope s_Lcell_at) := ⟨rfl, rfl, rfl, by decide +kernel, rfl, by decide +kernel, by decide +kernel⟩
abbrev s_Lmixed : Stmt := topS 32
abbrev N_Lmixed : List Str := ["script", "k", "drawn"]
theorem sc_Lmixed : FnScope N_Lmixed ["script", "k"] (defScope s_Lmixed) := ⟨rfl, rfl, rfl, by decide +kernel, rfl, by decide +kernel, by decide +kernel⟩
abbrev s_Ldrawn : Stmt := topS 33
abbrev N_Ldrawn : List Str := ["number", "k", "drawn"]
theorem sc_Ldrawn : FnScope N_Ldrawn ["number", "k"] (defScope s_Ldrawn) := ⟨rfl, rfl, rfl, by decide +kernel, rfl, by decide +kernel, by decide +kernel⟩
abbrev s_Lspan : Stmt := topS 34
abbrev N_Lspan : List Str := ["number", "least", "wish", "most"]
theorem sc_Lspan : FnScope N_Lspan ["number"] (defScope s_Lspan) := ⟨rfl, rfl, rfl, by decide +kernel, rfl, by decide +kernel, by decide +kernel⟩
abbrev s_Lbox : Stmt := topS 35
abbrev N_Lbox : List Str := ["number", "name", "deep", "kind", "many", "gap", "boxes", "rims", "k"]
theorem sc_Lbox : FnScope N_Lbox ["number", "name", "deep"] (defScope s_Lbox) := ⟨rfl, rfl, rfl, by decide +kernel, rfl, by decide +kernel, by decide +kernel⟩
abbrev s_Lin : Stmt := topS 36
abbrev N_Lin : List Str := ["box"]
theorem sc_Lin : FnScope N_Lin ["box"] (defScope s_Lin) := ⟨rfl, rfl, rfl, by decide +kernel, rfl, by decide +kernel, by decide +kernel⟩
abbrev s_Lnames : Stmt := topS 37
abbrev N_Lnames : List Str := ["box", "found", "part"]
theorem sc_Lnames : FnScope N_Lnames ["box"] (defScope s_Lnames) := ⟨rfl, rfl, rfl, by decide +kernel, rfl, by decide +kernel, by decide +kernel⟩
abbrev s_Lnone : Stmt := topS 38
abbrev N_Lnone : List Str := ["text"]
theorem sc_Lnone : FnScope N_Lnone ["text"] (defScope s_Lnone) := ⟨rfl, rfl, rfl, by decide +kernel, rfl, by decide +kernel, by decide +kernel⟩
abbrev s_Lby_hand : Stmt := topS 39
abbrev N_Lby_hand : List Str := ["number", "bad", "good", "k", "text"]
theorem sc_Lby_hand : FnScope N_Lby_hand ["number"] (defScope s_Lby_hand) := ⟨rfl, rfl, rfl, by decide +kernel, rfl, by decide +kernel, by decide +kernel⟩
abbrev s_law : Stmt := topS 40
abbrev N_law : List Str := ["script", "word", "leaf", "some", "many", "deep", "one", "other", "here", "there", "text", "k", "name"]
theorem sc_law : FnScope N_law ["script"] (defScope s_law) := ⟨rfl, rfl, rfl, by decide +kernel, rfl, by decide +kernel, by decide +kernel⟩
abbrev s_Rinit : Stmt := (clsBody (topS 28)).getD 0 (.Pass ⟨0, 0, 0, 0⟩)
abbrev N_Rinit : List Str := ["self", "words"]
abbrev PS_Rinit : List Str := ["self", "words"]
theorem sc_Rinit : FnScope N_Rinit PS_Rinit (defScope s_Rinit) := ⟨rfl, rfl, rfl, by decide +kernel, rfl, by decide +kernel, by decide +kernel⟩
abbrev s_Rword : Stmt := (clsBody (topS 28)).getD 1 (.Pass ⟨0, 0, 0, 0⟩)
abbrev N_Rword : List Str := ["self"]
abbrev PS_Rword : List Str := ["self"]
theorem sc_Rword : FnScope N_Rword PS_Rword (defScope s_Rword) := ⟨rfl, rfl, rfl, by decide +kernel, rfl, by decide +kernel, by decide +kernel⟩
abbrev s_Rnumber : Stmt := (clsBody (topS 28)).getD 2 (.Pass ⟨0, 0, 0, 0⟩)
abbrev N_Rnumber : List Str := ["self", "word", "sign"]
abbrev PS_Rnumber : List Str := ["self"]
theorem sc_Rnumber : FnScope N_Rnumber PS_Rnumber (defScope s_Rnumber) := ⟨rfl, rfl, rfl, by decide +kernel, rfl, by decide +kernel, by decide +kernel⟩
abbrev s_Rnumbers : Stmt := (clsBody (topS 28)).getD 3 (.Pass ⟨0, 0, 0, 0⟩)
abbrev N_Rnumbers : List Str := ["self", "many", "k"]
abbrev PS_Rnumbers : List Str := ["self", "many"]
theorem sc_Rnumbers : FnScope N_Rnumbers PS_Rnumbers (defScope s_Rnumbers) := ⟨rfl, rfl, rfl, by decide +kernel, rfl, by decide +kernel, by decide +kernel⟩
abbrev s_Rboxes : Stmt := (clsBody (topS 28)).getD 4 (.Pass ⟨0, 0, 0, 0⟩)
abbrev N_Rboxes : List Str := ["self", "deep", "found"]
abbrev PS_Rboxes : List Str := ["self", "deep"]
theorem sc_Rboxes : FnScope N_Rboxes PS_Rboxes (defScope s_Rboxes) := ⟨rfl, rfl, rfl, by decide +kernel, rfl, by decide +kernel, by decide +kernel⟩
abbrev s_Rbox : Stmt := (clsBody (topS 28)).getD 5 (.Pass ⟨0, 0, 0, 0⟩)
abbrev N_Rbox : List Str := ["self", "deep", "head"]
abbrev PS_Rbox : List Str := ["self", "deep"]
theorem sc_Rbox : FnScope N_Rbox PS_Rbox (defScope s_Rbox) := ⟨rfl, rfl, rfl, by decide +kernel, rfl, by decide +kernel, by decide +kernel⟩
abbrev noC (K : PySem.W.Frag) : Addr := He.ga K "NoText"
structure T (w : World) (K : PySem.W.Frag) (mg : Str → Option Value) where
  a_is_whole : Addr
  fd_is_whole : FuncData
  F_is_whole : FnP K "is_whole" s_is_whole a_is_whole fd_is_whole
  g_is_whole : mg "is_whole" = some (.ref a_is_whole)
  b_is_whole : Binds K fd_is_whole ["thing", "low", "high"] []
  a_is_name : Addr
  fd_is_name : FuncData
  F_is_name : FnP K "is_name" s_is_name a_is_name fd_is_name
  g_is_name : mg "is_name" = some (.ref a_is_name)
  b_is_name : Binds K fd_is_name ["thing"] []
  a_is_span : Addr
  fd_is_span : FuncData
  F_is_span : FnP K "is_span" s_is_span a_is_span fd_is_span
  g_is_span : mg "is_span" = some (.ref a_is_span)
  b_is_span : Binds K fd_is_span ["thing"] []
  a_are_boxes : Addr
  fd_are_boxes : FuncData
  F_are_boxes : FnP K "are_boxes" s_are_boxes a_are_boxes fd_are_boxes
  g_are_boxes : mg "are_boxes" = some (.ref a_are_boxes)
  b_are_boxes : Binds K fd_are_boxes ["thing", "many", "deep"] []
  a_is_box_to : Addr
  fd_is_box_to : FuncData
  F_is_box_to : FnP K "is_box_to" s_is_box_to a_is_box_to fd_is_box_to
  g_is_box_to : mg "is_box_to" = some (.ref a_is_box_to)
  b_is_box_to : Binds K fd_is_box_to ["thing", "deep"] []
  a_boxes_in : Addr
  fd_boxes_in : FuncData
  F_boxes_in : FnP K "boxes_in" s_boxes_in a_boxes_in fd_boxes_in
  g_boxes_in : mg "boxes_in" = some (.ref a_boxes_in)
  b_boxes_in : Binds K fd_boxes_in ["box"] []
  a_names_in : Addr
  fd_names_in : FuncData
  F_names_in : FnP K "names_in" s_names_in a_names_in fd_names_in
  g_names_in : mg "names_in" = some (.ref a_names_in)
  b_names_in : Binds K fd_names_in ["box"] []
  a_is_box : Addr
  fd_is_box : FuncData
  F_is_box : FnP K "is_box" s_is_box a_is_box fd_is_box
  g_is_box : mg "is_box" = some (.ref a_is_box)
  b_is_box : Binds K fd_is_box ["thing"] []
  a_span_words : Addr
  fd_span_words : FuncData
  F_span_words : FnP K "span_words" s_span_words a_span_words fd_span_words
  g_span_words : mg "span_words" = some (.ref a_span_words)
  b_span_words : Binds K fd_span_words ["span"] []
  a_box_words : Addr
  fd_box_words : FuncData
  F_box_words : FnP K "box_words" s_box_words a_box_words fd_box_words
  g_box_words : mg "box_words" = some (.ref a_box_words)
  b_box_words : Binds K fd_box_words ["box"] []
  a_written : Addr
  fd_written : FuncData
  F_written : FnP K "written" s_written a_written fd_written
  g_written : mg "written" = some (.ref a_written)
  b_written : Binds K fd_written ["box"] []
  a_read : Addr
  fd_read : FuncData
  F_read : FnP K "read" s_read a_read fd_read
  g_read : mg "read" = some (.ref a_read)
  b_read : Binds K fd_read ["text"] []
  a_Lcell_at : Addr
  fd_Lcell_at : FuncData
  F_Lcell_at : FnP K "_law_cell_at" s_Lcell_at a_Lcell_at fd_Lcell_at
  g_Lcell_at : mg "_law_cell_at" = some (.ref a_Lcell_at)
  b_Lcell_at : Binds K fd_Lcell_at ["script", "k"] []
  a_Lmixed : Addr
  fd_Lmixed : FuncData
  F_Lmixed : FnP K "_law_mixed" s_Lmixed a_Lmixed fd_Lmixed
  g_Lmixed : mg "_law_mixed" = some (.ref a_Lmixed)
  b_Lmixed : Binds K fd_Lmixed ["script", "k"] []
  a_Ldrawn : Addr
  fd_Ldrawn : FuncData
  F_Ldrawn : FnP K "_law_drawn" s_Ldrawn a_Ldrawn fd_Ldrawn
  g_Ldrawn : mg "_law_drawn" = some (.ref a_Ldrawn)
  b_Ldrawn : Binds K fd_Ldrawn ["number", "k"] []
  a_Lspan : Addr
  fd_Lspan : FuncData
  F_Lspan : FnP K "_law_span" s_Lspan a_Lspan fd_Lspan
  g_Lspan : mg "_law_span" = some (.ref a_Lspan)
  b_Lspan : Binds K fd_Lspan ["number"] []
  a_Lbox : Addr
  fd_Lbox : FuncData
  F_Lbox : FnP K "_law_box" s_Lbox a_Lbox fd_Lbox
  g_Lbox : mg "_law_box" = some (.ref a_Lbox)
  b_Lbox : Binds K fd_Lbox ["number", "name", "deep"] []
  a_Lin : Addr
  fd_Lin : FuncData
  F_Lin : FnP K "_law_in" s_Lin a_Lin fd_Lin
  g_Lin : mg "_law_in" = some (.ref a_Lin)
  b_Lin : Binds K fd_Lin ["box"] []
  a_Lnames : Addr
  fd_Lnames : FuncData
  F_Lnames : FnP K "_law_names" s_Lnames a_Lnames fd_Lnames
  g_Lnames : mg "_law_names" = some (.ref a_Lnames)
  b_Lnames : Binds K fd_Lnames ["box"] []
  a_Lnone : Addr
  fd_Lnone : FuncData
  F_Lnone : FnP K "_law_none" s_Lnone a_Lnone fd_Lnone
  g_Lnone : mg "_law_none" = some (.ref a_Lnone)
  b_Lnone : Binds K fd_Lnone ["text"] []
  a_Lby_hand : Addr
  fd_Lby_hand : FuncData
  F_Lby_hand : FnP K "_law_by_hand" s_Lby_hand a_Lby_hand fd_Lby_hand
  g_Lby_hand : mg "_law_by_hand" = some (.ref a_Lby_hand)
  b_Lby_hand : Binds K fd_Lby_hand ["number"] []
  a_law : Addr
  fd_law : FuncData
  F_law : FnP K "law" s_law a_law fd_law
  g_law : mg "law" = some (.ref a_law)
  b_law : Binds K fd_law ["script"] []
  a_Rinit : Addr
  fd_Rinit : FuncData
  F_Rinit : FunD K "__init__" "Reader.__init__" (defArgs s_Rinit) (defBody s_Rinit) (defScope s_Rinit) [] [] a_Rinit fd_Rinit
  b_Rinit : Binds K fd_Rinit PS_Rinit []
  a_Rword : Addr
  fd_Rword : FuncData
  F_Rword : FunD K "word" "Reader.word" (defArgs s_Rword) (defBody s_Rword) (defScope s_Rword) [] [] a_Rword fd_Rword
  b_Rword : Binds K fd_Rword PS_Rword []
  mt_Rword : Meth K (rdC K) "word" a_Rword
  a_Rnumber : Addr
  fd_Rnumber : FuncData
  F_Rnumber : FunD K "number" "Reader.number" (defArgs s_Rnumber) (defBody s_Rnumber) (defScope s_Rnumber) [] [] a_Rnumber fd_Rnumber
  b_Rnumber : Binds K fd_Rnumber PS_Rnumber []
  mt_Rnumber : Meth K (rdC K) "number" a_Rnumber
  a_Rnumbers : Addr
  fd_Rnumbers : FuncData
  F_Rnumbers : FunD K "numbers" "Reader.numbers" (defArgs s_Rnumbers) (defBody s_Rnumbers) (defScope s_Rnumbers) [] [] a_Rnumbers fd_Rnumbers
  b_Rnumbers : Binds K fd_Rnumbers PS_Rnumbers []
  mt_Rnumbers : Meth K (rdC K) "numbers" a_Rnumbers
  a_Rboxes : Addr
  fd_Rboxes : FuncData
  F_Rboxes : FunD K "boxes" "Reader.boxes" (defArgs s_Rboxes) (defBody s_Rboxes) (defScope s_Rboxes) [] [] a_Rboxes fd_Rboxes
  b_Rboxes : Binds K fd_Rboxes PS_Rboxes []
  mt_Rboxes : Meth K (rdC K) "boxes" a_Rboxes
  a_Rbox : Addr
  fd_Rbox : FuncData
  F_Rbox : FunD K "box" "Reader.box" (defArgs s_Rbox) (defBody s_Rbox) (defScope s_Rbox) [] [] a_Rbox fd_Rbox
  b_Rbox : Binds K fd_Rbox PS_Rbox []
  mt_Rbox : Meth K (rdC K) "box" a_Rbox
  mkr : Mk K (rdC K) a_Rinit
  rk : RdK K
  gR : mg "Reader" = some (.ref (rdC K))
  gx : mg "NoText" = some (.ref (noC K))
  ex : PySem.W.excIn K (noC K) He.veBase "ValueError.__new__" = true
  kx : PySem.W.keepIn K (.ref (noC K)) = true
  rx1 : PySem.W.subIn K (.ref (noC K)) (.type "BaseException") = some true
  rx2 : PySem.W.typeIn K (.ref (noC K)) = some (.type "type")
  te : PySem.W.exmOne K (.ref (noC K)) (.ref (noC K)) = some true
  m_isinstance : mg "isinstance" = none
  m_bool : mg "bool" = none
  m_int : mg "int" = none
  m_all : mg "all" = none
  m_len : mg "len" = none
  m_str : mg "str" = none
  m_tuple : mg "tuple" = none
  m_set : mg "set" = none
  m_range : mg "range" = none
  m_min : mg "min" = none
  m_enumerate : mg "enumerate" = none
  k_LETTERS : Tok
  c_LETTERS : mg "LETTERS" = some (.str "abcdefghijklmnopqrstuvwxyz" k_LETTERS)
  k_LONGEST_NAME : Tok
  c_LONGEST_NAME : mg "LONGEST_NAME" = some (.int 4 k_LONGEST_NAME)
  k_FAR : Tok
  c_FAR : mg "FAR" = some (.int 999 k_FAR)
  k_MOST_SHARE : Tok
  c_MOST_SHARE : mg "MOST_SHARE" = some (.int 9 k_MOST_SHARE)
  k_MOST_BOXES : Tok
  c_MOST_BOXES : mg "MOST_BOXES" = some (.int 4 k_MOST_BOXES)
  k_MOST_PILE : Tok
  c_MOST_PILE : mg "MOST_PILE" = some (.int 3 k_MOST_PILE)
  k_DEEPEST_boxes : Tok
  c_DEEPEST_boxes : mg "DEEPEST_boxes" = some (.int 4 k_DEEPEST_boxes)
  k_NONE : Tok
  c_NONE : mg "NONE" = some (.str "-" k_NONE)
  k_DEEPEST_reading : Tok
  c_DEEPEST_reading : mg "DEEPEST_reading" = some (.int 6 k_DEEPEST_reading)
  k_FIGURES : Tok
  c_FIGURES : mg "FIGURES" = some (.str "0123456789" k_FIGURES)
  k_MOST_FIGURES : Tok
  c_MOST_FIGURES : mg "MOST_FIGURES" = some (.int 3 k_MOST_FIGURES)
def D_is_whole : FS := (sRet (andV (c1 (isiD .int) (vr 0)) (andV (notV (c1 (isiD .bool) (vr 0))) (chD leD leD (vr 1) (vr 0) (vr 2)))))
def M_is_whole : List D → Option D := runF 3 D_is_whole
def D_is_name : FS := (sRet (andV (c1 (isiD .str) (vr 0)) (andV (chD leD leD (cst (.int 1)) (c1 lenD (vr 0)) (cst (.int 4))) (c1 allD (lstE (lcD (itA (vr 0)) (bNm 1) yesT (c2 inD (vr 1) (cst (.str "abcdefghijklmnopqrstuvwxyz"))) [1]))))))
def M_is_name : List D → Option D := runF 2 D_is_name
def D_is_span : FS := (sq (sIf (orT (notT (tst (c1 (isiD .tuple) (vr 0)))) (orT (tst (c2 neD (c1 lenD (vr 0)) (cst (.int 5)))) (notT (tst (c1 allD (lstE (lcD (itA (slD (vr 0) noP (yesP (cst (.int 2))))) (bNm 1) yesT (cA M_is_whole (consA (vr 1) (consA (cst (.int 0)) (consA (cst (.int 999)) nilA)))) [1]))))))) (sRet (cst (.bool false))) sNx)
    (sq (sIf (orT (tst (c2 gtD (c2 ixD (vr 0) (cst (.int 0))) (c2 ixD (vr 0) (cst (.int 1))))) (notT (tst (c1 allD (lstE (lcD (itA (slD (vr 0) (yesP (cst (.int 3))) noP)) (bNm 1) yesT (cA M_is_whole (consA (vr 1) (consA (cst (.int 0)) (consA (cst (.int 9)) nilA)))) [1])))))) (sRet (cst (.bool false))) sNx)
    (sRet (orV (c1 isND (c2 ixD (vr 0) (cst (.int 2)))) (cA M_is_whole (consA (c2 ixD (vr 0) (cst (.int 2))) (consA (c2 ixD (vr 0) (cst (.int 1))) (consA (cst (.int 999)) nilA))))))))
def M_is_span : List D → Option D := runF 2 D_is_span
def C_are_boxes_1 (R1 R2 : List D → Option D) : FE := (cA R2 (consA (vr 3) (consA (vr 2) nilA)))
def D_are_boxes (R1 R2 : List D → Option D) : FS := (sq (sIf (orT (notT (tst (c1 (isiD .tuple) (vr 0)))) (notT (tst (chD leD leD (cst (.int 1)) (c1 lenD (vr 0)) (vr 1))))) (sRet (cst (.bool false))) sNx)
    (sRet (c1 allD (lstE (lcD (itA (vr 0)) (bNm 3) yesT (C_are_boxes_1 R1 R2) [3])))))
def C_is_box_to_1 (R1 R2 : List D → Option D) : FE := (cA M_is_whole (consA (vr 3) (consA (cst (.int 0)) (consA (cst (.int 999)) nilA))))
def D_is_box_to (R1 R2 : List D → Option D) : FS := (sq (sIf (orT (tst (c2 eqD (vr 1) (cst (.int 0)))) (orT (notT (tst (c1 (isiD .tuple) (vr 0)))) (orT (tst (c2 ltD (c1 lenD (vr 0)) (cst (.int 3)))) (notT (tst (c1 (isiD .str) (c2 ixD (vr 0) (cst (.int 0))))))))) (sRet (cst (.bool false))) sNx)
    (sq (sIf (notT (tst (cA M_is_name (consA (c2 ixD (vr 0) (cst (.int 1))) nilA)))) (sRet (cst (.bool false))) sNx)
    (sq (sAsg 2 (c2 ixD (vr 0) (cst (.int 0))))
    (sq (sIf (tst (c2 eqD (vr 2) (cst (.str "leaf")))) (sRet (andV (c2 eqD (c1 lenD (vr 0)) (cst (.int 4))) (andV (cA M_is_span (consA (c2 ixD (vr 0) (cst (.int 2))) nilA)) (cA M_is_span (consA (c2 ixD (vr 0) (cst (.int 3))) nilA))))) sNx)
    (sq (sIf (tst (c2 inD (vr 2) (tup (consA (cst (.str "row")) (consA (cst (.str "col")) nilA))))) (sRet (andV (c2 eqD (c1 lenD (vr 0)) (cst (.int 4))) (andV (cA M_is_whole (consA (c2 ixD (vr 0) (cst (.int 2))) (consA (cst (.int 0)) (consA (cst (.int 999)) nilA)))) (cA R1 (consA (c2 ixD (vr 0) (cst (.int 3))) (consA (cst (.int 4)) (consA (c2 subD (vr 1) (cst (.int 1))) nilA))))))) sNx)
    (sq (sIf (tst (c2 eqD (vr 2) (cst (.str "pile")))) (sRet (andV (c2 eqD (c1 lenD (vr 0)) (cst (.int 3))) (cA R1 (consA (c2 ixD (vr 0) (cst (.int 2))) (consA (cst (.int 3)) (consA (c2 subD (vr 1) (cst (.int 1))) nilA)))))) sNx)
    (sq (sIf (orT (tst (c2 neD (vr 2) (cst (.str "rim")))) (tst (c2 neD (c1 lenD (vr 0)) (cst (.int 7))))) (sRet (cst (.bool false))) sNx)
    (sRet (andV (c1 allD (lstE (lcD (itA (slD (vr 0) (yesP (cst (.int 2))) (yesP (cst (.int 6))))) (bNm 3) yesT (C_is_box_to_1 R1 R2) [3]))) (cA R2 (consA (c2 ixD (vr 0) (cst (.int 6))) (consA (c2 subD (vr 1) (cst (.int 1))) nilA))))))))))))
def MM_are_boxes : Nat → (List D → Option D) × (List D → Option D)
  | 0 => (fun _ => none, fun _ => none)
  | n + 1 => (runF 4 (D_are_boxes (MM_are_boxes n).1 (MM_are_boxes n).2), runF 4 (D_is_box_to (MM_are_boxes n).1 (MM_are_boxes n).2))
def M_are_boxes (n : Nat) : List D → Option D := (MM_are_boxes n).1
def M_is_box_to (n : Nat) : List D → Option D := (MM_are_boxes n).2
def D_boxes_in : FS := (sq (sIf (tst (c2 eqD (c2 ixD (vr 0) (cst (.int 0))) (cst (.str "leaf")))) (sRet (tup nilA)) sNx)
    (sq (sIf (tst (c2 eqD (c2 ixD (vr 0) (cst (.int 0))) (cst (.str "rim")))) (sRet (tup (consA (c2 ixD (vr 0) (cst (.int 6))) nilA))) sNx)
    (sRet (c2 ixD (vr 0) (c1 negD (cst (.int 1)))))))
def M_boxes_in : List D → Option D := runF 1 D_boxes_in
def B_names_in_1 (R : List D → Option D) : FS := (sAsg 1 (c2 addD (vr 1) (cA R (consA (vr 2) nilA))))
def D_names_in (R : List D → Option D) : FS := (sq (sAsg 1 (tup (consA (c2 ixD (vr 0) (cst (.int 1))) nilA)))
    (sq (sFor (itA (cA M_boxes_in (consA (vr 0) nilA))) (bNm 2) (B_names_in_1 R))
    (sRet (vr 1))))
def M_names_in : Nat → List D → Option D
  | 0 => fun _ => none
  | n + 1 => runF 3 (D_names_in (M_names_in n))
def D_is_box : FS := (sq (sIf (notT (tst (cA (M_is_box_to 12) (consA (vr 0) (consA (cst (.int 4)) nilA))))) (sRet (cst (.bool false))) sNx)
    (sRet (c2 eqD (c1 lensetD (cA (M_names_in 12) (consA (vr 0) nilA))) (c1 lenD (cA (M_names_in 12) (consA (vr 0) nilA))))))
def M_is_box : List D → Option D := runF 1 D_is_box
def C_span_words_1 : FE := (c2 ixD (lstE (consA (c1 strD (vr 1)) (consA (cst (.str "-")) nilA))) (c1 intD (c1 isND (vr 1))))
def D_span_words : FS := (sRet (lstE (lcD (itA (vr 0)) (bNm 1) yesT C_span_words_1 [1])))
def M_span_words : List D → Option D := runF 2 D_span_words
def C_box_words_1 (R : List D → Option D) : FE := (c1 strD (vr 2))
def C_box_words_2 (R : List D → Option D) : FE := (c1 strD (vr 2))
def B_box_words_1 (R : List D → Option D) : FS := (sAsg 1 (c2 addD (vr 1) (cA R (consA (vr 2) nilA))))
def D_box_words (R : List D → Option D) : FS := (sq (sAsg 1 (lstE (consA (c2 ixD (vr 0) (cst (.int 0))) (consA (c2 ixD (vr 0) (cst (.int 1))) nilA))))
    (sq (sIf (tst (c2 eqD (c2 ixD (vr 0) (cst (.int 0))) (cst (.str "leaf")))) (sRet (c2 addD (c2 addD (vr 1) (cA M_span_words (consA (c2 ixD (vr 0) (cst (.int 2))) nilA))) (cA M_span_words (consA (c2 ixD (vr 0) (cst (.int 3))) nilA)))) sNx)
    (sq (sIf (tst (c2 eqD (c2 ixD (vr 0) (cst (.int 0))) (cst (.str "rim")))) (sRet (c2 addD (c2 addD (vr 1) (lstE (lcD (itA (slD (vr 0) (yesP (cst (.int 2))) (yesP (cst (.int 6))))) (bNm 2) yesT (C_box_words_1 R) [2]))) (cA R (consA (c2 ixD (vr 0) (cst (.int 6))) nilA)))) sNx)
    (sq (sAsg 1 (c2 addD (c2 addD (vr 1) (lstE (lcD (itA (slD (vr 0) (yesP (cst (.int 2))) (yesP (c1 negD (cst (.int 1)))))) (bNm 2) yesT (C_box_words_2 R) [2]))) (lstE (consA (cst (.str "[")) nilA))))
    (sq (sFor (itA (cA M_boxes_in (consA (vr 0) nilA))) (bNm 2) (B_box_words_1 R))
    (sRet (c2 addD (vr 1) (lstE (consA (cst (.str "]")) nilA)))))))))
def M_box_words : Nat → List D → Option D
  | 0 => fun _ => none
  | n + 1 => runF 3 (D_box_words (M_box_words n))
def D_written : FS := (sRet (c2 joinD (cst (.str " ")) (cA (M_box_words 12) (consA (vr 0) nilA))))
def M_written : List D → Option D := runF 1 D_written
def D_Rword : FSX := (xSeq (xIf (tst (c2 eqD (atE 0) (c1 lenD (wordsE 0)))) xExc xNx)
    (xSeq (xDS (sAt 0 (c2 addD (atE 0) (cst (.int 1)))))
    (xRetD (c2 ixD (wordsE 0) (c2 subD (atE 0) (cst (.int 1)))))))
def M_Rword : MR := runM 0 D_Rword
def C_Rnumber_1 : FE := (c2 inD (vr 2) (cst (.str "0123456789")))
def D_Rnumber : FSX := (xSeq (xAsg 0 1 (mthX 0 1 M_Rword nilA))
    (xSeq (xIf (tst (c2 eqD (vr 1) (cst (.str "-")))) (xRetD (cst .none)) xNx)
    (xSeq (xIf (orT (notT (tst (chD leD leD (cst (.int 1)) (c1 lenD (vr 1)) (cst (.int 3))))) (notT (tst (c1 allD (lstE (lcD (itA (vr 1)) (bNm 2) yesT C_Rnumber_1 [2])))))) xExc xNx)
    (xRetD (c1 intSD (vr 1))))))
def M_Rnumber : MR := runM 2 D_Rnumber
def C_Rnumbers_1 : FX := (mthX 0 1 M_Rnumber nilA)
def D_Rnumbers : FSX := (xRet 0 (c1X tupleD (lcX 0 (rg1 (vr 1)) (bNm 2) C_Rnumbers_1 [2])))
def M_Rnumbers : MR := runM 2 D_Rnumbers
def T_Rboxes_1 (R1 R2 : MR) : FB := (andT (tst (c2 ltD (atE 0) (c1 lenD (wordsE 0)))) (tst (c2 neD (c2 ixD (wordsE 0) (atE 0)) (cst (.str "]")))))
def B_Rboxes_1 (R1 R2 : MR) : FSX := (xApp 0 2 (mthX 0 2 R2 (consA (vr 1) nilA)))
def D_Rboxes (R1 R2 : MR) : FSX := (xSeq (xIfX 0 (opX neD (mthX 0 1 M_Rword nilA) (liftE (cst (.str "[")))) xExc xNx)
    (xSeq (xDS (sNew 2 nilA))
    (xSeq (xWhile (muR 0) (T_Rboxes_1 R1 R2) (B_Rboxes_1 R1 R2))
    (xSeq (xExpr 0 (mthX 0 1 M_Rword nilA))
    (xRetD (c1 tupleD (vo 2)))))))
def D_Rbox (R1 R2 : MR) : FSX := (xSeq (xIf (tst (c2 eqD (vr 1) (cst (.int 0)))) xExc xNx)
    (xSeq (xAsg 0 2 (tupX (consX (mthX 0 1 M_Rword nilA) (consX (mthX 0 1 M_Rword nilA) nilX))))
    (xSeq (xIf (tst (c2 eqD (c2 ixD (vr 2) (cst (.int 0))) (cst (.str "leaf")))) (xRet 0 (opX addD (liftE (vr 2)) (tupX (consX (mthX 0 2 M_Rnumbers (consA (cst (.int 5)) nilA)) (consX (mthX 0 2 M_Rnumbers (consA (cst (.int 5)) nilA)) nilX))))) xNx)
    (xSeq (xIf (tst (c2 eqD (c2 ixD (vr 2) (cst (.int 0))) (cst (.str "rim")))) (xRet 0 (opX addD (opX addD (liftE (vr 2)) (mthX 0 2 M_Rnumbers (consA (cst (.int 4)) nilA))) (tupX (consX (mthX 0 2 R2 (consA (c2 subD (vr 1) (cst (.int 1))) nilA)) nilX)))) xNx)
    (xSeq (xIf (tst (c2 inD (c2 ixD (vr 2) (cst (.int 0))) (tup (consA (cst (.str "row")) (consA (cst (.str "col")) nilA))))) (xRet 0 (opX addD (opX addD (liftE (vr 2)) (mthX 0 2 M_Rnumbers (consA (cst (.int 1)) nilA))) (tupX (consX (mthX 0 2 R1 (consA (c2 subD (vr 1) (cst (.int 1))) nilA)) nilX)))) xNx)
    (xSeq (xIf (tst (c2 neD (c2 ixD (vr 2) (cst (.int 0))) (cst (.str "pile")))) xExc xNx)
    (xRet 0 (opX addD (liftE (vr 2)) (tupX (consX (mthX 0 2 R1 (consA (c2 subD (vr 1) (cst (.int 1))) nilA)) nilX))))))))))
def MM_R : Nat → MR × MR
  | 0 => (fun _ _ _ => none, fun _ _ _ => none)
  | n + 1 => (runM 2 (D_Rboxes (MM_R n).1 (MM_R n).2), runM 2 (D_Rbox (MM_R n).1 (MM_R n).2))
def M_Rboxes (n : Nat) : MR := (MM_R n).1
def M_Rbox (n : Nat) : MR := (MM_R n).2
def D_read : FSX := (xSeq (xIf (notT (tst (c1 (isiD .str) (vr 0)))) xExc xNx)
    (xSeq (xDS (sMake 1 (lstE (splA (vr 0) (cst (.str " "))))))
    (xSeq (xAsg 1 2 (mthX 1 2 (M_Rbox 14) (consA (cst (.int 6)) nilA)))
    (xSeq (xIf (orT (notT (tst (cA M_is_box (consA (vr 2) nilA)))) (tst (c2 neD (cA M_written (consA (vr 2) nilA)) (vr 0)))) xExc xNx)
    (xRetD (vr 2))))))
def M_read : List D → Option (Option D) := runX 3 D_read
def D_Lcell_at : FS := (sq (sIf (tst (c2 ltD (vr 1) (c1 lenD (vr 0)))) (sRet (c2 ixD (vr 0) (vr 1))) sNx)
    (sRet (cst (.int 0))))
def M_Lcell_at : List D → Option D := runF 2 D_Lcell_at
def D_Lmixed : FS := (sq (sAsg 2 (c2 modD (c2 mulD (c2 addD (c2 addD (cA M_Lcell_at (consA (vr 0) (consA (vr 1) nilA))) (c2 mulD (cst (.int 7919)) (vr 1))) (cst (.int 1))) (cst (.int 48271))) (cst (.int 2147483647))))
    (sRet (c2 modD (c2 addD (c2 addD (c2 mulD (vr 2) (vr 2)) (c2 mulD (cst (.int 7)) (vr 2))) (vr 1)) (cst (.int 2147483629)))))
def M_Lmixed : List D → Option D := runF 3 D_Lmixed
def D_Ldrawn : FS := (sq (sAsg 2 (c2 modD (c2 mulD (c2 addD (c2 addD (vr 0) (c2 mulD (cst (.int 104729)) (vr 1))) (cst (.int 17))) (cst (.int 69621))) (cst (.int 2147483647))))
    (sRet (c2 modD (c2 addD (c2 addD (c2 mulD (vr 2) (vr 2)) (c2 mulD (cst (.int 3)) (vr 2))) (vr 1)) (cst (.int 2147483629)))))
def M_Ldrawn : List D → Option D := runF 3 D_Ldrawn
def D_Lspan : FS := (sq (sAsg 1 (c2 modD (vr 0) (c2 ixD (tup (consA (cst (.int 21)) (consA (cst (.int 6)) (consA (cst (.int 200)) nilA)))) (c2 modD (c2 fdivD (vr 0) (cst (.int 8))) (cst (.int 3))))))
    (sq (sAsg 2 (c2 addD (vr 1) (c2 modD (c2 fdivD (vr 0) (cst (.int 64))) (c2 ixD (tup (consA (cst (.int 21)) (consA (cst (.int 1)) (consA (cst (.int 90)) nilA)))) (c2 modD (c2 fdivD (vr 0) (cst (.int 512))) (cst (.int 3)))))))
    (sq (sAsg 3 (c2 ixD (lstE (consA (cst .none) (consA (c2 addD (vr 2) (c2 modD (c2 fdivD (vr 0) (cst (.int 4096))) (cst (.int 30)))) (consA (vr 2) (consA (c2 addD (vr 2) (c2 modD (c2 fdivD (vr 0) (cst (.int 4096))) (cst (.int 300)))) nilA))))) (c2 modD (c2 fdivD (vr 0) (cst (.int 131072))) (cst (.int 4)))))
    (sRet (tup (consA (vr 1) (consA (vr 2) (consA (vr 3) (consA (c2 ixD (tup (consA (cst (.int 0)) (consA (cst (.int 1)) (consA (cst (.int 2)) (consA (cst (.int 3)) nilA))))) (c2 modD (c2 fdivD (vr 0) (cst (.int 524288))) (cst (.int 4)))) (consA (c2 ixD (tup (consA (cst (.int 1)) (consA (cst (.int 0)) (consA (cst (.int 2)) (consA (cst (.int 9)) nilA))))) (c2 modD (c2 fdivD (vr 0) (cst (.int 2097152))) (cst (.int 4)))) nilA))))))))))
def M_Lspan : List D → Option D := runF 4 D_Lspan
def M_Lbox : Nat → List D → Option D
  | 0 => fun _ => none
  | n + 1 => runF 9 ((sq (sAsg 3 (c2 modD (vr 0) (cst (.int 8))))
    (sq (sIf (orT (tst (c2 eqD (vr 2) (cst (.int 1)))) (tst (c2 gtD (vr 3) (cst (.int 5))))) (sRet (tup (consA (cst (.str "leaf")) (consA (vr 1) (consA (cA M_Lspan (consA (c2 fdivD (cA M_Ldrawn (consA (vr 0) (consA (cst (.int 1)) nilA))) (cst (.int 4))) nilA)) (consA (cA M_Lspan (consA (c2 fdivD (cA M_Ldrawn (consA (vr 0) (consA (cst (.int 2)) nilA))) (cst (.int 4))) nilA)) nilA)))))) sNx)
    (sq (sAsg 4 (c2 addD (cst (.int 1)) (c2 modD (c2 fdivD (vr 0) (cst (.int 8))) (cst (.int 4)))))
    (sq (sAsg 5 (c2 ixD (tup (consA (cst (.int 0)) (consA (cst (.int 3)) (consA (cst (.int 1)) (consA (cst (.int 10)) nilA))))) (c2 modD (c2 fdivD (vr 0) (cst (.int 64))) (cst (.int 4)))))
    (sq (sIf (tst (c2 eqD (vr 3) (cst (.int 4)))) (sq (sAsg 7 (c1 tupleD (lstE (lcD (rg1 (cst (.int 4))) (bNm 8) yesT (c2 modD (c2 fdivD (cA M_Ldrawn (consA (vr 0) (consA (c2 addD (cst (.int 3)) (vr 8)) nilA))) (cst (.int 4))) (cst (.int 7))) [8]))))
    (sRet (c2 addD (c2 addD (tup (consA (cst (.str "rim")) (consA (vr 1) nilA))) (vr 7)) (tup (consA (cA (M_Lbox n) (consA (c2 fdivD (cA M_Ldrawn (consA (vr 0) (consA (cst (.int 7)) nilA))) (cst (.int 4))) (consA (c2 addD (vr 1) (cst (.str "a"))) (consA (c2 subD (vr 2) (cst (.int 1))) nilA)))) nilA))))) sNx)
    (sq (sIf (tst (c2 eqD (vr 3) (cst (.int 5)))) (sAsg 4 (c2 min2D (vr 4) (cst (.int 3)))) sNx)
    (sq (sAsg 6 (c1 tupleD (lstE (lcD (rg1 (vr 4)) (bNm 8) yesT (cA (M_Lbox n) (consA (c2 fdivD (cA M_Ldrawn (consA (vr 0) (consA (c2 addD (cst (.int 10)) (vr 8)) nilA))) (cst (.int 4))) (consA (c2 addD (vr 1) (c2 ixD (cst (.str "abcd")) (vr 8))) (consA (c2 subD (vr 2) (cst (.int 1))) nilA)))) [8]))))
    (sq (sIf (tst (c2 eqD (vr 3) (cst (.int 5)))) (sRet (tup (consA (cst (.str "pile")) (consA (vr 1) (consA (vr 6) nilA))))) sNx)
    (sRet (tup (consA (c2 ixD (tup (consA (cst (.str "row")) (consA (cst (.str "col")) nilA))) (c2 modD (vr 3) (cst (.int 2)))) (consA (vr 1) (consA (vr 5) (consA (vr 6) nilA)))))))))))))))
def D_Lin : FS := (sq (sIf (tst (c2 eqD (c2 ixD (vr 0) (cst (.int 0))) (cst (.str "leaf")))) (sRet (tup nilA)) sNx)
    (sRet (c2 ixD (lstE (consA (c2 ixD (vr 0) (c2 subD (c1 lenD (vr 0)) (cst (.int 1)))) (consA (slD (vr 0) (yesP (cst (.int 6))) noP) nilA))) (c1 intD (c2 eqD (c2 ixD (vr 0) (cst (.int 0))) (cst (.str "rim")))))))
def M_Lin : List D → Option D := runF 1 D_Lin
def B_Lnames_1 (R : List D → Option D) : FS := (sAsg 1 (c2 addD (vr 1) (cA R (consA (vr 2) nilA))))
def D_Lnames (R : List D → Option D) : FS := (sq (sAsg 1 (tup (consA (c2 ixD (vr 0) (cst (.int 1))) nilA)))
    (sq (sFor (itA (cA M_Lin (consA (vr 0) nilA))) (bNm 2) (B_Lnames_1 R))
    (sRet (vr 1))))
def M_Lnames : Nat → List D → Option D
  | 0 => fun _ => none
  | n + 1 => runF 3 (D_Lnames (M_Lnames n))
def M_Lnone : List D → Option D := raisesD M_read
def B_Lby_hand_1 : FS := (sIf (notT (tst (cA M_Lnone (consA (c2 ixD (vr 1) (c2 modD (c2 addD (c2 fdivD (vr 0) (cst (.int 7))) (c2 mulD (cst (.int 5)) (vr 3))) (c1 lenD (vr 1)))) nilA)))) (sRet (cst (.bool false))) sNx)
def T_Lby_hand_1 : FB := (orT (tst (c2 neD (cA M_written (consA (cA (noRaise M_read) (consA (vr 4) nilA)) nilA)) (vr 4))) (notT (tst (cA M_is_box (consA (cA (noRaise M_read) (consA (vr 4) nilA)) nilA)))))
def C_Lby_hand_1 : FE := (vr 4)
def D_Lby_hand : FS := (sq (sAsg 1 (lstE (consA (cst (.str "")) (consA (cst (.str "leaf a")) (consA (cst (.str "leaf a 0 0 0 0 0")) (consA (cst (.str "leaf a 1 0 0 0 0 0 0 0 0 0")) (consA (cst (.str "leaf a 0 1 0 0 0 0 0 0 0 0")) nilA)))))))
    (sq (sAsg 1 (c2 addD (vr 1) (lstE (consA (cst (.str "leaf a 0 0 0 10 0 0 0 0 0 0")) (consA (cst (.str "leaf a 0 0 1000 0 0 0 0 0 0 0")) (consA (cst (.str "leaf abcde 0 0 0 0 0 0 0 0 0 0")) nilA))))))
    (sq (sAsg 1 (c2 addD (vr 1) (lstE (consA (cst (.str "leaf A 0 0 0 0 0 0 0 0 0 0")) (consA (cst (.str "leaf a 00 0 0 0 0 0 0 0 0 0")) (consA (cst (.str "leaf a - 0 0 0 0 0 0 0 0 0")) nilA))))))
    (sq (sAsg 1 (c2 addD (vr 1) (lstE (consA (cst (.str "leaf a 0 0 0 0 0 0 0 0 0 0 ")) (consA (cst (.str " leaf a 0 0 0 0 0 0 0 0 0 0")) (consA (cst (.str "leaf a 0 0 0 0 0 0 0 0 0")) (consA (cst (.str "box a 0 0")) nilA)))))))
    (sq (sAsg 2 (lstE (consA (cst (.str "leaf a 0 0 0 0 0 0 0 0 0 0")) (consA (cst (.str "leaf abcd 1 2 - 9 9 0 999 999 0 0")) (consA (cst (.str "row r 0 [ leaf a 0 0 - 0 0 0 0 - 0 0 ]")) nilA)))))
    (sq (sFor (rg1 (cst (.int 6))) (bNm 3) B_Lby_hand_1)
    (sRet (c2 eqD (lstE (lcD (itA (vr 2)) (bNm 4) T_Lby_hand_1 C_Lby_hand_1 [4])) (lstE nilA)))))))))
def M_Lby_hand : List D → Option D := runF 5 D_Lby_hand
def B_law_1 : FS := (sq (sAsg 10 (c2 addD (c2 addD (c2 addD (c2 addD (c2 addD (vr 1) (cst (.str " t 7 [ "))) (vr 8)) (cst (.str " "))) (vr 9)) (cst (.str " ]"))))
    (sq (sIf (orT (tst (c2 neD (cA M_written (consA (tup (consA (vr 1) (consA (cst (.str "t")) (consA (cst (.int 7)) (consA (tup (consA (vr 6) (consA (vr 7) nilA))) nilA))))) nilA)) (vr 10))) (tst (c2 neD (cA (noRaise M_read) (consA (vr 10) nilA)) (tup (consA (vr 1) (consA (cst (.str "t")) (consA (cst (.int 7)) (consA (tup (consA (vr 6) (consA (vr 7) nilA))) nilA)))))))) (sRet (cst (.bool false))) sNx)
    (sq (sIf (orT (notT (tst (cA M_Lnone (consA (c2 addD (c2 addD (c2 addD (c2 addD (c2 addD (vr 1) (cst (.str " t 7 [ "))) (vr 8)) (cst (.str " "))) (vr 8)) (cst (.str " ]"))) nilA)))) (notT (tst (cA M_Lnone (consA (c2 addD (c2 addD (c2 addD (vr 1) (cst (.str " x 7 [ "))) (vr 8)) (cst (.str " ]"))) nilA))))) (sRet (cst (.bool false))) sNx)
    (sIf (orT (notT (tst (cA M_Lnone (consA (slD (vr 10) noP (yesP (c1 negD (cst (.int 2))))) nilA)))) (orT (notT (tst (cA M_Lnone (consA (c2 addD (vr 1) (cst (.str " t 7 [ ]"))) nilA)))) (notT (tst (cA M_Lnone (consA (c2 addD (vr 10) (cst (.str " ]"))) nilA)))))) (sRet (cst (.bool false))) sNx))))
def C_law_1 : FE := (c2 addD (c2 addD (cst (.str "leaf ")) (vr 12)) (vr 2))
def B_law_2 : FS := (sq (sIf (tst (c2 neD (cA M_Lnone (consA (c2 addD (c2 addD (cst (.str "row t 0 [ ")) (c2 joinD (cst (.str " ")) (slD (vr 3) noP (yesP (vr 4))))) (cst (.str " ]"))) nilA)) (c2 gtD (vr 4) (cst (.int 4))))) (sRet (cst (.bool false))) sNx)
    (sIf (tst (c2 neD (cA M_Lnone (consA (c2 addD (c2 addD (cst (.str "pile t [ ")) (c2 joinD (cst (.str " ")) (slD (vr 3) noP (yesP (vr 4))))) (cst (.str " ]"))) nilA)) (c2 gtD (vr 4) (cst (.int 3))))) (sRet (cst (.bool false))) sNx))
def B_law_3 : FS := (sq (sAsg 5 (c2 addD (c2 addD (c2 addD (c2 addD (cst (.str "pile ")) (vr 12)) (cst (.str " [ "))) (vr 5)) (cst (.str " ]"))))
    (sIf (tst (c2 neD (cA M_Lnone (consA (vr 5) nilA)) (c2 gtD (vr 11) (cst (.int 2))))) (sRet (cst (.bool false))) sNx))
def D_law : FS := (sq (sPar 6 7 (consA (cA (M_Lbox 12) (consA (cA M_Lmixed (consA (vr 0) (consA (cst (.int 0)) nilA))) (consA (cst (.str "x")) (consA (cst (.int 3)) nilA)))) (consA (cA (M_Lbox 12) (consA (cA M_Lmixed (consA (vr 0) (consA (cst (.int 1)) nilA))) (consA (cst (.str "y")) (consA (cst (.int 2)) nilA)))) nilA)))
    (sq (sPar 8 9 (consA (cA M_written (consA (vr 6) nilA)) (consA (cA M_written (consA (vr 7) nilA)) nilA)))
    (sq (sIf (orT (tst (c2 neD (cA (noRaise M_read) (consA (vr 8) nilA)) (vr 6))) (tst (c2 neD (cA (M_names_in 12) (consA (vr 6) nilA)) (c1 tupleD (cA (M_Lnames 12) (consA (vr 6) nilA)))))) (sRet (cst (.bool false))) sNx)
    (sq (sFor (itA (tup (consA (cst (.str "row")) (consA (cst (.str "col")) nilA)))) (bNm 1) B_law_1)
    (sq (sIf (tst (c2 neD (cA (noRaise M_read) (consA (c2 addD (c2 addD (c2 addD (c2 addD (cst (.str "pile t [ ")) (vr 8)) (cst (.str " "))) (vr 9)) (cst (.str " ]"))) nilA)) (tup (consA (cst (.str "pile")) (consA (cst (.str "t")) (consA (tup (consA (vr 6) (consA (vr 7) nilA))) nilA)))))) (sRet (cst (.bool false))) sNx)
    (sq (sIf (orT (tst (c2 neD (cA (noRaise M_read) (consA (c2 addD (cst (.str "rim t 1 2 3 4 ")) (vr 8)) nilA)) (tup (consA (cst (.str "rim")) (consA (cst (.str "t")) (consA (cst (.int 1)) (consA (cst (.int 2)) (consA (cst (.int 3)) (consA (cst (.int 4)) (consA (vr 6) nilA)))))))))) (notT (tst (cA M_Lnone (consA (c2 addD (cst (.str "rim t 1 2 3 ")) (vr 8)) nilA))))) (sRet (cst (.bool false))) sNx)
    (sq (sIf (tst (c2 neD (cA (M_names_in 12) (consA (tup (consA (cst (.str "rim")) (consA (cst (.str "t")) (consA (cst (.int 1)) (consA (cst (.int 2)) (consA (cst (.int 3)) (consA (cst (.int 4)) (consA (vr 6) nilA)))))))) nilA)) (c2 addD (tup (consA (cst (.str "t")) nilA)) (cA (M_names_in 12) (consA (vr 6) nilA))))) (sRet (cst (.bool false))) sNx)
    (sq (sAsg 2 (cst (.str " 0 0 0 0 0 0 0 - 1 1")))
    (sq (sAsg 3 (lstE (lcD (itA (cst (.str "abcde"))) (bNm 12) yesT C_law_1 [12])))
    (sq (sFor (rg2 (cst (.int 1)) (cst (.int 6))) (bNm 4) B_law_2)
    (sq (sAsg 5 (c2 ixD (vr 3) (cst (.int 0))))
    (sq (sFor (enA (cst (.str "fghi"))) (bTp [(bNm 11), (bNm 12)]) B_law_3)
    (sRet (cA M_Lby_hand (consA (cA M_Lmixed (consA (vr 0) (consA (cst (.int 2)) nilA))) nilA)))))))))))))))
def M_law : List D → Option D := runF 13 D_law
section
variable {P : Program} {w : World} {K : PySem.W.Frag} {mg : Str → Option Value} {base : Heap}
theorem ok_is_whole (t : T w K mg) : FnD P w K mg base 1 t.a_is_whole t.fd_is_whole ["thing", "low", "high"] M_is_whole := fn_mk t.F_is_whole sc_is_whole rfl fun cdv A outer s H E hr =>
    ((ds_one (ds_ret (de_and (de_isi .int t.m_isinstance t.m_int (DE.dr (de_var 0))) (de_and (de_not (de_isi .bool t.m_isinstance t.m_bool (DE.dr (de_var 0)))) (de_one (de_chain op_leA od_le op_leA od_le (DE.dr (de_var 1)) (DE.dr (de_var 0)) (DE.dr (de_var 2)))))))))
theorem ok_is_name (t : T w K mg) : FnD P w K mg base 1 t.a_is_name t.fd_is_name ["thing"] M_is_name := fn_mk t.F_is_name sc_is_name rfl fun cdv A outer s H E hr =>
    ((ds_one (ds_ret (de_and (de_isi .str t.m_isinstance t.m_str (DE.dr (de_var 0))) (de_and (de_chain op_leA od_le op_leA od_le (DE.dr de_int) (DE.dr (de_len t.m_len (DE.dr (de_var 0)))) (DE.dr (de_gint (by rfl) t.c_LONGEST_NAME))) (de_one (de_all rfl t.m_all (DN.dr (dn_lc [("sign", 1)] rfl sc_is_name.nd (dir_any (DE.dr (de_var 0))) (blkOk_by (N := N_is_name) (sc := defScope s_is_name) (by decide +kernel)) (fun _ _ _ _ _ => (dg_name 1 sc_is_name.nd)) (fun _ _ _ _ _ => dts_nil) (fun _ _ _ _ _ => (de_cmp (op_inA hr.units) od_in (DE.dr (de_var 1)) (DE.dr (de_gstr (by rfl) t.c_LETTERS)) (by rfl))))))))))))
theorem ok_is_span (t : T w K mg) : FnD P w K mg base 2 t.a_is_span t.fd_is_span ["thing"] M_is_span := fn_mk t.F_is_span sc_is_span rfl fun cdv A outer s H E hr =>
    ((ds_cons (ds_if (DW.dt (dw_or (dt_not (dt_val (de_isi .tuple t.m_isinstance t.m_tuple (DE.dr (de_var 0))))) (dw_or (dt_cmp (op_neD hr.units) od_ne (DE.dr (de_len t.m_len (DE.dr (de_var 0)))) (DE.dr de_int) (nomark _)) (dw_or1 (dt_not (dt_val (de_all rfl t.m_all (DN.dr (dn_lc [("part", 1)] rfl sc_is_span.nd (dir_any (DE.dr (de_slice (DE.dr (de_var 0)) do_none (do_some de_int)))) (blkOk_by (N := N_is_span) (sc := defScope s_is_span) (by decide +kernel)) (fun _ _ _ _ _ => (dg_name 1 sc_is_span.nd)) (fun _ _ _ _ _ => dts_nil) (fun _ _ _ _ _ => (de_call (ok_is_whole t) hr (by decide) t.g_is_whole t.F_is_whole.kp t.b_is_whole (da_cons (de_var 1) (da_cons de_int (da_cons (de_gint (by rfl) t.c_FAR) da_nil))) (lq_cons (lq_cons (lq_cons lq_nil)))))))))))))) (ds_one (ds_ret de_bl)) ds_nil)
      (ds_cons (ds_if (DW.dt (dw_or (dt_cmp op_gt od_gt (DE.dr (de_ix (DE.dr (de_var 0)) (DE.dr de_int))) (DE.dr (de_ix (DE.dr (de_var 0)) (DE.dr de_int))) (nomark _)) (dw_or1 (dt_not (dt_val (de_all rfl t.m_all (DN.dr (dn_lc [("part", 1)] rfl sc_is_span.nd (dir_any (DE.dr (de_slice (DE.dr (de_var 0)) (do_some de_int) do_none))) (blkOk_by (N := N_is_span) (sc := defScope s_is_span) (by decide +kernel)) (fun _ _ _ _ _ => (dg_name 1 sc_is_span.nd)) (fun _ _ _ _ _ => dts_nil) (fun _ _ _ _ _ => (de_call (ok_is_whole t) hr (by decide) t.g_is_whole t.F_is_whole.kp t.b_is_whole (da_cons (de_var 1) (da_cons de_int (da_cons (de_gint (by rfl) t.c_MOST_SHARE) da_nil))) (lq_cons (lq_cons (lq_cons lq_nil))))))))))))) (ds_one (ds_ret de_bl)) ds_nil)
      (ds_one (ds_ret (de_or (de_isN (DE.dr (de_ix (DE.dr (de_var 0)) (DE.dr de_int)))) (de_one (de_call (ok_is_whole t) hr (by decide) t.g_is_whole t.F_is_whole.kp t.b_is_whole (da_cons (de_ix (DE.dr (de_var 0)) (DE.dr de_int)) (da_cons (de_ix (DE.dr (de_var 0)) (DE.dr de_int)) (da_cons (de_gint (by rfl) t.c_FAR) da_nil))) (lq_cons (lq_cons (lq_cons lq_nil)))))))))))
theorem okk_are_boxes (t : T w K mg) : ∀ n, FnD P w K mg base (2 + n) t.a_are_boxes t.fd_are_boxes ["thing", "many", "deep"] (M_are_boxes n) ∧ FnD P w K mg base (2 + n) t.a_is_box_to t.fd_is_box_to ["thing", "deep"] (M_is_box_to n)
  | 0 => ⟨fn_none, fn_none⟩
  | n + 1 => have ih_are_boxes := (okk_are_boxes t n).1
    have ih_is_box_to := (okk_are_boxes t n).2
    ⟨fn_mk t.F_are_boxes sc_are_boxes rfl fun cdv A outer s H E hr =>
    ((ds_cons (ds_if (DW.dt (dw_or (dt_not (dt_val (de_isi .tuple t.m_isinstance t.m_tuple (DE.dr (de_var 0))))) (dw_or1 (dt_not (dt_chain op_leA od_le op_leA od_le (DE.dr de_int) (DE.dr (de_len t.m_len (DE.dr (de_var 0)))) (DE.dr (de_var 1))))))) (ds_one (ds_ret de_bl)) ds_nil)
      (ds_one (ds_ret (de_all rfl t.m_all (DN.dr (dn_lc [("part", 3)] rfl sc_are_boxes.nd (dir_any (DE.dr (de_var 0))) (blkOk_by (N := N_are_boxes) (sc := defScope s_are_boxes) (by decide +kernel)) (fun _ _ _ _ _ => (dg_name 3 sc_are_boxes.nd)) (fun _ _ _ _ _ => dts_nil) (fun _ _ _ _ _ => (de_call ih_is_box_to hr (Nat.le_refl _) t.g_is_box_to t.F_is_box_to.kp t.b_is_box_to (da_cons (de_var 3) (da_cons (de_var 2) da_nil)) (lq_cons (lq_cons lq_nil))))))))))),
    fn_mk t.F_is_box_to sc_is_box_to rfl fun cdv A outer s H E hr =>
    ((ds_cons (ds_if (DW.dt (dw_or (dt_cmp (op_eqD hr.units) od_eq (DE.dr (de_var 1)) (DE.dr de_int) (nomark _)) (dw_or (dt_not (dt_val (de_isi .tuple t.m_isinstance t.m_tuple (DE.dr (de_var 0))))) (dw_or (dt_cmp op_lt od_lt (DE.dr (de_len t.m_len (DE.dr (de_var 0)))) (DE.dr de_int) (nomark _)) (dw_or1 (dt_not (dt_val (de_isi .str t.m_isinstance t.m_str (DE.dr (de_ix (DE.dr (de_var 0)) (DE.dr de_int))))))))))) (ds_one (ds_ret de_bl)) ds_nil)
      (ds_cons (ds_if (dt_not (dt_val (de_call (ok_is_name t) hr (lev_le (b := 2) (n := n) (by decide)) t.g_is_name t.F_is_name.kp t.b_is_name (da_cons (de_ix (DE.dr (de_var 0)) (DE.dr de_int)) da_nil) (lq_cons lq_nil)))) (ds_one (ds_ret de_bl)) ds_nil)
      (ds_cons (ds_asg 2 sc_is_box_to.nd (de_ix (DE.dr (de_var 0)) (DE.dr de_int)))
      (ds_cons (ds_if (dt_cmp (op_eqD hr.units) od_eq (DE.dr (de_var 2)) (DE.dr de_str) (nomark _)) (ds_one (ds_ret (de_and (de_cmp (op_eqD hr.units) od_eq (DE.dr (de_len t.m_len (DE.dr (de_var 0)))) (DE.dr de_int) (nomark _)) (de_and (de_call (ok_is_span t) hr (lev_le (b := 2) (n := n) (by decide)) t.g_is_span t.F_is_span.kp t.b_is_span (da_cons (de_ix (DE.dr (de_var 0)) (DE.dr de_int)) da_nil) (lq_cons lq_nil)) (de_one (de_call (ok_is_span t) hr (lev_le (b := 2) (n := n) (by decide)) t.g_is_span t.F_is_span.kp t.b_is_span (da_cons (de_ix (DE.dr (de_var 0)) (DE.dr de_int)) da_nil) (lq_cons lq_nil))))))) ds_nil)
      (ds_cons (ds_if (dt_cmp (op_inA hr.units) od_in (DE.dr (de_var 2)) (DE.dr (de_tup (da_cons de_str (da_cons de_str da_nil)) (ln_big (ln_cons (ln_cons ln_nil))))) (by rfl)) (ds_one (ds_ret (de_and (de_cmp (op_eqD hr.units) od_eq (DE.dr (de_len t.m_len (DE.dr (de_var 0)))) (DE.dr de_int) (nomark _)) (de_and (de_call (ok_is_whole t) hr (lev_le (b := 2) (n := n) (by decide)) t.g_is_whole t.F_is_whole.kp t.b_is_whole (da_cons (de_ix (DE.dr (de_var 0)) (DE.dr de_int)) (da_cons de_int (da_cons (de_gint (by rfl) t.c_FAR) da_nil))) (lq_cons (lq_cons (lq_cons lq_nil)))) (de_one (de_call ih_are_boxes hr (Nat.le_refl _) t.g_are_boxes t.F_are_boxes.kp t.b_are_boxes (da_cons (de_ix (DE.dr (de_var 0)) (DE.dr de_int)) (da_cons (de_gint (by rfl) t.c_MOST_BOXES) (da_cons (de_sub (DE.dr (de_var 1)) (DE.dr de_int)) da_nil))) (lq_cons (lq_cons (lq_cons lq_nil))))))))) ds_nil)
      (ds_cons (ds_if (dt_cmp (op_eqD hr.units) od_eq (DE.dr (de_var 2)) (DE.dr de_str) (nomark _)) (ds_one (ds_ret (de_and (de_cmp (op_eqD hr.units) od_eq (DE.dr (de_len t.m_len (DE.dr (de_var 0)))) (DE.dr de_int) (nomark _)) (de_one (de_call ih_are_boxes hr (Nat.le_refl _) t.g_are_boxes t.F_are_boxes.kp t.b_are_boxes (da_cons (de_ix (DE.dr (de_var 0)) (DE.dr de_int)) (da_cons (de_gint (by rfl) t.c_MOST_PILE) (da_cons (de_sub (DE.dr (de_var 1)) (DE.dr de_int)) da_nil))) (lq_cons (lq_cons (lq_cons lq_nil)))))))) ds_nil)
      (ds_cons (ds_if (DW.dt (dw_or (dt_cmp (op_neD hr.units) od_ne (DE.dr (de_var 2)) (DE.dr de_str) (nomark _)) (dw_or1 (dt_cmp (op_neD hr.units) od_ne (DE.dr (de_len t.m_len (DE.dr (de_var 0)))) (DE.dr de_int) (nomark _))))) (ds_one (ds_ret de_bl)) ds_nil)
      (ds_one (ds_ret (de_and (de_all rfl t.m_all (DN.dr (dn_lc [("part", 3)] rfl sc_is_box_to.nd (dir_any (DE.dr (de_slice (DE.dr (de_var 0)) (do_some de_int) (do_some de_int)))) (blkOk_by (N := N_is_box_to) (sc := defScope s_is_box_to) (by decide +kernel)) (fun _ _ _ _ _ => (dg_name 3 sc_is_box_to.nd)) (fun _ _ _ _ _ => dts_nil) (fun _ _ _ _ _ => (de_call (ok_is_whole t) hr (lev_le (b := 2) (n := n) (by decide)) t.g_is_whole t.F_is_whole.kp t.b_is_whole (da_cons (de_var 3) (da_cons de_int (da_cons (de_gint (by rfl) t.c_FAR) da_nil))) (lq_cons (lq_cons (lq_cons lq_nil)))))))) (de_one (de_call ih_is_box_to hr (Nat.le_refl _) t.g_is_box_to t.F_is_box_to.kp t.b_is_box_to (da_cons (de_ix (DE.dr (de_var 0)) (DE.dr de_int)) (da_cons (de_sub (DE.dr (de_var 1)) (DE.dr de_int)) da_nil)) (lq_cons (lq_cons lq_nil)))))))))))))))⟩
theorem ok_are_boxes (t : T w K mg) (n : Nat) : FnD P w K mg base (2 + n) t.a_are_boxes t.fd_are_boxes ["thing", "many", "deep"] (M_are_boxes n) := (okk_are_boxes t n).1
theorem ok_is_box_to (t : T w K mg) (n : Nat) : FnD P w K mg base (2 + n) t.a_is_box_to t.fd_is_box_to ["thing", "deep"] (M_is_box_to n) := (okk_are_boxes t n).2
theorem ok_boxes_in (t : T w K mg) : FnD P w K mg base 1 t.a_boxes_in t.fd_boxes_in ["box"] M_boxes_in := fn_mk t.F_boxes_in sc_boxes_in rfl fun cdv A outer s H E hr =>
    ((ds_cons (ds_if (dt_cmp (op_eqD hr.units) od_eq (DE.dr (de_ix (DE.dr (de_var 0)) (DE.dr de_int))) (DE.dr de_str) (nomark _)) (ds_one (ds_ret (de_tup da_nil (ln_big ln_nil)))) ds_nil)
      (ds_cons (ds_if (dt_cmp (op_eqD hr.units) od_eq (DE.dr (de_ix (DE.dr (de_var 0)) (DE.dr de_int))) (DE.dr de_str) (nomark _)) (ds_one (ds_ret (de_tup (da_cons (de_ix (DE.dr (de_var 0)) (DE.dr de_int)) da_nil) (ln_big (ln_cons ln_nil))))) ds_nil)
      (ds_one (ds_ret (de_ix (DE.dr (de_var 0)) (DE.dr (de_neg (DE.dr de_int)))))))))
theorem ok_names_in (t : T w K mg) : ∀ n, FnD P w K mg base (1 + n) t.a_names_in t.fd_names_in ["box"] (M_names_in n)
  | 0 => fn_none
  | n + 1 => fn_mk t.F_names_in sc_names_in rfl fun cdv A outer s H E hr => have ih_names_in := ok_names_in t n
    ((ds_cons (ds_asg 1 sc_names_in.nd (de_tup (da_cons (de_ix (DE.dr (de_var 0)) (DE.dr de_int)) da_nil) (ln_big (ln_cons ln_nil))))
      (ds_cons (ds_for PassesOwn.never rfl (di_any (de_call (ok_boxes_in t) hr (lev_le (b := 1) (n := n) (by decide)) t.g_boxes_in t.F_boxes_in.kp t.b_boxes_in (da_cons (de_var 0) da_nil) (lq_cons lq_nil))) (dg_name 2 sc_names_in.nd) (ds_one (ds_asg 1 sc_names_in.nd (de_add (DE.dr (de_var 1)) (DE.dr (de_call ih_names_in hr (Nat.le_refl _) t.g_names_in t.F_names_in.kp t.b_names_in (da_cons (de_var 2) da_nil) (lq_cons lq_nil)))))))
      (ds_one (ds_ret (de_var 1))))))
theorem ok_is_box (t : T w K mg) : FnD P w K mg base 27 t.a_is_box t.fd_is_box ["thing"] M_is_box := fn_mk t.F_is_box sc_is_box rfl fun cdv A outer s H E hr =>
    ((ds_cons (ds_if (dt_not (dt_val (de_call (ok_is_box_to t 12) hr (by decide) t.g_is_box_to t.F_is_box_to.kp t.b_is_box_to (da_cons (de_var 0) (da_cons (de_gint (by rfl) t.c_DEEPEST_boxes) da_nil)) (lq_cons (lq_cons lq_nil))))) (ds_one (ds_ret de_bl)) ds_nil)
      (ds_one (ds_ret (de_cmp (op_eqD hr.units) od_eq (DE.dr (de_lenset rfl t.m_len t.m_set (DE.dr (de_call (ok_names_in t 12) hr (by decide) t.g_names_in t.F_names_in.kp t.b_names_in (da_cons (de_var 0) da_nil) (lq_cons lq_nil))))) (DE.dr (de_len t.m_len (DE.dr (de_call (ok_names_in t 12) hr (by decide) t.g_names_in t.F_names_in.kp t.b_names_in (da_cons (de_var 0) da_nil) (lq_cons lq_nil))))) (nomark _))))))
theorem ok_span_words (t : T w K mg) : FnD P w K mg base 1 t.a_span_words t.fd_span_words ["span"] M_span_words := fn_mk t.F_span_words sc_span_words rfl fun cdv A outer s H E hr =>
    ((ds_one (ds_ret (DN.de (dn_lc [("part", 1)] rfl sc_span_words.nd (dir_any (DE.dr (de_var 0))) (blkOk_by (N := N_span_words) (sc := defScope s_span_words) (by decide +kernel)) (fun _ _ _ _ _ => (dg_name 1 sc_span_words.nd)) (fun _ _ _ _ _ => dts_nil) (fun _ _ _ _ _ => (de_ix (DN.dr (dn_lst (da_cons (de_tostr t.m_str (DE.dr (de_var 1))) (da_cons (de_gstr (by rfl) t.c_NONE) da_nil)) (ln_big (ln_cons (ln_cons ln_nil))))) (DE.dr (de_toint t.m_int (DE.dr (de_isN (DE.dr (de_var 1)))))))))))))
theorem ok_box_words (t : T w K mg) : ∀ n, FnD P w K mg base (1 + n) t.a_box_words t.fd_box_words ["box"] (M_box_words n)
  | 0 => fn_none
  | n + 1 => fn_mk t.F_box_words sc_box_words rfl fun cdv A outer s H E hr => have ih_box_words := ok_box_words t n
    ((ds_cons (ds_asg 1 sc_box_words.nd (DN.de (dn_lst (da_cons (de_ix (DE.dr (de_var 0)) (DE.dr de_int)) (da_cons (de_ix (DE.dr (de_var 0)) (DE.dr de_int)) da_nil)) (ln_big (ln_cons (ln_cons ln_nil))))))
      (ds_cons (ds_if (dt_cmp (op_eqD hr.units) od_eq (DE.dr (de_ix (DE.dr (de_var 0)) (DE.dr de_int))) (DE.dr de_str) (nomark _)) (ds_one (ds_ret (de_add (DE.dr (de_add (DE.dr (de_var 1)) (DE.dr (de_call (ok_span_words t) hr (lev_le (b := 1) (n := n) (by decide)) t.g_span_words t.F_span_words.kp t.b_span_words (da_cons (de_ix (DE.dr (de_var 0)) (DE.dr de_int)) da_nil) (lq_cons lq_nil))))) (DE.dr (de_call (ok_span_words t) hr (lev_le (b := 1) (n := n) (by decide)) t.g_span_words t.F_span_words.kp t.b_span_words (da_cons (de_ix (DE.dr (de_var 0)) (DE.dr de_int)) da_nil) (lq_cons lq_nil)))))) ds_nil)
      (ds_cons (ds_if (dt_cmp (op_eqD hr.units) od_eq (DE.dr (de_ix (DE.dr (de_var 0)) (DE.dr de_int))) (DE.dr de_str) (nomark _)) (ds_one (ds_ret (de_add (DE.dr (de_add (DE.dr (de_var 1)) (DN.dr (dn_lc [("part", 2)] rfl sc_box_words.nd (dir_any (DE.dr (de_slice (DE.dr (de_var 0)) (do_some de_int) (do_some de_int)))) (blkOk_by (N := N_box_words) (sc := defScope s_box_words) (by decide +kernel)) (fun _ _ _ _ _ => (dg_name 2 sc_box_words.nd)) (fun _ _ _ _ _ => dts_nil) (fun _ _ _ _ _ => (de_tostr t.m_str (DE.dr (de_var 2)))))))) (DE.dr (de_call ih_box_words hr (Nat.le_refl _) t.g_box_words t.F_box_words.kp t.b_box_words (da_cons (de_ix (DE.dr (de_var 0)) (DE.dr de_int)) da_nil) (lq_cons lq_nil)))))) ds_nil)
      (ds_cons (ds_asg 1 sc_box_words.nd (de_add (DE.dr (de_add (DE.dr (de_var 1)) (DN.dr (dn_lc [("part", 2)] rfl sc_box_words.nd (dir_any (DE.dr (de_slice (DE.dr (de_var 0)) (do_some de_int) (do_some (de_neg (DE.dr de_int)))))) (blkOk_by (N := N_box_words) (sc := defScope s_box_words) (by decide +kernel)) (fun _ _ _ _ _ => (dg_name 2 sc_box_words.nd)) (fun _ _ _ _ _ => dts_nil) (fun _ _ _ _ _ => (de_tostr t.m_str (DE.dr (de_var 2)))))))) (DN.dr (dn_lst (da_cons de_str da_nil) (ln_big (ln_cons ln_nil))))))
      (ds_cons (ds_for PassesOwn.never rfl (di_any (de_call (ok_boxes_in t) hr (lev_le (b := 1) (n := n) (by decide)) t.g_boxes_in t.F_boxes_in.kp t.b_boxes_in (da_cons (de_var 0) da_nil) (lq_cons lq_nil))) (dg_name 2 sc_box_words.nd) (ds_one (ds_asg 1 sc_box_words.nd (de_add (DE.dr (de_var 1)) (DE.dr (de_call ih_box_words hr (Nat.le_refl _) t.g_box_words t.F_box_words.kp t.b_box_words (da_cons (de_var 2) da_nil) (lq_cons lq_nil)))))))
      (ds_one (ds_ret (de_add (DE.dr (de_var 1)) (DN.dr (dn_lst (da_cons de_str da_nil) (ln_big (ln_cons ln_nil)))))))))))))
theorem ok_written (t : T w K mg) : FnD P w K mg base 14 t.a_written t.fd_written ["box"] M_written := fn_mk t.F_written sc_written rfl fun cdv A outer s H E hr =>
    ((ds_one (ds_ret (de_join de_str (DE.dr (de_call (ok_box_words t 12) hr (by decide) t.g_box_words t.F_box_words.kp t.b_box_words (da_cons (de_var 0) da_nil) (lq_cons lq_nil)))))))
theorem ok_Rinit (t : T w K mg) : FnOk P w K mg base CX0 1 t.a_Rinit t.fd_Rinit PS_Rinit (spInit K) := t.F_Rinit.ok sc_Rinit (fun vs H Q E h => by obtain ⟨_, _, _, rfl, _⟩ := h; rfl) fun cdv A outer s H vs Q E hr h => ⟨_, pss_cons (ps_fld (pe_var (i := 0) rfl (.inl rfl)) (pe_var (i := 1) rfl (.inl rfl)) rfl) (pss_one (ps_fld (pe_var (i := 0) rfl (.inl rfl)) pe_int rfl)), init_read t.rk vs H Q E h⟩
theorem ok_Rword (t : T w K mg) : FnM P w K mg base 1 t.a_Rword t.fd_Rword PS_Rword (noC K) M_Rword := fn_mkM t.F_Rword sc_Rword rfl fun cdv A outer s H E hr =>
    ((dsx_cons (dsx_if (dt_cmp (op_eqD hr.units) od_eq (DE.dr (de_at 0 t.rk)) (DE.dr (de_len t.m_len (DE.dr (de_words 0 t.rk)))) (nomark _)) (dsx_one (dsx_raise rfl takes_cx PySem.F.excBase_ValueError t.ex t.gx t.kx (raises_own t.rx1 t.rx2))) dsx_nil)
      (dsx_cons (dsx_ds (ds_at 0 t.rk (de_add (DE.dr (de_at 0 t.rk)) (DE.dr de_int))))
      (dsx_one (dsx_retD (de_ix (DE.dr (de_words 0 t.rk)) (DE.dr (de_sub (DE.dr (de_at 0 t.rk)) (DE.dr de_int)))))))))
theorem ok_Rnumber (t : T w K mg) : FnM P w K mg base 2 t.a_Rnumber t.fd_Rnumber PS_Rnumber (noC K) M_Rnumber := fn_mkM t.F_Rnumber sc_Rnumber rfl fun cdv A outer s H E hr =>
    ((dsx_cons (dsx_asg 1 sc_Rnumber.nd (dx_meth0 (ps := PS_Rword) 0 t.rk t.mt_Rword (ok_Rword t) (hr.mono (by decide)) t.b_Rword passes_cx))
      (dsx_cons (dsx_if (dt_cmp (op_eqD hr.units) od_eq (DE.dr (de_var 1)) (DE.dr (de_gstr (by rfl) t.c_NONE)) (nomark _)) (dsx_one (dsx_retD de_non)) dsx_nil)
      (dsx_cons (dsx_if (DW.dt (dw_or (dt_not (dt_chain op_leA od_le op_leA od_le (DE.dr de_int) (DE.dr (de_len t.m_len (DE.dr (de_var 1)))) (DE.dr (de_gint (by rfl) t.c_MOST_FIGURES)))) (dw_or1 (dt_not (dt_val (de_all rfl t.m_all (DN.dr (dn_lc [("sign", 2)] rfl sc_Rnumber.nd (dir_any (DE.dr (de_var 1))) (blkOk_by (N := N_Rnumber) (sc := defScope s_Rnumber) (by decide +kernel)) (fun _ _ _ _ _ => (dg_name 2 sc_Rnumber.nd)) (fun _ _ _ _ _ => dts_nil) (fun _ _ _ _ _ => (de_cmp (op_inA hr.units) od_in (DE.dr (de_var 2)) (DE.dr (de_gstr (by rfl) t.c_FIGURES)) (by rfl))))))))))) (dsx_one (dsx_raise rfl takes_cx PySem.F.excBase_ValueError t.ex t.gx t.kx (raises_own t.rx1 t.rx2))) dsx_nil)
      (dsx_one (dsx_retD (de_intS t.m_int (DE.dr (de_var 1)))))))))
theorem ok_Rnumbers (t : T w K mg) : FnM P w K mg base 3 t.a_Rnumbers t.fd_Rnumbers PS_Rnumbers (noC K) M_Rnumbers := fn_mkM t.F_Rnumbers sc_Rnumbers rfl fun cdv A outer s H E hr =>
    ((dsx_one (dsx_ret (dx_tuple t.m_tuple (dx_lc [("k", 2)] rfl sc_Rnumbers.nd rfl rfl takes_cx (di_rng1 t.m_range (de_var 1)) (blkOk_by (N := N_Rnumbers) (sc := defScope s_Rnumbers) (by decide +kernel)) (fun _ _ _ _ _ => (dg_name 2 sc_Rnumbers.nd)) (fun _ _ _ _ _ _ _ hp => (dx_meth0 (ps := PS_Rnumber) 0 t.rk t.mt_Rnumber (ok_Rnumber t) (hr.mono (by decide)) t.b_Rnumber hp)))))))
theorem okk_R (t : T w K mg) : ∀ n, FnM P w K mg base (3 + n) t.a_Rboxes t.fd_Rboxes PS_Rboxes (noC K) (M_Rboxes n) ∧ FnM P w K mg base (3 + n) t.a_Rbox t.fd_Rbox PS_Rbox (noC K) (M_Rbox n)
  | 0 => ⟨fn_noneM, fn_noneM⟩
  | n + 1 => have ih_Rboxes := (okk_R t n).1
    have ih_Rbox := (okk_R t n).2
    ⟨fn_mkM t.F_Rboxes sc_Rboxes rfl fun cdv A outer s H E hr =>
    ((dsx_cons (dsx_ifX (op_neD hr.units) od_ne (dx_meth0 (ps := PS_Rword) 0 t.rk t.mt_Rword (ok_Rword t) (hr.mono (lev_le (b := 3) (n := n) (by decide))) t.b_Rword passes_cx) (dx_de de_str) (nomark _) (dsx_one (dsx_raise rfl takes_cx PySem.F.excBase_ValueError t.ex t.gx t.kx (raises_own t.rx1 t.rx2))) dsx_nil)
      (dsx_cons (dsx_ds (ds_new 2 sc_Rboxes.nd (dn_lst da_nil (ln_big ln_nil))))
      (dsx_cons (dsx_while (muR 0) own_cx (DW.dt (dw_and (dt_cmp op_lt od_lt (DE.dr (de_at 0 t.rk)) (DE.dr (de_len t.m_len (DE.dr (de_words 0 t.rk)))) (nomark _)) (dw_and1 (dt_cmp (op_neD hr.units) od_ne (DE.dr (de_ix (DE.dr (de_words 0 t.rk)) (DE.dr (de_at 0 t.rk)))) (DE.dr de_str) (nomark _))))) (dsx_one (dsx_app 2 (dx_meth (ps := PS_Rbox) 0 t.rk t.mt_Rbox ih_Rbox hr t.b_Rbox passes_cx (da_cons (de_var 1) da_nil)))))
      (dsx_cons (dsx_expr (dx_meth0 (ps := PS_Rword) 0 t.rk t.mt_Rword (ok_Rword t) (hr.mono (lev_le (b := 3) (n := n) (by decide))) t.b_Rword passes_cx))
      (dsx_one (dsx_retD (de_tuple t.m_tuple (dr_var 2))))))))),
    fn_mkM t.F_Rbox sc_Rbox rfl fun cdv A outer s H E hr =>
    ((dsx_cons (dsx_if (dt_cmp (op_eqD hr.units) od_eq (DE.dr (de_var 1)) (DE.dr de_int) (nomark _)) (dsx_one (dsx_raise rfl takes_cx PySem.F.excBase_ValueError t.ex t.gx t.kx (raises_own t.rx1 t.rx2))) dsx_nil)
      (dsx_cons (dsx_asg 2 sc_Rbox.nd (dx_tup (dxa_cons (dx_meth0 (ps := PS_Rword) 0 t.rk t.mt_Rword (ok_Rword t) (hr.mono (lev_le (b := 3) (n := n) (by decide))) t.b_Rword passes_cx) (dxa_cons (dx_meth0 (ps := PS_Rword) 0 t.rk t.mt_Rword (ok_Rword t) (hr.mono (lev_le (b := 3) (n := n) (by decide))) t.b_Rword passes_cx) dxa_nil)) (lx_big (lx_cons (lx_cons lx_nil)))))
      (dsx_cons (dsx_if (dt_cmp (op_eqD hr.units) od_eq (DE.dr (de_ix (DE.dr (de_var 2)) (DE.dr de_int))) (DE.dr de_str) (nomark _)) (dsx_one (dsx_ret (dx_add (dx_de (de_var 2)) (dx_tup (dxa_cons (dx_meth (ps := PS_Rnumbers) 0 t.rk t.mt_Rnumbers (ok_Rnumbers t) (hr.mono (lev_le (b := 3) (n := n) (by decide))) t.b_Rnumbers passes_cx (da_cons de_int da_nil)) (dxa_cons (dx_meth (ps := PS_Rnumbers) 0 t.rk t.mt_Rnumbers (ok_Rnumbers t) (hr.mono (lev_le (b := 3) (n := n) (by decide))) t.b_Rnumbers passes_cx (da_cons de_int da_nil)) dxa_nil)) (lx_big (lx_cons (lx_cons lx_nil))))))) dsx_nil)
      (dsx_cons (dsx_if (dt_cmp (op_eqD hr.units) od_eq (DE.dr (de_ix (DE.dr (de_var 2)) (DE.dr de_int))) (DE.dr de_str) (nomark _)) (dsx_one (dsx_ret (dx_add (dx_add (dx_de (de_var 2)) (dx_meth (ps := PS_Rnumbers) 0 t.rk t.mt_Rnumbers (ok_Rnumbers t) (hr.mono (lev_le (b := 3) (n := n) (by decide))) t.b_Rnumbers passes_cx (da_cons de_int da_nil))) (dx_tup (dxa_cons (dx_meth (ps := PS_Rbox) 0 t.rk t.mt_Rbox ih_Rbox hr t.b_Rbox passes_cx (da_cons (de_sub (DE.dr (de_var 1)) (DE.dr de_int)) da_nil)) dxa_nil) (lx_big (lx_cons lx_nil)))))) dsx_nil)
      (dsx_cons (dsx_if (dt_cmp (op_inA hr.units) od_in (DE.dr (de_ix (DE.dr (de_var 2)) (DE.dr de_int))) (DE.dr (de_tup (da_cons de_str (da_cons de_str da_nil)) (ln_big (ln_cons (ln_cons ln_nil))))) (by rfl)) (dsx_one (dsx_ret (dx_add (dx_add (dx_de (de_var 2)) (dx_meth (ps := PS_Rnumbers) 0 t.rk t.mt_Rnumbers (ok_Rnumbers t) (hr.mono (lev_le (b := 3) (n := n) (by decide))) t.b_Rnumbers passes_cx (da_cons de_int da_nil))) (dx_tup (dxa_cons (dx_meth (ps := PS_Rboxes) 0 t.rk t.mt_Rboxes ih_Rboxes hr t.b_Rboxes passes_cx (da_cons (de_sub (DE.dr (de_var 1)) (DE.dr de_int)) da_nil)) dxa_nil) (lx_big (lx_cons lx_nil)))))) dsx_nil)
      (dsx_cons (dsx_if (dt_cmp (op_neD hr.units) od_ne (DE.dr (de_ix (DE.dr (de_var 2)) (DE.dr de_int))) (DE.dr de_str) (nomark _)) (dsx_one (dsx_raise rfl takes_cx PySem.F.excBase_ValueError t.ex t.gx t.kx (raises_own t.rx1 t.rx2))) dsx_nil)
      (dsx_one (dsx_ret (dx_add (dx_de (de_var 2)) (dx_tup (dxa_cons (dx_meth (ps := PS_Rboxes) 0 t.rk t.mt_Rboxes ih_Rboxes hr t.b_Rboxes passes_cx (da_cons (de_sub (DE.dr (de_var 1)) (DE.dr de_int)) da_nil)) dxa_nil) (lx_big (lx_cons lx_nil)))))))))))))⟩
theorem ok_Rboxes (t : T w K mg) (n : Nat) : FnM P w K mg base (3 + n) t.a_Rboxes t.fd_Rboxes PS_Rboxes (noC K) (M_Rboxes n) := (okk_R t n).1
theorem ok_Rbox (t : T w K mg) (n : Nat) : FnM P w K mg base (3 + n) t.a_Rbox t.fd_Rbox PS_Rbox (noC K) (M_Rbox n) := (okk_R t n).2
theorem ok_read (t : T w K mg) : FnX P w K mg base 28 t.a_read t.fd_read ["text"] (noC K) M_read := fn_mkX t.F_read sc_read rfl fun cdv A outer s H E hr =>
    ((dsx_cons (dsx_if (dt_not (dt_val (de_isi .str t.m_isinstance t.m_str (DE.dr (de_var 0))))) (dsx_one (dsx_raise rfl takes_cx PySem.F.excBase_ValueError t.ex t.gx t.kx (raises_own t.rx1 t.rx2))) dsx_nil)
      (dsx_cons (dsx_ds (ds_make (ps := PS_Rinit) 1 sc_read.nd t.mkr (ok_Rinit t) (hr.mono (by decide)) t.gR t.b_Rinit (DN.de (dn_split (de_var 0) de_str))))
      (dsx_cons (dsx_asg 2 sc_read.nd (dx_meth (ps := PS_Rbox) 1 t.rk t.mt_Rbox (ok_Rbox t 14) (hr.mono (by decide)) t.b_Rbox passes_cx (da_cons (de_gint (by rfl) t.c_DEEPEST_reading) da_nil)))
      (dsx_cons (dsx_if (DW.dt (dw_or (dt_not (dt_val (de_call (ok_is_box t) hr (by decide) t.g_is_box t.F_is_box.kp t.b_is_box (da_cons (de_var 2) da_nil) (lq_cons lq_nil)))) (dw_or1 (dt_cmp (op_neD hr.units) od_ne (DE.dr (de_call (ok_written t) hr (by decide) t.g_written t.F_written.kp t.b_written (da_cons (de_var 2) da_nil) (lq_cons lq_nil))) (DE.dr (de_var 0)) (nomark _))))) (dsx_one (dsx_raise rfl takes_cx PySem.F.excBase_ValueError t.ex t.gx t.kx (raises_own t.rx1 t.rx2))) dsx_nil)
      (dsx_one (dsx_retD (de_var 2))))))))
theorem ok_Lcell_at (t : T w K mg) : FnD P w K mg base 1 t.a_Lcell_at t.fd_Lcell_at ["script", "k"] M_Lcell_at := fn_mk t.F_Lcell_at sc_Lcell_at rfl fun cdv A outer s H E hr =>
    ((ds_cons (ds_if (dt_cmp op_lt od_lt (DE.dr (de_var 1)) (DE.dr (de_len t.m_len (DE.dr (de_var 0)))) (nomark _)) (ds_one (ds_ret (de_ix (DE.dr (de_var 0)) (DE.dr (de_var 1))))) ds_nil)
      (ds_one (ds_ret de_int))))
theorem ok_Lmixed (t : T w K mg) : FnD P w K mg base 2 t.a_Lmixed t.fd_Lmixed ["script", "k"] M_Lmixed := fn_mk t.F_Lmixed sc_Lmixed rfl fun cdv A outer s H E hr =>
    ((ds_cons (ds_asg 2 sc_Lmixed.nd (de_mod (DE.dr (de_mul (DE.dr (de_add (DE.dr (de_add (DE.dr (de_call (ok_Lcell_at t) hr (by decide) t.g_Lcell_at t.F_Lcell_at.kp t.b_Lcell_at (da_cons (de_var 0) (da_cons (de_var 1) da_nil)) (lq_cons (lq_cons lq_nil)))) (DE.dr (de_mul (DE.dr de_int) (DE.dr (de_var 1)))))) (DE.dr de_int))) (DE.dr de_int))) (DE.dr de_int)))
      (ds_one (ds_ret (de_mod (DE.dr (de_add (DE.dr (de_add (DE.dr (de_mul (DE.dr (de_var 2)) (DE.dr (de_var 2)))) (DE.dr (de_mul (DE.dr de_int) (DE.dr (de_var 2)))))) (DE.dr (de_var 1)))) (DE.dr de_int))))))
theorem ok_Ldrawn (t : T w K mg) : FnD P w K mg base 1 t.a_Ldrawn t.fd_Ldrawn ["number", "k"] M_Ldrawn := fn_mk t.F_Ldrawn sc_Ldrawn rfl fun cdv A outer s H E hr =>
    ((ds_cons (ds_asg 2 sc_Ldrawn.nd (de_mod (DE.dr (de_mul (DE.dr (de_add (DE.dr (de_add (DE.dr (de_var 0)) (DE.dr (de_mul (DE.dr de_int) (DE.dr (de_var 1)))))) (DE.dr de_int))) (DE.dr de_int))) (DE.dr de_int)))
      (ds_one (ds_ret (de_mod (DE.dr (de_add (DE.dr (de_add (DE.dr (de_mul (DE.dr (de_var 2)) (DE.dr (de_var 2)))) (DE.dr (de_mul (DE.dr de_int) (DE.dr (de_var 2)))))) (DE.dr (de_var 1)))) (DE.dr de_int))))))
theorem ok_Lspan (t : T w K mg) : FnD P w K mg base 1 t.a_Lspan t.fd_Lspan ["number"] M_Lspan := fn_mk t.F_Lspan sc_Lspan rfl fun cdv A outer s H E hr =>
    ((ds_cons (ds_asg 1 sc_Lspan.nd (de_mod (DE.dr (de_var 0)) (DE.dr (de_ix (DE.dr (de_tup (da_cons de_int (da_cons de_int (da_cons de_int da_nil))) (ln_big (ln_cons (ln_cons (ln_cons ln_nil)))))) (DE.dr (de_mod (DE.dr (de_fdiv (DE.dr (de_var 0)) (DE.dr de_int))) (DE.dr de_int)))))))
      (ds_cons (ds_asg 2 sc_Lspan.nd (de_add (DE.dr (de_var 1)) (DE.dr (de_mod (DE.dr (de_fdiv (DE.dr (de_var 0)) (DE.dr de_int))) (DE.dr (de_ix (DE.dr (de_tup (da_cons de_int (da_cons de_int (da_cons de_int da_nil))) (ln_big (ln_cons (ln_cons (ln_cons ln_nil)))))) (DE.dr (de_mod (DE.dr (de_fdiv (DE.dr (de_var 0)) (DE.dr de_int))) (DE.dr de_int)))))))))
      (ds_cons (ds_asg 3 sc_Lspan.nd (de_ix (DN.dr (dn_lst (da_cons de_non (da_cons (de_add (DE.dr (de_var 2)) (DE.dr (de_mod (DE.dr (de_fdiv (DE.dr (de_var 0)) (DE.dr de_int))) (DE.dr de_int)))) (da_cons (de_var 2) (da_cons (de_add (DE.dr (de_var 2)) (DE.dr (de_mod (DE.dr (de_fdiv (DE.dr (de_var 0)) (DE.dr de_int))) (DE.dr de_int)))) da_nil)))) (ln_big (ln_cons (ln_cons (ln_cons (ln_cons ln_nil))))))) (DE.dr (de_mod (DE.dr (de_fdiv (DE.dr (de_var 0)) (DE.dr de_int))) (DE.dr de_int)))))
      (ds_one (ds_ret (de_tup (da_cons (de_var 1) (da_cons (de_var 2) (da_cons (de_var 3) (da_cons (de_ix (DE.dr (de_tup (da_cons de_int (da_cons de_int (da_cons de_int (da_cons de_int da_nil)))) (ln_big (ln_cons (ln_cons (ln_cons (ln_cons ln_nil))))))) (DE.dr (de_mod (DE.dr (de_fdiv (DE.dr (de_var 0)) (DE.dr de_int))) (DE.dr de_int)))) (da_cons (de_ix (DE.dr (de_tup (da_cons de_int (da_cons de_int (da_cons de_int (da_cons de_int da_nil)))) (ln_big (ln_cons (ln_cons (ln_cons (ln_cons ln_nil))))))) (DE.dr (de_mod (DE.dr (de_fdiv (DE.dr (de_var 0)) (DE.dr de_int))) (DE.dr de_int)))) da_nil))))) (ln_big (ln_cons (ln_cons (ln_cons (ln_cons (ln_cons ln_nil)))))))))))))
theorem ok_Lbox (t : T w K mg) : ∀ n, FnD P w K mg base (1 + n) t.a_Lbox t.fd_Lbox ["number", "name", "deep"] (M_Lbox n)
  | 0 => fn_none
  | n + 1 => fn_mk t.F_Lbox sc_Lbox rfl fun cdv A outer s H E hr => have ih_Lbox := ok_Lbox t n
    ((ds_cons (ds_asg 3 sc_Lbox.nd (de_mod (DE.dr (de_var 0)) (DE.dr de_int)))
      (ds_cons (ds_if (DW.dt (dw_or (dt_cmp (op_eqD hr.units) od_eq (DE.dr (de_var 2)) (DE.dr de_int) (nomark _)) (dw_or1 (dt_cmp op_gt od_gt (DE.dr (de_var 3)) (DE.dr de_int) (nomark _))))) (ds_one (ds_ret (de_tup (da_cons de_str (da_cons (de_var 1) (da_cons (de_call (ok_Lspan t) hr (lev_le (b := 1) (n := n) (by decide)) t.g_Lspan t.F_Lspan.kp t.b_Lspan (da_cons (de_fdiv (DE.dr (de_call (ok_Ldrawn t) hr (lev_le (b := 1) (n := n) (by decide)) t.g_Ldrawn t.F_Ldrawn.kp t.b_Ldrawn (da_cons (de_var 0) (da_cons de_int da_nil)) (lq_cons (lq_cons lq_nil)))) (DE.dr de_int)) da_nil) (lq_cons lq_nil)) (da_cons (de_call (ok_Lspan t) hr (lev_le (b := 1) (n := n) (by decide)) t.g_Lspan t.F_Lspan.kp t.b_Lspan (da_cons (de_fdiv (DE.dr (de_call (ok_Ldrawn t) hr (lev_le (b := 1) (n := n) (by decide)) t.g_Ldrawn t.F_Ldrawn.kp t.b_Ldrawn (da_cons (de_var 0) (da_cons de_int da_nil)) (lq_cons (lq_cons lq_nil)))) (DE.dr de_int)) da_nil) (lq_cons lq_nil)) da_nil)))) (ln_big (ln_cons (ln_cons (ln_cons (ln_cons ln_nil)))))))) ds_nil)
      (ds_cons (ds_asg 4 sc_Lbox.nd (de_add (DE.dr de_int) (DE.dr (de_mod (DE.dr (de_fdiv (DE.dr (de_var 0)) (DE.dr de_int))) (DE.dr de_int)))))
      (ds_cons (ds_asg 5 sc_Lbox.nd (de_ix (DE.dr (de_tup (da_cons de_int (da_cons de_int (da_cons de_int (da_cons de_int da_nil)))) (ln_big (ln_cons (ln_cons (ln_cons (ln_cons ln_nil))))))) (DE.dr (de_mod (DE.dr (de_fdiv (DE.dr (de_var 0)) (DE.dr de_int))) (DE.dr de_int)))))
      (ds_cons (ds_if (dt_cmp (op_eqD hr.units) od_eq (DE.dr (de_var 3)) (DE.dr de_int) (nomark _)) (ds_cons (ds_asg 7 sc_Lbox.nd (de_tuple t.m_tuple (DN.dr (dn_lc [("k", 8)] rfl sc_Lbox.nd (DI.r (di_rng1 t.m_range de_int)) (blkOk_by (N := N_Lbox) (sc := defScope s_Lbox) (by decide +kernel)) (fun _ _ _ _ _ => (dg_name 8 sc_Lbox.nd)) (fun _ _ _ _ _ => dts_nil) (fun _ _ _ _ _ => (de_mod (DE.dr (de_fdiv (DE.dr (de_call (ok_Ldrawn t) hr (lev_le (b := 1) (n := n) (by decide)) t.g_Ldrawn t.F_Ldrawn.kp t.b_Ldrawn (da_cons (de_var 0) (da_cons (de_add (DE.dr de_int) (DE.dr (de_var 8))) da_nil)) (lq_cons (lq_cons lq_nil)))) (DE.dr de_int))) (DE.dr de_int)))))))
      (ds_one (ds_ret (de_add (DE.dr (de_add (DE.dr (de_tup (da_cons de_str (da_cons (de_var 1) da_nil)) (ln_big (ln_cons (ln_cons ln_nil))))) (DE.dr (de_var 7)))) (DE.dr (de_tup (da_cons (de_call ih_Lbox hr (Nat.le_refl _) t.g_Lbox t.F_Lbox.kp t.b_Lbox (da_cons (de_fdiv (DE.dr (de_call (ok_Ldrawn t) hr (lev_le (b := 1) (n := n) (by decide)) t.g_Ldrawn t.F_Ldrawn.kp t.b_Ldrawn (da_cons (de_var 0) (da_cons de_int da_nil)) (lq_cons (lq_cons lq_nil)))) (DE.dr de_int)) (da_cons (de_add (DE.dr (de_var 1)) (DE.dr de_str)) (da_cons (de_sub (DE.dr (de_var 2)) (DE.dr de_int)) da_nil))) (lq_cons (lq_cons (lq_cons lq_nil)))) da_nil) (ln_big (ln_cons ln_nil)))))))) ds_nil)
      (ds_cons (ds_if (dt_cmp (op_eqD hr.units) od_eq (DE.dr (de_var 3)) (DE.dr de_int) (nomark _)) (ds_one (ds_asg 4 sc_Lbox.nd (de_min2 rfl t.m_min (DE.dr (de_var 4)) (DE.dr de_int)))) ds_nil)
      (ds_cons (ds_asg 6 sc_Lbox.nd (de_tuple t.m_tuple (DN.dr (dn_lc [("k", 8)] rfl sc_Lbox.nd (DI.r (di_rng1 t.m_range (de_var 4))) (blkOk_by (N := N_Lbox) (sc := defScope s_Lbox) (by decide +kernel)) (fun _ _ _ _ _ => (dg_name 8 sc_Lbox.nd)) (fun _ _ _ _ _ => dts_nil) (fun _ _ _ _ _ => (de_call ih_Lbox hr (Nat.le_refl _) t.g_Lbox t.F_Lbox.kp t.b_Lbox (da_cons (de_fdiv (DE.dr (de_call (ok_Ldrawn t) hr (lev_le (b := 1) (n := n) (by decide)) t.g_Ldrawn t.F_Ldrawn.kp t.b_Ldrawn (da_cons (de_var 0) (da_cons (de_add (DE.dr de_int) (DE.dr (de_var 8))) da_nil)) (lq_cons (lq_cons lq_nil)))) (DE.dr de_int)) (da_cons (de_add (DE.dr (de_var 1)) (DE.dr (de_ix (DE.dr de_str) (DE.dr (de_var 8))))) (da_cons (de_sub (DE.dr (de_var 2)) (DE.dr de_int)) da_nil))) (lq_cons (lq_cons (lq_cons lq_nil)))))))))
      (ds_cons (ds_if (dt_cmp (op_eqD hr.units) od_eq (DE.dr (de_var 3)) (DE.dr de_int) (nomark _)) (ds_one (ds_ret (de_tup (da_cons de_str (da_cons (de_var 1) (da_cons (de_var 6) da_nil))) (ln_big (ln_cons (ln_cons (ln_cons ln_nil))))))) ds_nil)
      (ds_one (ds_ret (de_tup (da_cons (de_ix (DE.dr (de_tup (da_cons de_str (da_cons de_str da_nil)) (ln_big (ln_cons (ln_cons ln_nil))))) (DE.dr (de_mod (DE.dr (de_var 3)) (DE.dr de_int)))) (da_cons (de_var 1) (da_cons (de_var 5) (da_cons (de_var 6) da_nil)))) (ln_big (ln_cons (ln_cons (ln_cons (ln_cons ln_nil)))))))))))))))))
theorem ok_Lin (t : T w K mg) : FnD P w K mg base 1 t.a_Lin t.fd_Lin ["box"] M_Lin := fn_mk t.F_Lin sc_Lin rfl fun cdv A outer s H E hr =>
    ((ds_cons (ds_if (dt_cmp (op_eqD hr.units) od_eq (DE.dr (de_ix (DE.dr (de_var 0)) (DE.dr de_int))) (DE.dr de_str) (nomark _)) (ds_one (ds_ret (de_tup da_nil (ln_big ln_nil)))) ds_nil)
      (ds_one (ds_ret (de_ix (DN.dr (dn_lst (da_cons (de_ix (DE.dr (de_var 0)) (DE.dr (de_sub (DE.dr (de_len t.m_len (DE.dr (de_var 0)))) (DE.dr de_int)))) (da_cons (de_slice (DE.dr (de_var 0)) (do_some de_int) do_none) da_nil)) (ln_big (ln_cons (ln_cons ln_nil))))) (DE.dr (de_toint t.m_int (DE.dr (de_cmp (op_eqD hr.units) od_eq (DE.dr (de_ix (DE.dr (de_var 0)) (DE.dr de_int))) (DE.dr de_str) (nomark _))))))))))
theorem ok_Lnames (t : T w K mg) : ∀ n, FnD P w K mg base (1 + n) t.a_Lnames t.fd_Lnames ["box"] (M_Lnames n)
  | 0 => fn_none
  | n + 1 => fn_mk t.F_Lnames sc_Lnames rfl fun cdv A outer s H E hr => have ih_Lnames := ok_Lnames t n
    ((ds_cons (ds_asg 1 sc_Lnames.nd (de_tup (da_cons (de_ix (DE.dr (de_var 0)) (DE.dr de_int)) da_nil) (ln_big (ln_cons ln_nil))))
      (ds_cons (ds_for PassesOwn.never rfl (di_any (de_call (ok_Lin t) hr (lev_le (b := 1) (n := n) (by decide)) t.g_Lin t.F_Lin.kp t.b_Lin (da_cons (de_var 0) da_nil) (lq_cons lq_nil))) (dg_name 2 sc_Lnames.nd) (ds_one (ds_asg 1 sc_Lnames.nd (de_add (DE.dr (de_var 1)) (DE.dr (de_call ih_Lnames hr (Nat.le_refl _) t.g_Lnames t.F_Lnames.kp t.b_Lnames (da_cons (de_var 2) da_nil) (lq_cons lq_nil)))))))
      (ds_one (ds_ret (de_var 1))))))
theorem ok_Lnone (t : T w K mg) : FnD P w K mg base 29 t.a_Lnone t.fd_Lnone ["text"] M_Lnone := fn_raises (N := N_Lnone) t.F_Lnone sc_Lnone (ok_read t) rfl t.g_read t.F_read.kp t.b_read t.gx t.te rfl (.inl rfl) (by decide) (by decide) (fun _ _ _ _ _ _ => by rfl) (by decide) (fun _ _ _ _ _ _ => by rfl) (by decide)
theorem ok_Lby_hand (t : T w K mg) : FnD P w K mg base 30 t.a_Lby_hand t.fd_Lby_hand ["number"] M_Lby_hand := fn_mk t.F_Lby_hand sc_Lby_hand rfl fun cdv A outer s H E hr =>
    ((ds_cons (ds_asg 1 sc_Lby_hand.nd (DN.de (dn_lst (da_cons de_str (da_cons de_str (da_cons de_str (da_cons de_str (da_cons de_str da_nil))))) (ln_big (ln_cons (ln_cons (ln_cons (ln_cons (ln_cons ln_nil)))))))))
      (ds_cons (ds_asg 1 sc_Lby_hand.nd (de_add (DE.dr (de_var 1)) (DN.dr (dn_lst (da_cons de_str (da_cons de_str (da_cons de_str da_nil))) (ln_big (ln_cons (ln_cons (ln_cons ln_nil))))))))
      (ds_cons (ds_asg 1 sc_Lby_hand.nd (de_add (DE.dr (de_var 1)) (DN.dr (dn_lst (da_cons de_str (da_cons de_str (da_cons de_str da_nil))) (ln_big (ln_cons (ln_cons (ln_cons ln_nil))))))))
      (ds_cons (ds_asg 1 sc_Lby_hand.nd (de_add (DE.dr (de_var 1)) (DN.dr (dn_lst (da_cons de_str (da_cons de_str (da_cons de_str (da_cons de_str da_nil)))) (ln_big (ln_cons (ln_cons (ln_cons (ln_cons ln_nil)))))))))
      (ds_cons (ds_asg 2 sc_Lby_hand.nd (DN.de (dn_lst (da_cons de_str (da_cons de_str (da_cons de_str da_nil))) (ln_big (ln_cons (ln_cons (ln_cons ln_nil)))))))
      (ds_cons (ds_for PassesOwn.never rfl (di_rng1 t.m_range de_int) (dg_name 3 sc_Lby_hand.nd) (ds_one (ds_if (dt_not (dt_val (de_call (ok_Lnone t) hr (by decide) t.g_Lnone t.F_Lnone.kp t.b_Lnone (da_cons (de_ix (DE.dr (de_var 1)) (DE.dr (de_mod (DE.dr (de_add (DE.dr (de_fdiv (DE.dr (de_var 0)) (DE.dr de_int))) (DE.dr (de_mul (DE.dr de_int) (DE.dr (de_var 3)))))) (DE.dr (de_len t.m_len (DE.dr (de_var 1))))))) da_nil) (lq_cons lq_nil)))) (ds_one (ds_ret de_bl)) ds_nil)))
      (ds_one (ds_ret (de_cmp (op_eqD hr.units) od_eq (DN.dr (dn_lc [("text", 4)] rfl sc_Lby_hand.nd (dir_any (DE.dr (de_var 2))) (blkOk_by (N := N_Lby_hand) (sc := defScope s_Lby_hand) (by decide +kernel)) (fun _ _ _ _ _ => (dg_name 4 sc_Lby_hand.nd)) (fun _ _ _ _ _ => (dts_one (DW.dt (dw_or (dt_cmp (op_neD hr.units) od_ne (DE.dr (de_call (ok_written t) hr (by decide) t.g_written t.F_written.kp t.b_written (da_cons (de_call (fn_noRaise (ok_read t)) hr (by decide) t.g_read t.F_read.kp t.b_read (da_cons (de_var 4) da_nil) (lq_cons lq_nil)) da_nil) (lq_cons lq_nil))) (DE.dr (de_var 4)) (nomark _)) (dw_or1 (dt_not (dt_val (de_call (ok_is_box t) hr (by decide) t.g_is_box t.F_is_box.kp t.b_is_box (da_cons (de_call (fn_noRaise (ok_read t)) hr (by decide) t.g_read t.F_read.kp t.b_read (da_cons (de_var 4) da_nil) (lq_cons lq_nil)) da_nil) (lq_cons lq_nil))))))))) (fun _ _ _ _ _ => (de_var 4)))) (DN.dr (dn_lst da_nil (ln_big ln_nil))) (nomark _)))))))))))
theorem ok_law (t : T w K mg) : FnD P w K mg base 31 t.a_law t.fd_law ["script"] M_law := fn_mk t.F_law sc_law rfl fun cdv A outer s H E hr =>
    ((ds_cons (ds_par 6 7 rfl sc_law.nd (da_cons (de_call (ok_Lbox t 12) hr (by decide) t.g_Lbox t.F_Lbox.kp t.b_Lbox (da_cons (de_call (ok_Lmixed t) hr (by decide) t.g_Lmixed t.F_Lmixed.kp t.b_Lmixed (da_cons (de_var 0) (da_cons de_int da_nil)) (lq_cons (lq_cons lq_nil))) (da_cons de_str (da_cons de_int da_nil))) (lq_cons (lq_cons (lq_cons lq_nil)))) (da_cons (de_call (ok_Lbox t 12) hr (by decide) t.g_Lbox t.F_Lbox.kp t.b_Lbox (da_cons (de_call (ok_Lmixed t) hr (by decide) t.g_Lmixed t.F_Lmixed.kp t.b_Lmixed (da_cons (de_var 0) (da_cons de_int da_nil)) (lq_cons (lq_cons lq_nil))) (da_cons de_str (da_cons de_int da_nil))) (lq_cons (lq_cons (lq_cons lq_nil)))) da_nil)))
      (ds_cons (ds_par 8 9 rfl sc_law.nd (da_cons (de_call (ok_written t) hr (by decide) t.g_written t.F_written.kp t.b_written (da_cons (de_var 6) da_nil) (lq_cons lq_nil)) (da_cons (de_call (ok_written t) hr (by decide) t.g_written t.F_written.kp t.b_written (da_cons (de_var 7) da_nil) (lq_cons lq_nil)) da_nil)))
      (ds_cons (ds_if (DW.dt (dw_or (dt_cmp (op_neD hr.units) od_ne (DE.dr (de_call (fn_noRaise (ok_read t)) hr (by decide) t.g_read t.F_read.kp t.b_read (da_cons (de_var 8) da_nil) (lq_cons lq_nil))) (DE.dr (de_var 6)) (nomark _)) (dw_or1 (dt_cmp (op_neD hr.units) od_ne (DE.dr (de_call (ok_names_in t 12) hr (by decide) t.g_names_in t.F_names_in.kp t.b_names_in (da_cons (de_var 6) da_nil) (lq_cons lq_nil))) (DE.dr (de_tuple t.m_tuple (DE.dr (de_call (ok_Lnames t 12) hr (by decide) t.g_Lnames t.F_Lnames.kp t.b_Lnames (da_cons (de_var 6) da_nil) (lq_cons lq_nil))))) (nomark _))))) (ds_one (ds_ret de_bl)) ds_nil)
      (ds_cons (ds_for PassesOwn.never rfl (di_any (de_tup (da_cons de_str (da_cons de_str da_nil)) (ln_big (ln_cons (ln_cons ln_nil))))) (dg_name 1 sc_law.nd) (ds_cons (ds_asg 10 sc_law.nd (de_add (DE.dr (de_add (DE.dr (de_add (DE.dr (de_add (DE.dr (de_add (DE.dr (de_var 1)) (DE.dr de_str))) (DE.dr (de_var 8)))) (DE.dr de_str))) (DE.dr (de_var 9)))) (DE.dr de_str)))
      (ds_cons (ds_if (DW.dt (dw_or (dt_cmp (op_neD hr.units) od_ne (DE.dr (de_call (ok_written t) hr (by decide) t.g_written t.F_written.kp t.b_written (da_cons (de_tup (da_cons (de_var 1) (da_cons de_str (da_cons de_int (da_cons (de_tup (da_cons (de_var 6) (da_cons (de_var 7) da_nil)) (ln_big (ln_cons (ln_cons ln_nil)))) da_nil)))) (ln_big (ln_cons (ln_cons (ln_cons (ln_cons ln_nil)))))) da_nil) (lq_cons lq_nil))) (DE.dr (de_var 10)) (nomark _)) (dw_or1 (dt_cmp (op_neD hr.units) od_ne (DE.dr (de_call (fn_noRaise (ok_read t)) hr (by decide) t.g_read t.F_read.kp t.b_read (da_cons (de_var 10) da_nil) (lq_cons lq_nil))) (DE.dr (de_tup (da_cons (de_var 1) (da_cons de_str (da_cons de_int (da_cons (de_tup (da_cons (de_var 6) (da_cons (de_var 7) da_nil)) (ln_big (ln_cons (ln_cons ln_nil)))) da_nil)))) (ln_big (ln_cons (ln_cons (ln_cons (ln_cons ln_nil))))))) (nomark _))))) (ds_one (ds_ret de_bl)) ds_nil)
      (ds_cons (ds_if (DW.dt (dw_or (dt_not (dt_val (de_call (ok_Lnone t) hr (by decide) t.g_Lnone t.F_Lnone.kp t.b_Lnone (da_cons (de_add (DE.dr (de_add (DE.dr (de_add (DE.dr (de_add (DE.dr (de_add (DE.dr (de_var 1)) (DE.dr de_str))) (DE.dr (de_var 8)))) (DE.dr de_str))) (DE.dr (de_var 8)))) (DE.dr de_str)) da_nil) (lq_cons lq_nil)))) (dw_or1 (dt_not (dt_val (de_call (ok_Lnone t) hr (by decide) t.g_Lnone t.F_Lnone.kp t.b_Lnone (da_cons (de_add (DE.dr (de_add (DE.dr (de_add (DE.dr (de_var 1)) (DE.dr de_str))) (DE.dr (de_var 8)))) (DE.dr de_str)) da_nil) (lq_cons lq_nil))))))) (ds_one (ds_ret de_bl)) ds_nil)
      (ds_one (ds_if (DW.dt (dw_or (dt_not (dt_val (de_call (ok_Lnone t) hr (by decide) t.g_Lnone t.F_Lnone.kp t.b_Lnone (da_cons (de_slice (DE.dr (de_var 10)) do_none (do_some (de_neg (DE.dr de_int)))) da_nil) (lq_cons lq_nil)))) (dw_or (dt_not (dt_val (de_call (ok_Lnone t) hr (by decide) t.g_Lnone t.F_Lnone.kp t.b_Lnone (da_cons (de_add (DE.dr (de_var 1)) (DE.dr de_str)) da_nil) (lq_cons lq_nil)))) (dw_or1 (dt_not (dt_val (de_call (ok_Lnone t) hr (by decide) t.g_Lnone t.F_Lnone.kp t.b_Lnone (da_cons (de_add (DE.dr (de_var 10)) (DE.dr de_str)) da_nil) (lq_cons lq_nil)))))))) (ds_one (ds_ret de_bl)) ds_nil))))))
      (ds_cons (ds_if (dt_cmp (op_neD hr.units) od_ne (DE.dr (de_call (fn_noRaise (ok_read t)) hr (by decide) t.g_read t.F_read.kp t.b_read (da_cons (de_add (DE.dr (de_add (DE.dr (de_add (DE.dr (de_add (DE.dr de_str) (DE.dr (de_var 8)))) (DE.dr de_str))) (DE.dr (de_var 9)))) (DE.dr de_str)) da_nil) (lq_cons lq_nil))) (DE.dr (de_tup (da_cons de_str (da_cons de_str (da_cons (de_tup (da_cons (de_var 6) (da_cons (de_var 7) da_nil)) (ln_big (ln_cons (ln_cons ln_nil)))) da_nil))) (ln_big (ln_cons (ln_cons (ln_cons ln_nil)))))) (nomark _)) (ds_one (ds_ret de_bl)) ds_nil)
      (ds_cons (ds_if (DW.dt (dw_or (dt_cmp (op_neD hr.units) od_ne (DE.dr (de_call (fn_noRaise (ok_read t)) hr (by decide) t.g_read t.F_read.kp t.b_read (da_cons (de_add (DE.dr de_str) (DE.dr (de_var 8))) da_nil) (lq_cons lq_nil))) (DE.dr (de_tup (da_cons de_str (da_cons de_str (da_cons de_int (da_cons de_int (da_cons de_int (da_cons de_int (da_cons (de_var 6) da_nil))))))) (ln_big (ln_cons (ln_cons (ln_cons (ln_cons (ln_cons (ln_cons (ln_cons ln_nil)))))))))) (nomark _)) (dw_or1 (dt_not (dt_val (de_call (ok_Lnone t) hr (by decide) t.g_Lnone t.F_Lnone.kp t.b_Lnone (da_cons (de_add (DE.dr de_str) (DE.dr (de_var 8))) da_nil) (lq_cons lq_nil))))))) (ds_one (ds_ret de_bl)) ds_nil)
      (ds_cons (ds_if (dt_cmp (op_neD hr.units) od_ne (DE.dr (de_call (ok_names_in t 12) hr (by decide) t.g_names_in t.F_names_in.kp t.b_names_in (da_cons (de_tup (da_cons de_str (da_cons de_str (da_cons de_int (da_cons de_int (da_cons de_int (da_cons de_int (da_cons (de_var 6) da_nil))))))) (ln_big (ln_cons (ln_cons (ln_cons (ln_cons (ln_cons (ln_cons (ln_cons ln_nil))))))))) da_nil) (lq_cons lq_nil))) (DE.dr (de_add (DE.dr (de_tup (da_cons de_str da_nil) (ln_big (ln_cons ln_nil)))) (DE.dr (de_call (ok_names_in t 12) hr (by decide) t.g_names_in t.F_names_in.kp t.b_names_in (da_cons (de_var 6) da_nil) (lq_cons lq_nil))))) (nomark _)) (ds_one (ds_ret de_bl)) ds_nil)
      (ds_cons (ds_asg 2 sc_law.nd de_str)
      (ds_cons (ds_lc 3 [("name", 12)] rfl sc_law.nd (dir_any (DE.dr de_str)) (blkOk_by (N := N_law) (sc := defScope s_law) (by decide +kernel)) (fun _ _ _ _ _ => (dg_name 12 sc_law.nd)) (fun _ _ _ _ _ => dts_nil) (fun _ _ _ _ _ => (de_add (DE.dr (de_add (DE.dr de_str) (DE.dr (de_var 12)))) (DE.dr (de_var 2)))))
      (ds_cons (ds_for PassesOwn.never rfl (di_rng2 t.m_range de_int de_int) (dg_name 4 sc_law.nd) (ds_cons (ds_if (dt_cmp (op_neD hr.units) od_ne (DE.dr (de_call (ok_Lnone t) hr (by decide) t.g_Lnone t.F_Lnone.kp t.b_Lnone (da_cons (de_add (DE.dr (de_add (DE.dr de_str) (DE.dr (de_join de_str (DE.dr (de_slice (DE.dr (de_var 3)) do_none (do_some (de_var 4)))))))) (DE.dr de_str)) da_nil) (lq_cons lq_nil))) (DE.dr (de_cmp op_gt od_gt (DE.dr (de_var 4)) (DE.dr de_int) (nomark _))) (nomark _)) (ds_one (ds_ret de_bl)) ds_nil)
      (ds_one (ds_if (dt_cmp (op_neD hr.units) od_ne (DE.dr (de_call (ok_Lnone t) hr (by decide) t.g_Lnone t.F_Lnone.kp t.b_Lnone (da_cons (de_add (DE.dr (de_add (DE.dr de_str) (DE.dr (de_join de_str (DE.dr (de_slice (DE.dr (de_var 3)) do_none (do_some (de_var 4)))))))) (DE.dr de_str)) da_nil) (lq_cons lq_nil))) (DE.dr (de_cmp op_gt od_gt (DE.dr (de_var 4)) (DE.dr de_int) (nomark _))) (nomark _)) (ds_one (ds_ret de_bl)) ds_nil))))
      (ds_cons (ds_asg 5 sc_law.nd (de_ix (DE.dr (de_var 3)) (DE.dr de_int)))
      (ds_cons (ds_for PassesOwn.never rfl (di_enum t.m_enumerate rfl de_str) (dg_tup rfl (dgs_cons (dg_name 11 sc_law.nd) (dgs_cons (dg_name 12 sc_law.nd) dgs_nil))) (ds_cons (ds_asg 5 sc_law.nd (de_add (DE.dr (de_add (DE.dr (de_add (DE.dr (de_add (DE.dr de_str) (DE.dr (de_var 12)))) (DE.dr de_str))) (DE.dr (de_var 5)))) (DE.dr de_str)))
      (ds_one (ds_if (dt_cmp (op_neD hr.units) od_ne (DE.dr (de_call (ok_Lnone t) hr (by decide) t.g_Lnone t.F_Lnone.kp t.b_Lnone (da_cons (de_var 5) da_nil) (lq_cons lq_nil))) (DE.dr (de_cmp op_gt od_gt (DE.dr (de_var 11)) (DE.dr de_int) (nomark _))) (nomark _)) (ds_one (ds_ret de_bl)) ds_nil))))
      (ds_one (ds_ret (de_call (ok_Lby_hand t) hr (by decide) t.g_Lby_hand t.F_Lby_hand.kp t.b_Lby_hand (da_cons (de_call (ok_Lmixed t) hr (by decide) t.g_Lmixed t.F_Lmixed.kp t.b_Lmixed (da_cons (de_var 0) (da_cons de_int da_nil)) (lq_cons (lq_cons lq_nil))) da_nil) (lq_cons lq_nil)))))))))))))))))
end
def dd_is_whole : He.DefD := ⟨("is_whole", none), "is_whole", "is_whole", defArgs s_is_whole, defBody s_is_whole, defScope s_is_whole, [], []⟩
def dd_is_name : He.DefD := ⟨("is_name", none), "is_name", "is_name", defArgs s_is_name, defBody s_is_name, defScope s_is_name, [], []⟩
def dd_is_span : He.DefD := ⟨("is_span", none), "is_span", "is_span", defArgs s_is_span, defBody s_is_span, defScope s_is_span, [], []⟩
def dd_are_boxes : He.DefD := ⟨("are_boxes", none), "are_boxes", "are_boxes", defArgs s_are_boxes, defBody s_are_boxes, defScope s_are_boxes, [], []⟩
def dd_is_box_to : He.DefD := ⟨("is_box_to", none), "is_box_to", "is_box_to", defArgs s_is_box_to, defBody s_is_box_to, defScope s_is_box_to, [], []⟩
def dd_boxes_in : He.DefD := ⟨("boxes_in", none), "boxes_in", "boxes_in", defArgs s_boxes_in, defBody s_boxes_in, defScope s_boxes_in, [], []⟩
def dd_names_in : He.DefD := ⟨("names_in", none), "names_in", "names_in", defArgs s_names_in, defBody s_names_in, defScope s_names_in, [], []⟩
def dd_is_box : He.DefD := ⟨("is_box", none), "is_box", "is_box", defArgs s_is_box, defBody s_is_box, defScope s_is_box, [], []⟩
def dd_span_words : He.DefD := ⟨("span_words", none), "span_words", "span_words", defArgs s_span_words, defBody s_span_words, defScope s_span_words, [], []⟩
def dd_box_words : He.DefD := ⟨("box_words", none), "box_words", "box_words", defArgs s_box_words, defBody s_box_words, defScope s_box_words, [], []⟩
def dd_written : He.DefD := ⟨("written", none), "written", "written", defArgs s_written, defBody s_written, defScope s_written, [], []⟩
def dd_read : He.DefD := ⟨("read", none), "read", "read", defArgs s_read, defBody s_read, defScope s_read, [], []⟩
def dd_Lcell_at : He.DefD := ⟨("_law_cell_at", none), "_law_cell_at", "_law_cell_at", defArgs s_Lcell_at, defBody s_Lcell_at, defScope s_Lcell_at, [], []⟩
def dd_Lmixed : He.DefD := ⟨("_law_mixed", none), "_law_mixed", "_law_mixed", defArgs s_Lmixed, defBody s_Lmixed, defScope s_Lmixed, [], []⟩
def dd_Ldrawn : He.DefD := ⟨("_law_drawn", none), "_law_drawn", "_law_drawn", defArgs s_Ldrawn, defBody s_Ldrawn, defScope s_Ldrawn, [], []⟩
def dd_Lspan : He.DefD := ⟨("_law_span", none), "_law_span", "_law_span", defArgs s_Lspan, defBody s_Lspan, defScope s_Lspan, [], []⟩
def dd_Lbox : He.DefD := ⟨("_law_box", none), "_law_box", "_law_box", defArgs s_Lbox, defBody s_Lbox, defScope s_Lbox, [], []⟩
def dd_Lin : He.DefD := ⟨("_law_in", none), "_law_in", "_law_in", defArgs s_Lin, defBody s_Lin, defScope s_Lin, [], []⟩
def dd_Lnames : He.DefD := ⟨("_law_names", none), "_law_names", "_law_names", defArgs s_Lnames, defBody s_Lnames, defScope s_Lnames, [], []⟩
def dd_Lnone : He.DefD := ⟨("_law_none", none), "_law_none", "_law_none", defArgs s_Lnone, defBody s_Lnone, defScope s_Lnone, [], []⟩
def dd_Lby_hand : He.DefD := ⟨("_law_by_hand", none), "_law_by_hand", "_law_by_hand", defArgs s_Lby_hand, defBody s_Lby_hand, defScope s_Lby_hand, [], []⟩
def dd_law : He.DefD := ⟨("law", none), "law", "law", defArgs s_law, defBody s_law, defScope s_law, [], []⟩
def dd_Rinit : He.DefD := ⟨("Reader", some "__init__"), "__init__", "Reader.__init__", defArgs s_Rinit, defBody s_Rinit, defScope s_Rinit, [], []⟩
def dd_Rword : He.DefD := ⟨("Reader", some "word"), "word", "Reader.word", defArgs s_Rword, defBody s_Rword, defScope s_Rword, [], []⟩
def dd_Rnumber : He.DefD := ⟨("Reader", some "number"), "number", "Reader.number", defArgs s_Rnumber, defBody s_Rnumber, defScope s_Rnumber, [], []⟩
def dd_Rnumbers : He.DefD := ⟨("Reader", some "numbers"), "numbers", "Reader.numbers", defArgs s_Rnumbers, defBody s_Rnumbers, defScope s_Rnumbers, [], []⟩
def dd_Rboxes : He.DefD := ⟨("Reader", some "boxes"), "boxes", "Reader.boxes", defArgs s_Rboxes, defBody s_Rboxes, defScope s_Rboxes, [], []⟩
def dd_Rbox : He.DefD := ⟨("Reader", some "box"), "box", "Reader.box", defArgs s_Rbox, defBody s_Rbox, defScope s_Rbox, [], []⟩
def fn : List He.DefD := [dd_is_whole, dd_is_name, dd_is_span, dd_are_boxes, dd_is_box_to, dd_boxes_in, dd_names_in, dd_is_box, dd_span_words, dd_box_words, dd_written, dd_read, dd_Lcell_at, dd_Lmixed, dd_Ldrawn, dd_Lspan, dd_Lbox, dd_Lin, dd_Lnames, dd_Lnone, dd_Lby_hand, dd_law, dd_Rinit, dd_Rword, dd_Rnumber, dd_Rnumbers, dd_Rboxes, dd_Rbox]
def fa : List He.Fa := [.glo "is_whole", .glo "is_name", .glo "is_span", .glo "are_boxes", .glo "is_box_to", .glo "boxes_in", .glo "names_in", .glo "is_box", .glo "span_words", .glo "box_words", .glo "written", .glo "read", .glo "_law_cell_at", .glo "_law_mixed", .glo "_law_drawn", .glo "_law_span", .glo "_law_box", .glo "_law_in", .glo "_law_names", .glo "_law_none", .glo "_law_by_hand", .glo "law", .free "isinstance", .free "bool", .free "int", .free "all", .free "len", .free "str", .free "tuple", .free "set", .free "range", .free "min", .free "enumerate", .str "LETTERS" "abcdefghijklmnopqrstuvwxyz", .int "LONGEST_NAME" 4, .int "FAR" 999, .int "MOST_SHARE" 9, .int "MOST_BOXES" 4, .int "MOST_PILE" 3, .int "DEEPEST_boxes" 4, .str "NONE" "-", .int "DEEPEST_reading" 6, .str "FIGURES" "0123456789", .int "MOST_FIGURES" 3, .glo "Reader", .glo "NoText", .cls "Reader", .noat "Reader" "at", .noat "Reader" "words", .mkr "Reader", .exc "NoText", .exm "NoText" "NoText" true, .meth "Reader" "word", .meth "Reader" "number", .meth "Reader" "numbers", .meth "Reader" "boxes", .meth "Reader" "box"]
abbrev R : PySem.W.OpenRow := PySem.W.OpenLaw.row PySem.Challenge.rw_growbox_k05_whole_texts_of_parts
def tds : List (Str × TabS) := []
def tus : List (Str × List He.Dv) := []
abbrev hk : PySem.W.Hook := hookX 4 fa fn tds tus
def ob (s : PySem.W.SharedT) : AlX := obsXG 4 fa fn tds tus (HandSHeadRun.getT s)
theorem ob_eq (s : PySem.W.SharedT) : ob s = hk.obs s.abs := obsXG_eq (HandSHeadRun.getT_eq s)
def names : List PySem.Str := [("LETTERS" : PySem.Str), ("LONGEST_NAME" : PySem.Str), ("FAR" : PySem.Str), ("MOST_SHARE" : PySem.Str), ("DEEPEST_boxes" : PySem.Str), ("MOST_BOXES" : PySem.Str), ("MOST_PILE" : PySem.Str), ("is_whole" : PySem.Str), ("is_name" : PySem.Str), ("is_span" : PySem.Str), ("are_boxes" : PySem.Str), ("is_box_to" : PySem.Str), ("boxes_in" : PySem.Str), ("names_in" : PySem.Str), ("is_box" : PySem.Str), ("BoxError" : PySem.Str), ("NoText" : PySem.Str), ("NONE" : PySem.Str), ("span_words" : PySem.Str), ("box_words" : PySem.Str), ("written" : PySem.Str), ("FIGURES" : PySem.Str), ("MOST_FIGURES" : PySem.Str), ("DEEPEST_reading" : PySem.Str), ("Reader" : PySem.Str), ("read" : PySem.Str), ("_law_cell_at" : PySem.Str), ("_law_mixed" : PySem.Str), ("_law_drawn" : PySem.Str), ("_law_span" : PySem.Str), ("_law_box" : PySem.Str), ("_law_in" : PySem.Str), ("_law_names" : PySem.Str), ("_law_none" : PySem.Str), ("_law_by_hand" : PySem.Str)]
theorem run (w : World) : HandSHeadRun.RunEq R (PySem.W.view R.prog [40]) hk ob 1630 names w := by
  intro os
  kernel_rfl
theorem tOf {w : World} {K : PySem.W.Frag} {h : Heap} {mg : Str → Option Value} (X : K.In h) (G : h.Ns mainGlobals mg) (c0 : SaysX fa fn tds tus w K) : Nonempty (T w K mg) := by
  have c := c0.d
  obtain ⟨fd_is_whole, F_is_whole⟩ := c.def_ 0 (d := dd_is_whole) rfl
  obtain ⟨fd_is_name, F_is_name⟩ := c.def_ 1 (d := dd_is_name) rfl
  obtain ⟨fd_is_span, F_is_span⟩ := c.def_ 2 (d := dd_is_span) rfl
  obtain ⟨fd_are_boxes, F_are_boxes⟩ := c.def_ 3 (d := dd_are_boxes) rfl
  obtain ⟨fd_is_box_to, F_is_box_to⟩ := c.def_ 4 (d := dd_is_box_to) rfl
  obtain ⟨fd_boxes_in, F_boxes_in⟩ := c.def_ 5 (d := dd_boxes_in) rfl
  obtain ⟨fd_names_in, F_names_in⟩ := c.def_ 6 (d := dd_names_in) rfl
  obtain ⟨fd_is_box, F_is_box⟩ := c.def_ 7 (d := dd_is_box) rfl
  obtain ⟨fd_span_words, F_span_words⟩ := c.def_ 8 (d := dd_span_words) rfl
  obtain ⟨fd_box_words, F_box_words⟩ := c.def_ 9 (d := dd_box_words) rfl
  obtain ⟨fd_written, F_written⟩ := c.def_ 10 (d := dd_written) rfl
  obtain ⟨fd_read, F_read⟩ := c.def_ 11 (d := dd_read) rfl
  obtain ⟨fd_Lcell_at, F_Lcell_at⟩ := c.def_ 12 (d := dd_Lcell_at) rfl
  obtain ⟨fd_Lmixed, F_Lmixed⟩ := c.def_ 13 (d := dd_Lmixed) rfl
  obtain ⟨fd_Ldrawn, F_Ldrawn⟩ := c.def_ 14 (d := dd_Ldrawn) rfl
  obtain ⟨fd_Lspan, F_Lspan⟩ := c.def_ 15 (d := dd_Lspan) rfl
  obtain ⟨fd_Lbox, F_Lbox⟩ := c.def_ 16 (d := dd_Lbox) rfl
  obtain ⟨fd_Lin, F_Lin⟩ := c.def_ 17 (d := dd_Lin) rfl
  obtain ⟨fd_Lnames, F_Lnames⟩ := c.def_ 18 (d := dd_Lnames) rfl
  obtain ⟨fd_Lnone, F_Lnone⟩ := c.def_ 19 (d := dd_Lnone) rfl
  obtain ⟨fd_Lby_hand, F_Lby_hand⟩ := c.def_ 20 (d := dd_Lby_hand) rfl
  obtain ⟨fd_law, F_law⟩ := c.def_ 21 (d := dd_law) rfl
  obtain ⟨k_LETTERS, c_LETTERS⟩ := He.str_ok X G (c.fact 33 (f := .str "LETTERS" "abcdefghijklmnopqrstuvwxyz") rfl)
  obtain ⟨k_LONGEST_NAME, c_LONGEST_NAME⟩ := He.int_ok X G (c.fact 34 (f := .int "LONGEST_NAME" 4) rfl)
  obtain ⟨k_FAR, c_FAR⟩ := He.int_ok X G (c.fact 35 (f := .int "FAR" 999) rfl)
  obtain ⟨k_MOST_SHARE, c_MOST_SHARE⟩ := He.int_ok X G (c.fact 36 (f := .int "MOST_SHARE" 9) rfl)
  obtain ⟨k_MOST_BOXES, c_MOST_BOXES⟩ := He.int_ok X G (c.fact 37 (f := .int "MOST_BOXES" 4) rfl)
  obtain ⟨k_MOST_PILE, c_MOST_PILE⟩ := He.int_ok X G (c.fact 38 (f := .int "MOST_PILE" 3) rfl)
  obtain ⟨k_DEEPEST_boxes, c_DEEPEST_boxes⟩ := He.int_ok X G (c.fact 39 (f := .int "DEEPEST_boxes" 4) rfl)
  obtain ⟨k_NONE, c_NONE⟩ := He.str_ok X G (c.fact 40 (f := .str "NONE" "-") rfl)
  obtain ⟨k_DEEPEST_reading, c_DEEPEST_reading⟩ := He.int_ok X G (c.fact 41 (f := .int "DEEPEST_reading" 6) rfl)
  obtain ⟨k_FIGURES, c_FIGURES⟩ := He.str_ok X G (c.fact 42 (f := .str "FIGURES" "0123456789") rfl)
  obtain ⟨k_MOST_FIGURES, c_MOST_FIGURES⟩ := He.int_ok X G (c.fact 43 (f := .int "MOST_FIGURES" 3) rfl)
  obtain ⟨fd_Rinit, F_Rinit⟩ := c.def_ 22 (d := dd_Rinit) rfl
  obtain ⟨fd_Rword, F_Rword⟩ := c.def_ 23 (d := dd_Rword) rfl
  obtain ⟨fd_Rnumber, F_Rnumber⟩ := c.def_ 24 (d := dd_Rnumber) rfl
  obtain ⟨fd_Rnumbers, F_Rnumbers⟩ := c.def_ 25 (d := dd_Rnumbers) rfl
  obtain ⟨fd_Rboxes, F_Rboxes⟩ := c.def_ 26 (d := dd_Rboxes) rfl
  obtain ⟨fd_Rbox, F_Rbox⟩ := c.def_ 27 (d := dd_Rbox) rfl
  obtain ⟨x1, x2, x3, x4⟩ := He.exc_ok (c.fact 50 (f := .exc "NoText") rfl)
  exact ⟨{
    a_Rinit := _, fd_Rinit := fd_Rinit, F_Rinit := F_Rinit, b_Rinit := F_Rinit.bindsN fun _ _ _ _ _ _ us hl => match us, hl with | [_, _], _ => rfl,
    a_Rword := _, fd_Rword := fd_Rword, F_Rword := F_Rword, b_Rword := F_Rword.bindsN fun _ _ _ _ _ _ us hl => match us, hl with | [_], _ => rfl,
    mt_Rword := He.meth_ok (c.fact 52 (f := .meth "Reader" "word") rfl),
    a_Rnumber := _, fd_Rnumber := fd_Rnumber, F_Rnumber := F_Rnumber, b_Rnumber := F_Rnumber.bindsN fun _ _ _ _ _ _ us hl => match us, hl with | [_], _ => rfl,
    mt_Rnumber := He.meth_ok (c.fact 53 (f := .meth "Reader" "number") rfl),
    a_Rnumbers := _, fd_Rnumbers := fd_Rnumbers, F_Rnumbers := F_Rnumbers, b_Rnumbers := F_Rnumbers.bindsN fun _ _ _ _ _ _ us hl => match us, hl with | [_, _], _ => rfl,
    mt_Rnumbers := He.meth_ok (c.fact 54 (f := .meth "Reader" "numbers") rfl),
    a_Rboxes := _, fd_Rboxes := fd_Rboxes, F_Rboxes := F_Rboxes, b_Rboxes := F_Rboxes.bindsN fun _ _ _ _ _ _ us hl => match us, hl with | [_, _], _ => rfl,
    mt_Rboxes := He.meth_ok (c.fact 55 (f := .meth "Reader" "boxes") rfl),
    a_Rbox := _, fd_Rbox := fd_Rbox, F_Rbox := F_Rbox, b_Rbox := F_Rbox.bindsN fun _ _ _ _ _ _ us hl => match us, hl with | [_, _], _ => rfl,
    mt_Rbox := He.meth_ok (c.fact 56 (f := .meth "Reader" "box") rfl),
    mkr := He.mkr_ok (c.fact 49 (f := .mkr "Reader") rfl), rk := ⟨He.cls_ok (c.fact 46 (f := .cls "Reader") rfl), He.noat_ok (c.fact 47 (f := .noat "Reader" "at") rfl), He.noat_ok (c.fact 48 (f := .noat "Reader" "words") rfl)⟩, gR := He.glo_ok X G (c.fact 44 (f := .glo "Reader") rfl), gx := He.glo_ok X G (c.fact 45 (f := .glo "NoText") rfl), ex := x1, kx := x2, rx1 := x3, rx2 := x4, te := He.exm_ok (c.fact 51 (f := .exm "NoText" "NoText" true) rfl),
    a_is_whole := _, fd_is_whole := fd_is_whole, F_is_whole := F_is_whole, g_is_whole := He.glo_ok X G (c.fact 0 (f := .glo "is_whole") rfl), b_is_whole := F_is_whole.bindsN fun _ _ _ _ _ _ us hl => match us, hl with | [_, _, _], _ => rfl,
    a_is_name := _, fd_is_name := fd_is_name, F_is_name := F_is_name, g_is_name := He.glo_ok X G (c.fact 1 (f := .glo "is_name") rfl), b_is_name := F_is_name.bindsN fun _ _ _ _ _ _ us hl => match us, hl with | [_], _ => rfl,
    a_is_span := _, fd_is_span := fd_is_span, F_is_span := F_is_span, g_is_span := He.glo_ok X G (c.fact 2 (f := .glo "is_span") rfl), b_is_span := F_is_span.bindsN fun _ _ _ _ _ _ us hl => match us, hl with | [_], _ => rfl,
    a_are_boxes := _, fd_are_boxes := fd_are_boxes, F_are_boxes := F_are_boxes, g_are_boxes := He.glo_ok X G (c.fact 3 (f := .glo "are_boxes") rfl), b_are_boxes := F_are_boxes.bindsN fun _ _ _ _ _ _ us hl => match us, hl with | [_, _, _], _ => rfl,
    a_is_box_to := _, fd_is_box_to := fd_is_box_to, F_is_box_to := F_is_box_to, g_is_box_to := He.glo_ok X G (c.fact 4 (f := .glo "is_box_to") rfl), b_is_box_to := F_is_box_to.bindsN fun _ _ _ _ _ _ us hl => match us, hl with | [_, _], _ => rfl,
    a_boxes_in := _, fd_boxes_in := fd_boxes_in, F_boxes_in := F_boxes_in, g_boxes_in := He.glo_ok X G (c.fact 5 (f := .glo "boxes_in") rfl), b_boxes_in := F_boxes_in.bindsN fun _ _ _ _ _ _ us hl => match us, hl with | [_], _ => rfl,
    a_names_in := _, fd_names_in := fd_names_in, F_names_in := F_names_in, g_names_in := He.glo_ok X G (c.fact 6 (f := .glo "names_in") rfl), b_names_in := F_names_in.bindsN fun _ _ _ _ _ _ us hl => match us, hl with | [_], _ => rfl,
    a_is_box := _, fd_is_box := fd_is_box, F_is_box := F_is_box, g_is_box := He.glo_ok X G (c.fact 7 (f := .glo "is_box") rfl), b_is_box := F_is_box.bindsN fun _ _ _ _ _ _ us hl => match us, hl with | [_], _ => rfl,
    a_span_words := _, fd_span_words := fd_span_words, F_span_words := F_span_words, g_span_words := He.glo_ok X G (c.fact 8 (f := .glo "span_words") rfl), b_span_words := F_span_words.bindsN fun _ _ _ _ _ _ us hl => match us, hl with | [_], _ => rfl,
    a_box_words := _, fd_box_words := fd_box_words, F_box_words := F_box_words, g_box_words := He.glo_ok X G (c.fact 9 (f := .glo "box_words") rfl), b_box_words := F_box_words.bindsN fun _ _ _ _ _ _ us hl => match us, hl with | [_], _ => rfl,
    a_written := _, fd_written := fd_written, F_written := F_written, g_written := He.glo_ok X G (c.fact 10 (f := .glo "written") rfl), b_written := F_written.bindsN fun _ _ _ _ _ _ us hl => match us, hl with | [_], _ => rfl,
    a_read := _, fd_read := fd_read, F_read := F_read, g_read := He.glo_ok X G (c.fact 11 (f := .glo "read") rfl), b_read := F_read.bindsN fun _ _ _ _ _ _ us hl => match us, hl with | [_], _ => rfl,
    a_Lcell_at := _, fd_Lcell_at := fd_Lcell_at, F_Lcell_at := F_Lcell_at, g_Lcell_at := He.glo_ok X G (c.fact 12 (f := .glo "_law_cell_at") rfl), b_Lcell_at := F_Lcell_at.bindsN fun _ _ _ _ _ _ us hl => match us, hl with | [_, _], _ => rfl,
    a_Lmixed := _, fd_Lmixed := fd_Lmixed, F_Lmixed := F_Lmixed, g_Lmixed := He.glo_ok X G (c.fact 13 (f := .glo "_law_mixed") rfl), b_Lmixed := F_Lmixed.bindsN fun _ _ _ _ _ _ us hl => match us, hl with | [_, _], _ => rfl,
    a_Ldrawn := _, fd_Ldrawn := fd_Ldrawn, F_Ldrawn := F_Ldrawn, g_Ldrawn := He.glo_ok X G (c.fact 14 (f := .glo "_law_drawn") rfl), b_Ldrawn := F_Ldrawn.bindsN fun _ _ _ _ _ _ us hl => match us, hl with | [_, _], _ => rfl,
    a_Lspan := _, fd_Lspan := fd_Lspan, F_Lspan := F_Lspan, g_Lspan := He.glo_ok X G (c.fact 15 (f := .glo "_law_span") rfl), b_Lspan := F_Lspan.bindsN fun _ _ _ _ _ _ us hl => match us, hl with | [_], _ => rfl,
    a_Lbox := _, fd_Lbox := fd_Lbox, F_Lbox := F_Lbox, g_Lbox := He.glo_ok X G (c.fact 16 (f := .glo "_law_box") rfl), b_Lbox := F_Lbox.bindsN fun _ _ _ _ _ _ us hl => match us, hl with | [_, _, _], _ => rfl,
    a_Lin := _, fd_Lin := fd_Lin, F_Lin := F_Lin, g_Lin := He.glo_ok X G (c.fact 17 (f := .glo "_law_in") rfl), b_Lin := F_Lin.bindsN fun _ _ _ _ _ _ us hl => match us, hl with | [_], _ => rfl,
    a_Lnames := _, fd_Lnames := fd_Lnames, F_Lnames := F_Lnames, g_Lnames := He.glo_ok X G (c.fact 18 (f := .glo "_law_names") rfl), b_Lnames := F_Lnames.bindsN fun _ _ _ _ _ _ us hl => match us, hl with | [_], _ => rfl,
    a_Lnone := _, fd_Lnone := fd_Lnone, F_Lnone := F_Lnone, g_Lnone := He.glo_ok X G (c.fact 19 (f := .glo "_law_none") rfl), b_Lnone := F_Lnone.bindsN fun _ _ _ _ _ _ us hl => match us, hl with | [_], _ => rfl,
    a_Lby_hand := _, fd_Lby_hand := fd_Lby_hand, F_Lby_hand := F_Lby_hand, g_Lby_hand := He.glo_ok X G (c.fact 20 (f := .glo "_law_by_hand") rfl), b_Lby_hand := F_Lby_hand.bindsN fun _ _ _ _ _ _ us hl => match us, hl with | [_], _ => rfl,
    a_law := _, fd_law := fd_law, F_law := F_law, g_law := He.glo_ok X G (c.fact 21 (f := .glo "law") rfl), b_law := F_law.bindsN fun _ _ _ _ _ _ us hl => match us, hl with | [_], _ => rfl,
    m_isinstance := He.free_ok X G (c.fact 22 (f := .free "isinstance") rfl),
    m_bool := He.free_ok X G (c.fact 23 (f := .free "bool") rfl),
    m_int := He.free_ok X G (c.fact 24 (f := .free "int") rfl),
    m_all := He.free_ok X G (c.fact 25 (f := .free "all") rfl),
    m_len := He.free_ok X G (c.fact 26 (f := .free "len") rfl),
    m_str := He.free_ok X G (c.fact 27 (f := .free "str") rfl),
    m_tuple := He.free_ok X G (c.fact 28 (f := .free "tuple") rfl),
    m_set := He.free_ok X G (c.fact 29 (f := .free "set") rfl),
    m_range := He.free_ok X G (c.fact 30 (f := .free "range") rfl),
    m_min := He.free_ok X G (c.fact 31 (f := .free "min") rfl),
    m_enumerate := He.free_ok X G (c.fact 32 (f := .free "enumerate") rfl),
    k_LETTERS := k_LETTERS, c_LETTERS := c_LETTERS,
    k_LONGEST_NAME := k_LONGEST_NAME, c_LONGEST_NAME := c_LONGEST_NAME,
    k_FAR := k_FAR, c_FAR := c_FAR,
    k_MOST_SHARE := k_MOST_SHARE, c_MOST_SHARE := c_MOST_SHARE,
    k_MOST_BOXES := k_MOST_BOXES, c_MOST_BOXES := c_MOST_BOXES,
    k_MOST_PILE := k_MOST_PILE, c_MOST_PILE := c_MOST_PILE,
    k_DEEPEST_boxes := k_DEEPEST_boxes, c_DEEPEST_boxes := c_DEEPEST_boxes,
    k_NONE := k_NONE, c_NONE := c_NONE,
    k_DEEPEST_reading := k_DEEPEST_reading, c_DEEPEST_reading := c_DEEPEST_reading,
    k_FIGURES := k_FIGURES, c_FIGURES := c_FIGURES,
    k_MOST_FIGURES := k_MOST_FIGURES, c_MOST_FIGURES := c_MOST_FIGURES,
  }⟩
def spLaw (K : PySem.W.Frag) : Sp := fun vs H Q _ => ∃ (a : Addr) (ns : List Int), vs = [.ref a] ∧ SqL K H a (ns.map V.int) ∧ ns.length ≤ 63 ∧ ∀ H', Q (.bl true) H'
theorem law_ok {P : Program} {w : World} {K : PySem.W.Frag} {mg : Str → Option Value} {base : Heap} (hM : ∀ ns : List Int, ns.length ≤ 63 → M_law [.list (ns.map PyData.int)] = some (.bool true)) (t : T w K mg) :
    FnOk P w K mg base CX0 31 t.a_law t.fd_law ["script"] (spLaw K) :=
  (ok_law t).imp (fun vs H Q E h => by
    obtain ⟨a, ns, rfl, hS, hl, q⟩ := h
    exact ⟨ntH H, _, _, ⟨ntH_ex H, ntH_nt H, fun _ z => z.elim⟩, .cons (.lst (ntH_sql hS) (dpa_ints ns)) .nil, rfl, hM ns hl, fun v F' H' g dp => by rw [dp_bl dp]; exact q H'⟩)
end
end W
open PySem PySem.W PySem.Calls PyProof.Rows
theorem W.finish (hM : ∀ ns : List Int, ns.length ≤ 63 → W.M_law [.list (ns.map PyData.int)] = some (.bool true)) : PySem.Challenge.rw_growbox_k05_whole_texts_of_parts.Holds := by
  w_on; o_law
  refine HandSHeadRun.head_any (r := OpenLaw.row PySem.Challenge.rw_growbox_k05_whole_texts_of_parts) (q := view (OpenLaw.row PySem.Challenge.rw_growbox_k05_whole_texts_of_parts).prog [40]) (H := W.hk) (ob := W.ob) (M := 1630) (loose := W.names) (d := HandSHeadRun.topDef (OpenLaw.row PySem.Challenge.rw_growbox_k05_whole_texts_of_parts).prog 40) (kwd := []) W.ob_eq
    (by kernel_rfl) (fun s => by kernel_rfl) W.run (by kernel_rfl) (by kernel_rfl) (by kernel_rfl) (by rfl) (by first | assumption | decide +kernel) (by decide +kernel) ⟨rfl, rfl, rfl, rfl, rfl, by decide +kernel⟩ ?hw ?hc
  case hw => w_witness2
  case hc =>
    refine L2.walk_ofE (l := PySem.Challenge.rw_growbox_k05_whole_texts_of_parts) (n := 63) (k := 31) (x := "script") (CX := L2.CX0) rfl (by decide) (by kernel_rfl) ⟨rfl, by decide, by decide⟩ ?F (fun _ _ _ _ z => z)
    intro w mg fa h Y G hmg0
    obtain ⟨K, KX, c⟩ := Y
    have hmg : mg ("law" : PySem.Str) = some (.ref fa) := by
      have e : (HandSHeadRun.topDef (OpenLaw.row PySem.Challenge.rw_growbox_k05_whole_texts_of_parts).prog 40).name = ("law" : PySem.Str) := by kernel_rfl
      rw [← e]
      exact hmg0
    obtain ⟨t⟩ := W.tOf KX G c
    have e := hmg.symm.trans t.g_law
    cases e
    have b := L2.FunD.bindsA (ps := ["script"]) t.F_law fun _ _ _ _ _ _ us hl => match us, hl with | [_], _ => rfl
    exact ⟨K, t.fd_law, W.spLaw K, KX, fun s v => b s [v] rfl, fun H a ns hl _ hS => ⟨a, ns, rfl, hS, hl, fun _ => rfl⟩, fun base _ _ => W.law_ok hM t⟩

namespace W
open PySem L2 DL

/-! the law's draws -/
theorem cell_eq (ns : List Int) (k : Nat) : M_Lcell_at [.list (ns.map .int), .int k] = some (.int (ns.getD k 0)) := by
  simp -implicitDefEqProofs [M_Lcell_at, D_Lcell_at, startE]
  by_cases h : k < ns.length
  · simp [h, atI_pos]
  · have h' : ns.length ≤ k := by omega
    simp [h, h']
theorem mixed_ex (ns : List Int) (k : Nat) (hk : k < 1000) : ∃ m : Int, M_Lmixed [.list (ns.map .int), .int k] = some (.int m) ∧ 0 ≤ m ∧ m < 2147483629 := by
  simp -implicitDefEqProofs [M_Lmixed, D_Lmixed, startE, cell_eq, mul_l (a := 7919), mul_r (b := 48271), mod_ok (b := 2147483647), mod_ok (b := 2147483629), mul_l (a := 7)]
  generalize hd : (ns[k]?.getD 0 + 7919 * (k : Int) + 1) * 48271 % 2147483647 = d
  have h0 : 0 ≤ d := by omega
  have h1 : d < 2147483647 := by omega
  rw [mul_l (by omega) (by omega)]
  simp [mod_ok]
  exact ⟨Int.emod_nonneg _ (by decide), Int.emod_lt_of_pos _ (by decide)⟩

theorem drawn_ex (n k : Int) : ∃ m : Int, M_Ldrawn [.int n, .int k] = some (.int m) ∧ 0 ≤ m ∧ m < 2147483629 := by
  simp -implicitDefEqProofs [M_Ldrawn, D_Ldrawn, startE, mul_l (a := 104729), mul_r (b := 69621), mod_ok (b := 2147483647), mod_ok (b := 2147483629), mul_l (a := 3)]
  generalize hd : (n + 104729 * k + 17) * 69621 % 2147483647 = d
  have h0 : 0 ≤ d := by omega
  have h1 : d < 2147483647 := by omega
  rw [mul_l (by omega) (by omega)]
  simp [mod_ok]
  exact ⟨Int.emod_nonneg _ (by decide), Int.emod_lt_of_pos _ (by decide)⟩

/-! spans -/
structure Spn where
  lo : Int
  wi : Int
  mo : Option Int
  gr : Int
  sh : Int
def optD : Option Int → D
  | none => .none
  | some x => .int x
def spD (s : Spn) : D := .tuple [.int s.lo, .int s.wi, optD s.mo, .int s.gr, .int s.sh]
def loV (s : Spn) : Int := if 0 < s.sh then s.lo else s.wi
def toV (s : Spn) : Option Int := if 0 < s.gr then s.mo else some s.wi
/-- well formed -/
structure Spn.Ok (s : Spn) : Prop where
  lo0 : 0 ≤ s.lo
  low : s.lo ≤ s.wi
  top : ∀ m, s.mo = some m → s.wi ≤ m
  gr0 : 0 ≤ s.gr
  sh0 : 0 ≤ s.sh
/-- small -/
structure Spn.Sm (s : Spn) : Prop where
  wi : s.wi ≤ 999
  mo : ∀ m, s.mo = some m → m ≤ 999
  gr : s.gr ≤ 9
  sh : s.sh ≤ 9
theorem optD_none (o : Option Int) : isND (optD o) = some (.bool o.isNone) := by cases o <;> rfl
theorem optD_not (o : Option Int) : notND (optD o) = some (.bool o.isSome) := by cases o <;> rfl
theorem shp_opt (n : Nat) (o : Option Int) : shp n (optD o) = true := by cases o <;> cases n <;> rfl
theorem shp_sp (s : Spn) : shp 1 (spD s) = true := by
  rcases s with ⟨a, b, _ | c, d, e⟩ <;> rfl
theorem eqv_opt (a b : Option Int) : PyData.eqv (optD a) (optD b) = true ↔ a = b := by
  cases a <;> cases b <;> simp [optD, PyData.eqv]
theorem i1 (s : Spn) : atI [PyData.int s.lo, .int s.wi, optD s.mo, .int s.gr, .int s.sh] 1 = some (.int s.wi) := rfl
theorem ix0 (s : Spn) : ixD (spD s) (.int 0) = some (.int s.lo) := rfl
theorem ix1 (s : Spn) : ixD (spD s) (.int 1) = some (.int s.wi) := rfl
theorem ix2 (s : Spn) : ixD (spD s) (.int 2) = some (optD s.mo) := rfl
theorem ix3 (s : Spn) : ixD (spD s) (.int 3) = some (.int s.gr) := rfl
theorem ix4 (s : Spn) : ixD (spD s) (.int 4) = some (.int s.sh) := rfl
theorem optDn : optD none = .none := (rfl)
theorem optDs {x : Int} : optD (some x) = .int x := (rfl)

theorem atO4 {a b c : Int} {r : Int} (h1 : 0 ≤ r) (h2 : r < 4) : ∃ o : Option Int, (o = none ∨ o = some a ∨ o = some b ∨ o = some c) ∧ atI [PyData.none, .int a, .int b, .int c] r = some (optD o) := by
  obtain rfl | rfl | rfl | rfl : r = 0 ∨ r = 1 ∨ r = 2 ∨ r = 3 := by omega
  · exact ⟨none, .inl rfl, rfl⟩
  · exact ⟨some a, .inr (.inl rfl), rfl⟩
  · exact ⟨some b, .inr (.inr (.inl rfl)), rfl⟩
  · exact ⟨some c, .inr (.inr (.inr rfl)), rfl⟩
theorem span_ex {n : Int} (hn : 0 ≤ n) : ∃ s : Spn, M_Lspan [.int n] = some (spD s) ∧ s.Ok ∧ s.Sm := by
  obtain ⟨a, ha, pa⟩ := pick3 (a := 21) (b := 6) (c := 200) (r := n / 8 % 3) (by omega) (by omega)
  obtain ⟨b, hb, pb⟩ := pick3 (a := 21) (b := 1) (c := 90) (r := n / 512 % 3) (by omega) (by omega)
  have ha0 : 0 < a := by omega
  have hb0 : 0 < b := by omega
  have a1 := Int.emod_nonneg n (b := a) (by omega)
  have a2 := Int.emod_lt_of_pos n ha0
  have b1 := Int.emod_nonneg (n / 64) (b := b) (by omega)
  have b2 := Int.emod_lt_of_pos (n / 64) hb0
  obtain ⟨o, ho, po⟩ := atO4 (a := n % a + n / 64 % b + n / 4096 % 30) (b := n % a + n / 64 % b) (c := n % a + n / 64 % b + n / 4096 % 300) (r := n / 131072 % 4) (by omega) (by omega)
  obtain ⟨g, hg, pg⟩ := pick4 (a := 0) (b := 1) (c := 2) (d := 3) (r := n / 524288 % 4) (by omega) (by omega)
  obtain ⟨h, hh, ph⟩ := pick4 (a := 1) (b := 0) (c := 2) (d := 9) (r := n / 2097152 % 4) (by omega) (by omega)
  refine ⟨⟨n % a, n % a + n / 64 % b, o, g, h⟩, ?_, ⟨by simpa using a1, by simp; omega, ?_, by simp; omega, by simp; omega⟩, ⟨by simp; omega, ?_, by simp; omega, by simp; omega⟩⟩
  · simp -implicitDefEqProofs [M_Lspan, D_Lspan, startE, fdiv_ok (b := 8), mod_ok (b := 3), pa, mod_ok ha0, fdiv_ok (b := 64), fdiv_ok (b := 512), pb, mod_ok hb0, fdiv_ok (b := 4096), mod_ok (b := 30), mod_ok (b := 300), fdiv_ok (b := 131072), mod_ok (b := 4), po, fdiv_ok (b := 524288), pg, fdiv_ok (b := 2097152), ph, spD]
  · intro m hm
    simp at hm
    rcases ho with h | h | h | h <;> rw [h] at hm <;> cases hm <;> (try dsimp only) <;> omega
  · intro m hm
    simp at hm
    rcases ho with h | h | h | h <;> rw [h] at hm <;> cases hm <;> (try dsimp only) <;> omega

/-! spans joined -/
def J (b : Bool) (xs : List Int) : Int := if b = true then xs.sum else xs.max?.getD 0
theorem mx_iff {xs : List Int} (h : xs ≠ []) (m : Int) : xs.max?.getD 0 = m ↔ m ∈ xs ∧ ∀ x ∈ xs, x ≤ m := by
  cases hx : xs.max? with
  | none => exact absurd (List.max?_eq_none_iff.mp hx) h
  | some v =>
    have hv := List.max?_eq_some_iff.mp hx
    constructor
    · rintro rfl
      exact hv
    · rintro ⟨h1, h2⟩
      have h3 := hv.2 m h1
      have h4 := h2 v hv.1
      simp only [Option.getD_some]
      omega
theorem mx_some {xs : List Int} (h : xs ≠ []) : xs.max? = some (xs.max?.getD 0) := by
  cases hx : xs.max? with
  | none => exact absurd (List.max?_eq_none_iff.mp hx) h
  | some v => rfl
theorem mx_mem {xs : List Int} (h : xs ≠ []) : xs.max?.getD 0 ∈ xs := ((mx_iff h _).mp rfl).1
theorem mx_le {xs : List Int} (h : xs ≠ []) : ∀ x ∈ xs, x ≤ xs.max?.getD 0 := ((mx_iff h _).mp rfl).2
theorem sum_perm {xs ys : List Int} (h : xs.Perm ys) : xs.sum = ys.sum := by
  induction h with
  | nil => rfl
  | cons x _ ih => rw [List.sum_cons, List.sum_cons, ih]
  | swap x y l => simp only [List.sum_cons]; omega
  | trans _ _ a b => rw [a, b]
theorem J_perm {b : Bool} {xs ys : List Int} (h : xs.Perm ys) : J b xs = J b ys := by
  unfold J
  split
  · exact sum_perm h
  · by_cases hx : xs = []
    · subst hx
      rw [List.nil_perm.mp h]
    · refine (mx_iff hx _).mpr ⟨?_, fun x hxm => ?_⟩
      · have hy : ys ≠ [] := fun e => hx (by rw [e] at h; exact List.perm_nil.mp h)
        exact h.mem_iff.mpr (mx_mem hy)
      · have hy : ys ≠ [] := fun e => hx (by rw [e] at h; exact List.perm_nil.mp h)
        exact mx_le hy x (h.mem_iff.mp hxm)
theorem J_two {b : Bool} {xs ys : List Int} {m1 m2 m3 m : Int} (hx : xs ≠ []) (hy : ys ≠ []) (ht : b = true → m1 + m2 + m3 = m) (hf : b = false → m1 = 0 ∧ m2 = 0 ∧ m3 = 0 ∧ m = 0) : J b [J b xs + m1, J b ys + m2] + m3 = J b (xs ++ ys) + m := by
  cases b with
  | true =>
    have := ht rfl
    simp only [J, if_true, List.sum_cons, List.sum_nil, List.sum_append]
    omega
  | false =>
    obtain ⟨rfl, rfl, rfl, rfl⟩ := hf rfl
    simp only [J, Bool.false_eq_true, if_false, Int.add_zero]
    refine ((mx_iff (by simp [hx]) _).mpr ?_).symm
    have h1 : [xs.max?.getD 0, ys.max?.getD 0] ≠ [] := by simp
    have h2 := mx_mem h1
    have h3 := mx_le h1
    refine ⟨?_, fun x hxm => ?_⟩
    · simp only [List.mem_cons, List.not_mem_nil, or_false] at h2
      rcases h2 with h2 | h2
      · rw [h2]; exact List.mem_append.mpr (.inl (mx_mem hx))
      · rw [h2]; exact List.mem_append.mpr (.inr (mx_mem hy))
    · rcases List.mem_append.mp hxm with q | q
      · exact Int.le_trans (mx_le hx x q) (h3 _ (by simp))
      · exact Int.le_trans (mx_le hy x q) (h3 _ (by simp))
theorem J_mono {b : Bool} {α : Type} {f g : α → Int} : ∀ {S : List α}, S ≠ [] → (∀ s ∈ S, f s ≤ g s) → J b (S.map f) ≤ J b (S.map g) := by
  intro S hS h
  cases b with
  | true =>
    simp only [J, if_true]
    clear hS
    induction S with
    | nil => simp
    | cons a S ih =>
      have h1 := h a (by simp)
      have h2 := ih fun s hs => h s (by simp [hs])
      simp only [List.map_cons, List.sum_cons]
      omega
  | false =>
    simp only [J, Bool.false_eq_true, if_false]
    have h1 : S.map f ≠ [] := by simpa using hS
    have h2 : S.map g ≠ [] := by simpa using hS
    obtain ⟨s, hs, e⟩ := List.mem_map.mp (mx_mem h1)
    rw [← e]
    exact Int.le_trans (h s hs) (mx_le h2 _ (List.mem_map.mpr ⟨s, hs, rfl⟩))
theorem J_congr {b : Bool} {α : Type} {f g : α → Int} {S : List α} (h : ∀ s ∈ S, f s = g s) : J b (S.map f) = J b (S.map g) := by
  rw [List.map_congr_left h]
def allTop (S : List Spn) : Bool := S.all fun s => (toV s).isSome
def tops (S : List Spn) : List Int := S.map fun s => (toV s).getD 0
def jnV (b : Bool) (more : Int) (S : List Spn) : Spn where
  lo := J b (S.map loV) + more
  wi := J b (S.map Spn.wi) + more
  mo := if allTop S = true then some (J b (tops S) + more) else none
  gr := (S.map Spn.gr).max?.getD 0
  sh := (S.map Spn.sh).max?.getD 0
theorem Spn.ext {s t : Spn} (h1 : s.lo = t.lo) (h2 : s.wi = t.wi) (h3 : s.mo = t.mo) (h4 : s.gr = t.gr) (h5 : s.sh = t.sh) : s = t := by
  cases s; cases t
  simp only at h1 h2 h3 h4 h5
  subst h1 h2 h3 h4 h5
  rfl
theorem jn_lo {b : Bool} {more : Int} {S : List Spn} (hS : S ≠ []) (h : ∀ s ∈ S, 0 ≤ s.sh) : loV (jnV b more S) = J b (S.map loV) + more := by
  have hne : S.map Spn.sh ≠ [] := by simpa using hS
  have hle := mx_le hne
  unfold loV jnV
  simp only
  split
  · rfl
  · rename_i hc
    congr 1
    refine J_congr fun s hs => ?_
    have := hle s.sh (List.mem_map.mpr ⟨s, hs, rfl⟩)
    rw [if_neg (by omega)]
theorem jn_to {b : Bool} {more : Int} {S : List Spn} (hS : S ≠ []) (h : ∀ s ∈ S, 0 ≤ s.gr) : toV (jnV b more S) = if allTop S = true then some (J b (tops S) + more) else none := by
  have hne : S.map Spn.gr ≠ [] := by simpa using hS
  have hle := mx_le hne
  unfold toV jnV
  simp only
  split
  · rfl
  · rename_i hc
    have ht : ∀ s ∈ S, toV s = some s.wi := fun s hs => by
      have := hle s.gr (List.mem_map.mpr ⟨s, hs, rfl⟩)
      unfold toV
      rw [if_neg (by omega)]
    have ha : allTop S = true := List.all_eq_true.mpr fun s hs => by rw [ht s hs]; rfl
    rw [if_pos ha]
    congr 2
    unfold tops
    exact J_congr fun s hs => by rw [ht s hs]; rfl
theorem jn_gr0 {b : Bool} {more : Int} {S : List Spn} (hS : S ≠ []) (h : ∀ s ∈ S, 0 ≤ s.gr) : 0 ≤ (jnV b more S).gr := by
  have hne : S.map Spn.gr ≠ [] := by simpa using hS
  obtain ⟨s, hs, e⟩ := List.mem_map.mp (mx_mem hne)
  show 0 ≤ (S.map Spn.gr).max?.getD 0
  rw [← e]
  exact h s hs
theorem jn_sh0 {b : Bool} {more : Int} {S : List Spn} (hS : S ≠ []) (h : ∀ s ∈ S, 0 ≤ s.sh) : 0 ≤ (jnV b more S).sh := by
  have hne : S.map Spn.sh ≠ [] := by simpa using hS
  obtain ⟨s, hs, e⟩ := List.mem_map.mp (mx_mem hne)
  show 0 ≤ (S.map Spn.sh).max?.getD 0
  rw [← e]
  exact h s hs
theorem jn_perm {b : Bool} {more : Int} {S T : List Spn} (h : S.Perm T) : jnV b more S = jnV b more T := by
  have ha : allTop S = allTop T := by
    unfold allTop
    rw [Bool.eq_iff_iff, List.all_eq_true, List.all_eq_true]
    exact ⟨fun q s hs => q s (h.mem_iff.mpr hs), fun q s hs => q s (h.mem_iff.mp hs)⟩
  have mx : ∀ f : Spn → Int, (S.map f).max?.getD 0 = (T.map f).max?.getD 0 := fun f => by
    have := J_perm (b := false) (h.map f)
    simpa [J] using this
  refine Spn.ext ?_ ?_ ?_ (mx _) (mx _)
  · show J b (S.map loV) + more = J b (T.map loV) + more
    rw [J_perm (h.map loV)]
  · show J b (S.map Spn.wi) + more = J b (T.map Spn.wi) + more
    rw [J_perm (h.map Spn.wi)]
  · show (if allTop S = true then some (J b (tops S) + more) else none) = (if allTop T = true then some (J b (tops T) + more) else none)
    rw [ha]
    unfold tops
    rw [J_perm (h.map fun s => (toV s).getD 0)]
theorem jn_two {b : Bool} {m1 m2 m3 m : Int} {S T : List Spn} (hS : S ≠ []) (hT : T ≠ []) (oS : ∀ s ∈ S, 0 ≤ s.gr ∧ 0 ≤ s.sh) (oT : ∀ s ∈ T, 0 ≤ s.gr ∧ 0 ≤ s.sh) (ht : b = true → m1 + m2 + m3 = m) (hf : b = false → m1 = 0 ∧ m2 = 0 ∧ m3 = 0 ∧ m = 0) :
    jnV b m3 [jnV b m1 S, jnV b m2 T] = jnV b m (S ++ T) := by
  have a1 := jn_lo (b := b) (more := m1) hS fun s h => (oS s h).2
  have a2 := jn_lo (b := b) (more := m2) hT fun s h => (oT s h).2
  have b1 := jn_to (b := b) (more := m1) hS fun s h => (oS s h).1
  have b2 := jn_to (b := b) (more := m2) hT fun s h => (oT s h).1
  have mx : ∀ f : Spn → Int, [(S.map f).max?.getD 0, (T.map f).max?.getD 0].max?.getD 0 = ((S ++ T).map f).max?.getD 0 := fun f => by
    have := J_two (b := false) (xs := S.map f) (ys := T.map f) (m1 := 0) (m2 := 0) (m3 := 0) (m := 0) (by simpa using hS) (by simpa using hT) (fun h => by cases h) (fun _ => ⟨rfl, rfl, rfl, rfl⟩)
    rw [List.map_append]
    simpa [J] using this
  have hal : allTop (S ++ T) = (allTop S && allTop T) := by simp [allTop]
  refine Spn.ext ?_ ?_ ?_ (mx _) (mx _)
  · show J b [loV (jnV b m1 S), loV (jnV b m2 T)] + m3 = J b ((S ++ T).map loV) + m
    rw [a1, a2, List.map_append]
    exact J_two (by simpa using hS) (by simpa using hT) ht hf
  · show J b [J b (S.map Spn.wi) + m1, J b (T.map Spn.wi) + m2] + m3 = J b ((S ++ T).map Spn.wi) + m
    rw [List.map_append]
    exact J_two (by simpa using hS) (by simpa using hT) ht hf
  · show (if allTop [jnV b m1 S, jnV b m2 T] = true then some (J b (tops [jnV b m1 S, jnV b m2 T]) + m3) else none) = (if allTop (S ++ T) = true then some (J b (tops (S ++ T)) + m) else none)
    have e1 : allTop [jnV b m1 S, jnV b m2 T] = (allTop S && allTop T) := by
      show ((toV (jnV b m1 S)).isSome && ((toV (jnV b m2 T)).isSome && true)) = _
      rw [b1, b2]
      cases allTop S <;> cases allTop T <;> rfl
    rw [e1, hal]
    by_cases hc : (allTop S && allTop T) = true
    · rw [if_pos hc, if_pos hc]
      congr 1
      rw [Bool.and_eq_true] at hc
      have e2 : tops [jnV b m1 S, jnV b m2 T] = [J b (tops S) + m1, J b (tops T) + m2] := by
        show [(toV (jnV b m1 S)).getD 0, (toV (jnV b m2 T)).getD 0] = _
        rw [b1, b2, if_pos hc.1, if_pos hc.2]
        rfl
      have e3 : tops (S ++ T) = tops S ++ tops T := by simp [tops]
      rw [e2, e3]
      exact J_two (by simpa [tops] using hS) (by simpa [tops] using hT) ht hf
    · rw [if_neg hc, if_neg hc]

/-! words compared -/
theorem eq_strs {a b : Str} {c : Bool} (ha : PyData.strOk a = true) (hb : PyData.strOk b = true) (hc : (a == b) = c) : eqD (.str a) (.str b) = some (.bool c) := by
  rw [eq_ok (n := 0) (m := 0) (a := .str a) (b := .str b) ha hb, ← hc]
  rfl
theorem ne_strs {a b : Str} {c : Bool} (ha : PyData.strOk a = true) (hb : PyData.strOk b = true) (hc : (a == b) = c) : neD (.str a) (.str b) = some (.bool (!c)) := by
  rw [ne_ok (n := 0) (m := 0) (a := .str a) (b := .str b) ha hb, ← hc]
  rfl
@[simp] theorem ek_leaf_leaf : eqD (.str "leaf") (.str "leaf") = some (.bool true) := eq_strs (by decide +kernel) (by decide +kernel) (by decide +kernel)
@[simp] theorem nk_leaf_leaf : neD (.str "leaf") (.str "leaf") = some (.bool false) := (ne_strs (c := true) (by decide +kernel) (by decide +kernel) (by decide +kernel))
@[simp] theorem ek_leaf_row : eqD (.str "leaf") (.str "row") = some (.bool false) := eq_strs (by decide +kernel) (by decide +kernel) (by decide +kernel)
@[simp] theorem nk_leaf_row : neD (.str "leaf") (.str "row") = some (.bool true) := (ne_strs (c := false) (by decide +kernel) (by decide +kernel) (by decide +kernel))
@[simp] theorem ek_leaf_col : eqD (.str "leaf") (.str "col") = some (.bool false) := eq_strs (by decide +kernel) (by decide +kernel) (by decide +kernel)
@[simp] theorem nk_leaf_col : neD (.str "leaf") (.str "col") = some (.bool true) := (ne_strs (c := false) (by decide +kernel) (by decide +kernel) (by decide +kernel))
@[simp] theorem ek_leaf_pile : eqD (.str "leaf") (.str "pile") = some (.bool false) := eq_strs (by decide +kernel) (by decide +kernel) (by decide +kernel)
@[simp] theorem nk_leaf_pile : neD (.str "leaf") (.str "pile") = some (.bool true) := (ne_strs (c := false) (by decide +kernel) (by decide +kernel) (by decide +kernel))
@[simp] theorem ek_leaf_rim : eqD (.str "leaf") (.str "rim") = some (.bool false) := eq_strs (by decide +kernel) (by decide +kernel) (by decide +kernel)
@[simp] theorem nk_leaf_rim : neD (.str "leaf") (.str "rim") = some (.bool true) := (ne_strs (c := false) (by decide +kernel) (by decide +kernel) (by decide +kernel))
@[simp] theorem ek_row_leaf : eqD (.str "row") (.str "leaf") = some (.bool false) := eq_strs (by decide +kernel) (by decide +kernel) (by decide +kernel)
@[simp] theorem nk_row_leaf : neD (.str "row") (.str "leaf") = some (.bool true) := (ne_strs (c := false) (by decide +kernel) (by decide +kernel) (by decide +kernel))
@[simp] theorem ek_row_row : eqD (.str "row") (.str "row") = some (.bool true) := eq_strs (by decide +kernel) (by decide +kernel) (by decide +kernel)
@[simp] theorem nk_row_row : neD (.str "row") (.str "row") = some (.bool false) := (ne_strs (c := true) (by decide +kernel) (by decide +kernel) (by decide +kernel))
@[simp] theorem ek_row_col : eqD (.str "row") (.str "col") = some (.bool false) := eq_strs (by decide +kernel) (by decide +kernel) (by decide +kernel)
@[simp] theorem nk_row_col : neD (.str "row") (.str "col") = some (.bool true) := (ne_strs (c := false) (by decide +kernel) (by decide +kernel) (by decide +kernel))
@[simp] theorem ek_row_pile : eqD (.str "row") (.str "pile") = some (.bool false) := eq_strs (by decide +kernel) (by decide +kernel) (by decide +kernel)
@[simp] theorem nk_row_pile : neD (.str "row") (.str "pile") = some (.bool true) := (ne_strs (c := false) (by decide +kernel) (by decide +kernel) (by decide +kernel))
@[simp] theorem ek_row_rim : eqD (.str "row") (.str "rim") = some (.bool false) := eq_strs (by decide +kernel) (by decide +kernel) (by decide +kernel)
@[simp] theorem nk_row_rim : neD (.str "row") (.str "rim") = some (.bool true) := (ne_strs (c := false) (by decide +kernel) (by decide +kernel) (by decide +kernel))
@[simp] theorem ek_col_leaf : eqD (.str "col") (.str "leaf") = some (.bool false) := eq_strs (by decide +kernel) (by decide +kernel) (by decide +kernel)
@[simp] theorem nk_col_leaf : neD (.str "col") (.str "leaf") = some (.bool true) := (ne_strs (c := false) (by decide +kernel) (by decide +kernel) (by decide +kernel))
@[simp] theorem ek_col_row : eqD (.str "col") (.str "row") = some (.bool false) := eq_strs (by decide +kernel) (by decide +kernel) (by decide +kernel)
@[simp] theorem nk_col_row : neD (.str "col") (.str "row") = some (.bool true) := (ne_strs (c := false) (by decide +kernel) (by decide +kernel) (by decide +kernel))
@[simp] theorem ek_col_col : eqD (.str "col") (.str "col") = some (.bool true) := eq_strs (by decide +kernel) (by decide +kernel) (by decide +kernel)
@[simp] theorem nk_col_col : neD (.str "col") (.str "col") = some (.bool false) := (ne_strs (c := true) (by decide +kernel) (by decide +kernel) (by decide +kernel))
@[simp] theorem ek_col_pile : eqD (.str "col") (.str "pile") = some (.bool false) := eq_strs (by decide +kernel) (by decide +kernel) (by decide +kernel)
@[simp] theorem nk_col_pile : neD (.str "col") (.str "pile") = some (.bool true) := (ne_strs (c := false) (by decide +kernel) (by decide +kernel) (by decide +kernel))
@[simp] theorem ek_col_rim : eqD (.str "col") (.str "rim") = some (.bool false) := eq_strs (by decide +kernel) (by decide +kernel) (by decide +kernel)
@[simp] theorem nk_col_rim : neD (.str "col") (.str "rim") = some (.bool true) := (ne_strs (c := false) (by decide +kernel) (by decide +kernel) (by decide +kernel))
@[simp] theorem ek_pile_leaf : eqD (.str "pile") (.str "leaf") = some (.bool false) := eq_strs (by decide +kernel) (by decide +kernel) (by decide +kernel)
@[simp] theorem nk_pile_leaf : neD (.str "pile") (.str "leaf") = some (.bool true) := (ne_strs (c := false) (by decide +kernel) (by decide +kernel) (by decide +kernel))
@[simp] theorem ek_pile_row : eqD (.str "pile") (.str "row") = some (.bool false) := eq_strs (by decide +kernel) (by decide +kernel) (by decide +kernel)
@[simp] theorem nk_pile_row : neD (.str "pile") (.str "row") = some (.bool true) := (ne_strs (c := false) (by decide +kernel) (by decide +kernel) (by decide +kernel))
@[simp] theorem ek_pile_col : eqD (.str "pile") (.str "col") = some (.bool false) := eq_strs (by decide +kernel) (by decide +kernel) (by decide +kernel)
@[simp] theorem nk_pile_col : neD (.str "pile") (.str "col") = some (.bool true) := (ne_strs (c := false) (by decide +kernel) (by decide +kernel) (by decide +kernel))
@[simp] theorem ek_pile_pile : eqD (.str "pile") (.str "pile") = some (.bool true) := eq_strs (by decide +kernel) (by decide +kernel) (by decide +kernel)
@[simp] theorem nk_pile_pile : neD (.str "pile") (.str "pile") = some (.bool false) := (ne_strs (c := true) (by decide +kernel) (by decide +kernel) (by decide +kernel))
@[simp] theorem ek_pile_rim : eqD (.str "pile") (.str "rim") = some (.bool false) := eq_strs (by decide +kernel) (by decide +kernel) (by decide +kernel)
@[simp] theorem nk_pile_rim : neD (.str "pile") (.str "rim") = some (.bool true) := (ne_strs (c := false) (by decide +kernel) (by decide +kernel) (by decide +kernel))
@[simp] theorem ek_rim_leaf : eqD (.str "rim") (.str "leaf") = some (.bool false) := eq_strs (by decide +kernel) (by decide +kernel) (by decide +kernel)
@[simp] theorem nk_rim_leaf : neD (.str "rim") (.str "leaf") = some (.bool true) := (ne_strs (c := false) (by decide +kernel) (by decide +kernel) (by decide +kernel))
@[simp] theorem ek_rim_row : eqD (.str "rim") (.str "row") = some (.bool false) := eq_strs (by decide +kernel) (by decide +kernel) (by decide +kernel)
@[simp] theorem nk_rim_row : neD (.str "rim") (.str "row") = some (.bool true) := (ne_strs (c := false) (by decide +kernel) (by decide +kernel) (by decide +kernel))
@[simp] theorem ek_rim_col : eqD (.str "rim") (.str "col") = some (.bool false) := eq_strs (by decide +kernel) (by decide +kernel) (by decide +kernel)
@[simp] theorem nk_rim_col : neD (.str "rim") (.str "col") = some (.bool true) := (ne_strs (c := false) (by decide +kernel) (by decide +kernel) (by decide +kernel))
@[simp] theorem ek_rim_pile : eqD (.str "rim") (.str "pile") = some (.bool false) := eq_strs (by decide +kernel) (by decide +kernel) (by decide +kernel)
@[simp] theorem nk_rim_pile : neD (.str "rim") (.str "pile") = some (.bool true) := (ne_strs (c := false) (by decide +kernel) (by decide +kernel) (by decide +kernel))
@[simp] theorem ek_rim_rim : eqD (.str "rim") (.str "rim") = some (.bool true) := eq_strs (by decide +kernel) (by decide +kernel) (by decide +kernel)
@[simp] theorem nk_rim_rim : neD (.str "rim") (.str "rim") = some (.bool false) := (ne_strs (c := true) (by decide +kernel) (by decide +kernel) (by decide +kernel))
@[simp] theorem ek_wide_wide : eqD (.str "wide") (.str "wide") = some (.bool true) := eq_strs (by decide +kernel) (by decide +kernel) (by decide +kernel)
@[simp] theorem ek_wide_high : eqD (.str "wide") (.str "high") = some (.bool false) := eq_strs (by decide +kernel) (by decide +kernel) (by decide +kernel)
@[simp] theorem ek_high_wide : eqD (.str "high") (.str "wide") = some (.bool false) := eq_strs (by decide +kernel) (by decide +kernel) (by decide +kernel)
@[simp] theorem ek_high_high : eqD (.str "high") (.str "high") = some (.bool true) := eq_strs (by decide +kernel) (by decide +kernel) (by decide +kernel)

/-! boxes, no deeper than n -/
inductive BxF (α : Type) where
  | leaf (nm : Str) (w h : Spn)
  | line (c : Bool) (nm : Str) (g : Int) (ps : List α)
  | pile (nm : Str) (ps : List α)
  | rim (nm : Str) (a b c d : Int) (p : α)
def Bx : Nat → Type
  | 0 => Empty
  | n + 1 => BxF (Bx n)
def kindS (c : Bool) : Str := if c = true then "col" else "row"
def bxD : (n : Nat) → Bx n → D
  | 0, b => nomatch b
  | n + 1, b => match (b : BxF (Bx n)) with
    | .leaf nm w h => .tuple [.str "leaf", .str nm, spD w, spD h]
    | .line c nm g ps => .tuple [.str (kindS c), .str nm, .int g, .tuple (ps.map (bxD n))]
    | .pile nm ps => .tuple [.str "pile", .str nm, .tuple (ps.map (bxD n))]
    | .rim nm a b c d p => .tuple [.str "rim", .str nm, .int a, .int b, .int c, .int d, bxD n p]
def bxN : (n : Nat) → Bx n → Str
  | 0, b => nomatch b
  | _ + 1, b => match (b : BxF _) with
    | .leaf nm _ _ => nm
    | .line _ nm _ _ => nm
    | .pile nm _ => nm
    | .rim nm _ _ _ _ _ => nm
def chS (k : Nat) : Str := ⟨#[97 + k]⟩
/-- as a law makes them: its name, its parts' names -/
def Made : (n : Nat) → Str → Bx n → Prop
  | 0, _, b => nomatch b
  | n + 1, nm, b => match (b : BxF (Bx n)) with
    | .leaf nm' w h => nm' = nm ∧ w.Ok ∧ w.Sm ∧ h.Ok ∧ h.Sm
    | .line _ nm' g ps => nm' = nm ∧ 0 ≤ g ∧ g ≤ 10 ∧ 1 ≤ ps.length ∧ ps.length ≤ 4 ∧ ∀ k p, ps[k]? = some p → Made n (nm ++ chS k) p
    | .pile nm' ps => nm' = nm ∧ 1 ≤ ps.length ∧ ps.length ≤ 3 ∧ ∀ k p, ps[k]? = some p → Made n (nm ++ chS k) p
    | .rim nm' a b c d p => nm' = nm ∧ (0 ≤ a ∧ a ≤ 6) ∧ (0 ≤ b ∧ b ≤ 6) ∧ (0 ≤ c ∧ c ≤ 6) ∧ (0 ≤ d ∧ d ≤ 6) ∧ Made n (nm ++ chS 0) p
theorem abcd_ix {k : Nat} (h : k < 4) : ixD (.str "abcd") (.int (k : Int)) = some (.str (chS k)) := by
  have h4 : (if sml ("abcd" : Str).length = true then (atI ("abcd" : Str).cps.toList (k : Int)).map fun c => PyData.str ⟨#[c]⟩ else none) = some (.str (chS k)) := by
    have e1 : ("abcd" : Str).cps.toList = [97, 98, 99, 100] := by decide +kernel
    have e2 : sml ("abcd" : Str).length = true := by decide +kernel
    rw [e1, e2]
    match k, h with
    | 0, _ => rfl
    | 1, _ => rfl
    | 2, _ => rfl
    | 3, _ => rfl
  exact h4
theorem a_ch : ("a" : Str) = chS 0 := by decide +kernel
theorem add_s {a b : Str} (h : a.length + b.length ≤ 100000) : addD (.str a) (.str b) = some (.str (a ++ b)) := by
  show (if sml (a.length + b.length) = true then some (PyData.str (a ++ b)) else none) = _
  rw [sml_of h]
  rfl
theorem len_ch (a : Str) (k : Nat) : (a ++ chS k).length = a.length + 1 := by
  show (a.cps ++ #[97 + k]).size = a.cps.size + 1
  simp

theorem box_leaf {n k : Nat} {num : Int} {nm : Str} (h : n = 0 ∨ 5 < num % 8) (hn : 0 ≤ num) : ∃ b : Bx (n + 1), M_Lbox (k + 1) [.int num, .str nm, .int ((n : Int) + 1)] = some (bxD (n + 1) b) ∧ Made (n + 1) nm b := by
  obtain ⟨d1, x1, y1, _⟩ := drawn_ex num 1
  obtain ⟨d2, x2, y2, _⟩ := drawn_ex num 2
  obtain ⟨s1, z1, o1, p1⟩ := span_ex (n := d1 / 4) (by omega)
  obtain ⟨s2, z2, o2, p2⟩ := span_ex (n := d2 / 4) (by omega)
  have q8 := mod_ok (a := num) (b := 8) (by decide)
  have f4 : ∀ a : Int, fdivD (.int a) (.int 4) = some (.int (a / 4)) := fun a => fdiv_ok (by decide) (by decide)
  refine ⟨BxF.leaf nm s1 s2, ?_, rfl, o1, p1, o2, p2⟩
  show _ = some (PyData.tuple [.str "leaf", .str nm, spD s1, spD s2])
  unfold M_Lbox
  rcases h with h | h
  · subst h
    simp -implicitDefEqProofs [startE, q8, x1, x2, f4, z1, z2]
  · by_cases h0 : n = 0
    · subst h0
      simp -implicitDefEqProofs [startE, q8, x1, x2, f4, z1, z2]
    · have : ¬ ((n : Int) + 1 = 1) := by omega
      simp -implicitDefEqProofs [startE, q8, this, h0, h, x1, x2, f4, z1, z2]
theorem box_ex : ∀ (n k : Nat), n ≤ k → ∀ (num : Int) (nm : Str), 0 ≤ num → nm.length + n ≤ 1000 → ∃ b : Bx (n + 1), M_Lbox (k + 1) [.int num, .str nm, .int ((n : Int) + 1)] = some (bxD (n + 1) b) ∧ Made (n + 1) nm b := by
  intro n
  induction n with
  | zero =>
    intro k _ num nm hn hl
    exact box_leaf (.inl rfl) hn
  | succ n ih =>
    intro k hk num nm hn hl
    obtain ⟨k, rfl⟩ : ∃ j, k = j + 1 := ⟨k - 1, by omega⟩
    by_cases h5 : 5 < num % 8
    · exact box_leaf (.inr h5) hn
    · have sub : ∀ (num' : Int) (j : Nat), 0 ≤ num' → ∃ b : Bx (n + 1), M_Lbox (k + 1) [.int num', .str (nm ++ chS j), .int ((n : Int) + 1)] = some (bxD (n + 1) b) ∧ Made (n + 1) (nm ++ chS j) b := fun num' j h' => ih k (by omega) num' (nm ++ chS j) h' (by rw [len_ch]; omega)
      obtain ⟨dp, hdp⟩ : ∃ dp : Int, dp = (((n + 1 : Nat) : Int) + 1) := ⟨_, rfl⟩
      rw [← hdp]
      have e1 : dp - 1 = (n : Int) + 1 := by omega
      have hnot : ¬ (dp = 1) := by omega
      have hd : ∀ j : Int, ∃ dr, M_Ldrawn [.int num, .int j] = some (.int dr) ∧ 0 ≤ dr := fun j => by
        obtain ⟨d, a, b, _⟩ := drawn_ex num j
        exact ⟨d, a, b⟩
      obtain ⟨g, hg, pg⟩ := pick4 (a := 0) (b := 3) (c := 1) (d := 10) (r := num / 64 % 4) (by omega) (by omega)
      have q8 := mod_ok (a := num) (b := 8) (by decide)
      have q88 : fdivD (.int num) (.int 8) = some (.int (num / 8)) := fdiv_ok (by decide) (by decide)
      have q64 : fdivD (.int num) (.int 64) = some (.int (num / 64)) := fdiv_ok (by decide) (by decide)
      have m4 : ∀ a : Int, modD (.int a) (.int 4) = some (.int (a % 4)) := fun a => mod_ok (by decide)
      have f4 : ∀ a : Int, fdivD (.int a) (.int 4) = some (.int (a / 4)) := fun a => fdiv_ok (by decide) (by decide)
      by_cases h4 : num % 8 = 4
      · -- a rim
        obtain ⟨d3, x3, y3⟩ := hd 3
        obtain ⟨d4, x4, y4⟩ := hd 4
        obtain ⟨d5, x5, y5⟩ := hd 5
        obtain ⟨d6, x6, y6⟩ := hd 6
        obtain ⟨d7, x7, y7⟩ := hd 7
        obtain ⟨p, hp, mp⟩ := sub (d7 / 4) 0 (by omega)
        have m7 : ∀ a : Int, modD (.int a) (.int 7) = some (.int (a % 7)) := fun a => mod_ok (by decide)
        have r4 : rng1D (.int 4) = some [.int 0, .int 1, .int 2, .int 3] := by
          have := rng1_ok (n := 4) (by decide)
          exact this
        have s4 : sml 4 = true := rfl
        have ha : addD (.str nm) (.str "a") = some (.str (nm ++ chS 0)) := by
          rw [a_ch]
          exact add_s (by have : (chS 0).length = 1 := rfl; omega)
        have t1 : addD (.tuple [.str "rim", .str nm]) (.tuple [.int (d3 / 4 % 7), .int (d4 / 4 % 7), .int (d5 / 4 % 7), .int (d6 / 4 % 7)]) = some (.tuple [.str "rim", .str nm, .int (d3 / 4 % 7), .int (d4 / 4 % 7), .int (d5 / 4 % 7), .int (d6 / 4 % 7)]) := add_t (by simp)
        have t2 : addD (.tuple [.str "rim", .str nm, .int (d3 / 4 % 7), .int (d4 / 4 % 7), .int (d5 / 4 % 7), .int (d6 / 4 % 7)]) (.tuple [bxD (n + 1) p]) = some (.tuple [.str "rim", .str nm, .int (d3 / 4 % 7), .int (d4 / 4 % 7), .int (d5 / 4 % 7), .int (d6 / 4 % 7), bxD (n + 1) p]) := add_t (by simp)
        refine ⟨BxF.rim nm (d3 / 4 % 7) (d4 / 4 % 7) (d5 / 4 % 7) (d6 / 4 % 7) p, ?_, rfl, by omega, by omega, by omega, by omega, mp⟩
        show _ = some (PyData.tuple [.str "rim", .str nm, .int (d3 / 4 % 7), .int (d4 / 4 % 7), .int (d5 / 4 % 7), .int (d6 / 4 % 7), bxD (n + 1) p])
        unfold M_Lbox
        simp -implicitDefEqProofs [startE, q8, hnot, h4, q88, m4, q64, pg, r4, s4, lcGo, x3, x4, x5, x6, f4, m7, t1, x7, ha, e1, hp, t2]
      · -- some in it
        obtain ⟨m, hm⟩ : ∃ m : Nat, (if num % 8 = 5 then (if 3 < 1 + num / 8 % 4 then 3 else 1 + num / 8 % 4) else 1 + num / 8 % 4) = (m : Int) := ⟨(if num % 8 = 5 then (if 3 < 1 + num / 8 % 4 then 3 else 1 + num / 8 % 4) else 1 + num / 8 % 4).toNat, by split <;> (try split) <;> omega⟩
        have hm4 : 1 ≤ m ∧ m ≤ 4 ∧ (num % 8 = 5 → m ≤ 3) := by
          split at hm <;> (try split at hm) <;> omega
        obtain ⟨ps, hps, hpl, hpm⟩ : ∃ ps : List (Bx (n + 1)), (∀ e : DEnv, e.length = 9 → e[0]? = some (some (.sh (.int num))) → e[1]? = some (some (.sh (.str nm))) → e[2]? = some (some (.sh (.int dp))) → lcGo (bNm 8) yesT (cA (M_Lbox (k + 1)) (consA (c2 fdivD (cA M_Ldrawn (consA (vr 0) (consA (c2 addD (cst (.int 10)) (vr 8)) nilA))) (cst (.int 4))) (consA (c2 addD (vr 1) (c2 ixD (cst (.str "abcd")) (vr 8))) (consA (c2 subD (vr 2) (cst (.int 1))) nilA)))) e ((List.range m).map fun i : Nat => PyData.int (i : Int)) = some (ps.map (bxD (n + 1)))) ∧ ps.length = m ∧ ∀ j p, ps[j]? = some p → Made (n + 1) (nm ++ chS j) p := by
          -- choose the parts
          have ch : ∀ j : Nat, ∃ p : Bx (n + 1), ∃ dr, M_Ldrawn [.int num, .int (10 + (j : Int))] = some (.int dr) ∧ M_Lbox (k + 1) [.int (dr / 4), .str (nm ++ chS j), .int ((n : Int) + 1)] = some (bxD (n + 1) p) ∧ Made (n + 1) (nm ++ chS j) p := fun j => by
            obtain ⟨dr, hdr, dr0⟩ := hd (10 + (j : Int))
            obtain ⟨p, hp, mp⟩ := sub (dr / 4) j (by omega)
            exact ⟨p, dr, hdr, hp, mp⟩
          refine ⟨(List.range m).map fun j => (ch j).choose, fun e he h0 h1 h2 => ?_, by simp, fun j p hp => ?_⟩
          · rw [List.map_map]
            refine lcGo_map (fun i : Nat => PyData.int (i : Int)) (fun j => bxD (n + 1) (ch j).choose) _ fun j hj => ?_
            have hj4 : j < 4 := by
              have : j < m := by simpa using hj
              omega
            have hsp := (ch j).choose_spec
            generalize (ch j).choose = pj at hsp ⊢
            obtain ⟨dr, hdr, hp, mp⟩ := hsp
            have hix := abcd_ix hj4
            have hadd : addD (.str nm) (.str (chS j)) = some (.str (nm ++ chS j)) := add_s (by have : (chS j).length = 1 := rfl; omega)
            have h8 : 8 < e.length := by omega
            refine ⟨_, rfl, ?_⟩
            simp -implicitDefEqProofs [h8, h0, h1, h2, hdr, f4, hix, hadd, e1, hp]
          · rw [List.getElem?_map] at hp
            obtain ⟨j', hj', rfl⟩ := Option.map_eq_some_iff.mp hp
            obtain ⟨hl', hx⟩ := List.getElem?_eq_some_iff.mp hj'
            rw [List.getElem_range] at hx
            subst hx
            obtain ⟨_, _, _, mp⟩ := (ch j).choose_spec
            exact mp
        have hsm : sml m = true := sml_of (by omega)
        have hr := rng1_ok (n := m) (by omega)
        by_cases h55 : num % 8 = 5
        · rw [if_pos h55] at hm
          refine ⟨BxF.pile nm ps, ?_, rfl, by omega, by have := hm4.2.2 h55; omega, hpm⟩
          show _ = some (PyData.tuple [.str "pile", .str nm, .tuple (ps.map (bxD (n + 1)))])
          have hmn : (if 3 < 1 + num / 8 % 4 then (3 : Int) else 1 + num / 8 % 4) = (m : Int) := hm
          unfold M_Lbox
          simp -implicitDefEqProofs [startE, q8, hnot, h55, q88, m4, q64, pg, hmn, hr, hsm, hps]
        · rw [if_neg h55] at hm
          obtain ⟨c, hc⟩ : ∃ c : Bool, atI [PyData.str "row", .str "col"] (num % 2) = some (.str (kindS c)) := by
            have : num % 2 = 0 ∨ num % 2 = 1 := by omega
            rcases this with h | h
            · exact ⟨false, by rw [h]; rfl⟩
            · exact ⟨true, by rw [h]; rfl⟩
          refine ⟨BxF.line c nm g ps, ?_, rfl, by omega, by omega, by omega, by omega, hpm⟩
          show _ = some (PyData.tuple [.str (kindS c), .str nm, .int g, .tuple (ps.map (bxD (n + 1)))])
          have m2 : ∀ a : Int, modD (.int a) (.int 2) = some (.int (a % 2)) := fun a => mod_ok (by decide)
          unfold M_Lbox
          simp -implicitDefEqProofs [startE, q8, hnot, h55, h4, h5, q88, m4, q64, pg, hm, hr, hsm, hps, m2, hc]

/-! well formed boxes, what spans they have -/
def Wf : (n : Nat) → Bx n → Prop
  | 0, b => nomatch b
  | n + 1, b => match (b : BxF (Bx n)) with
    | .leaf _ w h => w.Ok ∧ h.Ok
    | .line _ _ g ps => 0 ≤ g ∧ g ≤ 999 ∧ 1 ≤ ps.length ∧ ps.length ≤ 4 ∧ ∀ p ∈ ps, Wf n p
    | .pile _ ps => 1 ≤ ps.length ∧ ps.length ≤ 4 ∧ ∀ p ∈ ps, Wf n p
    | .rim _ a b c d p => (0 ≤ a ∧ a ≤ 999) ∧ (0 ≤ b ∧ b ≤ 999) ∧ (0 ≤ c ∧ c ≤ 999) ∧ (0 ≤ d ∧ d ≤ 999) ∧ Wf n p
theorem made_wf : ∀ (n : Nat) (nm : Str) (b : Bx n), Made n nm b → Wf n b
  | 0, _, b, _ => nomatch b
  | n + 1, nm, b, h => by
    have mem : ∀ {ps : List (Bx n)}, (∀ k p, ps[k]? = some p → Made n (nm ++ chS k) p) → ∀ p ∈ ps, Wf n p := fun {ps} hp p hm => by
      obtain ⟨k, hk⟩ := List.getElem?_of_mem hm
      exact made_wf n _ p (hp k p hk)
    match (b : BxF (Bx n)), h with
    | .leaf _ w h', h => exact ⟨h.2.1, h.2.2.2.1⟩
    | .line _ _ g ps, h =>
      obtain ⟨_, h1, h2, h3, h4, h5⟩ := h
      exact ⟨h1, by omega, h3, h4, mem h5⟩
    | .pile _ ps, h =>
      obtain ⟨_, h1, h2, h3⟩ := h
      exact ⟨h1, by omega, mem h3⟩
    | .rim _ a b c d p, h =>
      obtain ⟨_, h1, h2, h3, h4, h5⟩ := h
      exact ⟨by omega, by omega, by omega, by omega, made_wf n _ p h5⟩
def axS (hi : Bool) : Str := if hi = true then "high" else "wide"
def moreV (s : Spn) (m : Int) : Spn := ⟨s.lo + m, s.wi + m, s.mo.map (· + m), s.gr, s.sh⟩
def spnV : (n : Nat) → Bool → Bx n → Spn
  | 0, _, b => nomatch b
  | n + 1, hi, b => match (b : BxF (Bx n)) with
    | .leaf _ w h => if hi = true then h else w
    | .line c _ g ps => if c = hi then jnV true (g * ((ps.length : Int) - 1)) (ps.map (spnV n hi)) else jnV false 0 (ps.map (spnV n hi))
    | .pile _ ps => jnV false 0 (ps.map (spnV n hi))
    | .rim _ a b c d p => moreV (spnV n hi p) (if hi = true then b + d else a + c)
def inB {n : Nat} (b : Bx (n + 1)) : List (Bx n) := match (b : BxF (Bx n)) with
  | .leaf _ _ _ => []
  | .line _ _ _ ps => ps
  | .pile _ ps => ps
  | .rim _ _ _ _ _ p => [p]
theorem spnsD (n : Nat) (hi : Bool) (ps : List (Bx n)) : ps.map (fun p => spD (spnV n hi p)) = (ps.map (spnV n hi)).map spD := by rw [List.map_map]; rfl

theorem boxesin_eq {n : Nat} (b : Bx (n + 1)) : M_boxes_in [bxD (n + 1) b] = some (.tuple ((inB b).map (bxD n))) := by
  match (b : BxF (Bx n)) with
  | .leaf nm w h =>
    have e : bxD (n + 1) (BxF.leaf nm w h : BxF (Bx n)) = .tuple [.str "leaf", .str nm, spD w, spD h] := rfl
    have i0 : atI [PyData.str "leaf", .str nm, spD w, spD h] 0 = some (.str "leaf") := rfl
    rw [e]
    simp -implicitDefEqProofs [M_boxes_in, D_boxes_in, startE, i0, inB]
  | .line c nm g ps =>
    have e : bxD (n + 1) (BxF.line c nm g ps : BxF (Bx n)) = .tuple [.str (kindS c), .str nm, .int g, .tuple (ps.map (bxD n))] := rfl
    have i0 : atI [PyData.str (kindS c), .str nm, .int g, .tuple (ps.map (bxD n))] 0 = some (.str (kindS c)) := rfl
    have i1 : atI [PyData.str (kindS c), .str nm, .int g, .tuple (ps.map (bxD n))] (-1) = some (.tuple (ps.map (bxD n))) := rfl
    rw [e]
    cases c <;> simp only [kindS, if_true, Bool.false_eq_true, if_false] at i0 i1 ⊢ <;> simp -implicitDefEqProofs [M_boxes_in, D_boxes_in, startE, i0, i1, inB]
  | .pile nm ps =>
    have e : bxD (n + 1) (BxF.pile nm ps : BxF (Bx n)) = .tuple [.str "pile", .str nm, .tuple (ps.map (bxD n))] := rfl
    have i0 : atI [PyData.str "pile", .str nm, .tuple (ps.map (bxD n))] 0 = some (.str "pile") := rfl
    have i1 : atI [PyData.str "pile", .str nm, .tuple (ps.map (bxD n))] (-1) = some (.tuple (ps.map (bxD n))) := rfl
    rw [e]
    simp -implicitDefEqProofs [M_boxes_in, D_boxes_in, startE, i0, i1, inB]
  | .rim nm a b' c d p =>
    have e : bxD (n + 1) (BxF.rim nm a b' c d p : BxF (Bx n)) = .tuple [.str "rim", .str nm, .int a, .int b', .int c, .int d, bxD n p] := rfl
    have i0 : atI [PyData.str "rim", .str nm, .int a, .int b', .int c, .int d, bxD n p] 0 = some (.str "rim") := rfl
    have i1 : atI [PyData.str "rim", .str nm, .int a, .int b', .int c, .int d, bxD n p] 6 = some (bxD n p) := rfl
    rw [e]
    simp -implicitDefEqProofs [M_boxes_in, D_boxes_in, startE, i0, i1, inB]
theorem Lin_eq {n : Nat} (b : Bx (n + 1)) : M_Lin [bxD (n + 1) b] = some (.tuple ((inB b).map (bxD n))) := by
  match (b : BxF (Bx n)) with
  | .leaf nm w h =>
    have e : bxD (n + 1) (BxF.leaf nm w h : BxF (Bx n)) = .tuple [.str "leaf", .str nm, spD w, spD h] := rfl
    have i0 : atI [PyData.str "leaf", .str nm, spD w, spD h] 0 = some (.str "leaf") := rfl
    rw [e]
    simp -implicitDefEqProofs [M_Lin, D_Lin, startE, i0, inB]
  | .line c nm g ps =>
    have e : bxD (n + 1) (BxF.line c nm g ps : BxF (Bx n)) = .tuple [.str (kindS c), .str nm, .int g, .tuple (ps.map (bxD n))] := rfl
    have i0 : atI [PyData.str (kindS c), .str nm, .int g, .tuple (ps.map (bxD n))] 0 = some (.str (kindS c)) := rfl
    have i1 : atI [PyData.str (kindS c), .str nm, .int g, .tuple (ps.map (bxD n))] 3 = some (.tuple (ps.map (bxD n))) := rfl
    have j0 : ∀ x : List D, atI [PyData.tuple (ps.map (bxD n)), .tuple x] 0 = some (.tuple (ps.map (bxD n))) := fun _ => rfl
    rw [e]
    cases c <;> simp only [kindS, if_true, Bool.false_eq_true, if_false] at i0 i1 ⊢ <;> simp -implicitDefEqProofs [M_Lin, D_Lin, startE, i0, i1, j0, inB]
  | .pile nm ps =>
    have e : bxD (n + 1) (BxF.pile nm ps : BxF (Bx n)) = .tuple [.str "pile", .str nm, .tuple (ps.map (bxD n))] := rfl
    have i0 : atI [PyData.str "pile", .str nm, .tuple (ps.map (bxD n))] 0 = some (.str "pile") := rfl
    have i1 : atI [PyData.str "pile", .str nm, .tuple (ps.map (bxD n))] 2 = some (.tuple (ps.map (bxD n))) := rfl
    have j0 : ∀ x : List D, atI [PyData.tuple (ps.map (bxD n)), .tuple x] 0 = some (.tuple (ps.map (bxD n))) := fun _ => rfl
    rw [e]
    simp -implicitDefEqProofs [M_Lin, D_Lin, startE, i0, i1, j0, inB]
  | .rim nm a b' c d p =>
    have e : bxD (n + 1) (BxF.rim nm a b' c d p : BxF (Bx n)) = .tuple [.str "rim", .str nm, .int a, .int b', .int c, .int d, bxD n p] := rfl
    have i0 : atI [PyData.str "rim", .str nm, .int a, .int b', .int c, .int d, bxD n p] 0 = some (.str "rim") := rfl
    have i1 : atI [PyData.str "rim", .str nm, .int a, .int b', .int c, .int d, bxD n p] 6 = some (bxD n p) := rfl
    have k1 : cutL [PyData.str "rim", .str nm, .int a, .int b', .int c, .int d, bxD n p] (some 6) none = [bxD n p] := rfl
    have j1 : ∀ x y : D, atI [x, y] 1 = some y := fun _ _ => rfl
    rw [e]
    simp -implicitDefEqProofs [M_Lin, D_Lin, startE, i0, i1, k1, j1, inB]
theorem inT_ok {n m : Nat} {x : D} {xs : List D} (hx : shp n x = true) (hxs : ∀ y ∈ xs, shp m y = true) (hn : n ≤ 62 := by decide) : inD x (.tuple xs) = some (.bool (inSeq x xs)) := if_pos (okIn_of hx hxs hn)
theorem in_main {k a : Str} {c : Bool} (hk : PyData.strOk k = true) (ha : PyData.strOk a = true) (h : inSeq (.tuple [.str k, .str a]) [.tuple [.str "row", .str "wide"], .tuple [.str "col", .str "high"]] = c) : inD (.tuple [.str k, .str a]) (.tuple [.tuple [.str "row", .str "wide"], .tuple [.str "col", .str "high"]]) = some (.bool c) := by
  have h1 : shp 1 (.tuple [.str k, .str a]) = true := by
    show (PyData.strOk k && (PyData.strOk a && true)) = true
    rw [hk, ha]
    rfl
  have h2 : ∀ y ∈ [PyData.tuple [.str "row", .str "wide"], .tuple [.str "col", .str "high"]], shp 1 y = true := List.all_eq_true.mp (by decide +kernel)
  rw [inT_ok h1 h2, h]
theorem im_row_wide : inD (.tuple [.str "row", .str "wide"]) (.tuple [.tuple [.str "row", .str "wide"], .tuple [.str "col", .str "high"]]) = some (.bool true) := in_main (by decide +kernel) (by decide +kernel) (by decide +kernel)
theorem im_row_high : inD (.tuple [.str "row", .str "high"]) (.tuple [.tuple [.str "row", .str "wide"], .tuple [.str "col", .str "high"]]) = some (.bool false) := in_main (by decide +kernel) (by decide +kernel) (by decide +kernel)
theorem im_col_wide : inD (.tuple [.str "col", .str "wide"]) (.tuple [.tuple [.str "row", .str "wide"], .tuple [.str "col", .str "high"]]) = some (.bool false) := in_main (by decide +kernel) (by decide +kernel) (by decide +kernel)
theorem im_col_high : inD (.tuple [.str "col", .str "high"]) (.tuple [.tuple [.str "row", .str "wide"], .tuple [.str "col", .str "high"]]) = some (.bool true) := in_main (by decide +kernel) (by decide +kernel) (by decide +kernel)
theorem im_pile_wide : inD (.tuple [.str "pile", .str "wide"]) (.tuple [.tuple [.str "row", .str "wide"], .tuple [.str "col", .str "high"]]) = some (.bool false) := in_main (by decide +kernel) (by decide +kernel) (by decide +kernel)
theorem im_pile_high : inD (.tuple [.str "pile", .str "high"]) (.tuple [.tuple [.str "row", .str "wide"], .tuple [.str "col", .str "high"]]) = some (.bool false) := in_main (by decide +kernel) (by decide +kernel) (by decide +kernel)
/-! texts of boxes -/
def jw (ws : List Str) : Str := Str.join " " ws
theorem jn_jw (ws : List Str) : Txt.join " " ws = jw ws := TL.join_eq " " ws
theorem jw_one (x : Str) : jw [x] = x := rfl
theorem jw_two (x y : Str) (r : List Str) : jw (x :: y :: r) = x ++ " " ++ jw (y :: r) := rfl
theorem st_assoc (a b c : Str) : a ++ b ++ c = a ++ (b ++ c) := by
  show (⟨a.cps ++ b.cps ++ c.cps⟩ : Str) = ⟨a.cps ++ (b.cps ++ c.cps)⟩
  rw [Array.append_assoc]
theorem st_len (a b : Str) : (a ++ b).length = a.length + b.length := by
  show (a.cps ++ b.cps).size = a.cps.size + b.cps.size
  simp
theorem jw_append : ∀ (xs ys : List Str), xs ≠ [] → ys ≠ [] → jw (xs ++ ys) = jw xs ++ " " ++ jw ys
  | [], _, h, _ => absurd rfl h
  | [x], [], _, h => absurd rfl h
  | [x], y :: ys, _, _ => rfl
  | x :: z :: xs, ys, _, hy => by
    have ih := jw_append (z :: xs) ys (by simp) hy
    rw [List.cons_append, List.cons_append, jw_two, jw_two, ← List.cons_append, ih]
    simp only [st_assoc]
theorem jw_flat : ∀ (L : List (List Str)), (∀ x ∈ L, x ≠ []) → jw (L.map jw) = jw L.flatten
  | [], _ => rfl
  | [x], _ => by simp [jw_one]
  | x :: y :: r, h => by
    have ih := jw_flat (y :: r) fun z q => h z (List.mem_cons_of_mem _ q)
    have hx := h x List.mem_cons_self
    have hf : (y :: r).flatten ≠ [] := by
      have hy := h y (List.mem_cons_of_mem _ List.mem_cons_self)
      rw [List.flatten_cons]
      intro e
      exact hy (List.append_eq_nil_iff.mp e).1
    rw [List.map_cons, List.map_cons, jw_two, ← List.map_cons, ih, ← jw_append x _ hx hf]
    rfl
theorem jw_len : ∀ (xs : List Str) (k : Nat), (∀ x ∈ xs, x.length ≤ k) → (jw xs).length ≤ (k + 1) * xs.length
  | [], k, _ => by
    have : (jw []).length = 0 := rfl
    omega
  | [x], k, h => by
    have := h x List.mem_cons_self
    rw [jw_one, List.length_singleton]
    omega
  | x :: y :: r, k, h => by
    have h1 := h x List.mem_cons_self
    have ih := jw_len (y :: r) k fun z q => h z (List.mem_cons_of_mem _ q)
    have e : (" " : Str).length = 1 := by decide +kernel
    rw [jw_two, st_len, st_len, List.length_cons, Nat.mul_succ, e]
    omega
theorem ok_append {a b : Str} (ha : PyData.strOk a = true) (hb : PyData.strOk b = true) : PyData.strOk (a ++ b) = true := by
  show (a.cps ++ b.cps).all (· < 0x110000) = true
  rw [Array.all_append]
  have h1 : a.cps.all (· < 0x110000) = true := ha
  have h2 : b.cps.all (· < 0x110000) = true := hb
  rw [h1, h2]
  rfl
theorem jw_ok : ∀ (xs : List Str), (∀ x ∈ xs, PyData.strOk x = true) → PyData.strOk (jw xs) = true
  | [], _ => by decide +kernel
  | [x], h => h x List.mem_cons_self
  | x :: y :: r, h => by
    rw [jw_two]
    exact ok_append (ok_append (h x List.mem_cons_self) (by decide +kernel)) (jw_ok (y :: r) fun z q => h z (List.mem_cons_of_mem _ q))
/-- small numbers as words -/
def nwS (i : Int) : Str := toString i
theorem nw_fin : ∀ i : Fin 1000, ((toString (i.val : Int) : String) : Str).length ≤ 4 ∧ PyData.strOk ((toString (i.val : Int) : String) : Str) = true := by decide +kernel
theorem nw_ok {i : Int} (h0 : 0 ≤ i) (h : i ≤ 999) : (nwS i).length ≤ 4 ∧ PyData.strOk (nwS i) = true := by
  have := nw_fin ⟨i.toNat, by omega⟩
  simp only at this
  rw [Int.toNat_of_nonneg h0] at this
  exact this
theorem str_small {i : Int} (h0 : 0 ≤ i) (h : i ≤ 999) : strD (.int i) = some (.str (nwS i)) := by
  show (if i.natAbs < 2 ^ 1000 then some (PyData.str (toString i)) else none) = _
  have h1 : i.natAbs < 2 ^ 10 := by omega
  have h2 : i.natAbs < 2 ^ 1000 := Nat.lt_of_lt_of_le h1 (Nat.pow_le_pow_right (by decide) (by decide))
  rw [if_pos h2]
  rfl
/-- spans, boxes whose numbers and names are small -/
structure Spn.Tx (s : Spn) : Prop where
  lo : 0 ≤ s.lo ∧ s.lo ≤ 999
  wi : 0 ≤ s.wi ∧ s.wi ≤ 999
  mo : ∀ m, s.mo = some m → 0 ≤ m ∧ m ≤ 999
  gr : 0 ≤ s.gr ∧ s.gr ≤ 999
  sh : 0 ≤ s.sh ∧ s.sh ≤ 999
def opW : Option Int → Str
  | none => "-"
  | some m => nwS m
def spW (s : Spn) : List Str := [nwS s.lo, nwS s.wi, opW s.mo, nwS s.gr, nwS s.sh]
def Nb : (n : Nat) → Bx n → Prop
  | 0, b => nomatch b
  | n + 1, b => match (b : BxF (Bx n)) with
    | .leaf nm w h => nm.length ≤ 1000 ∧ w.Tx ∧ h.Tx
    | .line _ nm g ps => nm.length ≤ 1000 ∧ (0 ≤ g ∧ g ≤ 999) ∧ ps.length ≤ 10 ∧ ∀ p ∈ ps, Nb n p
    | .pile nm ps => nm.length ≤ 1000 ∧ ps.length ≤ 10 ∧ ∀ p ∈ ps, Nb n p
    | .rim nm a b c d p => nm.length ≤ 1000 ∧ (0 ≤ a ∧ a ≤ 999) ∧ (0 ≤ b ∧ b ≤ 999) ∧ (0 ≤ c ∧ c ≤ 999) ∧ (0 ≤ d ∧ d ≤ 999) ∧ Nb n p
def wrdV : (n : Nat) → Bx n → List Str
  | 0, b => nomatch b
  | n + 1, b => match (b : BxF (Bx n)) with
    | .leaf nm w h => [("leaf" : Str), nm] ++ spW w ++ spW h
    | .line c nm g ps => [kindS c, nm] ++ [nwS g] ++ [("[" : Str)] ++ ps.flatMap (wrdV n) ++ [("]" : Str)]
    | .pile nm ps => [("pile" : Str), nm] ++ ([] : List Str) ++ [("[" : Str)] ++ ps.flatMap (wrdV n) ++ [("]" : Str)]
    | .rim nm a b c d p => [("rim" : Str), nm] ++ [nwS a, nwS b, nwS c, nwS d] ++ wrdV n p
theorem ok_tx {s : Spn} (h : s.Ok) (h2 : s.Sm) : s.Tx := by
  have a1 := h.lo0
  have a2 := h.low
  have a3 := h2.wi
  exact ⟨by omega, by omega, fun m hm => by have := h.top m hm; have := h2.mo m hm; omega, ⟨h.gr0, by have := h2.gr; omega⟩, ⟨h.sh0, by have := h2.sh; omega⟩⟩
theorem made_nb : ∀ (n : Nat) (nm : Str) (b : Bx n), Made n nm b → nm.length + n ≤ 1000 → Nb n b
  | 0, _, b, _, _ => nomatch b
  | n + 1, nm, b, h, hl => by
    have mem : ∀ {ps : List (Bx n)}, (∀ k p, ps[k]? = some p → Made n (nm ++ chS k) p) → ∀ p ∈ ps, Nb n p := fun {ps} hp p hm => by
      obtain ⟨k, hk⟩ := List.getElem?_of_mem hm
      exact made_nb n _ p (hp k p hk) (by rw [len_ch]; omega)
    match (b : BxF (Bx n)), h with
    | .leaf _ w h', h => exact ⟨by rw [h.1]; omega, ok_tx h.2.1 h.2.2.1, ok_tx h.2.2.2.1 h.2.2.2.2⟩
    | .line _ _ g ps, h =>
      obtain ⟨e, h1, h2, h3, h4, h5⟩ := h
      exact ⟨by rw [e]; omega, by omega, by omega, mem h5⟩
    | .pile _ ps, h =>
      obtain ⟨e, h1, h2, h3⟩ := h
      exact ⟨by rw [e]; omega, by omega, mem h3⟩
    | .rim _ a b c d p, h =>
      obtain ⟨e, h1, h2, h3, h4, h5⟩ := h
      exact ⟨by rw [e]; omega, by omega, by omega, by omega, by omega, made_nb n _ p h5 (by rw [len_ch]; omega)⟩
/-- words are short, and not too many -/
def capW : Nat → Nat
  | 0 => 0
  | n + 1 => 12 + 10 * capW n
theorem op_len {o : Option Int} (h : ∀ m, o = some m → 0 ≤ m ∧ m ≤ 999) : (opW o).length ≤ 1000 := by
  cases o with
  | none =>
    have e : ("-" : Str).length = 1 := by decide +kernel
    show ("-" : Str).length ≤ 1000
    omega
  | some m =>
    have := (nw_ok (h m rfl).1 (h m rfl).2).1
    show (nwS m).length ≤ 1000
    omega
theorem sp_len {s : Spn} (h : s.Tx) : ∀ x ∈ spW s, x.length ≤ 1000 := by
  intro x hx
  have n : ∀ {i : Int}, 0 ≤ i ∧ i ≤ 999 → (nwS i).length ≤ 1000 := fun {i} q => by have := (nw_ok q.1 q.2).1; omega
  simp only [spW, List.mem_cons, List.not_mem_nil, or_false] at hx
  rcases hx with rfl | rfl | rfl | rfl | rfl
  · exact n h.lo
  · exact n h.wi
  · exact op_len h.mo
  · exact n h.gr
  · exact n h.sh
theorem wrd_ok : ∀ (n : Nat) (b : Bx n), Nb n b → (wrdV n b).length ≤ capW n ∧ (∀ x ∈ wrdV n b, x.length ≤ 1000) ∧ wrdV n b ≠ []
  | 0, b, _ => nomatch b
  | n + 1, b, h => by
    have k1 : ∀ x : Str, x = "leaf" ∨ x = "row" ∨ x = "col" ∨ x = "pile" ∨ x = "rim" ∨ x = "[" ∨ x = "]" → x.length ≤ 1000 := fun x hx => by
      have : x.length ≤ 4 := by rcases hx with rfl | rfl | rfl | rfl | rfl | rfl | rfl <;> decide +kernel
      omega
    have nl : ∀ {i : Int}, 0 ≤ i ∧ i ≤ 999 → (nwS i).length ≤ 1000 := fun {i} q => by have := (nw_ok q.1 q.2).1; omega
    have parts : ∀ ps : List (Bx n), ps.length ≤ 10 → (∀ p ∈ ps, Nb n p) → (ps.flatMap (wrdV n)).length ≤ 10 * capW n ∧ ∀ x ∈ ps.flatMap (wrdV n), x.length ≤ 1000 := fun ps hl hp => by
      constructor
      · have h1 : ∀ qs : List (Bx n), (∀ p ∈ qs, Nb n p) → (qs.flatMap (wrdV n)).length ≤ capW n * qs.length := by
          intro qs
          induction qs with
          | nil => intro _; simp
          | cons p qs ih =>
            intro hq
            have a1 := (wrd_ok n p (hq p List.mem_cons_self)).1
            have a2 := ih fun z q => hq z (List.mem_cons_of_mem _ q)
            rw [List.flatMap_cons, List.length_append, List.length_cons, Nat.mul_succ]
            omega
        have h2 := h1 ps hp
        have h3 : capW n * ps.length ≤ capW n * 10 := Nat.mul_le_mul_left _ hl
        omega
      · intro x hx
        obtain ⟨p, hm, hx⟩ := List.mem_flatMap.mp hx
        exact (wrd_ok n p (hp p hm)).2.1 x hx
    match (b : BxF (Bx n)), h with
    | .leaf nm w h', h =>
      obtain ⟨h1, h2, h3⟩ := h
      refine ⟨?_, fun x hx => ?_, by simp [wrdV]⟩
      · simp only [wrdV, spW, List.length_append, List.length_cons, List.length_nil, capW]; omega
      · simp only [wrdV, List.mem_append, List.mem_cons, List.not_mem_nil, or_false] at hx
        rcases hx with ((rfl | rfl) | hx) | hx
        · exact k1 _ (.inl rfl)
        · exact h1
        · exact sp_len h2 x hx
        · exact sp_len h3 x hx
    | .line c nm g ps, h =>
      obtain ⟨h1, h2, h3, h4⟩ := h
      obtain ⟨p1, p2⟩ := parts ps h3 h4
      refine ⟨?_, fun x hx => ?_, by simp [wrdV]⟩
      · simp only [wrdV, List.length_append, List.length_cons, List.length_nil, capW]; omega
      · simp only [wrdV, List.mem_append, List.mem_cons, List.not_mem_nil, or_false] at hx
        rcases hx with ((((rfl | rfl) | rfl) | rfl) | hx) | rfl
        · cases c
          · exact k1 _ (.inr (.inl rfl))
          · exact k1 _ (.inr (.inr (.inl rfl)))
        · exact h1
        · exact nl h2
        · exact k1 _ (by simp)
        · exact p2 x hx
        · exact k1 _ (by simp)
    | .pile nm ps, h =>
      obtain ⟨h1, h3, h4⟩ := h
      obtain ⟨p1, p2⟩ := parts ps h3 h4
      refine ⟨?_, fun x hx => ?_, by simp [wrdV]⟩
      · simp only [wrdV, List.length_append, List.length_cons, List.length_nil, capW]; omega
      · simp only [wrdV, List.mem_append, List.mem_cons, List.not_mem_nil, or_false, false_or] at hx
        rcases hx with (((rfl | rfl) | rfl) | hx) | rfl
        · exact k1 _ (by simp)
        · exact h1
        · exact k1 _ (by simp)
        · exact p2 x hx
        · exact k1 _ (by simp)
    | .rim nm a b' c d p, h =>
      obtain ⟨h1, h2, h3, h4, h5, h6⟩ := h
      obtain ⟨p1, p2, _⟩ := wrd_ok n p h6
      refine ⟨?_, fun x hx => ?_, by simp [wrdV]⟩
      · simp only [wrdV, List.length_append, List.length_cons, List.length_nil, capW]; omega
      · simp only [wrdV, List.mem_append, List.mem_cons, List.not_mem_nil, or_false] at hx
        rcases hx with ((rfl | rfl) | rfl | rfl | rfl | rfl) | hx
        · exact k1 _ (by simp)
        · exact h1
        · exact nl h2
        · exact nl h3
        · exact nl h4
        · exact nl h5
        · exact p2 x hx

/-! what the program writes -/
theorem ad_l (xs ys : List Str) (h : xs.length + ys.length ≤ 100000) : addD (.list (xs.map PyData.str)) (.list (ys.map PyData.str)) = some (.list ((xs ++ ys).map PyData.str)) := by
  rw [List.map_append]
  exact add_l (by rw [List.length_map, List.length_map]; exact h)
theorem spwords_eq {s : Spn} (h : s.Tx) : M_span_words [spD s] = some (.list ((spW s).map PyData.str)) := by
  have h5 : sml 5 = true := rfl
  have it : itemsD (spD s) = some [.int s.lo, .int s.wi, optD s.mo, .int s.gr, .int s.sh] := rfl
  have n0 := str_small h.lo.1 h.lo.2
  have n1 := str_small h.wi.1 h.wi.2
  have n3 := str_small h.gr.1 h.gr.2
  have n4 := str_small h.sh.1 h.sh.2
  have a0 : ∀ x y : D, atI [x, y] 0 = some x := fun x y => rfl
  have a1 : ∀ x y : D, atI [x, y] 1 = some y := fun x y => rfl
  have ni : ∀ i : Int, isND (.int i) = some (.bool false) := fun i => rfl
  have nn : isND .none = some (.bool true) := rfl
  have sn : strD .none = some (.str "None") := rfl
  cases hm : s.mo with
  | none =>
    rw [hm] at it
    have e : (spW s).map PyData.str = [.str (nwS s.lo), .str (nwS s.wi), .str "-", .str (nwS s.gr), .str (nwS s.sh)] := by unfold spW; rw [hm]; rfl
    rw [e]
    generalize spD s = B at *
    simp -implicitDefEqProofs [M_span_words, D_span_words, startE, it, h5, lcGo, C_span_words_1, n0, n1, n3, n4, a0, a1, ni, nn, sn, optDn]
  | some m =>
    rw [hm] at it
    have n2 := str_small (h.mo m hm).1 (h.mo m hm).2
    have e : (spW s).map PyData.str = [.str (nwS s.lo), .str (nwS s.wi), .str (nwS m), .str (nwS s.gr), .str (nwS s.sh)] := by unfold spW; rw [hm]; rfl
    rw [e]
    generalize spD s = B at *
    simp -implicitDefEqProofs [M_span_words, D_span_words, startE, it, h5, lcGo, C_span_words_1, n0, n1, n2, n3, n4, a0, a1, ni, optDs]
theorem boxw1 {n : Nat} (R : List D → Option D) {s0 : Option Sl} {k : Nat} (P : Bx n → Prop) (hR : ∀ p, P p → R [bxD n p] = some (.list ((wrdV n p).map PyData.str)) ∧ (wrdV n p).length ≤ k) :
    ∀ (ps : List (Bx n)) (acc : List Str) (x : Option Sl), (∀ p ∈ ps, P p) → acc.length + k * ps.length ≤ 100000 → ∃ x', forD (bNm 2) (B_box_words_1 R) (ps.map (bxD n)) [s0, some (.sh (.list (acc.map PyData.str))), x] = some (.nx [s0, some (.sh (.list ((acc ++ ps.flatMap (wrdV n)).map PyData.str))), x'])
  | [], acc, x, _, _ => ⟨x, by rw [List.map_nil, forD_n, List.flatMap_nil, List.append_nil]⟩
  | p :: ps, acc, x, h, hl => by
    obtain ⟨r, hk⟩ := hR p (h p List.mem_cons_self)
    rw [List.length_cons, Nat.mul_succ] at hl
    obtain ⟨x', hh⟩ := boxw1 R (s0 := s0) (k := k) P hR ps (acc ++ wrdV n p) (some (.sh (bxD n p))) (fun y q => h y (List.mem_cons_of_mem _ q)) (by rw [List.length_append]; omega)
    refine ⟨x', ?_⟩
    rw [List.flatMap_cons, ← List.append_assoc, ← hh, List.map_cons, forD_c]
    have a := ad_l acc (wrdV n p) (by omega)
    generalize (acc ++ wrdV n p).map PyData.str = AW at *
    generalize (wrdV n p).map PyData.str = WP at *
    generalize acc.map PyData.str = AC at *
    generalize bxD n p = B at *
    simp -implicitDefEqProofs [B_box_words_1, r, a]
theorem capW_le {n : Nat} (h : n ≤ 5) : capW n ≤ 140000 := by
  have : n = 0 ∨ n = 1 ∨ n = 2 ∨ n = 3 ∨ n = 4 ∨ n = 5 := by omega
  rcases this with rfl | rfl | rfl | rfl | rfl | rfl <;> decide
theorem capW_lt {n : Nat} (h : n ≤ 4) : capW n ≤ 14000 := by
  have : n = 0 ∨ n = 1 ∨ n = 2 ∨ n = 3 ∨ n = 4 := by omega
  rcases this with rfl | rfl | rfl | rfl | rfl <;> decide
theorem cut26 (a b c d e f g : D) : cutD (.tuple [a, b, c, d, e, f, g]) (some 2) (some 6) = some (.tuple [c, d, e, f]) := rfl
theorem cut2m4 (a b c d : D) : cutD (.tuple [a, b, c, d]) (some 2) (some (-1)) = some (.tuple [c]) := rfl
theorem cut2m3 (a b c : D) : cutD (.tuple [a, b, c]) (some 2) (some (-1)) = some (.tuple []) := rfl
theorem boxwords_eq : ∀ (n m : Nat) (b : Bx n), n ≤ m → n ≤ 4 → Nb n b → M_box_words m [bxD n b] = some (.list ((wrdV n b).map PyData.str)) := by
  intro n
  induction n with
  | zero => intro m b; exact nomatch b
  | succ n ih =>
    intro m b hm hn hb
    obtain ⟨m, rfl⟩ : ∃ j, m = j + 1 := ⟨m - 1, by omega⟩
    have hM : M_box_words (m + 1) = runF 3 (D_box_words (M_box_words m)) := rfl
    rw [hM]
    have bi := boxesin_eq b
    have cp := capW_lt (show n ≤ 4 by omega)
    have cs : capW (n + 1) = 12 + 10 * capW n := rfl
    have cp1 := capW_lt hn
    have hR : ∀ p : Bx n, Nb n p → M_box_words m [bxD n p] = some (.list ((wrdV n p).map PyData.str)) ∧ (wrdV n p).length ≤ capW n := fun p hp => ⟨ih m p (by omega) (by omega) hp, (wrd_ok n p hp).1⟩
    match (b : BxF (Bx n)), hb, bi with
    | .leaf nm w h, hb, bi =>
      have e : bxD (n + 1) (BxF.leaf nm w h : BxF (Bx n)) = .tuple [.str "leaf", .str nm, spD w, spD h] := rfl
      have i0 : ixD (.tuple [PyData.str "leaf", .str nm, spD w, spD h]) (.int 0) = some (.str "leaf") := rfl
      have i1 : ixD (.tuple [PyData.str "leaf", .str nm, spD w, spD h]) (.int 1) = some (.str nm) := rfl
      have i2 : ixD (.tuple [PyData.str "leaf", .str nm, spD w, spD h]) (.int 2) = some (spD w) := rfl
      have i3 : ixD (.tuple [PyData.str "leaf", .str nm, spD w, spD h]) (.int 3) = some (spD h) := rfl
      have s1 := spwords_eq hb.2.1
      have s2 := spwords_eq hb.2.2
      have a1 := ad_l [("leaf" : Str), nm] (spW w) (by simp [spW])
      have a2 := ad_l ([("leaf" : Str), nm] ++ spW w) (spW h) (by simp [spW])
      have e2 : wrdV (n + 1) (BxF.leaf nm w h : BxF (Bx n)) = [("leaf" : Str), nm] ++ spW w ++ spW h := rfl
      have l2 : [("leaf" : Str), nm].map PyData.str = [.str "leaf", .str nm] := rfl
      rw [l2] at a1
      rw [e, e2]
      generalize ([("leaf" : Str), nm] ++ spW w ++ spW h).map PyData.str = W3 at *
      generalize ([("leaf" : Str), nm] ++ spW w).map PyData.str = W2 at *
      generalize (spW w).map PyData.str = S1 at *
      generalize (spW h).map PyData.str = S2 at *
      generalize PyData.tuple [.str "leaf", .str nm, spD w, spD h] = B at *
      simp -implicitDefEqProofs [D_box_words, startE, i0, i1, i2, i3, s1, s2, a1, a2]
    | .line c nm g ps, hb, bi =>
      obtain ⟨h1, h2, h3, h4⟩ := hb
      have e : bxD (n + 1) (BxF.line c nm g ps : BxF (Bx n)) = .tuple [.str (kindS c), .str nm, .int g, .tuple (ps.map (bxD n))] := rfl
      have i0 : ixD (.tuple [PyData.str (kindS c), .str nm, .int g, .tuple (ps.map (bxD n))]) (.int 0) = some (.str (kindS c)) := rfl
      have i1 : ixD (.tuple [PyData.str (kindS c), .str nm, .int g, .tuple (ps.map (bxD n))]) (.int 1) = some (.str nm) := rfl
      have bi' : M_boxes_in [.tuple [.str (kindS c), .str nm, .int g, .tuple (ps.map (bxD n))]] = some (.tuple (ps.map (bxD n))) := bi
      have kr : eqD (.str (kindS c)) (.str "rim") = some (.bool false) := by cases c <;> simp only [kindS, if_true, Bool.false_eq_true, if_false] <;> simp -implicitDefEqProofs
      have kl : eqD (.str (kindS c)) (.str "leaf") = some (.bool false) := by cases c <;> simp only [kindS, if_true, Bool.false_eq_true, if_false] <;> simp -implicitDefEqProofs
      have cu := cut2m4 (.str (kindS c)) (.str nm) (.int g) (.tuple (ps.map (bxD n)))
      have sg := str_small h2.1 h2.2
      have s1 : sml 1 = true := rfl
      have hl : capW n * ps.length ≤ capW n * 10 := Nat.mul_le_mul_left _ h3
      obtain ⟨x', lp⟩ := boxw1 (M_box_words m) (s0 := some (.sh (.tuple [.str (kindS c), .str nm, .int g, .tuple (ps.map (bxD n))]))) (k := capW n) (Nb n) hR ps ([kindS c, nm] ++ [nwS g] ++ [("[" : Str)]) none h4 (by simp; omega)
      have fl : (ps.flatMap (wrdV n)).length ≤ 10 * capW n + 12 := by
        have := (wrd_ok (n + 1) (BxF.line c nm g ps : BxF (Bx n)) ⟨h1, h2, h3, h4⟩).1
        have e3 : wrdV (n + 1) (BxF.line c nm g ps : BxF (Bx n)) = [kindS c, nm] ++ [nwS g] ++ [("[" : Str)] ++ ps.flatMap (wrdV n) ++ [("]" : Str)] := rfl
        rw [e3] at this
        simp only [List.length_append, List.length_cons, List.length_nil] at this
        omega
      have a1 := ad_l [kindS c, nm] [nwS g] (by simp)
      have a2 := ad_l ([kindS c, nm] ++ [nwS g]) [("[" : Str)] (by simp)
      have a3 := ad_l ([kindS c, nm] ++ [nwS g] ++ [("[" : Str)] ++ ps.flatMap (wrdV n)) [("]" : Str)] (by simp only [List.length_append, List.length_cons, List.length_nil]; omega)
      have e2 : wrdV (n + 1) (BxF.line c nm g ps : BxF (Bx n)) = [kindS c, nm] ++ [nwS g] ++ [("[" : Str)] ++ ps.flatMap (wrdV n) ++ [("]" : Str)] := rfl
      have l2 : [kindS c, nm].map PyData.str = [.str (kindS c), .str nm] := rfl
      have l3 : [nwS g].map PyData.str = [.str (nwS g)] := rfl
      have l4 : [("[" : Str)].map PyData.str = [.str "["] := rfl
      have l5 : [("]" : Str)].map PyData.str = [.str "]"] := rfl
      rw [l2, l3] at a1
      rw [l4] at a2
      rw [l5] at a3
      rw [e, e2]
      generalize ([kindS c, nm] ++ [nwS g] ++ [("[" : Str)] ++ ps.flatMap (wrdV n) ++ [("]" : Str)]).map PyData.str = W4 at *
      generalize ([kindS c, nm] ++ [nwS g] ++ [("[" : Str)] ++ ps.flatMap (wrdV n)).map PyData.str = W3 at *
      generalize ([kindS c, nm] ++ [nwS g] ++ [("[" : Str)]).map PyData.str = W2 at *
      generalize ([kindS c, nm] ++ [nwS g]).map PyData.str = W1 at *
      generalize hB : PyData.tuple [.str (kindS c), .str nm, .int g, .tuple (ps.map (bxD n))] = B at *
      generalize ps.map (bxD n) = PS at *
      simp -implicitDefEqProofs [D_box_words, startE, i0, i1, kl, kr, cu, s1, lcGo, C_box_words_2, sg, a1, a2, bi', lp, a3]
    | .pile nm ps, hb, bi =>
      obtain ⟨h1, h3, h4⟩ := hb
      have e : bxD (n + 1) (BxF.pile nm ps : BxF (Bx n)) = .tuple [.str "pile", .str nm, .tuple (ps.map (bxD n))] := rfl
      have i0 : ixD (.tuple [PyData.str "pile", .str nm, .tuple (ps.map (bxD n))]) (.int 0) = some (.str "pile") := rfl
      have i1 : ixD (.tuple [PyData.str "pile", .str nm, .tuple (ps.map (bxD n))]) (.int 1) = some (.str nm) := rfl
      have bi' : M_boxes_in [.tuple [.str "pile", .str nm, .tuple (ps.map (bxD n))]] = some (.tuple (ps.map (bxD n))) := bi
      have cu := cut2m3 (.str "pile") (.str nm) (.tuple (ps.map (bxD n)))
      have s0 : sml 0 = true := rfl
      have hl : capW n * ps.length ≤ capW n * 10 := Nat.mul_le_mul_left _ h3
      obtain ⟨x', lp⟩ := boxw1 (M_box_words m) (s0 := some (.sh (.tuple [.str "pile", .str nm, .tuple (ps.map (bxD n))]))) (k := capW n) (Nb n) hR ps ([("pile" : Str), nm] ++ [] ++ [("[" : Str)]) none h4 (by simp; omega)
      have e2 : wrdV (n + 1) (BxF.pile nm ps : BxF (Bx n)) = [("pile" : Str), nm] ++ [] ++ [("[" : Str)] ++ ps.flatMap (wrdV n) ++ [("]" : Str)] := rfl
      have fl : (ps.flatMap (wrdV n)).length ≤ 10 * capW n + 12 := by
        have := (wrd_ok (n + 1) (BxF.pile nm ps : BxF (Bx n)) ⟨h1, h3, h4⟩).1
        rw [e2] at this
        simp only [List.length_append, List.length_cons, List.length_nil] at this
        omega
      have a1 := ad_l [("pile" : Str), nm] [] (by simp)
      have a2 := ad_l ([("pile" : Str), nm] ++ []) [("[" : Str)] (by simp)
      have a3 := ad_l ([("pile" : Str), nm] ++ [] ++ [("[" : Str)] ++ ps.flatMap (wrdV n)) [("]" : Str)] (by simp only [List.length_append, List.length_cons, List.length_nil]; omega)
      have l2 : [("pile" : Str), nm].map PyData.str = [.str "pile", .str nm] := rfl
      have l3 : ([] : List Str).map PyData.str = [] := rfl
      have l4 : [("[" : Str)].map PyData.str = [.str "["] := rfl
      have l5 : [("]" : Str)].map PyData.str = [.str "]"] := rfl
      rw [l2, l3] at a1
      rw [l4] at a2
      rw [l5] at a3
      rw [e, e2]
      generalize ([("pile" : Str), nm] ++ [] ++ [("[" : Str)] ++ ps.flatMap (wrdV n) ++ [("]" : Str)]).map PyData.str = W4 at *
      generalize ([("pile" : Str), nm] ++ [] ++ [("[" : Str)] ++ ps.flatMap (wrdV n)).map PyData.str = W3 at *
      generalize ([("pile" : Str), nm] ++ [] ++ [("[" : Str)]).map PyData.str = W2 at *
      generalize ([("pile" : Str), nm] ++ []).map PyData.str = W1 at *
      generalize hB : PyData.tuple [.str "pile", .str nm, .tuple (ps.map (bxD n))] = B at *
      generalize ps.map (bxD n) = PS at *
      simp -implicitDefEqProofs [D_box_words, startE, i0, i1, cu, s0, lcGo, a1, a2, bi', lp, a3]
    | .rim nm a b' c d p, hb, bi =>
      obtain ⟨h1, h2, h3, h4, h5, h6⟩ := hb
      have e : bxD (n + 1) (BxF.rim nm a b' c d p : BxF (Bx n)) = .tuple [.str "rim", .str nm, .int a, .int b', .int c, .int d, bxD n p] := rfl
      have i0 : ixD (.tuple [PyData.str "rim", .str nm, .int a, .int b', .int c, .int d, bxD n p]) (.int 0) = some (.str "rim") := rfl
      have i1 : ixD (.tuple [PyData.str "rim", .str nm, .int a, .int b', .int c, .int d, bxD n p]) (.int 1) = some (.str nm) := rfl
      have i6 : ixD (.tuple [PyData.str "rim", .str nm, .int a, .int b', .int c, .int d, bxD n p]) (.int 6) = some (bxD n p) := rfl
      have cu := cut26 (.str "rim") (.str nm) (.int a) (.int b') (.int c) (.int d) (bxD n p)
      have s4 : sml 4 = true := rfl
      have sa := str_small h2.1 h2.2
      have sb := str_small h3.1 h3.2
      have sc := str_small h4.1 h4.2
      have sd := str_small h5.1 h5.2
      obtain ⟨r, rl⟩ := hR p h6
      have a1 := ad_l [("rim" : Str), nm] [nwS a, nwS b', nwS c, nwS d] (by simp)
      have a2 := ad_l ([("rim" : Str), nm] ++ [nwS a, nwS b', nwS c, nwS d]) (wrdV n p) (by simp; omega)
      have e2 : wrdV (n + 1) (BxF.rim nm a b' c d p : BxF (Bx n)) = [("rim" : Str), nm] ++ [nwS a, nwS b', nwS c, nwS d] ++ wrdV n p := rfl
      have l2 : [("rim" : Str), nm].map PyData.str = [.str "rim", .str nm] := rfl
      have l3 : [nwS a, nwS b', nwS c, nwS d].map PyData.str = [.str (nwS a), .str (nwS b'), .str (nwS c), .str (nwS d)] := rfl
      rw [l2, l3] at a1
      rw [e, e2]
      generalize ([("rim" : Str), nm] ++ [nwS a, nwS b', nwS c, nwS d] ++ wrdV n p).map PyData.str = W3 at *
      generalize ([("rim" : Str), nm] ++ [nwS a, nwS b', nwS c, nwS d]).map PyData.str = W2 at *
      generalize (wrdV n p).map PyData.str = WP at *
      generalize hB : PyData.tuple [.str "rim", .str nm, .int a, .int b', .int c, .int d, bxD n p] = B at *
      generalize bxD n p = PB at *
      simp -implicitDefEqProofs [D_box_words, startE, i0, i1, cu, s4, lcGo, C_box_words_1, sa, sb, sc, sd, a1, i6, r, a2]
/-- joined by blanks -/
theorem join_ok {d : D} {ws : List Str} (hd : d = .list (ws.map PyData.str) ∨ d = .tuple (ws.map PyData.str)) (h : (ws.map (·.length)).sum + ws.length ≤ 16777216) : joinD (.str " ") d = some (.str (jw ws)) := by
  have hj : jnOk " " ws = true := by
    unfold jnOk
    have e : (" " : Str).length = 1 := by decide +kernel
    rw [e, Nat.mul_one]
    exact Nat.ble_eq_true_of_le h
  have h2 : asStrs (ws.map PyData.str) = some ws := asStrs_map ws
  rw [← jn_jw]
  rcases hd with rfl | rfl
  · show (asStrs (ws.map PyData.str)).bind (fun ys => if jnOk " " ys = true then some (PyData.str (Txt.join " " ys)) else none) = _
    rw [h2]
    simp only [Option.bind_some]
    rw [if_pos hj]
  · show (asStrs (ws.map PyData.str)).bind (fun ys => if jnOk " " ys = true then some (PyData.str (Txt.join " " ys)) else none) = _
    rw [h2]
    simp only [Option.bind_some]
    rw [if_pos hj]
theorem sum_len_le : ∀ (ws : List Str) (k : Nat), (∀ x ∈ ws, x.length ≤ k) → (ws.map (·.length)).sum ≤ k * ws.length
  | [], _, _ => by simp
  | w :: ws, k, h => by
    have h1 := h w List.mem_cons_self
    have h2 := sum_len_le ws k fun x q => h x (List.mem_cons_of_mem _ q)
    rw [List.map_cons, List.sum_cons, List.length_cons, Nat.mul_succ]
    omega
theorem written_eq {n : Nat} {b : Bx n} (hn : n ≤ 4) (hb : Nb n b) : M_written [bxD n b] = some (.str (jw (wrdV n b))) := by
  have w := boxwords_eq n 12 b (by omega) hn hb
  obtain ⟨w1, w2, _⟩ := wrd_ok n b hb
  have cp := capW_lt hn
  have s := sum_len_le _ 1000 w2
  have j := join_ok (d := .list ((wrdV n b).map PyData.str)) (.inl rfl) (by omega)
  generalize (wrdV n b).map PyData.str = WS at *
  generalize bxD n b = B at *
  simp -implicitDefEqProofs [M_written, D_written, startE, w, j]

theorem cutL_from {α : Type} (xs : List α) (k : Nat) : cutL xs (some (k : Int)) none = xs.drop k := by
  unfold cutL
  rw [HT.sIx_none, HT.sIx_nat]
  rcases Nat.le_total k xs.length with h | h
  · rw [Nat.min_eq_left h, List.take_of_length_le (by simp)]
  · rw [Nat.min_eq_right h, List.drop_of_length_le h]
    simp
theorem cutL_to {α : Type} (xs : List α) (k : Nat) : cutL xs none (some (k : Int)) = xs.take k := by
  unfold cutL
  rw [HT.sIx_none, HT.sIx_nat, List.drop_zero, Nat.sub_zero]
  rcases Nat.le_total k xs.length with h | h
  · rw [Nat.min_eq_left h]
  · rw [Nat.min_eq_right h, List.take_length, List.take_of_length_le h]

/-! plain data: no dicts; bools if b; no longer than L, no deeper than n -/
def pl (b : Bool) (L : Nat) : Nat → D → Bool
  | _, .none => true
  | _, .bool _ => b
  | _, .int i => decide (i.natAbs ≤ 1000 * L)
  | _, .str x => PyData.strOk x && decide (x.length ≤ 1000)
  | n + 1, .list xs => decide (xs.length ≤ L) && xs.all (pl b L n)
  | n + 1, .tuple xs => decide (xs.length ≤ L) && xs.all (pl b L n)
  | _, _ => false
theorem pl_shp {b : Bool} {L : Nat} : ∀ (n : Nat) (d : D), pl b L n d = true → shp n d = true
  | 0, .none, _ => rfl
  | _ + 1, .none, _ => rfl
  | 0, .bool _, _ => rfl
  | _ + 1, .bool _, _ => rfl
  | 0, .int _, _ => rfl
  | _ + 1, .int _, _ => rfl
  | 0, .str x, h => (Bool.and_eq_true _ _ ▸ h : PyData.strOk x = true ∧ _).1
  | _ + 1, .str x, h => (Bool.and_eq_true _ _ ▸ h : PyData.strOk x = true ∧ _).1
  | n + 1, .list xs, h => by
    have h' : (decide (xs.length ≤ L) && xs.all (pl b L n)) = true := h
    rw [Bool.and_eq_true] at h'
    exact List.all_eq_true.mpr fun x hx => pl_shp n x (List.all_eq_true.mp h'.2 x hx)
  | n + 1, .tuple xs, h => by
    have h' : (decide (xs.length ≤ L) && xs.all (pl b L n)) = true := h
    rw [Bool.and_eq_true] at h'
    exact List.all_eq_true.mpr fun x hx => pl_shp n x (List.all_eq_true.mp h'.2 x hx)
  | 0, .list _, h => by cases h
  | 0, .tuple _, h => by cases h
  | 0, .dict _, h => by cases h
  | _ + 1, .dict _, h => by cases h
theorem pl_tup {b : Bool} {L n : Nat} {xs : List D} : pl b L (n + 1) (.tuple xs) = true ↔ xs.length ≤ L ∧ ∀ x ∈ xs, pl b L n x = true := by
  show (decide (xs.length ≤ L) && xs.all (pl b L n)) = true ↔ _
  rw [Bool.and_eq_true, decide_eq_true_eq, List.all_eq_true]
theorem pl_lst {b : Bool} {L n : Nat} {xs : List D} : pl b L (n + 1) (.list xs) = true ↔ xs.length ≤ L ∧ ∀ x ∈ xs, pl b L n x = true := by
  show (decide (xs.length ≤ L) && xs.all (pl b L n)) = true ↔ _
  rw [Bool.and_eq_true, decide_eq_true_eq, List.all_eq_true]
theorem pl_int {b : Bool} {L n : Nat} {i : Int} : pl b L n (.int i) = true ↔ i.natAbs ≤ 1000 * L := by
  cases n <;> exact decide_eq_true_iff
theorem pl_str {b : Bool} {L n : Nat} {x : Str} : pl b L n (.str x) = true ↔ PyData.strOk x = true ∧ x.length ≤ 1000 := by
  have h : pl b L n (.str x) = (PyData.strOk x && decide (x.length ≤ 1000)) := by cases n <;> rfl
  rw [h, Bool.and_eq_true, decide_eq_true_eq]
theorem pl_mono {b c : Bool} {L M : Nat} (hb : b = true → c = true) (hL : L ≤ M) : ∀ (n m : Nat) (d : D), n ≤ m → pl b L n d = true → pl c M m d = true
  | _, m, .none, _, _ => by cases m <;> rfl
  | n, m, .bool _, _, h => by
    have h' : b = true := by cases n <;> exact h
    cases m <;> exact hb h'
  | n, m, .int _, _, h => pl_int.mpr (Nat.le_trans (pl_int.mp h) (Nat.mul_le_mul_left 1000 hL))
  | n, m, .str _, _, h => pl_str.mpr (pl_str.mp h)
  | n + 1, m + 1, .list xs, hn, h => by
    obtain ⟨h1, h2⟩ := pl_lst.mp h
    exact pl_lst.mpr ⟨Nat.le_trans h1 hL, fun x hx => pl_mono hb hL n m x (by omega) (h2 x hx)⟩
  | n + 1, m + 1, .tuple xs, hn, h => by
    obtain ⟨h1, h2⟩ := pl_tup.mp h
    exact pl_tup.mpr ⟨Nat.le_trans h1 hL, fun x hx => pl_mono hb hL n m x (by omega) (h2 x hx)⟩
  | n + 1, 0, .list xs, hn, h => by omega
  | n + 1, 0, .tuple xs, hn, h => by omega
  | 0, _, .list _, _, h => by cases h
  | 0, _, .tuple _, _, h => by cases h
  | 0, _, .dict _, _, h => by cases h
  | _ + 1, _, .dict _, _, h => by cases h
theorem atI_mem {α : Type} {xs : List α} {r : Int} (h0 : 0 ≤ r) (h1 : r < xs.length) : ∃ x ∈ xs, atI xs r = some x := by
  obtain ⟨k, rfl⟩ : ∃ k : Nat, r = (k : Int) := ⟨r.toNat, by omega⟩
  have hk : k < xs.length := by omega
  exact ⟨xs[k], List.getElem_mem hk, atI_of (List.getElem?_eq_getElem hk)⟩
theorem strOk_of (s : String) : PyData.strOk (Str.ofString s) = true := by
  unfold PyData.strOk
  rw [Str.ofString_eq_toList, Array.all_eq_true']
  intro n hn
  simp only [List.mem_toArray, List.mem_map] at hn
  obtain ⟨c, _, rfl⟩ := hn
  have := c.valid
  simp only [decide_eq_true_eq]
  show c.val.toNat < 1114112
  rcases this with h | h
  · omega
  · exact h.2
theorem pl_notDict {b : Bool} {L n : Nat} {d : D} (h : pl b L n d = true) (T : Ty) : ∃ c, isiD T d = some (.bool c) := by
  cases d with
  | dict _ => cases n <;> cases h
  | _ => cases T <;> exact ⟨_, rfl⟩

/-! is_span of plain data -/
def whB (d : D) (lo hi : Int) : Bool := match d with
  | .int i => decide (lo ≤ i) && decide (i ≤ hi)
  | _ => false
def moB (c : D) (b : Int) : Bool := match c with
  | .none => true
  | c => whB c b 999
def spanB (d : D) : Bool := match d with
  | .tuple [.int a, .int b, c, e, f] => whB (.int a) 0 999 && whB (.int b) a 999 && whB e 0 9 && whB f 0 9 && moB c b
  | _ => false
theorem whole_body {b : Bool} {L n : Nat} {d : D} {lo hi : Int} (h : pl b L n d = true) : runF 3 (sRet (andV (c1 (isiD .int) (vr 0)) (andV (notV (c1 (isiD .bool) (vr 0))) (chD leD leD (vr 1) (vr 0) (vr 2))))) [d, .int lo, .int hi] = some (.bool (whB d lo hi)) := by
  cases d with
  | dict _ => cases n <;> cases h
  | int i =>
    by_cases h1 : lo ≤ i
    · simp -implicitDefEqProofs [startE, isiD, whB, h1]
    · simp -implicitDefEqProofs [startE, isiD, whB, h1]
  | _ => simp -implicitDefEqProofs [startE, isiD, whB]

theorem Pwhole_eq {b : Bool} {L n : Nat} {d : D} {lo hi : Int} (h : pl b L n d = true) : M_is_whole [d, .int lo, .int hi] = some (.bool (whB d lo hi)) := whole_body h
theorem Pisspan_eq {b : Bool} {L n : Nat} {d : D} (h : pl b L n d = true) (hL : L ≤ 10000) : M_is_span [d] = some (.bool (spanB d)) := by
  cases d with
  | dict _ => cases n <;> cases h
  | tuple xs =>
    cases n with
    | zero => cases h
    | succ n =>
      obtain ⟨hl, hx⟩ := pl_tup.mp h
      by_cases h5 : xs.length = 5
      · match xs, h5 with
        | [a, b', c, e, f], _ =>
          have pa := hx a (by simp)
          have pb := hx b' (by simp)
          have pc := hx c (by simp)
          have pe := hx e (by simp)
          have pf := hx f (by simp)
          have i0 : atI [a, b', c, e, f] 0 = some a := rfl
          have i1 : atI [a, b', c, e, f] 1 = some b' := rfl
          have i2 : atI [a, b', c, e, f] 2 = some c := rfl
          have fa := Pwhole_eq (lo := 0) (hi := 999) pa
          have fb := Pwhole_eq (lo := 0) (hi := 999) pb
          have fe := Pwhole_eq (lo := 0) (hi := 9) pe
          have ff := Pwhole_eq (lo := 0) (hi := 9) pf
          have k1 : cutL [a, b', c, e, f] none (some 2) = [a, b'] := rfl
          have k2 : cutL [a, b', c, e, f] (some 3) none = [e, f] := rfl
          have s2 : sml 2 = true := rfl
          have g1 : ∀ env : DEnv, env.length = 2 → lcGo (bNm 1) yesT (cA M_is_whole (consA (vr 1) (consA (cst (.int 0)) (consA (cst (.int 999)) nilA)))) env [a, b'] = some [.bool (whB a 0 999), .bool (whB b' 0 999)] := fun env he => by
            have h1 : 1 < env.length := by omega
            simp -implicitDefEqProofs [lcGo, h1, fa, fb]
          have g2 : ∀ env : DEnv, env.length = 2 → lcGo (bNm 1) yesT (cA M_is_whole (consA (vr 1) (consA (cst (.int 0)) (consA (cst (.int 9)) nilA)))) env [e, f] = some [.bool (whB e 0 9), .bool (whB f 0 9)] := fun env he => by
            have h1 : 1 < env.length := by omega
            simp -implicitDefEqProofs [lcGo, h1, fe, ff]
          cases a with
          | int a =>
            cases b' with
            | int b' =>
              have fc := Pwhole_eq (lo := b') (hi := 999) pc
              have hc : ∃ cn, isND c = some (.bool cn) ∧ moB c b' = (cn || whB c b' 999) := by
                cases c <;> exact ⟨_, rfl, by simp [moB]⟩
              obtain ⟨cn, hcn, hce⟩ := hc
              have hab : (whB (.int a) 0 999 && whB (.int b') a 999) = (whB (.int a) 0 999 && whB (.int b') 0 999 && decide (a ≤ b')) := by
                simp only [whB]
                rw [Bool.eq_iff_iff]
                simp
                omega
              have hspan : spanB (.tuple [.int a, .int b', c, e, f]) = (whB (.int a) 0 999 && whB (.int b') 0 999 && decide (a ≤ b') && whB e 0 9 && whB f 0 9 && (cn || whB c b' 999)) := by
                show (whB (.int a) 0 999 && whB (.int b') a 999 && whB e 0 9 && whB f 0 9 && moB c b') = _
                rw [hab, hce]
              rw [hspan]
              cases h1 : whB (.int a) 0 999 <;> cases h2 : whB (.int b') 0 999 <;> simp only [h1, h2] at g1
              · simp -implicitDefEqProofs [M_is_span, D_is_span, startE, isiD, k1, s2, g1]
              · simp -implicitDefEqProofs [M_is_span, D_is_span, startE, isiD, k1, s2, g1]
              · simp -implicitDefEqProofs [M_is_span, D_is_span, startE, isiD, k1, s2, g1]
              · by_cases hle : a ≤ b'
                · have hlt : ¬ b' < a := by omega
                  cases h3 : whB c b' 999 <;> cases cn <;> cases h4 : whB e 0 9 <;> cases h5 : whB f 0 9 <;> simp only [h3, h4, h5] at fc g2 <;>
                    simp -implicitDefEqProofs [M_is_span, D_is_span, startE, isiD, k1, k2, s2, g1, g2, i0, i1, i2, hle, hlt, hcn, fc]
                · have hlt : b' < a := by omega
                  simp -implicitDefEqProofs [M_is_span, D_is_span, startE, isiD, k1, k2, s2, g1, g2, i0, i1, i2, hle, hlt]
            | _ =>
              cases h1 : whB (.int a) 0 999 <;> simp only [h1] at g1 <;> simp -implicitDefEqProofs [M_is_span, D_is_span, startE, isiD, k1, s2, g1, whB, spanB]
          | _ => simp -implicitDefEqProofs [M_is_span, D_is_span, startE, isiD, k1, s2, g1, whB, spanB]
      · have h5' : ¬ (xs.length : Int) = 5 := by omega
        have hs : spanB (.tuple xs) = false := by
          unfold spanB
          split
          · rename_i heq; cases heq; simp at h5
          · rfl
        rw [hs]
        simp -implicitDefEqProofs [M_is_span, D_is_span, startE, isiD, h5', h5]
  | _ => simp -implicitDefEqProofs [M_is_span, D_is_span, startE, isiD, spanB]

/-! names -/
def lwB (c : Nat) : Bool := decide (97 ≤ c ∧ c ≤ 122)
def nameB : D → Bool
  | .str x => decide (1 ≤ x.length ∧ x.length ≤ 4) && x.cps.toList.all lwB
  | _ => false
theorem in_abc (c : Nat) : inStr ⟨#[c]⟩ "abcdefghijklmnopqrstuvwxyz" = lwB c := by
  have h := PySem.StrLaws.found_one "abcdefghijklmnopqrstuvwxyz" c
  unfold inStr
  rw [h]
  unfold lwB
  have e : (Str.ofString "abcdefghijklmnopqrstuvwxyz").cps.toList = List.range' 97 26 := by decide +kernel
  rw [e]
  congr 1
  rw [List.mem_range'_1]
  exact propext ⟨fun q => by omega, fun q => by omega⟩
theorem le_a (c : Nat) : leD (.str "a") (.str ⟨#[c]⟩) = some (.bool (decide (97 ≤ c))) := by
  have e : ("a" : Str).cps.toList = [97] := by decide +kernel
  show some (PyData.bool (!decide ([c] < ("a" : Str).cps.toList))) = _
  rw [e]
  congr 2
  by_cases h : 97 ≤ c
  · have : ¬ ([c] < [97]) := by simp [List.cons_lt_cons_iff]; omega
    simp [h, this]
  · have : [c] < [97] := by simp [List.cons_lt_cons_iff]; omega
    simp [h, this]
theorem le_z (c : Nat) : leD (.str ⟨#[c]⟩) (.str "z") = some (.bool (decide (c ≤ 122))) := by
  have e : ("z" : Str).cps.toList = [122] := by decide +kernel
  show some (PyData.bool (!decide (("z" : Str).cps.toList < [c]))) = _
  rw [e]
  congr 2
  by_cases h : c ≤ 122
  · have : ¬ ([122] < [c]) := by simp [List.cons_lt_cons_iff]; omega
    simp [h, this]
  · have : [122] < [c] := by simp [List.cons_lt_cons_iff]; omega
    simp [h, this]
theorem eq_nilL {n : Nat} {xs : List D} (h : ∀ x ∈ xs, shp n x = true) (hn : n ≤ 62) : eqD (.list xs) (.list []) = some (.bool xs.isEmpty) := by
  rw [eq_ok (n := n + 1) (m := 1) (a := .list xs) (b := .list []) (List.all_eq_true.mpr h) rfl (by omega) (by omega)]
  cases xs <;> rfl
theorem ne_nilL {n : Nat} {xs : List D} (h : ∀ x ∈ xs, shp n x = true) (hn : n ≤ 62) : neD (.list xs) (.list []) = some (.bool (!xs.isEmpty)) := by
  rw [ne_ok (n := n + 1) (m := 1) (a := .list xs) (b := .list []) (List.all_eq_true.mpr h) rfl (by omega) (by omega)]
  cases xs <;> rfl
theorem filter_none {α : Type} (p : α → Bool) : ∀ xs : List α, (xs.filter fun x => !p x).isEmpty = xs.all p
  | [] => rfl
  | x :: xs => by
    rw [List.filter_cons, List.all_cons, ← filter_none p xs]
    cases h : p x <;> simp
theorem Pname_eq {b : Bool} {L n : Nat} {d : D} (h : pl b L n d = true) : M_is_name [d] = some (.bool (nameB d)) := by
  cases d with
  | dict _ => cases n <;> cases h
  | str x =>
    have it : itemsD (.str x) = some (x.cps.toList.map fun c => PyData.str ⟨#[c]⟩) := rfl
    have h1 := (pl_str.mp h).2
    · have hs : sml x.length = true := sml_of (by omega)
      have hl : lenD (.str x) = some (.int x.length) := if_pos hs
      have hs' : sml x.cps.size = true := hs
      have g : ∀ env : DEnv, env.length = 2 → lcGo (bNm 1) yesT (c2 inD (vr 1) (cst (.str "abcdefghijklmnopqrstuvwxyz"))) env (x.cps.toList.map fun c => PyData.str ⟨#[c]⟩) = some (x.cps.toList.map fun c => PyData.bool (lwB c)) := fun env he => by
        refine lcGo_map (fun c => PyData.str ⟨#[c]⟩) (fun c => PyData.bool (lwB c)) _ fun c hc => ⟨_, rfl, ?_⟩
        have h1 : 1 < env.length := by omega
        have hin : inD (.str ⟨#[c]⟩) (.str "abcdefghijklmnopqrstuvwxyz") = some (.bool (lwB c)) := by rw [← in_abc]; rfl
        simp -implicitDefEqProofs [h1, hin]
      by_cases h2 : (1 : Int) ≤ (x.length : Int)
      · by_cases h3 : (x.length : Int) ≤ 4
        · have e : decide (1 ≤ x.length ∧ x.length ≤ 4) = true := decide_eq_true ⟨by omega, by omega⟩
          simp -implicitDefEqProofs [M_is_name, D_is_name, startE, isiD, hl, h2, h3, it, g, nameB, hs', e]
          try rfl
        · have e : decide (1 ≤ x.length ∧ x.length ≤ 4) = false := decide_eq_false (by omega)
          simp -implicitDefEqProofs [M_is_name, D_is_name, startE, isiD, hl, h2, h3, nameB, e]
      · have e : decide (1 ≤ x.length ∧ x.length ≤ 4) = false := decide_eq_false (by omega)
        simp -implicitDefEqProofs [M_is_name, D_is_name, startE, isiD, hl, h2, nameB, e]
  | _ => simp -implicitDefEqProofs [M_is_name, D_is_name, startE, isiD, nameB]
/-! boxes by shape: of plain data -/
def bsB (f : D → Bool) (many : Nat) : D → Bool
  | .tuple xs => decide (1 ≤ xs.length ∧ xs.length ≤ many) && xs.all f
  | _ => false
def leR : List D → Bool
  | [a, b] => spanB a && spanB b
  | _ => false
def liR (f : D → Bool) : List D → Bool
  | [g, bs] => whB g 0 999 && bsB f 4 bs
  | _ => false
def piR (f : D → Bool) : List D → Bool
  | [bs] => bsB f 3 bs
  | _ => false
def riR (f : D → Bool) : List D → Bool
  | [a, b, c, d, x] => (whB a 0 999 && whB b 0 999 && whB c 0 999 && whB d 0 999) && f x
  | _ => false
def shR (f : D → Bool) (w : Str) (r : List D) : Bool :=
  if w = "leaf" then leR r else if w = "row" ∨ w = "col" then liR f r else if w = "pile" then piR f r else if w = "rim" then riR f r else false
def shS (f : D → Bool) : D → Bool
  | .tuple (.str w :: nm :: r) => nameB nm && shR f w r
  | _ => false
def shB : Nat → D → Bool
  | 0, _ => false
  | n + 1, d => shS (shB n) d
theorem shR_nil (f : D → Bool) (w : Str) : shR f w [] = false := by
  unfold shR
  repeat' split
  all_goals rfl
theorem eqW {w : Str} (hw : PyData.strOk w = true) {z : Str} (hz : PyData.strOk z = true) : eqD (.str w) (.str z) = some (.bool (decide (w = z))) := eq_strs hw hz (by by_cases h : w = z <;> simp [h])
theorem neW {w : Str} (hw : PyData.strOk w = true) {z : Str} (hz : PyData.strOk z = true) : neD (.str w) (.str z) = some (.bool (!decide (w = z))) := ne_strs hw hz (by by_cases h : w = z <;> simp [h])
theorem inW2 {w : Str} (hw : PyData.strOk w = true) : inD (.str w) (.tuple [.str "row", .str "col"]) = some (.bool (decide (w = "row") || decide (w = "col"))) := by
  have h : okIn (.str w) [.str "row", .str "col"] = true := rfl
  show (if okIn (.str w) [.str "row", .str "col"] = true then some (PyData.bool (inSeq (.str w) [.str "row", .str "col"])) else none) = _
  rw [if_pos h]
  congr 2
  show (("row" : Str) == w || (("col" : Str) == w || false)) = _
  rw [Bool.or_false]
  congr 1
  · by_cases h : w = "row"
    · simp [h]
    · have h' : ¬ ("row" : Str) = w := fun q => h q.symm
      simp [h, h']
  · by_cases h : w = "col"
    · simp [h]
    · have h' : ¬ ("col" : Str) = w := fun q => h q.symm
      simp [h, h']
theorem ok_leaf : PyData.strOk "leaf" = true := by decide +kernel
theorem ok_row : PyData.strOk "row" = true := by decide +kernel
theorem ok_col : PyData.strOk "col" = true := by decide +kernel
theorem ok_pile : PyData.strOk "pile" = true := by decide +kernel
theorem ok_rim : PyData.strOk "rim" = true := by decide +kernel
/-- boxes in a tuple, the program's -/
theorem Pare_step {R1 R2 : List D → Option D} {b : Bool} {L N : Nat} (f : D → Bool) (many : Nat) (k : Int) (hL : L ≤ 10000) (hR : ∀ n d, n ≤ N → pl b L n d = true → R2 [d, .int k] = some (.bool (f d))) {n : Nat} {d : D} (hn : n ≤ N) (h : pl b L n d = true) :
    runF 4 (D_are_boxes R1 R2) [d, .int many, .int k] = some (.bool (bsB f many d)) := by
  cases d with
  | dict _ => cases n <;> cases h
  | tuple xs =>
    cases n with
    | zero => cases h
    | succ n =>
      obtain ⟨hl, hx⟩ := pl_tup.mp h
      have hs : sml xs.length = true := sml_of (by omega)
      have g : ∀ env : DEnv, env.length = 4 → env[2]? = some (some (.sh (.int k))) → lcGo (bNm 3) yesT (C_are_boxes_1 R1 R2) env xs = some (xs.map fun x => PyData.bool (f x)) := fun env he h2 => by
        have := lcGo_map (b := bNm 3) (el := C_are_boxes_1 R1 R2) (e := env) (fun x : D => x) (fun x => PyData.bool (f x)) xs fun x hm => ⟨_, rfl, by
          have h3 : 3 < env.length := by omega
          have r := hR n x (by omega) (hx x hm)
          simp -implicitDefEqProofs [C_are_boxes_1, h3, h2, r]⟩
        rwa [List.map_id'] at this
      by_cases h1 : (1 : Int) ≤ (xs.length : Int)
      · by_cases h2 : (xs.length : Int) ≤ (many : Int)
        · have e : decide (1 ≤ xs.length ∧ xs.length ≤ many) = true := decide_eq_true ⟨by omega, by omega⟩
          simp -implicitDefEqProofs [D_are_boxes, startE, isiD, h1, h2, hs, g, bsB, e]
          try rfl
        · have e : decide (1 ≤ xs.length ∧ xs.length ≤ many) = false := decide_eq_false (by omega)
          simp -implicitDefEqProofs [D_are_boxes, startE, isiD, h1, h2, bsB, e]
      · have e : decide (1 ≤ xs.length ∧ xs.length ≤ many) = false := decide_eq_false (by omega)
        simp -implicitDefEqProofs [D_are_boxes, startE, isiD, h1, bsB, e]
  | _ => simp -implicitDefEqProofs [D_are_boxes, startE, isiD, bsB]
theorem Pbox_step {R1 R2 : List D → Option D} {b : Bool} {L N : Nat} (f : D → Bool) (k : Nat) (hL : L ≤ 10000)
    (hR1 : ∀ (many n : Nat) d, n ≤ N → pl b L n d = true → R1 [d, .int many, .int k] = some (.bool (bsB f many d))) (hR2 : ∀ n d, n ≤ N → pl b L n d = true → R2 [d, .int k] = some (.bool (f d))) {n : Nat} {d : D} (hn : n ≤ N) (h : pl b L n d = true) :
    runF 4 (D_is_box_to R1 R2) [d, .int ((k : Int) + 1)] = some (.bool (shS f d)) := by
  have h0 : ¬ ((k : Int) + 1 = 0) := by omega
  cases d with
  | dict _ => cases n <;> cases h
  | tuple xs =>
    cases n with
    | zero => cases h
    | succ n =>
      obtain ⟨hl, hx⟩ := pl_tup.mp h
      match xs, hl, hx with
      | [], _, _ => simp -implicitDefEqProofs [D_is_box_to, startE, isiD, h0, shS]
      | [a], _, _ => simp -implicitDefEqProofs [D_is_box_to, startE, isiD, h0, shS]
      | [a, nm], _, _ =>
        have : shS f (.tuple [a, nm]) = false := by
          cases a <;> simp [shS, shR_nil]
        rw [this]
        simp -implicitDefEqProofs [D_is_box_to, startE, isiD, h0]
      | a :: nm :: c :: r, hl, hx =>
        have h3 : ¬ (((a :: nm :: c :: r).length : Int) < 3) := by simp only [List.length_cons]; omega
        have i0 : atI (a :: nm :: c :: r) 0 = some a := by rw [atI_pos (by decide)]; rfl
        have i1 : atI (a :: nm :: c :: r) 1 = some nm := by rw [atI_pos (by decide)]; rfl
        have i2 : atI (a :: nm :: c :: r) 2 = some c := by rw [atI_pos (by decide)]; rfl
        have pa := hx a (by simp)
        have pnm := Pname_eq (hx nm (by simp))
        have pc := hx c (by simp)
        cases a with
        | str w =>
          have hw := (pl_str.mp pa).1
          have e1 := eqW hw ok_leaf
          have e2 := inW2 hw
          have e3 := eqW hw ok_pile
          have e4 := neW hw ok_rim
          have ew := Pwhole_eq (lo := 0) (hi := 999) pc
          have es := Pisspan_eq pc hL
          have hln : ((((PyData.str w) :: nm :: c :: r).length : Nat) : Int) = ((r.length : Nat) : Int) + 3 := by simp only [List.length_cons]; omega
          show _ = some (PyData.bool (nameB nm && shR f w (c :: r)))
          cases hnm : nameB nm with
          | false =>
            rw [hnm] at pnm
            generalize hXS : (PyData.str w) :: nm :: c :: r = XS at *
            simp -implicitDefEqProofs [D_is_box_to, startE, isiD, h0, h3, i0, i1, pnm]
          | true =>
            rw [hnm] at pnm
            have cut : cutL ((PyData.str w) :: nm :: c :: r) (some 2) (some 6) = (c :: r).take 4 := by
              unfold cutL
              have : HT.sIx ((PyData.str w) :: nm :: c :: r).length 0 (some 2) = 2 := by
                have := HT.sIx_nat ((PyData.str w) :: nm :: c :: r).length 0 2
                rw [show ((2 : Nat) : Int) = 2 from rfl] at this
                rw [this]
                simp only [List.length_cons]
                omega
              rw [this]
              have h6 := HT.sIx_nat ((PyData.str w) :: nm :: c :: r).length ((PyData.str w) :: nm :: c :: r).length 6
              rw [show ((6 : Nat) : Int) = 6 from rfl] at h6
              rw [h6]
              show (c :: r).take _ = _
              simp only [List.length_cons]
              by_cases hr : r.length ≤ 3
              · rw [List.take_of_length_le (by simp; omega), List.take_of_length_le (by simp; omega)]
              · congr 1
                omega
            by_cases w1 : w = "leaf"
            · have d1 : shR f w (c :: r) = leR (c :: r) := if_pos w1
              rw [d1]
              simp only [w1, decide_true] at e1
              match r, hl, hx with
              | [x], hl, hx =>
                have i3 : atI [PyData.str w, nm, c, x] 3 = some x := rfl
                have ex := Pisspan_eq (hx x (by simp)) hL
                subst w1
                generalize hXS : [PyData.str "leaf", nm, c, x] = XS at *
                cases hc : spanB c <;> cases hxx : spanB x <;> simp only [hc, hxx] at es ex <;> simp -implicitDefEqProofs [D_is_box_to, startE, isiD, h0, h3, hln, i0, i1, i2, i3, pnm, e1, es, ex, leR, hc, hxx]
              | [], hl, hx =>
                subst w1
                generalize hXS : [PyData.str "leaf", nm, c] = XS at *
                simp -implicitDefEqProofs [D_is_box_to, startE, isiD, h0, h3, hln, i0, i1, pnm, e1, leR]
              | x :: y :: r, hl, hx =>
                subst w1
                have h4 : ¬ (((PyData.str "leaf" :: nm :: c :: x :: y :: r).length : Int) = 4) := by simp only [List.length_cons]; omega
                have h4' : ¬ ((PyData.str "leaf" :: nm :: c :: x :: y :: r).length = 4) := by simp only [List.length_cons]; omega
                generalize hXS : PyData.str "leaf" :: nm :: c :: x :: y :: r = XS at *
                simp -implicitDefEqProofs [D_is_box_to, startE, isiD, h0, h3, h4, h4', i0, i1, pnm, e1, leR]
            · simp only [w1, decide_false] at e1
              by_cases w2 : w = "row" ∨ w = "col"
              · have d1 : shR f w (c :: r) = liR f (c :: r) := by unfold shR; rw [if_neg w1, if_pos w2]
                rw [d1]
                have w2' : (decide (w = "row") || decide (w = "col")) = true := by simpa using w2
                rw [w2'] at e2
                match r, hl, hx with
                | [x], hl, hx =>
                  have i3 : atI [PyData.str w, nm, c, x] 3 = some x := rfl
                  have ex := hR1 4 n x (by omega) (hx x (by simp))
                  rw [show ((4 : Nat) : Int) = 4 from rfl] at ex
                  generalize hXS : [PyData.str w, nm, c, x] = XS at *
                  cases hc : whB c 0 999 <;> simp only [hc] at ew <;> simp -implicitDefEqProofs [D_is_box_to, startE, isiD, h0, h3, hln, i0, i1, i2, i3, pnm, e1, e2, ew, ex, liR, hc]
                | [], hl, hx =>
                  generalize hXS : [PyData.str w, nm, c] = XS at *
                  simp -implicitDefEqProofs [D_is_box_to, startE, isiD, h0, h3, hln, i0, i1, pnm, e1, e2, liR]
                | x :: y :: r, hl, hx =>
                  have h4 : ¬ (((PyData.str w :: nm :: c :: x :: y :: r).length : Int) = 4) := by simp only [List.length_cons]; omega
                  have h4' : ¬ ((PyData.str w :: nm :: c :: x :: y :: r).length = 4) := by simp only [List.length_cons]; omega
                  generalize hXS : PyData.str w :: nm :: c :: x :: y :: r = XS at *
                  simp -implicitDefEqProofs [D_is_box_to, startE, isiD, h0, h3, h4, h4', i0, i1, pnm, e1, e2, liR]
              · have w2' : (decide (w = "row") || decide (w = "col")) = false := by simpa using w2
                rw [w2'] at e2
                by_cases w3 : w = "pile"
                · have d1 : shR f w (c :: r) = piR f (c :: r) := by unfold shR; rw [if_neg w1, if_neg w2, if_pos w3]
                  rw [d1]
                  simp only [w3, decide_true] at e3
                  match r, hl, hx with
                  | [], hl, hx =>
                    have ex := hR1 3 n c (by omega) (hx c (by simp))
                    rw [show ((3 : Nat) : Int) = 3 from rfl] at ex
                    subst w3
                    generalize hXS : [PyData.str "pile", nm, c] = XS at *
                    simp -implicitDefEqProofs [D_is_box_to, startE, isiD, h0, h3, hln, i0, i1, i2, pnm, e1, e2, e3, ex, piR]
                  | x :: r, hl, hx =>
                    subst w3
                    have h4 : ¬ (((PyData.str "pile" :: nm :: c :: x :: r).length : Int) = 3) := by simp only [List.length_cons]; omega
                    have h4' : ¬ ((PyData.str "pile" :: nm :: c :: x :: r).length = 3) := by simp only [List.length_cons]; omega
                    generalize hXS : PyData.str "pile" :: nm :: c :: x :: r = XS at *
                    simp -implicitDefEqProofs [D_is_box_to, startE, isiD, h0, h3, h4, h4', i0, i1, pnm, e1, e2, e3, piR]
                · simp only [w3, decide_false] at e3
                  by_cases w4 : w = "rim"
                  · have d1 : shR f w (c :: r) = riR f (c :: r) := by unfold shR; rw [if_neg w1, if_neg w2, if_neg w3, if_pos w4]
                    rw [d1]
                    simp only [w4, decide_true] at e4
                    match r, hl, hx, cut with
                    | [x, y, z, u], hl, hx, cut =>
                      have i6 : atI [PyData.str w, nm, c, x, y, z, u] 6 = some u := rfl
                      have fx := Pwhole_eq (lo := 0) (hi := 999) (hx x (by simp))
                      have fy := Pwhole_eq (lo := 0) (hi := 999) (hx y (by simp))
                      have fz := Pwhole_eq (lo := 0) (hi := 999) (hx z (by simp))
                      have fu := hR2 n u (by omega) (hx u (by simp))
                      have g1 : ∀ env : DEnv, env.length = 4 → lcGo (bNm 3) yesT (C_is_box_to_1 R1 R2) env [c, x, y, z] = some [.bool (whB c 0 999), .bool (whB x 0 999), .bool (whB y 0 999), .bool (whB z 0 999)] := fun env he => by
                        have h1 : 3 < env.length := by omega
                        simp -implicitDefEqProofs [lcGo, C_is_box_to_1, h1, ew, fx, fy, fz]
                      have s4 : sml 4 = true := rfl
                      have cut' : cutL [PyData.str w, nm, c, x, y, z, u] (some 2) (some 6) = [c, x, y, z] := cut
                      subst w4
                      generalize hXS : [PyData.str "rim", nm, c, x, y, z, u] = XS at *
                      cases h1 : whB c 0 999 <;> cases h2 : whB x 0 999 <;> cases h3' : whB y 0 999 <;> cases h4 : whB z 0 999 <;> simp only [h1, h2, h3', h4] at g1 <;> simp -implicitDefEqProofs [D_is_box_to, startE, isiD, h0, h3, hln, i0, i1, i6, pnm, e1, e2, e3, e4, cut', s4, g1, fu, riR, h1, h2, h3', h4]
                    | [], hl, hx, _ =>
                      subst w4
                      generalize hXS : [PyData.str "rim", nm, c] = XS at *
                      simp -implicitDefEqProofs [D_is_box_to, startE, isiD, h0, h3, hln, i0, i1, pnm, e1, e2, e3, e4, riR]
                    | [x], hl, hx, _ =>
                      subst w4
                      generalize hXS : [PyData.str "rim", nm, c, x] = XS at *
                      simp -implicitDefEqProofs [D_is_box_to, startE, isiD, h0, h3, hln, i0, i1, pnm, e1, e2, e3, e4, riR]
                    | [x, y], hl, hx, _ =>
                      subst w4
                      generalize hXS : [PyData.str "rim", nm, c, x, y] = XS at *
                      simp -implicitDefEqProofs [D_is_box_to, startE, isiD, h0, h3, hln, i0, i1, pnm, e1, e2, e3, e4, riR]
                    | [x, y, z], hl, hx, _ =>
                      subst w4
                      generalize hXS : [PyData.str "rim", nm, c, x, y, z] = XS at *
                      simp -implicitDefEqProofs [D_is_box_to, startE, isiD, h0, h3, hln, i0, i1, pnm, e1, e2, e3, e4, riR]
                    | x :: y :: z :: u :: v :: r, hl, hx, _ =>
                      subst w4
                      have h4 : ¬ (((PyData.str "rim" :: nm :: c :: x :: y :: z :: u :: v :: r).length : Int) = 7) := by simp only [List.length_cons]; omega
                      have h4' : ¬ ((PyData.str "rim" :: nm :: c :: x :: y :: z :: u :: v :: r).length = 7) := by simp only [List.length_cons]; omega
                      generalize hXS : PyData.str "rim" :: nm :: c :: x :: y :: z :: u :: v :: r = XS at *
                      simp -implicitDefEqProofs [D_is_box_to, startE, isiD, h0, h3, h4, h4', i0, i1, pnm, e1, e2, e3, e4, riR]
                  · have d1 : shR f w (c :: r) = false := by unfold shR; rw [if_neg w1, if_neg w2, if_neg w3, if_neg w4]
                    rw [d1]
                    simp only [w4, decide_false] at e4
                    generalize hXS : PyData.str w :: nm :: c :: r = XS at *
                    simp -implicitDefEqProofs [D_is_box_to, startE, isiD, h0, h3, i0, i1, pnm, e1, e2, e3, e4]
        | dict _ => cases n <;> cases pa
        | _ =>
          show _ = some (PyData.bool false)
          generalize hXS : _ :: nm :: c :: r = XS at *
          simp -implicitDefEqProofs [D_is_box_to, startE, isiD, h0, h3, i0]
  | _ => simp -implicitDefEqProofs [D_is_box_to, startE, isiD, h0, shS]

theorem Pbox_eq {b : Bool} {L N : Nat} (hL : L ≤ 10000) : ∀ (k m n : Nat) (d : D), 2 * k + 1 ≤ m → n ≤ N → pl b L n d = true → M_is_box_to m [d, .int (k : Int)] = some (.bool (shB k d)) := by
  intro k
  induction k with
  | zero =>
    intro m n d hm hn h
    obtain ⟨m, rfl⟩ : ∃ j, m = j + 1 := ⟨m - 1, by omega⟩
    have e : M_is_box_to (m + 1) = runF 4 (D_is_box_to (M_are_boxes m) (M_is_box_to m)) := rfl
    rw [e]
    show _ = some (PyData.bool false)
    simp -implicitDefEqProofs [D_is_box_to, startE]
  | succ k ih =>
    intro m n d hm hn h
    obtain ⟨m, rfl⟩ : ∃ j, m = j + 2 := ⟨m - 2, by omega⟩
    have e : M_is_box_to (m + 2) = runF 4 (D_is_box_to (M_are_boxes (m + 1)) (M_is_box_to (m + 1))) := rfl
    rw [e]
    refine Pbox_step (N := N) (shB k) k hL (fun many n' d' hn' h' => ?_) (fun n' d' hn' h' => ih (m + 1) n' d' (by omega) hn' h') hn h
    have e2 : M_are_boxes (m + 1) = runF 4 (D_are_boxes (M_are_boxes m) (M_is_box_to m)) := rfl
    rw [e2]
    exact Pare_step (N := N) (shB k) many k hL (fun n'' d'' hn'' h'' => ih m n'' d'' (by omega) hn'' h'') hn' h'
/-! the law's -/
def szD : List (D × D) := [(.str "leaf", .int 4), (.str "row", .int 4), (.str "col", .int 4), (.str "pile", .int 3), (.str "rim", .int 7)]
theorem sz_eq : mergeKD [] [(.inr "leaf", .int 4), (.inr "row", .int 4), (.inr "col", .int 4), (.inr "pile", .int 3), (.inr "rim", .int 7)] = szD := by
  rfl
theorem look_sz {w : Str} (h1 : ¬ w = "leaf") (h2 : ¬ w = "row") (h3 : ¬ w = "col") (h4 : ¬ w = "pile") (h5 : ¬ w = "rim") : lookK szD (.inr w) = none := by
  have q : ∀ z : Str, ¬ w = z → decide (asKey (.str z) = some (Sum.inr w)) = false := fun z h => by
    refine decide_eq_false fun e => ?_
    have e' : (some (Sum.inr z) : Option Key) = some (Sum.inr w) := e
    cases e'
    exact h rfl
  unfold lookK szD
  simp only [List.find?_cons, q _ h1, q _ h2, q _ h3, q _ h4, q _ h5, List.find?_nil]
  rfl
/-! names of what is a box by shape -/
def insD : D → List D
  | .tuple [.str w, _, a] => match a with
    | .tuple xs => xs
    | _ => []
  | .tuple [.str w, _, _, a] => if w = "leaf" then [] else match a with
    | .tuple xs => xs
    | _ => []
  | .tuple [_, _, _, _, _, _, a] => [a]
  | _ => []
def nmOf : D → Str
  | .tuple (_ :: .str x :: _) => x
  | _ => ""
def nmD : Nat → D → List Str
  | 0, _ => []
  | n + 1, d => nmOf d :: (insD d).flatMap (nmD n)
theorem name_str {d : D} (h : nameB d = true) : ∃ x : Str, d = .str x := by
  cases d with
  | str x => exact ⟨x, rfl⟩
  | _ => cases h
theorem bsB_tup {f : D → Bool} {m : Nat} {d : D} (h : bsB f m d = true) : ∃ xs : List D, d = .tuple xs ∧ 1 ≤ xs.length ∧ xs.length ≤ m ∧ ∀ y ∈ xs, f y = true := by
  cases d with
  | tuple xs =>
    have h' : (decide (1 ≤ xs.length ∧ xs.length ≤ m) && xs.all f) = true := h
    rw [Bool.and_eq_true, decide_eq_true_eq, List.all_eq_true] at h'
    exact ⟨xs, rfl, h'.1.1, h'.1.2, h'.2⟩
  | _ => cases h
theorem shS_cases {f : D → Bool} {d : D} (h : shS f d = true) : ∃ x : Str, nameB (.str x) = true ∧ ((∃ a b, d = .tuple [.str "leaf", .str x, a, b]) ∨ (∃ c g xs, d = .tuple [.str (kindS c), .str x, g, .tuple xs] ∧ xs.length ≤ 4 ∧ ∀ y ∈ xs, f y = true)
    ∨ (∃ xs, d = .tuple [.str "pile", .str x, .tuple xs] ∧ xs.length ≤ 4 ∧ ∀ y ∈ xs, f y = true) ∨ (∃ a b c e y, d = .tuple [.str "rim", .str x, a, b, c, e, y] ∧ f y = true)) := by
  unfold shS at h
  split at h
  · rename_i w nm r
    rw [Bool.and_eq_true] at h
    obtain ⟨h1, h2⟩ := h
    obtain ⟨x, rfl⟩ := name_str h1
    refine ⟨x, h1, ?_⟩
    unfold shR at h2
    split at h2
    · rename_i hw
      subst hw
      unfold leR at h2
      split at h2
      · exact .inl ⟨_, _, rfl⟩
      · cases h2
    · split at h2
      · rename_i hw
        unfold liR at h2
        split at h2
        · rename_i g bs
          rw [Bool.and_eq_true] at h2
          obtain ⟨xs, rfl, _, h4, h5⟩ := bsB_tup h2.2
          refine .inr (.inl ?_)
          rcases hw with rfl | rfl
          · exact ⟨false, g, xs, rfl, h4, h5⟩
          · exact ⟨true, g, xs, rfl, h4, h5⟩
        · cases h2
      · split at h2
        · rename_i hw
          subst hw
          unfold piR at h2
          split at h2
          · obtain ⟨xs, rfl, _, h4, h5⟩ := bsB_tup h2
            exact .inr (.inr (.inl ⟨xs, rfl, by omega, h5⟩))
          · cases h2
        · split at h2
          · rename_i hw
            subst hw
            unfold riR at h2
            split at h2
            · rw [Bool.and_eq_true] at h2
              exact .inr (.inr (.inr ⟨_, _, _, _, _, rfl, h2.2⟩))
            · cases h2
          · cases h2
  · cases h
/-- what is in it, and its name -/
theorem shS_parts {f : D → Bool} {d : D} (h : shS f d = true) : M_boxes_in [d] = some (.tuple (insD d)) ∧ M_Lin [d] = some (.tuple (insD d)) ∧ ixD d (.int 1) = some (.str (nmOf d)) ∧ nameB (.str (nmOf d)) = true ∧ (insD d).length ≤ 4 ∧ ∀ y ∈ insD d, f y = true := by
  obtain ⟨x, hx, h⟩ := shS_cases h
  rcases h with ⟨a, b, rfl⟩ | ⟨c, g, xs, rfl, hl, hf⟩ | ⟨xs, rfl, hl, hf⟩ | ⟨a, b, c, e, y, rfl, hf⟩
  · have i0 : atI [PyData.str "leaf", .str x, a, b] 0 = some (.str "leaf") := rfl
    have e0 : insD (.tuple [.str "leaf", .str x, a, b]) = [] := by simp [insD]
    rw [e0]
    refine ⟨?_, ?_, rfl, hx, by simp, fun y hy => by cases hy⟩
    · simp -implicitDefEqProofs [M_boxes_in, D_boxes_in, startE, i0]
    · simp -implicitDefEqProofs [M_Lin, D_Lin, startE, i0]
  · have i0 : atI [PyData.str (kindS c), .str x, g, .tuple xs] 0 = some (.str (kindS c)) := rfl
    have i3 : atI [PyData.str (kindS c), .str x, g, .tuple xs] (-1) = some (.tuple xs) := rfl
    have i3' : atI [PyData.str (kindS c), .str x, g, .tuple xs] 3 = some (.tuple xs) := rfl
    have hk : ¬ kindS c = "leaf" := by cases c <;> decide +kernel
    have e0 : insD (.tuple [.str (kindS c), .str x, g, .tuple xs]) = xs := if_neg hk
    have e1 : eqD (.str (kindS c)) (.str "leaf") = some (.bool false) := by cases c <;> simp [kindS]
    have e2 : eqD (.str (kindS c)) (.str "rim") = some (.bool false) := by cases c <;> simp [kindS]
    rw [e0]
    refine ⟨?_, ?_, rfl, hx, hl, hf⟩
    · simp -implicitDefEqProofs [M_boxes_in, D_boxes_in, startE, i0, e1, e2, i3]
    · have z0 : ∀ q : D, atI [PyData.tuple xs, q] 0 = some (.tuple xs) := fun _ => rfl
      simp -implicitDefEqProofs [M_Lin, D_Lin, startE, i0, e1, e2, i3', z0]
  · have i0 : atI [PyData.str "pile", .str x, .tuple xs] 0 = some (.str "pile") := rfl
    have i3 : atI [PyData.str "pile", .str x, .tuple xs] (-1) = some (.tuple xs) := rfl
    have i3' : atI [PyData.str "pile", .str x, .tuple xs] 2 = some (.tuple xs) := rfl
    have e0 : insD (.tuple [.str "pile", .str x, .tuple xs]) = xs := rfl
    rw [e0]
    refine ⟨?_, ?_, rfl, hx, hl, hf⟩
    · simp -implicitDefEqProofs [M_boxes_in, D_boxes_in, startE, i0, i3]
    · have z0 : ∀ q : D, atI [PyData.tuple xs, q] 0 = some (.tuple xs) := fun _ => rfl
      simp -implicitDefEqProofs [M_Lin, D_Lin, startE, i0, i3', z0]
  · have i0 : atI [PyData.str "rim", .str x, a, b, c, e, y] 0 = some (.str "rim") := rfl
    have i6 : atI [PyData.str "rim", .str x, a, b, c, e, y] 6 = some y := rfl
    have c6 : cutL [PyData.str "rim", .str x, a, b, c, e, y] (some 6) none = [y] := rfl
    have e0 : insD (.tuple [.str "rim", .str x, a, b, c, e, y]) = [y] := rfl
    rw [e0]
    refine ⟨?_, ?_, rfl, hx, by simp, fun z hz => ?_⟩
    · simp -implicitDefEqProofs [M_boxes_in, D_boxes_in, startE, i0, i6]
    · have z0 : ∀ q : D, atI [q, PyData.tuple [y]] 1 = some (.tuple [y]) := fun _ => rfl
      simp -implicitDefEqProofs [M_Lin, D_Lin, startE, i0, i6, c6, z0]
    · rw [List.mem_singleton.mp hz]; exact hf
def cpD : Nat → Nat
  | 0 => 0
  | n + 1 => 1 + 4 * cpD n
theorem cpD_le {n : Nat} (h : n ≤ 5) : cpD n ≤ 400 := by
  match n, h with
  | 0, _ => decide
  | 1, _ => decide
  | 2, _ => decide
  | 3, _ => decide
  | 4, _ => decide
  | 5, _ => decide
theorem flat_leD {α β : Type} {k : Nat} {f : α → List β} : ∀ (xs : List α), (∀ x ∈ xs, (f x).length ≤ k) → (xs.flatMap f).length ≤ k * xs.length
  | [], _ => by simp
  | x :: xs, h => by
    have h1 := h x List.mem_cons_self
    have h2 := flat_leD xs fun y hy => h y (List.mem_cons_of_mem _ hy)
    rw [List.flatMap_cons, List.length_append, List.length_cons, Nat.mul_succ]
    omega
theorem nmD_ok : ∀ (n : Nat) (d : D), shB n d = true → (nmD n d).length ≤ cpD n ∧ ∀ x ∈ nmD n d, nameB (.str x) = true
  | 0, d, h => by cases h
  | n + 1, d, h => by
    obtain ⟨_, _, _, h3, h4, h5⟩ := shS_parts (f := shB n) h
    have q := fun y hy => nmD_ok n y (h5 y hy)
    constructor
    · show ((nmOf d :: (insD d).flatMap (nmD n)).length) ≤ 1 + 4 * cpD n
      rw [List.length_cons]
      have h1 := flat_leD (k := cpD n) (insD d) fun x hx => (q x hx).1
      have h2 : cpD n * (insD d).length ≤ cpD n * 4 := Nat.mul_le_mul_left _ h4
      omega
    · intro x hx
      have hx' : x ∈ nmOf d :: (insD d).flatMap (nmD n) := hx
      rcases List.mem_cons.mp hx' with rfl | hx'
      · exact h3
      · obtain ⟨y, hy, hx'⟩ := List.mem_flatMap.mp hx'
        exact (q y hy).2 x hx'
theorem namesD1 {n : Nat} {B : FS} (R : List D → Option D) (hB : B = sAsg 1 (c2 addD (vr 1) (cA R (consA (vr 2) nilA)))) {s0 : Option Sl} {k : Nat} (P : D → Prop) (hR : ∀ p, P p → R [p] = some (.tuple ((nmD n p).map PyData.str)) ∧ (nmD n p).length ≤ k) :
    ∀ (ps : List D) (acc : List Str) (x : Option Sl), (∀ p ∈ ps, P p) → acc.length + k * ps.length ≤ 100000 → ∃ x', forD (bNm 2) B ps [s0, some (.sh (.tuple (acc.map PyData.str))), x] = some (.nx [s0, some (.sh (.tuple ((acc ++ ps.flatMap (nmD n)).map PyData.str))), x'])
  | [], acc, x, _, _ => ⟨x, by rw [forD_n, List.flatMap_nil, List.append_nil]⟩
  | p :: ps, acc, x, h, hl => by
    obtain ⟨r, hk⟩ := hR p (h p List.mem_cons_self)
    rw [List.length_cons, Nat.mul_succ] at hl
    obtain ⟨x', hh⟩ := namesD1 R hB (s0 := s0) (k := k) P hR ps (acc ++ nmD n p) (some (.sh p)) (fun y q => h y (List.mem_cons_of_mem _ q)) (by rw [List.length_append]; omega)
    refine ⟨x', ?_⟩
    rw [List.flatMap_cons, ← List.append_assoc, ← hh, forD_c]
    have a : addD (.tuple (acc.map PyData.str)) (.tuple ((nmD n p).map PyData.str)) = some (.tuple ((acc ++ nmD n p).map PyData.str)) := by
      rw [List.map_append]
      exact add_t (by rw [List.length_map, List.length_map]; omega)
    generalize (acc ++ nmD n p).map PyData.str = AW at *
    generalize (nmD n p).map PyData.str = WP at *
    generalize acc.map PyData.str = AC at *
    subst hB
    simp -implicitDefEqProofs [r, a]
theorem Pnames_eq : ∀ (n m : Nat) (d : D), n ≤ m → n ≤ 5 → shB n d = true → M_names_in m [d] = some (.tuple ((nmD n d).map PyData.str)) := by
  intro n
  induction n with
  | zero => intro m d _ _ h; cases h
  | succ n ih =>
    intro m d hm hn h
    obtain ⟨m, rfl⟩ : ∃ j, m = j + 1 := ⟨m - 1, by omega⟩
    have hM : M_names_in (m + 1) = runF 3 (D_names_in (M_names_in m)) := rfl
    rw [hM]
    obtain ⟨bi, _, i1, _, h4, h5⟩ := shS_parts (f := shB n) h
    have cp := cpD_le (show n ≤ 5 by omega)
    have hl : cpD n * (insD d).length ≤ cpD n * 4 := Nat.mul_le_mul_left _ h4
    obtain ⟨x', lp⟩ := namesD1 (n := n) (B := B_names_in_1 (M_names_in m)) (M_names_in m) rfl (s0 := some (.sh d)) (k := cpD n) (fun p => shB n p = true) (fun p hp => ⟨ih m p (by omega) (by omega) hp, (nmD_ok n p hp).1⟩) (insD d) [nmOf d] none h5 (by simp; omega)
    rw [List.singleton_append] at lp
    have e : nmD (n + 1) d = nmOf d :: (insD d).flatMap (nmD n) := rfl
    have l1 : [nmOf d].map PyData.str = [.str (nmOf d)] := rfl
    rw [e]
    rw [l1] at lp
    generalize (nmOf d :: (insD d).flatMap (nmD n)).map PyData.str = W at *
    generalize insD d = PB at *
    generalize nmOf d = nd at *
    simp -implicitDefEqProofs [D_names_in, startE, i1, bi, lp]
theorem Lnames_eq : ∀ (n m : Nat) (d : D), n ≤ m → n ≤ 5 → shB n d = true → M_Lnames m [d] = some (.tuple ((nmD n d).map PyData.str)) := by
  intro n
  induction n with
  | zero => intro m d _ _ h; cases h
  | succ n ih =>
    intro m d hm hn h
    obtain ⟨m, rfl⟩ : ∃ j, m = j + 1 := ⟨m - 1, by omega⟩
    have hM : M_Lnames (m + 1) = runF 3 (D_Lnames (M_Lnames m)) := rfl
    rw [hM]
    obtain ⟨_, bi, i1, _, h4, h5⟩ := shS_parts (f := shB n) h
    have cp := cpD_le (show n ≤ 5 by omega)
    have hl : cpD n * (insD d).length ≤ cpD n * 4 := Nat.mul_le_mul_left _ h4
    obtain ⟨x', lp⟩ := namesD1 (n := n) (B := B_Lnames_1 (M_Lnames m)) (M_Lnames m) rfl (s0 := some (.sh d)) (k := cpD n) (fun p => shB n p = true) (fun p hp => ⟨ih m p (by omega) (by omega) hp, (nmD_ok n p hp).1⟩) (insD d) [nmOf d] none h5 (by simp; omega)
    rw [List.singleton_append] at lp
    have e : nmD (n + 1) d = nmOf d :: (insD d).flatMap (nmD n) := rfl
    have l1 : [nmOf d].map PyData.str = [.str (nmOf d)] := rfl
    rw [e]
    rw [l1] at lp
    generalize (nmOf d :: (insD d).flatMap (nmD n)).map PyData.str = W at *
    generalize insD d = PB at *
    generalize nmOf d = nd at *
    simp -implicitDefEqProofs [D_Lnames, startE, i1, bi, lp]
def boxB (d : D) : Bool := shB 4 d && ((TX.metT (nmD 4 d)).length == (nmD 4 d).length)
theorem len_strs (ys : List Str) : lenD (.tuple (ys.map PyData.str)) = some (.int (ys.length : Int)) := by
  rw [e_lenT, List.length_map]
theorem Pisbox_eq {b : Bool} {L n : Nat} {d : D} (hL : L ≤ 10000) (h : pl b L n d = true) : M_is_box [d] = some (.bool (boxB d)) := by
  have h1 := Pbox_eq (N := n) hL 4 12 n d (by decide) (Nat.le_refl _) h
  rw [show ((4 : Nat) : Int) = 4 from rfl] at h1
  unfold boxB
  cases hs : shB 4 d with
  | false =>
    rw [hs] at h1
    simp -implicitDefEqProofs [M_is_box, D_is_box, startE, h1]
  | true =>
    rw [hs] at h1
    have h2 := Pnames_eq 4 12 d (by decide) (by decide) hs
    have h3 := e_lensetT (ys := nmD 4 d) (by have := (nmD_ok 4 d hs).1; have := cpD_le (n := 4) (by decide); omega)
    have h4 := len_strs (nmD 4 d)
    generalize (nmD 4 d).map PyData.str = NS at *
    generalize (nmD 4 d).length = a at *
    generalize (TX.metT (nmD 4 d)).length = c at *
    have hc : ((c : Int) == (a : Int)) = (c == a) := by
      by_cases q : c = a
      · subst q; rw [beq_self_eq_true, beq_self_eq_true]
      · have : ¬ (c : Int) = (a : Int) := by omega
        rw [beq_eq_false_iff_ne.mpr this, beq_eq_false_iff_ne.mpr q]
    simp -implicitDefEqProofs [M_is_box, D_is_box, startE, h1, h2, h3, h4, hc, -e_lenT]
/-! made boxes -/
theorem span_sp {s : Spn} (h : s.Ok) (h2 : s.Sm) : spanB (spD s) = true := by
  have a := h.lo0
  have b := h.low
  have c := h2.wi
  have d := h.gr0
  have e := h.sh0
  have f := h2.gr
  have g := h2.sh
  show (whB (.int s.lo) 0 999 && whB (.int s.wi) s.lo 999 && whB (.int s.gr) 0 9 && whB (.int s.sh) 0 9 && moB (optD s.mo) s.wi) = true
  have w : ∀ i lo hi : Int, lo ≤ i → i ≤ hi → whB (.int i) lo hi = true := fun i lo hi h1 h2 => by
    show (decide (lo ≤ i) && decide (i ≤ hi)) = true
    rw [decide_eq_true h1, decide_eq_true h2]; rfl
  have m : moB (optD s.mo) s.wi = true := by
    cases hm : s.mo with
    | none => rfl
    | some m => exact w m s.wi 999 (h.top m hm) (h2.mo m hm)
  rw [w _ _ _ a (by omega), w _ _ _ b c, w _ _ _ d f, w _ _ _ e g, m]
  rfl
theorem wh_int {i : Int} (h0 : 0 ≤ i) (h1 : i ≤ 999) : whB (.int i) 0 999 = true := by
  show (decide (0 ≤ i) && decide (i ≤ 999)) = true
  rw [decide_eq_true h0, decide_eq_true h1]; rfl
def lowS (nm : Str) : Bool := nm.cps.toList.all lwB
theorem low_ch {nm : Str} {k : Nat} (h : lowS nm = true) (hk : k < 4) : lowS (nm ++ chS k) = true := by
  show ((nm.cps ++ #[97 + k]).toList.all lwB) = true
  rw [Array.toList_append, List.all_append]
  have h1 : nm.cps.toList.all lwB = true := h
  rw [h1]
  have : lwB (97 + k) = true := decide_eq_true ⟨by omega, by omega⟩
  simp [this]
theorem name_low {nm : Str} (h : lowS nm = true) (h1 : 1 ≤ nm.length) (h2 : nm.length ≤ 4) : nameB (.str nm) = true := by
  show (decide (1 ≤ nm.length ∧ nm.length ≤ 4) && nm.cps.toList.all lwB) = true
  rw [decide_eq_true ⟨h1, h2⟩]
  exact h
theorem bs_of {f : D → Bool} {m : Nat} {xs : List D} (h1 : 1 ≤ xs.length) (h2 : xs.length ≤ m) (h3 : ∀ x ∈ xs, f x = true) : bsB f m (.tuple xs) = true := by
  show (decide (1 ≤ xs.length ∧ xs.length ≤ m) && xs.all f) = true
  rw [decide_eq_true ⟨h1, h2⟩, List.all_eq_true.mpr h3]
  rfl
theorem made_sh : ∀ (n : Nat) (nm : Str) (b : Bx n), Made n nm b → lowS nm = true → 1 ≤ nm.length → nm.length + n ≤ 5 → shB n (bxD n b) = true
  | 0, _, b, _, _, _, _ => nomatch b
  | n + 1, nm, b, h, hlow, h1, h2 => by
    have hnm := name_low hlow h1 (by omega)
    have mem : ∀ {ps : List (Bx n)}, ps.length ≤ 4 → (∀ k p, ps[k]? = some p → Made n (nm ++ chS k) p) → ∀ x ∈ ps.map (bxD n), shB n x = true := fun {ps} hl hp x hx => by
      obtain ⟨p, hm, rfl⟩ := List.mem_map.mp hx
      obtain ⟨k, hk⟩ := List.getElem?_of_mem hm
      have : k < ps.length := (List.getElem?_eq_some_iff.mp hk).1
      exact made_sh n _ p (hp k p hk) (low_ch hlow (by omega)) (by rw [len_ch]; omega) (by rw [len_ch]; omega)
    show shS (shB n) (bxD (n + 1) b) = true
    match (b : BxF (Bx n)), h with
    | .leaf nm' w h', h =>
      obtain ⟨rfl, a, b, c, d⟩ := h
      show (nameB (.str nm') && shR (shB n) "leaf" [spD w, spD h']) = true
      rw [hnm]
      have : shR (shB n) "leaf" [spD w, spD h'] = (spanB (spD w) && spanB (spD h')) := if_pos rfl
      rw [this, span_sp a b, span_sp c d]
      rfl
    | .line c nm' g ps, h =>
      obtain ⟨rfl, a1, a2, a3, a4, a5⟩ := h
      show (nameB (.str nm') && shR (shB n) (kindS c) [.int g, .tuple (ps.map (bxD n))]) = true
      rw [hnm]
      have k1 : ¬ kindS c = "leaf" := by cases c <;> decide +kernel
      have k2 : kindS c = "row" ∨ kindS c = "col" := by cases c
                                                        · exact .inl rfl
                                                        · exact .inr rfl
      have : shR (shB n) (kindS c) [.int g, .tuple (ps.map (bxD n))] = (whB (.int g) 0 999 && bsB (shB n) 4 (.tuple (ps.map (bxD n)))) := by
        unfold shR
        rw [if_neg k1, if_pos k2]
        rfl
      rw [this, wh_int a1 (by omega), bs_of (by simpa using a3) (by simpa using a4) (mem a4 a5)]
      rfl
    | .pile nm' ps, h =>
      obtain ⟨rfl, a3, a4, a5⟩ := h
      show (nameB (.str nm') && shR (shB n) "pile" [.tuple (ps.map (bxD n))]) = true
      rw [hnm]
      have : shR (shB n) "pile" [.tuple (ps.map (bxD n))] = bsB (shB n) 3 (.tuple (ps.map (bxD n))) := by
        unfold shR
        rw [if_neg (by decide +kernel), if_neg (by decide +kernel), if_pos rfl]
        rfl
      rw [this, bs_of (by simpa using a3) (by simpa using a4) (mem (by omega) a5)]
      rfl
    | .rim nm' a b c d p, h =>
      obtain ⟨rfl, h3, h4, h5, h6, h7⟩ := h
      show (nameB (.str nm') && shR (shB n) "rim" [.int a, .int b, .int c, .int d, bxD n p]) = true
      rw [hnm]
      have : shR (shB n) "rim" [.int a, .int b, .int c, .int d, bxD n p] = ((whB (.int a) 0 999 && whB (.int b) 0 999 && whB (.int c) 0 999 && whB (.int d) 0 999) && shB n (bxD n p)) := by
        unfold shR
        rw [if_neg (by decide +kernel), if_neg (by decide +kernel), if_neg (by decide +kernel), if_pos rfl]
        rfl
      rw [this, wh_int h3.1 (by omega), wh_int h4.1 (by omega), wh_int h5.1 (by omega), wh_int h6.1 (by omega), made_sh n _ p h7 (low_ch hlow (by decide)) (by rw [len_ch]; omega) (by rw [len_ch]; omega)]
      rfl
theorem strOk_chD {nm : Str} {k : Nat} (h : PyData.strOk nm = true) (hk : k < 4) : PyData.strOk (nm ++ chS k) = true := by
  show (nm.cps ++ #[97 + k]).all (· < 0x110000) = true
  rw [Array.all_append]
  have h1 : nm.cps.all (· < 0x110000) = true := h
  rw [h1]
  have : 97 + k < 0x110000 := by omega
  simp [this]
theorem pl_sp {s : Spn} (h : s.Ok) (h2 : s.Sm) : pl false 5 1 (spD s) = true := by
  have a := h.lo0
  have b := h.low
  have c := h2.wi
  have d := h.gr0
  have e := h.sh0
  have f := h2.gr
  have g := h2.sh
  refine pl_tup.mpr ⟨by simp, fun x hx => ?_⟩
  simp only [List.mem_cons, List.not_mem_nil, or_false] at hx
  rcases hx with rfl | rfl | rfl | rfl | rfl
  · exact pl_int.mpr (by omega)
  · exact pl_int.mpr (by omega)
  · cases hm : s.mo with
    | none => rfl
    | some m =>
      have h3 := h2.mo m hm
      have h4 := h.top m hm
      exact pl_int.mpr (by omega)
  · exact pl_int.mpr (by omega)
  · exact pl_int.mpr (by omega)
theorem made_pl : ∀ (n : Nat) (nm : Str) (b : Bx n), Made n nm b → PyData.strOk nm = true → nm.length + n ≤ 1000 → pl false 7 (2 * n) (bxD n b) = true
  | 0, _, b, _, _, _ => nomatch b
  | n + 1, nm, b, h, hok, h2 => by
    have mem : ∀ {ps : List (Bx n)}, ps.length ≤ 4 → (∀ k p, ps[k]? = some p → Made n (nm ++ chS k) p) → pl false 7 (2 * n + 1) (.tuple (ps.map (bxD n))) = true := fun {ps} hl hp => by
      refine pl_tup.mpr ⟨by rw [List.length_map]; omega, fun x hx => ?_⟩
      obtain ⟨p, hm, rfl⟩ := List.mem_map.mp hx
      obtain ⟨k, hk⟩ := List.getElem?_of_mem hm
      have : k < ps.length := (List.getElem?_eq_some_iff.mp hk).1
      exact made_pl n _ p (hp k p hk) (strOk_chD hok (by omega)) (by rw [len_ch]; omega)
    have hst : ∀ {z : Str}, PyData.strOk z = true → z.length ≤ 1000 → pl false 7 (2 * n + 1) (.str z) = true := fun h h' => pl_str.mpr ⟨h, h'⟩
    have hint : ∀ {i : Int}, 0 ≤ i → i ≤ 999 → pl false 7 (2 * n + 1) (.int i) = true := fun h h' => pl_int.mpr (by omega)
    have k2 : 2 * (n + 1) = 2 * n + 1 + 1 := by omega
    rw [k2]
    match (b : BxF (Bx n)), h with
    | .leaf nm' w h', h =>
      obtain ⟨rfl, a, b, c, d⟩ := h
      refine pl_tup.mpr ⟨by simp, fun x hx => ?_⟩
      simp only [List.mem_cons, List.not_mem_nil, or_false] at hx
      rcases hx with rfl | rfl | rfl | rfl
      · exact hst ok_leaf (by decide +kernel)
      · exact hst hok (by omega)
      · exact pl_mono (fun h => h) (by omega) 1 _ _ (by omega) (pl_sp a b)
      · exact pl_mono (fun h => h) (by omega) 1 _ _ (by omega) (pl_sp c d)
    | .line c nm' g ps, h =>
      obtain ⟨rfl, a1, a2, a3, a4, a5⟩ := h
      refine pl_tup.mpr ⟨by simp, fun x hx => ?_⟩
      simp only [List.mem_cons, List.not_mem_nil, or_false] at hx
      rcases hx with rfl | rfl | rfl | rfl
      · cases c
        · exact hst ok_row (by decide +kernel)
        · exact hst ok_col (by decide +kernel)
      · exact hst hok (by omega)
      · exact hint a1 (by omega)
      · exact mem a4 a5
    | .pile nm' ps, h =>
      obtain ⟨rfl, a3, a4, a5⟩ := h
      refine pl_tup.mpr ⟨by simp, fun x hx => ?_⟩
      simp only [List.mem_cons, List.not_mem_nil, or_false] at hx
      rcases hx with rfl | rfl | rfl
      · exact hst ok_pile (by decide +kernel)
      · exact hst hok (by omega)
      · exact mem (by omega) a5
    | .rim nm' a b c d p, h =>
      obtain ⟨rfl, h3, h4, h5, h6, h7⟩ := h
      refine pl_tup.mpr ⟨by simp, fun x hx => ?_⟩
      simp only [List.mem_cons, List.not_mem_nil, or_false] at hx
      rcases hx with rfl | rfl | rfl | rfl | rfl | rfl | rfl
      · exact hst ok_rim (by decide +kernel)
      · exact hst hok (by omega)
      · exact hint h3.1 (by omega)
      · exact hint h4.1 (by omega)
      · exact hint h5.1 (by omega)
      · exact hint h6.1 (by omega)
      · exact pl_mono (fun h => h) (by omega) (2 * n) _ _ (by omega) (made_pl n _ p h7 (strOk_chD hok (by decide)) (by rw [len_ch]; omega))

theorem nm_a : ("a" : Str).length = 1 := by decide +kernel
theorem nm_x : ("x" : Str).length = 1 := by decide +kernel

/-! the reader's words and numbers -/
theorem Rword_ok (ws : List D) (n : Nat) (w : D) (h : ws[n]? = some w) (hl : ws.length ≤ 100000) : M_Rword ws (n : Int) [] = some (some (w, (n : Int) + 1)) := by
  refine runM_eq fun r => ?_
  have hn : n < ws.length := (List.getElem?_eq_some_iff.mp h).1
  have hs : sml ws.length = true := sml_of hl
  have e1 : ((n : Int) + 1) - 1 = (n : Int) := by omega
  have e2 : eqD (.int (n : Int)) (.int (ws.length : Int)) = some (.bool false) := by
    have : ¬ ((n : Int) = (ws.length : Int)) := by omega
    simp [this]
  have hx : atI ws (n : Int) = some w := atI_of h
  have ha : ∀ (L : LamT) (e : DEnv), (c2 addD (atE 0) (cst (.int 1))) (some (.fn L (n : Int)) :: e) = some (.int ((n : Int) + 1)) := fun _ _ => rfl
  rw [runA_eq]
  simp -implicitDefEqProofs [D_Rword, startE, hs, e2, e_sAt noFn_nil (ha _ _), hx, e1]
theorem Rword_no (ws : List D) (hl : ws.length ≤ 100000) : M_Rword ws (ws.length : Int) [] = some none := by
  refine runM_eq fun r => ?_
  have hs : sml ws.length = true := sml_of hl
  rw [runA_eq]
  simp -implicitDefEqProofs [D_Rword, startE, hs]

/-! a number's word -/
def dgB (c : Nat) : Bool := decide (48 ≤ c ∧ c ≤ 57)
def figB (w : Str) : Bool := decide (1 ≤ w.length ∧ w.length ≤ 3) && w.cps.toList.all dgB
theorem in_fig (c : Nat) : inStr ⟨#[c]⟩ "0123456789" = dgB c := by
  have h := PySem.StrLaws.found_one "0123456789" c
  unfold inStr
  rw [h]
  unfold dgB
  have e : (Str.ofString "0123456789").cps.toList = List.range' 48 10 := by decide +kernel
  rw [e]
  congr 1
  rw [List.mem_range'_1]
  exact propext ⟨fun q => by omega, fun q => by omega⟩
noncomputable def numW (w : Str) : Option D := if (w == "-") = true then some .none else if figB w = true then (PySem.intText? w).map PyData.int else none
theorem Rnumber_no (ws : List D) (hl : ws.length ≤ 100000) : M_Rnumber ws (ws.length : Int) [] = some none := by
  refine runM_eq fun r => ?_
  have hm := Rword_no ws hl
  have m1 : ∀ (L : LamT) (n : Int) (e : DEnv), nilA (some (.fn L n) :: e) = some [] := fun _ _ _ => rfl
  have mt : ∀ L : LamT, L.ws = ws → mthX 0 1 M_Rword nilA [some (.fn L (ws.length : Int)), none, none] = some .exc := fun L hL => by
    rw [e_mthX (m := 1) rfl (m1 _ _ _) rfl, hL, hm]
    rfl
  rw [runA_eq]
  simp -implicitDefEqProofs [D_Rnumber, startE, mt]
theorem Rnumber_ok (ws : List D) (n : Nat) (w : Str) (h : ws[n]? = some (.str w)) (hw : PyData.strOk w = true) (hwl : w.length ≤ 1000) (hl : ws.length ≤ 100000) (hi : figB w = true → ∃ k, PySem.intText? w = some k) : M_Rnumber ws (n : Int) [] = some ((numW w).map fun d => (d, (n : Int) + 1)) := by
  refine runM_eq fun r => ?_
  have hm := Rword_ok ws n (.str w) h hl
  have m1 : ∀ (L : LamT) (n : Int) (e : DEnv), nilA (some (.fn L n) :: e) = some [] := fun _ _ _ => rfl
  have mt : ∀ L : LamT, L.ws = ws → mthX 0 1 M_Rword nilA [some (.fn L (n : Int)), none, none] = some (.val (.str w) [some (.fn L ((n : Int) + 1)), none, none]) := fun L hL => by
    rw [e_mthX (m := 1) rfl (m1 _ _ _) rfl, hL, hm]
    rfl
  have e : eqD (.str w) (.str "-") = some (.bool (w == "-")) := by
    rw [eq_ok (n := 0) (m := 0) (a := .str w) (b := .str "-") hw (by decide +kernel)]
    rfl
  have hs : sml w.length = true := sml_of (by omega)
  have hln : lenD (.str w) = some (.int w.length) := if_pos hs
  have hs' : sml w.cps.size = true := hs
  have it : itemsD (.str w) = some (w.cps.toList.map fun c => PyData.str ⟨#[c]⟩) := rfl
  have g : ∀ env : DEnv, env.length = 3 → lcGo (bNm 2) yesT C_Rnumber_1 env (w.cps.toList.map fun c => PyData.str ⟨#[c]⟩) = some (w.cps.toList.map fun c => PyData.bool (dgB c)) := fun env he => by
    refine lcGo_map (fun c => PyData.str ⟨#[c]⟩) (fun c => PyData.bool (dgB c)) _ fun c hc => ⟨_, rfl, ?_⟩
    have h1 : 2 < env.length := by omega
    have hin : inD (.str ⟨#[c]⟩) (.str "0123456789") = some (.bool (dgB c)) := by rw [← in_fig]; rfl
    simp -implicitDefEqProofs [C_Rnumber_1, h1, hin]
  have i0 : ∀ (L : LamT) (m : Int) (e : DEnv), isRd 0 (some (.fn L m) :: e) = true := fun _ _ _ => rfl
  rw [runA_eq]
  cases hd : (w == ("-" : Str)) with
  | true =>
    rw [hd] at e
    simp -implicitDefEqProofs [D_Rnumber, startE, mt, e, numW, hd]
  | false =>
    rw [hd] at e
    by_cases h2 : (1 : Int) ≤ (w.length : Int)
    · by_cases h3 : (w.length : Int) ≤ 3
      · have e3 : decide (1 ≤ w.length ∧ w.length ≤ 3) = true := decide_eq_true ⟨by omega, by omega⟩
        cases ha : w.cps.toList.all dgB with
        | true =>
          have hf : figB w = true := by unfold figB; rw [e3, ha]; rfl
          obtain ⟨k, hk⟩ := hi hf
          have hint : intSD (.str w) = some (.int k) := by
            show (if sml640 w.length = true then (PySem.intText? w).map PyData.int else none) = _
            have h640 : sml640 w.length = true := Nat.ble_eq_true_of_le (by omega)
            rw [if_pos h640, hk]
            rfl
          simp -implicitDefEqProofs [D_Rnumber, startE, mt, e, numW, hd, hln, h2, h3, it, g, hs', ha, hf, hint, hk]
        | false =>
          have hf : figB w = false := by unfold figB; rw [e3, ha]; rfl
          simp -implicitDefEqProofs [D_Rnumber, startE, mt, e, numW, hd, hln, h2, h3, it, g, hs', ha, hf]
      · have e3 : decide (1 ≤ w.length ∧ w.length ≤ 3) = false := decide_eq_false (by omega)
        have hf : figB w = false := by unfold figB; rw [e3]; rfl
        simp -implicitDefEqProofs [D_Rnumber, startE, mt, e, numW, hd, hln, h2, h3, hf]
    · have e3 : decide (1 ≤ w.length ∧ w.length ≤ 3) = false := decide_eq_false (by omega)
      have hf : figB w = false := by unfold figB; rw [e3]; rfl
      simp -implicitDefEqProofs [D_Rnumber, startE, mt, e, numW, hd, hln, h2, hf]

/-! numbers in a row -/
def goodW (w : Str) : Prop := PyData.strOk w = true ∧ w.length ≤ 1000
theorem fig_int {w : Str} (h : figB w = true) : ∃ k, PySem.intText? w = some k := by
  unfold figB at h
  rw [Bool.and_eq_true, decide_eq_true_eq] at h
  refine ⟨_, PySem.intText_digits (x := w) (fun c hc => ?_) (fun z => ?_) (by omega)⟩
  · have := List.all_eq_true.mp h.2 c hc
    have := of_decide_eq_true this
    omega
  · have h1 : w.cps.toList.length = w.length := by simp; rfl
    rw [z] at h1
    simp at h1
    omega
noncomputable def pNum (S : List Str) (n : Nat) : Option D := (S[n]?).bind numW
theorem Rnumber_eq {S : List Str} (hS : ∀ w ∈ S, goodW w) (hl : S.length ≤ 100000) {n : Nat} (hn : n ≤ S.length) : M_Rnumber (S.map PyData.str) (n : Int) [] = some ((pNum S n).map fun d => (d, (n : Int) + 1)) := by
  have hl' : (S.map PyData.str).length ≤ 100000 := by simpa using hl
  unfold pNum
  cases hw : S[n]? with
  | none =>
    have : n = (S.map PyData.str).length := by
      have := List.getElem?_eq_none_iff.mp hw
      simp; omega
    rw [this]
    exact Rnumber_no _ hl'
  | some w =>
    have hm := hS w (List.mem_of_getElem? hw)
    exact Rnumber_ok _ n w (by rw [List.getElem?_map, hw]; rfl) hm.1 hm.2 hl' fig_int
noncomputable def pNums (S : List Str) : Nat → Nat → Option (List D)
  | 0, _ => some []
  | k + 1, n => (pNum S n).bind fun d => (pNums S k (n + 1)).map (d :: ·)
theorem pNum_lt {S : List Str} {n : Nat} {d : D} (h : pNum S n = some d) : n < S.length := by
  unfold pNum at h
  cases hw : S[n]? with
  | none => rw [hw] at h; cases h
  | some w => exact (List.getElem?_eq_some_iff.mp hw).1
def numsO (acc : List D) (k : Nat → DEnv) (m : Nat) : Option (List D) → OutA
  | some ds => .val (acc ++ ds) (k m)
  | none => .exc
open Classical in
theorem nums_go {S : List Str} (hS : ∀ w ∈ S, goodW w) (hl : S.length ≤ 100000) {L : LamT} (hL : L.ws = S.map PyData.str) (n0 : Int) (d1 : D) : ∀ (items : List D) (n : Nat) (acc : List D), n ≤ S.length →
    lcXGo 0 (bNm 2) C_Rnumbers_1 [2] [some (.fn L n0), some (.sh d1), none] L items (n : Int) acc = some (numsO acc (fun m => [some (.fn L (m : Int)), some (.sh d1), none]) (n + items.length) (pNums S items.length n))
  | [], n, acc, _ => by
    unfold lcXGo
    simp [pNums, numsO]
  | d :: items, n, acc, hn => by
    have m1 : nilA [some (.fn L (n : Int)), some (.sh d1), some (.sh d)] = some [] := rfl
    have hx : C_Rnumbers_1 [some (.fn L (n : Int)), some (.sh d1), some (.sh d)] = mrX L [some (.sh d1), some (.sh d)] (some ((pNum S n).map fun d => (d, (n : Int) + 1))) := by
      unfold C_Rnumbers_1
      rw [e_mthX (m := 1) rfl m1 rfl, hL, Rnumber_eq hS hl hn]
    unfold lcXGo
    show (if isRd 0 [some (.fn L (n : Int)), some (.sh d1), some (.sh d)] = true then (C_Rnumbers_1 [some (.fn L (n : Int)), some (.sh d1), some (.sh d)]).bind _ else none) = _
    rw [if_pos isRd_0, hx, List.length_cons]
    unfold pNums
    cases hp : pNum S n with
    | none => rfl
    | some x =>
      have hlt := pNum_lt hp
      have ih := nums_go hS hl hL n0 d1 items (n + 1) (acc ++ [x]) (by omega)
      show (if L = L then lcXGo 0 (bNm 2) C_Rnumbers_1 [2] [some (.fn L n0), some (.sh d1), none] L items ((n : Int) + 1) (acc ++ [x]) else none) = _
      rw [if_pos rfl]
      have e : ((n : Int) + 1) = ((n + 1 : Nat) : Int) := by omega
      rw [e, ih]
      have e2 : n + 1 + items.length = n + (items.length + 1) := by omega
      rw [e2]
      cases pNums S items.length (n + 1) with
      | none => rfl
      | some ds =>
        show some (OutA.val (acc ++ [x] ++ ds) _) = some (OutA.val (acc ++ (x :: ds)) _)
        simp
theorem Rnumbers_eq {S : List Str} (hS : ∀ w ∈ S, goodW w) (hl : S.length ≤ 100000) {n : Nat} (hn : n ≤ S.length) (k : Nat) (hk : k ≤ 1000) : M_Rnumbers (S.map PyData.str) (n : Int) [.int (k : Int)] = some ((pNums S k n).map fun ds => (.tuple ds, ((n + k : Nat) : Int))) := by
  refine runM_eq fun r => ?_
  have hr : rng1D (.int (k : Int)) = some ((List.range k).map fun i : Nat => PyData.int (i : Int)) := rng1_ok (by omega)
  have hlen : ((List.range k).map fun i : Nat => PyData.int (i : Int)).length = k := by simp
  have go := nums_go hS hl (L := ⟨S.map PyData.str, some r⟩) rfl (n : Int) (.int (k : Int)) ((List.range k).map fun i : Nat => PyData.int (i : Int)) n [] hn
  rw [hlen] at go
  have hsm : sml ((List.range k).map fun i : Nat => PyData.int (i : Int)).length = true := sml_of (by omega)
  have hlc : lcX 0 (rg1 (vr 1)) (bNm 2) C_Rnumbers_1 [2] [some (.fn ⟨S.map PyData.str, some r⟩ (n : Int)), some (.sh (.int (k : Int))), none] = (numsO [] (fun m => [some (.fn ⟨S.map PyData.str, some r⟩ (m : Int)), some (.sh (.int (k : Int))), none]) (n + k) (pNums S k n) |> fun o => some (match o with
      | .exc => Out.exc
      | .val xs e' => .val (.list xs) e')) := by
    have e1 : rg1 (vr 1) [some (.fn ⟨S.map PyData.str, some r⟩ (n : Int)), some (.sh (.int (k : Int))), none] = some ((List.range k).map fun i : Nat => PyData.int (i : Int)) := by simp -implicitDefEqProofs [hr]
    have e2 : ([some (.fn ⟨S.map PyData.str, some r⟩ (n : Int)), some (.sh (.int (k : Int))), none] : DEnv)[0]? = some (some (.fn ⟨S.map PyData.str, some r⟩ (n : Int))) := rfl
    generalize hE : ([some (.fn ⟨S.map PyData.str, some r⟩ (n : Int)), some (.sh (.int (k : Int))), none] : DEnv) = env at e1 e2 go ⊢
    have e3 : sole 0 0 env = true := by rw [← hE]; exact sole_0 rfl
    unfold lcX
    rw [e1, Option.bind_some, if_pos hsm, e2]
    dsimp only
    rw [if_pos e3, go, Option.map_some]
    try (generalize numsO [] _ (n + k) (pNums S k n) = oo; cases oo <;> rfl)
  rw [runA_eq]
  cases hp : pNums S k n with
  | none =>
    rw [hp] at hlc
    simp -implicitDefEqProofs [D_Rnumbers, startE, hlc, numsO]
  | some ds =>
    rw [hp] at hlc
    simp -implicitDefEqProofs [D_Rnumbers, startE, hlc, numsO]

/-! a box read -/
noncomputable def pLoop (B : Nat → Option (D × Nat)) (S : List Str) : Nat → Nat → List D → Option (List D × Nat)
  | 0, _, _ => none
  | k + 1, n, acc => match S[n]? with
    | some w => if (w == "]") = true then some (acc, n) else (B n).bind fun p => pLoop B S k p.2 (acc ++ [p.1])
    | none => some (acc, n)
noncomputable def pBoxes (B : Nat → Option (D × Nat)) (S : List Str) (n : Nat) : Option (D × Nat) := match S[n]? with
  | some w => if (w == "[") = true then (pLoop B S (S.length + 1 - (n + 1)) (n + 1) []).bind fun p => if p.2 < S.length then some (.tuple p.1, p.2 + 1) else none else none
  | none => none
/-- what follows the head -/
noncomputable def pRest (B : Nat → Option (D × Nat)) (S : List Str) (w1 w2 : Str) (n : Nat) : Option (D × Nat) :=
  if (w1 == "leaf") = true then (pNums S 5 n).bind fun a => (pNums S 5 (n + 5)).map fun b => (.tuple [.str w1, .str w2, .tuple a, .tuple b], n + 5 + 5)
  else if (w1 == "rim") = true then (pNums S 4 n).bind fun a => (B (n + 4)).map fun p => (.tuple ([.str w1, .str w2] ++ a ++ [p.1]), p.2)
  else if (w1 == "row" || w1 == "col") = true then (pNums S 1 n).bind fun a => (pBoxes B S (n + 1)).map fun p => (.tuple ([.str w1, .str w2] ++ a ++ [p.1]), p.2)
  else if (w1 == "pile") = true then (pBoxes B S n).map fun p => (.tuple [.str w1, .str w2, p.1], p.2)
  else none
noncomputable def pBox (S : List Str) : Nat → Nat → Option (D × Nat)
  | 0, _ => none
  | deep + 1, n => (S[n]?).bind fun w1 => (S[n + 1]?).bind fun w2 => pRest (pBox S deep) S w1 w2 (n + 2)
theorem pNums_le {S : List Str} : ∀ (k n : Nat) (ds : List D), pNums S k n = some ds → n ≤ S.length → n + k ≤ S.length ∧ ds.length = k
  | 0, n, ds, h, hn => by cases h; exact ⟨by omega, rfl⟩
  | k + 1, n, ds, h, hn => by
    unfold pNums at h
    obtain ⟨d, h1, h⟩ := Option.bind_eq_some_iff.mp h
    obtain ⟨es, h2, rfl⟩ := Option.map_eq_some_iff.mp h
    have := pNum_lt h1
    have := pNums_le k (n + 1) es h2 (by omega)
    exact ⟨by omega, by simp [this.2]⟩
/-- a part read moves on, and not beyond the end -/
def Moves (S : List Str) (B : Nat → Option (D × Nat)) : Prop := ∀ n d n', n ≤ S.length → B n = some (d, n') → n < n' ∧ n' ≤ S.length
theorem pLoop_le {S : List Str} {B : Nat → Option (D × Nat)} (hB : Moves S B) : ∀ (k n : Nat) (acc ds : List D) (m : Nat), n ≤ S.length → pLoop B S k n acc = some (ds, m) → n ≤ m ∧ m ≤ S.length
  | 0, _, _, _, _, _, h => by cases h
  | k + 1, n, acc, ds, m, hn, h => by
    unfold pLoop at h
    split at h
    · split at h
      · cases h; exact ⟨Nat.le_refl _, hn⟩
      · obtain ⟨p, h1, h⟩ := Option.bind_eq_some_iff.mp h
        have a := hB n p.1 p.2 hn h1
        have b := pLoop_le hB k p.2 _ ds m a.2 h
        exact ⟨by omega, b.2⟩
    · cases h; exact ⟨Nat.le_refl _, hn⟩
theorem pBoxes_moves {S : List Str} {B : Nat → Option (D × Nat)} (hB : Moves S B) : Moves S (pBoxes B S) := fun n d n' hn h => by
  unfold pBoxes at h
  split at h
  · rename_i w hw
    split at h
    · obtain ⟨p, h1, h⟩ := Option.bind_eq_some_iff.mp h
      have hlt : n < S.length := (List.getElem?_eq_some_iff.mp hw).1
      split at h
      · cases h
        have := pLoop_le hB _ _ _ p.1 p.2 (by omega) h1
        omega
      · cases h
    · cases h
  · cases h
theorem pBox_moves {S : List Str} : ∀ deep, Moves S (pBox S deep)
  | 0 => fun n d n' _ h => by cases h
  | deep + 1 => fun n d n' hn h => by
    have ih := pBox_moves (S := S) deep
    have ihb := pBoxes_moves ih
    unfold pBox at h
    obtain ⟨w1, h1, h⟩ := Option.bind_eq_some_iff.mp h
    obtain ⟨w2, h2, h⟩ := Option.bind_eq_some_iff.mp h
    have hl2 : n + 1 < S.length := (List.getElem?_eq_some_iff.mp h2).1
    unfold pRest at h
    split at h
    · obtain ⟨a, h3, h⟩ := Option.bind_eq_some_iff.mp h
      obtain ⟨b, h4, h⟩ := Option.map_eq_some_iff.mp h
      cases h
      have k1 := pNums_le _ _ _ h3 (by omega)
      have k2 := pNums_le _ _ _ h4 (by omega)
      omega
    · split at h
      · obtain ⟨a, h3, h⟩ := Option.bind_eq_some_iff.mp h
        obtain ⟨p, h4, h⟩ := Option.map_eq_some_iff.mp h
        cases h
        have k1 := pNums_le _ _ _ h3 (by omega)
        have k2 := ih _ p.1 p.2 (by omega) h4
        omega
      · split at h
        · obtain ⟨a, h3, h⟩ := Option.bind_eq_some_iff.mp h
          obtain ⟨p, h4, h⟩ := Option.map_eq_some_iff.mp h
          cases h
          have k1 := pNums_le _ _ _ h3 (by omega)
          have k2 := ihb _ p.1 p.2 (by omega) h4
          omega
        · split at h
          · obtain ⟨p, h4, h⟩ := Option.map_eq_some_iff.mp h
            cases h
            have k2 := ihb _ p.1 p.2 (by omega) h4
            omega
          · cases h

/-! boxes read -/
theorem eq_sts {a b : Str} (ha : PyData.strOk a = true) (hb : PyData.strOk b = true) : eqD (.str a) (.str b) = some (.bool (a == b)) := by
  rw [eq_ok (n := 0) (m := 0) (a := .str a) (b := .str b) ha hb]
  rfl
theorem ne_sts {a b : Str} (ha : PyData.strOk a = true) (hb : PyData.strOk b = true) : neD (.str a) (.str b) = some (.bool (!(a == b))) := by
  rw [ne_ok (n := 0) (m := 0) (a := .str a) (b := .str b) ha hb]
  rfl
theorem Rword_eq {S : List Str} (hl : S.length ≤ 100000) {n : Nat} (hn : n ≤ S.length) : M_Rword (S.map PyData.str) (n : Int) [] = some ((S[n]?).map fun w => (.str w, (n : Int) + 1)) := by
  have hl' : (S.map PyData.str).length ≤ 100000 := by simpa using hl
  cases hw : S[n]? with
  | none =>
    have : n = (S.map PyData.str).length := by
      have := List.getElem?_eq_none_iff.mp hw
      simp; omega
    rw [this]
    exact Rword_no _ hl'
  | some w => exact Rword_ok _ n (.str w) (by rw [List.getElem?_map, hw]; rfl) hl'
theorem word_at {S : List Str} (hl : S.length ≤ 100000) {L : LamT} (hL : L.ws = S.map PyData.str) {n : Nat} (hn : n ≤ S.length) {e : DEnv} (he : noFn e = true) :
    mthX 0 1 M_Rword nilA (some (.fn L (n : Int)) :: e) = some (match S[n]? with
      | some w => .val (.str w) (some (.fn L ((n : Int) + 1)) :: e)
      | none => .exc) := by
  have m1 : nilA (some (.fn L (n : Int)) :: e) = some [] := rfl
  rw [e_mthX (m := 1) he m1 rfl, hL, Rword_eq hl hn]
  cases S[n]? <;> rfl
def loopO (L : LamT) (d : D) : Option (List D × Nat) → FlX
  | some p => .nx [some (.fn L (p.2 : Int)), some (.sh d), some (.ow p.1)]
  | none => .exc
theorem loop_eq {S : List Str} (hS : ∀ w ∈ S, goodW w) (hl : S.length ≤ 50000) {B : Nat → Option (D × Nat)} (hB : Moves S B) {R1 R2 : MR} {L : LamT} (hL : L.ws = S.map PyData.str) {d : D} (hR : ∀ n : Nat, n ≤ S.length → R2 (S.map PyData.str) (n : Int) [d] = some ((B n).map fun p => (p.1, (p.2 : Int)))) :
    ∀ (k m : Nat) (acc : List D), m ≤ S.length → S.length + 1 - m ≤ k → acc.length ≤ m → xWhileG (T_Rboxes_1 R1 R2) (B_Rboxes_1 R1 R2) k [some (.fn L (m : Int)), some (.sh d), some (.ow acc)] = some (loopO L d (pLoop B S k m acc))
  | 0, m, acc, hm, hk, ha => by omega
  | k + 1, m, acc, hm, hk, ha => by
    have hlen : sml (S.map PyData.str).length = true := sml_of (by simp; omega)
    have ok2 : PyData.strOk "]" = true := by decide +kernel
    unfold xWhileG
    cases hw : S[m]? with
    | none =>
      have hm2 : ¬ ((m : Int) < (S.length : Int)) := by
        have := List.getElem?_eq_none_iff.mp hw
        omega
      have ht : T_Rboxes_1 R1 R2 [some (.fn L (m : Int)), some (.sh d), some (.ow acc)] = some false := by
        simp -implicitDefEqProofs [T_Rboxes_1, hL, hm2]
        try omega
      have e0 : pLoop B S (k + 1) m acc = some (acc, m) := by
        unfold pLoop
        rw [hw]
      rw [ht, e0]
      rfl
    | some w =>
      have hlt : m < S.length := (List.getElem?_eq_some_iff.mp hw).1
      have hm2 : ((m : Int) < (S.length : Int)) := by omega
      have hx : atI (S.map PyData.str) (m : Int) = some (.str w) := atI_of (by rw [List.getElem?_map, hw]; rfl)
      have hne := ne_sts (hS w (List.mem_of_getElem? hw)).1 ok2
      have ht : T_Rboxes_1 R1 R2 [some (.fn L (m : Int)), some (.sh d), some (.ow acc)] = some (!(w == "]")) := by
        simp -implicitDefEqProofs [T_Rboxes_1, hL, hm2, hx, hne]
        try omega
      have e0 : pLoop B S (k + 1) m acc = if (w == "]") = true then some (acc, m) else (B m).bind fun p => pLoop B S k p.2 (acc ++ [p.1]) := by
        conv => lhs; unfold pLoop
        rw [hw]
      rw [ht, e0]
      cases hb : (w == ("]" : Str)) with
      | true => rfl
      | false =>
        rw [if_neg (by decide)]
        have m1 : (consA (vr 1) nilA) [some (.fn L (m : Int)), some (.sh d), some (.ow acc)] = some [d] := rfl
        have hmt : mthX 0 2 R2 (consA (vr 1) nilA) [some (.fn L (m : Int)), some (.sh d), some (.ow acc)] = mrX L [some (.sh d), some (.ow acc)] (some ((B m).map fun p => (p.1, (p.2 : Int)))) := by
          rw [e_mthX (m := 2) rfl m1 rfl, hL, hR m hm]
        have hsm : sml (acc.length + 1) = true := sml_of (by omega)
        cases hBm : B m with
        | none =>
          have hb2 : B_Rboxes_1 R1 R2 [some (.fn L (m : Int)), some (.sh d), some (.ow acc)] = some .exc := by
            rw [hBm] at hmt
            unfold B_Rboxes_1 xApp
            show (if isRd 0 [some (.fn L (m : Int)), some (.sh d), some (.ow acc)] = true then outX (mthX 0 2 R2 (consA (vr 1) nilA) [some (.fn L (m : Int)), some (.sh d), some (.ow acc)]) _ else none) = _
            rw [if_pos isRd_0, hmt]
            rfl
          show ((B_Rboxes_1 R1 R2 [some (.fn L (m : Int)), some (.sh d), some (.ow acc)]).bind _) = _
          rw [hb2]
          rfl
        | some p =>
          have hp := hB m p.1 p.2 hm hBm
          have hb2 : B_Rboxes_1 R1 R2 [some (.fn L (m : Int)), some (.sh d), some (.ow acc)] = some (.nx [some (.fn L (p.2 : Int)), some (.sh d), some (.ow (acc ++ [p.1]))]) := by
            rw [hBm] at hmt
            unfold B_Rboxes_1 xApp
            show (if isRd 0 [some (.fn L (m : Int)), some (.sh d), some (.ow acc)] = true then outX (mthX 0 2 R2 (consA (vr 1) nilA) [some (.fn L (m : Int)), some (.sh d), some (.ow acc)]) _ else none) = _
            rw [if_pos isRd_0, hmt]
            show (if sml (acc.length + 1) = true then _ else none) = _
            rw [if_pos hsm]
            rfl
          show ((B_Rboxes_1 R1 R2 [some (.fn L (m : Int)), some (.sh d), some (.ow acc)]).bind _) = _
          rw [hb2]
          show xWhileG (T_Rboxes_1 R1 R2) (B_Rboxes_1 R1 R2) k [some (.fn L (p.2 : Int)), some (.sh d), some (.ow (acc ++ [p.1]))] = _
          rw [loop_eq hS hl hB hL hR k p.2 (acc ++ [p.1]) hp.2 (by omega) (by simp; omega)]
          rfl
theorem Rboxes_step {S : List Str} (hS : ∀ w ∈ S, goodW w) (hl : S.length ≤ 50000) {B : Nat → Option (D × Nat)} (hB : Moves S B) {R1 R2 : MR} {d : D} (hR : ∀ n : Nat, n ≤ S.length → R2 (S.map PyData.str) (n : Int) [d] = some ((B n).map fun p => (p.1, (p.2 : Int)))) {n : Nat} (hn : n ≤ S.length) :
    runM 2 (D_Rboxes R1 R2) (S.map PyData.str) (n : Int) [d] = some ((pBoxes B S n).map fun p => (p.1, (p.2 : Int))) := by
  refine runM_eq fun r => ?_
  rw [runA_eq]
  have ok2 : PyData.strOk "[" = true := by decide +kernel
  have hw1 := word_at (S := S) (by omega) (L := ⟨S.map PyData.str, some r⟩) rfl hn (e := [some (.sh d), none]) rfl
  cases hw : S[n]? with
  | none =>
    rw [hw] at hw1
    have hP : pBoxes B S n = none := by
      unfold pBoxes
      rw [hw]
    rw [hP]
    simp -implicitDefEqProofs [D_Rboxes, startE, hw1]
  | some w =>
    rw [hw] at hw1
    have hlt : n < S.length := (List.getElem?_eq_some_iff.mp hw).1
    have hne := ne_sts (hS w (List.mem_of_getElem? hw)).1 ok2
    cases hb : (w == ("[" : Str)) with
    | false =>
      rw [hb] at hne
      have hP : pBoxes B S n = none := by
        unfold pBoxes
        rw [hw]
        dsimp only
        rw [hb, if_neg (by decide)]
      rw [hP]
      simp -implicitDefEqProofs [D_Rboxes, startE, hw1, hne]
    | true =>
      rw [hb] at hne
      have e1 : ((n : Int) + 1) = ((n + 1 : Nat) : Int) := by omega
      have lp := loop_eq hS hl hB (R1 := R1) (L := ⟨S.map PyData.str, some r⟩) rfl hR (S.length + 1 - (n + 1)) (n + 1) [] (by omega) (Nat.le_refl _) (by simp)
      have hmu : muR 0 [some (.fn ⟨S.map PyData.str, some r⟩ ((n : Int) + 1)), some (.sh d), some (.ow [])] = S.length + 1 - (n + 1) := by
        show (S.map PyData.str).length + 1 - ((n : Int) + 1).toNat = _
        rw [List.length_map]
        omega
      have lp2 : xWhile (muR 0) (T_Rboxes_1 R1 R2) (B_Rboxes_1 R1 R2) [some (.fn ⟨S.map PyData.str, some r⟩ ((n : Int) + 1)), some (.sh d), some (.ow [])] = some (loopO ⟨S.map PyData.str, some r⟩ d (pLoop B S (S.length + 1 - (n + 1)) (n + 1) [])) := by
        unfold xWhile
        rw [hmu, e1]
        exact lp
      have hP : pBoxes B S n = (pLoop B S (S.length + 1 - (n + 1)) (n + 1) []).bind fun p => if p.2 < S.length then some (.tuple p.1, p.2 + 1) else none := by
        unfold pBoxes
        rw [hw]
        dsimp only
        rw [hb, if_pos rfl]
      rw [hP]
      cases hp : pLoop B S (S.length + 1 - (n + 1)) (n + 1) [] with
      | none =>
        rw [hp] at lp2
        rw [Option.bind_none]
        simp -implicitDefEqProofs [D_Rboxes, startE, hw1, hne, lp2, loopO, hp]
      | some p =>
        rw [hp] at lp2
        have hle := pLoop_le hB _ _ _ p.1 p.2 (by omega) hp
        have hw2 := word_at (S := S) (by omega) (L := ⟨S.map PyData.str, some r⟩) rfl hle.2 (e := [some (.sh d), some (.ow p.1)]) rfl
        cases hv : S[p.2]? with
        | none =>
          have hnl : ¬ p.2 < S.length := by
            have := List.getElem?_eq_none_iff.mp hv
            omega
          rw [hv] at hw2
          rw [Option.bind_some, if_neg hnl]
          simp -implicitDefEqProofs [D_Rboxes, startE, hw1, hne, lp2, loopO, hw2]
        | some v =>
          have hlt2 : p.2 < S.length := (List.getElem?_eq_some_iff.mp hv).1
          rw [hv] at hw2
          rw [Option.bind_some, if_pos hlt2]
          simp -implicitDefEqProofs [D_Rboxes, startE, hw1, hne, lp2, loopO, hw2]

/-! one box read -/
theorem nums_at {S : List Str} (hS : ∀ w ∈ S, goodW w) (hl : S.length ≤ 50000) {L : LamT} (hL : L.ws = S.map PyData.str) {n : Nat} (hn : n ≤ S.length) (k : Nat) (hk : k ≤ 1000) {i : Int} (hi : i = (k : Int)) {m : Int} (hm : m = (n : Int)) {e : DEnv} (he : noFn e = true) :
    mthX 0 2 M_Rnumbers (consA (cst (.int i)) nilA) (some (.fn L m) :: e) = some (match pNums S k n with
      | some ds => .val (.tuple ds) (some (.fn L (m + i)) :: e)
      | none => .exc) := by
  subst hi hm
  have m1 : (consA (cst (.int (k : Int))) nilA) (some (.fn L (n : Int)) :: e) = some [.int (k : Int)] := rfl
  rw [e_mthX (m := 2) he m1 rfl, hL, Rnumbers_eq hS (by omega) hn k hk]
  cases pNums S k n with
  | none => rfl
  | some ds =>
    have e1 : ((n + k : Nat) : Int) = (n : Int) + (k : Int) := by omega
    rw [Option.map_some, e1]
    rfl
theorem word_at2 {S : List Str} (hl : S.length ≤ 50000) {L : LamT} (hL : L.ws = S.map PyData.str) {n : Nat} (hn : n ≤ S.length) {m : Int} (hm : m = (n : Int)) {e : DEnv} (he : noFn e = true) :
    mthX 0 1 M_Rword nilA (some (.fn L m) :: e) = some (match S[n]? with
      | some w => .val (.str w) (some (.fn L (m + 1)) :: e)
      | none => .exc) := by
  subst hm
  exact word_at (by omega) hL hn he
theorem sub_at {S : List Str} {L : LamT} (hL : L.ws = S.map PyData.str) {B : Nat → Option (D × Nat)} {R : MR} {deep : Nat} (hR : ∀ n : Nat, n ≤ S.length → R (S.map PyData.str) (n : Int) [.int (deep : Int)] = some ((B n).map fun p => (p.1, (p.2 : Int)))) {n : Nat} (hn : n ≤ S.length) {m : Int} (hm : m = (n : Int)) {x : Option Sl} (hx : noFn [x] = true) :
    mthX 0 2 R (consA (c2 subD (vr 1) (cst (.int 1))) nilA) [some (.fn L m), some (.sh (.int ((deep : Int) + 1))), x] = some (match B n with
      | some p => .val p.1 [some (.fn L (p.2 : Int)), some (.sh (.int ((deep : Int) + 1))), x]
      | none => .exc) := by
  subst hm
  have m1 : (consA (c2 subD (vr 1) (cst (.int 1))) nilA) [some (.fn L (n : Int)), some (.sh (.int ((deep : Int) + 1))), x] = some [.int ((deep : Int) + 1 - 1)] := rfl
  have e1 : (deep : Int) + 1 - 1 = (deep : Int) := by omega
  have hx2 : noFn [some (.sh (.int ((deep : Int) + 1))), x] = true := hx
  rw [e_mthX (m := 2) hx2 m1 rfl, hL, e1, hR n hn]
  cases B n <;> rfl
theorem Rbox_step {S : List Str} (hS : ∀ w ∈ S, goodW w) (hl : S.length ≤ 50000) {B : Nat → Option (D × Nat)} (hB : Moves S B) {R1 R2 : MR} {deep : Nat} (hR2 : ∀ n : Nat, n ≤ S.length → R2 (S.map PyData.str) (n : Int) [.int (deep : Int)] = some ((B n).map fun p => (p.1, (p.2 : Int))))
    (hR1 : ∀ n : Nat, n ≤ S.length → R1 (S.map PyData.str) (n : Int) [.int (deep : Int)] = some ((pBoxes B S n).map fun p => (p.1, (p.2 : Int)))) {n : Nat} (hn : n ≤ S.length) :
    runM 2 (D_Rbox R1 R2) (S.map PyData.str) (n : Int) [.int ((deep : Int) + 1)] = some (((S[n]?).bind fun w1 => (S[n + 1]?).bind fun w2 => pRest B S w1 w2 (n + 2)).map fun p => (p.1, (p.2 : Int))) := by
  refine runM_eq fun r => ?_
  rw [runA_eq]
  have hd0 : eqD (.int ((deep : Int) + 1)) (.int 0) = some (.bool false) := by
    have : ¬ ((deep : Int) + 1 = 0) := by omega
    simp [this]
  generalize hLL : (⟨S.map PyData.str, some r⟩ : LamT) = L
  have hL : L.ws = S.map PyData.str := by rw [← hLL]
  have hw1 := word_at2 (S := S) hl hL hn (m := (n : Int)) rfl (e := [some (.sh (.int ((deep : Int) + 1))), none]) rfl
  cases h1 : S[n]? with
  | none =>
    rw [h1] at hw1
    rw [Option.bind_none]
    simp -implicitDefEqProofs [D_Rbox, startE, hd0, hw1]
  | some w1 =>
    rw [h1] at hw1
    have l1 : n < S.length := (List.getElem?_eq_some_iff.mp h1).1
    have hw2 := word_at2 (S := S) hl hL (n := n + 1) (by omega) (m := (n : Int) + 1) (by omega) (e := [some (.sh (.int ((deep : Int) + 1))), none]) rfl
    rw [Option.bind_some]
    cases h2 : S[n + 1]? with
    | none =>
      rw [h2] at hw2
      rw [Option.bind_none]
      simp -implicitDefEqProofs [D_Rbox, startE, hd0, hw1, hw2]
    | some w2 =>
      rw [h2] at hw2
      have l2 : n + 1 < S.length := (List.getElem?_eq_some_iff.mp h2).1
      have g1 := (hS w1 (List.mem_of_getElem? h1)).1
      have eleaf := eq_sts g1 (b := "leaf") (by decide +kernel)
      have erim := eq_sts g1 (b := "rim") (by decide +kernel)
      have epile := ne_sts g1 (b := "pile") (by decide +kernel)
      have ix0 : ixD (.tuple [.str w1, .str w2]) (.int 0) = some (.str w1) := rfl
      rw [Option.bind_some]
      unfold pRest
      cases hleaf : (w1 == ("leaf" : Str)) with
      | true =>
        rw [hleaf] at eleaf
        rw [if_pos rfl]
        have n1 := nums_at hS hl hL (n := n + 2) (by omega) 5 (by decide) (i := 5) rfl (m := (n : Int) + 1 + 1) (by omega) (e := [some (.sh (.int ((deep : Int) + 1))), some (.sh (.tuple [.str w1, .str w2]))]) rfl
        cases p1 : pNums S 5 (n + 2) with
        | none =>
          rw [p1] at n1
          rw [Option.bind_none]
          simp -implicitDefEqProofs [D_Rbox, startE, hd0, hw1, hw2, ix0, eleaf, n1]
        | some a =>
          rw [p1] at n1
          have k1 := pNums_le _ _ _ p1 (by omega)
          have n2 := nums_at hS hl hL (n := n + 2 + 5) (by omega) 5 (by decide) (i := 5) rfl (m := (n : Int) + 1 + 1 + 5) (by omega) (e := [some (.sh (.int ((deep : Int) + 1))), some (.sh (.tuple [.str w1, .str w2]))]) rfl
          rw [Option.bind_some]
          cases p2 : pNums S 5 (n + 2 + 5) with
          | none =>
            rw [p2] at n2
            simp -implicitDefEqProofs [D_Rbox, startE, hd0, hw1, hw2, ix0, eleaf, n1, n2]
          | some b =>
            rw [p2] at n2
            have ad : addD (.tuple [.str w1, .str w2]) (.tuple [.tuple a, .tuple b]) = some (.tuple [.str w1, .str w2, .tuple a, .tuple b]) := add_t (by simp)
            have e9 : (n : Int) + 1 + 1 + 5 + 5 = ((n + 2 + 5 + 5 : Nat) : Int) := by omega
            simp -implicitDefEqProofs [D_Rbox, startE, hd0, hw1, hw2, ix0, eleaf, n1, n2, ad, e9]
      | false =>
        rw [hleaf] at eleaf
        rw [if_neg (by decide)]
        cases hrim : (w1 == ("rim" : Str)) with
        | true =>
          rw [hrim] at erim
          rw [if_pos rfl]
          have n1 := nums_at hS hl hL (n := n + 2) (by omega) 4 (by decide) (i := 4) rfl (m := (n : Int) + 1 + 1) (by omega) (e := [some (.sh (.int ((deep : Int) + 1))), some (.sh (.tuple [.str w1, .str w2]))]) rfl
          cases p1 : pNums S 4 (n + 2) with
          | none =>
            rw [p1] at n1
            rw [Option.bind_none]
            simp -implicitDefEqProofs [D_Rbox, startE, hd0, hw1, hw2, ix0, eleaf, erim, n1]
          | some a =>
            rw [p1] at n1
            have k1 := pNums_le _ _ _ p1 (by omega)
            have n2 := sub_at hL hR2 (n := n + 2 + 4) (by omega) (m := (n : Int) + 1 + 1 + 4) (by omega) (x := some (.sh (.tuple [.str w1, .str w2]))) rfl
            rw [Option.bind_some]
            have a1 : addD (.tuple [.str w1, .str w2]) (.tuple a) = some (.tuple (.str w1 :: .str w2 :: a)) := add_t (by simp [k1.2])
            cases p2 : B (n + 2 + 4) with
            | none =>
              rw [p2] at n2
              simp -implicitDefEqProofs [D_Rbox, startE, hd0, hw1, hw2, ix0, eleaf, erim, n1, n2, a1]
            | some p =>
              rw [p2] at n2
              have a2 : addD (.tuple (.str w1 :: .str w2 :: a)) (.tuple [p.1]) = some (.tuple (.str w1 :: .str w2 :: (a ++ [p.1]))) := add_t (by simp [k1.2])
              simp -implicitDefEqProofs [D_Rbox, startE, hd0, hw1, hw2, ix0, eleaf, erim, n1, n2, a1, a2]
        | false =>
          rw [hrim] at erim
          rw [if_neg (by decide)]
          have erc : inD (.str w1) (.tuple [.str "row", .str "col"]) = some (.bool (w1 == "row" || w1 == "col")) := by
            show (if okIn (.str w1) [.str "row", .str "col"] = true then some (PyData.bool (inSeq (.str w1) [.str "row", .str "col"])) else none) = _
            have ho : okIn (.str w1) [.str "row", .str "col"] = true := rfl
            rw [if_pos ho]
            congr 2
            have sy : ∀ a b : Str, (a == b) = (b == a) := fun a b => by
              by_cases h : a = b
              · rw [h]
              · have h' : ¬ b = a := fun z => h z.symm
                rw [beq_eq_false_iff_ne.mpr h, beq_eq_false_iff_ne.mpr h']
            have e0 : inSeq (.str w1) [.str "row", .str "col"] = ((Str.ofString "row" == w1) || ((Str.ofString "col" == w1) || false)) := rfl
            rw [e0, sy "row" w1, sy "col" w1, Bool.or_false]
          cases hrc : (w1 == ("row" : Str) || w1 == ("col" : Str)) with
          | true =>
            rw [hrc] at erc
            rw [if_pos rfl]
            have n1 := nums_at hS hl hL (n := n + 2) (by omega) 1 (by decide) (i := 1) rfl (m := (n : Int) + 1 + 1) (by omega) (e := [some (.sh (.int ((deep : Int) + 1))), some (.sh (.tuple [.str w1, .str w2]))]) rfl
            cases p1 : pNums S 1 (n + 2) with
            | none =>
              rw [p1] at n1
              rw [Option.bind_none]
              simp -implicitDefEqProofs [D_Rbox, startE, hd0, hw1, hw2, ix0, eleaf, erim, erc, n1]
            | some a =>
              rw [p1] at n1
              have k1 := pNums_le _ _ _ p1 (by omega)
              have n2 := sub_at hL hR1 (n := n + 2 + 1) (by omega) (m := (n : Int) + 1 + 1 + 1) (by omega) (x := some (.sh (.tuple [.str w1, .str w2]))) rfl
              rw [Option.bind_some]
              have a1 : addD (.tuple [.str w1, .str w2]) (.tuple a) = some (.tuple (.str w1 :: .str w2 :: a)) := add_t (by simp [k1.2])
              cases p2 : pBoxes B S (n + 2 + 1) with
              | none =>
                rw [p2] at n2
                simp -implicitDefEqProofs [D_Rbox, startE, hd0, hw1, hw2, ix0, eleaf, erim, erc, n1, n2, a1]
              | some p =>
                rw [p2] at n2
                have a2 : addD (.tuple (.str w1 :: .str w2 :: a)) (.tuple [p.1]) = some (.tuple (.str w1 :: .str w2 :: (a ++ [p.1]))) := add_t (by simp [k1.2])
                simp -implicitDefEqProofs [D_Rbox, startE, hd0, hw1, hw2, ix0, eleaf, erim, erc, n1, n2, a1, a2]
          | false =>
            rw [hrc] at erc
            rw [if_neg (by decide)]
            cases hpile : (w1 == ("pile" : Str)) with
            | true =>
              rw [hpile] at epile
              rw [if_pos rfl]
              have n2 := sub_at hL hR1 (n := n + 2) (by omega) (m := (n : Int) + 1 + 1) (by omega) (x := some (.sh (.tuple [.str w1, .str w2]))) rfl
              cases p2 : pBoxes B S (n + 2) with
              | none =>
                rw [p2] at n2
                simp -implicitDefEqProofs [D_Rbox, startE, hd0, hw1, hw2, ix0, eleaf, erim, erc, epile, n2]
              | some p =>
                rw [p2] at n2
                have a2 : addD (.tuple [.str w1, .str w2]) (.tuple [p.1]) = some (.tuple [.str w1, .str w2, p.1]) := add_t (by simp)
                simp -implicitDefEqProofs [D_Rbox, startE, hd0, hw1, hw2, ix0, eleaf, erim, erc, epile, n2, a2]
            | false =>
              rw [hpile] at epile
              rw [if_neg (by decide)]
              simp -implicitDefEqProofs [D_Rbox, startE, hd0, hw1, hw2, ix0, eleaf, erim, erc, epile]

/-! the reader's box -/
theorem Rbox_zero {S : List Str} {R1 R2 : MR} {n : Nat} : runM 2 (D_Rbox R1 R2) (S.map PyData.str) (n : Int) [.int 0] = some none := by
  refine runM_eq fun r => ?_
  rw [runA_eq]
  simp -implicitDefEqProofs [D_Rbox, startE]
theorem Rbox_eq {S : List Str} (hS : ∀ w ∈ S, goodW w) (hl : S.length ≤ 50000) : ∀ (deep m n : Nat), 2 * deep + 1 ≤ m → n ≤ S.length → M_Rbox m (S.map PyData.str) (n : Int) [.int (deep : Int)] = some ((pBox S deep n).map fun p => (p.1, (p.2 : Int)))
  | 0, m, n, hm, hn => by
    obtain ⟨m, rfl⟩ : ∃ j, m = j + 1 := ⟨m - 1, by omega⟩
    exact Rbox_zero
  | deep + 1, m, n, hm, hn => by
    obtain ⟨m, rfl⟩ : ∃ j, m = j + 2 := ⟨m - 2, by omega⟩
    have h2 : ∀ n : Nat, n ≤ S.length → M_Rbox (m + 1) (S.map PyData.str) (n : Int) [.int (deep : Int)] = some ((pBox S deep n).map fun p => (p.1, (p.2 : Int))) := fun n hn => Rbox_eq hS hl deep (m + 1) n (by omega) hn
    have h3 : ∀ n : Nat, n ≤ S.length → M_Rbox m (S.map PyData.str) (n : Int) [.int (deep : Int)] = some ((pBox S deep n).map fun p => (p.1, (p.2 : Int))) := fun n hn => Rbox_eq hS hl deep m n (by omega) hn
    have mv : Moves S (pBox S deep) := pBox_moves deep
    have h1 : ∀ n : Nat, n ≤ S.length → M_Rboxes (m + 1) (S.map PyData.str) (n : Int) [.int (deep : Int)] = some ((pBoxes (pBox S deep) S n).map fun p => (p.1, (p.2 : Int))) := fun n hn => Rboxes_step hS hl mv h3 hn
    have e : ((deep + 1 : Nat) : Int) = (deep : Int) + 1 := by omega
    rw [e]
    exact Rbox_step hS hl mv h2 h1 hn

/-! words and their text -/
def nb (w : Str) : Prop := 32 ∉ w.cps.toList
theorem blank_is : (" " : Str) = ⟨#[32]⟩ := by decide +kernel
theorem cut_uniq {α : Type} {c : α} : ∀ {x y A B : List α}, c ∉ x → c ∉ y → x ++ c :: A = y ++ c :: B → x = y ∧ A = B
  | [], [], _, _, _, _, h => ⟨rfl, (List.cons.inj h).2⟩
  | [], b :: y, _, _, _, hy, h => absurd (List.mem_cons.mpr (.inl (List.cons.inj h).1)) hy
  | a :: x, [], _, _, hx, _, h => absurd (List.mem_cons.mpr (.inl (List.cons.inj h).1.symm)) hx
  | a :: x, b :: y, _, _, hx, hy, h => by
    have h1 := List.cons.inj h
    have := cut_uniq (fun q => hx (List.mem_cons_of_mem _ q)) (fun q => hy (List.mem_cons_of_mem _ q)) h1.2
    exact ⟨by rw [h1.1, this.1], this.2⟩
theorem st_list (a b : Str) : (a ++ b).cps.toList = a.cps.toList ++ b.cps.toList := by
  show (a.cps ++ b.cps).toList = _
  simp
theorem st_ext {a b : Str} (h : a.cps.toList = b.cps.toList) : a = b := by
  cases a; cases b
  congr 1
  exact Array.toList_inj.mp h
theorem jw_list (x y : Str) (r : List Str) : (jw (x :: y :: r)).cps.toList = x.cps.toList ++ 32 :: (jw (y :: r)).cps.toList := by
  rw [jw_two, st_list, st_list, blank_is]
  simp
theorem jw_inj : ∀ (xs ys : List Str), xs ≠ [] → ys ≠ [] → (∀ x ∈ xs, nb x) → (∀ y ∈ ys, nb y) → jw xs = jw ys → xs = ys
  | [], _, h, _, _, _, _ => absurd rfl h
  | _ :: _, [], _, h, _, _, _ => absurd rfl h
  | [x], [y], _, _, _, _, h => by rw [jw_one, jw_one] at h; rw [h]
  | [x], y :: z :: r, _, _, hx, _, h => by
    have h1 := hx x List.mem_cons_self
    have h2 : x.cps.toList = (jw (y :: z :: r)).cps.toList := by rw [← h, jw_one]
    rw [jw_list] at h2
    exact absurd (by rw [h2]; simp) h1
  | y :: z :: r, [x], _, _, _, hx, h => by
    have h1 := hx x List.mem_cons_self
    have h2 : x.cps.toList = (jw (y :: z :: r)).cps.toList := by rw [h, jw_one]
    rw [jw_list] at h2
    exact absurd (by rw [h2]; simp) h1
  | x :: x2 :: xs, y :: y2 :: ys, _, _, hx, hy, h => by
    have h2 : (jw (x :: x2 :: xs)).cps.toList = (jw (y :: y2 :: ys)).cps.toList := by rw [h]
    rw [jw_list, jw_list] at h2
    obtain ⟨e1, e2⟩ := cut_uniq (hx x List.mem_cons_self) (hy y List.mem_cons_self) h2
    have := jw_inj (x2 :: xs) (y2 :: ys) (by simp) (by simp) (fun z q => hx z (List.mem_cons_of_mem _ q)) (fun z q => hy z (List.mem_cons_of_mem _ q)) (st_ext e2)
    rw [st_ext e1, this]
theorem split_jw {ws : List Str} (h : ws ≠ []) (hw : ∀ w ∈ ws, nb w) : Txt.split (jw ws) " " = ws := by
  have e : jw (Txt.split (jw ws) " ") = jw ws := StrLaws.join_split (jw ws) " "
  refine jw_inj _ _ ?_ h (fun x hx => ?_) hw e
  · intro z
    have := PyProof.Rows.split_pos (jw ws) " "
    rw [z] at this
    exact absurd this (by decide)
  · rw [blank_is] at hx
    exact StrLaws.split_free _ 32 x hx

/-! the words of a box, read -/
theorem numW_eq (w : Str) : numW w = if (w == "-") = true then some .none else if figB w = true then some (.int ((PySem.NumText.digitsVal w.cps.toList : Nat) : Int)) else none := by
  unfold numW
  split
  · rfl
  · split
    · rename_i h
      have h0 := h
      unfold figB at h
      rw [Bool.and_eq_true, decide_eq_true_eq] at h
      rw [PySem.intText_digits (x := w) (fun c hc => ?_) (fun z => ?_) (by omega)]
      · rfl
      · have := List.all_eq_true.mp h.2 c hc
        have := of_decide_eq_true this
        omega
      · have h1 : w.cps.toList.length = w.length := by simp; rfl
        rw [z] at h1
        simp at h1
        omega
    · rfl
theorem nw_fin2 : ∀ i : Fin 1000, (((toString (i.val : Int) : String) : Str) == "-") = false ∧ figB ((toString (i.val : Int) : String) : Str) = true ∧ PySem.NumText.digitsVal ((toString (i.val : Int) : String) : Str).cps.toList = i.val := by decide +kernel
theorem numW_nw {i : Int} (h0 : 0 ≤ i) (h : i ≤ 999) : numW (nwS i) = some (.int i) := by
  have := nw_fin2 ⟨i.toNat, by omega⟩
  simp only at this
  rw [Int.toNat_of_nonneg h0] at this
  obtain ⟨a, b, c⟩ := this
  have a' : (nwS i == "-") = false := a
  have b' : figB (nwS i) = true := b
  have c' : PySem.NumText.digitsVal (nwS i).cps.toList = i.toNat := c
  rw [numW_eq, a', b', c', Int.toNat_of_nonneg h0]
  rfl
theorem numW_op {o : Option Int} (h : ∀ m, o = some m → 0 ≤ m ∧ m ≤ 999) : numW (opW o) = some (optD o) := by
  cases o with
  | none =>
    show numW "-" = some .none
    rw [numW_eq, if_pos (by decide +kernel)]
  | some m => exact numW_nw (h m rfl).1 (h m rfl).2
def Tb : (n : Nat) → Bx n → Prop
  | 0, b => nomatch b
  | n + 1, b => match (b : BxF (Bx n)) with
    | .leaf nm w h => nameB (.str nm) = true ∧ w.Tx ∧ h.Tx
    | .line _ nm g ps => nameB (.str nm) = true ∧ (0 ≤ g ∧ g ≤ 999) ∧ ps.length ≤ 10 ∧ ∀ p ∈ ps, Tb n p
    | .pile nm ps => nameB (.str nm) = true ∧ ps.length ≤ 10 ∧ ∀ p ∈ ps, Tb n p
    | .rim nm a b c d p => nameB (.str nm) = true ∧ (0 ≤ a ∧ a ≤ 999) ∧ (0 ≤ b ∧ b ≤ 999) ∧ (0 ≤ c ∧ c ≤ 999) ∧ (0 ≤ d ∧ d ≤ 999) ∧ Tb n p
theorem name_len {x : Str} (h : nameB (.str x) = true) : x.length ≤ 4 ∧ 1 ≤ x.length ∧ x.cps.toList.all lwB = true := by
  have h' : (decide (1 ≤ x.length ∧ x.length ≤ 4) && x.cps.toList.all lwB) = true := h
  rw [Bool.and_eq_true, decide_eq_true_eq] at h'
  exact ⟨h'.1.2, h'.1.1, h'.2⟩
theorem tb_nb : ∀ (n : Nat) (b : Bx n), Tb n b → Nb n b
  | 0, b, _ => nomatch b
  | n + 1, b, h => by
    match (b : BxF (Bx n)), h with
    | .leaf nm w h', h => exact ⟨by have := (name_len h.1).1; omega, h.2⟩
    | .line c nm g ps, h => exact ⟨by have := (name_len h.1).1; omega, h.2.1, h.2.2.1, fun p hp => tb_nb n p (h.2.2.2 p hp)⟩
    | .pile nm ps, h => exact ⟨by have := (name_len h.1).1; omega, h.2.1, fun p hp => tb_nb n p (h.2.2 p hp)⟩
    | .rim nm a b c d p, h => exact ⟨by have := (name_len h.1).1; omega, h.2.1, h.2.2.1, h.2.2.2.1, h.2.2.2.2.1, tb_nb n p h.2.2.2.2.2⟩
/-- a word as a box's text has it -/
def goodT (w : Str) : Prop := nb w ∧ PyData.strOk w = true ∧ w.length ≤ 4
instance (w : Str) : Decidable (nb w) := inferInstanceAs (Decidable (32 ∉ w.cps.toList))
instance (w : Str) : Decidable (goodT w) := inferInstanceAs (Decidable (_ ∧ _ ∧ _))
theorem gt_name {x : Str} (h : nameB (.str x) = true) : goodT x := by
  obtain ⟨h1, _, h3⟩ := name_len h
  refine ⟨fun q => ?_, ?_, h1⟩
  · have := of_decide_eq_true (List.all_eq_true.mp h3 32 q)
    omega
  · show x.cps.all (· < 0x110000) = true
    rw [← Array.all_toList, List.all_eq_true]
    intro c hc
    have := of_decide_eq_true (List.all_eq_true.mp h3 c hc)
    exact decide_eq_true (by omega)
theorem gt_fin : ∀ i : Fin 1000, goodT ((toString (i.val : Int) : String) : Str) := by decide +kernel
theorem gt_nw {i : Int} (h : 0 ≤ i ∧ i ≤ 999) : goodT (nwS i) := by
  have := gt_fin ⟨i.toNat, by omega⟩
  simp only at this
  rw [Int.toNat_of_nonneg h.1] at this
  exact this
theorem gt_op {o : Option Int} (h : ∀ m, o = some m → 0 ≤ m ∧ m ≤ 999) : goodT (opW o) := by
  cases o with
  | none => exact (by decide +kernel : goodT "-")
  | some m => exact gt_nw (h m rfl)
theorem gt_sp {s : Spn} (h : s.Tx) : ∀ x ∈ spW s, goodT x := by
  intro x hx
  simp only [spW, List.mem_cons, List.not_mem_nil, or_false] at hx
  rcases hx with rfl | rfl | rfl | rfl | rfl
  · exact gt_nw h.lo
  · exact gt_nw h.wi
  · exact gt_op h.mo
  · exact gt_nw h.gr
  · exact gt_nw h.sh
theorem gt_leaf : goodT "leaf" := by decide +kernel
theorem gt_row : goodT "row" := by decide +kernel
theorem gt_col : goodT "col" := by decide +kernel
theorem gt_pile : goodT "pile" := by decide +kernel
theorem gt_rim : goodT "rim" := by decide +kernel
theorem gt_op1 : goodT "[" := by decide +kernel
theorem gt_cl : goodT "]" := by decide +kernel
theorem gt_kind (c : Bool) : goodT (kindS c) := by
  cases c
  · exact gt_row
  · exact gt_col
theorem tb_words : ∀ (n : Nat) (b : Bx n), Tb n b → ∀ x ∈ wrdV n b, goodT x
  | 0, b, _ => nomatch b
  | n + 1, b, h => by
    have parts : ∀ {ps : List (Bx n)}, (∀ p ∈ ps, Tb n p) → ∀ x ∈ ps.flatMap (wrdV n), goodT x := fun {ps} hp x hx => by
      obtain ⟨p, h1, h2⟩ := List.mem_flatMap.mp hx
      exact tb_words n p (hp p h1) x h2
    match (b : BxF (Bx n)), h with
    | .leaf nm w h', h =>
      intro x hx
      simp only [wrdV, List.mem_append, List.mem_cons, List.not_mem_nil, or_false] at hx
      rcases hx with ((rfl | rfl) | hx) | hx
      · exact gt_leaf
      · exact gt_name h.1
      · exact gt_sp h.2.1 x hx
      · exact gt_sp h.2.2 x hx
    | .line c nm g ps, h =>
      intro x hx
      simp only [wrdV, List.mem_append, List.mem_cons, List.not_mem_nil, or_false] at hx
      rcases hx with ((((rfl | rfl) | rfl) | rfl) | hx) | rfl
      · exact gt_kind c
      · exact gt_name h.1
      · exact gt_nw h.2.1
      · exact gt_op1
      · exact parts h.2.2.2 x hx
      · exact gt_cl
    | .pile nm ps, h =>
      intro x hx
      simp only [wrdV, List.mem_append, List.mem_cons, List.not_mem_nil, or_false, false_or] at hx
      rcases hx with (((rfl | rfl) | rfl) | hx) | rfl
      · exact gt_pile
      · exact gt_name h.1
      · exact gt_op1
      · exact parts h.2.2 x hx
      · exact gt_cl
    | .rim nm a b c d p, h =>
      obtain ⟨h1, h2, h3, h4, h5, h6⟩ := h
      intro x hx
      simp only [wrdV, List.mem_append, List.mem_cons, List.not_mem_nil, or_false] at hx
      rcases hx with ((rfl | rfl) | rfl | rfl | rfl | rfl) | hx
      · exact gt_rim
      · exact gt_name h1
      · exact gt_nw h2
      · exact gt_nw h3
      · exact gt_nw h4
      · exact gt_nw h5
      · exact tb_words n p h6 x hx
/-! from a place on -/
theorem at_drop {α : Type} {S : List α} {k : Nat} {x : α} {r : List α} (h : S.drop k = x :: r) : S[k]? = some x ∧ S.drop (k + 1) = r := by
  have h1 : (S.drop k)[0]? = some x := by rw [h]; rfl
  rw [List.getElem?_drop, Nat.add_zero] at h1
  refine ⟨h1, ?_⟩
  have h2 : (S.drop k).drop 1 = r := by rw [h]; rfl
  rw [List.drop_drop] at h2
  exact h2
theorem drop_add {α : Type} {S : List α} {k : Nat} {a r : List α} (h : S.drop k = a ++ r) : S.drop (k + a.length) = r := by
  have h2 : (S.drop k).drop a.length = r := by rw [h]; simp
  rw [List.drop_drop] at h2
  exact h2
theorem pNums_ok {S : List Str} : ∀ (ws : List Str) (ds : List D) (k : Nat) (r : List Str), S.drop k = ws ++ r → ws.map numW = ds.map some → pNums S ws.length k = some ds
  | [], [], _, _, _, _ => rfl
  | [], d :: ds, _, _, _, h => by cases h
  | w :: ws, [], _, _, _, h => by cases h
  | w :: ws, d :: ds, k, r, hS, h => by
    obtain ⟨h1, h2⟩ := at_drop (S := S) (k := k) (x := w) (r := ws ++ r) hS
    rw [List.map_cons, List.map_cons] at h
    have hh := List.cons.inj h
    have ih := pNums_ok ws ds (k + 1) r h2 hh.2
    show ((pNum S k).bind fun d => (pNums S ws.length (k + 1)).map (d :: ·)) = _
    have hp : pNum S k = some d := by
      unfold pNum
      rw [h1]
      exact hh.1
    rw [hp, ih]
    rfl
theorem sp_nums {s : Spn} (h : s.Tx) : (spW s).map numW = [PyData.int s.lo, .int s.wi, optD s.mo, .int s.gr, .int s.sh].map some := by
  simp only [spW, List.map_cons, List.map_nil, numW_nw h.lo.1 h.lo.2, numW_nw h.wi.1 h.wi.2, numW_nw h.gr.1 h.gr.2, numW_nw h.sh.1 h.sh.2, numW_op h.mo]
/-- the first word -/
def kdV : (n : Nat) → Bx n → Str
  | 0, b => nomatch b
  | _ + 1, b => match (b : BxF _) with
    | .leaf _ _ _ => "leaf"
    | .line c _ _ _ => kindS c
    | .pile _ _ => "pile"
    | .rim _ _ _ _ _ _ => "rim"
theorem wrd_first : ∀ (n : Nat) (b : Bx n), ∃ r, wrdV n b = kdV n b :: r
  | 0, b => nomatch b
  | n + 1, b => by
    match (b : BxF (Bx n)) with
    | .leaf nm w h' => exact ⟨_, rfl⟩
    | .line c nm g ps => exact ⟨_, rfl⟩
    | .pile nm ps => exact ⟨_, rfl⟩
    | .rim nm a b c d p => exact ⟨_, rfl⟩
theorem kd_cases : ∀ (n : Nat) (b : Bx n), kdV n b = "leaf" ∨ kdV n b = "row" ∨ kdV n b = "col" ∨ kdV n b = "pile" ∨ kdV n b = "rim"
  | 0, b => nomatch b
  | n + 1, b => by
    match (b : BxF (Bx n)) with
    | .leaf nm w h' => exact .inl rfl
    | .line c nm g ps =>
      cases c
      · exact .inr (.inl rfl)
      · exact .inr (.inr (.inl rfl))
    | .pile nm ps => exact .inr (.inr (.inr (.inl rfl)))
    | .rim nm a b c d p => exact .inr (.inr (.inr (.inr rfl)))
theorem kd_ne {n : Nat} (b : Bx n) : (kdV n b == "]") = false := by
  rcases kd_cases n b with h | h | h | h | h <;> rw [h] <;> decide +kernel
/-- what stands behind the boxes: nothing, or the bracket -/
def Ends (r : List Str) : Prop := r = [] ∨ ∃ r', r = ("]" : Str) :: r'
theorem pLoop_ok {n : Nat} {S : List Str} {B : Nat → Option (D × Nat)} (P : Bx n → Prop) (hB : ∀ (p : Bx n) (k : Nat) (r : List Str), P p → S.drop k = wrdV n p ++ r → B k = some (bxD n p, k + (wrdV n p).length)) :
    ∀ (ps : List (Bx n)) (f k : Nat) (acc : List D) (r : List Str), (∀ p ∈ ps, P p) → Ends r → S.drop k = ps.flatMap (wrdV n) ++ r → ps.length + 1 ≤ f → pLoop B S f k acc = some (acc ++ ps.map (bxD n), k + (ps.flatMap (wrdV n)).length)
  | [], f, k, acc, r, _, hr, hS, hf => by
    obtain ⟨f, rfl⟩ : ∃ j, f = j + 1 := ⟨f - 1, by simp at hf; omega⟩
    unfold pLoop
    rw [List.flatMap_nil, List.nil_append] at hS
    rcases hr with rfl | ⟨r', rfl⟩
    · have : S[k]? = none := by
        have h1 : (S.drop k)[0]? = none := by rw [hS]; rfl
        rw [List.getElem?_drop, Nat.add_zero] at h1
        exact h1
      rw [this]
      simp
    · rw [(at_drop hS).1]
      dsimp only
      rw [if_pos (by decide +kernel)]
      simp
  | p :: ps, f, k, acc, r, hp, hr, hS, hf => by
    obtain ⟨f, rfl⟩ : ∃ j, f = j + 1 := ⟨f - 1, by simp at hf; omega⟩
    rw [List.length_cons] at hf
    have hS' : S.drop k = wrdV n p ++ (ps.flatMap (wrdV n) ++ r) := by rw [hS, List.flatMap_cons, List.append_assoc]
    obtain ⟨r0, h0⟩ := wrd_first n p
    have h1 : S[k]? = some (kdV n p) := (at_drop (x := kdV n p) (r := r0 ++ (ps.flatMap (wrdV n) ++ r)) (by rw [hS', h0]; rfl)).1
    unfold pLoop
    rw [h1]
    dsimp only
    rw [if_neg (by rw [kd_ne]; decide), hB p k _ (hp p List.mem_cons_self) hS', Option.bind_some]
    dsimp only
    rw [pLoop_ok P hB ps f _ _ r (fun q hq => hp q (List.mem_cons_of_mem _ hq)) hr (drop_add hS') (by omega)]
    simp [Nat.add_assoc]
theorem flat_ge {n : Nat} : ∀ ps : List (Bx n), ps.length ≤ (ps.flatMap (wrdV n)).length
  | [] => by simp
  | p :: ps => by
    obtain ⟨r0, h0⟩ := wrd_first n p
    have := flat_ge ps
    rw [List.flatMap_cons, List.length_append, h0, List.length_cons, List.length_cons]
    omega
theorem pBoxes_ok {n : Nat} {S : List Str} {B : Nat → Option (D × Nat)} (P : Bx n → Prop) (hB : ∀ (p : Bx n) (k : Nat) (r : List Str), P p → S.drop k = wrdV n p ++ r → B k = some (bxD n p, k + (wrdV n p).length))
    (ps : List (Bx n)) (k : Nat) (r : List Str) (hp : ∀ p ∈ ps, P p) (hS : S.drop k = [("[" : Str)] ++ ps.flatMap (wrdV n) ++ [("]" : Str)] ++ r) : pBoxes B S k = some (.tuple (ps.map (bxD n)), k + 1 + (ps.flatMap (wrdV n)).length + 1) := by
  have hS' : S.drop k = ("[" : Str) :: (ps.flatMap (wrdV n) ++ (("]" : Str) :: r)) := by rw [hS]; simp
  obtain ⟨h1, h2⟩ := at_drop hS'
  have hl : S.length - k = 1 + (ps.flatMap (wrdV n)).length + 1 + r.length := by
    rw [← List.length_drop, hS]
    simp
    omega
  have hg := flat_ge ps
  unfold pBoxes
  rw [h1]
  dsimp only
  rw [if_pos (by decide +kernel), pLoop_ok P hB ps (S.length + 1 - (k + 1)) (k + 1) [] _ hp (.inr ⟨r, rfl⟩) h2 (by omega), Option.bind_some]
  dsimp only
  rw [if_pos (by omega)]
  simp
theorem pBoxes_open {n : Nat} {S : List Str} {B : Nat → Option (D × Nat)} (P : Bx n → Prop) (hB : ∀ (p : Bx n) (k : Nat) (r : List Str), P p → S.drop k = wrdV n p ++ r → B k = some (bxD n p, k + (wrdV n p).length))
    (ps : List (Bx n)) (k : Nat) (hp : ∀ p ∈ ps, P p) (hS : S.drop k = [("[" : Str)] ++ ps.flatMap (wrdV n)) : pBoxes B S k = none := by
  have hS' : S.drop k = ("[" : Str) :: (ps.flatMap (wrdV n) ++ []) := by rw [hS]; simp
  obtain ⟨h1, h2⟩ := at_drop hS'
  have hl : S.length - k = 1 + (ps.flatMap (wrdV n)).length := by
    rw [← List.length_drop, hS]
    simp
    omega
  have hg := flat_ge ps
  unfold pBoxes
  rw [h1]
  dsimp only
  rw [if_pos (by decide +kernel), pLoop_ok P hB ps (S.length + 1 - (k + 1)) (k + 1) [] _ hp (.inl rfl) h2 (by omega), Option.bind_some]
  dsimp only
  rw [if_neg (by omega)]

/-! a box's words are read to it -/
theorem kind_flags (c : Bool) : (kindS c == ("leaf" : Str)) = false ∧ (kindS c == ("rim" : Str)) = false ∧ (kindS c == ("row" : Str) || kindS c == ("col" : Str)) = true := by
  cases c <;> exact ⟨by decide +kernel, by decide +kernel, by decide +kernel⟩
theorem leaf_flag : (("leaf" : Str) == ("leaf" : Str)) = true := by decide +kernel
theorem pile_flags : (("pile" : Str) == ("leaf" : Str)) = false ∧ (("pile" : Str) == ("rim" : Str)) = false ∧ (("pile" : Str) == ("row" : Str) || ("pile" : Str) == ("col" : Str)) = false ∧ (("pile" : Str) == ("pile" : Str)) = true := by
  refine ⟨?_, ?_, ?_, ?_⟩ <;> decide +kernel
theorem rim_flags : (("rim" : Str) == ("leaf" : Str)) = false ∧ (("rim" : Str) == ("rim" : Str)) = true := by
  refine ⟨?_, ?_⟩ <;> decide +kernel
theorem pBox_ok {S : List Str} : ∀ (n deep : Nat) (b : Bx n) (k : Nat) (r : List Str), n ≤ deep → Tb n b → S.drop k = wrdV n b ++ r → pBox S deep k = some (bxD n b, k + (wrdV n b).length)
  | 0, _, b, _, _, _, _, _ => nomatch b
  | n + 1, deep, b, k, r, hd, hb, hS => by
    obtain ⟨deep, rfl⟩ : ∃ j, deep = j + 1 := ⟨deep - 1, by omega⟩
    have ih : ∀ (p : Bx n) (k : Nat) (r : List Str), Tb n p → S.drop k = wrdV n p ++ r → pBox S deep k = some (bxD n p, k + (wrdV n p).length) := fun p k r hp hS => pBox_ok n deep p k r (by omega) hp hS
    have open2 : ∀ {w1 w2 : Str} {x : List Str}, S.drop k = w1 :: w2 :: x → pBox S (deep + 1) k = pRest (pBox S deep) S w1 w2 (k + 2) ∧ S.drop (k + 2) = x := fun {w1 w2 x} h => by
      obtain ⟨a1, a2⟩ := at_drop h
      obtain ⟨b1, b2⟩ := at_drop a2
      refine ⟨?_, b2⟩
      show ((S[k]?).bind fun w1 => (S[k + 1]?).bind fun w2 => pRest (pBox S deep) S w1 w2 (k + 2)) = _
      rw [a1, b1]
      rfl
    match (b : BxF (Bx n)), hb, hS with
    | .leaf nm w h, hb, hS =>
      have hS' : S.drop k = ("leaf" : Str) :: nm :: (spW w ++ (spW h ++ r)) := by rw [hS]; simp [wrdV]
      obtain ⟨e1, e2⟩ := open2 hS'
      have n1 := pNums_ok (S := S) _ _ _ _ e2 (sp_nums hb.2.1)
      have e3 := drop_add e2
      have n2 := pNums_ok (S := S) _ _ _ _ e3 (sp_nums hb.2.2)
      have l5 : (spW w).length = 5 := rfl
      have l5' : (spW h).length = 5 := rfl
      rw [l5] at n1 n2
      rw [l5'] at n2
      rw [e1]
      unfold pRest
      rw [leaf_flag, if_pos rfl, n1, Option.bind_some, n2]
      have hl : (wrdV (n + 1) (BxF.leaf nm w h : BxF (Bx n))).length = 12 := rfl
      rw [hl]
      rfl
    | .line c nm g ps, hb, hS =>
      obtain ⟨h1, h2, h3, h4⟩ := hb
      have hS' : S.drop k = kindS c :: nm :: ([nwS g] ++ ([("[" : Str)] ++ ps.flatMap (wrdV n) ++ [("]" : Str)] ++ r)) := by rw [hS]; simp [wrdV]
      obtain ⟨e1, e2⟩ := open2 hS'
      obtain ⟨f1, f2, f3⟩ := kind_flags c
      have n1 := pNums_ok (S := S) _ [.int g] _ _ e2 (by rw [List.map_cons, numW_nw h2.1 h2.2]; rfl)
      have e3 := drop_add e2
      have l1 : [nwS g].length = 1 := rfl
      rw [l1] at n1 e3
      have n2 := pBoxes_ok (Tb n) ih ps _ r h4 e3
      rw [e1]
      unfold pRest
      rw [f1, if_neg (by decide), f2, if_neg (by decide), f3, if_pos rfl, n1, Option.bind_some, n2]
      have hl : (wrdV (n + 1) (BxF.line c nm g ps : BxF (Bx n))).length = 5 + (ps.flatMap (wrdV n)).length := by
        simp only [wrdV, List.length_append, List.length_cons, List.length_nil]; omega
      rw [hl]
      have e4 : k + 2 + 1 + 1 + (ps.flatMap (wrdV n)).length + 1 = k + (5 + (ps.flatMap (wrdV n)).length) := by omega
      rw [e4]
      rfl
    | .pile nm ps, hb, hS =>
      obtain ⟨h1, h3, h4⟩ := hb
      have hS' : S.drop k = ("pile" : Str) :: nm :: ([("[" : Str)] ++ ps.flatMap (wrdV n) ++ [("]" : Str)] ++ r) := by rw [hS]; simp [wrdV]
      obtain ⟨e1, e2⟩ := open2 hS'
      obtain ⟨f1, f2, f3, f4⟩ := pile_flags
      have n2 := pBoxes_ok (Tb n) ih ps _ r h4 e2
      rw [e1]
      unfold pRest
      rw [f1, if_neg (by decide), f2, if_neg (by decide), f3, if_neg (by decide), f4, if_pos rfl, n2]
      have hl : (wrdV (n + 1) (BxF.pile nm ps : BxF (Bx n))).length = 4 + (ps.flatMap (wrdV n)).length := by
        simp only [wrdV, List.length_append, List.length_cons, List.length_nil]; omega
      rw [hl]
      have e4 : k + 2 + 1 + (ps.flatMap (wrdV n)).length + 1 = k + (4 + (ps.flatMap (wrdV n)).length) := by omega
      rw [e4]
      rfl
    | .rim nm a b' c d p, hb, hS =>
      obtain ⟨h1, h2, h3, h4, h5, h6⟩ := hb
      have hS' : S.drop k = ("rim" : Str) :: nm :: ([nwS a, nwS b', nwS c, nwS d] ++ (wrdV n p ++ r)) := by rw [hS]; simp [wrdV]
      obtain ⟨e1, e2⟩ := open2 hS'
      obtain ⟨f1, f2⟩ := rim_flags
      have n1 := pNums_ok (S := S) _ [.int a, .int b', .int c, .int d] _ _ e2 (by simp only [List.map_cons, List.map_nil, numW_nw h2.1 h2.2, numW_nw h3.1 h3.2, numW_nw h4.1 h4.2, numW_nw h5.1 h5.2])
      have e3 := drop_add e2
      have l4 : [nwS a, nwS b', nwS c, nwS d].length = 4 := rfl
      rw [l4] at n1 e3
      have n2 := ih p _ r h6 e3
      rw [e1]
      unfold pRest
      rw [f1, if_neg (by decide), f2, if_pos rfl, n1, Option.bind_some, n2]
      have hl : (wrdV (n + 1) (BxF.rim nm a b' c d p : BxF (Bx n))).length = 6 + (wrdV n p).length := by
        simp only [wrdV, List.length_append, List.length_cons, List.length_nil]
      rw [hl]
      have e4 : k + 2 + 4 + (wrdV n p).length = k + (6 + (wrdV n p).length) := by omega
      rw [e4]
      rfl
/-! a box by shape has such words -/
theorem wh_of {d : D} {lo hi : Int} (h : whB d lo hi = true) : ∃ i, d = .int i ∧ lo ≤ i ∧ i ≤ hi := by
  unfold whB at h
  split at h
  · rw [Bool.and_eq_true, decide_eq_true_eq, decide_eq_true_eq] at h
    exact ⟨_, rfl, h.1, h.2⟩
  · cases h
theorem mk_tx {a b e f : Int} {o : Option Int} (h1 : 0 ≤ a ∧ a ≤ 999) (h2 : 0 ≤ b ∧ b ≤ 999) (h3 : ∀ m, o = some m → 0 ≤ m ∧ m ≤ 999) (h4 : 0 ≤ e ∧ e ≤ 999) (h5 : 0 ≤ f ∧ f ≤ 999) : (⟨a, b, o, e, f⟩ : Spn).Tx := ⟨h1, h2, h3, h4, h5⟩
theorem spn_ex {d : D} (h : spanB d = true) : ∃ s : Spn, d = spD s ∧ s.Tx := by
  unfold spanB at h
  split at h
  · rename_i a b c e f
    simp only [Bool.and_eq_true] at h
    obtain ⟨⟨⟨⟨h1, h2⟩, h3⟩, h4⟩, h5⟩ := h
    obtain ⟨a', ea, a1, a2⟩ := wh_of h1
    obtain ⟨b', eb, b1, b2⟩ := wh_of h2
    obtain ⟨e', rfl, e1, e2⟩ := wh_of h3
    obtain ⟨f', rfl, f1, f2⟩ := wh_of h4
    cases ea
    cases eb
    unfold moB at h5
    split at h5
    · exact ⟨⟨a, b, none, e', f'⟩, rfl, mk_tx ⟨a1, a2⟩ ⟨Int.le_trans a1 b1, b2⟩ (fun m hm => nomatch hm) ⟨e1, Int.le_trans e2 (by decide)⟩ ⟨f1, Int.le_trans f2 (by decide)⟩⟩
    · obtain ⟨c', rfl, c1, c2⟩ := wh_of h5
      exact ⟨⟨a, b, some c', e', f'⟩, rfl, mk_tx ⟨a1, a2⟩ ⟨Int.le_trans a1 b1, b2⟩ (fun m hm => by cases hm; exact ⟨Int.le_trans (Int.le_trans a1 b1) c1, c2⟩) ⟨e1, Int.le_trans e2 (by decide)⟩ ⟨f1, Int.le_trans f2 (by decide)⟩⟩
  · cases h
theorem parts_ex {n : Nat} : ∀ {xs : List D}, (∀ y ∈ xs, ∃ b : Bx n, y = bxD n b ∧ Tb n b) → ∃ ps : List (Bx n), xs = ps.map (bxD n) ∧ ∀ p ∈ ps, Tb n p
  | [], _ => ⟨[], rfl, fun p hp => nomatch hp⟩
  | x :: xs, h => by
    obtain ⟨b, e, hb⟩ := h x List.mem_cons_self
    obtain ⟨ps, e2, hp⟩ := parts_ex (xs := xs) fun y hy => h y (List.mem_cons_of_mem _ hy)
    refine ⟨b :: ps, by rw [e, e2]; rfl, fun p q => ?_⟩
    rcases List.mem_cons.mp q with rfl | q
    · exact hb
    · exact hp p q
theorem sh_ex : ∀ (n : Nat) (d : D), shB n d = true → ∃ b : Bx n, d = bxD n b ∧ Tb n b
  | 0, _, h => by cases h
  | n + 1, d, h => by
    have h' : shS (shB n) d = true := h
    unfold shS at h'
    split at h'
    · rename_i w nm r
      rw [Bool.and_eq_true] at h'
      obtain ⟨hn, hr⟩ := h'
      obtain ⟨x, rfl⟩ := name_str hn
      unfold shR at hr
      split at hr
      · rename_i hw
        subst hw
        unfold leR at hr
        split at hr
        · rename_i a b
          rw [Bool.and_eq_true] at hr
          obtain ⟨s1, rfl, t1⟩ := spn_ex hr.1
          obtain ⟨s2, rfl, t2⟩ := spn_ex hr.2
          exact ⟨(BxF.leaf x s1 s2 : BxF (Bx n)), rfl, hn, t1, t2⟩
        · cases hr
      · split at hr
        · rename_i hw
          have hk : ∃ c, w = kindS c := by
            rcases hw with rfl | rfl
            · exact ⟨false, rfl⟩
            · exact ⟨true, rfl⟩
          obtain ⟨c, rfl⟩ := hk
          unfold liR at hr
          split at hr
          · rename_i g bs
            rw [Bool.and_eq_true] at hr
            obtain ⟨g', rfl, g1, g2⟩ := wh_of hr.1
            obtain ⟨xs, rfl, l1, l2, hx⟩ := bsB_tup hr.2
            obtain ⟨ps, rfl, hp⟩ := parts_ex fun y hy => sh_ex n y (hx y hy)
            rw [List.length_map] at l2
            exact ⟨(BxF.line c x g' ps : BxF (Bx n)), rfl, hn, ⟨g1, g2⟩, by omega, hp⟩
          · cases hr
        · split at hr
          · rename_i hw
            subst hw
            unfold piR at hr
            split at hr
            · obtain ⟨xs, rfl, l1, l2, hx⟩ := bsB_tup hr
              obtain ⟨ps, rfl, hp⟩ := parts_ex fun y hy => sh_ex n y (hx y hy)
              rw [List.length_map] at l2
              exact ⟨(BxF.pile x ps : BxF (Bx n)), rfl, hn, by omega, hp⟩
            · cases hr
          · split at hr
            · rename_i hw
              subst hw
              unfold riR at hr
              split at hr
              · simp only [Bool.and_eq_true] at hr
                obtain ⟨⟨⟨⟨h1, h2⟩, h3⟩, h4⟩, h5⟩ := hr
                obtain ⟨a1, rfl, a2, a3⟩ := wh_of h1
                obtain ⟨b1, rfl, b2, b3⟩ := wh_of h2
                obtain ⟨c1, rfl, c2, c3⟩ := wh_of h3
                obtain ⟨d1, rfl, d2, d3⟩ := wh_of h4
                obtain ⟨p, rfl, hp⟩ := sh_ex n _ h5
                exact ⟨(BxF.rim x a1 b1 c1 d1 p : BxF (Bx n)), rfl, hn, ⟨a2, a3⟩, ⟨b2, b3⟩, ⟨c2, c3⟩, ⟨d2, d3⟩, hp⟩
              · cases hr
            · cases hr
    · cases h'

/-! unlike boxes are unlike data -/
theorem opt_inj {a b : Option Int} (h : optD a = optD b) : a = b := by
  cases a <;> cases b
  · rfl
  · cases h
  · cases h
  · cases h; rfl
theorem spD_inj {s t : Spn} (h : spD s = spD t) : s = t := by
  have h0 : ([PyData.int s.lo, .int s.wi, optD s.mo, .int s.gr, .int s.sh] : List D) = [.int t.lo, .int t.wi, optD t.mo, .int t.gr, .int t.sh] := PyData.tuple.inj h
  simp only [List.cons.injEq, PyData.int.injEq, and_true] at h0
  obtain ⟨h1, h2, h3, h4, h5⟩ := h0
  have h3 := opt_inj h3
  cases s; cases t
  simp only at h1 h2 h3 h4 h5
  rw [h1, h2, h3, h4, h5]
theorem kind_inj {a b : Bool} (h : kindS a = kindS b) : a = b := by
  cases a <;> cases b
  · rfl
  · exact absurd h (by decide +kernel)
  · exact absurd h (by decide +kernel)
  · rfl
theorem map_inj {α β : Type} {f : α → β} (hf : ∀ a b, f a = f b → a = b) : ∀ {xs ys : List α}, xs.map f = ys.map f → xs = ys
  | [], [], _ => rfl
  | [], _ :: _, h => by cases h
  | _ :: _, [], h => by cases h
  | x :: xs, y :: ys, h => by
    rw [List.map_cons, List.map_cons] at h
    have := List.cons.inj h
    rw [hf x y this.1, map_inj hf this.2]
theorem kind_leaf {c : Bool} (h : kindS c = "leaf") : False := by
  cases c <;> exact absurd h (by decide +kernel)
theorem kind_rim {c : Bool} (h : kindS c = "rim") : False := by
  cases c <;> exact absurd h (by decide +kernel)
theorem tup_len {xs ys : List D} (h : PyData.tuple xs = PyData.tuple ys) : xs.length = ys.length := by rw [PyData.tuple.inj h]
theorem bx_inj : ∀ (n : Nat) (b b' : Bx n), bxD n b = bxD n b' → b = b'
  | 0, b, _, _ => nomatch b
  | n + 1, b, b', h => by
    match (b : BxF (Bx n)), (b' : BxF (Bx n)), h with
    | .leaf nm w h1, .leaf nm' w' h1', h =>
      have h0 : ([PyData.str "leaf", .str nm, spD w, spD h1] : List D) = [.str "leaf", .str nm', spD w', spD h1'] := PyData.tuple.inj h
      simp only [List.cons.injEq, PyData.str.injEq, and_true, true_and] at h0
      rw [h0.1, spD_inj h0.2.1, spD_inj h0.2.2]
    | .leaf nm w h1, .line c nm' g ps, h =>
      have h0 : ([PyData.str "leaf", .str nm, spD w, spD h1] : List D) = [.str (kindS c), .str nm', .int g, .tuple (ps.map (bxD n))] := PyData.tuple.inj h
      simp only [List.cons.injEq, PyData.str.injEq] at h0
      exact (kind_leaf h0.1.symm).elim
    | .leaf nm w h1, .pile nm' ps, h => exact absurd (tup_len (show PyData.tuple _ = PyData.tuple _ from h)) (by simp)
    | .leaf nm w h1, .rim nm' a b c d p, h => exact absurd (tup_len (show PyData.tuple _ = PyData.tuple _ from h)) (by simp)
    | .line c nm' g ps, .leaf nm w h1, h =>
      have h0 : ([PyData.str (kindS c), .str nm', .int g, .tuple (ps.map (bxD n))] : List D) = [.str "leaf", .str nm, spD w, spD h1] := PyData.tuple.inj h
      simp only [List.cons.injEq, PyData.str.injEq] at h0
      exact (kind_leaf h0.1).elim
    | .line c nm g ps, .line c' nm' g' ps', h =>
      have h0 : ([PyData.str (kindS c), .str nm, .int g, .tuple (ps.map (bxD n))] : List D) = [.str (kindS c'), .str nm', .int g', .tuple (ps'.map (bxD n))] := PyData.tuple.inj h
      simp only [List.cons.injEq, PyData.str.injEq, PyData.int.injEq, PyData.tuple.injEq, and_true] at h0
      rw [kind_inj h0.1, h0.2.1, h0.2.2.1, map_inj (bx_inj n) h0.2.2.2]
    | .line c nm g ps, .pile nm' ps', h => exact absurd (tup_len (show PyData.tuple _ = PyData.tuple _ from h)) (by simp)
    | .line c nm g ps, .rim nm' a b c' d p, h => exact absurd (tup_len (show PyData.tuple _ = PyData.tuple _ from h)) (by simp)
    | .pile nm' ps', .leaf nm w h1, h => exact absurd (tup_len (show PyData.tuple _ = PyData.tuple _ from h)) (by simp)
    | .pile nm' ps', .line c nm g ps, h => exact absurd (tup_len (show PyData.tuple _ = PyData.tuple _ from h)) (by simp)
    | .pile nm ps, .pile nm' ps', h =>
      have h0 : ([PyData.str "pile", .str nm, .tuple (ps.map (bxD n))] : List D) = [.str "pile", .str nm', .tuple (ps'.map (bxD n))] := PyData.tuple.inj h
      simp only [List.cons.injEq, PyData.str.injEq, PyData.tuple.injEq, and_true, true_and] at h0
      rw [h0.1, map_inj (bx_inj n) h0.2]
    | .pile nm' ps', .rim nm a b c d p, h => exact absurd (tup_len (show PyData.tuple _ = PyData.tuple _ from h)) (by simp)
    | .rim nm' a b c d p, .leaf nm w h1, h => exact absurd (tup_len (show PyData.tuple _ = PyData.tuple _ from h)) (by simp)
    | .rim nm' a b c d p, .line c' nm g ps, h => exact absurd (tup_len (show PyData.tuple _ = PyData.tuple _ from h)) (by simp)
    | .rim nm' a b c d p, .pile nm ps, h => exact absurd (tup_len (show PyData.tuple _ = PyData.tuple _ from h)) (by simp)
    | .rim nm a b c d p, .rim nm' a' b' c' d' p', h =>
      have h0 : ([PyData.str "rim", .str nm, .int a, .int b, .int c, .int d, bxD n p] : List D) = [.str "rim", .str nm', .int a', .int b', .int c', .int d', bxD n p'] := PyData.tuple.inj h
      simp only [List.cons.injEq, PyData.str.injEq, PyData.int.injEq, and_true, true_and] at h0
      obtain ⟨h1, h2, h3, h4, h5, h6⟩ := h0
      rw [h1, h2, h3, h4, h5, bx_inj n p p' h6]

/-! read(text) -/
theorem dig_le {w : Str} (h : figB w = true) : PySem.NumText.digitsVal w.cps.toList ≤ 999 := by
  unfold figB at h
  rw [Bool.and_eq_true, decide_eq_true_eq] at h
  obtain ⟨⟨h1, h2⟩, h3⟩ := h
  have hl : w.cps.toList.length = w.length := Array.length_toList
  have h4 : ∀ c ∈ w.cps.toList, c - 48 ≤ 9 := fun c hc => by
    have := of_decide_eq_true (List.all_eq_true.mp h3 c hc)
    omega
  generalize w.cps.toList = cs at *
  unfold PySem.NumText.digitsVal
  match cs, hl, h4 with
  | [], _, _ => decide
  | [a], _, h4 =>
    have := h4 a (by simp)
    simp only [List.foldl_cons, List.foldl_nil]
    omega
  | [a, b], _, h4 =>
    have := h4 a (by simp)
    have := h4 b (by simp)
    simp only [List.foldl_cons, List.foldl_nil]
    omega
  | [a, b, c], _, h4 =>
    have := h4 a (by simp)
    have := h4 b (by simp)
    have := h4 c (by simp)
    simp only [List.foldl_cons, List.foldl_nil]
    omega
  | a :: b :: c :: d :: r, hl, _ => simp at hl; omega
theorem pl_num {w : Str} {d : D} {n : Nat} (h : numW w = some d) : pl false 10000 n d = true := by
  rw [numW_eq] at h
  split at h
  · cases h
    cases n <;> rfl
  · split at h
    · rename_i hf
      cases h
      have := dig_le hf
      exact pl_int.mpr (by omega)
    · cases h
theorem pl_nums {S : List Str} {n : Nat} : ∀ (k m : Nat) (ds : List D), pNums S k m = some ds → ∀ d ∈ ds, pl false 10000 n d = true
  | 0, _, ds, h => by cases h; intro d hd; cases hd
  | k + 1, m, ds, h => by
    unfold pNums at h
    obtain ⟨d, h1, h⟩ := Option.bind_eq_some_iff.mp h
    obtain ⟨es, h2, rfl⟩ := Option.map_eq_some_iff.mp h
    intro x hx
    rcases List.mem_cons.mp hx with rfl | hx
    · unfold pNum at h1
      obtain ⟨w, _, hw⟩ := Option.bind_eq_some_iff.mp h1
      exact pl_num hw
    · exact pl_nums k _ es h2 x hx
theorem pLoop_pl {S : List Str} {B : Nat → Option (D × Nat)} {P : D → Prop} (hB : ∀ n p, B n = some p → P p.1) : ∀ (f n : Nat) (acc ds : List D) (m : Nat), (∀ d ∈ acc, P d) → pLoop B S f n acc = some (ds, m) → (∀ d ∈ ds, P d) ∧ ds.length ≤ acc.length + f
  | 0, _, _, _, _, _, h => by cases h
  | f + 1, n, acc, ds, m, ha, h => by
    unfold pLoop at h
    split at h
    · split at h
      · cases h; exact ⟨ha, by omega⟩
      · obtain ⟨p, h1, h⟩ := Option.bind_eq_some_iff.mp h
        have := pLoop_pl hB f p.2 _ ds m (fun d hd => by
          rcases List.mem_append.mp hd with hd | hd
          · exact ha d hd
          · rw [List.mem_singleton.mp hd]; exact hB n p h1) h
        refine ⟨this.1, ?_⟩
        have := this.2
        rw [List.length_append, List.length_singleton] at this
        omega
    · cases h; exact ⟨ha, by omega⟩
theorem pBoxes_pl {S : List Str} (hl : S.length ≤ 10000) {B : Nat → Option (D × Nat)} {N : Nat} (hB : ∀ n p, B n = some p → pl false 10000 N p.1 = true) {n : Nat} {p : D × Nat} (h : pBoxes B S n = some p) : pl false 10000 (N + 1) p.1 = true := by
  unfold pBoxes at h
  split at h
  · split at h
    · obtain ⟨q, h1, h⟩ := Option.bind_eq_some_iff.mp h
      split at h
      · cases h
        have := pLoop_pl (P := fun d => pl false 10000 N d = true) hB _ _ _ q.1 q.2 (fun d hd => by cases hd) h1
        have h2 := this.2
        rw [List.length_nil] at h2
        exact pl_tup.mpr ⟨by omega, this.1⟩
      · cases h
    · cases h
  · cases h
theorem pl_up {n m : Nat} {d : D} (h : pl false 10000 n d = true) (hn : n ≤ m) : pl false 10000 m d = true := pl_mono (fun q => q) (Nat.le_refl _) n m d hn h
theorem pBox_pl {S : List Str} (hS : ∀ w ∈ S, goodW w) (hl : S.length ≤ 10000) : ∀ (deep n : Nat) (p : D × Nat), pBox S deep n = some p → pl false 10000 (2 * deep) p.1 = true
  | 0, _, _, h => by cases h
  | deep + 1, n, p, h => by
    have ih : ∀ n p, pBox S deep n = some p → pl false 10000 (2 * deep) p.1 = true := fun n p h => pBox_pl hS hl deep n p h
    unfold pBox at h
    obtain ⟨w1, hw1, h⟩ := Option.bind_eq_some_iff.mp h
    obtain ⟨w2, hw2, h⟩ := Option.bind_eq_some_iff.mp h
    have g1 := hS w1 (List.mem_of_getElem? hw1)
    have g2 := hS w2 (List.mem_of_getElem? hw2)
    have s1 : pl false 10000 (2 * deep + 1) (.str w1) = true := pl_str.mpr g1
    have s2 : pl false 10000 (2 * deep + 1) (.str w2) = true := pl_str.mpr g2
    have tp : ∀ {xs : List D}, xs.length ≤ 7 → (∀ x ∈ xs, pl false 10000 (2 * deep + 1) x = true) → pl false 10000 (2 * (deep + 1)) (.tuple xs) = true := fun {xs} q1 q2 => pl_tup (n := 2 * deep + 1) |>.mpr ⟨by omega, q2⟩
    unfold pRest at h
    split at h
    · obtain ⟨a, ha, h⟩ := Option.bind_eq_some_iff.mp h
      obtain ⟨b, hb, rfl⟩ := Option.map_eq_some_iff.mp h
      have la := pNums_le 5 _ a ha (by have := (List.getElem?_eq_some_iff.mp hw2).1; omega)
      have lb := pNums_le 5 _ b hb la.1
      refine tp (by simp) fun x hx => ?_
      simp only [List.mem_cons, List.not_mem_nil, or_false] at hx
      rcases hx with rfl | rfl | rfl | rfl
      · exact s1
      · exact s2
      · exact pl_tup (n := 2 * deep) |>.mpr ⟨by omega, pl_nums 5 _ a ha⟩
      · exact pl_tup (n := 2 * deep) |>.mpr ⟨by omega, pl_nums 5 _ b hb⟩
    · split at h
      · obtain ⟨a, ha, h⟩ := Option.bind_eq_some_iff.mp h
        obtain ⟨q, hq, rfl⟩ := Option.map_eq_some_iff.mp h
        have la := pNums_le 4 _ a ha (by have := (List.getElem?_eq_some_iff.mp hw2).1; omega)
        refine tp (by simp [la.2]) fun x hx => ?_
        simp only [List.mem_append, List.mem_cons, List.not_mem_nil, or_false] at hx
        rcases hx with ((rfl | rfl) | hx) | rfl
        · exact s1
        · exact s2
        · exact pl_nums 4 _ a ha x hx
        · exact pl_up (ih _ _ hq) (by omega)
      · split at h
        · obtain ⟨a, ha, h⟩ := Option.bind_eq_some_iff.mp h
          obtain ⟨q, hq, rfl⟩ := Option.map_eq_some_iff.mp h
          have la := pNums_le 1 _ a ha (by have := (List.getElem?_eq_some_iff.mp hw2).1; omega)
          refine tp (by simp [la.2]) fun x hx => ?_
          simp only [List.mem_append, List.mem_cons, List.not_mem_nil, or_false] at hx
          rcases hx with ((rfl | rfl) | hx) | rfl
          · exact s1
          · exact s2
          · exact pl_nums 1 _ a ha x hx
          · exact pBoxes_pl hl ih hq
        · split at h
          · obtain ⟨q, hq, rfl⟩ := Option.map_eq_some_iff.mp h
            refine tp (by simp) fun x hx => ?_
            simp only [List.mem_cons, List.not_mem_nil, or_false] at hx
            rcases hx with rfl | rfl | rfl
            · exact s1
            · exact s2
            · exact pBoxes_pl hl ih hq
          · cases h
/-- words that a text has -/
structure Wds (ws : List Str) : Prop where
  ne : ws ≠ []
  nb : ∀ w ∈ ws, nb w
  ok : ∀ w ∈ ws, goodW w
  len : ws.length ≤ 9000
  tot : (jw ws).length ≤ 90000
theorem e_mthX1 {L : LamT} {n : Int} {M : MR} {x : D} {fa : FA} {ds : List D} (hf : fa [some (.sh x), some (.fn L n), none] = some ds) (hl : ds.length = 1) : mthX 1 2 M fa [some (.sh x), some (.fn L n), none] = (M L.ws n ds).map fun r => match r with
    | some (d, n') => .val d [some (.sh x), some (.fn L n'), none]
    | none => .exc := by
  unfold mthX
  rw [hf]
  show (if sole 1 0 [some (.sh x), some (.fn L n), none] = true ∧ ds.length + 1 = 2 then _ else _) = _
  rw [if_pos ⟨rfl, by omega⟩]
  rfl
theorem box_text {d : D} (h : boxB d = true) : ∃ b : Bx 4, d = bxD 4 b ∧ Tb 4 b := by
  unfold boxB at h
  rw [Bool.and_eq_true] at h
  exact sh_ex 4 d h.1
def mOut (T : Str) (L : LamT) : Option (D × Nat) → Out
  | some p => .val p.1 [some (.sh (.str T)), some (.fn L (p.2 : Int)), none]
  | none => .exc
def RdP (ws : List Str) (o : Option D) : Option (D × Nat) → Prop
  | none => o = none
  | some p => (boxB p.1 = false ∧ o = none) ∨ ∃ b : Bx 4, p.1 = bxD 4 b ∧ boxB (bxD 4 b) = true ∧ ((jw (wrdV 4 b) ≠ jw ws ∧ o = none) ∨ (jw (wrdV 4 b) = jw ws ∧ o = some (bxD 4 b)))
theorem read_body {ws : List Str} (h : Wds ws) {r : Option (D × Nat)} (hp : pBox ws 6 0 = r) {o : Option D} (hr : RdP ws o r) :
    M_read [.str (jw ws)] = some o := by
  have hok : PyData.strOk (jw ws) = true := jw_ok ws fun x hx => (h.ok x hx).1
  have hsp : splA (vr 0) (cst (.str " ")) [some (.sh (.str (jw ws))), none, none] = some (ws.map PyData.str) := by
    rw [e_splA]
    show (if ((" " : Str).length == 0) = false ∧ sml ((jw ws).length + 2) = true then some ((Txt.split (jw ws) " ").map PyData.str) else none) = _
    have hs : sml ((jw ws).length + 2) = true := sml_of (by have := h.tot; omega)
    rw [if_pos ⟨by decide +kernel, hs⟩, split_jw h.ne h.nb]
  have hl := h.len
  have hb := Rbox_eq h.ok (by omega) 6 14 0 (by decide) (Nat.zero_le _)
  rw [hp] at hb
  have e6 : ((6 : Nat) : Int) = 6 := rfl
  have e0 : ((0 : Nat) : Int) = 0 := rfl
  rw [e6, e0] at hb
  have m1 : ∀ L : LamT, L.ws = ws.map PyData.str → mthX 1 2 (M_Rbox 14) (consA (cst (.int 6)) nilA) [some (.sh (.str (jw ws))), some (.fn L 0), none] = some (mOut (jw ws) L r) := fun L hL => by
    rw [e_mthX1 (ds := [.int 6]) rfl rfl, hL, hb]
    cases r <;> rfl
  have i1 : ∀ (L : LamT) (n : Int) (x z : Option Sl), isRd 1 [x, some (.fn L n), z] = true := fun _ _ _ _ => rfl
  have is1 : isiD .str (.str (jw ws)) = some (.bool true) := rfl
  have smk : ∀ x : D, sMake 1 (lstE (splA (vr 0) (cst (.str " ")))) [some (.sh (.str (jw ws))), none, none] = some (.nx [some (.sh (.str (jw ws))), some (.fn ⟨ws.map PyData.str, none⟩ 0), none]) := fun _ => by
    unfold sMake
    show ((lstE (splA (vr 0) (cst (.str " ")))) [some (.sh (.str (jw ws))), none, none]).bind _ = _
    have : (lstE (splA (vr 0) (cst (.str " ")))) [some (.sh (.str (jw ws))), none, none] = some (.list (ws.map PyData.str)) := by
      show ((splA (vr 0) (cst (.str " "))) [some (.sh (.str (jw ws))), none, none]).map _ = _
      rw [hsp]
      rfl
    rw [this]
    rfl
  have smk := smk .none
  have m1 := m1 ⟨ws.map PyData.str, none⟩ rfl
  generalize (⟨ws.map PyData.str, none⟩ : LamT) = L at *
  have run : ∀ {x : Option FlX}, D_read [some (.sh (.str (jw ws))), none, none] = x → M_read [.str (jw ws)] = x.bind fun r => match r with
      | .rt d _ => some (some d)
      | .nx _ => some (some .none)
      | .exc => some none := fun {x} hx => by
    subst hx
    rfl
  cases r with
  | none =>
    have hr' : o = none := hr
    subst hr'
    have : D_read [some (.sh (.str (jw ws))), none, none] = some .exc := by
      generalize jw ws = T at *
      simp -implicitDefEqProofs [D_read, is1, smk, m1, i1, mOut]
    rw [run this]
    rfl
  | some p =>
    have hpl := pBox_pl h.ok (by omega) 6 0 p hp
    have ib := Pisbox_eq (L := 10000) (Nat.le_refl _) hpl
    have m1 : mthX 1 2 (M_Rbox 14) (consA (cst (.int 6)) nilA) [some (.sh (.str (jw ws))), some (.fn L 0), none] = some (.val p.1 [some (.sh (.str (jw ws))), some (.fn L (p.2 : Int)), none]) := m1
    have hr' : (boxB p.1 = false ∧ o = none) ∨ ∃ b : Bx 4, p.1 = bxD 4 b ∧ boxB (bxD 4 b) = true ∧ ((jw (wrdV 4 b) ≠ jw ws ∧ o = none) ∨ (jw (wrdV 4 b) = jw ws ∧ o = some (bxD 4 b))) := hr
    rcases hr' with ⟨h1, rfl⟩ | ⟨b, e, h1, h2⟩
    · rw [h1] at ib
      have : D_read [some (.sh (.str (jw ws))), none, none] = some .exc := by
        generalize jw ws = T at *
        generalize p.1 = d at *
        simp -implicitDefEqProofs [D_read, is1, smk, m1, i1, mOut, ib]
      rw [run this]
      rfl
    · obtain ⟨b', e', hb'⟩ := box_text h1
      have wt : M_written [bxD 4 b'] = some (.str (jw (wrdV 4 b'))) := written_eq (by decide) (tb_nb 4 b' hb')
      have hbb : b' = b := bx_inj 4 b' b e'.symm
      subst hbb
      rw [e, h1] at ib
      rw [e] at m1
      have okb : PyData.strOk (jw (wrdV 4 b')) = true := jw_ok _ fun x hx => (tb_words 4 b' hb' x hx).2.1
      have hne := ne_sts okb hok
      rcases h2 with ⟨h2, rfl⟩ | ⟨h2, rfl⟩
      · have hz : (jw (wrdV 4 b') == jw ws) = false := beq_eq_false_iff_ne.mpr h2
        rw [hz] at hne
        have : D_read [some (.sh (.str (jw ws))), none, none] = some .exc := by
          generalize jw ws = T at *
          generalize jw (wrdV 4 b') = T' at *
          generalize bxD 4 b' = d at *
          simp -implicitDefEqProofs [D_read, is1, smk, m1, i1, mOut, ib, wt, hne]
        rw [run this]
        rfl
      · have hz : (jw (wrdV 4 b') == jw ws) = true := by rw [h2]; exact beq_self_eq_true _
        rw [hz] at hne
        have : ∃ env, D_read [some (.sh (.str (jw ws))), none, none] = some (.rt (bxD 4 b') env) := by
          generalize jw ws = T at *
          generalize jw (wrdV 4 b') = T' at *
          generalize bxD 4 b' = d at *
          refine ⟨[some (.sh (.str T)), some (.fn L (p.2 : Int)), some (.sh d)], ?_⟩
          simp -implicitDefEqProofs [D_read, is1, smk, m1, i1, mOut, ib, wt, hne]
        obtain ⟨env, this⟩ := this
        rw [run this]
        rfl
theorem wrd_len_le {n : Nat} {b : Bx n} (hn : n ≤ 4) (hb : Tb n b) : (wrdV n b).length ≤ 14000 := by
  have := (wrd_ok n b (tb_nb n b hb)).1
  have := capW_lt hn
  omega
theorem wds_of {ws : List Str} (h1 : ws ≠ []) (h2 : ∀ w ∈ ws, goodT w) (h3 : ws.length ≤ 9000) : Wds ws where
  ne := h1
  nb := fun w hw => (h2 w hw).1
  ok := fun w hw => ⟨(h2 w hw).2.1, by have := (h2 w hw).2.2; omega⟩
  len := h3
  tot := by have := jw_len ws 4 fun w hw => (h2 w hw).2.2; omega
/-- the words of a box -/
theorem wds_bx {n : Nat} {b : Bx n} (h : Tb n b) (hl : (wrdV n b).length ≤ 9000) : Wds (wrdV n b) := by
  refine wds_of ?_ (tb_words n b h) hl
  obtain ⟨r, e⟩ := wrd_first n b
  rw [e]
  simp
theorem pBox_whole {n : Nat} {b : Bx n} (h : Tb n b) (hn : n ≤ 6) (r : List Str) : pBox (wrdV n b ++ r) 6 0 = some (bxD n b, (wrdV n b).length) := by
  have := pBox_ok (S := wrdV n b ++ r) n 6 b 0 r hn h rfl
  rw [Nat.zero_add] at this
  exact this
/-- a box's text is read to it -/
theorem read_yes {b : Bx 4} (hb : boxB (bxD 4 b) = true) (hl : (wrdV 4 b).length ≤ 9000) : M_read [.str (jw (wrdV 4 b))] = some (some (bxD 4 b)) := by
  obtain ⟨b', e, ht⟩ := box_text hb
  have hbb := bx_inj 4 b b' e
  subst hbb
  have hp := pBox_whole ht (by decide) []
  rw [List.append_nil] at hp
  exact read_body (wds_bx ht hl) hp (.inr ⟨b, rfl, hb, .inr ⟨rfl, rfl⟩⟩)
theorem read_noP {ws : List Str} (h : Wds ws) (hp : pBox ws 6 0 = none) : M_read [.str (jw ws)] = some none := read_body h hp rfl
theorem read_noB {ws : List Str} (h : Wds ws) {p : D × Nat} (hp : pBox ws 6 0 = some p) (hb : boxB p.1 = false) : M_read [.str (jw ws)] = some none := read_body h hp (.inl ⟨hb, rfl⟩)
/-- none of the form -/
theorem read_no {n : Nat} {b : Bx n} (h : Tb n b) (hn : n ≤ 6) (hb : boxB (bxD n b) = false) (hl : (wrdV n b).length ≤ 9000) : M_read [.str (jw (wrdV n b))] = some none := by
  have hp := pBox_whole h hn []
  rw [List.append_nil] at hp
  exact read_noB (wds_bx h hl) hp hb
/-- a text that goes on behind the box -/
theorem read_more {n : Nat} {b : Bx n} (h : Tb n b) (hn : n ≤ 6) {r : List Str} (hr : r ≠ []) (hw : Wds (wrdV n b ++ r)) : M_read [.str (jw (wrdV n b ++ r))] = some none := by
  have hp := pBox_whole h hn r
  cases hb : boxB (bxD n b) with
  | false => exact read_noB hw hp hb
  | true =>
    obtain ⟨b', e, ht⟩ := box_text hb
    refine read_body hw hp (.inr ⟨b', e, by rw [← e]; exact hb, .inl ⟨fun z => ?_, rfl⟩⟩)
    have hp' := pBox_whole ht (by decide) []
    rw [List.append_nil] at hp'
    have e2 := jw_inj _ _ (by obtain ⟨r, e⟩ := wrd_first 4 b'; rw [e]; simp) hw.ne (fun w q => (tb_words 4 b' ht w q).1) hw.nb z
    rw [e2, hp] at hp'
    have e3 := (Prod.mk.inj (Option.some.inj hp')).2
    rw [← e2] at hw
    have e4 := congrArg List.length e2
    rw [List.length_append] at e4
    have : r.length ≠ 0 := fun q => hr (List.eq_nil_of_length_eq_zero q)
    rw [List.length_append] at e3
    omega

/-! names, in the order of places -/
def nmsV : (n : Nat) → Bx n → List Str
  | 0, b => nomatch b
  | n + 1, b => bxN (n + 1) b :: (inB b).flatMap (nmsV n)
theorem flatMap_congr' {α β : Type} {f g : α → List β} : ∀ {xs : List α}, (∀ x ∈ xs, f x = g x) → xs.flatMap f = xs.flatMap g
  | [], _ => rfl
  | x :: xs, h => by rw [List.flatMap_cons, List.flatMap_cons, h x List.mem_cons_self, flatMap_congr' fun y q => h y (List.mem_cons_of_mem _ q)]
theorem strOk_ch {nm : Str} {k : Nat} (h : PyData.strOk nm = true) (hk : k < 4) : PyData.strOk (nm ++ chS k) = true := by
  show (nm.cps ++ #[97 + k]).all (· < 0x110000) = true
  rw [Array.all_append]
  have h1 : nm.cps.all (· < 0x110000) = true := h
  rw [h1]
  have : 97 + k < 0x110000 := by omega
  simp [this]
theorem made_ok : ∀ (n : Nat) (nm : Str) (b : Bx n), Made n nm b → PyData.strOk nm = true → ∀ x ∈ nmsV n b, PyData.strOk x = true
  | 0, _, b, _, _ => nomatch b
  | n + 1, nm, b, h, ho => by
    have mem : ∀ {ps : List (Bx n)}, ps.length ≤ 4 → (∀ k p, ps[k]? = some p → Made n (nm ++ chS k) p) → ∀ x ∈ ps.flatMap (nmsV n), PyData.strOk x = true := fun {ps} hl hp x hx => by
      obtain ⟨p, hm, hx⟩ := List.mem_flatMap.mp hx
      obtain ⟨k, hk⟩ := List.getElem?_of_mem hm
      have : k < ps.length := (List.getElem?_eq_some_iff.mp hk).1
      exact made_ok n _ p (hp k p hk) (strOk_ch ho (by omega)) x hx
    intro x hx
    rw [nmsV] at hx
    match (b : BxF (Bx n)), h, hx with
    | .leaf nm' w h', h, hx =>
      rcases List.mem_cons.mp hx with rfl | hx
      · have e := h.1
        rw [e]; exact ho
      · exact absurd hx (by simp [inB])
    | .line _ nm' g ps, h, hx =>
      obtain ⟨e, h1, h2, h3, h4, h5⟩ := h
      rcases List.mem_cons.mp hx with rfl | hx
      · rw [e]; exact ho
      · exact mem h4 h5 x hx
    | .pile nm' ps, h, hx =>
      obtain ⟨e, h1, h2, h3⟩ := h
      rcases List.mem_cons.mp hx with rfl | hx
      · rw [e]; exact ho
      · exact mem (by omega) h3 x hx
    | .rim nm' a b c d p, h, hx =>
      obtain ⟨e, h1, h2, h3, h4, h5⟩ := h
      rcases List.mem_cons.mp hx with rfl | hx
      · rw [e]; exact ho
      · have hx : x ∈ nmsV n p := by simpa [inB] using hx
        exact made_ok n _ p h5 (strOk_ch ho (by decide)) x hx

theorem shp_succ : ∀ (n : Nat) (d : D), shp n d = true → shp (n + 1) d = true
  | n, .none, _ => by cases n <;> rfl
  | n, .bool _, _ => by cases n <;> rfl
  | n, .int _, _ => by cases n <;> rfl
  | n, .str x, h => by cases n <;> exact h
  | 0, .list xs, h => by simp [shp] at h
  | 0, .tuple xs, h => by simp [shp] at h
  | n + 1, .list xs, h => by
    have h' : ∀ x ∈ xs, shp n x = true := by simpa [shp] using h
    show xs.all (shp (n + 1)) = true
    exact List.all_eq_true.mpr fun x hx => shp_succ n x (h' x hx)
  | n + 1, .tuple xs, h => by
    have h' : ∀ x ∈ xs, shp n x = true := by simpa [shp] using h
    show xs.all (shp (n + 1)) = true
    exact List.all_eq_true.mpr fun x hx => shp_succ n x (h' x hx)
  | 0, .dict xs, h => by simp [shp] at h
  | n + 1, .dict xs, h => by simp [shp] at h
theorem shp_mono {n m : Nat} {d : D} (h : shp n d = true) (hm : n ≤ m) : shp m d = true := by
  obtain ⟨k, rfl⟩ := Nat.exists_eq_add_of_le hm
  clear hm
  induction k with
  | zero => exact h
  | succ k ih => exact shp_succ _ _ ih
theorem shp_bx : ∀ (n : Nat) (b : Bx n), (∀ x ∈ nmsV n b, PyData.strOk x = true) → shp (2 * n + 1) (bxD n b) = true
  | 0, b, _ => nomatch b
  | n + 1, b, h => by
    have hn : PyData.strOk (bxN (n + 1) b) = true := h _ (by rw [nmsV]; exact List.mem_cons_self)
    have hp : ∀ p ∈ inB b, shp (2 * n + 1) (bxD n p) = true := fun p hp => shp_bx n p fun x hx => h x (by
      rw [nmsV]
      exact List.mem_cons_of_mem _ (List.mem_flatMap.mpr ⟨p, hp, hx⟩))
    have st : ∀ x : Str, PyData.strOk x = true → ∀ k, shp k (.str x) = true := fun x hx k => by cases k <;> exact hx
    have it : ∀ (x : Int) k, shp k (.int x) = true := fun x k => by cases k <;> rfl
    have sp : ∀ (s : Spn), shp (2 * n + 1 + 1) (spD s) = true := fun s => shp_mono (shp_sp s) (by omega)
    have e : 2 * (n + 1) + 1 = 2 * n + 1 + 1 + 1 := by omega
    rw [e]
    have tp : ∀ ps : List (Bx n), (∀ p ∈ ps, shp (2 * n + 1) (bxD n p) = true) → shp (2 * n + 1 + 1) (.tuple (ps.map (bxD n))) = true := fun ps q => by
      show (ps.map (bxD n)).all (shp (2 * n + 1)) = true
      rw [List.all_eq_true]
      intro x hx
      obtain ⟨p, hp, rfl⟩ := List.mem_map.mp hx
      exact q p hp
    match (b : BxF (Bx n)), hn, hp with
    | .leaf nm w h, hn, hp =>
      show ([.str "leaf", .str nm, spD w, spD h] : List D).all (shp (2 * n + 1 + 1)) = true
      simp only [List.all_cons, List.all_nil, st nm hn, sp, st "leaf" (by decide +kernel)]
      rfl
    | .line c nm g ps, hn, hp =>
      have hk : PyData.strOk (kindS c) = true := by cases c <;> decide +kernel
      show ([.str (kindS c), .str nm, .int g, .tuple (ps.map (bxD n))] : List D).all (shp (2 * n + 1 + 1)) = true
      simp only [List.all_cons, List.all_nil, st nm hn, st _ hk, it, tp ps hp]
      rfl
    | .pile nm ps, hn, hp =>
      show ([.str "pile", .str nm, .tuple (ps.map (bxD n))] : List D).all (shp (2 * n + 1 + 1)) = true
      simp only [List.all_cons, List.all_nil, st nm hn, st "pile" (by decide +kernel), tp ps hp]
      rfl
    | .rim nm a b' c d p, hn, hp =>
      show ([.str "rim", .str nm, .int a, .int b', .int c, .int d, bxD n p] : List D).all (shp (2 * n + 1 + 1)) = true
      have := shp_mono (hp p (by simp [inB])) (show 2 * n + 1 ≤ 2 * n + 1 + 1 by omega)
      simp only [List.all_cons, List.all_nil, st nm hn, st "rim" (by decide +kernel), it, this]
      rfl

/-! names of made boxes are unlike -/
theorem made_pre : ∀ (n : Nat) (nm : Str) (b : Bx n), Made n nm b → ∀ x ∈ nmsV n b, ∃ t : List Nat, x.cps.toList = nm.cps.toList ++ t
  | 0, _, b, _ => nomatch b
  | n + 1, nm, b, h => by
    have mem : ∀ {ps : List (Bx n)}, (∀ k p, ps[k]? = some p → Made n (nm ++ chS k) p) → ∀ x ∈ ps.flatMap (nmsV n), ∃ t : List Nat, x.cps.toList = nm.cps.toList ++ t := fun {ps} hp x hx => by
      obtain ⟨p, hm, hx⟩ := List.mem_flatMap.mp hx
      obtain ⟨k, hk⟩ := List.getElem?_of_mem hm
      obtain ⟨t, ht⟩ := made_pre n _ p (hp k p hk) x hx
      refine ⟨[97 + k] ++ t, ?_⟩
      rw [ht]
      show (nm.cps ++ #[97 + k]).toList ++ t = _
      rw [Array.toList_append, List.append_assoc]
    intro x hx
    rw [nmsV] at hx
    match (b : BxF (Bx n)), h, hx with
    | .leaf nm' w h', h, hx =>
      rcases List.mem_cons.mp hx with rfl | hx
      · exact ⟨[], by have e := h.1; rw [List.append_nil]; exact congrArg (fun s : Str => s.cps.toList) e⟩
      · exact absurd hx (by simp [inB])
    | .line _ nm' g ps, h, hx =>
      rcases List.mem_cons.mp hx with rfl | hx
      · exact ⟨[], by have e := h.1; rw [List.append_nil]; exact congrArg (fun s : Str => s.cps.toList) e⟩
      · exact mem h.2.2.2.2.2 x hx
    | .pile nm' ps, h, hx =>
      rcases List.mem_cons.mp hx with rfl | hx
      · exact ⟨[], by have e := h.1; rw [List.append_nil]; exact congrArg (fun s : Str => s.cps.toList) e⟩
      · exact mem h.2.2.2 x hx
    | .rim nm' a b c d p, h, hx =>
      rcases List.mem_cons.mp hx with rfl | hx
      · exact ⟨[], by have e := h.1; rw [List.append_nil]; exact congrArg (fun s : Str => s.cps.toList) e⟩
      · refine mem (ps := [p]) (fun k q hk => ?_) x hx
        cases k with
        | zero => cases hk; exact h.2.2.2.2.2
        | succ k => cases hk
theorem made_parts {n : Nat} {nm : Str} {b : Bx (n + 1)} (h : Made (n + 1) nm b) : bxN (n + 1) b = nm ∧ ∀ k p, (inB b)[k]? = some p → Made n (nm ++ chS k) p := by
  match (b : BxF (Bx n)), h with
  | .leaf nm' w h', h => exact ⟨h.1, fun k p hk => absurd hk (by simp [inB])⟩
  | .line _ nm' g ps, h => exact ⟨h.1, h.2.2.2.2.2⟩
  | .pile nm' ps, h => exact ⟨h.1, h.2.2.2⟩
  | .rim nm' a b c d p, h => exact ⟨h.1, fun k q hk => by
      have hk : [p][k]? = some q := hk
      cases k with
      | zero => cases hk; exact h.2.2.2.2.2
      | succ k => cases hk⟩
theorem made_apart {n : Nat} {nm : Str} {b : Bx (n + 1)} (h : Made (n + 1) nm b) : (inB b).Pairwise fun p q => ∀ x ∈ nmsV n p, ∀ y ∈ nmsV n q, x ≠ y := by
  obtain ⟨_, h2⟩ := made_parts h
  rw [List.pairwise_iff_getElem]
  intro i j hi hj hij x hx y hy e
  obtain ⟨t, ht⟩ := made_pre n _ _ (h2 i _ (List.getElem?_eq_getElem hi)) x hx
  obtain ⟨t', ht'⟩ := made_pre n _ _ (h2 j _ (List.getElem?_eq_getElem hj)) y hy
  rw [e, ht'] at ht
  have ht : (nm.cps ++ #[97 + j]).toList ++ t' = (nm.cps ++ #[97 + i]).toList ++ t := ht
  rw [Array.toList_append, Array.toList_append, List.append_assoc, List.append_assoc] at ht
  have := List.append_cancel_left ht
  have : 97 + j = 97 + i := (List.cons.inj this).1
  omega
theorem made_nodup : ∀ (n : Nat) (nm : Str) (b : Bx n), Made n nm b → (nmsV n b).Nodup
  | 0, _, b, _ => nomatch b
  | n + 1, nm, b, h => by
    obtain ⟨h1, h2⟩ := made_parts h
    rw [nmsV, List.nodup_cons]
    constructor
    · intro hx
      obtain ⟨p, hp, hx⟩ := List.mem_flatMap.mp hx
      obtain ⟨k, hk⟩ := List.getElem?_of_mem hp
      obtain ⟨t, ht⟩ := made_pre n _ p (h2 k p hk) _ hx
      rw [h1] at ht
      have ht : nm.cps.toList = (nm.cps ++ #[97 + k]).toList ++ t := ht
      rw [Array.toList_append] at ht
      have := congrArg List.length ht
      simp at this
    · refine List.pairwise_flatMap.mpr ⟨fun p hp => ?_, made_apart h⟩
      obtain ⟨k, hk⟩ := List.getElem?_of_mem hp
      exact made_nodup n _ p (h2 k p hk)

/-! texts met once -/
theorem met_any : ∀ (n : Nat) (xs : List Str) (k : Str), xs.length = n → (TX.metT xs).any (· == k) = decide (k ∈ xs)
  | 0, xs, k, h => by
    have : xs = [] := List.length_eq_zero_iff.mp h
    subst this
    simp [TX.metT]
  | n + 1, xs, k, h => by
    have hne : xs ≠ [] := by intro e; subst e; cases h
    rw [← List.dropLast_concat_getLast hne, TX.metT_snoc, TX.addT_any, met_any n xs.dropLast k (by rw [List.length_dropLast]; omega)]
    rw [Bool.eq_iff_iff]
    simp [List.mem_append]
theorem met_len : ∀ (n : Nat) (xs : List Str), xs.length = n → xs.Nodup → (TX.metT xs).length = xs.length
  | 0, xs, h, _ => by
    have : xs = [] := List.length_eq_zero_iff.mp h
    subst this
    rfl
  | n + 1, xs, h, hd => by
    have hne : xs ≠ [] := by intro e; subst e; cases h
    obtain ⟨ys, y, rfl⟩ : ∃ ys y, xs = ys ++ [y] := ⟨xs.dropLast, xs.getLast hne, (List.dropLast_concat_getLast hne).symm⟩
    have hn := List.nodup_append.mp hd
    have hl : ys.length = n := by rw [List.length_append] at h; simpa using h
    have hy : ¬ y ∈ ys := fun q => hn.2.2 y q y (by simp) rfl
    rw [TX.metT_snoc, TX.addT_len, met_any n ys y hl, decide_eq_false hy, met_len n ys hl hn.1]
    simp

/-! names of a box's data; boxes one deeper -/
theorem kind_leaf' (c : Bool) : ¬ kindS c = "leaf" := fun h => kind_leaf h
theorem ins_eq {n : Nat} (b : Bx (n + 1)) : insD (bxD (n + 1) b) = (inB b).map (bxD n) ∧ nmOf (bxD (n + 1) b) = bxN (n + 1) b := by
  match (b : BxF (Bx n)) with
  | .leaf nm w h =>
    refine ⟨?_, rfl⟩
    have e : insD (bxD (n + 1) (BxF.leaf nm w h : BxF (Bx n))) = if ("leaf" : Str) = "leaf" then ([] : List D) else (match spD h with
      | .tuple xs => xs
      | _ => []) := rfl
    rw [e, if_pos rfl]
    rfl
  | .line c nm g ps =>
    refine ⟨?_, rfl⟩
    show (if kindS c = "leaf" then ([] : List D) else ps.map (bxD n)) = _
    rw [if_neg (kind_leaf' c)]
    rfl
  | .pile nm ps => exact ⟨rfl, rfl⟩
  | .rim nm a b c d p => exact ⟨rfl, rfl⟩
theorem nm_eq : ∀ (n : Nat) (b : Bx n), nmD n (bxD n b) = nmsV n b
  | 0, b => nomatch b
  | n + 1, b => by
    obtain ⟨h1, h2⟩ := ins_eq b
    show nmOf (bxD (n + 1) b) :: (insD (bxD (n + 1) b)).flatMap (nmD n) = bxN (n + 1) b :: (inB b).flatMap (nmsV n)
    rw [h1, h2, List.flatMap_map]
    congr 1
    exact flatMap_congr' fun x _ => nm_eq n x
def upB : (n : Nat) → Bx n → Bx (n + 1)
  | 0, b => nomatch b
  | n + 1, b => match (b : BxF (Bx n)) with
    | .leaf nm w h => (BxF.leaf nm w h : BxF (Bx (n + 1)))
    | .line c nm g ps => (BxF.line c nm g (ps.map (upB n)) : BxF (Bx (n + 1)))
    | .pile nm ps => (BxF.pile nm (ps.map (upB n)) : BxF (Bx (n + 1)))
    | .rim nm a b c d p => (BxF.rim nm a b c d (upB n p) : BxF (Bx (n + 1)))
theorem up_eq : ∀ (n : Nat) (b : Bx n), bxD (n + 1) (upB n b) = bxD n b ∧ wrdV (n + 1) (upB n b) = wrdV n b ∧ nmsV (n + 1) (upB n b) = nmsV n b
  | 0, b => nomatch b
  | n + 1, b => by
    have m1 : ∀ ps : List (Bx n), (ps.map (upB n)).map (bxD (n + 1)) = ps.map (bxD n) := fun ps => by
      rw [List.map_map]
      exact List.map_congr_left fun p _ => (up_eq n p).1
    have m2 : ∀ ps : List (Bx n), (ps.map (upB n)).flatMap (wrdV (n + 1)) = ps.flatMap (wrdV n) := fun ps => by
      rw [List.flatMap_map]
      exact flatMap_congr' fun p _ => (up_eq n p).2.1
    have m3 : ∀ ps : List (Bx n), (ps.map (upB n)).flatMap (nmsV (n + 1)) = ps.flatMap (nmsV n) := fun ps => by
      rw [List.flatMap_map]
      exact flatMap_congr' fun p _ => (up_eq n p).2.2
    match (b : BxF (Bx n)) with
    | .leaf nm w h => exact ⟨rfl, rfl, rfl⟩
    | .line c nm g ps =>
      refine ⟨?_, ?_, ?_⟩
      · show PyData.tuple [.str (kindS c), .str nm, .int g, .tuple ((ps.map (upB n)).map (bxD (n + 1)))] = _
        rw [m1]; rfl
      · show [kindS c, nm] ++ [nwS g] ++ [("[" : Str)] ++ (ps.map (upB n)).flatMap (wrdV (n + 1)) ++ [("]" : Str)] = _
        rw [m2]; rfl
      · show nm :: (ps.map (upB n)).flatMap (nmsV (n + 1)) = _
        rw [m3]; rfl
    | .pile nm ps =>
      refine ⟨?_, ?_, ?_⟩
      · show PyData.tuple [.str "pile", .str nm, .tuple ((ps.map (upB n)).map (bxD (n + 1)))] = _
        rw [m1]; rfl
      · show [("pile" : Str), nm] ++ ([] : List Str) ++ [("[" : Str)] ++ (ps.map (upB n)).flatMap (wrdV (n + 1)) ++ [("]" : Str)] = _
        rw [m2]; rfl
      · show nm :: (ps.map (upB n)).flatMap (nmsV (n + 1)) = _
        rw [m3]; rfl
    | .rim nm a b c d p =>
      obtain ⟨h1, h2, h3⟩ := up_eq n p
      refine ⟨?_, ?_, ?_⟩
      · show PyData.tuple [.str "rim", .str nm, .int a, .int b, .int c, .int d, bxD (n + 1) (upB n p)] = _
        rw [h1]; rfl
      · show [("rim" : Str), nm] ++ [nwS a, nwS b, nwS c, nwS d] ++ wrdV (n + 1) (upB n p) = _
        rw [h2]; rfl
      · show nm :: [upB n p].flatMap (nmsV (n + 1)) = _
        rw [List.flatMap_cons, h3]; rfl
theorem sh_up {n : Nat} : ∀ {d : D}, shB n d = true → shB (n + 1) d = true := by
  intro d h
  induction n generalizing d with
  | zero => cases h
  | succ n ih =>
    have mono : ∀ {f g : D → Bool}, (∀ d, f d = true → g d = true) → ∀ {m : Nat} {d : D}, bsB f m d = true → bsB g m d = true := fun {f g} hfg {m d} hb => by
      obtain ⟨xs, rfl, l1, l2, hx⟩ := bsB_tup hb
      exact bs_of l1 l2 fun x q => hfg x (hx x q)
    have h' : shS (shB n) d = true := h
    show shS (shB (n + 1)) d = true
    unfold shS at h' ⊢
    split at h'
    · rename_i w nm r
      rw [Bool.and_eq_true] at h' ⊢
      refine ⟨h'.1, ?_⟩
      have hr := h'.2
      unfold shR at hr ⊢
      split at hr
      · rename_i hw; rw [if_pos hw]; exact hr
      · rename_i hw1; rw [if_neg hw1]
        split at hr
        · rename_i hw; rw [if_pos hw]
          unfold liR at hr ⊢
          split at hr
          · rw [Bool.and_eq_true] at hr ⊢
            exact ⟨hr.1, mono (fun d => ih) hr.2⟩
          · cases hr
        · rename_i hw2; rw [if_neg hw2]
          split at hr
          · rename_i hw; rw [if_pos hw]
            unfold piR at hr ⊢
            split at hr
            · exact mono (fun d => ih) hr
            · cases hr
          · rename_i hw3; rw [if_neg hw3]
            split at hr
            · rename_i hw; rw [if_pos hw]
              unfold riR at hr ⊢
              split at hr
              · rw [Bool.and_eq_true] at hr ⊢
                exact ⟨hr.1, ih hr.2⟩
              · cases hr
            · cases hr
    · cases h'
theorem met_le : ∀ (n : Nat) (xs : List Str), xs.length = n → (TX.metT xs).length ≤ xs.length ∧ ((TX.metT xs).length = xs.length → xs.Nodup)
  | 0, xs, h => by
    have : xs = [] := List.length_eq_zero_iff.mp h
    subst this
    exact ⟨Nat.le_refl _, fun _ => List.nodup_nil⟩
  | n + 1, xs, h => by
    have hne : xs ≠ [] := by intro e; subst e; cases h
    obtain ⟨ys, y, rfl⟩ : ∃ ys y, xs = ys ++ [y] := ⟨xs.dropLast, xs.getLast hne, (List.dropLast_concat_getLast hne).symm⟩
    have hl : ys.length = n := by rw [List.length_append] at h; simpa using h
    obtain ⟨h1, h2⟩ := met_le n ys hl
    rw [TX.metT_snoc, TX.addT_len, met_any n ys y hl, List.length_append, List.length_singleton]
    by_cases hy : y ∈ ys
    · rw [decide_eq_true hy]
      refine ⟨by simp; omega, fun q => ?_⟩
      simp at q
      omega
    · rw [decide_eq_false hy]
      refine ⟨by simp; omega, fun q => ?_⟩
      simp at q
      rw [List.nodup_append]
      refine ⟨h2 q, by simp, fun a ha b hb e => ?_⟩
      rw [List.mem_singleton.mp hb] at e
      exact hy (e ▸ ha)
theorem box_yes {b : Bx 4} (h : shB 4 (bxD 4 b) = true) (hn : (nmsV 4 b).Nodup) : boxB (bxD 4 b) = true := by
  unfold boxB
  rw [h, nm_eq, met_len _ _ rfl hn, beq_self_eq_true]
  rfl
theorem box_dup {b : Bx 4} (hn : ¬ (nmsV 4 b).Nodup) : boxB (bxD 4 b) = false := by
  unfold boxB
  rw [nm_eq]
  have : ((TX.metT (nmsV 4 b)).length == (nmsV 4 b).length) = false := beq_eq_false_iff_ne.mpr fun q => hn ((met_le _ _ rfl).2 q)
  rw [this, Bool.and_false]

/-! the boxes of k05 -/
theorem low_x : lowS "x" = true := by decide +kernel
theorem low_y : lowS "y" = true := by decide +kernel
theorem nm_y : ("y" : Str).length = 1 := by decide +kernel
theorem name_t : nameB (.str "t") = true := by decide +kernel
theorem nameX_ok : nameB (.str "x") = true := by decide +kernel
theorem wh7 : whB (.int 7) 0 999 = true := by decide
theorem sh_line {n : Nat} {c : Bool} {nm : Str} {ps : List (Bx n)} (hn : nameB (.str nm) = true) (h1 : 1 ≤ ps.length) (h2 : ps.length ≤ 4) (hp : ∀ p ∈ ps, shB n (bxD n p) = true) : shB (n + 1) (bxD (n + 1) (BxF.line c nm 7 ps : BxF (Bx n))) = true := by
  show (nameB (.str nm) && shR (shB n) (kindS c) [.int 7, .tuple (ps.map (bxD n))]) = true
  have hr : shR (shB n) (kindS c) [.int 7, .tuple (ps.map (bxD n))] = liR (shB n) [.int 7, .tuple (ps.map (bxD n))] := by
    unfold shR
    rw [if_neg (kind_leaf' c), if_pos (by cases c; exact .inl rfl; exact .inr rfl)]
  have hb : bsB (shB n) 4 (.tuple (ps.map (bxD n))) = true := bs_of (by simpa using h1) (by simpa using h2) fun x hx => by
    obtain ⟨p, q, rfl⟩ := List.mem_map.mp hx
    exact hp p q
  rw [hn, hr]
  show (true && (whB (.int 7) 0 999 && bsB (shB n) 4 (.tuple (ps.map (bxD n))))) = true
  rw [wh7, hb]
  rfl
theorem sh_pile {n : Nat} {nm : Str} {ps : List (Bx n)} (hn : nameB (.str nm) = true) (h1 : 1 ≤ ps.length) (h2 : ps.length ≤ 3) (hp : ∀ p ∈ ps, shB n (bxD n p) = true) : shB (n + 1) (bxD (n + 1) (BxF.pile nm ps : BxF (Bx n))) = true := by
  show (nameB (.str nm) && shR (shB n) "pile" [.tuple (ps.map (bxD n))]) = true
  have hr : shR (shB n) "pile" [.tuple (ps.map (bxD n))] = bsB (shB n) 3 (.tuple (ps.map (bxD n))) := by
    unfold shR
    rw [if_neg (by decide +kernel), if_neg (by decide +kernel), if_pos rfl]
    rfl
  have hb : bsB (shB n) 3 (.tuple (ps.map (bxD n))) = true := bs_of (by simpa using h1) (by simpa using h2) fun x hx => by
    obtain ⟨p, q, rfl⟩ := List.mem_map.mp hx
    exact hp p q
  rw [hn, hr, hb]
  rfl
theorem sh_rim {n : Nat} {nm : Str} {p : Bx n} (hn : nameB (.str nm) = true) (hp : shB n (bxD n p) = true) : shB (n + 1) (bxD (n + 1) (BxF.rim nm 1 2 3 4 p : BxF (Bx n))) = true := by
  show (nameB (.str nm) && shR (shB n) "rim" [.int 1, .int 2, .int 3, .int 4, bxD n p]) = true
  have hr : shR (shB n) "rim" [.int 1, .int 2, .int 3, .int 4, bxD n p] = ((whB (.int 1) 0 999 && whB (.int 2) 0 999 && whB (.int 3) 0 999 && whB (.int 4) 0 999) && shB n (bxD n p)) := by
    unfold shR
    rw [if_neg (by decide +kernel), if_neg (by decide +kernel), if_neg (by decide +kernel), if_pos rfl]
    rfl
  rw [hn, hr, hp]
  rfl
theorem tb_of_sh {n : Nat} {b : Bx n} (h : shB n (bxD n b) = true) : Tb n b := by
  obtain ⟨b', e, ht⟩ := sh_ex n _ h
  rw [bx_inj n b b' e]
  exact ht
theorem pre_ne {x : Str} {a b : Nat} {t : List Nat} {nm : Str} (h : x.cps.toList = nm.cps.toList ++ t) (hn : nm.cps.toList = [a]) (hb : a ≠ b) {y : Str} {u : List Nat} (hy : y.cps.toList = b :: u) : x ≠ y := by
  intro e
  rw [e, hy, hn] at h
  exact hb (List.cons.inj h).1.symm
theorem cps_x : ("x" : Str).cps.toList = [120] := by decide +kernel
theorem cps_y : ("y" : Str).cps.toList = [121] := by decide +kernel
theorem cps_t : ("t" : Str).cps.toList = [116] := by decide +kernel
structure Two (one : Bx 3) (oth : Bx 2) : Prop where
  m1 : Made 3 "x" one
  m2 : Made 2 "y" oth
section
variable {one : Bx 3} {oth : Bx 2}
theorem Two.s1 (h : Two one oth) : shB 3 (bxD 3 one) = true := made_sh 3 "x" one h.m1 low_x (by rw [nm_x]; decide) (by rw [nm_x]; decide)
theorem Two.s2 (h : Two one oth) : shB 2 (bxD 2 oth) = true := made_sh 2 "y" oth h.m2 low_y (by rw [nm_y]; decide) (by rw [nm_y]; decide)
theorem Two.s3 (h : Two one oth) : shB 3 (bxD 3 (upB 2 oth)) = true := by rw [(up_eq 2 oth).1]; exact sh_up h.s2
theorem Two.noT1 (h : Two one oth) : ¬ ("t" : Str) ∈ nmsV 3 one := fun q => by
  obtain ⟨t, e⟩ := made_pre 3 "x" one h.m1 _ q
  exact pre_ne e cps_x (by decide : 120 ≠ 116) cps_t rfl
theorem Two.noT2 (h : Two one oth) : ¬ ("t" : Str) ∈ nmsV 2 oth := fun q => by
  obtain ⟨t, e⟩ := made_pre 2 "y" oth h.m2 _ q
  exact pre_ne e cps_y (by decide : 121 ≠ 116) cps_t rfl
theorem Two.two (h : Two one oth) : (("t" : Str) :: (nmsV 3 one ++ (nmsV 2 oth ++ []))).Nodup := by
  rw [List.append_nil, List.nodup_cons, List.nodup_append]
  refine ⟨fun q => ?_, made_nodup 3 "x" one h.m1, made_nodup 2 "y" oth h.m2, fun a ha b hb e => ?_⟩
  · rcases List.mem_append.mp q with q | q
    · exact h.noT1 q
    · exact h.noT2 q
  · obtain ⟨t, e1⟩ := made_pre 3 "x" one h.m1 a ha
    obtain ⟨u, e2⟩ := made_pre 2 "y" oth h.m2 b hb
    rw [cps_y] at e2
    exact pre_ne e1 cps_x (by decide : 120 ≠ 121) e2 e
theorem Two.nms1 (h : Two one oth) : ∃ r, nmsV 3 one = ("x" : Str) :: r := ⟨_, by rw [nmsV, (made_parts h.m1).1]⟩
def lineB (c : Bool) (one : Bx 3) (oth : Bx 2) : Bx 4 := (BxF.line c "t" 7 [one, upB 2 oth] : BxF (Bx 3))
def pileB (one : Bx 3) (oth : Bx 2) : Bx 4 := (BxF.pile "t" [one, upB 2 oth] : BxF (Bx 3))
def rimB (one : Bx 3) : Bx 4 := (BxF.rim "t" 1 2 3 4 one : BxF (Bx 3))
theorem all2 {P : Bx 3 → Prop} {a b : Bx 3} (h1 : P a) (h2 : P b) : ∀ p ∈ [a, b], P p := by
  intro x hx
  simp only [List.mem_cons, List.not_mem_nil, or_false] at hx
  rcases hx with rfl | rfl <;> assumption
theorem Two.line (h : Two one oth) (c : Bool) : boxB (bxD 4 (lineB c one oth)) = true := by
  refine box_yes (sh_line name_t (by simp) (by simp) (all2 h.s1 h.s3)) ?_
  show (("t" : Str) :: (nmsV 3 one ++ (nmsV 3 (upB 2 oth) ++ []))).Nodup
  rw [(up_eq 2 oth).2.2]
  exact h.two
theorem Two.pile (h : Two one oth) : boxB (bxD 4 (pileB one oth)) = true := by
  refine box_yes (sh_pile name_t (by simp) (by simp) (all2 h.s1 h.s3)) ?_
  show (("t" : Str) :: (nmsV 3 one ++ (nmsV 3 (upB 2 oth) ++ []))).Nodup
  rw [(up_eq 2 oth).2.2]
  exact h.two
theorem Two.rim (h : Two one oth) : boxB (bxD 4 (rimB one)) = true := by
  refine box_yes (sh_rim name_t h.s1) ?_
  show (("t" : Str) :: (nmsV 3 one ++ [])).Nodup
  rw [List.append_nil, List.nodup_cons]
  exact ⟨h.noT1, made_nodup 3 "x" one h.m1⟩
theorem Two.alone (h : Two one oth) : boxB (bxD 4 (upB 3 one)) = true := by
  refine box_yes (by rw [(up_eq 3 one).1]; exact sh_up h.s1) ?_
  rw [(up_eq 3 one).2.2]
  exact made_nodup 3 "x" one h.m1
def dupB (c : Bool) (one : Bx 3) : Bx 4 := (BxF.line c "t" 7 [one, one] : BxF (Bx 3))
def samB (c : Bool) (one : Bx 3) : Bx 4 := (BxF.line c "x" 7 [one] : BxF (Bx 3))
def nilB (c : Bool) : Bx 4 := (BxF.line c "t" 7 [] : BxF (Bx 3))
theorem Two.dup (h : Two one oth) (c : Bool) : boxB (bxD 4 (dupB c one)) = false := by
  refine box_dup fun q => ?_
  have q : (("t" : Str) :: (nmsV 3 one ++ (nmsV 3 one ++ []))).Nodup := q
  rw [List.append_nil, List.nodup_cons, List.nodup_append] at q
  obtain ⟨r, e⟩ := h.nms1
  exact q.2.2.2 "x" (by rw [e]; simp) "x" (by rw [e]; simp) rfl
theorem Two.sam (h : Two one oth) (c : Bool) : boxB (bxD 4 (samB c one)) = false := by
  refine box_dup fun q => ?_
  have q : (("x" : Str) :: (nmsV 3 one ++ [])).Nodup := q
  rw [List.append_nil, List.nodup_cons] at q
  obtain ⟨r, e⟩ := h.nms1
  exact q.1 (by rw [e]; simp)
theorem nil_no (c : Bool) : boxB (bxD 4 (nilB c)) = false := by
  cases c <;> decide +kernel
theorem Two.tb1 (h : Two one oth) : Tb 3 one := tb_of_sh h.s1
theorem Two.tb2 (h : Two one oth) : Tb 3 (upB 2 oth) := tb_of_sh h.s3
theorem Two.len1 (h : Two one oth) : (wrdV 3 one).length ≤ 1332 := (wrd_ok 3 one (tb_nb 3 one h.tb1)).1
theorem Two.len2 (h : Two one oth) : (wrdV 2 oth).length ≤ 132 := (wrd_ok 2 oth (tb_nb 2 oth (tb_of_sh h.s2))).1
theorem Two.tdup (h : Two one oth) (c : Bool) : Tb 4 (dupB c one) := ⟨name_t, by decide, by simp, all2 h.tb1 h.tb1⟩
theorem Two.tsam (h : Two one oth) (c : Bool) : Tb 4 (samB c one) := ⟨nameX_ok, by decide, by simp, fun p hp => by rw [List.mem_singleton.mp hp]; exact h.tb1⟩
theorem tnil (c : Bool) : Tb 4 (nilB c) := ⟨name_t, by decide, by simp, fun p hp => nomatch hp⟩
theorem Two.tline (h : Two one oth) (c : Bool) : Tb 4 (lineB c one oth) := ⟨name_t, by decide, by simp, all2 h.tb1 h.tb2⟩
end

/-! the texts of k05 -/
theorem e_cl : (" ]" : Str) = " " ++ "]" := by decide +kernel
theorem tx_two {H A B : List Str} {p : Str} (hH : H ≠ []) (hp : p = jw H ++ " ") (hA : A ≠ []) (hB : B ≠ []) : p ++ jw A ++ " " ++ jw B ++ " ]" = jw (H ++ (A ++ (B ++ [("]" : Str)]))) := by
  rw [jw_append H _ hH (by simp [hA]), jw_append A _ hA (by simp), jw_append B _ hB (by simp), hp, e_cl, jw_one]
  simp only [st_assoc]
theorem tx_one {H A : List Str} {p : Str} (hH : H ≠ []) (hp : p = jw H ++ " ") (hA : A ≠ []) : p ++ jw A ++ " ]" = jw (H ++ (A ++ [("]" : Str)])) := by
  rw [jw_append H _ hH (by simp), jw_append A _ hA (by simp), hp, e_cl, jw_one]
  simp only [st_assoc]
theorem tx_pre {H A : List Str} {p : Str} (hH : H ≠ []) (hp : p = jw H ++ " ") (hA : A ≠ []) : p ++ jw A = jw (H ++ A) := by
  rw [jw_append H _ hH hA, hp]
theorem wrd_ne {n : Nat} (b : Bx n) : wrdV n b ≠ [] := by
  obtain ⟨r, e⟩ := wrd_first n b
  rw [e]
  simp
section
variable {one : Bx 3} {oth : Bx 2}
theorem tx_line (c : Bool) : kindS c ++ " t 7 [ " ++ jw (wrdV 3 one) ++ " " ++ jw (wrdV 2 oth) ++ " ]" = jw (wrdV 4 (lineB c one oth)) := by
  rw [tx_two (H := [kindS c, "t", nwS 7, "["]) (by simp) (by cases c <;> decide +kernel) (wrd_ne one) (wrd_ne oth)]
  show _ = jw ([kindS c, "t"] ++ [nwS 7] ++ [("[" : Str)] ++ [one, upB 2 oth].flatMap (wrdV 3) ++ [("]" : Str)])
  simp [(up_eq 2 oth).2.1]
theorem tx_dup (c : Bool) : kindS c ++ " t 7 [ " ++ jw (wrdV 3 one) ++ " " ++ jw (wrdV 3 one) ++ " ]" = jw (wrdV 4 (dupB c one)) := by
  rw [tx_two (H := [kindS c, "t", nwS 7, "["]) (by simp) (by cases c <;> decide +kernel) (wrd_ne one) (wrd_ne one)]
  show _ = jw ([kindS c, "t"] ++ [nwS 7] ++ [("[" : Str)] ++ [one, one].flatMap (wrdV 3) ++ [("]" : Str)])
  simp
theorem tx_sam (c : Bool) : kindS c ++ " x 7 [ " ++ jw (wrdV 3 one) ++ " ]" = jw (wrdV 4 (samB c one)) := by
  rw [tx_one (H := [kindS c, "x", nwS 7, "["]) (by simp) (by cases c <;> decide +kernel) (wrd_ne one)]
  show _ = jw ([kindS c, "x"] ++ [nwS 7] ++ [("[" : Str)] ++ [one].flatMap (wrdV 3) ++ [("]" : Str)])
  simp
theorem tx_nil (c : Bool) : kindS c ++ " t 7 [ ]" = jw (wrdV 4 (nilB c)) := by
  cases c <;> decide +kernel
theorem tx_pile : "pile t [ " ++ jw (wrdV 3 one) ++ " " ++ jw (wrdV 2 oth) ++ " ]" = jw (wrdV 4 (pileB one oth)) := by
  rw [tx_two (H := ["pile", "t", "["]) (by simp) (by decide +kernel) (wrd_ne one) (wrd_ne oth)]
  show _ = jw ([("pile" : Str), "t"] ++ [] ++ [("[" : Str)] ++ [one, upB 2 oth].flatMap (wrdV 3) ++ [("]" : Str)])
  simp [(up_eq 2 oth).2.1]
theorem tx_rim : "rim t 1 2 3 4 " ++ jw (wrdV 3 one) = jw (wrdV 4 (rimB one)) := by
  rw [tx_pre (H := ["rim", "t", nwS 1, nwS 2, nwS 3, nwS 4]) (by simp) (by decide +kernel) (wrd_ne one)]
  rfl
theorem tx_rim3 : "rim t 1 2 3 " ++ jw (wrdV 3 one) = jw ([("rim" : Str), "t", "1", "2", "3"] ++ wrdV 3 one) :=
  tx_pre (by simp) (by decide +kernel) (wrd_ne one)
/-- the line without its last word -/
def opnW (c : Bool) (one : Bx 3) (oth : Bx 2) : List Str := [kindS c, "t", nwS 7, "["] ++ [one, upB 2 oth].flatMap (wrdV 3)
theorem opn_wrd (c : Bool) : wrdV 4 (lineB c one oth) = opnW c one oth ++ [("]" : Str)] := by
  show [kindS c, "t"] ++ [nwS 7] ++ [("[" : Str)] ++ [one, upB 2 oth].flatMap (wrdV 3) ++ [("]" : Str)] = _
  simp [opnW]
theorem tx_opn (c : Bool) : jw (wrdV 4 (lineB c one oth)) = jw (opnW c one oth) ++ " ]" := by
  rw [opn_wrd, jw_append _ _ (by simp [opnW]) (by simp), e_cl, jw_one]
  simp only [st_assoc]
theorem tx_more (c : Bool) : jw (wrdV 4 (lineB c one oth)) ++ " ]" = jw (wrdV 4 (lineB c one oth) ++ [("]" : Str)]) := by
  rw [jw_append _ _ (wrd_ne _) (by simp), e_cl, jw_one]
  simp only [st_assoc]
theorem Two.lenL (h : Two one oth) (c : Bool) : (wrdV 4 (lineB c one oth)).length ≤ 1480 := by
  have h1 := h.len1
  have h2 := h.len2
  have e : wrdV 4 (lineB c one oth) = [kindS c, "t"] ++ [nwS 7] ++ [("[" : Str)] ++ (wrdV 3 one ++ (wrdV 3 (upB 2 oth) ++ [])) ++ [("]" : Str)] := rfl
  rw [e, (up_eq 2 oth).2.1]
  simp only [List.length_append, List.length_cons, List.length_nil]
  omega
theorem Two.lenP (h : Two one oth) : (wrdV 4 (pileB one oth)).length ≤ 1480 := by
  have h1 := h.len1
  have h2 := h.len2
  have e : wrdV 4 (pileB one oth) = [("pile" : Str), "t"] ++ [] ++ [("[" : Str)] ++ (wrdV 3 one ++ (wrdV 3 (upB 2 oth) ++ [])) ++ [("]" : Str)] := rfl
  rw [e, (up_eq 2 oth).2.1]
  simp only [List.length_append, List.length_cons, List.length_nil]
  omega
theorem Two.lenR (h : Two one oth) : (wrdV 4 (rimB one)).length ≤ 1480 := by
  have h1 := h.len1
  have e : wrdV 4 (rimB one) = [("rim" : Str), "t"] ++ [nwS 1, nwS 2, nwS 3, nwS 4] ++ wrdV 3 one := rfl
  rw [e]
  simp only [List.length_append, List.length_cons, List.length_nil]
  omega
theorem Two.lenD (h : Two one oth) (c : Bool) : (wrdV 4 (dupB c one)).length ≤ 2700 := by
  have h1 := h.len1
  have e : wrdV 4 (dupB c one) = [kindS c, "t"] ++ [nwS 7] ++ [("[" : Str)] ++ (wrdV 3 one ++ (wrdV 3 one ++ [])) ++ [("]" : Str)] := rfl
  rw [e]
  simp only [List.length_append, List.length_cons, List.length_nil]
  omega
theorem Two.lenS (h : Two one oth) (c : Bool) : (wrdV 4 (samB c one)).length ≤ 2700 := by
  have h1 := h.len1
  have e : wrdV 4 (samB c one) = [kindS c, "x"] ++ [nwS 7] ++ [("[" : Str)] ++ (wrdV 3 one ++ []) ++ [("]" : Str)] := rfl
  rw [e]
  simp only [List.length_append, List.length_cons, List.length_nil]
  omega
/-! what is read -/
theorem Two.rd_here (h : Two one oth) : M_read [.str (jw (wrdV 3 one))] = some (some (bxD 3 one)) := by
  have e := up_eq 3 one
  have := read_yes h.alone (by rw [e.2.1]; have := h.len1; omega)
  rw [e.1, e.2.1] at this
  exact this
theorem Two.rd_line (h : Two one oth) (c : Bool) : M_read [.str (jw (wrdV 4 (lineB c one oth)))] = some (some (bxD 4 (lineB c one oth))) := read_yes (h.line c) (by have := h.lenL c; omega)
theorem Two.rd_pile (h : Two one oth) : M_read [.str (jw (wrdV 4 (pileB one oth)))] = some (some (bxD 4 (pileB one oth))) := read_yes h.pile (by have := h.lenP; omega)
theorem Two.rd_rim (h : Two one oth) : M_read [.str (jw (wrdV 4 (rimB one)))] = some (some (bxD 4 (rimB one))) := read_yes h.rim (by have := h.lenR; omega)
theorem Two.rd_dup (h : Two one oth) (c : Bool) : M_read [.str (jw (wrdV 4 (dupB c one)))] = some none := read_no (h.tdup c) (by decide) (h.dup c) (by have := h.lenD c; omega)
theorem Two.rd_sam (h : Two one oth) (c : Bool) : M_read [.str (jw (wrdV 4 (samB c one)))] = some none := read_no (h.tsam c) (by decide) (h.sam c) (by have := h.lenS c; omega)
theorem rd_nil (c : Bool) : M_read [.str (jw (wrdV 4 (nilB c)))] = some none := read_no (tnil c) (by decide) (nil_no c) (by cases c <;> decide +kernel)
theorem Two.gt_line (h : Two one oth) (c : Bool) : ∀ w ∈ wrdV 4 (lineB c one oth), goodT w := tb_words 4 _ (h.tline c)
theorem Two.rd_more (h : Two one oth) (c : Bool) : M_read [.str (jw (wrdV 4 (lineB c one oth) ++ [("]" : Str)]))] = some none := by
  refine read_more (h.tline c) (by decide) (by simp) (wds_of (by simp) (fun w hw => ?_) (by have := h.lenL c; rw [List.length_append, List.length_singleton]; omega))
  rcases List.mem_append.mp hw with hw | hw
  · exact h.gt_line c w hw
  · rw [List.mem_singleton.mp hw]; exact gt_cl
theorem Two.rd_opn (h : Two one oth) (c : Bool) : M_read [.str (jw (opnW c one oth))] = some none := by
  refine read_noP (wds_of (by simp [opnW]) (fun w hw => h.gt_line c w (by rw [opn_wrd]; exact List.mem_append_left _ hw)) ?_) ?_
  · have := h.lenL c
    rw [opn_wrd, List.length_append] at this
    omega
  · have e : opnW c one oth = kindS c :: "t" :: ([nwS 7] ++ ([("[" : Str)] ++ [one, upB 2 oth].flatMap (wrdV 3))) := rfl
    have hS : (opnW c one oth).drop 0 = kindS c :: "t" :: ([nwS 7] ++ ([("[" : Str)] ++ [one, upB 2 oth].flatMap (wrdV 3))) := e
    obtain ⟨a1, a2⟩ := at_drop hS
    obtain ⟨b1, b2⟩ := at_drop a2
    have n1 := pNums_ok _ [.int 7] _ _ b2 (by rw [List.map_cons, numW_nw (by decide) (by decide)]; rfl)
    have c2 := drop_add b2
    have op := pBoxes_open (B := pBox (opnW c one oth) 5) (Tb 3) (fun p k r hp hS => pBox_ok 3 5 p k r (by decide) hp hS) [one, upB 2 oth] _ (all2 h.tb1 h.tb2) c2
    obtain ⟨f1, f2, f3⟩ := kind_flags c
    show (((opnW c one oth)[0]?).bind fun w1 => ((opnW c one oth)[0 + 1]?).bind fun w2 => pRest (pBox (opnW c one oth) 5) (opnW c one oth) w1 w2 (0 + 2)) = none
    rw [a1, b1]
    show pRest (pBox (opnW c one oth) 5) (opnW c one oth) (kindS c) "t" (0 + 1 + 1) = none
    unfold pRest
    have l1 : [nwS 7].length = 1 := rfl
    rw [l1] at n1 op
    rw [f1, if_neg (by decide), f2, if_neg (by decide), f3, if_pos rfl, n1, Option.bind_some, op]
    rfl
theorem kd_no {n : Nat} (b : Bx n) : numW (kdV n b) = none := by
  rcases kd_cases n b with h | h | h | h | h <;> rw [h, numW_eq] <;> rw [if_neg (by decide +kernel), if_neg (by decide +kernel)]
theorem Two.rd_rim3 (h : Two one oth) : M_read [.str (jw ([("rim" : Str), "t", "1", "2", "3"] ++ wrdV 3 one))] = some none := by
  refine read_noP (wds_of (by simp) (fun w hw => ?_) ?_) ?_
  · rcases List.mem_append.mp hw with hw | hw
    · have : ∀ w ∈ [("rim" : Str), "t", "1", "2", "3"], goodT w := by decide +kernel
      exact this w hw
    · exact tb_words 3 one h.tb1 w hw
  · have := h.len1
    simp only [List.length_append, List.length_cons, List.length_nil]
    omega
  · obtain ⟨r, e⟩ := wrd_first 3 one
    rw [e]
    have hk := kd_no one
    generalize kdV 3 one = k at *
    show (pRest (pBox (("rim" : Str) :: "t" :: "1" :: "2" :: "3" :: k :: r) 5) (("rim" : Str) :: "t" :: "1" :: "2" :: "3" :: k :: r) "rim" "t" 2) = none
    unfold pRest
    obtain ⟨f1, f2⟩ := rim_flags
    have p5 : pNum (("rim" : Str) :: "t" :: "1" :: "2" :: "3" :: k :: r) 5 = none := hk
    have n4 : pNums (("rim" : Str) :: "t" :: "1" :: "2" :: "3" :: k :: r) 4 2 = none := by
      simp only [pNums, Nat.reduceAdd, p5, Option.bind_none, Option.map_none]
      cases pNum (("rim" : Str) :: "t" :: "1" :: "2" :: "3" :: k :: r) 2 <;> cases pNum (("rim" : Str) :: "t" :: "1" :: "2" :: "3" :: k :: r) 3 <;> cases pNum (("rim" : Str) :: "t" :: "1" :: "2" :: "3" :: k :: r) 4 <;> rfl
    rw [f1, if_neg (by decide), f2, if_pos rfl, n4]
    rfl
end

/-! texts typed by hand -/
noncomputable def badB (ws : List Str) : Bool := match pBox ws 6 0 with
  | none => true
  | some p => !boxB p.1
def wdB (ws : List Str) : Bool := !ws.isEmpty && ws.all (fun w => decide (nb w) && PyData.strOk w && decide (w.length ≤ 1000)) && decide (ws.length ≤ 9000) && decide ((jw ws).length ≤ 90000)
theorem wd_of {ws : List Str} (h : wdB ws = true) : Wds ws := by
  unfold wdB at h
  simp only [Bool.and_eq_true, Bool.not_eq_true', List.isEmpty_eq_false_iff, decide_eq_true_eq, List.all_eq_true] at h
  obtain ⟨⟨⟨h1, h2⟩, h3⟩, h4⟩ := h
  exact ⟨h1, fun w hw => (h2 w hw).1.1, fun w hw => ⟨(h2 w hw).1.2, (h2 w hw).2⟩, h3, h4⟩
theorem bad_of {T : Str} (ws : List Str) (h1 : T = jw ws) (h2 : wdB ws = true) (h3 : badB ws = true) : M_read [.str T] = some none := by
  subst h1
  unfold badB at h3
  split at h3
  · rename_i hp
    exact read_noP (wd_of h2) hp
  · rename_i p hp
    exact read_noB (wd_of h2) hp (by simpa using h3)
theorem good_of {T : Str} (b : Bx 4) (h1 : T = jw (wrdV 4 b)) (h2 : boxB (bxD 4 b) = true) (h3 : (wrdV 4 b).length ≤ 9000) : M_read [.str T] = some (some (bxD 4 b)) := by
  subst h1
  exact read_yes h2 h3
def sp0 : Spn := ⟨0, 0, some 0, 0, 0⟩
def sp1 : Spn := ⟨0, 0, none, 1, 1⟩
def lf (n : Nat) (x : Str) : Bx (n + 1) := (BxF.leaf x sp0 sp1 : BxF (Bx n))
def lf0 (x : Str) : Bx 4 := (BxF.leaf x sp0 sp0 : BxF (Bx 3))
theorem bad_1 : M_read [.str ""] = some none := bad_of [""] (by decide +kernel) (by decide +kernel) (by decide +kernel)
theorem bad_2 : M_read [.str "leaf a"] = some none := bad_of ["leaf", "a"] (by decide +kernel) (by decide +kernel) (by decide +kernel)
theorem bad_3 : M_read [.str "leaf a 0 0 0 0 0"] = some none := bad_of ["leaf", "a", "0", "0", "0", "0", "0"] (by decide +kernel) (by decide +kernel) (by decide +kernel)
theorem bad_4 : M_read [.str "leaf a 1 0 0 0 0 0 0 0 0 0"] = some none := bad_of ["leaf", "a", "1", "0", "0", "0", "0", "0", "0", "0", "0", "0"] (by decide +kernel) (by decide +kernel) (by decide +kernel)
theorem bad_5 : M_read [.str "leaf a 0 1 0 0 0 0 0 0 0 0"] = some none := bad_of ["leaf", "a", "0", "1", "0", "0", "0", "0", "0", "0", "0", "0"] (by decide +kernel) (by decide +kernel) (by decide +kernel)
theorem bad_6 : M_read [.str "leaf a 0 0 0 10 0 0 0 0 0 0"] = some none := bad_of ["leaf", "a", "0", "0", "0", "10", "0", "0", "0", "0", "0", "0"] (by decide +kernel) (by decide +kernel) (by decide +kernel)
theorem bad_7 : M_read [.str "leaf a 0 0 1000 0 0 0 0 0 0 0"] = some none := bad_of ["leaf", "a", "0", "0", "1000", "0", "0", "0", "0", "0", "0", "0"] (by decide +kernel) (by decide +kernel) (by decide +kernel)
theorem bad_8 : M_read [.str "leaf abcde 0 0 0 0 0 0 0 0 0 0"] = some none := bad_of ["leaf", "abcde", "0", "0", "0", "0", "0", "0", "0", "0", "0", "0"] (by decide +kernel) (by decide +kernel) (by decide +kernel)
theorem bad_9 : M_read [.str "leaf A 0 0 0 0 0 0 0 0 0 0"] = some none := bad_of ["leaf", "A", "0", "0", "0", "0", "0", "0", "0", "0", "0", "0"] (by decide +kernel) (by decide +kernel) (by decide +kernel)
theorem bad_11 : M_read [.str "leaf a - 0 0 0 0 0 0 0 0 0"] = some none := bad_of ["leaf", "a", "-", "0", "0", "0", "0", "0", "0", "0", "0", "0"] (by decide +kernel) (by decide +kernel) (by decide +kernel)
theorem bad_13 : M_read [.str " leaf a 0 0 0 0 0 0 0 0 0 0"] = some none := bad_of ["", "leaf", "a", "0", "0", "0", "0", "0", "0", "0", "0", "0", "0"] (by decide +kernel) (by decide +kernel) (by decide +kernel)
theorem bad_14 : M_read [.str "leaf a 0 0 0 0 0 0 0 0 0"] = some none := bad_of ["leaf", "a", "0", "0", "0", "0", "0", "0", "0", "0", "0"] (by decide +kernel) (by decide +kernel) (by decide +kernel)
theorem bad_15 : M_read [.str "box a 0 0"] = some none := bad_of ["box", "a", "0", "0"] (by decide +kernel) (by decide +kernel) (by decide +kernel)
theorem lf0_box : boxB (bxD 4 (lf0 "a")) = true := by decide +kernel
theorem more_of {T : Str} (b : Bx 4) (r : List Str) (h1 : T = jw (wrdV 4 b ++ r)) (hb : boxB (bxD 4 b) = true) (hr : r ≠ []) (hw : wdB (wrdV 4 b ++ r) = true) : M_read [.str T] = some none := by
  subst h1
  obtain ⟨b', e1, ht⟩ := box_text hb
  have := bx_inj 4 b b' e1
  subst this
  exact read_more ht (by decide) hr (wd_of hw)
theorem bad_12 : M_read [.str "leaf a 0 0 0 0 0 0 0 0 0 0 "] = some none := more_of (lf0 "a") [("" : Str)] (by decide +kernel) lf0_box (by simp) (by decide +kernel)
theorem bad_10 : M_read [.str "leaf a 00 0 0 0 0 0 0 0 0 0"] = some none := by
  have e : ("leaf a 00 0 0 0 0 0 0 0 0 0" : Str) = jw ["leaf", "a", "00", "0", "0", "0", "0", "0", "0", "0", "0", "0"] := by decide +kernel
  rw [e]
  have hp : pBox ["leaf", "a", "00", "0", "0", "0", "0", "0", "0", "0", "0", "0"] 6 0 = some (bxD 4 (lf0 "a"), 12) := by
    have v0 : PySem.NumText.digitsVal ("0" : Str).cps.toList = 0 := by decide +kernel
    have v00 : PySem.NumText.digitsVal ("00" : Str).cps.toList = 0 := by decide +kernel
    have n0 : numW "0" = some (.int 0) := by rw [numW_eq, if_neg (by decide +kernel), if_pos (by decide +kernel), v0]; rfl
    have n00 : numW "00" = some (.int 0) := by rw [numW_eq, if_neg (by decide +kernel), if_pos (by decide +kernel), v00]; rfl
    have p1 : pNums [("leaf" : Str), "a", "00", "0", "0", "0", "0", "0", "0", "0", "0", "0"] 5 2 = some [.int 0, .int 0, .int 0, .int 0, .int 0] := pNums_ok ["00", "0", "0", "0", "0"] _ 2 ["0", "0", "0", "0", "0"] rfl (by simp only [List.map_cons, List.map_nil, n0, n00])
    have p2 : pNums [("leaf" : Str), "a", "00", "0", "0", "0", "0", "0", "0", "0", "0", "0"] 5 7 = some [.int 0, .int 0, .int 0, .int 0, .int 0] := pNums_ok ["0", "0", "0", "0", "0"] _ 7 [] rfl (by simp only [List.map_cons, List.map_nil, n0])
    show pRest (pBox [("leaf" : Str), "a", "00", "0", "0", "0", "0", "0", "0", "0", "0", "0"] 5) [("leaf" : Str), "a", "00", "0", "0", "0", "0", "0", "0", "0", "0", "0"] "leaf" "a" 2 = _
    unfold pRest
    rw [leaf_flag, if_pos rfl, p1, Option.bind_some, p2]
    rfl
  exact read_body (wd_of (by decide +kernel)) hp (.inr ⟨lf0 "a", rfl, lf0_box, .inl ⟨by decide +kernel, rfl⟩⟩)
theorem good_1 : M_read [.str "leaf a 0 0 0 0 0 0 0 0 0 0"] = some (some (bxD 4 (lf0 "a"))) := good_of _ (by decide +kernel) lf0_box (by decide +kernel)
def gd2 : Bx 4 := (BxF.leaf "abcd" ⟨1, 2, none, 9, 9⟩ ⟨0, 999, some 999, 0, 0⟩ : BxF (Bx 3))
def gd3 : Bx 4 := (BxF.line false "r" 0 [(BxF.leaf "a" ⟨0, 0, none, 0, 0⟩ ⟨0, 0, none, 0, 0⟩ : BxF (Bx 2))] : BxF (Bx 3))
theorem good_2 : M_read [.str "leaf abcd 1 2 - 9 9 0 999 999 0 0"] = some (some (bxD 4 gd2)) := good_of _ (by decide +kernel) (by decide +kernel) (by decide +kernel)
theorem good_3 : M_read [.str "row r 0 [ leaf a 0 0 - 0 0 0 0 - 0 0 ]"] = some (some (bxD 4 gd3)) := good_of _ (by decide +kernel) (by decide +kernel) (by decide +kernel)
/-! so many in a row, in a pile; so deep -/
def lfS (x : Str) : Str := "leaf " ++ x ++ " 0 0 0 0 0 0 0 - 1 1"
def someL : List Str := [lfS "a", lfS "b", lfS "c", lfS "d", lfS "e"]
def someB : List (Bx 3) := [lf 2 "a", lf 2 "b", lf 2 "c", lf 2 "d", lf 2 "e"]
def rowT (k : Nat) : Str := "row t 0 [ " ++ jw (someL.take k) ++ " ]"
def pileT (k : Nat) : Str := "pile t [ " ++ jw (someL.take k) ++ " ]"
def rowBk (k : Nat) : Bx 4 := (BxF.line false "t" 0 (someB.take k) : BxF (Bx 3))
def pileBk (k : Nat) : Bx 4 := (BxF.pile "t" (someB.take k) : BxF (Bx 3))
theorem lf_a : lfS "a" = jw (wrdV 3 (lf 2 "a")) := by decide +kernel
theorem lf_b : lfS "b" = jw (wrdV 3 (lf 2 "b")) := by decide +kernel
theorem lf_c : lfS "c" = jw (wrdV 3 (lf 2 "c")) := by decide +kernel
theorem lf_d : lfS "d" = jw (wrdV 3 (lf 2 "d")) := by decide +kernel
theorem lf_e : lfS "e" = jw (wrdV 3 (lf 2 "e")) := by decide +kernel
theorem someL_eq : someL = (someB.map (wrdV 3)).map jw := by
  show [lfS "a", lfS "b", lfS "c", lfS "d", lfS "e"] = [jw (wrdV 3 (lf 2 "a")), jw (wrdV 3 (lf 2 "b")), jw (wrdV 3 (lf 2 "c")), jw (wrdV 3 (lf 2 "d")), jw (wrdV 3 (lf 2 "e"))]
  rw [lf_a, lf_b, lf_c, lf_d, lf_e]
theorem tx_ne {n : Nat} {b : Bx n} : wrdV n b ≠ [] := by
  obtain ⟨r, e⟩ := wrd_first n b
  rw [e]
  simp
theorem some_tx (k : Nat) : jw (someL.take k) = jw ((someB.take k).flatMap (wrdV 3)) := by
  rw [someL_eq, ← List.map_take, ← List.map_take, jw_flat _ (fun x hx => by
    obtain ⟨b, _, rfl⟩ := List.mem_map.mp hx
    exact tx_ne), List.flatMap_def]
theorem some_ne {k : Nat} (h1 : 1 ≤ k) : (someB.take k).flatMap (wrdV 3) ≠ [] := by
  obtain ⟨k, rfl⟩ : ∃ j, k = j + 1 := ⟨k - 1, by omega⟩
  show wrdV 3 (lf 2 "a") ++ _ ≠ []
  simp [tx_ne]
theorem row_tx {k : Nat} (h1 : 1 ≤ k) : rowT k = jw (wrdV 4 (rowBk k)) := by
  unfold rowT
  rw [some_tx, tx_one (H := ["row", "t", nwS 0, "["]) (by simp) (by decide +kernel) (some_ne h1)]
  show _ = jw ([kindS false, "t"] ++ [nwS 0] ++ [("[" : Str)] ++ (someB.take k).flatMap (wrdV 3) ++ [("]" : Str)])
  simp [kindS]
theorem pile_tx {k : Nat} (h1 : 1 ≤ k) : pileT k = jw (wrdV 4 (pileBk k)) := by
  unfold pileT
  rw [some_tx, tx_one (H := ["pile", "t", "["]) (by simp) (by decide +kernel) (some_ne h1)]
  show _ = jw ([("pile" : Str), "t"] ++ [] ++ [("[" : Str)] ++ (someB.take k).flatMap (wrdV 3) ++ [("]" : Str)])
  simp
theorem sp0_tx : sp0.Tx := mk_tx (by decide) (by decide) (fun m hm => by cases hm; decide) (by decide) (by decide)
theorem sp1_tx : sp1.Tx := mk_tx (by decide) (by decide) (fun m hm => by cases hm) (by decide) (by decide)
theorem lf_tb {n : Nat} {x : Str} (h : nameB (.str x) = true) : Tb (n + 1) (lf n x) := ⟨h, sp0_tx, sp1_tx⟩
theorem some_tb : ∀ p ∈ someB, Tb 3 p := by
  intro p hp
  simp only [someB, List.mem_cons, List.not_mem_nil, or_false] at hp
  rcases hp with rfl | rfl | rfl | rfl | rfl <;> exact lf_tb (by decide +kernel)
theorem row_tb (k : Nat) : Tb 4 (rowBk k) := ⟨name_t, by decide, Nat.le_trans (List.length_take_le' k someB) (by decide), fun p hp => some_tb p (List.mem_of_mem_take hp)⟩
theorem pile_tb (k : Nat) : Tb 4 (pileBk k) := ⟨name_t, Nat.le_trans (List.length_take_le' k someB) (by decide), fun p hp => some_tb p (List.mem_of_mem_take hp)⟩
theorem row_len (k : Nat) : (wrdV 4 (rowBk k)).length ≤ 9000 := by
  have e : wrdV 4 (rowBk k) = [kindS false, "t"] ++ [nwS 0] ++ [("[" : Str)] ++ (someB.take k).flatMap (wrdV 3) ++ [("]" : Str)] := rfl
  have l : ((someB.take k).flatMap (wrdV 3)).length ≤ 12 * (someB.take k).length := flat_leD _ fun p hp => by
    have hp := List.mem_of_mem_take hp
    simp only [someB, List.mem_cons, List.not_mem_nil, or_false] at hp
    rcases hp with rfl | rfl | rfl | rfl | rfl <;> exact Nat.le_refl _
  have l2 : (someB.take k).length ≤ 5 := List.length_take_le' k someB
  rw [e]
  simp only [List.length_append, List.length_cons, List.length_nil]
  omega
theorem pile_len (k : Nat) : (wrdV 4 (pileBk k)).length ≤ 9000 := by
  have e : wrdV 4 (pileBk k) = [("pile" : Str), "t"] ++ [] ++ [("[" : Str)] ++ (someB.take k).flatMap (wrdV 3) ++ [("]" : Str)] := rfl
  have l : ((someB.take k).flatMap (wrdV 3)).length ≤ 12 * (someB.take k).length := flat_leD _ fun p hp => by
    have hp := List.mem_of_mem_take hp
    simp only [someB, List.mem_cons, List.not_mem_nil, or_false] at hp
    rcases hp with rfl | rfl | rfl | rfl | rfl <;> exact Nat.le_refl _
  have l2 : (someB.take k).length ≤ 5 := List.length_take_le' k someB
  rw [e]
  simp only [List.length_append, List.length_cons, List.length_nil]
  omega
theorem row_box : ∀ k : Fin 5, boxB (bxD 4 (rowBk (k.val + 1))) = decide (k.val + 1 ≤ 4) := by decide +kernel
theorem pile_box : ∀ k : Fin 5, boxB (bxD 4 (pileBk (k.val + 1))) = decide (k.val + 1 ≤ 3) := by decide +kernel
theorem none_of {T : Str} {o : Option D} (h : M_read [.str T] = some o) : M_Lnone [.str T] = some (.bool o.isNone) := by
  show (M_read [.str T]).map _ = _
  rw [h]
  rfl
theorem none_row {k : Nat} (h1 : 1 ≤ k) (h2 : k ≤ 5) : M_Lnone [.str (rowT k)] = some (.bool (decide (4 < k))) := by
  have b := row_box ⟨k - 1, by omega⟩
  have e : k - 1 + 1 = k := by omega
  simp only [e] at b
  rw [row_tx h1]
  by_cases q : k ≤ 4
  · rw [decide_eq_true q] at b
    rw [none_of (read_yes b (row_len k)), decide_eq_false (by omega)]
    rfl
  · rw [decide_eq_false q] at b
    rw [none_of (read_no (row_tb k) (by decide) b (row_len k)), decide_eq_true (by omega)]
    rfl
theorem none_pile {k : Nat} (h1 : 1 ≤ k) (h2 : k ≤ 5) : M_Lnone [.str (pileT k)] = some (.bool (decide (3 < k))) := by
  have b := pile_box ⟨k - 1, by omega⟩
  have e : k - 1 + 1 = k := by omega
  simp only [e] at b
  rw [pile_tx h1]
  by_cases q : k ≤ 3
  · rw [decide_eq_true q] at b
    rw [none_of (read_yes b (pile_len k)), decide_eq_false (by omega)]
    rfl
  · rw [decide_eq_false q] at b
    rw [none_of (read_no (pile_tb k) (by decide) b (pile_len k)), decide_eq_true (by omega)]
    rfl
def dp1 : Str := "pile " ++ "f" ++ " [ " ++ lfS "a" ++ " ]"
def dp2 : Str := "pile " ++ "g" ++ " [ " ++ dp1 ++ " ]"
def dp3 : Str := "pile " ++ "h" ++ " [ " ++ dp2 ++ " ]"
def dp4 : Str := "pile " ++ "i" ++ " [ " ++ dp3 ++ " ]"
def pl1 (n : Nat) (x : Str) (p : Bx n) : Bx (n + 1) := (BxF.pile x [p] : BxF (Bx n))
theorem none_d1 : M_Lnone [.str dp1] = some (.bool false) := none_of (good_of (pl1 3 "f" (lf 2 "a")) (by decide +kernel) (by decide +kernel) (by decide +kernel))
theorem none_d2 : M_Lnone [.str dp2] = some (.bool false) := none_of (good_of (pl1 3 "g" (pl1 2 "f" (lf 1 "a"))) (by decide +kernel) (by decide +kernel) (by decide +kernel))
theorem none_d3 : M_Lnone [.str dp3] = some (.bool false) := none_of (good_of (pl1 3 "h" (pl1 2 "g" (pl1 1 "f" (lf 0 "a")))) (by decide +kernel) (by decide +kernel) (by decide +kernel))
theorem none_d4 : M_Lnone [.str dp4] = some (.bool true) := none_of (bad_of (wrdV 5 (pl1 4 "i" (pl1 3 "h" (pl1 2 "g" (pl1 1 "f" (lf 0 "a")))))) (by decide +kernel) (by decide +kernel) (by decide +kernel))

/-! the law k05 -/
theorem l_cl : (" ]" : Str).length = 2 := by decide +kernel
theorem c_cl : (" ]" : Str).cps.toList = [32, 93] := by decide +kernel
theorem cut_end {a : Str} (h : a.length ≤ 90000) : cutD (.str (a ++ " ]")) none (some (-2)) = some (.str a) := by
  have hl : (a ++ " ]").length = a.length + 2 := by rw [st_len, l_cl]
  show (if sml (a ++ " ]").length = true then some (PyData.str (cutS (a ++ " ]") none (some (-2)))) else none) = _
  rw [if_pos (sml_of (by omega))]
  have : cutS (a ++ " ]") none (some (-2)) = a := by
    unfold cutS
    rw [hl]
    have e : HT.sIx (a.length + 2) (a.length + 2) (some (-2)) = a.length := by
      show (if (-2 : Int) < 0 then ((-2 : Int) + ((a.length + 2 : Nat) : Int)).toNat else min (-2 : Int).toNat (a.length + 2)) = a.length
      rw [if_pos (by decide)]; omega
    rw [e, HT.sIx_none, List.drop_zero, Nat.sub_zero]
    have e2 : (a ++ " ]").cps.toList = a.cps.toList ++ [32, 93] := by
      rw [← c_cl]
      show (a.cps ++ (" ]" : Str).cps).toList = _
      rw [Array.toList_append]
    have e3 : a.cps.toList.length = a.length := Array.length_toList
    rw [e2, List.take_left' e3]
  rw [this]
theorem nr_of {T : Str} {d : D} (h : M_read [.str T] = some (some d)) : noRaise M_read [.str T] = some d := by
  show (M_read [.str T]).bind id = _
  rw [h]
  rfl
theorem body1 {W J G T s1 s2 s3 s4 s6 TD s7 s8 TS TN TM TO : Str} {O P : D} {x0 x2 x3 x4 x5 x10 x11 x12 : Option Sl}
    (a1 : addD (.str W) (.str " t 7 [ ") = some (.str s1)) (a2 : addD (.str s1) (.str J) = some (.str s2)) (a3 : addD (.str s2) (.str " ") = some (.str s3)) (a4 : addD (.str s3) (.str G) = some (.str s4)) (a5 : addD (.str s4) (.str " ]") = some (.str T))
    (a6 : addD (.str s3) (.str J) = some (.str s6)) (a7 : addD (.str s6) (.str " ]") = some (.str TD))
    (b1 : addD (.str W) (.str " x 7 [ ") = some (.str s7)) (b2 : addD (.str s7) (.str J) = some (.str s8)) (b3 : addD (.str s8) (.str " ]") = some (.str TS))
    (c1 : addD (.str W) (.str " t 7 [ ]") = some (.str TN)) (c2 : addD (.str T) (.str " ]") = some (.str TM)) (ct : cutD (.str T) none (some (-2)) = some (.str TO))
    (w : M_written [.tuple [.str W, .str "t", .int 7, .tuple [O, P]]] = some (.str T)) (nT : neD (.str T) (.str T) = some (.bool false))
    (r : noRaise M_read [.str T] = some (.tuple [.str W, .str "t", .int 7, .tuple [O, P]])) (nB : neD (.tuple [.str W, .str "t", .int 7, .tuple [O, P]]) (.tuple [.str W, .str "t", .int 7, .tuple [O, P]]) = some (.bool false))
    (n1 : M_Lnone [.str TD] = some (.bool true)) (n2 : M_Lnone [.str TS] = some (.bool true)) (n3 : M_Lnone [.str TN] = some (.bool true)) (n4 : M_Lnone [.str TM] = some (.bool true)) (n5 : M_Lnone [.str TO] = some (.bool true)) :
    B_law_1 [x0, some (.sh (.str W)), x2, x3, x4, x5, some (.sh O), some (.sh P), some (.sh (.str J)), some (.sh (.str G)), x10, x11, x12] = some (.nx [x0, some (.sh (.str W)), x2, x3, x4, x5, some (.sh O), some (.sh P), some (.sh (.str J)), some (.sh (.str G)), some (.sh (.str T)), x11, x12]) := by
  simp -implicitDefEqProofs [B_law_1, a1, a2, a3, a4, a5, a6, a7, b1, b2, b3, c1, c2, ct, w, nT, r, nB, n1, n2, n3, n4, n5]
section
variable {one : Bx 3} {oth : Bx 2}
theorem Two.ok1 (h : Two one oth) : ∀ x ∈ nmsV 3 one, PyData.strOk x = true := made_ok 3 "x" one h.m1 (by decide +kernel)
theorem Two.ok2 (h : Two one oth) : ∀ x ∈ nmsV 2 oth, PyData.strOk x = true := made_ok 2 "y" oth h.m2 (by decide +kernel)
theorem Two.shp1 (h : Two one oth) : shp 7 (bxD 3 one) = true := shp_bx 3 one h.ok1
theorem Two.shp2 (h : Two one oth) : shp 7 (bxD 2 oth) = true := shp_mono (shp_bx 2 oth h.ok2) (by decide)
theorem Two.gt1 (h : Two one oth) : ∀ w ∈ wrdV 3 one, goodT w := tb_words 3 one h.tb1
theorem Two.gt2 (h : Two one oth) : ∀ w ∈ wrdV 2 oth, goodT w := tb_words 2 oth (tb_of_sh h.s2)
theorem Two.j1 (h : Two one oth) : (jw (wrdV 3 one)).length ≤ 6660 := by
  have h1 := jw_len _ 4 fun w hw => (h.gt1 w hw).2.2
  have h2 := h.len1
  omega
theorem Two.j2 (h : Two one oth) : (jw (wrdV 2 oth)).length ≤ 660 := by
  have h1 := jw_len _ 4 fun w hw => (h.gt2 w hw).2.2
  have h2 := h.len2
  omega
theorem Two.jL (h : Two one oth) (c : Bool) : (jw (wrdV 4 (lineB c one oth))).length ≤ 7400 := by
  have h1 := jw_len _ 4 fun w hw => (h.gt_line c w hw).2.2
  have h2 := h.lenL c
  omega
theorem Two.okL (h : Two one oth) (c : Bool) : PyData.strOk (jw (wrdV 4 (lineB c one oth))) = true := jw_ok _ fun w hw => (h.gt_line c w hw).2.1
theorem line_D (c : Bool) : bxD 4 (lineB c one oth) = .tuple [.str (kindS c), .str "t", .int 7, .tuple [bxD 3 one, bxD 2 oth]] := by
  show PyData.tuple [.str (kindS c), .str "t", .int 7, .tuple [bxD 3 one, bxD 3 (upB 2 oth)]] = _
  rw [(up_eq 2 oth).1]
theorem pile_D : bxD 4 (pileB one oth) = .tuple [.str "pile", .str "t", .tuple [bxD 3 one, bxD 2 oth]] := by
  show PyData.tuple [.str "pile", .str "t", .tuple [bxD 3 one, bxD 3 (upB 2 oth)]] = _
  rw [(up_eq 2 oth).1]
theorem rim_D : bxD 4 (rimB one) = .tuple [.str "rim", .str "t", .int 1, .int 2, .int 3, .int 4, bxD 3 one] := rfl
theorem Two.neL (h : Two one oth) (c : Bool) : neD (.tuple [.str (kindS c), .str "t", .int 7, .tuple [bxD 3 one, bxD 2 oth]]) (.tuple [.str (kindS c), .str "t", .int 7, .tuple [bxD 3 one, bxD 2 oth]]) = some (.bool false) := by
  refine ne_self (n := 9) ?_
  have k1 : shp 8 (.str (kindS c)) = true := by cases c <;> decide +kernel
  have k2 : shp 8 (.str "t") = true := by decide +kernel
  have k3 : shp 8 (.tuple [bxD 3 one, bxD 2 oth]) = true := by
    show ([bxD 3 one, bxD 2 oth].all (shp 7)) = true
    rw [List.all_cons, List.all_cons, h.shp1, h.shp2]
    rfl
  show ([PyData.str (kindS c), .str "t", .int 7, .tuple [bxD 3 one, bxD 2 oth]].all (shp 8)) = true
  rw [List.all_cons, List.all_cons, List.all_cons, List.all_cons, k1, k2, k3]
  rfl
theorem Two.neP (h : Two one oth) : neD (.tuple [.str "pile", .str "t", .tuple [bxD 3 one, bxD 2 oth]]) (.tuple [.str "pile", .str "t", .tuple [bxD 3 one, bxD 2 oth]]) = some (.bool false) := by
  refine ne_self (n := 9) ?_
  have k1 : shp 8 (.str "pile") = true := by decide +kernel
  have k2 : shp 8 (.str "t") = true := by decide +kernel
  have k3 : shp 8 (.tuple [bxD 3 one, bxD 2 oth]) = true := by
    show ([bxD 3 one, bxD 2 oth].all (shp 7)) = true
    rw [List.all_cons, List.all_cons, h.shp1, h.shp2]
    rfl
  show ([PyData.str "pile", .str "t", .tuple [bxD 3 one, bxD 2 oth]].all (shp 8)) = true
  rw [List.all_cons, List.all_cons, List.all_cons, k1, k2, k3]
  rfl
theorem Two.neR (h : Two one oth) : neD (.tuple [.str "rim", .str "t", .int 1, .int 2, .int 3, .int 4, bxD 3 one]) (.tuple [.str "rim", .str "t", .int 1, .int 2, .int 3, .int 4, bxD 3 one]) = some (.bool false) := by
  refine ne_self (n := 8) ?_
  have k1 : shp 7 (.str "rim") = true := by decide +kernel
  have k2 : shp 7 (.str "t") = true := by decide +kernel
  show ([PyData.str "rim", .str "t", .int 1, .int 2, .int 3, .int 4, bxD 3 one].all (shp 7)) = true
  simp only [List.all_cons, List.all_nil, k1, k2, h.shp1]
  rfl
theorem Two.body (h : Two one oth) (c : Bool) (x0 x2 x3 x4 x5 x10 x11 x12 : Option Sl) : ∃ T, B_law_1 [x0, some (.sh (.str (kindS c))), x2, x3, x4, x5, some (.sh (bxD 3 one)), some (.sh (bxD 2 oth)), some (.sh (.str (jw (wrdV 3 one)))), some (.sh (.str (jw (wrdV 2 oth)))), x10, x11, x12] = some (.nx [x0, some (.sh (.str (kindS c))), x2, x3, x4, x5, some (.sh (bxD 3 one)), some (.sh (bxD 2 oth)), some (.sh (.str (jw (wrdV 3 one)))), some (.sh (.str (jw (wrdV 2 oth)))), some (.sh (.str T)), x11, x12]) := by
  have kl : (kindS c).length = 3 := by cases c <;> decide +kernel
  have l1 : (" t 7 [ " : Str).length = 7 := by decide +kernel
  have l2 : (" " : Str).length = 1 := by decide +kernel
  have l3 : (" x 7 [ " : Str).length = 7 := by decide +kernel
  have l4 : (" t 7 [ ]" : Str).length = 8 := by decide +kernel
  have j1 := h.j1
  have j2 := h.j2
  have jL := h.jL c
  have jo : (jw (opnW c one oth)).length ≤ 90000 := by
    rw [tx_opn, st_len] at jL
    omega
  refine ⟨jw (wrdV 4 (lineB c one oth)), body1 (add_s (by omega)) (add_s (by simp only [st_len]; omega)) (add_s (by simp only [st_len]; omega)) (add_s (by simp only [st_len]; omega)) (by rw [← tx_line]; exact add_s (by simp only [st_len, l_cl]; omega))
    (add_s (by simp only [st_len]; omega)) (add_s (by simp only [st_len, l_cl]; omega)) (add_s (by omega)) (add_s (by simp only [st_len]; omega)) (add_s (by simp only [st_len, l_cl]; omega))
    (add_s (by omega)) (add_s (by rw [l_cl]; omega)) (by rw [tx_opn]; exact cut_end jo) (by rw [← line_D]; exact written_eq (by decide) (tb_nb 4 _ (h.tline c))) (ne_self (n := 0) (h.okL c)) (by rw [← line_D]; exact nr_of (h.rd_line c)) (h.neL c)
    (by rw [tx_dup]; exact none_of (h.rd_dup c)) (by rw [tx_sam]; exact none_of (h.rd_sam c)) (by rw [tx_nil]; exact none_of (rd_nil c)) (by rw [tx_more]; exact none_of (h.rd_more c)) (none_of (h.rd_opn c))⟩
theorem Two.nms (h : Two one oth) : M_names_in 12 [bxD 3 one] = some (.tuple ((nmsV 3 one).map PyData.str)) ∧ M_Lnames 12 [bxD 3 one] = some (.tuple ((nmsV 3 one).map PyData.str)) ∧ M_names_in 12 [.tuple [.str "rim", .str "t", .int 1, .int 2, .int 3, .int 4, bxD 3 one]] = some (.tuple (.str "t" :: (nmsV 3 one).map PyData.str)) ∧ (nmsV 3 one).length ≤ 400 := by
  have a1 := Pnames_eq 3 12 _ (by decide) (by decide) h.s1
  have a2 := Lnames_eq 3 12 _ (by decide) (by decide) h.s1
  have sr : shB 4 (bxD 4 (rimB one)) = true := sh_rim name_t h.s1
  have a3 := Pnames_eq 4 12 _ (by decide) (by decide) sr
  rw [nm_eq] at a1 a2 a3
  have e : nmsV 4 (rimB one) = ("t" : Str) :: nmsV 3 one := by
    show ("t" : Str) :: (nmsV 3 one ++ []) = _
    rw [List.append_nil]
  rw [e, rim_D] at a3
  have l := (nmD_ok 3 _ h.s1).1
  rw [nm_eq] at l
  exact ⟨a1, a2, a3, Nat.le_trans l (cpD_le (by decide))⟩
end
/-! so many in a row, in a pile -/
theorem some_k : ∀ k : Fin 6, ((someL.take k.val).map (·.length)).sum + (someL.take k.val).length ≤ 16777216 ∧ (jw (someL.take k.val)).length ≤ 1000 := by decide +kernel
theorem body2 {k : Nat} (h1 : 1 ≤ k) (h2 : k ≤ 5) (x0 x1 x2 x5 x6 x7 x8 x9 x10 x11 x12 : Option Sl) : B_law_2 [x0, x1, x2, some (.sh (.list (someL.map PyData.str))), some (.sh (.int (k : Int))), x5, x6, x7, x8, x9, x10, x11, x12] = some (.nx [x0, x1, x2, some (.sh (.list (someL.map PyData.str))), some (.sh (.int (k : Int))), x5, x6, x7, x8, x9, x10, x11, x12]) := by
  obtain ⟨s1, s2⟩ := some_k ⟨k, by omega⟩
  have hc : cutL (someL.map PyData.str) none (some (k : Int)) = (someL.take k).map PyData.str := by rw [cutL_to, List.map_take]
  have hj : joinD (.str " ") (.list ((someL.take k).map PyData.str)) = some (.str (jw (someL.take k))) := join_ok (.inl rfl) s1
  have r1 : ("row t 0 [ " : Str).length = 10 := by decide +kernel
  have r2 : ("pile t [ " : Str).length = 9 := by decide +kernel
  have s2 : (jw (someL.take k)).length ≤ 1000 := s2
  have a1 : addD (.str "row t 0 [ ") (.str (jw (someL.take k))) = some (.str ("row t 0 [ " ++ jw (someL.take k))) := add_s (by omega)
  have a2 : addD (.str ("row t 0 [ " ++ jw (someL.take k))) (.str " ]") = some (.str (rowT k)) := add_s (by rw [st_len, l_cl]; omega)
  have a3 : addD (.str "pile t [ ") (.str (jw (someL.take k))) = some (.str ("pile t [ " ++ jw (someL.take k))) := add_s (by omega)
  have a4 : addD (.str ("pile t [ " ++ jw (someL.take k))) (.str " ]") = some (.str (pileT k)) := add_s (by rw [st_len, l_cl]; omega)
  have n1 := none_row h1 h2
  have n2 := none_pile h1 h2
  have d1 : decide ((4 : Int) < (k : Int)) = decide (4 < k) := decide_eq_decide.mpr (by omega)
  have d2 : decide ((3 : Int) < (k : Int)) = decide (3 < k) := decide_eq_decide.mpr (by omega)
  have e1 : ∀ b : Bool, neD (.bool b) (.bool b) = some (.bool false) := fun b => ne_self (n := 0) rfl
  have g1 : gtD (.int (k : Int)) (.int 4) = some (.bool (decide (4 < k))) := by rw [← d1]; rfl
  have g2 : gtD (.int (k : Int)) (.int 3) = some (.bool (decide (3 < k))) := by rw [← d2]; rfl
  generalize decide (4 < k) = q1 at *
  generalize decide (3 < k) = q2 at *
  generalize "row t 0 [ " ++ jw (someL.take k) = t1 at *
  generalize "pile t [ " ++ jw (someL.take k) = t2 at *
  generalize rowT k = t3 at *
  generalize pileT k = t4 at *
  generalize jw (someL.take k) = t5 at *
  generalize (someL.take k).map PyData.str = t6 at *
  generalize someL.map PyData.str = t7 at *
  simp -implicitDefEqProofs [B_law_2, -e_gtI, hc, hj, a1, a2, a3, a4, n1, n2, g1, g2, e1]
theorem loop2 (x0 x1 x2 x4 x5 x6 x7 x8 x9 x10 x11 x12 : Option Sl) : ∃ x4', forD (bNm 4) B_law_2 [.int 1, .int 2, .int 3, .int 4, .int 5] [x0, x1, x2, some (.sh (.list (someL.map PyData.str))), x4, x5, x6, x7, x8, x9, x10, x11, x12] = some (.nx [x0, x1, x2, some (.sh (.list (someL.map PyData.str))), x4', x5, x6, x7, x8, x9, x10, x11, x12]) := by
  refine ⟨some (.sh (.int ((5 : Nat) : Int))), ?_⟩
  rw [forD_c, e_bNm, Option.bind_some]
  show nextFl (B_law_2 [x0, x1, x2, some (.sh (.list (someL.map PyData.str))), some (.sh (.int ((1 : Nat) : Int))), x5, x6, x7, x8, x9, x10, x11, x12]) _ = _
  rw [body2 (by decide) (by decide), e_nnx, forD_c, e_bNm, Option.bind_some]
  show nextFl (B_law_2 [x0, x1, x2, some (.sh (.list (someL.map PyData.str))), some (.sh (.int ((2 : Nat) : Int))), x5, x6, x7, x8, x9, x10, x11, x12]) _ = _
  rw [body2 (by decide) (by decide), e_nnx, forD_c, e_bNm, Option.bind_some]
  show nextFl (B_law_2 [x0, x1, x2, some (.sh (.list (someL.map PyData.str))), some (.sh (.int ((3 : Nat) : Int))), x5, x6, x7, x8, x9, x10, x11, x12]) _ = _
  rw [body2 (by decide) (by decide), e_nnx, forD_c, e_bNm, Option.bind_some]
  show nextFl (B_law_2 [x0, x1, x2, some (.sh (.list (someL.map PyData.str))), some (.sh (.int ((4 : Nat) : Int))), x5, x6, x7, x8, x9, x10, x11, x12]) _ = _
  rw [body2 (by decide) (by decide), e_nnx, forD_c, e_bNm, Option.bind_some]
  show nextFl (B_law_2 [x0, x1, x2, some (.sh (.list (someL.map PyData.str))), some (.sh (.int ((5 : Nat) : Int))), x5, x6, x7, x8, x9, x10, x11, x12]) _ = _
  rw [body2 (by decide) (by decide), e_nnx, forD_n]
theorem body3 {d nm s1 s2 s3 d' : Str} {k : Int} {b : Bool} (a1 : addD (.str "pile ") (.str nm) = some (.str s1)) (a2 : addD (.str s1) (.str " [ ") = some (.str s2)) (a3 : addD (.str s2) (.str d) = some (.str s3)) (a4 : addD (.str s3) (.str " ]") = some (.str d'))
    (n : M_Lnone [.str d'] = some (.bool b)) (hk : decide (2 < k) = b) (x0 x1 x2 x3 x4 x6 x7 x8 x9 x10 : Option Sl) : B_law_3 [x0, x1, x2, x3, x4, some (.sh (.str d)), x6, x7, x8, x9, x10, some (.sh (.int k)), some (.sh (.str nm))] = some (.nx [x0, x1, x2, x3, x4, some (.sh (.str d')), x6, x7, x8, x9, x10, some (.sh (.int k)), some (.sh (.str nm))]) := by
  have g1 : gtD (.int k) (.int 2) = some (.bool b) := by rw [← hk]; rfl
  have e1 : neD (.bool b) (.bool b) = some (.bool false) := ne_self (n := 0) rfl
  simp -implicitDefEqProofs [B_law_3, -e_gtI, a1, a2, a3, a4, n, g1, e1]
theorem add_c {a b c : Str} (h : addD (.str a) (.str b) = some (.str c)) : addD (.str a) (.str b) = some (.str c) := h
theorem loop3 (x0 x1 x2 x3 x4 x6 x7 x8 x9 x10 x11 x12 : Option Sl) : ∃ x5' x11' x12', forD (bTp [bNm 11, bNm 12]) B_law_3 [.tuple [.int 0, .str "f"], .tuple [.int 1, .str "g"], .tuple [.int 2, .str "h"], .tuple [.int 3, .str "i"]] [x0, x1, x2, x3, x4, some (.sh (.str (lfS "a"))), x6, x7, x8, x9, x10, x11, x12] = some (.nx [x0, x1, x2, x3, x4, x5', x6, x7, x8, x9, x10, x11', x12']) := by
  refine ⟨some (.sh (.str dp4)), some (.sh (.int 3)), some (.sh (.str "i")), ?_⟩
  have b1 := body3 (d := lfS "a") (nm := "f") (d' := dp1) (k := 0) (b := false) (add_s (by decide +kernel)) (add_s (by decide +kernel)) (add_s (by decide +kernel)) (add_s (by decide +kernel)) none_d1 rfl x0 x1 x2 x3 x4 x6 x7 x8 x9 x10
  have b2 := body3 (d := dp1) (nm := "g") (d' := dp2) (k := 1) (b := false) (add_s (by decide +kernel)) (add_s (by decide +kernel)) (add_s (by decide +kernel)) (add_s (by decide +kernel)) none_d2 rfl x0 x1 x2 x3 x4 x6 x7 x8 x9 x10
  have b3 := body3 (d := dp2) (nm := "h") (d' := dp3) (k := 2) (b := false) (add_s (by decide +kernel)) (add_s (by decide +kernel)) (add_s (by decide +kernel)) (add_s (by decide +kernel)) none_d3 rfl x0 x1 x2 x3 x4 x6 x7 x8 x9 x10
  have b4 := body3 (d := dp3) (nm := "i") (d' := dp4) (k := 3) (b := true) (add_s (by decide +kernel)) (add_s (by decide +kernel)) (add_s (by decide +kernel)) (add_s (by decide +kernel)) none_d4 rfl x0 x1 x2 x3 x4 x6 x7 x8 x9 x10
  generalize dp4 = q4 at *
  generalize dp3 = q3 at *
  generalize dp2 = q2 at *
  generalize dp1 = q1 at *
  generalize lfS "a" = q0 at *
  simp -implicitDefEqProofs [forD_c, forD_n, b1, b2, b3, b4]
/-! texts typed by hand -/
def badL : List Str := ["", "leaf a", "leaf a 0 0 0 0 0", "leaf a 1 0 0 0 0 0 0 0 0 0", "leaf a 0 1 0 0 0 0 0 0 0 0", "leaf a 0 0 0 10 0 0 0 0 0 0", "leaf a 0 0 1000 0 0 0 0 0 0 0", "leaf abcde 0 0 0 0 0 0 0 0 0 0", "leaf A 0 0 0 0 0 0 0 0 0 0", "leaf a 00 0 0 0 0 0 0 0 0 0", "leaf a - 0 0 0 0 0 0 0 0 0", "leaf a 0 0 0 0 0 0 0 0 0 0 ", " leaf a 0 0 0 0 0 0 0 0 0 0", "leaf a 0 0 0 0 0 0 0 0 0", "box a 0 0"]
theorem badL_none : ∀ w ∈ badL, M_Lnone [.str w] = some (.bool true) := by
  intro w hw
  simp only [badL, List.mem_cons, List.not_mem_nil, or_false] at hw
  rcases hw with rfl | rfl | rfl | rfl | rfl | rfl | rfl | rfl | rfl | rfl | rfl | rfl | rfl | rfl | rfl
  · exact none_of bad_1
  · exact none_of bad_2
  · exact none_of bad_3
  · exact none_of bad_4
  · exact none_of bad_5
  · exact none_of bad_6
  · exact none_of bad_7
  · exact none_of bad_8
  · exact none_of bad_9
  · exact none_of bad_10
  · exact none_of bad_11
  · exact none_of bad_12
  · exact none_of bad_13
  · exact none_of bad_14
  · exact none_of bad_15
theorem pickBad {r : Int} (h1 : 0 ≤ r) (h2 : r < 15) : ∃ w, atI (badL.map PyData.str) r = some (.str w) ∧ M_Lnone [.str w] = some (.bool true) := by
  have hl : r.toNat < badL.length := by show r.toNat < 15; omega
  refine ⟨badL[r.toNat], ?_, badL_none _ (List.getElem_mem hl)⟩
  rw [atI_pos h1, List.getElem?_map, List.getElem?_eq_getElem hl]
  rfl
theorem bodyH {m k : Int} {G : D} {x4 : Option Sl} (hm : 0 ≤ m) : B_Lby_hand_1 [some (.sh (.int m)), some (.sh (.list (badL.map PyData.str))), some (.sh G), some (.sh (.int k)), x4] = some (.nx [some (.sh (.int m)), some (.sh (.list (badL.map PyData.str))), some (.sh G), some (.sh (.int k)), x4]) := by
  obtain ⟨w, h1, h2⟩ := pickBad (r := (m / 7 + 5 * k) % 15) (by omega) (by omega)
  have hl : lenD (.list (badL.map PyData.str)) = some (.int 15) := rfl
  generalize badL.map PyData.str = BL at *
  simp -implicitDefEqProofs [B_Lby_hand_1, fdiv_ok (b := 7), mul_l (a := 5), -e_lenL, hl, mod_ok (b := 15), h1, h2]
def goodL : List Str := ["leaf a 0 0 0 0 0 0 0 0 0 0", "leaf abcd 1 2 - 9 9 0 999 999 0 0", "row r 0 [ leaf a 0 0 - 0 0 0 0 - 0 0 ]"]
theorem tH {g : Str} {d : D} (hr : M_read [.str g] = some (some d)) (hw : M_written [d] = some (.str g)) (hb : M_is_box [d] = some (.bool true)) (ho : PyData.strOk g = true) (x0 x1 x2 x3 : Option Sl) : T_Lby_hand_1 [x0, x1, x2, x3, some (.sh (.str g))] = some false := by
  have h1 := nr_of hr
  have h2 : neD (.str g) (.str g) = some (.bool false) := ne_self (n := 0) ho
  simp -implicitDefEqProofs [T_Lby_hand_1, h1, hw, hb, h2]
theorem good_w {g : Str} {b : Bx 4} (h1 : g = jw (wrdV 4 b)) (h2 : boxB (bxD 4 b) = true) : M_written [bxD 4 b] = some (.str g) := by
  obtain ⟨b', e, ht⟩ := box_text h2
  have := bx_inj 4 b b' e
  subst this
  rw [h1]
  exact written_eq (by decide) (tb_nb 4 b ht)
theorem good_b {b : Bx 4} (h1 : pl false 10000 12 (bxD 4 b) = true) (h2 : boxB (bxD 4 b) = true) : M_is_box [bxD 4 b] = some (.bool true) := by
  rw [← h2]
  exact Pisbox_eq (L := 10000) (Nat.le_refl _) h1
theorem by_hand {m : Int} (hm : 0 ≤ m) : M_Lby_hand [.int m] = some (.bool true) := by
  have t1 := fun x0 x1 x2 x3 => tH good_1 (good_w (by decide +kernel) lf0_box) (good_b (by decide +kernel) lf0_box) (by decide +kernel) x0 x1 x2 x3
  have t2 := fun x0 x1 x2 x3 => tH good_2 (good_w (by decide +kernel) (by decide +kernel)) (good_b (by decide +kernel) (by decide +kernel)) (by decide +kernel) x0 x1 x2 x3
  have t3 := fun x0 x1 x2 x3 => tH good_3 (good_w (by decide +kernel) (by decide +kernel)) (good_b (by decide +kernel) (by decide +kernel)) (by decide +kernel) x0 x1 x2 x3
  have r6 : rng1D (.int 6) = some [.int 0, .int 1, .int 2, .int 3, .int 4, .int 5] := rfl
  have fo : forD (bNm 3) B_Lby_hand_1 [.int 0, .int 1, .int 2, .int 3, .int 4, .int 5] [some (.sh (.int m)), some (.sh (.list (badL.map PyData.str))), some (.sh (.list (goodL.map PyData.str))), none, none] = some (.nx [some (.sh (.int m)), some (.sh (.list (badL.map PyData.str))), some (.sh (.list (goodL.map PyData.str))), some (.sh (.int 5)), none]) := by
    have b := fun (k : Int) => bodyH (k := k) (G := .list (goodL.map PyData.str)) (x4 := none) hm
    generalize badL.map PyData.str = BL at *
    generalize goodL.map PyData.str = GL at *
    simp -implicitDefEqProofs [forD_c, forD_n, b]
  have lc : ∀ x3, lcGo (bNm 4) T_Lby_hand_1 C_Lby_hand_1 [some (.sh (.int m)), some (.sh (.list (badL.map PyData.str))), some (.sh (.list (goodL.map PyData.str))), x3, none] (goodL.map PyData.str) = some [] := fun x3 => by
    generalize badL.map PyData.str = BL at *
    generalize hG : goodL.map PyData.str = GL at *
    have e : GL = [.str "leaf a 0 0 0 0 0 0 0 0 0 0", .str "leaf abcd 1 2 - 9 9 0 999 999 0 0", .str "row r 0 [ leaf a 0 0 - 0 0 0 0 - 0 0 ]"] := by rw [← hG]; rfl
    have e2 : lcGo (bNm 4) T_Lby_hand_1 C_Lby_hand_1 [some (.sh (.int m)), some (.sh (.list BL)), some (.sh (.list GL)), x3, none] [.str "leaf a 0 0 0 0 0 0 0 0 0 0", .str "leaf abcd 1 2 - 9 9 0 999 999 0 0", .str "row r 0 [ leaf a 0 0 - 0 0 0 0 - 0 0 ]"] = some [] := by
      clear hG e
      simp -implicitDefEqProofs [lcGo, t1, t2, t3]
    rw [← e] at e2
    exact e2
  have st : D_Lby_hand [some (.sh (.int m)), none, none, none, none] = bindFl (some (.nx [some (.sh (.int m)), some (.sh (.list (badL.map PyData.str))), some (.sh (.list (goodL.map PyData.str))), none, none])) (sq (sFor (rg1 (cst (.int 6))) (bNm 3) B_Lby_hand_1) (sRet (c2 eqD (lstE (lcD (itA (vr 2)) (bNm 4) T_Lby_hand_1 C_Lby_hand_1 [4])) (lstE nilA)))) := rfl
  have ru : M_Lby_hand [.int m] = endFl (D_Lby_hand [some (.sh (.int m)), none, none, none, none]) := rfl
  have sm : sml (goodL.map PyData.str).length = true := rfl
  have ee : eqD (.list []) (.list []) = some (.bool true) := rfl
  rw [ru, st]
  generalize badL.map PyData.str = BL at *
  generalize goodL.map PyData.str = GL at *
  simp -implicitDefEqProofs [r6, fo, sm, lc, ee]
theorem add_lf {x : Str} (hx : x.length = 1) : (addD (.str "leaf ") (.str x)).bind (fun y => addD y (.str " 0 0 0 0 0 0 0 - 1 1")) = some (.str (lfS x)) := by
  have l1 : ("leaf " : Str).length = 5 := by decide +kernel
  have l2 : (" 0 0 0 0 0 0 0 - 1 1" : Str).length = 20 := by decide +kernel
  rw [add_s (by omega), Option.bind_some, add_s (by rw [st_len]; omega)]
  rfl
theorem lc_some (x0 x1 x3 x4 x5 x6 x7 x8 x9 x10 x11 : Option Sl) : lcGo (bNm 12) yesT C_law_1 [x0, x1, some (.sh (.str " 0 0 0 0 0 0 0 - 1 1")), x3, x4, x5, x6, x7, x8, x9, x10, x11, none] [.str "a", .str "b", .str "c", .str "d", .str "e"] = some (someL.map PyData.str) := by
  have h1 : ∀ y ∈ [("a" : Str), "b", "c", "d", "e"], y.length = 1 := by decide +kernel
  have e1 : [PyData.str "a", .str "b", .str "c", .str "d", .str "e"] = ([("a" : Str), "b", "c", "d", "e"] : List Str).map (fun x => PyData.str x) := by simp only [List.map_cons, List.map_nil]
  have e2 : someL.map PyData.str = ([("a" : Str), "b", "c", "d", "e"] : List Str).map (fun x => PyData.str (lfS x)) := by simp only [someL, List.map_cons, List.map_nil]
  rw [e1, e2]
  refine lcGo_map (fun x : Str => PyData.str x) (fun x : Str => PyData.str (lfS x)) _ fun x hx => ⟨_, rfl, ?_⟩
  have := add_lf (h1 x hx)
  generalize lfS x = z at *
  simp -implicitDefEqProofs [C_law_1]
  exact this
theorem two_of {one : Bx 3} {oth : Bx 2} (h1 : Made 3 "x" one) (h2 : Made 2 "y" oth) : Two one oth := ⟨h1, h2⟩
theorem hM (ns : List Int) (hl : ns.length ≤ 63) : M_law [.list (ns.map PyData.int)] = some (.bool true) := by
  obtain ⟨m, hm, m0, m1⟩ := mixed_ex ns 0 (by decide)
  obtain ⟨m', hm', m0', m1'⟩ := mixed_ex ns 1 (by decide)
  obtain ⟨m2, hm2, m02, m12⟩ := mixed_ex ns 2 (by decide)
  have z0 : ((0 : Nat) : Int) = 0 := rfl
  have z1 : ((1 : Nat) : Int) = 1 := rfl
  have z2 : ((2 : Nat) : Int) = 2 := rfl
  rw [z0] at hm
  rw [z1] at hm'
  rw [z2] at hm2
  obtain ⟨one, hb1, mb1⟩ := box_ex 2 11 (by decide) m "x" m0 (by rw [nm_x]; decide)
  obtain ⟨oth, hb2, mb2⟩ := box_ex 1 11 (by decide) m' "y" m0' (by rw [nm_y]; decide)
  have y1 : ((2 : Nat) : Int) + 1 = 3 := rfl
  have y2 : ((1 : Nat) : Int) + 1 = 2 := rfl
  rw [y1] at hb1
  rw [y2] at hb2
  have h := two_of mb1 mb2
  have w1 : M_written [bxD 3 one] = some (.str (jw (wrdV 3 one))) := written_eq (by decide) (tb_nb 3 one h.tb1)
  have w2 : M_written [bxD 2 oth] = some (.str (jw (wrdV 2 oth))) := written_eq (by decide) (tb_nb 2 oth (tb_of_sh h.s2))
  have r1 := nr_of h.rd_here
  have e1 : neD (bxD 3 one) (bxD 3 one) = some (.bool false) := ne_self h.shp1
  obtain ⟨nm1, nm2, nm3, nml⟩ := h.nms
  have okN : shp 1 (.tuple ((nmsV 3 one).map PyData.str)) = true := by
    show ((nmsV 3 one).map PyData.str).all (shp 0) = true
    rw [List.all_eq_true]
    intro x hx
    obtain ⟨y, q, rfl⟩ := List.mem_map.mp hx
    exact h.ok1 y q
  have e2 := ne_self okN
  have e3 : neD (.tuple (.str "t" :: (nmsV 3 one).map PyData.str)) (.tuple (.str "t" :: (nmsV 3 one).map PyData.str)) = some (.bool false) := by
    refine ne_self (n := 1) ?_
    show (PyData.str "t" :: (nmsV 3 one).map PyData.str).all (shp 0) = true
    rw [List.all_cons, Bool.and_eq_true]
    exact ⟨by decide +kernel, okN⟩
  have at1 : addD (.tuple [.str "t"]) (.tuple ((nmsV 3 one).map PyData.str)) = some (.tuple (.str "t" :: (nmsV 3 one).map PyData.str)) := add_t (by rw [List.length_map, List.length_singleton]; omega)
  have bR := h.body false
  have bC := h.body true
  have j1 := h.j1
  have j2 := h.j2
  have p0 : ("pile t [ " : Str).length = 9 := by decide +kernel
  have p1 : (" " : Str).length = 1 := by decide +kernel
  have p2 : ("rim t 1 2 3 4 " : Str).length = 14 := by decide +kernel
  have p3 : ("rim t 1 2 3 " : Str).length = 12 := by decide +kernel
  have q1 : addD (.str "pile t [ ") (.str (jw (wrdV 3 one))) = some (.str ("pile t [ " ++ jw (wrdV 3 one))) := add_s (by omega)
  have q2 : addD (.str ("pile t [ " ++ jw (wrdV 3 one))) (.str " ") = some (.str ("pile t [ " ++ jw (wrdV 3 one) ++ " ")) := add_s (by simp only [st_len]; omega)
  have q3 : addD (.str ("pile t [ " ++ jw (wrdV 3 one) ++ " ")) (.str (jw (wrdV 2 oth))) = some (.str ("pile t [ " ++ jw (wrdV 3 one) ++ " " ++ jw (wrdV 2 oth))) := add_s (by simp only [st_len]; omega)
  have q4 : addD (.str ("pile t [ " ++ jw (wrdV 3 one) ++ " " ++ jw (wrdV 2 oth))) (.str " ]") = some (.str (jw (wrdV 4 (pileB one oth)))) := by rw [← tx_pile]; exact add_s (by simp only [st_len, l_cl]; omega)
  have q5 : addD (.str "rim t 1 2 3 4 ") (.str (jw (wrdV 3 one))) = some (.str (jw (wrdV 4 (rimB one)))) := by rw [← tx_rim]; exact add_s (by omega)
  have q6 : addD (.str "rim t 1 2 3 ") (.str (jw (wrdV 3 one))) = some (.str ("rim t 1 2 3 " ++ jw (wrdV 3 one))) := add_s (by omega)
  have rp := nr_of h.rd_pile
  rw [pile_D] at rp
  have rr := nr_of h.rd_rim
  rw [rim_D] at rr
  have nr : M_Lnone [.str ("rim t 1 2 3 " ++ jw (wrdV 3 one))] = some (.bool true) := by rw [tx_rim3]; exact none_of h.rd_rim3
  have nP := h.neP
  have nR := h.neR
  have it5 : itemsD (.str "abcde") = some [.str "a", .str "b", .str "c", .str "d", .str "e"] := rfl
  have it4 : itemsD (.str "fghi") = some [.str "f", .str "g", .str "h", .str "i"] := rfl
  have en4 : enL 0 [.str "f", .str "g", .str "h", .str "i"] = [.tuple [.int 0, .str "f"], .tuple [.int 1, .str "g"], .tuple [.int 2, .str "h"], .tuple [.int 3, .str "i"]] := rfl
  have r15 : rng2D (.int 1) (.int 6) = some [.int 1, .int 2, .int 3, .int 4, .int 5] := rfl
  have s5 : sml 5 = true := rfl
  have lc := lc_some
  have i0 : atI (someL.map PyData.str) 0 = some (.str (lfS "a")) := rfl
  have l2 := loop2
  have l3 := loop3
  have hh := by_hand m02
  have kr : kindS false = "row" := rfl
  have kc : kindS true = "col" := rfl
  rw [kr] at bR
  rw [kc] at bC
  clear h hl m0 m1 m0' m1' m02 m12 okN nml mb1 mb2 j1 j2
  generalize jw (wrdV 4 (pileB one oth)) = tP at *
  generalize jw (wrdV 4 (rimB one)) = tR at *
  generalize "rim t 1 2 3 " ++ jw (wrdV 3 one) = tR3 at *
  generalize "pile t [ " ++ jw (wrdV 3 one) ++ " " ++ jw (wrdV 2 oth) = u3 at *
  generalize "pile t [ " ++ jw (wrdV 3 one) ++ " " = u2 at *
  generalize "pile t [ " ++ jw (wrdV 3 one) = u1 at *
  generalize jw (wrdV 3 one) = J at *
  generalize jw (wrdV 2 oth) = G at *
  generalize (nmsV 3 one).map PyData.str = NN at *
  generalize bxD 3 one = O at *
  generalize bxD 2 oth = P at *
  generalize lfS "a" = la at *
  generalize someL.map PyData.str = SL at *
  generalize ns.map PyData.int = SC at *
  obtain ⟨T1, f1⟩ := bR (some (.sh (.list SC))) none none none none none none none
  obtain ⟨T2, f2⟩ := bC (some (.sh (.list SC))) none none none none (some (.sh (.str T1))) none none
  obtain ⟨x4, f3⟩ := l2 (some (.sh (.list SC))) (some (.sh (.str "col"))) (some (.sh (.str " 0 0 0 0 0 0 0 - 1 1"))) none none (some (.sh O)) (some (.sh P)) (some (.sh (.str J))) (some (.sh (.str G))) (some (.sh (.str T2))) none none
  obtain ⟨y5, y11, y12, f4⟩ := l3 (some (.sh (.list SC))) (some (.sh (.str "col"))) (some (.sh (.str " 0 0 0 0 0 0 0 - 1 1"))) (some (.sh (.list SL))) x4 (some (.sh O)) (some (.sh P)) (some (.sh (.str J))) (some (.sh (.str G))) (some (.sh (.str T2))) none none
  have f12 : forD (bNm 1) B_law_1 [.str "row", .str "col"] [some (.sh (.list SC)), none, none, none, none, none, some (.sh O), some (.sh P), some (.sh (.str J)), some (.sh (.str G)), none, none, none] = some (.nx [some (.sh (.list SC)), some (.sh (.str "col")), none, none, none, none, some (.sh O), some (.sh P), some (.sh (.str J)), some (.sh (.str G)), some (.sh (.str T2)), none, none]) := by
    clear f3 f4 l2 l3 bR bC
    simp -implicitDefEqProofs [forD_c, forD_n, f1, f2]
  simp -implicitDefEqProofs [M_law, D_law, startE, hm, hm', hb1, hb2, w1, w2, r1, e1, nm1, nm2, e2, f12, q1, q2, q3, q4, rp, nP, q5, q6, rr, nr, nR, nm3, at1, e3, it5, s5, lc, r15, f3, i0, enA, it4, en4, f4, hm2, hh]

end W

theorem PySem.Challenge.cw_growbox_k05_whole_texts_of_parts_holds : PySem.Challenge.rw_growbox_k05_whole_texts_of_parts.Holds :=
  W.finish W.hM

