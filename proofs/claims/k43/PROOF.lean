import PyProof.Rows.All
import Wide.All
import OpenK.AllK
import Wide.FinOn
import KE.KStateDown
import Lean
import HandS.ForMost
import HandS.Evl
import HandS.Flow
import HandS.IsInst
import HandS.Wide
import HandS.TupMul
import HandS.TupAny
import HandS.More
import HandS.Conv
import HandS.Words
import HandS.WordsExc
import HandS.Defaults
import HandS.Ends
import HandS.Head0
import HandS.Head1
import HandS.Head2
import HandS.HeadEnd
import HandS.HeadHook1
import HandS.HeadHook2
import PyProof.StrBlock2
import HandS.Strs
import KE.GoesEnum
import KE.GoesZip
import KE.GoesMore
import HandS.HeadHook3
import HandS.Text
import KE.KSortTupG
import HandS.Sort
import PySem.Challenge.RW_growbox_k43_whole_other_names
set_option Elab.async false
set_option linter.all false
set_option maxRecDepth 100000
set_option maxHeartbeats 0

/-! DLay1: the value layer, its core: frozen heap, environments, judgements. -/
namespace DL
open PySem PySem.Spec PyProof.Rows L2 Evl

abbrev D := PyData

/-! ### data: as the library's, and dicts whose keys are ints and texts -/
def keyD : Key → D
  | .inl i => .int i
  | .inr x => .str x
mutual
inductive Dp (K : PySem.W.Frag) (H : Hp) : V → PyData → Prop
  | non : Dp K H .non .none
  | bl (b : Bool) : Dp K H (.bl b) (.bool b)
  | int (i : Int) : Dp K H (.int i) (.int i)
  | str (x : Str) : Dp K H (.str x) (.str x)
  | lst {a : Addr} {xs : List V} {ds : List PyData} : SqL K H a xs → DpAll K H xs ds → Dp K H (.ref a) (.list ds)
  | tup {a : Addr} {xs : List V} {ds : List PyData} : SqT K H a xs → DpAll K H xs ds → Dp K H (.ref a) (.tuple ds)
  | dic {a : Addr} {kvs : List (Key × V)} {ds : List (PyData × PyData)} : Rd H a (.dK kvs) → DpKv K H kvs ds → Dp K H (.ref a) (.dict ds)
inductive DpAll (K : PySem.W.Frag) (H : Hp) : List V → List PyData → Prop
  | nil : DpAll K H [] []
  | cons {v : V} {vs : List V} {d : PyData} {ds : List PyData} : Dp K H v d → DpAll K H vs ds → DpAll K H (v :: vs) (d :: ds)
inductive DpKv (K : PySem.W.Frag) (H : Hp) : List (Key × V) → List (PyData × PyData) → Prop
  | nil : DpKv K H [] []
  | cons {k : Key} {v : V} {kvs : List (Key × V)} {d : PyData} {ds : List (PyData × PyData)} : Dp K H v d → DpKv K H kvs ds → DpKv K H ((k, v) :: kvs) ((keyD k, d) :: ds)
end
mutual
theorem dp_l2 {K : PySem.W.Frag} {H : Hp} : ∀ {v : V} {d : D}, Dp K H v d → d.canLay0 = true → L2.Dp K H v d
  | _, _, .non, _ => .non
  | _, _, .bl b, _ => .bl b
  | _, _, .int i, _ => .int i
  | _, _, .str s, _ => .str s
  | _, _, .lst h hs, q => .lst h (dpa_l2 hs (by simpa [PyData.canLay0] using q))
  | _, _, .tup h hs, q => .tup h (dpa_l2 hs (by simpa [PyData.canLay0] using q))
  | _, _, .dic h hs, q => by simp [PyData.canLay0] at q
theorem dpa_l2 {K : PySem.W.Frag} {H : Hp} : ∀ {vs : List V} {ds : List D}, DpAll K H vs ds → PyData.canLayAll0 ds = true → L2.DpAll K H vs ds
  | _, _, .nil, _ => .nil
  | _, _, .cons h hs, q => by
    simp only [PyData.canLayAll0, Bool.and_eq_true] at q
    exact .cons (dp_l2 h q.1) (dpa_l2 hs q.2)
end
theorem dp_sh {K : PySem.W.Frag} {H : Hp} {v : V} {d : D} (h : Dp K H v d) (q : SeqAt.shaped d = true) : L2.Dp K H v d := dp_l2 h (SeqAt.canLay_of_shaped q)
/-! ### data under growing heaps -/
theorem rd_mono {F F' : Hp} (x : Ex F F') {a : Addr} {u : HO} (h : Rd F a u) : Rd F' a u := ex_rd x h
mutual
theorem dp_mono {K : PySem.W.Frag} {F F' : Hp} (x : Ex F F') : ∀ {v : V} {d : D}, Dp K F v d → Dp K F' v d
  | _, _, .non => .non
  | _, _, .bl b => .bl b
  | _, _, .int i => .int i
  | _, _, .str s => .str s
  | _, _, .lst h hs => .lst (ex_l x h) (dpa_mono x hs)
  | _, _, .tup h hs => .tup (ex_t x h) (dpa_mono x hs)
  | _, _, .dic h hs => .dic (rd_mono x h) (dpk_mono x hs)
theorem dpa_mono {K : PySem.W.Frag} {F F' : Hp} (x : Ex F F') : ∀ {vs : List V} {ds : List D}, DpAll K F vs ds → DpAll K F' vs ds
  | _, _, .nil => .nil
  | _, _, .cons h hs => .cons (dp_mono x h) (dpa_mono x hs)
theorem dpk_mono {K : PySem.W.Frag} {F F' : Hp} (x : Ex F F') : ∀ {vs : List (Key × V)} {ds : List (D × D)}, DpKv K F vs ds → DpKv K F' vs ds
  | _, _, .nil => .nil
  | _, _, .cons h hs => .cons (dp_mono x h) (dpk_mono x hs)
end

section
variable {K : PySem.W.Frag} {F : Hp}
theorem dpa_len : ∀ {vs : List V} {ds : List D}, DpAll K F vs ds → vs.length = ds.length
  | _, _, .nil => rfl
  | _, _, .cons _ hs => congrArg (· + 1) (dpa_len hs)
theorem dpa_get : ∀ {vs : List V} {ds : List D} {i : Nat} {d : D}, DpAll K F vs ds → ds[i]? = some d → ∃ v, vs[i]? = some v ∧ Dp K F v d
  | _, _, _, _, .nil, e => by simp at e
  | _, _, 0, _, .cons h _, e => by simp at e; subst e; exact ⟨_, rfl, h⟩
  | _, _, i + 1, d, .cons _ hs, e => by
    obtain ⟨v, e1, h⟩ := dpa_get (i := i) (d := d) hs (by simpa using e)
    exact ⟨v, by simpa using e1, h⟩
theorem dpa_getV : ∀ {vs : List V} {ds : List D} {i : Nat} {v : V}, DpAll K F vs ds → vs[i]? = some v → ∃ d, ds[i]? = some d ∧ Dp K F v d
  | _, _, _, _, .nil, e => by simp at e
  | _, _, 0, _, .cons h _, e => by simp at e; subst e; exact ⟨_, rfl, h⟩
  | _, _, i + 1, v, .cons _ hs, e => by
    obtain ⟨d, e1, h⟩ := dpa_getV (i := i) (v := v) hs (by simpa using e)
    exact ⟨d, by simpa using e1, h⟩
theorem dpa_append : ∀ {vs us : List V} {ds es : List D}, DpAll K F vs ds → DpAll K F us es → DpAll K F (vs ++ us) (ds ++ es)
  | _, _, _, _, .nil, s => s
  | _, _, _, _, .cons h hs, s => .cons h (dpa_append hs s)
theorem dpa_take : ∀ {vs : List V} {ds : List D} (n : Nat), DpAll K F vs ds → DpAll K F (vs.take n) (ds.take n)
  | _, _, 0, _ => .nil
  | _, _, _ + 1, .nil => .nil
  | _, _, n + 1, .cons h hs => .cons h (dpa_take n hs)
theorem dpa_drop : ∀ {vs : List V} {ds : List D} (n : Nat), DpAll K F vs ds → DpAll K F (vs.drop n) (ds.drop n)
  | _, _, 0, h => h
  | _, _, _ + 1, .nil => .nil
  | _, _, n + 1, .cons _ hs => dpa_drop n hs
theorem dpa_set {v : V} {d : D} (h : Dp K F v d) : ∀ {vs : List V} {ds : List D} (n : Nat), DpAll K F vs ds → DpAll K F (vs.set n v) (ds.set n d)
  | _, _, _, .nil => .nil
  | _, _, 0, .cons _ hs => .cons h hs
  | _, _, n + 1, .cons q hs => .cons q (dpa_set h n hs)
theorem dpa_ints : ∀ (ns : List Int), DpAll K F (ns.map V.int) (ns.map PyData.int)
  | [] => .nil
  | n :: ns => .cons (.int n) (dpa_ints ns)
theorem dp_int {v : V} {i : Int} (h : Dp K F v (.int i)) : v = .int i := by cases h; rfl
theorem dp_bl {v : V} {b : Bool} (h : Dp K F v (.bool b)) : v = .bl b := by cases h; rfl
theorem dp_str {v : V} {x : Str} (h : Dp K F v (.str x)) : v = .str x := by cases h; rfl
theorem dp_non {v : V} (h : Dp K F v .none) : v = .non := by cases h; rfl
theorem dp_tup {v : V} {ds : List D} (h : Dp K F v (.tuple ds)) : ∃ a vs, v = .ref a ∧ SqT K F a vs ∧ DpAll K F vs ds := by
  cases h with
  | tup h hs => exact ⟨_, _, rfl, h, hs⟩
theorem dp_lst {v : V} {ds : List D} (h : Dp K F v (.list ds)) : ∃ a vs, v = .ref a ∧ SqL K F a vs ∧ DpAll K F vs ds := by
  cases h with
  | lst h hs => exact ⟨_, _, rfl, h, hs⟩
theorem dpa_map_int : ∀ {vs : List V} {ns : List Int}, DpAll K F vs (ns.map PyData.int) → vs = ns.map V.int
  | _, [], .nil => rfl
  | _, _ :: _, .cons h hs => by rw [dp_int h, dpa_map_int hs]; rfl
theorem dpa_map_bl : ∀ {vs : List V} {ns : List Bool}, DpAll K F vs (ns.map PyData.bool) → vs = ns.map V.bl
  | _, [], .nil => rfl
  | _, _ :: _, .cons h hs => by rw [dp_bl h, dpa_map_bl hs]; rfl
theorem dpa_map_str : ∀ {vs : List V} {ns : List Str}, DpAll K F vs (ns.map PyData.str) → vs = ns.map V.str
  | _, [], .nil => rfl
  | _, _ :: _, .cons h hs => by rw [dp_str h, dpa_map_str hs]; rfl
end

/-! ### how heaps grow: H tracked, F frozen within H -/
structure Gr (F H F' H' : Hp) : Prop where
  hh : Ex H H'
  ff : Ex F F'
  fh : Ex F' H'
  nf : ∀ a o, H a = some o → F' a = F a
theorem Gr.refl {F H : Hp} (h : Ex F H) : Gr F H F H := ⟨Ex.refl _, Ex.refl _, h, fun _ _ _ => rfl⟩
theorem Gr.trans {F H F1 H1 F2 H2 : Hp} (a : Gr F H F1 H1) (b : Gr F1 H1 F2 H2) : Gr F H F2 H2 :=
  ⟨a.hh.trans b.hh, a.ff.trans b.ff, b.fh, fun x o e => (b.nf x o (a.hh x o e)).trans (a.nf x o e)⟩
/-- a new object, frozen at once -/
theorem Gr.new {F H : Hp} (h : Ex F H) {p : Addr} {o : HO} (hp : H p = none) : Gr F H (upd F p o) (upd H p o) :=
  ⟨Ex.new hp, Ex.new (fresh_back h hp), fun a u e => by
    by_cases q : a = p
    · subst q; rw [upd_same] at e ⊢; exact e
    · rw [upd_ne q] at e ⊢; exact h a u e, fun a u e => by rw [upd_ne (ne_of_none e hp)]⟩
/-- a new object, not frozen -/
theorem Gr.loose {F H : Hp} (h : Ex F H) {p : Addr} {o : HO} (hp : H p = none) : Gr F H F (upd H p o) :=
  ⟨Ex.new hp, Ex.refl _, fun a u e => by rw [upd_ne (ne_of_none (h a u e) hp)]; exact h a u e, fun _ _ _ => rfl⟩
/-- freezing what was new at H -/
theorem Gr.frz {F H F' H' : Hp} (g : Gr F H F' H') {p : Addr} {o : HO} (hp : H p = none) (hf : F' p = none) (ho : H' p = some o) : Gr F H (upd F' p o) H' :=
  ⟨g.hh, g.ff.trans (Ex.new hf), fun a u e => by
    by_cases q : a = p
    · subst q; rw [upd_same] at e; rw [← e]; exact ho
    · rw [upd_ne q] at e; exact g.fh a u e, fun a u e => by rw [upd_ne (ne_of_none e hp)]; exact g.nf a u e⟩
/-- an unfrozen object changes -/
theorem Gr.mut {F H F' H' : Hp} (g : Gr F H F' H') {p : Addr} {o : HO} (hp : H p = none) (hf : F' p = none) : Gr F H F' (upd H' p o) :=
  ⟨g.hh.mut hp, g.ff, fun a u e => by rw [upd_ne (ne_of_none e hf)]; exact g.fh a u e, g.nf⟩

/-! ### environments -/
/-- a slot: frozen data, or a list of its own -/
inductive Sl where
  | sh (d : D)
  | ow (xs : List D)
  | od (ds : List (D × D))
abbrev DEnv := List (Option Sl)

structure Ok (K : PySem.W.Frag) (B F0 F : Hp) (σ : L2.St) (H : Hp) (e : DEnv) : Prop where
  gr : Gr F0 B F H
  sh : ∀ (i : Nat) d, e[i]? = some (some (.sh d)) → ∃ v, σ[i]? = some (some v) ∧ Dp K F v d
  ow : ∀ (i : Nat) xs, e[i]? = some (some (.ow xs)) → ∃ a vs, σ[i]? = some (some (.ref a)) ∧ H a = some (.lst vs) ∧ B a = none ∧ F a = none ∧ DpAll K F vs xs
  inj : ∀ (i j : Nat) xs ys a, e[i]? = some (some (.ow xs)) → e[j]? = some (some (.ow ys)) → σ[i]? = some (some (.ref a)) → σ[j]? = some (some (.ref a)) → i = j
  od : ∀ (i : Nat) ds, e[i]? = some (some (.od ds)) → ∃ a kvs, σ[i]? = some (some (.ref a)) ∧ H a = some (.dK kvs) ∧ B a = none ∧ F a = none ∧ DpKv K F kvs ds
  ijd : ∀ (i j : Nat) ds es a, e[i]? = some (some (.od ds)) → e[j]? = some (some (.od es)) → σ[i]? = some (some (.ref a)) → σ[j]? = some (some (.ref a)) → i = j
  len : e.length = σ.length

section
variable {K : PySem.W.Frag} {B F0 F F' : Hp} {σ : L2.St} {H H' : Hp} {e : DEnv}
theorem Ok.fh (o : Ok K B F0 F σ H e) : Ex F H := o.gr.fh
theorem Ok.grow (o : Ok K B F0 F σ H e) (g : Gr F H F' H') : Ok K B F0 F' σ H' e where
  gr := o.gr.trans g
  sh := fun i d h => let ⟨v, h1, h2⟩ := o.sh i d h; ⟨v, h1, dp_mono g.ff h2⟩
  ow := fun i xs h => let ⟨a, vs, h1, h2, h3, h4, h5⟩ := o.ow i xs h; ⟨a, vs, h1, g.hh _ _ h2, h3, (g.nf _ _ h2).trans h4, dpa_mono g.ff h5⟩
  inj := o.inj
  od := fun i xs h => let ⟨a, vs, h1, h2, h3, h4, h5⟩ := o.od i xs h; ⟨a, vs, h1, g.hh _ _ h2, h3, (g.nf _ _ h2).trans h4, dpk_mono g.ff h5⟩
  ijd := o.ijd
  len := o.len
/-- a slot gets frozen data -/
theorem Ok.set {i : Nat} {v : V} {d : D} (o : Ok K B F0 F σ H e) (h : Dp K F v d) : Ok K B F0 F (σ.set i (some v)) H (e.set i (some (.sh d))) where
  gr := o.gr
  sh := fun j d' q => by
    by_cases hj : i = j
    · subst hj
      have hl : i < e.length := by
        have := (List.getElem?_eq_some_iff.mp q).1
        simpa using this
      rw [List.getElem?_set_self hl] at q
      cases q
      exact ⟨v, by rw [List.getElem?_set_self (by rw [← o.len]; exact hl)], h⟩
    · rw [List.getElem?_set_ne hj] at q ⊢
      exact o.sh j d' q
  ow := fun j xs q => by
    by_cases hj : i = j
    · subst hj
      have hl : i < e.length := by
        have := (List.getElem?_eq_some_iff.mp q).1
        simpa using this
      rw [List.getElem?_set_self hl] at q
      cases q
    · rw [List.getElem?_set_ne hj] at q ⊢
      exact o.ow j xs q
  inj := fun j k xs ys a q1 q2 q3 q4 => by
    have n1 : i ≠ j := by
      rintro rfl
      have hl : i < e.length := by simpa using (List.getElem?_eq_some_iff.mp q1).1
      rw [List.getElem?_set_self hl] at q1; cases q1
    have n2 : i ≠ k := by
      rintro rfl
      have hl : i < e.length := by simpa using (List.getElem?_eq_some_iff.mp q2).1
      rw [List.getElem?_set_self hl] at q2; cases q2
    rw [List.getElem?_set_ne n1] at q1 q3
    rw [List.getElem?_set_ne n2] at q2 q4
    exact o.inj j k xs ys a q1 q2 q3 q4
  od := fun j xs q => by
    have n1 : i ≠ j := by
      rintro rfl
      have hl : i < e.length := by simpa using (List.getElem?_eq_some_iff.mp q).1
      rw [List.getElem?_set_self hl] at q; cases q
    rw [List.getElem?_set_ne n1] at q ⊢
    exact o.od j xs q
  ijd := fun j k xs ys a q1 q2 q3 q4 => by
    have n1 : i ≠ j := by
      rintro rfl
      have hl : i < e.length := by simpa using (List.getElem?_eq_some_iff.mp q1).1
      rw [List.getElem?_set_self hl] at q1; cases q1
    have n2 : i ≠ k := by
      rintro rfl
      have hl : i < e.length := by simpa using (List.getElem?_eq_some_iff.mp q2).1
      rw [List.getElem?_set_self hl] at q2; cases q2
    rw [List.getElem?_set_ne n1] at q1 q3
    rw [List.getElem?_set_ne n2] at q2 q4
    exact o.ijd j k xs ys a q1 q2 q3 q4
  len := by simpa using o.len
/-- a slot is forgotten -/
theorem Ok.del {i : Nat} {w : Option V} (o : Ok K B F0 F σ H e) : Ok K B F0 F (σ.set i w) H (e.set i none) where
  gr := o.gr
  sh := fun j d' q => by
    have n1 : i ≠ j := by
      rintro rfl
      have hl : i < e.length := by simpa using (List.getElem?_eq_some_iff.mp q).1
      rw [List.getElem?_set_self hl] at q; cases q
    rw [List.getElem?_set_ne n1] at q ⊢
    exact o.sh j d' q
  ow := fun j xs q => by
    have n1 : i ≠ j := by
      rintro rfl
      have hl : i < e.length := by simpa using (List.getElem?_eq_some_iff.mp q).1
      rw [List.getElem?_set_self hl] at q; cases q
    rw [List.getElem?_set_ne n1] at q ⊢
    exact o.ow j xs q
  inj := fun j k xs ys a q1 q2 q3 q4 => by
    have n1 : i ≠ j := by
      rintro rfl
      have hl : i < e.length := by simpa using (List.getElem?_eq_some_iff.mp q1).1
      rw [List.getElem?_set_self hl] at q1; cases q1
    have n2 : i ≠ k := by
      rintro rfl
      have hl : i < e.length := by simpa using (List.getElem?_eq_some_iff.mp q2).1
      rw [List.getElem?_set_self hl] at q2; cases q2
    rw [List.getElem?_set_ne n1] at q1 q3
    rw [List.getElem?_set_ne n2] at q2 q4
    exact o.inj j k xs ys a q1 q2 q3 q4
  od := fun j xs q => by
    have n1 : i ≠ j := by
      rintro rfl
      have hl : i < e.length := by simpa using (List.getElem?_eq_some_iff.mp q).1
      rw [List.getElem?_set_self hl] at q; cases q
    rw [List.getElem?_set_ne n1] at q ⊢
    exact o.od j xs q
  ijd := fun j k xs ys a q1 q2 q3 q4 => by
    have n1 : i ≠ j := by
      rintro rfl
      have hl : i < e.length := by simpa using (List.getElem?_eq_some_iff.mp q1).1
      rw [List.getElem?_set_self hl] at q1; cases q1
    have n2 : i ≠ k := by
      rintro rfl
      have hl : i < e.length := by simpa using (List.getElem?_eq_some_iff.mp q2).1
      rw [List.getElem?_set_self hl] at q2; cases q2
    rw [List.getElem?_set_ne n1] at q1 q3
    rw [List.getElem?_set_ne n2] at q2 q4
    exact o.ijd j k xs ys a q1 q2 q3 q4
  len := by simpa using o.len
/-- a slot gets a list of its own, new -/
theorem Ok.setOw {i : Nat} {a : Addr} {vs : List V} {xs : List D} (o : Ok K B F0 F σ H e) (h0 : ∀ (j : Nat) ys b, e[j]? = some (some (.ow ys)) → σ[j]? = some (some (.ref b)) → j ≠ i → b ≠ a)
    (h1 : H a = some (.lst vs)) (h2 : B a = none) (h3 : F a = none) (h : DpAll K F vs xs) : Ok K B F0 F (σ.set i (some (.ref a))) H (e.set i (some (.ow xs))) where
  gr := o.gr
  sh := fun j d' q => by
    have n1 : i ≠ j := by
      rintro rfl
      have hl : i < e.length := by simpa using (List.getElem?_eq_some_iff.mp q).1
      rw [List.getElem?_set_self hl] at q; cases q
    rw [List.getElem?_set_ne n1] at q ⊢
    exact o.sh j d' q
  ow := fun j ys q => by
    by_cases hj : i = j
    · subst hj
      have hl : i < e.length := by simpa using (List.getElem?_eq_some_iff.mp q).1
      rw [List.getElem?_set_self hl] at q
      cases q
      exact ⟨a, vs, by rw [List.getElem?_set_self (by rw [← o.len]; exact hl)], h1, h2, h3, h⟩
    · rw [List.getElem?_set_ne hj] at q ⊢
      exact o.ow j ys q
  inj := fun j k xs' ys' b q1 q2 q3 q4 => by
    by_cases hj : i = j <;> by_cases hk : i = k
    · exact hj.symm.trans hk
    · subst hj
      have hl : i < σ.length := by
        have := (List.getElem?_eq_some_iff.mp q3).1
        simpa using this
      rw [List.getElem?_set_self hl] at q3
      cases q3
      rw [List.getElem?_set_ne hk] at q2 q4
      exact absurd rfl (h0 k _ _ q2 q4 (Ne.symm hk))
    · subst hk
      have hl : i < σ.length := by
        have := (List.getElem?_eq_some_iff.mp q4).1
        simpa using this
      rw [List.getElem?_set_self hl] at q4
      cases q4
      rw [List.getElem?_set_ne hj] at q1 q3
      exact absurd rfl (h0 j _ _ q1 q3 (Ne.symm hj))
    · rw [List.getElem?_set_ne hj] at q1 q3
      rw [List.getElem?_set_ne hk] at q2 q4
      exact o.inj j k _ _ b q1 q2 q3 q4
  od := fun j xs q => by
    have n1 : i ≠ j := by
      rintro rfl
      have hl : i < e.length := by simpa using (List.getElem?_eq_some_iff.mp q).1
      rw [List.getElem?_set_self hl] at q; cases q
    rw [List.getElem?_set_ne n1] at q ⊢
    exact o.od j xs q
  ijd := fun j k xs ys a q1 q2 q3 q4 => by
    have n1 : i ≠ j := by
      rintro rfl
      have hl : i < e.length := by simpa using (List.getElem?_eq_some_iff.mp q1).1
      rw [List.getElem?_set_self hl] at q1; cases q1
    have n2 : i ≠ k := by
      rintro rfl
      have hl : i < e.length := by simpa using (List.getElem?_eq_some_iff.mp q2).1
      rw [List.getElem?_set_self hl] at q2; cases q2
    rw [List.getElem?_set_ne n1] at q1 q3
    rw [List.getElem?_set_ne n2] at q2 q4
    exact o.ijd j k xs ys a q1 q2 q3 q4
  len := by simpa using o.len
/-- the list of slot i changes in place -/
theorem Ok.mutOw {i : Nat} {a : Addr} {vs' : List V} {xs xs' : List D} (o : Ok K B F0 F σ H e) (he : e[i]? = some (some (.ow xs))) (hs : σ[i]? = some (some (.ref a))) (h : DpAll K F vs' xs') :
    Ok K B F0 F σ (upd H a (.lst vs')) (e.set i (some (.ow xs'))) := by
  obtain ⟨a', vs, s1, h1, h2, h3, h4⟩ := o.ow i xs he
  have ea : a = a' := by rw [hs] at s1; cases s1; rfl
  subst ea
  have hl : i < e.length := (List.getElem?_eq_some_iff.mp he).1
  have od1 : ∀ {j : Nat} {ys : List (D × D)}, (e.set i (some (.ow xs')))[j]? = some (some (.od ys)) → e[j]? = some (some (.od ys)) := fun {j ys} q => by
    have n1 : i ≠ j := by
      rintro rfl
      rw [List.getElem?_set_self hl] at q; cases q
    rw [List.getElem?_set_ne n1] at q
    exact q
  refine ⟨o.gr.mut h2 h3, fun j d q => ?_, fun j ys q => ?_, fun j k ys zs b q1 q2 q3 q4 => ?_, fun j ys q => ?_, fun j k ys zs b q1 q2 q3 q4 => o.ijd j k ys zs b (od1 q1) (od1 q2) q3 q4, by simpa using o.len⟩
  · have n1 : i ≠ j := by
      rintro rfl
      rw [List.getElem?_set_self hl] at q; cases q
    rw [List.getElem?_set_ne n1] at q
    exact o.sh j d q
  · by_cases hj : i = j
    · subst hj
      rw [List.getElem?_set_self hl] at q
      cases q
      exact ⟨a, vs', hs, upd_same, h2, h3, h⟩
    · rw [List.getElem?_set_ne hj] at q
      obtain ⟨b, us, t1, t2, t3, t4, t5⟩ := o.ow j ys q
      refine ⟨b, us, t1, ?_, t3, t4, t5⟩
      rw [upd_ne]
      · exact t2
      · rintro rfl
        exact hj (o.inj i j _ _ b he q hs t1)
  · have f1 : ∀ {j : Nat} {ys : List D}, (e.set i (some (.ow xs')))[j]? = some (some (.ow ys)) → ∃ ys', e[j]? = some (some (.ow ys')) := fun {j ys} q => by
      by_cases hj : i = j
      · subst hj; exact ⟨_, he⟩
      · rw [List.getElem?_set_ne hj] at q; exact ⟨_, q⟩
    obtain ⟨y1, p1⟩ := f1 q1
    obtain ⟨y2, p2⟩ := f1 q2
    exact o.inj j k _ _ b p1 p2 q3 q4
  · obtain ⟨b, us, t1, t2, t3, t4, t5⟩ := o.od j ys (od1 q)
    refine ⟨b, us, t1, ?_, t3, t4, t5⟩
    rw [upd_ne]
    · exact t2
    · rintro rfl
      rw [h1] at t2
      cases t2
/-- the list of slot i is frozen -/
theorem Ok.freeze {i : Nat} {xs : List D} (o : Ok K B F0 F σ H e) (he : e[i]? = some (some (.ow xs))) : ∃ F', Ex F F' ∧ Ok K B F0 F' σ H (e.set i (some (.sh (.list xs)))) := by
  obtain ⟨a, vs, s1, h1, h2, h3, h4⟩ := o.ow i xs he
  have hl : i < e.length := (List.getElem?_eq_some_iff.mp he).1
  have x : Ex F (upd F a (.lst vs)) := Ex.new h3
  have od1 : ∀ {j : Nat} {ys : List (D × D)}, (e.set i (some (.sh (.list xs))))[j]? = some (some (.od ys)) → e[j]? = some (some (.od ys)) := fun {j ys} q => by
    have n1 : i ≠ j := by
      rintro rfl
      rw [List.getElem?_set_self hl] at q; cases q
    rw [List.getElem?_set_ne n1] at q
    exact q
  refine ⟨upd F a (.lst vs), x, o.gr.frz h2 h3 h1, fun j d q => ?_, fun j ys q => ?_, fun j k ys zs b q1 q2 q3 q4 => ?_, fun j ys q => ?_, fun j k ys zs b q1 q2 q3 q4 => o.ijd j k ys zs b (od1 q1) (od1 q2) q3 q4, by simpa using o.len⟩
  · by_cases hj : i = j
    · subst hj
      rw [List.getElem?_set_self hl] at q
      cases q
      exact ⟨_, s1, .lst (SqL.of upd_same) (dpa_mono x h4)⟩
    · rw [List.getElem?_set_ne hj] at q
      obtain ⟨v, t1, t2⟩ := o.sh j d q
      exact ⟨v, t1, dp_mono x t2⟩
  · have n1 : i ≠ j := by
      rintro rfl
      rw [List.getElem?_set_self hl] at q; cases q
    rw [List.getElem?_set_ne n1] at q
    obtain ⟨b, us, t1, t2, t3, t4, t5⟩ := o.ow j ys q
    refine ⟨b, us, t1, t2, t3, ?_, dpa_mono x t5⟩
    rw [upd_ne]
    · exact t4
    · rintro rfl
      exact n1 (o.inj i j _ _ b he q s1 t1)
  · have n1 : ∀ {j : Nat} {ys : List D}, (e.set i (some (.sh (.list xs))))[j]? = some (some (.ow ys)) → i ≠ j := fun {j ys} q => by
      rintro rfl
      rw [List.getElem?_set_self hl] at q; cases q
    have m1 := n1 q1
    have m2 := n1 q2
    rw [List.getElem?_set_ne m1] at q1
    rw [List.getElem?_set_ne m2] at q2
    exact o.inj j k _ _ b q1 q2 q3 q4
  · obtain ⟨b, us, t1, t2, t3, t4, t5⟩ := o.od j ys (od1 q)
    refine ⟨b, us, t1, t2, t3, ?_, dpk_mono x t5⟩
    rw [upd_ne]
    · exact t4
    · rintro rfl
      rw [h1] at t2
      cases t2
/-- a slot gets a dict of its own, new -/
theorem Ok.setOd {i : Nat} {a : Addr} {kvs : List (Key × V)} {ds : List (D × D)} (o : Ok K B F0 F σ H e) (h0 : ∀ (j : Nat) ys b, e[j]? = some (some (.od ys)) → σ[j]? = some (some (.ref b)) → j ≠ i → b ≠ a)
    (h1 : H a = some (.dK kvs)) (h2 : B a = none) (h3 : F a = none) (h : DpKv K F kvs ds) : Ok K B F0 F (σ.set i (some (.ref a))) H (e.set i (some (.od ds))) where
  gr := o.gr
  sh := fun j d' q => by
    have n1 : i ≠ j := by
      rintro rfl
      have hl : i < e.length := by simpa using (List.getElem?_eq_some_iff.mp q).1
      rw [List.getElem?_set_self hl] at q; cases q
    rw [List.getElem?_set_ne n1] at q ⊢
    exact o.sh j d' q
  ow := fun j ys q => by
    have n1 : i ≠ j := by
      rintro rfl
      have hl : i < e.length := by simpa using (List.getElem?_eq_some_iff.mp q).1
      rw [List.getElem?_set_self hl] at q; cases q
    rw [List.getElem?_set_ne n1] at q ⊢
    exact o.ow j ys q
  inj := fun j k xs ys b q1 q2 q3 q4 => by
    have n1 : i ≠ j := by
      rintro rfl
      have hl : i < e.length := by simpa using (List.getElem?_eq_some_iff.mp q1).1
      rw [List.getElem?_set_self hl] at q1; cases q1
    have n2 : i ≠ k := by
      rintro rfl
      have hl : i < e.length := by simpa using (List.getElem?_eq_some_iff.mp q2).1
      rw [List.getElem?_set_self hl] at q2; cases q2
    rw [List.getElem?_set_ne n1] at q1 q3
    rw [List.getElem?_set_ne n2] at q2 q4
    exact o.inj j k xs ys b q1 q2 q3 q4
  od := fun j ys q => by
    by_cases hj : i = j
    · subst hj
      have hl : i < e.length := by simpa using (List.getElem?_eq_some_iff.mp q).1
      rw [List.getElem?_set_self hl] at q
      cases q
      exact ⟨a, kvs, by rw [List.getElem?_set_self (by rw [← o.len]; exact hl)], h1, h2, h3, h⟩
    · rw [List.getElem?_set_ne hj] at q ⊢
      exact o.od j ys q
  ijd := fun j k xs' ys' b q1 q2 q3 q4 => by
    by_cases hj : i = j <;> by_cases hk : i = k
    · exact hj.symm.trans hk
    · subst hj
      have hl : i < σ.length := by
        have := (List.getElem?_eq_some_iff.mp q3).1
        simpa using this
      rw [List.getElem?_set_self hl] at q3
      cases q3
      rw [List.getElem?_set_ne hk] at q2 q4
      exact absurd rfl (h0 k _ _ q2 q4 (Ne.symm hk))
    · subst hk
      have hl : i < σ.length := by
        have := (List.getElem?_eq_some_iff.mp q4).1
        simpa using this
      rw [List.getElem?_set_self hl] at q4
      cases q4
      rw [List.getElem?_set_ne hj] at q1 q3
      exact absurd rfl (h0 j _ _ q1 q3 (Ne.symm hj))
    · rw [List.getElem?_set_ne hj] at q1 q3
      rw [List.getElem?_set_ne hk] at q2 q4
      exact o.ijd j k _ _ b q1 q2 q3 q4
  len := by simpa using o.len
/-- the dict of slot i changes in place -/
theorem Ok.mutOd {i : Nat} {a : Addr} {vs' : List (Key × V)} {xs xs' : List (D × D)} (o : Ok K B F0 F σ H e) (he : e[i]? = some (some (.od xs))) (hs : σ[i]? = some (some (.ref a))) (h : DpKv K F vs' xs') :
    Ok K B F0 F σ (upd H a (.dK vs')) (e.set i (some (.od xs'))) := by
  obtain ⟨a', vs, s1, h1, h2, h3, h4⟩ := o.od i xs he
  have ea : a = a' := by rw [hs] at s1; cases s1; rfl
  subst ea
  have hl : i < e.length := (List.getElem?_eq_some_iff.mp he).1
  have ow1 : ∀ {j : Nat} {ys : List D}, (e.set i (some (.od xs')))[j]? = some (some (.ow ys)) → e[j]? = some (some (.ow ys)) := fun {j ys} q => by
    have n1 : i ≠ j := by
      rintro rfl
      rw [List.getElem?_set_self hl] at q; cases q
    rw [List.getElem?_set_ne n1] at q
    exact q
  have od1 : ∀ {j : Nat} {ys : List (D × D)}, (e.set i (some (.od xs')))[j]? = some (some (.od ys)) → ∃ zs, e[j]? = some (some (.od zs)) := fun {j ys} q => by
    by_cases hj : i = j
    · subst hj; exact ⟨_, he⟩
    · rw [List.getElem?_set_ne hj] at q; exact ⟨_, q⟩
  refine ⟨o.gr.mut h2 h3, fun j d q => ?_, fun j ys q => ?_, fun j k ys zs b q1 q2 q3 q4 => o.inj j k ys zs b (ow1 q1) (ow1 q2) q3 q4, fun j ys q => ?_, fun j k ys zs b q1 q2 q3 q4 => ?_, by simpa using o.len⟩
  · have n1 : i ≠ j := by
      rintro rfl
      rw [List.getElem?_set_self hl] at q; cases q
    rw [List.getElem?_set_ne n1] at q
    exact o.sh j d q
  · obtain ⟨b, us, t1, t2, t3, t4, t5⟩ := o.ow j ys (ow1 q)
    refine ⟨b, us, t1, ?_, t3, t4, t5⟩
    rw [upd_ne]
    · exact t2
    · rintro rfl
      rw [h1] at t2
      cases t2
  · by_cases hj : i = j
    · subst hj
      rw [List.getElem?_set_self hl] at q
      cases q
      exact ⟨a, vs', hs, upd_same, h2, h3, h⟩
    · rw [List.getElem?_set_ne hj] at q
      obtain ⟨b, us, t1, t2, t3, t4, t5⟩ := o.od j ys q
      refine ⟨b, us, t1, ?_, t3, t4, t5⟩
      rw [upd_ne]
      · exact t2
      · rintro rfl
        exact hj (o.ijd i j _ _ b he q hs t1)
  · obtain ⟨y1, p1⟩ := od1 q1
    obtain ⟨y2, p2⟩ := od1 q2
    exact o.ijd j k _ _ b p1 p2 q3 q4
/-- the dict of slot i is frozen -/
theorem Ok.freezeD {i : Nat} {xs : List (D × D)} (o : Ok K B F0 F σ H e) (he : e[i]? = some (some (.od xs))) : ∃ F', Ex F F' ∧ Ok K B F0 F' σ H (e.set i (some (.sh (.dict xs)))) := by
  obtain ⟨a, vs, s1, h1, h2, h3, h4⟩ := o.od i xs he
  have hl : i < e.length := (List.getElem?_eq_some_iff.mp he).1
  have x : Ex F (upd F a (.dK vs)) := Ex.new h3
  have ow1 : ∀ {j : Nat} {ys : List D}, (e.set i (some (.sh (.dict xs))))[j]? = some (some (.ow ys)) → e[j]? = some (some (.ow ys)) := fun {j ys} q => by
    have n1 : i ≠ j := by
      rintro rfl
      rw [List.getElem?_set_self hl] at q; cases q
    rw [List.getElem?_set_ne n1] at q
    exact q
  have od1 : ∀ {j : Nat} {ys : List (D × D)}, (e.set i (some (.sh (.dict xs))))[j]? = some (some (.od ys)) → i ≠ j ∧ e[j]? = some (some (.od ys)) := fun {j ys} q => by
    have n1 : i ≠ j := by
      rintro rfl
      rw [List.getElem?_set_self hl] at q; cases q
    rw [List.getElem?_set_ne n1] at q
    exact ⟨n1, q⟩
  refine ⟨upd F a (.dK vs), x, o.gr.frz h2 h3 h1, fun j d q => ?_, fun j ys q => ?_, fun j k ys zs b q1 q2 q3 q4 => o.inj j k ys zs b (ow1 q1) (ow1 q2) q3 q4, fun j ys q => ?_, fun j k ys zs b q1 q2 q3 q4 => o.ijd j k ys zs b (od1 q1).2 (od1 q2).2 q3 q4, by simpa using o.len⟩
  · by_cases hj : i = j
    · subst hj
      rw [List.getElem?_set_self hl] at q
      cases q
      exact ⟨_, s1, .dic (.inl upd_same) (dpk_mono x h4)⟩
    · rw [List.getElem?_set_ne hj] at q
      obtain ⟨v, t1, t2⟩ := o.sh j d q
      exact ⟨v, t1, dp_mono x t2⟩
  · obtain ⟨b, us, t1, t2, t3, t4, t5⟩ := o.ow j ys (ow1 q)
    refine ⟨b, us, t1, t2, t3, ?_, dpa_mono x t5⟩
    rw [upd_ne]
    · exact t4
    · rintro rfl
      rw [h1] at t2
      cases t2
  · obtain ⟨n1, q⟩ := od1 q
    obtain ⟨b, us, t1, t2, t3, t4, t5⟩ := o.od j ys q
    refine ⟨b, us, t1, t2, t3, ?_, dpk_mono x t5⟩
    rw [upd_ne]
    · exact t4
    · rintro rfl
      exact n1 (o.ijd i j _ _ b he q s1 t1)
end

/-! ### the judgements -/
/-- readable: frozen, or a list in H whose items are frozen -/
def Rs (K : PySem.W.Frag) (F H : Hp) (v : V) (d : D) : Prop := Dp K F v d ∨ ∃ a vs xs, v = .ref a ∧ d = .list xs ∧ H a = some (.lst vs) ∧ DpAll K F vs xs
theorem Rs.grow {K : PySem.W.Frag} {F H F' H' : Hp} {v : V} {d : D} (g : Gr F H F' H') : Rs K F H v d → Rs K F' H' v d
  | .inl h => .inl (dp_mono g.ff h)
  | .inr ⟨a, vs, xs, h1, h2, h3, h4⟩ => .inr ⟨a, vs, xs, h1, h2, g.hh _ _ h3, dpa_mono g.ff h4⟩
theorem Rs.dp {K : PySem.W.Frag} {F H : Hp} {v : V} {d : D} (x : Ex F H) : Rs K F H v d → Dp K H v d
  | .inl h => dp_mono x h
  | .inr ⟨a, vs, xs, h1, h2, h3, h4⟩ => by subst h1 h2; exact .lst (SqL.of h3) (dpa_mono x h4)
/-- a list or tuple that is readable -/
theorem Rs.tup {K : PySem.W.Frag} {F H : Hp} {v : V} {ds : List D} (x : Ex F H) (h : Rs K F H v (.tuple ds)) : ∃ a vs, v = .ref a ∧ SqT K H a vs ∧ DpAll K F vs ds := by
  rcases h with h | ⟨a, vs, xs, _, h2, _⟩
  · obtain ⟨a, vs, rfl, h1, h2⟩ := dp_tup h
    exact ⟨a, vs, rfl, ex_t x h1, h2⟩
  · cases h2
theorem Rs.lst {K : PySem.W.Frag} {F H : Hp} {v : V} {ds : List D} (x : Ex F H) (h : Rs K F H v (.list ds)) : ∃ a vs, v = .ref a ∧ SqL K H a vs ∧ DpAll K F vs ds := by
  rcases h with h | ⟨a, vs, xs, h1, h2, h3, h4⟩
  · obtain ⟨a, vs, rfl, h1, h2⟩ := dp_lst h
    exact ⟨a, vs, rfl, ex_l x h1, h2⟩
  · cases h2
    exact ⟨a, vs, h1, SqL.of h3, h4⟩

abbrev FE := DEnv → Option D
abbrev FB := DEnv → Option Bool
abbrev FA := DEnv → Option (List D)

def TD (K : PySem.W.Frag) (f : FE) : TE := fun σ H Q => ∃ B F0 F e d, Ok K B F0 F σ H e ∧ f e = some d ∧ ∀ v F' H', Gr F H F' H' → Dp K F' v d → Q v H'
def TR (K : PySem.W.Frag) (f : FE) : TE := fun σ H Q => ∃ B F0 F e d, Ok K B F0 F σ H e ∧ f e = some d ∧ ∀ v F' H', Gr F H F' H' → Rs K F' H' v d → Q v H'
def TN (K : PySem.W.Frag) (f : FA) : TE := fun σ H Q => ∃ B F0 F e xs, Ok K B F0 F σ H e ∧ f e = some xs ∧ ∀ a vs F' H', Gr F H F' H' → H a = none → F' a = none → H' a = some (.lst vs) → DpAll K F' vs xs → Q (.ref a) H'
def TB (K : PySem.W.Frag) (f : FB) : TT := fun σ H Q => ∃ B F0 F e b, Ok K B F0 F σ H e ∧ f e = some b ∧ ∀ F' H', Gr F H F' H' → Q b H'
def TAr (K : PySem.W.Frag) (f : FA) : TA := fun σ H Q => ∃ B F0 F e ds, Ok K B F0 F σ H e ∧ f e = some ds ∧ ∀ vs F' H', Gr F H F' H' → DpAll K F' vs ds → Q vs H'

/-- frozen value | readable value | new list | test | arguments -/
def DE (X : Cx) (e : Expr) (f : FE) : Prop := PE X e (TD X.K f)
def DR (X : Cx) (e : Expr) (f : FE) : Prop := PE X e (TR X.K f)
def DN (X : Cx) (e : Expr) (f : FA) : Prop := PE X e (TN X.K f)
def DT (X : Cx) (e : Expr) (f : FB) : Prop := PT X e (TB X.K f)
def DW (X : Cx) (e : Expr) (f : FB) : Prop := PW X e (TB X.K f)
def DA (X : Cx) (es : List Expr) (f : FA) : Prop := PA X es (TAr X.K f)

section
variable {X : Cx} {e : Expr}
theorem pe_imp {t t' : TE} (h : PE X e t) (i : ∀ σ H Q, t' σ H Q → t σ H Q) : PE X e t' := ⟨fun pins s σ H Q I hw => h.run pins s σ H Q I (i _ _ _ hw)⟩
theorem pt_imp {t t' : TT} (h : PT X e t) (i : ∀ σ H Q, t' σ H Q → t σ H Q) : PT X e t' := ⟨fun pins s σ H Q I hw => h.run pins s σ H Q I (i _ _ _ hw)⟩
theorem pw_imp {t t' : TT} (h : PW X e t) (i : ∀ σ H Q, t' σ H Q → t σ H Q) : PW X e t' := ⟨fun wh pins s σ H Q I hw => h.run wh pins s σ H Q I (i _ _ _ hw)⟩
theorem pa_imp {es : List Expr} {t t' : TA} (h : PA X es t) (i : ∀ σ H Q, t' σ H Q → t σ H Q) : PA X es t' := ⟨fun pos pins s σ H Q I hw => h.run pos pins s σ H Q I (i _ _ _ hw)⟩
theorem ps_imp {st : Stmt} {t t' : TS} (h : PS X st t) (i : ∀ D σ H, t' D σ H → t D σ H) : PS X st t' := ⟨fun pins s σ H D I hw => h.run pins s σ H D I (i _ _ _ hw)⟩
theorem pss_imp {st : List Stmt} {t t' : TS} (h : PSs X st t) (i : ∀ D σ H, t' D σ H → t D σ H) : PSs X st t' := ⟨fun pins s σ H D I hw => h.run pins s σ H D I (i _ _ _ hw)⟩
theorem DE.dr {f : FE} (h : DE X e f) : DR X e f := pe_imp h fun σ H Q ⟨B, F0, F, env, d, ok, fe, q⟩ => ⟨B, F0, F, env, d, ok, fe, fun v F' H' g dp => q v F' H' g (.inl dp)⟩
theorem DN.de {f : FA} (h : DN X e f) : DE X e (fun env => (f env).map PyData.list) := pe_imp h fun σ H Q ⟨B, F0, F, env, d, ok, fe, q⟩ => by
  obtain ⟨xs, hx, rfl⟩ := Option.map_eq_some_iff.mp fe
  refine ⟨B, F0, F, env, xs, ok, hx, fun a vs F' H' g h1 h2 h3 h4 => ?_⟩
  have x : Ex F' (upd F' a (.lst vs)) := Ex.new h2
  exact q _ _ _ (g.frz h1 h2 h3) (.lst (SqL.of upd_same) (dpa_mono x h4))
theorem DN.dr {f : FA} (h : DN X e f) : DR X e (fun env => (f env).map PyData.list) := h.de.dr
end
end DL

/-! DLay2: expressions. -/
namespace DL
open PySem PySem.Spec PyProof.Rows L2 Evl

/-! ### denotations -/
def asB : D → Option Bool
  | .bool b => some b
  | _ => none
def vr (i : Nat) : FE := fun e => match e[i]? with
  | some (some (.sh d)) => some d
  | _ => none
def vo (i : Nat) : FE := fun e => match e[i]? with
  | some (some (.sh d)) => some d
  | some (some (.ow xs)) => some (.list xs)
  | _ => none
def cst (d : D) : FE := fun _ => some d
def c1 (g : D → Option D) (f : FE) : FE := fun e => (f e).bind g
def c2 (g : D → D → Option D) (f1 f2 : FE) : FE := fun e => (f1 e).bind fun x => (f2 e).bind fun y => g x y
def cA (g : List D → Option D) (f : FA) : FE := fun e => (f e).bind g
def nilA : FA := fun _ => some []
def consA (f : FE) (r : FA) : FA := fun e => (f e).bind fun x => (r e).bind fun xs => some (x :: xs)
def tup (f : FA) : FE := fun e => (f e).map PyData.tuple
def lstE (f : FA) : FE := fun e => (f e).map PyData.list
def tst (f : FE) : FB := fun e => (f e).bind asB
def andT (p q : FB) : FB := fun e => (p e).bind fun b => if b = true then q e else some false
def orT (p q : FB) : FB := fun e => (p e).bind fun b => if b = true then some true else q e
def notT (p : FB) : FB := fun e => (p e).map not
def andV (f g : FE) : FE := fun e => (f e).bind fun x => (asB x).bind fun b => if b = true then g e else some (.bool false)
def orV (f g : FE) : FE := fun e => (f e).bind fun x => (asB x).bind fun b => if b = true then some (.bool true) else g e
def notV (f : FE) : FE := fun e => (f e).bind fun x => (asB x).map fun b => .bool (!b)
def ifE (p : FB) (f g : FE) : FE := fun e => (p e).bind fun b => if b = true then f e else g e

/-- sizes that we stay below -/
def big : Nat := 100000
def sml (n : Nat) : Bool := Nat.ble n 100000
theorem sml_le {n : Nat} (h : sml n = true) : n ≤ big := Nat.le_of_ble_eq_true h
theorem sml_of {n : Nat} (h : n ≤ 100000) : sml n = true := Nat.ble_eq_true_of_le h
def mulOk (a b : Int) : Bool := decide (a.natAbs < 2 ^ 63) || decide (b.natAbs < 2 ^ 63) || (decide (a.natAbs < 2 ^ 4000) && decide (b.natAbs < 2 ^ 4000))
def addD : D → D → Option D
  | .int a, .int b => some (.int (a + b))
  | .str a, .str b => if sml (a.length + b.length) = true then some (.str (a ++ b)) else none
  | .tuple a, .tuple b => if sml (a.length + b.length) = true then some (.tuple (a ++ b)) else none
  | .list a, .list b => if sml (a.length + b.length) = true then some (.list (a ++ b)) else none
  | _, _ => none
def subD : D → D → Option D
  | .int a, .int b => some (.int (a - b))
  | _, _ => none
def mulD : D → D → Option D
  | .int a, .int b => if mulOk a b = true then some (.int (a * b)) else none
  | .tuple a, .int b => if a ≠ [] ∧ 2 ≤ b ∧ b ≤ 1000 ∧ a.length ≤ 1000 then some (.tuple (List.replicate b.toNat a).flatten) else if a ≠ [] ∧ b = 1 then some (.tuple a) else if a ≠ [] ∧ b = 0 then some (.tuple []) else none
  | _, _ => none
def fdivD : D → D → Option D
  | .int a, .int b => if 0 < b ∧ b.natAbs < 2 ^ 4000 then some (.int (a / b)) else none
  | _, _ => none
def modD : D → D → Option D
  | .int a, .int b => if 0 < b then some (.int (a % b)) else none
  | _, _ => none
def powD : D → D → Option D
  | .int a, .int b => if 0 ≤ b ∧ b ≤ 1000 ∧ a.natAbs < 2 ^ 64 then some (.int (a ^ b.toNat)) else none
  | _, _ => none
def negD : D → Option D
  | .int a => some (.int (-a))
  | _ => none
def ltD : D → D → Option D
  | .int a, .int b => some (.bool (decide (a < b)))
  | _, _ => none
def leD : D → D → Option D
  | .int a, .int b => some (.bool (decide (a ≤ b)))
  | .str a, .str b => some (.bool (!decide (b.cps.toList < a.cps.toList)))
  | _, _ => none
def gtD : D → D → Option D
  | .int a, .int b => some (.bool (decide (b < a)))
  | _, _ => none
def geD : D → D → Option D
  | .int a, .int b => some (.bool (decide (b ≤ a)))
  | _, _ => none
def eqD (a b : D) : Option D := if SeqAt.shaped a = true ∧ SeqAt.shaped b = true then some (.bool (PyData.eqv a b)) else none
def neD (a b : D) : Option D := if SeqAt.shaped a = true ∧ SeqAt.shaped b = true then some (.bool (!PyData.eqv a b)) else none
def isND (a : D) : Option D := match a with
  | .none => some (.bool true)
  | _ => some (.bool false)
def notND (a : D) : Option D := match a with
  | .none => some (.bool false)
  | _ => some (.bool true)
def ixD : D → D → Option D
  | .tuple xs, .int i => atI xs i
  | .list xs, .int i => atI xs i
  | .str z, .int i => if sml z.length = true then (atI z.cps.toList i).map fun c => .str ⟨#[c]⟩ else none
  | _, _ => none

theorem big_line : big ≤ sizeLine := by rw [sizeLine_eq]; decide

/-! ### values of operations -/
section
variable {K : PySem.W.Frag}
abbrev Kn (K : PySem.W.Frag) (F H : Hp) (d : D) (Q : VK) : Prop := ∀ v F' H', Gr F H F' H' → Dp K F' v d → Q v H'
def OpD (K : PySem.W.Frag) (r : R2) (g : D → D → Option D) : Prop := ∀ F H x y a b d Q, Ex F H → Rs K F H x a → Rs K F H y b → g a b = some d → Kn K F H d Q → r x y H Q
def OpDF (K : PySem.W.Frag) (r : R2) (g : D → D → Option D) : Prop := ∀ F H x y a b d Q, Ex F H → Dp K F x a → Dp K F y b → g a b = some d → Kn K F H d Q → r x y H Q
def UnD (K : PySem.W.Frag) (r : V → Hp → VK → Prop) (g : D → Option D) : Prop := ∀ F H x a d Q, Ex F H → Rs K F H x a → g a = some d → Kn K F H d Q → r x H Q
theorem rs_int {F H : Hp} {v : V} {i : Int} (h : Rs K F H v (.int i)) : v = .int i := by
  rcases h with h | ⟨_, _, _, _, h, _⟩
  · exact dp_int h
  · cases h
theorem rs_str {F H : Hp} {v : V} {i : Str} (h : Rs K F H v (.str i)) : v = .str i := by
  rcases h with h | ⟨_, _, _, _, h, _⟩
  · exact dp_str h
  · cases h
theorem rs_bl {F H : Hp} {v : V} {i : Bool} (h : Rs K F H v (.bool i)) : v = .bl i := by
  rcases h with h | ⟨_, _, _, _, h, _⟩
  · exact dp_bl h
  · cases h
theorem rs_tupF {F H : Hp} {v : V} {i : List D} (h : Rs K F H v (.tuple i)) : Dp K F v (.tuple i) := by
  rcases h with h | ⟨_, _, _, _, h, _⟩
  · exact h
  · cases h
theorem Kn.now {F H : Hp} {d : D} {Q : VK} {v : V} (q : Kn K F H d Q) (x : Ex F H) (h : Dp K F v d) : Q v H := q v F H (Gr.refl x) h
theorem Kn.tupN {F H : Hp} {Q : VK} {vs : List V} {ds : List D} (q : Kn K F H (.tuple ds) Q) (x : Ex F H) (h : DpAll K F vs ds) {p : Addr} (hp : H p = none) : Q (.ref p) (upd H p (.tup vs)) :=
  q _ _ _ (Gr.new x hp) (.tup (SqT.of upd_same) (dpa_mono (Ex.new (fresh_back x hp)) h))
theorem Kn.lstN {F H : Hp} {Q : VK} {vs : List V} {ds : List D} (q : Kn K F H (.list ds) Q) (x : Ex F H) (h : DpAll K F vs ds) {p : Addr} (hp : H p = none) : Q (.ref p) (upd H p (.lst vs)) :=
  q _ _ _ (Gr.new x hp) (.lst (SqL.of upd_same) (dpa_mono (Ex.new (fresh_back x hp)) h))
end

section
variable {X : Cx}
/-- list + list, wherever they stand -/
def rCatL (K : PySem.W.Frag) : R2 := fun x y H Q => ∃ l b xs zs, x = .ref l ∧ y = .ref b ∧ SqL K H l xs ∧ SqL K H b zs ∧ xs.length + zs.length ≤ sizeLine ∧ ∀ p, H p = none → Q (.ref p) (upd H p (.lst (xs ++ zs)))
theorem op_catL : OpR X (binaryOp .Add) (rCatL X.K) := by
  intro pins s σ H x y v u Q I rx ry h
  obtain ⟨l, b, xs, zs, rfl, rfl, hH, hB, hz, q⟩ := h
  cases rx
  cases ry
  obtain ⟨vs, r, ⟨⟨cls, dd, data, sl⟩, n, ho, hc, hdd, hd⟩, hl⟩ := I.list hH
  obtain ⟨ws, r2, ⟨⟨cls2, dd2, data2, sl2⟩, n2, ho2, hc2, hdd2, hd2⟩, hl2⟩ := I.list hB
  simp only at hc hd hc2 hd2
  subst hc hd hc2 hd2
  have e : vs.toArray ++ ws.toArray = (vs ++ ws).toArray := by simp
  have l1 := r.length
  have l2 := r2.length
  refine concat_meets ⟨_, ho, rfl⟩ ⟨_, ho2, rfl⟩ noFill_list_add seq_list_add PySem.F.slot_list_add PySem.F.entry_list_add (PySem.F.args_list_add_2 _ _) (list_addW l b vs.toArray ws.toArray n n2 dd dd2 sl sl2 (by simp; omega)) ⟨ho, ho2, ?_⟩
  rw [e]
  exact ⟨.ref _, _, I.lnew (t' := s.toks) (r.append r2) (by rw [List.length_append]; omega), rfl, q _ I.fresh⟩

def rAddA (K : PySem.W.Frag) : R2 := fun x y H Q => (rI0 (fun i j => .int (i + j)) x y H Q ∨ (∃ i j, x = .str i ∧ y = .str j ∧ i.length + j.length ≤ sizeLine ∧ Q (.str (i ++ j)) H)) ∨ (rCatA K x y H Q ∨ rCatL K x y H Q)
theorem op_addA : OpR X (binaryOp .Add) (rAddA X.K) := (op_add.or op_add_str).or (op_catA.or op_catL)
theorem od_add {K : PySem.W.Frag} : OpD K (rAddA K) addD := by
  intro F H x y a b d Q xf ha hb hg q
  unfold addD at hg
  split at hg
  · cases hg
    rw [rs_int ha, rs_int hb]
    exact .inl (.inl ⟨_, _, rfl, rfl, q.now xf (.int _)⟩)
  · split at hg
    · cases hg
      rw [rs_str ha, rs_str hb]
      rename_i i j hz
      exact .inl (.inr ⟨_, _, rfl, rfl, Nat.le_trans (sml_le hz) big_line, q.now xf (.str _)⟩)
    · cases hg
  · split at hg
    · cases hg
      rename_i hz
      have ha' := rs_tupF ha
      have hb' := rs_tupF hb
      obtain ⟨p, vs, rfl, s1, d1⟩ := dp_tup ha'
      obtain ⟨p2, us, rfl, s2, d2⟩ := dp_tup hb'
      have l1 := dpa_len d1
      have l2 := dpa_len d2
      have hbl := big_line
      have hz := sml_le hz
      refine .inr (.inl ⟨p, p2, vs, us, rfl, rfl, ex_t xf s1, ex_t xf s2, by omega, fun e => ?_, fun e1 e2 => ?_, fun e1 e2 p hp => ?_⟩)
      · subst e
        cases d1
        exact q.now xf hb'
      · subst e2
        cases d2
        rw [List.append_nil] at q
        exact q.now xf ha'
      · exact q.tupN xf (dpa_append d1 d2) hp
    · cases hg
  · split at hg
    · cases hg
      rename_i hz
      obtain ⟨p, vs, rfl, s1, d1⟩ := ha.lst xf
      obtain ⟨p2, us, rfl, s2, d2⟩ := hb.lst xf
      have l1 := dpa_len d1
      have l2 := dpa_len d2
      have hbl := big_line
      have hz := sml_le hz
      exact .inr (.inr ⟨p, p2, vs, us, rfl, rfl, s1, s2, by omega, fun p hp => q.lstN xf (dpa_append d1 d2) hp⟩)
    · cases hg
  · cases hg
theorem od_sub {K : PySem.W.Frag} : OpD K (rI0 fun i j => .int (i - j)) subD := by
  intro F H x y a b d Q xf ha hb hg q
  unfold subD at hg
  split at hg
  · cases hg
    rw [rs_int ha, rs_int hb]
    exact ⟨_, _, rfl, rfl, q.now xf (.int _)⟩
  · cases hg

theorem mulOk_ok {a b : Int} (h : mulOk a b = true) : CMul a b ∨ CMulW a b := by
  unfold mulOk at h
  simp only [Bool.or_eq_true, Bool.and_eq_true, decide_eq_true_eq] at h
  rcases h with (h | h) | ⟨h1, h2⟩
  · exact .inl (.inl ⟨by omega, by omega⟩)
  · exact .inl (.inr ⟨by omega, by omega⟩)
  · exact .inr (wide_mul h1 h2 (by decide) (by decide) (by decide))
theorem tuple_mul1 (l : Addr) (items : Array Value) (n : Nat) (dd : Option Addr) (sl : Array (Option Value)) (u : Tok) :
    Meets (Builtin.«tuple.__mul__» ⟨[.ref l, .int 1 u], []⟩) (fun _ R s => s.heap.get? l = some { cls := .type "tuple", dict := dd, data := .seq items n, slots := sl } ∧ R (.ok (.ret (Value.ref l))) s) :=
  .of_wp fun prog w A R s h => by
    obtain ⟨hp, g, d, tk, os⟩ := s
    obtain ⟨hl, h⟩ := h
    have f1 := AutoSeq1.idx_int
    wp_walk using wpAny_loadPart' hl
    exact ⟨_, rfl, h⟩
theorem tuple_mul0 (l : Addr) (items : Array Value) (n : Nat) (dd : Option Addr) (sl : Array (Option Value)) (u : Tok) (he : items.isEmpty = false) :
    Meets (Builtin.«tuple.__mul__» ⟨[.ref l, .int 0 u], []⟩) (fun _ R s => s.heap.get? l = some { cls := .type "tuple", dict := dd, data := .seq items n, slots := sl } ∧
      R (.ok (.ret (Value.ref s.heap.objs.size))) { s with heap := s.heap.push { cls := Value.type "tuple", data := Data.seq #[] }, toks := s.toks }) :=
  .of_wp fun prog w A R s h => by
    obtain ⟨hp, g, d, tk, os⟩ := s
    obtain ⟨hl, h⟩ := h
    have f1 := AutoSeq1.idx_int
    wp_walk using wpAny_loadPart' hl
    exact ⟨_, rfl, h⟩
/-- a tuple once, or not at all -/
def rRep01 (K : PySem.W.Frag) : R2 := fun x y H Q => ∃ l k xs, x = .ref l ∧ y = .int k ∧ SqT K H l xs ∧ xs ≠ [] ∧ ((k = 1 ∧ Q (.ref l) H) ∨ (k = 0 ∧ ∀ p, H p = none → Q (.ref p) (upd H p (.tup []))))
theorem op_rep01 : OpR X (binaryOp .Mult) (rRep01 X.K) := by
  intro pins s σ H x y v u Q I rx ry h
  obtain ⟨l, k, xs, rfl, rfl, hT, hne, q⟩ := h
  cases rx
  obtain ⟨t, rfl⟩ := ry
  obtain ⟨its, r, ⟨⟨cls, dd, data, sl⟩, ho, hc, n, hd⟩, hs⟩ := I.tuple hT
  simp only at hc hd
  subst hc hd
  have hle : its.length = xs.length := r.length.symm
  have hn : its ≠ [] := fun e => hne (by
    rw [e] at hle
    exact List.eq_nil_of_length_eq_zero hle.symm)
  have hi : its.toArray.isEmpty = false := by
    cases its with
    | nil => exact absurd rfl hn
    | cons a b => rfl
  rcases q with ⟨rfl, q⟩ | ⟨rfl, q⟩
  · refine wpAny_binaryOp_repeat_ref (T := "tuple") (U := "int") (by decide) ⟨_, ho, rfl⟩ (fun s' => typeIs_int s' 1 t) noFill_tuple_mul F.fills_int_mul F.slot_int_rmul repeat_tuple F.slot_int_index.lookup
      (call_meets F.slot_int_rmul (typeIs_int s 1 t) F.entry_int_rmul (F.args_int_rmul_2 _ _) (int_rmul_tuple 1 t l its.toArray n dd sl)
        ⟨ho, rfl, ⟨_, ho, rfl⟩, call_meets F.slot_tuple_mul ⟨_, ho, rfl⟩ F.entry_tuple_mul (F.args_tuple_mul_2 _ _) (tuple_mul1 l its.toArray n dd sl t) ⟨ho, ?_⟩⟩)
    exact ⟨.ref l, H, I, rfl, q⟩
  · refine wpAny_binaryOp_repeat_ref (T := "tuple") (U := "int") (by decide) ⟨_, ho, rfl⟩ (fun s' => typeIs_int s' 0 t) noFill_tuple_mul F.fills_int_mul F.slot_int_rmul repeat_tuple F.slot_int_index.lookup
      (call_meets F.slot_int_rmul (typeIs_int s 0 t) F.entry_int_rmul (F.args_int_rmul_2 _ _) (int_rmul_tuple 0 t l its.toArray n dd sl)
        ⟨ho, rfl, ⟨_, ho, rfl⟩, call_meets F.slot_tuple_mul ⟨_, ho, rfl⟩ F.entry_tuple_mul (F.args_tuple_mul_2 _ _) (tuple_mul0 l its.toArray n dd sl t hi) ⟨ho, ?_⟩⟩)
    refine ⟨.ref s.heap.objs.size, _, I.laid (t' := s.toks) (o := .tup []) (fun b ob q => Heap.get?_push_of_some _ q) (Nat.le_refl _) ?_, rfl, q _ (I.hok.fresh (Nat.le_refl _))⟩
    exact ⟨Nat.zero_le _, _, .nil, IsTup.new _ _⟩
def rMulA (K : PySem.W.Frag) : R2 := fun x y H Q => ((rI CMul (fun i j => .int (i * j)) x y H Q ∨ rI CMulW (fun i j => .int (i * j)) x y H Q) ∨ rRepT K x y H Q) ∨ rRep01 K x y H Q
theorem op_mulA : OpR X (binaryOp .Mult) (rMulA X.K) := ((op_mul.or op_mulW).or op_repT).or op_rep01
theorem od_mul {K : PySem.W.Frag} : OpD K (rMulA K) mulD := by
  intro F H x y a b d Q xf ha hb hg q
  unfold mulD at hg
  split at hg
  · split at hg
    · cases hg
      rename_i hz
      rw [rs_int ha, rs_int hb]
      rcases mulOk_ok hz with h | h
      · exact .inl (.inl (.inl ⟨_, _, rfl, rfl, h, q.now xf (.int _)⟩))
      · exact .inl (.inl (.inr ⟨_, _, rfl, rfl, h, q.now xf (.int _)⟩))
    · cases hg
  · split at hg
    · cases hg
      rename_i hz
      obtain ⟨z1, z2, z3, z4⟩ := hz
      rw [rs_int hb]
      obtain ⟨p, vs, rfl, s1, d1⟩ := dp_tup (rs_tupF ha)
      have l1 := dpa_len d1
      refine .inl (.inr ⟨p, _, vs, rfl, rfl, ex_t xf s1, ?_, z2, z3, by omega, fun p hp => q.tupN xf ?_ hp⟩)
      · intro e
        subst e
        cases d1
        exact z1 rfl
      · rename_i n _
        generalize n.toNat = m
        induction m with
        | zero => exact .nil
        | succ m ih =>
          rw [List.replicate_succ, List.replicate_succ, List.flatten_cons, List.flatten_cons]
          exact dpa_append d1 ih
    · split at hg
      · rename_i hz
        obtain ⟨z1, rfl⟩ := hz
        cases hg
        have ha' := rs_tupF ha
        obtain ⟨p, vs, rfl, s1, d1⟩ := dp_tup ha'
        rw [rs_int hb]
        exact .inr ⟨p, _, vs, rfl, rfl, ex_t xf s1, fun e => by subst e; cases d1; exact z1 rfl, .inl ⟨rfl, q.now xf ha'⟩⟩
      · split at hg
        · rename_i hz
          obtain ⟨z1, rfl⟩ := hz
          cases hg
          have ha' := rs_tupF ha
          obtain ⟨p, vs, rfl, s1, d1⟩ := dp_tup ha'
          rw [rs_int hb]
          exact .inr ⟨p, _, vs, rfl, rfl, ex_t xf s1, fun e => by subst e; cases d1; exact z1 rfl, .inr ⟨rfl, fun p hp => q.tupN xf .nil hp⟩⟩
        · cases hg
  · cases hg
theorem od_fdiv {K : PySem.W.Frag} : OpD K (rI CDivW fun i j => .int (i / j)) fdivD := by
  intro F H x y a b d Q xf ha hb hg q
  unfold fdivD at hg
  split at hg
  · split at hg
    · cases hg
      rename_i hz
      rw [rs_int ha, rs_int hb]
      exact ⟨_, _, rfl, rfl, wide_div hz.1 hz.2 (by decide) (by decide), q.now xf (.int _)⟩
    · cases hg
  · cases hg
theorem od_mod {K : PySem.W.Frag} : OpD K (rI (fun _ j => 0 < j) fun i j => .int (i % j)) modD := by
  intro F H x y a b d Q xf ha hb hg q
  unfold modD at hg
  split at hg
  · split at hg
    · cases hg
      rename_i hz
      rw [rs_int ha, rs_int hb]
      exact ⟨_, _, rfl, rfl, hz, q.now xf (.int _)⟩
    · cases hg
  · cases hg
theorem od_pow {K : PySem.W.Frag} : OpD K (rI CPow fun i j => .int (i ^ j.toNat)) powD := by
  intro F H x y a b d Q xf ha hb hg q
  unfold powD at hg
  split at hg
  · split at hg
    · cases hg
      rename_i hz
      obtain ⟨z1, z2, z3⟩ := hz
      rw [rs_int ha, rs_int hb]
      exact ⟨_, _, rfl, rfl, ⟨z1, by omega, z3⟩, q.now xf (.int _)⟩
    · cases hg
  · cases hg
theorem ud_neg {K : PySem.W.Frag} : UnD K (rU fun i => .int (-i)) negD := by
  intro F H x a d Q xf ha hg q
  unfold negD at hg
  split at hg
  · cases hg
    rw [rs_int ha]
    exact ⟨_, rfl, q.now xf (.int _)⟩
  · cases hg
theorem od_lt {K : PySem.W.Frag} : OpD K (rI0 fun i j => .bl (decide (i < j))) ltD := by
  intro F H x y a b d Q xf ha hb hg q
  unfold ltD at hg
  split at hg
  · cases hg
    rw [rs_int ha, rs_int hb]
    exact ⟨_, _, rfl, rfl, q.now xf (.bl _)⟩
  · cases hg
theorem od_gt {K : PySem.W.Frag} : OpD K (rI0 fun i j => .bl (decide (j < i))) gtD := by
  intro F H x y a b d Q xf ha hb hg q
  unfold gtD at hg
  split at hg
  · cases hg
    rw [rs_int ha, rs_int hb]
    exact ⟨_, _, rfl, rfl, q.now xf (.bl _)⟩
  · cases hg
theorem od_ge {K : PySem.W.Frag} : OpD K (rI0 fun i j => .bl (decide (j ≤ i))) geD := by
  intro F H x y a b d Q xf ha hb hg q
  unfold geD at hg
  split at hg
  · cases hg
    rw [rs_int ha, rs_int hb]
    exact ⟨_, _, rfl, rfl, q.now xf (.bl _)⟩
  · cases hg
theorem od_eq {K : PySem.W.Frag} : OpD K (rEqD K) eqD := by
  intro F H x y a b d Q xf ha hb hg q
  unfold eqD at hg
  split at hg
  · cases hg
    rename_i hz
    exact ⟨a, b, dp_sh (ha.dp xf) hz.1, dp_sh (hb.dp xf) hz.2, hz.1, hz.2, q.now xf (.bl _)⟩
  · cases hg
theorem od_ne {K : PySem.W.Frag} : OpD K (rNeD K) neD := by
  intro F H x y a b d Q xf ha hb hg q
  unfold neD at hg
  split at hg
  · cases hg
    rename_i hz
    exact ⟨a, b, dp_sh (ha.dp xf) hz.1, dp_sh (hb.dp xf) hz.2, hz.1, hz.2, q.now xf (.bl _)⟩
  · cases hg
/-- is None, is not None -/
theorem dp_isN {K : PySem.W.Frag} {F H : Hp} {x : V} {a : D} (h : Rs K F H x a) : isND a = some (.bool (decide (x = .non))) ∧ notND a = some (.bool (!decide (x = .non))) := by
  rcases h with h | ⟨_, _, _, rfl, rfl, _⟩
  · cases h <;> exact ⟨rfl, rfl⟩
  · exact ⟨rfl, rfl⟩
theorem ud_isN {K : PySem.W.Frag} : UnD K (fun x H Q => Q (.bl (decide (x = .non))) H) isND := by
  intro F H x a d Q xf ha hg q
  rw [(dp_isN ha).1] at hg
  cases hg
  exact q.now xf (.bl _)
theorem ud_notN {K : PySem.W.Frag} : UnD K (fun x H Q => Q (.bl (!decide (x = .non))) H) notND := by
  intro F H x a d Q xf ha hg q
  rw [(dp_isN ha).2] at hg
  cases hg
  exact q.now xf (.bl _)
/-- items -/
theorem atI_dp {K : PySem.W.Frag} {F : Hp} {vs : List V} {ds : List D} {i : Int} {d : D} (h : DpAll K F vs ds) (e : atI ds i = some d) : ∃ v, atI vs i = some v ∧ Dp K F v d := by
  unfold atI at e ⊢
  rw [dpa_len h]
  obtain ⟨j, e1, e2⟩ := Option.bind_eq_some_iff.mp e
  obtain ⟨v, e3, e4⟩ := dpa_get h e2
  exact ⟨v, by rw [e1]; exact e3, e4⟩
theorem od_ix {K : PySem.W.Frag} : OpD K (rIx K) ixD := by
  intro F H x y a b d Q xf ha hb hg q
  unfold ixD at hg
  split at hg
  · rw [rs_int hb]
    obtain ⟨p, vs, rfl, s1, d1⟩ := ha.tup xf
    obtain ⟨v, e, h⟩ := atI_dp d1 hg
    exact .inr (.inl ⟨_, _, _, _, rfl, rfl, s1, e, q.now xf h⟩)
  · rw [rs_int hb]
    obtain ⟨p, vs, rfl, s1, d1⟩ := ha.lst xf
    obtain ⟨v, e, h⟩ := atI_dp d1 hg
    exact .inl ⟨_, _, _, _, rfl, rfl, s1, e, q.now xf h⟩
  · split at hg
    · rename_i hz
      obtain ⟨c, e, rfl⟩ := Option.map_eq_some_iff.mp hg
      rw [rs_int hb, rs_str ha]
      exact .inr (.inr ⟨_, _, _, rfl, rfl, Nat.le_trans (sml_le hz) big_line, e, q.now xf (.str _)⟩)
    · cases hg
  · cases hg
end

/-! ### rules of expressions -/
section
variable {X : Cx} {a b c : Expr} {f g h : FE} {pos : Pos}
theorem de_var (i : Nat) {x : Str} {pos : Pos} (hN : X.N[i]? = some x := by rfl) (hv : Vis X.env.scope x := by first | exact Or.inl rfl | exact Or.inr (Or.inl rfl) | exact Or.inr (Or.inr rfl)) (hd : (x == ("__debug__" : Str)) = false := by decide)
    (hcd : (x == ("__classdict__" : Str)) = false := by decide) : DE X (.Name x pos) (vr i) := pe_imp (pe_var hN hv hd hcd) fun σ H Q ⟨B, F0, F, e, d, ok, fe, q⟩ => by
  unfold vr at fe
  split at fe
  · cases fe
    rename_i h
    obtain ⟨v, h1, h2⟩ := ok.sh i _ h
    exact ⟨v, h1, q v F H (Gr.refl ok.fh) h2⟩
  · cases fe
theorem dr_var (i : Nat) {x : Str} {pos : Pos} (hN : X.N[i]? = some x := by rfl) (hv : Vis X.env.scope x := by first | exact Or.inl rfl | exact Or.inr (Or.inl rfl) | exact Or.inr (Or.inr rfl)) (hd : (x == ("__debug__" : Str)) = false := by decide)
    (hcd : (x == ("__classdict__" : Str)) = false := by decide) : DR X (.Name x pos) (vo i) := pe_imp (pe_var hN hv hd hcd) fun σ H Q ⟨B, F0, F, e, d, ok, fe, q⟩ => by
  unfold vo at fe
  split at fe
  · cases fe
    rename_i h
    obtain ⟨v, h1, h2⟩ := ok.sh i _ h
    exact ⟨v, h1, q v F H (Gr.refl ok.fh) (.inl h2)⟩
  · cases fe
    rename_i h
    obtain ⟨a, vs, h1, h2, h3, h4, h5⟩ := ok.ow i _ h
    exact ⟨_, h1, q _ F H (Gr.refl ok.fh) (.inr ⟨a, vs, _, rfl, rfl, h2, h5⟩)⟩
  · cases fe
/-- a value that stands still -/
theorem de_cst {e : Expr} {v : V} {d : D} (h : PE X e (tC v)) (hd : ∀ F, Dp X.K F v d) : DE X e (cst d) := pe_imp h fun σ H Q ⟨B, F0, F, e, d', ok, fe, q⟩ => by
  cases fe
  exact q v F H (Gr.refl ok.fh) (hd F)
theorem de_int {i : Int} {j : Nat} : DE X (.Constant (.int i) j pos) (cst (.int i)) := de_cst pe_int fun _ => .int i
theorem de_bl {i : Bool} {j : Nat} : DE X (.Constant (.bool i) j pos) (cst (.bool i)) := de_cst pe_bl fun _ => .bl i
theorem de_str {i : Str} {j : Nat} : DE X (.Constant (.str i) j pos) (cst (.str i)) := de_cst pe_str fun _ => .str i
theorem de_non {j : Nat} : DE X (.Constant .none j pos) (cst .none) := de_cst pe_non fun _ => .non
/-- a constant of the module -/
theorem de_gint {x : Str} {i : Int} {t : Tok} (hg : Gl X x) (hm : X.mg x = some (.int i t)) (hd : (x == ("__debug__" : Str)) = false := by decide) : DE X (.Name x pos) (cst (.int i)) := de_cst (v := .int i) (pe_glob hg hm ⟨t, rfl⟩ hd) fun _ => .int i
theorem de_gstr {x : Str} {i : Str} {t : Tok} (hg : Gl X x) (hm : X.mg x = some (.str i t)) (hd : (x == ("__debug__" : Str)) = false := by decide) : DE X (.Name x pos) (cst (.str i)) := de_cst (v := .str i) (pe_glob hg hm ⟨t, rfl⟩ hd) fun _ => .str i

theorem bind2 {α β γ : Type} {x : Option α} {y : Option β} {g : α → β → Option γ} {z : γ} (h : (x.bind fun a => y.bind fun b => g a b) = some z) : ∃ a b, x = some a ∧ y = some b ∧ g a b = some z := by
  obtain ⟨a, e1, h⟩ := Option.bind_eq_some_iff.mp h
  obtain ⟨b, e2, h⟩ := Option.bind_eq_some_iff.mp h
  exact ⟨a, b, e1, e2, h⟩
theorem bind1 {α γ : Type} {x : Option α} {g : α → Option γ} {z : γ} (h : x.bind g = some z) : ∃ a, x = some a ∧ g a = some z := Option.bind_eq_some_iff.mp h

theorem dr_read {r : R2} {G : D → D → Option D} (hd : OpD X.K r G) (σ : L2.St) (H : Hp) (Q : VK) (h : TD X.K (c2 G f g) σ H Q) : tOp r (TR X.K f) (TR X.K g) σ H Q := by
  obtain ⟨B, F0, F, e, d, ok, fe, q⟩ := h
  obtain ⟨x, y, hx, hy, fe⟩ := bind2 fe
  refine ⟨B, F0, F, e, x, ok, hx, fun v F1 H1 g1 r1 => ⟨B, F0, F1, e, y, ok.grow g1, hy, fun u F2 H2 g2 r2 => ?_⟩⟩
  exact hd F2 H2 v u x y d Q g2.fh (r1.grow g2) r2 fe fun w F' H' g3 dp => q w F' H' ((g1.trans g2).trans g3) dp
theorem de_op {op : Operator} {r : R2} {G : D → D → Option D} (ho : OpR X (binaryOp op) r) (hd : OpD X.K r G) (ha : DR X a f) (hb : DR X b g) : DE X (.BinOp a op b pos) (c2 G f g) := pe_imp (pe_op ho ha hb) (dr_read hd)
theorem de_add (ha : DR X a f) (hb : DR X b g) : DE X (.BinOp a .Add b pos) (c2 addD f g) := de_op op_addA od_add ha hb
theorem de_sub (ha : DR X a f) (hb : DR X b g) : DE X (.BinOp a .Sub b pos) (c2 subD f g) := de_op op_sub od_sub ha hb
theorem de_mul (ha : DR X a f) (hb : DR X b g) : DE X (.BinOp a .Mult b pos) (c2 mulD f g) := de_op op_mulA od_mul ha hb
theorem de_fdiv (ha : DR X a f) (hb : DR X b g) : DE X (.BinOp a .FloorDiv b pos) (c2 fdivD f g) := de_op op_fdivW od_fdiv ha hb
theorem de_mod (ha : DR X a f) (hb : DR X b g) : DE X (.BinOp a .Mod b pos) (c2 modD f g) := de_op op_mod od_mod ha hb
theorem de_pow (ha : DR X a f) (hb : DR X b g) : DE X (.BinOp a .Pow b pos) (c2 powD f g) := de_op op_pow od_pow ha hb
theorem de_neg (ha : DR X a f) : DE X (.UnaryOp .USub a pos) (c1 negD f) := pe_imp (pe_un un_neg ha) fun σ H Q ⟨B, F0, F, e, d, ok, fe, q⟩ => by
  obtain ⟨x, hx, fe⟩ := bind1 fe
  exact ⟨B, F0, F, e, x, ok, hx, fun v F1 H1 g1 r1 => ud_neg F1 H1 v x d Q g1.fh r1 fe fun w F' H' g3 dp => q w F' H' (g1.trans g3) dp⟩
/-- items -/
theorem de_ix (ha : DR X a f) (hb : DR X b g) (hs : PlainIx b := by exact fun _ _ => rfl) : DE X (.Subscript a b pos) (c2 ixD f g) := pe_imp (pe_ix ix_seq ha hb hs) (dr_read od_ix)
/-- comparisons as values -/
theorem de_cmp {op : CmpOp} {r : R2} {G : D → D → Option D} (ho : OpR X (compareOp op) r) (hd : OpD X.K r G) (ha : DR X a f) (hb : DR X b g) (hm : behindInMarks op b = false) : DE X (.Compare a [op] [b] pos) (c2 G f g) := pe_imp (pe_cmpR ho ha hb hm) (dr_read hd)
theorem de_isN {j : Nat} {p : Pos} (ha : DR X a f) : DE X (.Compare a [.Is] [.Constant .none j p] pos) (c1 isND f) := pe_imp (pe_cmp (pc_isN ha)) fun σ H Q ⟨B, F0, F, e, d, ok, fe, q⟩ => by
  obtain ⟨x, hx, fe⟩ := bind1 fe
  exact ⟨B, F0, F, e, x, ok, hx, fun v F1 H1 g1 r1 => ud_isN F1 H1 v x d Q g1.fh r1 fe fun w F' H' g3 dp => q w F' H' (g1.trans g3) dp⟩
theorem de_notN {j : Nat} {p : Pos} (ha : DR X a f) : DE X (.Compare a [.IsNot] [.Constant .none j p] pos) (c1 notND f) := pe_imp (pe_cmp (pc_notN ha)) fun σ H Q ⟨B, F0, F, e, d, ok, fe, q⟩ => by
  obtain ⟨x, hx, fe⟩ := bind1 fe
  exact ⟨B, F0, F, e, x, ok, hx, fun v F1 H1 g1 r1 => ud_notN F1 H1 v x d Q g1.fh r1 fe fun w F' H' g3 dp => q w F' H' (g1.trans g3) dp⟩
/-- .. as tests -/
theorem tst_read {t : TE} (hd : ∀ σ H Q, TD X.K f σ H Q → t σ H Q) (σ : L2.St) (H : Hp) (Q : Bool → Hp → Prop) (h : TB X.K (tst f) σ H Q) : tTest t σ H Q := by
  obtain ⟨B, F0, F, e, k, ok, fe, q⟩ := h
  obtain ⟨x, hx, fe⟩ := bind1 fe
  refine hd _ _ _ ⟨B, F0, F, e, x, ok, hx, fun v F1 H1 g1 r1 => ?_⟩
  unfold asB at fe
  split at fe
  · cases fe
    exact ⟨k, dp_bl r1, q F1 H1 g1⟩
  · cases fe
theorem dt_cmp {op : CmpOp} {r : R2} {G : D → D → Option D} (ho : OpR X (compareOp op) r) (hd : OpD X.K r G) (ha : DR X a f) (hb : DR X b g) (hm : behindInMarks op b = false) : DT X (.Compare a [op] [b] pos) (tst (c2 G f g)) :=
  pt_imp (pt_cmpR ho ha hb hm) (tst_read (dr_read hd))
theorem dt_isN {j : Nat} {p : Pos} (ha : DR X a f) : DT X (.Compare a [.Is] [.Constant .none j p] pos) (tst (c1 isND f)) := pt_imp (pt_cmp (pc_isN ha)) (tst_read fun σ H Q ⟨B, F0, F, e, d, ok, fe, q⟩ => by
  obtain ⟨x, hx, fe⟩ := bind1 fe
  exact ⟨B, F0, F, e, x, ok, hx, fun v F1 H1 g1 r1 => ud_isN F1 H1 v x d Q g1.fh r1 fe fun w F' H' g3 dp => q w F' H' (g1.trans g3) dp⟩)
theorem dt_notN {j : Nat} {p : Pos} (ha : DR X a f) : DT X (.Compare a [.IsNot] [.Constant .none j p] pos) (tst (c1 notND f)) := pt_imp (pt_cmp (pc_notN ha)) (tst_read fun σ H Q ⟨B, F0, F, e, d, ok, fe, q⟩ => by
  obtain ⟨x, hx, fe⟩ := bind1 fe
  exact ⟨B, F0, F, e, x, ok, hx, fun v F1 H1 g1 r1 => ud_notN F1 H1 v x d Q g1.fh r1 fe fun w F' H' g3 dp => q w F' H' (g1.trans g3) dp⟩)
theorem dt_val {e : Expr} (ha : DE X e f) (he : ∀ whole, isTrue e X.env whole = (do let v ← whole; standAt e.pos; holding [v] (truthy v)) := by intro _; rfl) : DT X e (tst f) := pt_imp (pt_val ha he) (tst_read fun _ _ _ h => h)
/-- chains -/
def chD (G G' : D → D → Option D) (f g h : FE) : FE := fun e => (f e).bind fun x => (g e).bind fun y => (G x y).bind fun z => (asB z).bind fun k => if k = true then (h e).bind fun w => G' y w else some (.bool false)
theorem ch_read {r r' : R2} {G G' : D → D → Option D} (hd : OpD X.K r G) (hd' : OpD X.K r' G') (σ : L2.St) (H : Hp) (Q : VK) (hq : TD X.K (chD G G' f g h) σ H Q) : tChain r r' (TR X.K f) (TR X.K g) (TR X.K h) σ H Q := by
  obtain ⟨B, F0, F, e, d, ok, fe, q⟩ := hq
  obtain ⟨x, y, hx, hy, fe⟩ := bind2 fe
  obtain ⟨z, hz, fe⟩ := bind1 fe
  obtain ⟨k, hk, fe⟩ := bind1 fe
  refine ⟨B, F0, F, e, x, ok, hx, fun v F1 H1 g1 r1 => ⟨B, F0, F1, e, y, ok.grow g1, hy, fun u F2 H2 g2 r2 => ?_⟩⟩
  refine hd F2 H2 v u x y z _ g2.fh (r1.grow g2) r2 hz fun w F' H' g3 dp => ⟨k, ?_, ?_⟩
  · unfold asB at hk
    split at hk
    · cases hk; exact dp_bl dp
    · cases hk
  · cases k with
    | false =>
      simp only [Bool.false_eq_true, if_false] at fe ⊢
      cases fe
      exact q _ F' H' ((g1.trans g2).trans g3) (.bl _)
    | true =>
      simp only [if_true] at fe ⊢
      obtain ⟨w', hw, fe⟩ := bind1 fe
      refine ⟨B, F0, F', e, w', ((ok.grow g1).grow g2).grow g3, hw, fun u' F4 H4 g4 r4 => ?_⟩
      exact hd' F4 H4 u u' y w' d Q g4.fh ((r2.grow g3).grow g4) r4 fe fun w F' H' g5 dp => q w F' H' ((((g1.trans g2).trans g3).trans g4).trans g5) dp
theorem de_chain {op op' : CmpOp} {r r' : R2} {G G' : D → D → Option D} (ho : OpR X (compareOp op) r) (hd : OpD X.K r G) (ho' : OpR X (compareOp op') r') (hd' : OpD X.K r' G') (ha : DR X a f) (hb : DR X b g) (hc : DR X c h)
    (hm : lastMarks [op, op'] [b, c] = false := by with_unfolding_all rfl) : DE X (.Compare a [op, op'] [b, c] pos) (chD G G' f g h) := pe_imp (pe_chain ho ho' ha hb hc hm) (ch_read hd hd')
theorem dt_chain {op op' : CmpOp} {r r' : R2} {G G' : D → D → Option D} (ho : OpR X (compareOp op) r) (hd : OpD X.K r G) (ho' : OpR X (compareOp op') r') (hd' : OpD X.K r' G') (ha : DR X a f) (hb : DR X b g) (hc : DR X c h)
    (hm : lastMarks [op, op'] [b, c] = false := by with_unfolding_all rfl) : DT X (.Compare a [op, op'] [b, c] pos) (tst (chD G G' f g h)) := pt_imp (pt_chain ho ho' ha hb hc hm) (tst_read (ch_read hd hd'))
/-! and, or, not -/
variable {p q : FB} {rest : List Expr}
theorem DW.dt {e : Expr} (h : DW X e p) : DT X e p := PW.pt h
theorem dw_and1 (ha : DT X a p) : DW X (.BoolOp .And [a] pos) p := pw_and1 ha
theorem dw_or1 (ha : DT X a p) : DW X (.BoolOp .Or [a] pos) p := pw_or1 ha
theorem dw_and (ha : DT X a p) (hb : DW X (.BoolOp .And (b :: rest) pos) q) : DW X (.BoolOp .And (a :: b :: rest) pos) (andT p q) := pw_imp (pw_and ha hb) fun σ H Q ⟨B, F0, F, e, k, ok, fe, hq⟩ => by
  obtain ⟨x, hx, fe⟩ := bind1 fe
  refine ⟨B, F0, F, e, x, ok, hx, fun F1 H1 g1 => ?_⟩
  cases x with
  | true => simp only [if_true] at fe ⊢; exact ⟨B, F0, F1, e, k, ok.grow g1, fe, fun F2 H2 g2 => hq F2 H2 (g1.trans g2)⟩
  | false => simp only [Bool.false_eq_true, if_false] at fe ⊢; cases fe; exact hq F1 H1 g1
theorem dw_or (ha : DT X a p) (hb : DW X (.BoolOp .Or (b :: rest) pos) q) : DW X (.BoolOp .Or (a :: b :: rest) pos) (orT p q) := pw_imp (pw_or ha hb) fun σ H Q ⟨B, F0, F, e, k, ok, fe, hq⟩ => by
  obtain ⟨x, hx, fe⟩ := bind1 fe
  refine ⟨B, F0, F, e, x, ok, hx, fun F1 H1 g1 => ?_⟩
  cases x with
  | false => simp only [Bool.false_eq_true, if_false] at fe ⊢; exact ⟨B, F0, F1, e, k, ok.grow g1, fe, fun F2 H2 g2 => hq F2 H2 (g1.trans g2)⟩
  | true => simp only [if_true] at fe ⊢; cases fe; exact hq F1 H1 g1
theorem dt_not (ha : DT X a p) : DT X (.UnaryOp .Not a pos) (notT p) := pt_imp (pt_not ha) fun σ H Q ⟨B, F0, F, e, k, ok, fe, hq⟩ => by
  obtain ⟨x, hx, rfl⟩ := Option.map_eq_some_iff.mp fe
  exact ⟨B, F0, F, e, x, ok, hx, hq⟩
theorem asB_of {F : Hp} {x : D} {k : Bool} {v : V} (h : asB x = some k) (d : Dp X.K F v x) : v = .bl k := by
  unfold asB at h
  split at h
  · cases h; exact dp_bl d
  · cases h
theorem de_one {op : BoolOp} (h : DE X a f) : DE X (.BoolOp op [a] pos) f := pe_one h
theorem de_and (ha : DE X a f) (hb : DE X (.BoolOp .And (b :: rest) pos) g) : DE X (.BoolOp .And (a :: b :: rest) pos) (andV f g) := pe_imp (pe_and ha hb) fun σ H Q ⟨B, F0, F, e, d, ok, fe, hq⟩ => by
  obtain ⟨x, hx, fe⟩ := bind1 fe
  obtain ⟨k, hk, fe⟩ := bind1 fe
  refine ⟨B, F0, F, e, x, ok, hx, fun v F1 H1 g1 d1 => ⟨k, asB_of hk d1, ?_⟩⟩
  cases k with
  | true => simp only [if_true] at fe ⊢; exact ⟨B, F0, F1, e, d, ok.grow g1, fe, fun w F2 H2 g2 => hq w F2 H2 (g1.trans g2)⟩
  | false => simp only [Bool.false_eq_true, if_false] at fe ⊢; cases fe; exact hq _ F1 H1 g1 (.bl _)
theorem de_or (ha : DE X a f) (hb : DE X (.BoolOp .Or (b :: rest) pos) g) : DE X (.BoolOp .Or (a :: b :: rest) pos) (orV f g) := pe_imp (pe_or ha hb) fun σ H Q ⟨B, F0, F, e, d, ok, fe, hq⟩ => by
  obtain ⟨x, hx, fe⟩ := bind1 fe
  obtain ⟨k, hk, fe⟩ := bind1 fe
  refine ⟨B, F0, F, e, x, ok, hx, fun v F1 H1 g1 d1 => ⟨k, asB_of hk d1, ?_⟩⟩
  cases k with
  | false => simp only [Bool.false_eq_true, if_false] at fe ⊢; exact ⟨B, F0, F1, e, d, ok.grow g1, fe, fun w F2 H2 g2 => hq w F2 H2 (g1.trans g2)⟩
  | true => simp only [if_true] at fe ⊢; cases fe; exact hq _ F1 H1 g1 (.bl _)
theorem de_not (ha : DE X a f) : DE X (.UnaryOp .Not a pos) (notV f) := pe_imp (pe_not ha) fun σ H Q ⟨B, F0, F, e, d, ok, fe, hq⟩ => by
  obtain ⟨x, hx, fe⟩ := bind1 fe
  obtain ⟨k, hk, rfl⟩ := Option.map_eq_some_iff.mp fe
  exact ⟨B, F0, F, e, x, ok, hx, fun v F1 H1 g1 d1 => ⟨k, asB_of hk d1, hq _ F1 H1 g1 (.bl _)⟩⟩
theorem de_ife (hc : DT X c p) (ha : DE X a f) (hb : DE X b g) : DE X (.IfExp c a b pos) (ifE p f g) := pe_imp (pe_ifExp hc ha hb) fun σ H Q ⟨B, F0, F, e, d, ok, fe, hq⟩ => by
  obtain ⟨k, hk, fe⟩ := bind1 fe
  refine ⟨B, F0, F, e, k, ok, hk, fun F1 H1 g1 => ?_⟩
  cases k with
  | false => simp only [Bool.false_eq_true, if_false] at fe ⊢; exact ⟨B, F0, F1, e, d, ok.grow g1, fe, fun w F2 H2 g2 => hq w F2 H2 (g1.trans g2)⟩
  | true => simp only [if_true] at fe ⊢; exact ⟨B, F0, F1, e, d, ok.grow g1, fe, fun w F2 H2 g2 => hq w F2 H2 (g1.trans g2)⟩
/-! arguments, displays -/
variable {es : List Expr} {fa : FA}
theorem da_nil : DA X [] nilA := pa_imp pa_nil fun σ H Q ⟨B, F0, F, e, d, ok, fe, hq⟩ => by
  cases fe
  exact hq [] F H (Gr.refl ok.fh) .nil
theorem da_cons (ha : DE X a f) (hr : DA X es fa) (hs : starEach (a :: es) X.env = (false, eval a X.env) :: starEach es X.env := by rfl) : DA X (a :: es) (consA f fa) := pa_imp (pa_cons ha hr hs) fun σ H Q ⟨B, F0, F, e, d, ok, fe, hq⟩ => by
  obtain ⟨x, y, hx, hy, fe⟩ := bind2 fe
  cases fe
  exact ⟨B, F0, F, e, x, ok, hx, fun v F1 H1 g1 d1 => ⟨B, F0, F1, e, y, ok.grow g1, hy, fun vs F2 H2 g2 d2 => hq _ F2 H2 (g1.trans g2) (.cons (dp_mono g2.ff d1) d2)⟩⟩
theorem de_tup {x1 : Nat} (h : DA X es fa) (hl : ∀ e ds, fa e = some ds → ds.length ≤ big) : DE X (.Tuple es x1 pos) (tup fa) := pe_imp (pe_tup h) fun σ H Q ⟨B, F0, F, e, d, ok, fe, hq⟩ => by
  obtain ⟨xs, hx, rfl⟩ := Option.map_eq_some_iff.mp fe
  refine ⟨B, F0, F, e, xs, ok, hx, fun vs F1 H1 g1 d1 => ⟨?_, fun p hp => ?_⟩⟩
  · rw [dpa_len d1]; exact Nat.le_trans (hl _ _ hx) big_line
  · exact Kn.tupN (K := X.K) (fun v F' H' g2 dp => hq v F' H' (g1.trans g2) dp) g1.fh d1 hp
theorem dn_lst (h : DA X es fa) (hl : ∀ e ds, fa e = some ds → ds.length ≤ big) : DN X (.List es pos) fa := pe_imp (pe_lst h) fun σ H Q ⟨B, F0, F, e, xs, ok, hx, hq⟩ => by
  refine ⟨B, F0, F, e, xs, ok, hx, fun vs F1 H1 g1 d1 => ⟨?_, fun p hp => ?_⟩⟩
  · rw [dpa_len d1]; exact Nat.le_trans (hl _ _ hx) big_line
  · exact hq p vs F1 _ (g1.trans (Gr.loose g1.fh hp)) (fresh_back g1.hh hp) (fresh_back g1.fh hp) upd_same d1
theorem ln_nil : ∀ e ds, nilA e = some ds → ds.length ≤ 0 := fun e ds h => by cases h; exact Nat.le_refl _
theorem ln_cons {n : Nat} (h : ∀ e ds, fa e = some ds → ds.length ≤ n) : ∀ e ds, consA f fa e = some ds → ds.length ≤ n + 1 := fun e ds hx => by
  obtain ⟨x, y, hx, hy, fe⟩ := bind2 hx
  cases fe
  exact Nat.succ_le_succ (h _ _ hy)
theorem ln_big {n : Nat} (h : ∀ e ds, fa e = some ds → ds.length ≤ n) (hn : n ≤ big := by decide) : ∀ e ds, fa e = some ds → ds.length ≤ big := fun e ds hx => Nat.le_trans (h e ds hx) hn
end
end DL

/-! DLay3: statements, targets, loops, comprehensions, defs. -/
namespace DL
open PySem PySem.Spec PyProof.Rows L2 Evl

inductive Fl where
  | nx (e : DEnv) | rt (d : D) | bk (e : DEnv) | ct (e : DEnv)
abbrev FS := DEnv → Option Fl
def Post (K : PySem.W.Frag) (B F0 F : Hp) (D : Ends) : Fl → Prop
  | .nx e => ∀ σ' F' H', Ex F F' → Ok K B F0 F' σ' H' e → D.nx σ' H'
  | .bk e => ∀ σ' F' H', Ex F F' → Ok K B F0 F' σ' H' e → D.bk σ' H'
  | .ct e => ∀ σ' F' H', Ex F F' → Ok K B F0 F' σ' H' e → D.ct σ' H'
  | .rt d => ∀ v F' H', Gr F0 B F' H' → Dp K F' v d → D.rt v H'
theorem Post.mono {K : PySem.W.Frag} {B F0 F F1 : Hp} {D : Ends} {r : Fl} (x : Ex F F1) (h : Post K B F0 F D r) : Post K B F0 F1 D r := by
  cases r with
  | nx e => exact fun σ' F' H' x' => h σ' F' H' (x.trans x')
  | bk e => exact fun σ' F' H' x' => h σ' F' H' (x.trans x')
  | ct e => exact fun σ' F' H' x' => h σ' F' H' (x.trans x')
  | rt d => exact h
def TSm (K : PySem.W.Frag) (f : FS) : TS := fun D σ H => ∃ B F0 F e r, Ok K B F0 F σ H e ∧ f e = some r ∧ Post K B F0 F D r
def DS (X : Cx) (st : Stmt) (f : FS) : Prop := PS X st (TSm X.K f)
def DSs (X : Cx) (st : List Stmt) (f : FS) : Prop := PSs X st (TSm X.K f)

/-! ### denotations -/
def sNx : FS := fun e => some (.nx e)
def sq (f g : FS) : FS := fun e => (f e).bind fun r => match r with
  | .nx e' => g e'
  | .rt d => some (.rt d)
  | .bk e' => some (.bk e')
  | .ct e' => some (.ct e')
def sAsg (i : Nat) (f : FE) : FS := fun e => (f e).map fun d => .nx (e.set i (some (.sh d)))
def sNew (i : Nat) (f : FA) : FS := fun e => (f e).map fun d => .nx (e.set i (some (.ow d)))
def sRet (f : FE) : FS := fun e => (f e).map .rt
def sIf (p : FB) (f g : FS) : FS := fun e => (p e).bind fun b => if b = true then f e else g e
def owAt (i : Nat) (e : DEnv) : Option (List D) := match e[i]? with
  | some (some (.ow xs)) => some xs
  | _ => none
def sApp (i : Nat) (f : FE) : FS := fun e => (f e).bind fun d => (owAt i e).bind fun xs => if sml (xs.length + 1) = true then some (.nx (e.set i (some (.ow (xs ++ [d]))))) else none
def sIns (i : Nat) (g f : FE) : FS := fun e => (g e).bind fun k => (f e).bind fun d => (owAt i e).bind fun xs => match k with
  | .int n => if sml (xs.length + 1) = true ∧ 0 ≤ n ∧ n < 2 ^ 63 then some (.nx (e.set i (some (.ow (xs.take n.toNat ++ [d] ++ xs.drop n.toNat))))) else none
  | _ => none
def sSet (i : Nat) (g f : FE) : FS := fun e => (f e).bind fun d => (g e).bind fun k => (owAt i e).bind fun xs => match k with
  | .int n => (ixN xs.length n).bind fun j => some (.nx (e.set i (some (.ow (xs.set j d)))))
  | _ => none
def seqOf : D → Option (List D)
  | .list xs => some xs
  | .tuple xs => some xs
  | _ => none
def sExt (i : Nat) (f : FE) : FS := fun e => (f e).bind fun d => (seqOf d).bind fun ys => (owAt i e).bind fun xs => if sml (xs.length + ys.length) = true then some (.nx (e.set i (some (.ow (xs ++ ys))))) else none
def frzE (i : Nat) (e : DEnv) : DEnv := match e[i]? with
  | some (some (.ow xs)) => e.set i (some (.sh (.list xs)))
  | some (some (.od ds)) => e.set i (some (.sh (.dict ds)))
  | _ => e
def sFrz (i : Nat) (f : FS) : FS := fun e => f (frzE i e)
abbrev BD := D → DEnv → Option DEnv
def bNm (i : Nat) : BD := fun d e => some (e.set i (some (.sh d)))
def bAll : List BD → List D → DEnv → Option DEnv
  | [], [], e => some e
  | b :: bs, d :: ds, e => (b d e).bind fun e' => bAll bs ds e'
  | _, _, _ => none
def bTp (bs : List BD) : BD := fun d e => match d with
  | .tuple ds => bAll bs ds e
  | _ => none
def sAsgT (b : BD) (f : FE) : FS := fun e => (f e).bind fun d => (b d e).map .nx
def sPar (i j : Nat) (f : FA) : FS := fun e => (f e).bind fun ds => match ds with
  | [v, w] => some (.nx ((e.set i (some (.sh v))).set j (some (.sh w))))
  | _ => none
def forD (b : BD) (body : FS) : List D → DEnv → Option Fl
  | [], e => some (.nx e)
  | d :: ds, e => (b d e).bind fun e1 => (body e1).bind fun r => match r with
    | .nx e2 => forD b body ds e2
    | .ct e2 => forD b body ds e2
    | .bk e2 => some (.nx e2)
    | .rt v => some (.rt v)
def sFor (fi : FA) (b : BD) (body : FS) : FS := fun e => (fi e).bind fun ds => forD b body ds e
def whileD (c : FB) (body : FS) : Nat → DEnv → Option Fl
  | 0, _ => none
  | n + 1, e => (c e).bind fun k => if k = true then (body e).bind fun r => match r with
      | .nx e2 => whileD c body n e2
      | .ct e2 => whileD c body n e2
      | .bk e2 => some (.nx e2)
      | .rt v => some (.rt v)
    else some (.nx e)
def sWhile (μ : DEnv → Nat) (c : FB) (body : FS) : FS := fun e => whileD c body (μ e) e
def wipeE (e : DEnv) : List Nat → DEnv
  | [] => e
  | v :: vs => (wipeE e vs).set v none
def lcGo (b : BD) (t : FB) (el : FE) (e : DEnv) : List D → Option (List D)
  | [] => some []
  | d :: ds => (b d e).bind fun e1 => (t e1).bind fun k => if k = true then (el e1).bind fun x => (lcGo b t el e ds).bind fun xs => some (x :: xs) else lcGo b t el e ds
def yesT : FB := fun _ => some true
def lcD (fi : FA) (b : BD) (t : FB) (el : FE) (vs : List Nat) : FA := fun e => (fi e).bind fun ds => if sml ds.length = true then lcGo b t el (wipeE e vs) ds else none

/-! ### small statements -/
section
variable {X : Cx} {st : Stmt} {rest body body2 : List Stmt} {f g : FS} {e e2 e3 : Expr} {fe fg : FE} {fa : FA} {p : FB} {pos : Pos}
theorem ds_nil : DSs X [] sNx := pss_imp pss_nil fun D σ H ⟨B, F0, F, e, r, ok, fe, q⟩ => by
  cases fe
  exact q σ F H (Ex.refl _) ok
theorem ds_cons (h1 : DS X st f) (h2 : DSs X rest g) : DSs X (st :: rest) (sq f g) := pss_imp (pss_cons h1 h2) fun D σ H ⟨B, F0, F, e, r, ok, fe, q⟩ => by
  obtain ⟨r1, h, fe⟩ := bind1 fe
  refine ⟨B, F0, F, e, r1, ok, h, ?_⟩
  cases r1 with
  | nx e' => exact fun σ' F' H' x ok' => ⟨B, F0, F', e', r, ok', fe, q.mono x⟩
  | rt d => cases fe; exact q
  | bk d => cases fe; exact q
  | ct d => cases fe; exact q
theorem ds_one (h1 : DS X st f) : DSs X [st] f := pss_one h1
theorem ds_pass : DS X (.Pass pos) sNx := ps_imp ps_pass fun D σ H ⟨B, F0, F, e, r, ok, fe, q⟩ => by
  cases fe
  exact q σ F H (Ex.refl _) ok
theorem ds_ret (he : DE X e fe) : DS X (.Return (some e) pos) (sRet fe) := ps_imp (ps_ret he) fun D σ H ⟨B, F0, F, e, r, ok, fr, q⟩ => by
  obtain ⟨d, h, rfl⟩ := Option.map_eq_some_iff.mp fr
  exact ⟨B, F0, F, e, d, ok, h, fun v F' H' g dp => q v F' H' (ok.gr.trans g) dp⟩
theorem ds_if {c : Expr} (hc : DT X c p) (ha : DSs X body f) (hb : DSs X body2 g) : DS X (.If c body body2 pos) (sIf p f g) := ps_imp (ps_if hc ha hb) fun D σ H ⟨B, F0, F, e, r, ok, fr, q⟩ => by
  obtain ⟨k, hk, fr⟩ := bind1 fr
  refine ⟨B, F0, F, e, k, ok, hk, fun F1 H1 g1 => ?_⟩
  cases k with
  | true => simp only [if_true] at fr ⊢; exact ⟨B, F0, F1, e, r, ok.grow g1, fr, q.mono g1.ff⟩
  | false => simp only [Bool.false_eq_true, if_false] at fr ⊢; exact ⟨B, F0, F1, e, r, ok.grow g1, fr, q.mono g1.ff⟩
theorem ds_asg (i : Nat) {x : Str} {pos' : Pos} (hN : X.N.Nodup) (he : DE X e fe) (hi : X.N[i]? = some x := by rfl) (hx : Loc X.env.scope x := by first | exact Or.inl rfl | exact Or.inr rfl) (hs : swapsWith e (some (.Name x pos')) pos.line X.env = pure false := by rfl)
    (hf : X.fn x = true ∨ X.env.scope.names.lookup x = some .local := by first | exact .inl rfl | exact .inr rfl | assumption) : DS X (.Assign [.Name x pos'] e pos) (sAsg i fe) := ps_imp (ps_set hN hi hx he hs hf) fun D σ H ⟨B, F0, F, e, r, ok, fr, q⟩ => by
  obtain ⟨d, h, rfl⟩ := Option.map_eq_some_iff.mp fr
  exact ⟨B, F0, F, e, d, ok, h, fun v F' H' g dp => q _ F' H' g.ff ((ok.grow g).set dp)⟩
theorem Ok.new {K : PySem.W.Frag} {B F0 F F' : Hp} {σ : L2.St} {H H' : Hp} {e : DEnv} {i : Nat} {a : Addr} {vs : List V} {xs : List D} (ok : Ok K B F0 F σ H e) (g : Gr F H F' H') (h1 : H a = none) (h2 : F' a = none) (h3 : H' a = some (.lst vs)) (h4 : DpAll K F' vs xs) :
    Ok K B F0 F' (σ.set i (some (.ref a))) H' (e.set i (some (.ow xs))) :=
  (ok.grow g).setOw (fun j ys b hj hs _ => by
    obtain ⟨a', vs', s1, t1, _⟩ := ok.ow j ys hj
    rw [hs] at s1
    cases s1
    exact ne_of_none t1 h1) h3 (fresh_back ok.gr.hh h1) h2 h4
theorem ds_new (i : Nat) {x : Str} {pos' : Pos} (hN : X.N.Nodup) (he : DN X e fa) (hi : X.N[i]? = some x := by rfl) (hx : Loc X.env.scope x := by first | exact Or.inl rfl | exact Or.inr rfl) (hs : swapsWith e (some (.Name x pos')) pos.line X.env = pure false := by rfl)
    (hf : X.fn x = true ∨ X.env.scope.names.lookup x = some .local := by first | exact .inl rfl | exact .inr rfl | assumption) : DS X (.Assign [.Name x pos'] e pos) (sNew i fa) := ps_imp (ps_set hN hi hx he hs hf) fun D σ H ⟨B, F0, F, e, r, ok, fr, q⟩ => by
  obtain ⟨d, h, rfl⟩ := Option.map_eq_some_iff.mp fr
  exact ⟨B, F0, F, e, d, ok, h, fun a vs F' H' g h1 h2 h3 h4 => q _ F' H' g.ff (ok.new g h1 h2 h3 h4)⟩
/-- the ghost step: slot i is frozen ahead of the statement -/
theorem tsm_frz {K : PySem.W.Frag} (i : Nat) (D : Ends) (σ : L2.St) (H : Hp) (h : TSm K (sFrz i f) D σ H) : TSm K f D σ H := by
  obtain ⟨B, F0, F, e, r, ok, fr, q⟩ := h
  unfold sFrz frzE at fr
  split at fr
  · rename_i xs he
    obtain ⟨F', x, ok'⟩ := ok.freeze he
    exact ⟨B, F0, F', _, r, ok', fr, q.mono x⟩
  · rename_i xs he
    obtain ⟨F', x, ok'⟩ := ok.freezeD he
    exact ⟨B, F0, F', _, r, ok', fr, q.mono x⟩
  · exact ⟨B, F0, F, e, r, ok, fr, q⟩
theorem ds_frz (i : Nat) (h : DS X st f) : DS X st (sFrz i f) := ps_imp h (tsm_frz i)

/-! ### lists of one's own, changed -/
theorem owAt_some {i : Nat} {e : DEnv} {xs : List D} (h : owAt i e = some xs) : e[i]? = some (some (.ow xs)) := by
  unfold owAt at h
  split at h
  · cases h; assumption
  · cases h
theorem ds_app (i : Nat) {x : Str} {px apos cpos : Pos} (he : DE X e fe) (hi : X.N[i]? = some x := by rfl) (hv : Vis X.env.scope x := by first | exact Or.inl rfl | exact Or.inr (Or.inl rfl) | exact Or.inr (Or.inr rfl)) (hd : (x == ("__debug__" : Str)) = false := by decide)
    (hcd : (x == ("__classdict__" : Str)) = false := by decide) (hbase : attributeBase (.Name x px) "append" X.env (eval (.Name x px) X.env) = eval (.Name x px) X.env := by rfl)
    (hfew : ((backTo cpos (starEach [e] X.env)).all (fun x => !x.1) && (backToKw cpos (keywordEach [] X.env)).all (fun x => x.1.isSome) && decide (([e] : List Expr).length + ([] : List Keyword).length + (if ([] : List Keyword).isEmpty then 0 else 1) < 30)) = true := by rfl)
    (hline : (apos.endLine == cpos.line) = true := by rfl) (hs : starEach [e] X.env = (false, eval e X.env) :: starEach [] X.env := by rfl) (hsw : swapsWith (.Call (.Attribute (.Name x px) "append" apos) [e] [] cpos) none pos.line X.env = pure false := by rfl) :
    DS X (.Expr (.Call (.Attribute (.Name x px) "append" apos) [e] [] cpos) pos) (sApp i fe) :=
  ps_imp (ps_expr (pe_bm PySem.F.plainAttrs_list PySem.F.slot_list_append PySem.F.type_list_append mt_append (pe_var hi hv hd hcd) (pa_cons he pa_nil hs) hbase hfew hline hs rfl) hsw) fun D σ H ⟨B, F0, F, e, r, ok, fr, q⟩ => by
  obtain ⟨d, h, fr⟩ := bind1 fr
  obtain ⟨xs, hx, fr⟩ := bind1 fr
  split at fr
  · rename_i hz
    cases fr
    have hx := owAt_some hx
    obtain ⟨a, vs, h1, h2, h3, h4, h5⟩ := ok.ow i xs hx
    refine ⟨.ref a, h1, .inl ⟨rfl, _, SqL.of h2⟩, B, F0, F, e, d, ok, h, fun v F' H' g dp => ?_⟩
    refine ⟨a, vs, v, rfl, rfl, g.hh _ _ h2, ?_, q σ F' _ g.ff ((ok.grow g).mutOw hx h1 (dpa_append (dpa_mono g.ff h5) (.cons dp .nil)))⟩
    rw [dpa_len h5]
    exact Nat.lt_of_lt_of_le (sml_le hz) big_line
  · cases fr
theorem ds_ins (i : Nat) {x : Str} {px apos cpos : Pos} (he2 : DE X e2 fg) (he : DE X e fe) (hi : X.N[i]? = some x := by rfl) (hv : Vis X.env.scope x := by first | exact Or.inl rfl | exact Or.inr (Or.inl rfl) | exact Or.inr (Or.inr rfl)) (hd : (x == ("__debug__" : Str)) = false := by decide)
    (hcd : (x == ("__classdict__" : Str)) = false := by decide) (hbase : attributeBase (.Name x px) "insert" X.env (eval (.Name x px) X.env) = eval (.Name x px) X.env := by rfl)
    (hfew : ((backTo cpos (starEach [e2, e] X.env)).all (fun x => !x.1) && (backToKw cpos (keywordEach [] X.env)).all (fun x => x.1.isSome) && decide (([e2, e] : List Expr).length + ([] : List Keyword).length + (if ([] : List Keyword).isEmpty then 0 else 1) < 30)) = true := by rfl)
    (hline : (apos.endLine == cpos.line) = true := by rfl) (hs : starEach [e2, e] X.env = (false, eval e2 X.env) :: starEach [e] X.env := by rfl) (hs1 : starEach [e] X.env = (false, eval e X.env) :: starEach [] X.env := by rfl) (hpl : (backTo cpos (starEach [e] X.env)).any (·.1) = false := by rfl)
    (hsw : swapsWith (.Call (.Attribute (.Name x px) "insert" apos) [e2, e] [] cpos) none pos.line X.env = pure false := by rfl) :
    DS X (.Expr (.Call (.Attribute (.Name x px) "insert" apos) [e2, e] [] cpos) pos) (sIns i fg fe) :=
  ps_imp (ps_expr (pe_bm PySem.F.plainAttrs_list PySem.F.slot_list_insert PySem.F.type_list_insert mt_insert (pe_var hi hv hd hcd) (pa_cons he2 (pa_cons he pa_nil hs1) hs) hbase hfew hline hs hpl) hsw) fun D σ H ⟨B, F0, F, e, r, ok, fr, q⟩ => by
  obtain ⟨k, d, hk, h, fr⟩ := bind2 fr
  obtain ⟨xs, hx, fr⟩ := bind1 fr
  split at fr
  · split at fr
    · rename_i hz
      cases fr
      have hx := owAt_some hx
      obtain ⟨a, vs, h1, h2, h3, h4, h5⟩ := ok.ow i xs hx
      refine ⟨.ref a, h1, .inl ⟨rfl, _, SqL.of h2⟩, B, F0, F, e, _, ok, hk, fun v1 F1 H1 g1 dp1 => ⟨B, F0, F1, e, d, ok.grow g1, h, fun v F' H' g dp => ?_⟩⟩
      refine ⟨a, vs, _, v, rfl, by rw [dp_int dp1], g.hh _ _ (g1.hh _ _ h2), ?_, hz.2.1, hz.2.2, q σ F' _ (g1.trans g).ff (((ok.grow g1).grow g).mutOw hx h1 ?_)⟩
      · rw [dpa_len h5]
        exact Nat.lt_of_lt_of_le (sml_le hz.1) big_line
      · have h6 := dpa_mono (g1.trans g).ff h5
        exact dpa_append (dpa_append (dpa_take _ h6) (.cons dp .nil)) (dpa_drop _ h6)
    · cases fr
  · cases fr
/-- x[k] = e -/
theorem ds_set (i : Nat) {x : Str} {px ps : Pos} (he2 : DE X e2 fg) (he : DE X e fe) (hi : X.N[i]? = some x := by rfl) (hv : Vis X.env.scope x := by first | exact Or.inl rfl | exact Or.inr (Or.inl rfl) | exact Or.inr (Or.inr rfl)) (hd : (x == ("__debug__" : Str)) = false := by decide)
    (hcd : (x == ("__classdict__" : Str)) = false := by decide)
    (ha : ∀ v, assign (.Subscript (.Name x px) e2 ps) X.env v = (do
      let ov ← holding [v] (eval (.Name x px) X.env)
      let iv ← holding [v, ov] (eval e2 X.env)
      standAt ps
      holding [v, ov, iv] (setItem ov iv v)
      release [v, ov, iv] []) := by intro _; rfl)
    (hs : swapsWithSole [.Subscript (.Name x px) e2 ps] e pos.line X.env = pure false := by rfl) (hw : swappedStores [.Subscript (.Name x px) e2 ps] e X.env = pure none := by rfl)
    (h1 : (assignEach [.Subscript (.Name x px) e2 ps] X.env).map (·.2) = [assign (.Subscript (.Name x px) e2 ps) X.env] := by rfl) :
    DS X (.Assign [.Subscript (.Name x px) e2 ps] e pos) (sSet i fg fe) :=
  ps_imp (ps_asg he (pg_sub (pe_var hi hv hd hcd) he2 set_list ha) hs hw h1) fun D σ H ⟨B, F0, F, e, r, ok, fr, q⟩ => by
  obtain ⟨d, k, h, hk, fr⟩ := bind2 fr
  obtain ⟨xs, hx, fr⟩ := bind1 fr
  split at fr
  · obtain ⟨j, hj, fr⟩ := bind1 fr
    cases fr
    have hx := owAt_some hx
    refine ⟨B, F0, F, e, d, ok, h, fun v F' H' g dp => ?_⟩
    obtain ⟨a, vs, h1, h2, h3, h4, h5⟩ := (ok.grow g).ow i xs hx
    refine ⟨.ref a, h1, B, F0, F', e, _, ok.grow g, hk, fun v2 F2 H2 g2 dp2 => ?_⟩
    refine ⟨a, vs, _, j, rfl, dp_int dp2, g2.hh _ _ h2, by rw [dpa_len h5]; exact hj, q σ F2 _ (g.trans g2).ff (((ok.grow g).grow g2).mutOw hx h1 (dpa_set (dp_mono g2.ff dp) _ (dpa_mono g2.ff h5)))⟩
  · cases fr

/-! ### targets -/
def TGd (K : PySem.W.Frag) (vs : List Nat) (b : BD) : TG := fun v σ H Q => ∃ B F0 F e d e', Ok K B F0 F σ H e ∧ Dp K F v d ∧ b d e = some e' ∧ ∀ σ', Ok K B F0 F σ' H e' → σ'.length = σ.length → (∀ j, j ∉ vs → σ'[j]? = σ[j]?) → Q σ' H
def DG (X : Cx) (tg : Expr) (vs : List Nat) (b : BD) : Prop := PG X tg (TGd X.K vs b)
def TGsd (K : PySem.W.Frag) (vs : List Nat) (bs : List BD) : TGs := fun ws σ H Q => ∃ B F0 F e ds e', Ok K B F0 F σ H e ∧ DpAll K F ws ds ∧ bAll bs ds e = some e' ∧ ∀ σ', Ok K B F0 F σ' H e' → σ'.length = σ.length → (∀ j, j ∉ vs → σ'[j]? = σ[j]?) → Q σ' H
def DGs (X : Cx) (tgs : List Expr) (vs : List Nat) (bs : List BD) : Prop := PGs X tgs (TGsd X.K vs bs)
theorem pg_imp {tg : Expr} {t t' : TG} (h : PG X tg t) (i : ∀ v σ H Q, t' v σ H Q → t v σ H Q) : PG X tg t' := ⟨fun pins s σ H v u Q I r hw => h.run pins s σ H v u Q I r (i _ _ _ _ hw)⟩
theorem pgs_imp {tg : List Expr} {t t' : TGs} (h : PGs X tg t) (i : ∀ v σ H Q, t' v σ H Q → t v σ H Q) : PGs X tg t' := ⟨fun pins s σ H v u Q I r hw => h.run pins s σ H v u Q I r (i _ _ _ _ hw)⟩
theorem dg_name (i : Nat) {x : Str} (hN : X.N.Nodup) (hi : X.N[i]? = some x := by rfl) (hx : Loc X.env.scope x := by first | exact Or.inl rfl | exact Or.inr rfl) (hf : X.fn x = true ∨ X.env.scope.names.lookup x = some .local := by first | exact .inl rfl | exact .inr rfl | assumption) :
    DG X (.Name x pos) [i] (bNm i) := pg_imp (pg_name hN hi hx hf) fun v σ H Q ⟨B, F0, F, e, d, e', ok, dp, hb, q⟩ => by
  cases hb
  refine q _ (ok.set dp) (by simp) fun j hj => ?_
  rw [List.getElem?_set_ne]
  intro z
  exact hj (by simp [z])
theorem dgs_nil : DGs X [] [] [] := pgs_imp pgs_nil fun v σ H Q ⟨B, F0, F, e, d, e', ok, dp, hb, q⟩ => by
  cases dp with
  | nil => cases hb; exact ⟨rfl, q _ ok rfl fun _ _ => rfl⟩
  | cons => cases hb
theorem dgs_cons {tg : Expr} {tgs : List Expr} {vs ws : List Nat} {b : BD} {bs : List BD} (h1 : DG X tg vs b) (h2 : DGs X tgs ws bs) (hs : (assignEach (tg :: tgs) X.env).map (·.2) = assign tg X.env :: (assignEach tgs X.env).map (·.2) := by rfl) : DGs X (tg :: tgs) (vs ++ ws) (b :: bs) :=
  pgs_imp (pgs_cons h1 h2 hs) fun v σ H Q ⟨B, F0, F, e, d, e', ok, dp, hb, q⟩ => by
  cases dp with
  | nil => cases hb
  | cons h hs =>
    obtain ⟨e1, h1, hb⟩ := bind1 hb
    refine ⟨_, _, rfl, B, F0, F, e, _, e1, ok, h, h1, fun σ1 ok1 l1 k1 => ⟨B, F0, F, e1, _, e', ok1, hs, hb, fun σ2 ok2 l2 k2 => q σ2 ok2 (l2.trans l1) fun j hj => ?_⟩⟩
    rw [List.mem_append, not_or] at hj
    rw [k2 j hj.2, k1 j hj.1]
theorem bAll_len : ∀ {bs : List BD} {ds : List D} {e e' : DEnv}, bAll bs ds e = some e' → bs.length = ds.length
  | [], [], _, _, _ => rfl
  | _ :: bs, _ :: ds, e, e', h => by
    obtain ⟨e1, _, h⟩ := bind1 h
    exact congrArg (· + 1) (bAll_len h)
  | [], _ :: _, _, _, h => by cases h
  | _ :: _, [], _, _, h => by cases h
theorem dg_tup {tgs : List Expr} {k : Nat} {vs : List Nat} {bs : List BD} (hc : X.calm = true) (h : DGs X tgs vs bs) (hn : (assignEach tgs X.env).length = bs.length := by rfl) (hst : (assignEach tgs X.env).findIdx? (·.1) = none := by rfl) : DG X (.Tuple tgs k pos) vs (bTp bs) :=
  pg_imp (pg_tup hc h hn hst) fun v σ H Q ⟨B, F0, F, e, d, e', ok, dp, hb, q⟩ => by
  unfold bTp at hb
  split at hb
  · obtain ⟨a, ws, rfl, s1, d1⟩ := dp_tup dp
    exact ⟨a, ws, rfl, ex_t ok.fh s1, (dpa_len d1).trans (bAll_len hb).symm, B, F0, F, e, _, e', ok, d1, hb, q⟩
  · cases hb
theorem ds_asgT {tg : Expr} {vs : List Nat} {b : BD} (he : DE X e fe) (hg : DG X tg vs b) (hs : swapsWithSole [tg] e pos.line X.env = pure false := by rfl) (hw : swappedStores [tg] e X.env = pure none := by rfl)
    (h1 : (assignEach [tg] X.env).map (·.2) = [assign tg X.env] := by rfl) : DS X (.Assign [tg] e pos) (sAsgT b fe) := ps_imp (ps_asg he hg hs hw h1) fun D σ H ⟨B, F0, F, e, r, ok, fr, q⟩ => by
  obtain ⟨d, h, fr⟩ := bind1 fr
  obtain ⟨e', hb, rfl⟩ := Option.map_eq_some_iff.mp fr
  exact ⟨B, F0, F, e, d, ok, h, fun v F' H' g dp => ⟨B, F0, F', e, d, e', ok.grow g, dp, hb, fun σ' ok' _ _ => q σ' F' H' g.ff ok'⟩⟩
theorem ds_par (i j : Nat) {x y : Str} {px py pt : Pos} {kt k2 pt2} (hc : X.calm = true) (hN : X.N.Nodup) (ha : DA X [e, e2] fa) (hi : X.N[i]? = some x := by rfl) (hj : X.N[j]? = some y := by rfl) (hij : i ≠ j := by decide)
    (hx : X.env.scope.names.lookup x = some .local := by rfl) (hy : X.env.scope.names.lookup y = some .local := by rfl) (hw : swappedStores [.Tuple [.Name x px, .Name y py] kt pt] (.Tuple [e, e2] k2 pt2) X.env = pure (some [x, y]) := by rfl)
    (hs : swapsWithSole [.Tuple [.Name x px, .Name y py] kt pt] (.Tuple [e, e2] k2 pt2) pos.line X.env = pure false := by rfl) : DS X (.Assign [.Tuple [.Name x px, .Name y py] kt pt] (.Tuple [e, e2] k2 pt2) pos) (sPar i j fa) :=
  ps_imp (ps_par hc hN hi hj hij hx hy ha hw hs) fun D σ H ⟨B, F0, F, e, r, ok, fr, q⟩ => by
  obtain ⟨ds, h, fr⟩ := bind1 fr
  split at fr
  · cases fr
    refine ⟨B, F0, F, e, _, ok, h, fun vs F' H' g dp => ?_⟩
    cases dp with
    | cons d1 d2 =>
      cases d2 with
      | cons d2 d3 =>
        cases d3
        exact ⟨_, _, rfl, q _ F' H' g.ff (((ok.grow g).set d1).set d2)⟩
  · cases fr

/-! ### loops -/
/-- J walks ds, as long as G stands -/
def Wlk (K : PySem.W.Frag) (J : It) (G F : Hp) (ds : List D) : Prop := ∀ (i : Nat) F1 H1, i ≤ ds.length → Ex F F1 → Ex F1 H1 → Ex G H1 →
  (∀ d, ds[i]? = some d → J.go i H1 ∧ ∀ x H2, J.yld i H1 x H2 → ∃ F2, Gr F1 H1 F2 H2 ∧ Dp K F2 x d) ∧ (ds[i]? = none → J.stop i H1)
def TId (K : PySem.W.Frag) (f : FA) : TI := fun σ H R => ∃ B F0 F e ds, Ok K B F0 F σ H e ∧ f e = some ds ∧ ∀ J F' H', Gr F H F' H' → Wlk K J F' F' ds → R J H'
def TIr (K : PySem.W.Frag) (f : FA) : TI := fun σ H R => ∃ B F0 F e ds, Ok K B F0 F σ H e ∧ f e = some ds ∧ ∀ J F' H', Gr F H F' H' → Wlk K J H' F' ds → R J H'
def DI (X : Cx) (tg iter : Expr) (f : FA) : Prop := PI X tg iter (TId X.K f)
def DIr (X : Cx) (tg iter : Expr) (f : FA) : Prop := PI X tg iter (TIr X.K f)
theorem pi_imp {tg iter : Expr} {t t' : TI} (h : PI X tg iter t) (i : ∀ σ H R, t' σ H R → t σ H R) : PI X tg iter t' := ⟨fun pins s σ H R I hw => h.run pins s σ H R I (i _ _ _ hw)⟩
theorem DI.r {tg iter : Expr} (h : DI X tg iter fa) : DIr X tg iter fa := pi_imp h fun σ H R ⟨B, F0, F, e, ds, ok, fe, q⟩ => ⟨B, F0, F, e, ds, ok, fe, fun J F' H' g w => q J F' H' g fun i F1 H1 hi x1 x2 x3 => w i F1 H1 hi x1 x2 (x1.trans x2)⟩
theorem ds_for {tg iter : Expr} {vs : List Nat} {b : BD} (hp : PassesOwn (model X.prog X.w) X.A X.env X.xe) (hc : X.calm = true) (hi : DI X tg iter fa) (hg : DG X tg vs b) (hb : DSs X body f) (hs : ∀ x, foldedSetIterable iter X.env x = pure x := by intro _; rfl) :
    DS X (.For tg iter body [] pos) (sFor fa b f) := ps_imp (ps_for hp hc hi hg hb hs) fun D σ H ⟨B, F0, F, e, r, ok, fr, q⟩ => by
  obtain ⟨ds, h, fr⟩ := bind1 fr
  refine ⟨B, F0, F, e, ds, ok, h, fun J F' H' g w => ?_⟩
  refine ⟨fun i m σ1 H1 => ∃ F1 e1, Ok X.K B F0 F1 σ1 H1 e1 ∧ Ex F' F1 ∧ forD b f (ds.drop i) e1 = some r ∧ m = ds.length - i ∧ i ≤ ds.length, ⟨ds.length, F', e, ok.grow g, Ex.refl _, fr, rfl, Nat.zero_le _⟩, ?_⟩
  rintro i m σ1 H1 ⟨F1, e1, ok1, x1, fr1, rfl, hi0⟩
  obtain ⟨w1, w2⟩ := w i F1 H1 hi0 x1 ok1.fh (x1.trans ok1.fh)
  cases hd : ds[i]? with
  | none =>
    have hl : ds.length ≤ i := List.getElem?_eq_none_iff.mp hd
    rw [List.drop_eq_nil_of_le hl] at fr1
    cases fr1
    exact .inl ⟨w2 hd, q σ1 F1 H1 (g.ff.trans x1) ok1⟩
  | some d =>
    have hl : i < ds.length := (List.getElem?_eq_some_iff.mp hd).1
    have hd' : ds[i] = d := (List.getElem?_eq_some_iff.mp hd).2
    rw [List.drop_eq_getElem_cons hl, hd'] at fr1
    obtain ⟨go, yl⟩ := w1 d hd
    obtain ⟨e2, hb2, fr1⟩ := bind1 fr1
    obtain ⟨r2, hr2, fr1⟩ := bind1 fr1
    refine .inr ⟨go, fun σ2 H2 => ∃ F2 e2, Ok X.K B F0 F2 σ2 H2 e2 ∧ Ex F' F2 ∧ forD b f (ds.drop (i + 1)) e2 = some r, fun σ' H' ⟨F2, e2, a1, a2, a3⟩ => ⟨ds.length - (i + 1), by omega, F2, e2, a1, a2, a3, rfl, hl⟩, fun x H2 hy => ?_⟩
    obtain ⟨F2, g2, dp⟩ := yl x H2 hy
    refine ⟨B, F0, F2, e1, d, e2, ok1.grow g2, dp, hb2, fun σ3 ok3 _ _ => ⟨B, F0, F2, e2, r2, ok3, hr2, ?_⟩⟩
    cases r2 with
    | nx e3 => exact fun σ' F'' H'' x' ok' => ⟨F'', e3, ok', (x1.trans g2.ff).trans x', fr1⟩
    | ct e3 => exact fun σ' F'' H'' x' ok' => ⟨F'', e3, ok', (x1.trans g2.ff).trans x', fr1⟩
    | bk e3 => cases fr1; exact fun σ' F'' H'' x' ok' => q σ' F'' H'' (((g.ff.trans x1).trans g2.ff).trans x') ok'
    | rt d => cases fr1; exact q
theorem ds_while {c : Expr} (μ : DEnv → Nat) (hp : PassesOwn (model X.prog X.w) X.A X.env X.xe) (hc : DT X c p) (hb : DSs X body f) : DS X (.While c body [] pos) (sWhile μ p f) := ps_imp (ps_while hp hc hb) fun D σ H ⟨B, F0, F, e, r, ok, fr, q⟩ => by
  refine ⟨fun m σ1 H1 => ∃ F1 e1, Ok X.K B F0 F1 σ1 H1 e1 ∧ Ex F F1 ∧ whileD p f m e1 = some r, ⟨μ e, F, e, ok, Ex.refl _, fr⟩, ?_⟩
  rintro m σ1 H1 ⟨F1, e1, ok1, x1, fr1⟩
  cases m with
  | zero => cases fr1
  | succ m =>
    obtain ⟨k, hk, fr1⟩ := bind1 fr1
    refine ⟨B, F0, F1, e1, k, ok1, hk, fun F2 H2 g2 => ?_⟩
    cases k with
    | false =>
      simp only [Bool.false_eq_true, if_false] at fr1 ⊢
      cases fr1
      exact q σ1 F2 H2 (x1.trans g2.ff) (ok1.grow g2)
    | true =>
      simp only [if_true] at fr1 ⊢
      obtain ⟨r2, hr2, fr1⟩ := bind1 fr1
      refine ⟨fun σ2 H2 => ∃ F2 e2, Ok X.K B F0 F2 σ2 H2 e2 ∧ Ex F F2 ∧ whileD p f m e2 = some r, fun σ' H' h => ⟨m, Nat.lt_succ_self _, h⟩, B, F0, F2, e1, r2, ok1.grow g2, hr2, ?_⟩
      cases r2 with
      | nx e3 => exact fun σ' F'' H'' x' ok' => ⟨F'', e3, ok', (x1.trans g2.ff).trans x', fr1⟩
      | ct e3 => exact fun σ' F'' H'' x' ok' => ⟨F'', e3, ok', (x1.trans g2.ff).trans x', fr1⟩
      | bk e3 => cases fr1; exact fun σ' F'' H'' x' ok' => q σ' F'' H'' ((x1.trans g2.ff).trans x') ok'
      | rt d => cases fr1; exact q
end
end DL

/-! DLay4: comprehensions, what is walked, built-ins, defs. -/
namespace DL
open PySem PySem.Spec PyProof.Rows L2 Evl

/-! ### comprehensions -/
theorem wipe_eq {σ σ' : L2.St} {vs : List Nat} (h : ∀ j, j ∉ vs → σ'[j]? = σ[j]?) (hl : σ'.length = σ.length) : wipe σ' vs = wipe σ vs := by
  apply List.ext_getElem?
  intro j
  have key : ∀ (τ : L2.St) (ws : List Nat), j ∈ ws → (wipe τ ws)[j]? = if j < τ.length then some none else none := by
    intro τ ws
    induction ws with
    | nil => intro h; simp at h
    | cons w ws ih =>
      intro hm
      unfold wipe
      by_cases hw : w = j
      · subst hw
        by_cases hlt : w < τ.length
        · rw [List.getElem?_set_self (by rw [wipe_length]; exact hlt), if_pos hlt]
        · rw [if_neg hlt, List.getElem?_eq_none]; rw [List.length_set, wipe_length]; omega
      · rw [List.getElem?_set_ne hw]
        rcases List.mem_cons.mp hm with e | e
        · exact absurd e.symm hw
        · exact ih e
  by_cases hj : j ∈ vs
  · rw [key σ' vs hj, key σ vs hj, hl]
  · rw [wipe_out hj, wipe_out hj, h j hj]
section
variable {K : PySem.W.Frag} {B F0 F F' : Hp} {σ : L2.St} {H H' : Hp} {e : DEnv}
theorem Ok.wipe (o : Ok K B F0 F σ H e) : ∀ vs : List Nat, Ok K B F0 F (L2.wipe σ vs) H (wipeE e vs)
  | [] => o
  | v :: vs => (o.wipe vs).del
end
section
variable {X : Cx} {e : Expr} {fe : FE} {fa : FA} {p : FB} {pos : Pos}
def DTs (X : Cx) (ifs : List Expr) (f : FB) : Prop := PTs X ifs (TB X.K f)
theorem dts_nil : DTs X [] yesT := ⟨fun pins s σ H Q I ⟨B, F0, F, e, b, ok, fe, q⟩ => by
  cases fe
  exact pts_nil.run pins s σ H Q I (q F H (Gr.refl ok.fh))⟩
theorem dts_one {c : Expr} (h : DT X c p) : DTs X [c] p := pts_one h
/-- the reading of a comprehension -/
theorem lc_read {K : PySem.W.Frag} {b : BD} {ws vs : List Nat} (hw : ∀ j, j ∈ ws → j ∈ vs) (σ : L2.St) (H : Hp) (Q : VK) (h : TN K (lcD fa b p fe vs) σ H Q) : tLc (TIr K fa) (TGd K ws b) (TB K p) (TD K fe) vs σ H Q := by
  obtain ⟨B, F0, F, e, xs, ok, fr, q⟩ := h
  obtain ⟨ds, hd, fr⟩ := bind1 fr
  split at fr
  · rename_i hz
    refine ⟨B, F0, F, e, ds, ok, hd, fun J Fp Hs g w D hD => ?_⟩
    refine ⟨fun i m H1 => ∃ F1 acc ys zs, Gr Fp Hs F1 H1 ∧ H1 D = some (.lst acc) ∧ F1 D = none ∧ DpAll K F1 acc ys ∧ ys.length ≤ i ∧ lcGo b p fe (wipeE e vs) (ds.drop i) = some zs ∧ xs = ys ++ zs ∧ m = ds.length - i ∧ i ≤ ds.length,
      ⟨ds.length, Fp, [], [], xs, Gr.loose g.fh hD, upd_same, fresh_back g.fh hD, .nil, Nat.le_refl _, fr, rfl, rfl, Nat.zero_le _⟩, ?_⟩
    rintro i m H1 ⟨F1, acc, ys, zs, g1, hD1, hF1, dp1, hy, fr1, rfl, rfl, hi⟩
    have ok1 := ((ok.grow g).grow g1).wipe vs
    obtain ⟨w1, w2⟩ := w i F1 H1 hi g1.ff g1.fh g1.hh
    cases hd : ds[i]? with
    | none =>
      have hl : ds.length ≤ i := List.getElem?_eq_none_iff.mp hd
      rw [List.drop_eq_nil_of_le hl] at fr1
      cases fr1
      refine .inl ⟨w2 hd, q D acc F1 H1 (g.trans g1) (fresh_back g.hh hD) hF1 hD1 ?_⟩
      rw [List.append_nil]
      exact dp1
    | some d =>
      have hl : i < ds.length := (List.getElem?_eq_some_iff.mp hd).1
      have hd' : ds[i] = d := (List.getElem?_eq_some_iff.mp hd).2
      rw [List.drop_eq_getElem_cons hl, hd'] at fr1
      obtain ⟨go, yl⟩ := w1 d hd
      obtain ⟨e2, hb2, fr1⟩ := bind1 fr1
      obtain ⟨k, hk, fr1⟩ := bind1 fr1
      refine .inr ⟨go, fun H2 => ∃ F2 acc ys zs', Gr Fp Hs F2 H2 ∧ H2 D = some (.lst acc) ∧ F2 D = none ∧ DpAll K F2 acc ys ∧ ys.length ≤ i + 1 ∧ lcGo b p fe (wipeE e vs) (ds.drop (i + 1)) = some zs' ∧ _ = ys ++ zs', fun H2 ⟨F2, acc2, ys2, zs2, a1, a2, a3, a4, a5, a6, a7⟩ => ⟨ds.length - (i + 1), by omega, F2, acc2, ys2, zs2, a1, a2, a3, a4, a5, a6, a7, rfl, hl⟩, fun x H2 hy2 => ?_⟩
      obtain ⟨F2, g2, dp⟩ := yl x H2 hy2
      refine ⟨B, F0, F2, wipeE e vs, d, e2, ok1.grow g2, dp, hb2, fun σ3 ok3 l3 k3 => ⟨?_, B, F0, F2, e2, k, ok3, hk, fun F3 H3 g3 => ?_⟩⟩
      · have e1 : wipe σ3 vs = wipe (wipe σ vs) vs := wipe_eq (fun j hj => k3 j fun z => hj (hw j z)) l3
        rw [e1]
        exact wipe_eq (fun j hj => wipe_out hj) (wipe_length _ _)
      · have g03 := (g1.trans g2).trans g3
        have hF3 : F3 D = none := by rw [(g2.trans g3).nf _ _ hD1]; exact hF1
        cases k with
        | false =>
          simp only [Bool.false_eq_true, if_false] at fr1 ⊢
          exact ⟨F3, acc, ys, zs, g03, (g2.trans g3).hh _ _ hD1, hF3, dpa_mono (g2.trans g3).ff dp1, Nat.le_succ_of_le hy, fr1, rfl⟩
        | true =>
          simp only [if_true] at fr1 ⊢
          obtain ⟨x', zs', hx', hzs', fr1⟩ := bind2 fr1
          cases fr1
          refine ⟨B, F0, F3, e2, x', ok3.grow g3, hx', fun v F4 H4 g4 dp4 => ⟨acc, ((g2.trans g3).trans g4).hh _ _ hD1, ?_, ?_⟩⟩
          · rw [dpa_len dp1]
            exact Nat.lt_of_lt_of_le (Nat.lt_of_le_of_lt hy hl) (Nat.le_trans (sml_le hz) big_line)
          · have hF4 : F4 D = none := by rw [((g2.trans g3).trans g4).nf _ _ hD1]; exact hF1
            refine ⟨F4, acc ++ [v], ys ++ [x'], zs', (g03.trans g4).mut hD hF4, upd_same, hF4, dpa_append (dpa_mono ((g2.trans g3).trans g4).ff dp1) (.cons dp4 .nil), ?_, hzs', by simp⟩
            rw [List.length_append, List.length_singleton]
            exact Nat.succ_le_succ hy
  · cases fr

variable {elt tg iter : Expr} {ifs : List Expr} {scope : Scope} {own : List (Str × Nat)} {ws : List Nat} {b : BD}
theorem dn_lc (own : List (Str × Nat)) (hc : X.calm = true) (hN : X.N.Nodup) (hi : DIr X tg iter fa) (ok : BlkOk X.N X.env.scope scope own)
    (hg : ∀ (s : Shared) (H : Hp) (C : Addr) (cl : List (Str × Addr)) (fp : List Addr), DG (X.blk s H scope (compEnvC scope cl C X.env) fp) tg ws b) (ht : ∀ (s : Shared) (H : Hp) (C : Addr) (cl : List (Str × Addr)) (fp : List Addr), DTs (X.blk s H scope (compEnvC scope cl C X.env) fp) ifs p)
    (he : ∀ (s : Shared) (H : Hp) (C : Addr) (cl : List (Str × Addr)) (fp : List Addr), DE (X.blk s H scope (compEnvC scope cl C X.env) fp) elt fe) (hw : ∀ j, j ∈ ws → j ∈ own.map (·.2) := by decide) (hs : ∀ x, foldedSetIterable iter X.env x = pure x := by intro _; rfl) :
    DN X (.ListComp elt [⟨tg, iter, ifs, 0⟩] scope pos) (lcD fa b p fe (own.map (·.2))) := pe_imp (pe_lc (g := TGd X.K ws b) (tt := TB X.K p) (te := TD X.K fe) hc hN hi ok hg ht he hs) (lc_read hw)
/-- y = [..] on one line, y a local: frozen, or a list of its own -/
theorem ds_lc (i : Nat) {y : Str} {py spos : Pos} (own : List (Str × Nat)) (hc : X.calm = true) (hN : X.N.Nodup) (hi : DIr X tg iter fa) (ok : BlkOk X.N X.env.scope scope own)
    (hg : ∀ (s : Shared) (H : Hp) (C : Addr) (cl : List (Str × Addr)) (fp : List Addr), DG (X.blk s H scope (compEnvC scope cl C X.env) fp) tg ws b) (ht : ∀ (s : Shared) (H : Hp) (C : Addr) (cl : List (Str × Addr)) (fp : List Addr), DTs (X.blk s H scope (compEnvC scope cl C X.env) fp) ifs p)
    (he : ∀ (s : Shared) (H : Hp) (C : Addr) (cl : List (Str × Addr)) (fp : List Addr), DE (X.blk s H scope (compEnvC scope cl C X.env) fp) elt fe) (hw : ∀ j, j ∈ ws → j ∈ own.map (·.2) := by decide) (hy : X.N[i]? = some y := by rfl) (hyl : X.env.scope.names.lookup y = some .local := by rfl)
    (hsw : swapsWith (.ListComp elt [⟨tg, iter, ifs, 0⟩] scope pos) (some (.Name y py)) spos.line X.env = pure true := by exact sw_true rfl rfl rfl (by decide +kernel)) (hs : ∀ x, foldedSetIterable iter X.env x = pure x := by intro _; rfl) :
    DS X (.Assign [.Name y py] (.ListComp elt [⟨tg, iter, ifs, 0⟩] scope pos) spos) (sAsg i (lstE (lcD fa b p fe (own.map (·.2))))) := ps_imp (ps_setLc (g := TGd X.K ws b) (tt := TB X.K p) (te := TD X.K fe) hc hN hy hyl hsw hi ok hg ht he hs) fun D σ H ⟨B, F0, F, e, r, okk, fr, q⟩ => by
  obtain ⟨d, h, rfl⟩ := Option.map_eq_some_iff.mp fr
  obtain ⟨xs, hx, rfl⟩ := Option.map_eq_some_iff.mp h
  refine lc_read hw _ _ _ ⟨B, F0, F, e, xs, okk, hx, fun a vs F' H' g h1 h2 h3 h4 => ?_⟩
  have x : Ex F' (upd F' a (.lst vs)) := Ex.new h2
  have g' := g.frz h1 h2 h3
  exact q _ _ H' g'.ff ((okk.grow g').set (.lst (SqL.of upd_same) (dpa_mono x h4)))
theorem ds_lcN (i : Nat) {y : Str} {py spos : Pos} (own : List (Str × Nat)) (hc : X.calm = true) (hN : X.N.Nodup) (hi : DIr X tg iter fa) (ok : BlkOk X.N X.env.scope scope own)
    (hg : ∀ (s : Shared) (H : Hp) (C : Addr) (cl : List (Str × Addr)) (fp : List Addr), DG (X.blk s H scope (compEnvC scope cl C X.env) fp) tg ws b) (ht : ∀ (s : Shared) (H : Hp) (C : Addr) (cl : List (Str × Addr)) (fp : List Addr), DTs (X.blk s H scope (compEnvC scope cl C X.env) fp) ifs p)
    (he : ∀ (s : Shared) (H : Hp) (C : Addr) (cl : List (Str × Addr)) (fp : List Addr), DE (X.blk s H scope (compEnvC scope cl C X.env) fp) elt fe) (hw : ∀ j, j ∈ ws → j ∈ own.map (·.2) := by decide) (hy : X.N[i]? = some y := by rfl) (hyl : X.env.scope.names.lookup y = some .local := by rfl)
    (hsw : swapsWith (.ListComp elt [⟨tg, iter, ifs, 0⟩] scope pos) (some (.Name y py)) spos.line X.env = pure true := by exact sw_true rfl rfl rfl (by decide +kernel)) (hs : ∀ x, foldedSetIterable iter X.env x = pure x := by intro _; rfl) :
    DS X (.Assign [.Name y py] (.ListComp elt [⟨tg, iter, ifs, 0⟩] scope pos) spos) (sNew i (lcD fa b p fe (own.map (·.2)))) := ps_imp (ps_setLc (g := TGd X.K ws b) (tt := TB X.K p) (te := TD X.K fe) hc hN hy hyl hsw hi ok hg ht he hs) fun D σ H ⟨B, F0, F, e, r, okk, fr, q⟩ => by
  obtain ⟨xs, hx, rfl⟩ := Option.map_eq_some_iff.mp fr
  exact lc_read hw _ _ _ ⟨B, F0, F, e, xs, okk, hx, fun a vs F' H' g h1 h2 h3 h4 => q _ F' H' g.ff (okk.new g h1 h2 h3 h4)⟩
end

/-! ### what is walked -/
def itemsD : D → Option (List D)
  | .list xs => some xs
  | .tuple xs => some xs
  | .str z => some (z.cps.toList.map fun c => .str ⟨#[c]⟩)
  | _ => none
def itA (f : FE) : FA := fun e => (f e).bind itemsD
def rngL (lo hi : Int) : List D := (List.range (hi - lo).toNat).map fun i : Nat => PyData.int (lo + (i : Int))
def rngOk (i : Int) : Bool := decide (-(2 ^ 62) ≤ i) && decide (i < 2 ^ 62)
def rng1D : D → Option (List D)
  | .int j => if rngOk j = true then some (rngL 0 j) else none
  | _ => none
def rng2D : D → D → Option (List D)
  | .int i, .int j => if rngOk i = true ∧ rngOk j = true then some (rngL i j) else none
  | _, _ => none
def rg1 (f : FE) : FA := fun e => (f e).bind rng1D
def rg2 (f g : FE) : FA := fun e => (f e).bind fun x => (g e).bind fun y => rng2D x y
section
variable {K : PySem.W.Frag} {G F : Hp} {a : Addr} {vs : List V} {ds : List D}
theorem wlk_list (h : SqL K G a vs) (dp : DpAll K F vs ds) : Wlk K (Itl K a) G F ds := fun i F1 H1 hi0 x1 x2 x3 => by
  have s := ex_l x3 h
  refine ⟨fun d hd => ?_, fun hd => ⟨vs, s, ?_⟩⟩
  · obtain ⟨v, hv, dv⟩ := dpa_get dp hd
    refine ⟨⟨vs, v, s, hv⟩, fun x H2 ⟨e, hy⟩ => ?_⟩
    subst e
    have : v = x := Option.some.inj (hv.symm.trans (hy vs s))
    subst this
    exact ⟨F1, Gr.refl x2, dp_mono x1 dv⟩
  · rw [dpa_len dp]; exact List.getElem?_eq_none_iff.mp hd
theorem wlk_tup (h : SqT K G a vs) (dp : DpAll K F vs ds) : Wlk K (Itt K a) G F ds := fun i F1 H1 hi0 x1 x2 x3 => by
  have s := ex_t x3 h
  refine ⟨fun d hd => ?_, fun hd => ⟨vs, s, ?_⟩⟩
  · obtain ⟨v, hv, dv⟩ := dpa_get dp hd
    refine ⟨⟨vs, v, s, hv⟩, fun x H2 ⟨e, hy⟩ => ?_⟩
    subst e
    have : v = x := Option.some.inj (hv.symm.trans (hy vs s))
    subst this
    exact ⟨F1, Gr.refl x2, dp_mono x1 dv⟩
  · rw [dpa_len dp]; exact List.getElem?_eq_none_iff.mp hd
theorem wlk_str (z : Str) : Wlk K (Its z) G F (z.cps.toList.map fun c => .str ⟨#[c]⟩) := fun i F1 H1 hi0 x1 x2 x3 => by
  refine ⟨fun d hd => ?_, fun hd => ?_⟩
  · rw [List.getElem?_map] at hd
    obtain ⟨c, hc, rfl⟩ := Option.map_eq_some_iff.mp hd
    have hc' : z.cps[i]? = some c := by simpa using hc
    refine ⟨(Array.getElem?_eq_some_iff.mp hc').1, fun x H2 ⟨e, c', hc2, hx⟩ => ?_⟩
    subst e hx
    rw [hc'] at hc2
    cases hc2
    exact ⟨F1, Gr.refl x2, .str _⟩
  · rw [List.getElem?_map] at hd
    have := Option.map_eq_none_iff.mp hd
    show z.cps.size ≤ i
    have := List.getElem?_eq_none_iff.mp this
    simpa using this
theorem wlk_rng (lo hi : Int) : Wlk K (Itr lo (hi - lo).toNat) G F (rngL lo hi) := fun i F1 H1 hi0 x1 x2 x3 => by
  unfold rngL
  refine ⟨fun d hd => ?_, fun hd => ?_⟩
  · rw [List.getElem?_map] at hd
    obtain ⟨c, hc, rfl⟩ := Option.map_eq_some_iff.mp hd
    obtain ⟨hl, he⟩ := List.getElem?_eq_some_iff.mp hc
    rw [List.length_range] at hl
    rw [List.getElem_range] at he
    subst he
    refine ⟨hl, fun x H2 ⟨e, hx⟩ => ?_⟩
    subst e hx
    exact ⟨F1, Gr.refl x2, .int _⟩
  · have := List.getElem?_eq_none_iff.mp hd
    rw [List.length_map, List.length_range] at this
    exact this
end
section
variable {X : Cx} {e e2 tg : Expr} {f g : FE} {p pos : Pos}
/-- anything that can be walked -/
theorem pi_any {te : TE} (h : PE X e te) : PI X tg e (fun σ H R => te σ H fun x H1 => (∃ a, x = .ref a ∧ (∃ xs, SqL X.K H1 a xs) ∧ R (Itl X.K a) H1) ∨ (∃ a, x = .ref a ∧ (∃ xs, SqT X.K H1 a xs) ∧ R (Itt X.K a) H1) ∨ ∃ z, x = .str z ∧ R (Its z) H1) := by
  refine ⟨fun pins s σ H R I hw => ?_⟩
  refine thn (h.run pins s σ H _ I hw) fun v s1 ⟨x, H1, I1, r1, q1⟩ => ?_
  rcases q1 with ⟨a, rfl, ⟨xs, hq⟩, q⟩ | ⟨a, rfl, ⟨xs, hq⟩, q⟩ | ⟨z, rfl, q⟩
  · cases r1
    obtain ⟨its, rv, p, hz⟩ := I1.list hq
    refine wpAny_pyIter_list p.isList ?_
    refine ⟨s1.heap.objs.size, [s1.heap.objs.size], _, _, H1, rfl, I1.kept (t' := s1.toks) fun b o e => Heap.get?_push_of_some _ e, turn_list a _, ⟨_, Heap.get?_push_size _ rfl, rfl, rfl⟩, fun b hb => ?_, q⟩
    have e : b = s1.heap.objs.size := by simpa using hb
    subst e
    exact I1.fpOk (Nat.le_refl _) (I1.hok.fresh (Nat.le_refl _))
  · cases r1
    obtain ⟨its, rv, p, hz⟩ := I1.tuple hq
    refine wpAny_pyIter_tuple (show s1.heap.IsTuple a its.toArray from p) ?_
    refine ⟨s1.heap.objs.size, [s1.heap.objs.size], _, _, H1, rfl, I1.kept (t' := s1.toks) fun b o e => Heap.get?_push_of_some _ e, turn_tuple a _, ⟨_, Heap.get?_push_size _ rfl, rfl, rfl⟩, fun b hb => ?_, q⟩
    have e : b = s1.heap.objs.size := by simpa using hb
    subst e
    exact I1.fpOk (Nat.le_refl _) (I1.hok.fresh (Nat.le_refl _))
  · obtain ⟨t, rfl⟩ := r1
    cases ha : z.cps.all (· < 128)
    · exact wpAny_pyIter_wide ha (pi_one (tk := s1.toks) I1 _ (turn_str _ z t "str_iterator" (.inr rfl)) ⟨_, Heap.get?_push_size _ rfl, rfl, rfl⟩ q)
    · exact wpAny_pyIter_ascii ha (pi_one (tk := s1.toks) I1 _ (turn_str _ z t "str_ascii_iterator" (.inl rfl)) ⟨_, Heap.get?_push_size _ rfl, rfl, rfl⟩ q)
theorem di_any (h : DE X e f) : DI X tg e (itA f) := pi_imp (pi_any h) fun σ H R ⟨B, F0, F, e, ds, ok, fe, q⟩ => by
  obtain ⟨d, hd, fe⟩ := bind1 fe
  refine ⟨B, F0, F, e, d, ok, hd, fun v F' H' g dp => ?_⟩
  unfold itemsD at fe
  split at fe
  · cases fe
    obtain ⟨a, vs, rfl, h1, h2⟩ := dp_lst dp
    exact .inl ⟨a, rfl, ⟨vs, ex_l g.fh h1⟩, q _ F' H' g (wlk_list h1 h2)⟩
  · cases fe
    obtain ⟨a, vs, rfl, h1, h2⟩ := dp_tup dp
    exact .inr (.inl ⟨a, rfl, ⟨vs, ex_t g.fh h1⟩, q _ F' H' g (wlk_tup h1 h2)⟩)
  · cases fe
    exact .inr (.inr ⟨_, dp_str dp, q _ F' H' g (wlk_str _)⟩)
  · cases fe
theorem dir_any (h : DR X e f) : DIr X tg e (itA f) := pi_imp (pi_any h) fun σ H R ⟨B, F0, F, e, ds, ok, fe, q⟩ => by
  obtain ⟨d, hd, fe⟩ := bind1 fe
  refine ⟨B, F0, F, e, d, ok, hd, fun v F' H' g dp => ?_⟩
  unfold itemsD at fe
  split at fe
  · cases fe
    obtain ⟨a, vs, rfl, h1, h2⟩ := dp.lst g.fh
    exact .inl ⟨a, rfl, ⟨vs, h1⟩, q _ F' H' g (wlk_list h1 h2)⟩
  · cases fe
    obtain ⟨a, vs, rfl, h1, h2⟩ := dp.tup g.fh
    exact .inr (.inl ⟨a, rfl, ⟨vs, h1⟩, q _ F' H' g (wlk_tup h1 h2)⟩)
  · cases fe
    exact .inr (.inr ⟨_, rs_str dp, q _ F' H' g (wlk_str _)⟩)
  · cases fe
theorem di_rng1 (hm : X.mg "range" = none) (h : DE X e f) (hg : Gl X "range" := by rfl) (hs : starEach [e] X.env = [(false, eval e X.env)] := by rfl) : DI X tg (.Call (.Name "range" p) [e] [] pos) (rg1 f) := pi_imp (pi_range1 hg hm (pa_cons h pa_nil hs) hs) fun σ H R ⟨B, F0, F, e, ds, ok, fe, q⟩ => by
  obtain ⟨d, hd, fe⟩ := bind1 fe
  refine ⟨B, F0, F, e, d, ok, hd, fun v F' H' g dp => ?_⟩
  unfold rng1D at fe
  split at fe
  · rename_i j
    split at fe
    · rename_i hz
      cases fe
      unfold rngOk at hz
      simp only [Bool.and_eq_true, decide_eq_true_eq] at hz
      refine ⟨j, by rw [dp_int dp], hz.1, hz.2, q _ F' H' g ?_⟩
      have := wlk_rng (K := X.K) (G := F') (F := F') 0 j
      simpa using this
    · cases fe
  · cases fe
theorem di_rng2 (hm : X.mg "range" = none) (h : DE X e f) (h2 : DE X e2 g) (hg : Gl X "range" := by rfl) (hs : starEach [e, e2] X.env = [(false, eval e X.env), (false, eval e2 X.env)] := by rfl) (hs2 : starEach [e2] X.env = [(false, eval e2 X.env)] := by rfl) :
    DI X tg (.Call (.Name "range" p) [e, e2] [] pos) (rg2 f g) := pi_imp (pi_range2 hg hm (pa_cons h (pa_cons h2 pa_nil hs2) (by rw [hs, hs2])) hs hs2) fun σ H R ⟨B, F0, F, e, ds, ok, fe, q⟩ => by
  obtain ⟨d, d2, hd, hd2, fe⟩ := bind2 fe
  refine ⟨B, F0, F, e, d, ok, hd, fun v F1 H1 g1 dp1 => ⟨B, F0, F1, e, d2, ok.grow g1, hd2, fun v2 F' H' g2 dp2 => ?_⟩⟩
  unfold rng2D at fe
  split at fe
  · rename_i i j
    split at fe
    · rename_i hz
      cases fe
      unfold rngOk at hz
      simp only [Bool.and_eq_true, decide_eq_true_eq] at hz
      exact ⟨i, j, by rw [dp_int dp1, dp_int dp2], ⟨hz.1.1, hz.1.2, hz.2.1, hz.2.2⟩, q _ F' H' (g1.trans g2) (wlk_rng i j)⟩
    · cases fe
  · cases fe
end
end DL

/-! DLay5: built-ins, defs. -/
namespace DL
open PySem PySem.Spec PyProof.Rows L2 Evl

def asInts : List D → Option (List Int)
  | [] => some []
  | .int n :: r => (asInts r).map (n :: ·)
  | _ :: _ => none
def asBools : List D → Option (List Bool)
  | [] => some []
  | .bool n :: r => (asBools r).map (n :: ·)
  | _ :: _ => none
def asStrs : List D → Option (List Str)
  | [] => some []
  | .str n :: r => (asStrs r).map (n :: ·)
  | _ :: _ => none
theorem asInts_map : ∀ ns : List Int, asInts (ns.map PyData.int) = some ns
  | [] => rfl
  | n :: ns => by show (asInts (ns.map PyData.int)).map _ = _; rw [asInts_map ns]; rfl
theorem asBools_map : ∀ ns : List Bool, asBools (ns.map PyData.bool) = some ns
  | [] => rfl
  | n :: ns => by show (asBools (ns.map PyData.bool)).map _ = _; rw [asBools_map ns]; rfl
theorem asStrs_map : ∀ ns : List Str, asStrs (ns.map PyData.str) = some ns
  | [] => rfl
  | n :: ns => by show (asStrs (ns.map PyData.str)).map _ = _; rw [asStrs_map ns]; rfl
theorem asInts_of : ∀ {ds : List D} {ns : List Int}, asInts ds = some ns → ds = ns.map PyData.int
  | [], ns, h => by cases h; rfl
  | .int n :: r, ns, h => by
    obtain ⟨ms, e, rfl⟩ := Option.map_eq_some_iff.mp h
    rw [asInts_of e]; rfl
  | .none :: _, _, h => by cases h
  | .bool _ :: _, _, h => by cases h
  | .str _ :: _, _, h => by cases h
  | .list _ :: _, _, h => by cases h
  | .tuple _ :: _, _, h => by cases h
  | .dict _ :: _, _, h => by cases h
theorem asBools_of : ∀ {ds : List D} {ns : List Bool}, asBools ds = some ns → ds = ns.map PyData.bool
  | [], ns, h => by cases h; rfl
  | .bool n :: r, ns, h => by
    obtain ⟨ms, e, rfl⟩ := Option.map_eq_some_iff.mp h
    rw [asBools_of e]; rfl
  | .none :: _, _, h => by cases h
  | .int _ :: _, _, h => by cases h
  | .str _ :: _, _, h => by cases h
  | .list _ :: _, _, h => by cases h
  | .tuple _ :: _, _, h => by cases h
  | .dict _ :: _, _, h => by cases h
theorem asStrs_of : ∀ {ds : List D} {ns : List Str}, asStrs ds = some ns → ds = ns.map PyData.str
  | [], ns, h => by cases h; rfl
  | .str n :: r, ns, h => by
    obtain ⟨ms, e, rfl⟩ := Option.map_eq_some_iff.mp h
    rw [asStrs_of e]; rfl
  | .none :: _, _, h => by cases h
  | .int _ :: _, _, h => by cases h
  | .bool _ :: _, _, h => by cases h
  | .list _ :: _, _, h => by cases h
  | .tuple _ :: _, _, h => by cases h
  | .dict _ :: _, _, h => by cases h

def lenD : D → Option D
  | .list xs => some (.int xs.length)
  | .tuple xs => some (.int xs.length)
  | .str z => if sml z.length = true then some (.int z.length) else none
  | _ => none
def sumD : D → Option D
  | .list xs => (asInts xs).map fun ns => .int ns.sum
  | .tuple xs => (asInts xs).map fun ns => .int ns.sum
  | _ => none
def maxD : D → Option D
  | .list xs => (asInts xs).bind fun ns => ns.max?.map PyData.int
  | _ => none
def minD : D → Option D
  | .list xs => (asInts xs).bind fun ns => ns.min?.map PyData.int
  | _ => none
def anyD : D → Option D
  | .list xs => (asBools xs).map fun ns => .bool (ns.any id)
  | _ => none
def allD : D → Option D
  | .list xs => (asBools xs).map fun ns => .bool (ns.all id)
  | _ => none
def tupleD : D → Option D
  | .list xs => some (.tuple xs)
  | .tuple xs => some (.tuple xs)
  | _ => none
def absD : D → Option D
  | .int i => some (.int (if i < 0 then -i else i))
  | _ => none
def max2D : D → D → Option D
  | .int i, .int j => some (.int (if j > i then j else i))
  | _, _ => none
def min2D : D → D → Option D
  | .int i, .int j => some (.int (if j < i then j else i))
  | _, _ => none
def intD : D → Option D
  | .int i => some (.int i)
  | .bool b => some (.int (if b then 1 else 0))
  | _ => none
def strD : D → Option D
  | .int i => if i.natAbs < 2 ^ 1000 then some (.str (toString i)) else none
  | .none => some (.str "None")
  | .bool b => some (.str (if b then "True" else "False"))
  | _ => none
inductive Ty | int | bool | str | tuple | list
def isiD : Ty → D → Option D
  | .int, .int _ => some (.bool true)
  | .int, .bool _ => some (.bool true)
  | .bool, .bool _ => some (.bool true)
  | .str, .str _ => some (.bool true)
  | .tuple, .tuple _ => some (.bool true)
  | .list, .list _ => some (.bool true)
  | _, .dict _ => none
  | _, _ => some (.bool false)
def Ty.nm : Ty → String
  | .int => "int" | .bool => "bool" | .str => "str" | .tuple => "tuple" | .list => "list"

section
variable {X : Cx} {e e2 : Expr} {es : List Expr} {f g : FE} {fa : FA} {x : Str} {p pos : Pos}
def CD1 (K : PySem.W.Frag) (r : List V → Hp → VK → Prop) (g : D → Option D) : Prop := ∀ F H x a d Q, Ex F H → Rs K F H x a → g a = some d → Kn K F H d Q → r [x] H Q
def CD2 (K : PySem.W.Frag) (r : List V → Hp → VK → Prop) (g : D → D → Option D) : Prop := ∀ F H x y a b d Q, Ex F H → Rs K F H x a → Rs K F H y b → g a b = some d → Kn K F H d Q → r [x, y] H Q
theorem cd1_read {r : List V → Hp → VK → Prop} {G : D → Option D} (hd : CD1 X.K r G) (σ : L2.St) (H : Hp) (Q : VK) (h : TD X.K (c1 G f) σ H Q) : tCB r (tCons (TR X.K f) tNil) σ H Q := by
  obtain ⟨B, F0, F, e, d, ok, fe, q⟩ := h
  obtain ⟨x, hx, fe⟩ := bind1 fe
  exact ⟨B, F0, F, e, x, ok, hx, fun v F1 H1 g1 r1 => hd F1 H1 v x d Q g1.fh r1 fe fun w F' H' g3 dp => q w F' H' (g1.trans g3) dp⟩
theorem cd2_read {r : List V → Hp → VK → Prop} {G : D → D → Option D} (hd : CD2 X.K r G) (σ : L2.St) (H : Hp) (Q : VK) (h : TD X.K (c2 G f g) σ H Q) : tCB r (tCons (TR X.K f) (tCons (TR X.K g) tNil)) σ H Q := by
  obtain ⟨B, F0, F, e, d, ok, fe, q⟩ := h
  obtain ⟨x, y, hx, hy, fe⟩ := bind2 fe
  refine ⟨B, F0, F, e, x, ok, hx, fun v F1 H1 g1 r1 => ⟨B, F0, F1, e, y, ok.grow g1, hy, fun u F2 H2 g2 r2 => ?_⟩⟩
  exact hd F2 H2 v u x y d Q g2.fh (r1.grow g2) r2 fe fun w F' H' g3 dp => q w F' H' ((g1.trans g2).trans g3) dp
theorem de_b1 {id : String} {r : List V → Hp → VK → Prop} {G : D → Option D} (hc : CallR X (.builtin id) r) (hd : CD1 X.K r G) (hv : bootBuiltins x = some (.builtin id)) (hm : X.mg x = none) (h : DR X e f) (hg : Gl X x) (hn : x ≠ "__name__") (hdb : (x == ("__debug__" : Str)) = false)
    (hs : starEach [e] X.env = (false, eval e X.env) :: starEach [] X.env) : DE X (.Call (.Name x p) [e] [] pos) (c1 G f) := pe_imp (pe_callB hc hg hm hv (pa_cons h pa_nil hs) hn hdb hs rfl) (cd1_read hd)
theorem de_t1 {T : String} {r : List V → Hp → VK → Prop} {G : D → Option D} (hc : CallR X (.type T) r) (hd : CD1 X.K r G) (hv : bootBuiltins x = some (.type T)) (hm : X.mg x = none) (h : DR X e f) (hg : Gl X x) (hn : x ≠ "__name__") (hdb : (x == ("__debug__" : Str)) = false)
    (hs : starEach [e] X.env = (false, eval e X.env) :: starEach [] X.env) : DE X (.Call (.Name x p) [e] [] pos) (c1 G f) := pe_imp (pe_callTy hc hg hm hv (pa_cons h pa_nil hs) hn hdb hs rfl) (cd1_read hd)
theorem de_b2 {id : String} {r : List V → Hp → VK → Prop} {G : D → D → Option D} (hc : CallR X (.builtin id) r) (hd : CD2 X.K r G) (hv : bootBuiltins x = some (.builtin id)) (hm : X.mg x = none) (h : DR X e f) (h2 : DR X e2 g) (hg : Gl X x) (hn : x ≠ "__name__") (hdb : (x == ("__debug__" : Str)) = false)
    (hs : starEach [e, e2] X.env = (false, eval e X.env) :: starEach [e2] X.env) (hs2 : starEach [e2] X.env = (false, eval e2 X.env) :: starEach [] X.env) (hpl : (backTo pos (starEach [e2] X.env)).any (·.1) = false) : DE X (.Call (.Name x p) [e, e2] [] pos) (c2 G f g) :=
  pe_imp (pe_callB hc hg hm hv (pa_cons h (pa_cons h2 pa_nil hs2) hs) hn hdb hs hpl) (cd2_read hd)

theorem cd_len {K : PySem.W.Frag} : CD1 K (fun xs H Q => ∃ x n, xs = [x] ∧ LenV K x H n ∧ Q (.int n) H) lenD := by
  intro F H x a d Q xf ha hg q
  unfold lenD at hg
  split at hg
  · cases hg
    obtain ⟨p, vs, rfl, h1, h2⟩ := ha.lst xf
    exact ⟨_, _, rfl, .inl ⟨vs, h1, rfl⟩, by rw [dpa_len h2]; exact q.now xf (.int _)⟩
  · cases hg
    obtain ⟨p, vs, rfl, h1, h2⟩ := ha.tup xf
    exact ⟨_, _, rfl, .inr ⟨vs, h1, rfl⟩, by rw [dpa_len h2]; exact q.now xf (.int _)⟩
  · split at hg
    · rename_i hz
      cases hg
      rw [rs_str ha]
      exact ⟨_, _, rfl, ⟨Nat.le_trans (sml_le hz) big_line, rfl⟩, q.now xf (.int _)⟩
    · cases hg
  · cases hg
theorem sumT_raw {prog : Program} {w : World} {A : Around} {E : Value → Shared → Prop} {s : Shared} {l : Addr} {its : List Value} {ns : List Int} {Q : Value → Shared → Prop} (hh : A.handled = none) (hl : s.heap.IsTuple l its.toArray) (hi : IntsAre its ns)
    (h : ∀ h' tk t', (∀ b o, s.heap.get? b = some o → h'.get? b = some o) → Q (.int ns.sum t') { s with heap := h', toks := tk }) : wpAny (model prog w) A (call (.builtin "sum") [.ref l]) Q E s := by
  obtain ⟨xs, e⟩ := hi.allInts.items
  have hn : numsOf (intItems xs).toList = ns := by rw [← e]; exact hi.numsOf
  rw [nums_intItems] at hn
  rw [e] at hl
  have hlt : l < s.heap.objs.size := by obtain ⟨_, e, _⟩ := hl; exact Heap.lt_size e
  refine call_sum_walkG (wpAny_pyIter_tuple hl ?_)
  refine ⟨s.heap.objs.size, [s.heap.objs.size, l], [s.heap.objs.size], _, _, _, numAt xs, rfl, Walks.tuple (A := A.in1) hh _ l (Nat.ne_of_lt hlt) (intItems xs), ⟨⟨_, Heap.get?_push_size _ rfl, rfl, rfl⟩, hl.at fun o e => Heap.get?_push_of_some _ e⟩, fun b hb => ?_, (fun _ _ => intItems_at), fun h' tk t' hk => ?_⟩
  · show b < (s.heap.push _).objs.size
    rw [Heap.size_push]
    rcases List.mem_cons.mp hb with rfl | hb
    · exact Nat.lt_succ_self _
    · rcases List.mem_cons.mp hb with rfl | hb
      · exact Nat.lt_succ_of_lt hlt
      · cases hb
  · have hk' : ∀ b o, s.heap.get? b = some o → h'.get? b = some o := fun b o e => by
      refine hk b o (fun hm => ?_) (Heap.get?_push_of_some _ e)
      rcases List.mem_cons.mp hm with e1 | hm
      · exact absurd (e1 ▸ Heap.lt_size e) (Nat.lt_irrefl _)
      · cases hm
    have := h h' tk t' hk'
    have e2 : (intItems xs).size = xs.size := by simp [intItems]
    rw [e2, preSum_eq, List.take_of_length_le (by simp), hn]
    exact this
def rSumA (K : PySem.W.Frag) : List V → Hp → VK → Prop := fun vs H Q => rSum K vs H Q ∨ ∃ (a : Addr) (ns : List Int), vs = [V.ref a] ∧ SqT K H a (ns.map V.int) ∧ Q (.int ns.sum) H
theorem cr_sumA {X : Cx} (hc : X.calm = true) : CallR X (.builtin "sum") (rSumA X.K) := by
  intro pins s σ H vs us Q I r h
  rcases h with h | h
  · exact cr_sum hc pins s σ H vs us Q I r h
  · obtain ⟨a, ns, rfl, hs, q⟩ := h
    obtain ⟨its, rv, hl, _⟩ := I.tuple hs
    rw [Vals.ref1 r]
    exact sumT_raw (I.ok.hd hc) hl rv.ints fun h' tk t' hk => ⟨.int _, H, I.kept hk, ⟨_, rfl⟩, q⟩
theorem cd_sum {K : PySem.W.Frag} : CD1 K (rSumA K) sumD := by
  intro F H x a d Q xf ha hg q
  unfold sumD at hg
  split at hg
  · obtain ⟨ns, e, rfl⟩ := Option.map_eq_some_iff.mp hg
    obtain ⟨p, vs, rfl, h1, h2⟩ := ha.lst xf
    rw [asInts_of e] at h2
    have := dpa_map_int h2
    subst this
    exact .inl ⟨p, ns, rfl, h1, q.now xf (.int _)⟩
  · obtain ⟨ns, e, rfl⟩ := Option.map_eq_some_iff.mp hg
    obtain ⟨p, vs, rfl, h1, h2⟩ := ha.tup xf
    rw [asInts_of e] at h2
    have := dpa_map_int h2
    subst this
    exact .inr ⟨p, ns, rfl, h1, q.now xf (.int _)⟩
  · cases hg
theorem cd_max {K : PySem.W.Frag} : CD1 K (rMax K) maxD := by
  intro F H x a d Q xf ha hg q
  unfold maxD at hg
  split at hg
  · obtain ⟨ns, e, hg⟩ := bind1 hg
    obtain ⟨M, hM, rfl⟩ := Option.map_eq_some_iff.mp hg
    obtain ⟨p, vs, rfl, h1, h2⟩ := ha.lst xf
    rw [asInts_of e] at h2
    have := dpa_map_int h2
    subst this
    have hM' := List.max?_eq_some_iff.mp hM
    refine ⟨p, ns, rfl, h1, List.length_pos_of_mem hM'.1, fun m hm hle => ?_⟩
    have : m = M := Int.le_antisymm (hM'.2 m hm) (hle M hM'.1)
    subst this
    exact q.now xf (.int _)
  · cases hg
theorem cd_min {K : PySem.W.Frag} : CD1 K (rMin K) minD := by
  intro F H x a d Q xf ha hg q
  unfold minD at hg
  split at hg
  · obtain ⟨ns, e, hg⟩ := bind1 hg
    obtain ⟨M, hM, rfl⟩ := Option.map_eq_some_iff.mp hg
    obtain ⟨p, vs, rfl, h1, h2⟩ := ha.lst xf
    rw [asInts_of e] at h2
    have := dpa_map_int h2
    subst this
    have hM' := List.min?_eq_some_iff.mp hM
    refine ⟨p, ns, rfl, h1, List.length_pos_of_mem hM'.1, fun m hm hle => ?_⟩
    have : m = M := Int.le_antisymm (hle M hM'.1) (hM'.2 m hm)
    subst this
    exact q.now xf (.int _)
  · cases hg
theorem cd_any {K : PySem.W.Frag} : CD1 K (rAny K) anyD := by
  intro F H x a d Q xf ha hg q
  unfold anyD at hg
  split at hg
  · obtain ⟨ns, e, rfl⟩ := Option.map_eq_some_iff.mp hg
    obtain ⟨p, vs, rfl, h1, h2⟩ := ha.lst xf
    rw [asBools_of e] at h2
    have := dpa_map_bl h2
    subst this
    exact ⟨p, ns, rfl, h1, q.now xf (.bl _)⟩
  · cases hg
theorem cd_all {K : PySem.W.Frag} : CD1 K (rAll K) allD := by
  intro F H x a d Q xf ha hg q
  unfold allD at hg
  split at hg
  · obtain ⟨ns, e, rfl⟩ := Option.map_eq_some_iff.mp hg
    obtain ⟨p, vs, rfl, h1, h2⟩ := ha.lst xf
    rw [asBools_of e] at h2
    have := dpa_map_bl h2
    subst this
    exact ⟨p, ns, rfl, h1, q.now xf (.bl _)⟩
  · cases hg
theorem cd_tuple {K : PySem.W.Frag} : CD1 K (fun xs H Q => ∃ p ys, xs = [.ref p] ∧ ((SqL K H p ys ∧ ∀ l, H l = none → Q (.ref l) (upd H l (.tup ys))) ∨ (SqT K H p ys ∧ Q (.ref p) H))) tupleD := by
  intro F H x a d Q xf ha hg q
  unfold tupleD at hg
  split at hg
  · cases hg
    obtain ⟨p, vs, rfl, h1, h2⟩ := ha.lst xf
    exact ⟨p, vs, rfl, .inl ⟨h1, fun l hl => q.tupN xf h2 hl⟩⟩
  · cases hg
    have ha' := rs_tupF ha
    obtain ⟨p, vs, rfl, h1, h2⟩ := dp_tup ha'
    exact ⟨p, vs, rfl, .inr ⟨ex_t xf h1, q.now xf ha'⟩⟩
  · cases hg
theorem cd_abs {K : PySem.W.Frag} : CD1 K (fun xs H Q => ∃ i, xs = [.int i] ∧ Q (.int (if i < 0 then -i else i)) H) absD := by
  intro F H x a d Q xf ha hg q
  unfold absD at hg
  split at hg
  · cases hg
    rw [rs_int ha]
    exact ⟨_, rfl, q.now xf (.int _)⟩
  · cases hg
theorem cd_max2 {K : PySem.W.Frag} : CD2 K (fun xs H Q => ∃ i j, xs = [.int i, .int j] ∧ Q (.int (if j > i then j else i)) H) max2D := by
  intro F H x y a b d Q xf ha hb hg q
  unfold max2D at hg
  split at hg
  · cases hg
    rw [rs_int ha, rs_int hb]
    exact ⟨_, _, rfl, q.now xf (.int _)⟩
  · cases hg
theorem cd_min2 {K : PySem.W.Frag} : CD2 K (fun xs H Q => ∃ i j, xs = [.int i, .int j] ∧ Q (.int (if j < i then j else i)) H) min2D := by
  intro F H x y a b d Q xf ha hb hg q
  unfold min2D at hg
  split at hg
  · cases hg
    rw [rs_int ha, rs_int hb]
    exact ⟨_, _, rfl, q.now xf (.int _)⟩
  · cases hg
theorem cd_int {K : PySem.W.Frag} : CD1 K (fun xs H Q => (∃ i, xs = [.int i] ∧ Q (.int i) H) ∨ ∃ k, xs = [.bl k] ∧ Q (.int (if k then 1 else 0)) H) intD := by
  intro F H x a d Q xf ha hg q
  unfold intD at hg
  split at hg
  · cases hg
    rw [rs_int ha]
    exact .inl ⟨_, rfl, q.now xf (.int _)⟩
  · cases hg
    rw [rs_bl ha]
    exact .inr ⟨_, rfl, q.now xf (.int _)⟩
  · cases hg
def rStrA : List V → Hp → VK → Prop := fun xs H Q => (∃ i, xs = [.int i] ∧ i.natAbs.log2 < 1920 ∧ Q (.str (toString i)) H) ∨ (xs = [.non] ∧ Q (.str "None") H) ∨ ∃ b, xs = [.bl b] ∧ Q (.str (if b then "True" else "False")) H
theorem call_strA {X : Cx} : CallR X (.type "str") rStrA := by
  intro pins s σ H xs us Q I r h
  rcases h with h | ⟨rfl, q⟩ | ⟨b, rfl, q⟩
  · exact call_str_int pins s σ H xs us Q I r h
  · obtain ⟨u, rfl, r1⟩ := vals1 r
    cases r1
    exact PySem.P.str_of_none ⟨.str "None", H, I.tok _, ⟨_, rfl⟩, q⟩
  · obtain ⟨u, rfl, r1⟩ := vals1 r
    cases r1
    refine PySem.P.str_of_bool ⟨.str (if b then "True" else "False"), H, I.tok _, ⟨s.toks, ?_⟩, q⟩
    cases b <;> rfl
theorem cd_str {K : PySem.W.Frag} : CD1 K rStrA strD := by
  intro F H x a d Q xf ha hg q
  unfold strD at hg
  split at hg
  · split at hg
    · rename_i hz
      cases hg
      rw [rs_int ha]
      exact .inl ⟨_, rfl, Nat.lt_trans (PySem.Flt.log2_lt_of (by decide) hz) (by decide), q.now xf (.str _)⟩
    · cases hg
  · cases hg
    have hn : x = .non := by
      rcases ha with h | ⟨_, _, _, _, h, _⟩
      · exact dp_non h
      · cases h
    rw [hn]
    exact .inr (.inl ⟨rfl, q.now xf (.str _)⟩)
  · cases hg
    rw [rs_bl ha]
    exact .inr (.inr ⟨_, rfl, q.now xf (.str _)⟩)
  · cases hg

theorem de_len (hm : X.mg "len" = none) (h : DR X e f) (hg : Gl X "len" := by rfl) (hs : starEach [e] X.env = (false, eval e X.env) :: starEach [] X.env := by rfl) : DE X (.Call (.Name "len" p) [e] [] pos) (c1 lenD f) := de_b1 call_len cd_len PySem.boot_len hm h hg (by decide) (by decide) hs
theorem de_sum (hc : X.calm = true) (hm : X.mg "sum" = none) (h : DR X e f) (hg : Gl X "sum" := by rfl) (hs : starEach [e] X.env = (false, eval e X.env) :: starEach [] X.env := by rfl) : DE X (.Call (.Name "sum" p) [e] [] pos) (c1 sumD f) := de_b1 (cr_sumA hc) cd_sum (by decide +kernel) hm h hg (by decide) (by decide) hs
theorem de_max (hc : X.calm = true) (hm : X.mg "max" = none) (h : DR X e f) (hg : Gl X "max" := by rfl) (hs : starEach [e] X.env = (false, eval e X.env) :: starEach [] X.env := by rfl) : DE X (.Call (.Name "max" p) [e] [] pos) (c1 maxD f) := de_b1 (cr_max hc) cd_max (by decide +kernel) hm h hg (by decide) (by decide) hs
theorem de_min (hc : X.calm = true) (hm : X.mg "min" = none) (h : DR X e f) (hg : Gl X "min" := by rfl) (hs : starEach [e] X.env = (false, eval e X.env) :: starEach [] X.env := by rfl) : DE X (.Call (.Name "min" p) [e] [] pos) (c1 minD f) := de_b1 (cr_min hc) cd_min (by decide +kernel) hm h hg (by decide) (by decide) hs
theorem de_any (hc : X.calm = true) (hm : X.mg "any" = none) (h : DR X e f) (hg : Gl X "any" := by rfl) (hs : starEach [e] X.env = (false, eval e X.env) :: starEach [] X.env := by rfl) : DE X (.Call (.Name "any" p) [e] [] pos) (c1 anyD f) := de_b1 (cr_any hc) cd_any (by decide +kernel) hm h hg (by decide) (by decide) hs
theorem de_all (hc : X.calm = true) (hm : X.mg "all" = none) (h : DR X e f) (hg : Gl X "all" := by rfl) (hs : starEach [e] X.env = (false, eval e X.env) :: starEach [] X.env := by rfl) : DE X (.Call (.Name "all" p) [e] [] pos) (c1 allD f) := de_b1 (cr_all hc) cd_all (by decide +kernel) hm h hg (by decide) (by decide) hs
theorem de_abs (hm : X.mg "abs" = none) (h : DR X e f) (hg : Gl X "abs" := by rfl) (hs : starEach [e] X.env = (false, eval e X.env) :: starEach [] X.env := by rfl) : DE X (.Call (.Name "abs" p) [e] [] pos) (c1 absD f) := de_b1 call_abs cd_abs (by decide +kernel) hm h hg (by decide) (by decide) hs
theorem de_tuple (hm : X.mg "tuple" = none) (h : DR X e f) (hg : Gl X "tuple" := by rfl) (hs : starEach [e] X.env = (false, eval e X.env) :: starEach [] X.env := by rfl) : DE X (.Call (.Name "tuple" p) [e] [] pos) (c1 tupleD f) := de_t1 call_tuple_of cd_tuple (by decide +kernel) hm h hg (by decide) (by decide) hs
theorem de_toint (hm : X.mg "int" = none) (h : DR X e f) (hg : Gl X "int" := by rfl) (hs : starEach [e] X.env = (false, eval e X.env) :: starEach [] X.env := by rfl) : DE X (.Call (.Name "int" p) [e] [] pos) (c1 intD f) := de_t1 call_int1 cd_int (by decide +kernel) hm h hg (by decide) (by decide) hs
theorem de_tostr (hm : X.mg "str" = none) (h : DR X e f) (hg : Gl X "str" := by rfl) (hs : starEach [e] X.env = (false, eval e X.env) :: starEach [] X.env := by rfl) : DE X (.Call (.Name "str" p) [e] [] pos) (c1 strD f) := de_t1 call_strA cd_str (by decide +kernel) hm h hg (by decide) (by decide) hs
theorem de_max2 (hc : X.calm = true) (hm : X.mg "max" = none) (h : DR X e f) (h2 : DR X e2 g) (hg : Gl X "max" := by rfl) (hs : starEach [e, e2] X.env = (false, eval e X.env) :: starEach [e2] X.env := by rfl) (hs2 : starEach [e2] X.env = (false, eval e2 X.env) :: starEach [] X.env := by rfl) (hpl : (backTo pos (starEach [e2] X.env)).any (·.1) = false := by rfl) :
    DE X (.Call (.Name "max" p) [e, e2] [] pos) (c2 max2D f g) := de_b2 (call_max2 hc) cd_max2 (by decide +kernel) hm h h2 hg (by decide) (by decide) hs hs2 hpl
theorem de_min2 (hc : X.calm = true) (hm : X.mg "min" = none) (h : DR X e f) (h2 : DR X e2 g) (hg : Gl X "min" := by rfl) (hs : starEach [e, e2] X.env = (false, eval e X.env) :: starEach [e2] X.env := by rfl) (hs2 : starEach [e2] X.env = (false, eval e2 X.env) :: starEach [] X.env := by rfl) (hpl : (backTo pos (starEach [e2] X.env)).any (·.1) = false := by rfl) :
    DE X (.Call (.Name "min" p) [e, e2] [] pos) (c2 min2D f g) := de_b2 (call_min2 hc) cd_min2 (by decide +kernel) hm h h2 hg (by decide) (by decide) hs hs2 hpl
/-- list(..): a new list -/
def seqA (f : FE) : FA := fun e => (f e).bind seqOf
theorem dn_list (hm : X.mg "list" = none) (h : DR X e f) (hg : Gl X "list" := by rfl) (hs : starEach [e] X.env = (false, eval e X.env) :: starEach [] X.env := by rfl) : DN X (.Call (.Name "list" p) [e] [] pos) (seqA f) :=
  pe_imp (pe_callTy call_list_of hg hm (by decide +kernel) (pa_cons h pa_nil hs) (by decide) (by decide) hs rfl) fun σ H Q ⟨B, F0, F, e, xs, ok, fe, q⟩ => by
  obtain ⟨d, hd, fe⟩ := bind1 fe
  refine ⟨B, F0, F, e, d, ok, hd, fun v F' H' g dp => ?_⟩
  unfold seqOf at fe
  split at fe
  · cases fe
    obtain ⟨a, vs, rfl, h1, h2⟩ := dp.lst g.fh
    exact ⟨a, vs, rfl, .inl h1, fun l hl => q l vs F' _ (g.trans (Gr.loose g.fh hl)) (fresh_back g.hh hl) (fresh_back g.fh hl) upd_same h2⟩
  · cases fe
    obtain ⟨a, vs, rfl, h1, h2⟩ := dp.tup g.fh
    exact ⟨a, vs, rfl, .inr h1, fun l hl => q l vs F' _ (g.trans (Gr.loose g.fh hl)) (fresh_back g.hh hl) (fresh_back g.fh hl) upd_same h2⟩
  · cases fe
/-- list(range(..)), tuple(range(..)) -/
def rgSmall (i : Int) : Bool := decide (0 ≤ i) && decide (i ≤ 100000)
def rgS1 : D → Option (List D)
  | .int j => if rgSmall j = true then some (rngL 0 j) else none
  | _ => none
def rgS2 : D → D → Option (List D)
  | .int i, .int j => if rgSmall i = true ∧ rgSmall j = true then some (rngL i j) else none
  | _, _ => none
theorem rgSmall_ok {i j : Int} (h : rgSmall i = true) (h2 : rgSmall j = true) : RgOk i j := by
  unfold rgSmall at h h2
  simp only [Bool.and_eq_true, decide_eq_true_eq] at h h2
  have : big = 100000 := rfl
  exact RgOk.of_le h.1 (by omega) (by omega) h2.1
theorem dpa_rng {K : PySem.W.Frag} {F : Hp} (i j : Int) : DpAll K F (rgV i j) (rngL i j) := by
  have : rgV i j = ((List.range (j - i).toNat).map fun k : Nat => i + (k : Int)).map V.int := by unfold rgV; rw [List.map_map]; rfl
  rw [this]
  have e : rngL i j = ((List.range (j - i).toNat).map fun k : Nat => i + (k : Int)).map PyData.int := by unfold rngL; rw [List.map_map]; rfl
  rw [e]
  exact dpa_ints _
def lr1 (f : FE) : FA := fun e => (f e).bind rgS1
def lr2 (f g : FE) : FA := fun e => (f e).bind fun x => (g e).bind fun y => rgS2 x y
theorem dn_listRg {p2 pos2 : Pos} (hc : X.calm = true) (hm : X.mg "list" = none) (hm2 : X.mg "range" = none) (h : DE X e f) (hg : Gl X "list" := by rfl) (hg2 : Gl X "range" := by rfl) (hs : starEach [e] X.env = (false, eval e X.env) :: starEach [] X.env := by rfl)
    (na : starEach [.Call (.Name "range" p2) [e] [] pos2] X.env = (false, eval (.Call (.Name "range" p2) [e] [] pos2) X.env) :: starEach [] X.env := by rfl) : DN X (.Call (.Name "list" p) [.Call (.Name "range" p2) [e] [] pos2] [] pos) (lr1 f) :=
  pe_imp (pe_listRg hc hg hm (prg_1 hg2 hm2 h hs) na) fun σ H Q ⟨B, F0, F, e, xs, ok, fe, q⟩ => by
  obtain ⟨d, hd, fe⟩ := bind1 fe
  refine ⟨B, F0, F, e, d, ok, hd, fun v F' H' g dp => ?_⟩
  unfold rgS1 at fe
  split at fe
  · split at fe
    · rename_i hz
      cases fe
      exact ⟨_, dp_int dp, rgSmall_ok (by decide) hz, fun l hl => q l _ F' _ (g.trans (Gr.loose g.fh hl)) (fresh_back g.hh hl) (fresh_back g.fh hl) upd_same (dpa_rng _ _)⟩
    · cases fe
  · cases fe
theorem de_tupRg1 {p2 pos2 : Pos} (hc : X.calm = true) (hm : X.mg "tuple" = none) (hm2 : X.mg "range" = none) (h : DE X e f) (hg : Gl X "tuple" := by rfl) (hg2 : Gl X "range" := by rfl) (hs : starEach [e] X.env = (false, eval e X.env) :: starEach [] X.env := by rfl)
    (na : starEach [.Call (.Name "range" p2) [e] [] pos2] X.env = (false, eval (.Call (.Name "range" p2) [e] [] pos2) X.env) :: starEach [] X.env := by rfl) : DE X (.Call (.Name "tuple" p) [.Call (.Name "range" p2) [e] [] pos2] [] pos) (tup (lr1 f)) :=
  pe_imp (pe_tupRg hc hg hm (prg_1 hg2 hm2 h hs) na) fun σ H Q ⟨B, F0, F, e, d, ok, fe, q⟩ => by
  obtain ⟨xs, fe1, rfl⟩ := Option.map_eq_some_iff.mp fe
  clear fe
  obtain ⟨d, hd, fe⟩ := bind1 fe1
  refine ⟨B, F0, F, e, d, ok, hd, fun v F' H' g dp => ?_⟩
  unfold rgS1 at fe
  split at fe
  · split at fe
    · rename_i hz
      cases fe
      exact ⟨_, dp_int dp, rgSmall_ok (by decide) hz, fun l hl => Kn.tupN (K := X.K) (fun v F' H' g2 dp => q v F' H' (g.trans g2) dp) g.fh (dpa_rng _ _) hl⟩
    · cases fe
  · cases fe
theorem de_tupRg2 {p2 pos2 : Pos} (hc : X.calm = true) (hm : X.mg "tuple" = none) (hm2 : X.mg "range" = none) (h : DE X e f) (h2 : DE X e2 g) (hg : Gl X "tuple" := by rfl) (hg2 : Gl X "range" := by rfl)
    (hs : starEach [e, e2] X.env = (false, eval e X.env) :: starEach [e2] X.env := by rfl) (hs2 : starEach [e2] X.env = (false, eval e2 X.env) :: starEach [] X.env := by rfl) (hpl : (backTo pos2 (starEach [e2] X.env)).any (·.1) = false := by rfl)
    (na : starEach [.Call (.Name "range" p2) [e, e2] [] pos2] X.env = (false, eval (.Call (.Name "range" p2) [e, e2] [] pos2) X.env) :: starEach [] X.env := by rfl) : DE X (.Call (.Name "tuple" p) [.Call (.Name "range" p2) [e, e2] [] pos2] [] pos) (tup (lr2 f g)) :=
  pe_imp (pe_tupRg hc hg hm (prg_2 hg2 hm2 h h2 hs hs2 hpl) na) fun σ H Q ⟨B, F0, F, e, d, ok, fe, q⟩ => by
  obtain ⟨xs, fe1, rfl⟩ := Option.map_eq_some_iff.mp fe
  clear fe
  obtain ⟨d, d2, hd, hd2, fe⟩ := bind2 fe1
  refine ⟨B, F0, F, e, d, ok, hd, fun v F1 H1 g1 dp1 => ⟨B, F0, F1, e, d2, ok.grow g1, hd2, fun v2 F' H' g2 dp2 => ?_⟩⟩
  unfold rgS2 at fe
  split at fe
  · split at fe
    · rename_i hz
      cases fe
      exact ⟨_, _, dp_int dp1, dp_int dp2, rgSmall_ok hz.1 hz.2, fun l hl => Kn.tupN (K := X.K) (fun v F' H' g3 dp => q v F' H' ((g1.trans g2).trans g3) dp) g2.fh (dpa_rng _ _) hl⟩
    · cases fe
  · cases fe
end

/-! ### defs -/
/-- what a def is worth: a function of data -/
def spD (K : PySem.W.Frag) (n : Nat) (M : List D → Option D) : Sp := fun vs H Q _ => ∃ F ds d, Ex F H ∧ DpAll K F vs ds ∧ ds.length = n ∧ M ds = some d ∧ ∀ v F' H', Gr F H F' H' → Dp K F' v d → Q v H'
abbrev FnD (P : Program) (w : World) (K : PySem.W.Frag) (mg : Str → Option Value) (base : Heap) (k : Nat) (f : Addr) (fd : FuncData) (ps : List Str) (M : List D → Option D) : Prop := FnOk P w K mg base CX0 k f fd ps (spD K ps.length M)
def startE (n : Nat) (ds : List D) : DEnv := ds.map (fun d => some (.sh d)) ++ List.replicate (n - ds.length) none
def runF (n : Nat) (body : FS) : List D → Option D := fun ds => (body (startE n ds)).bind fun r => match r with
  | .rt d => some d
  | .nx _ => some .none
  | _ => none
theorem ok_start {K : PySem.W.Frag} {F H : Hp} {N : List Str} {vs : List V} {ds : List D} (x : Ex F H) (h : DpAll K F vs ds) : Ok K H F F (L2.start N vs) H (startE N.length ds) where
  gr := Gr.refl x
  sh := fun i d hi => by
    unfold startE at hi
    unfold L2.start
    have hl := dpa_len h
    by_cases hlt : i < ds.length
    · rw [List.getElem?_append_left (by simpa using hlt), List.getElem?_map] at hi
      obtain ⟨d', hd, e⟩ := Option.map_eq_some_iff.mp hi
      cases e
      obtain ⟨v, hv, dv⟩ := dpa_get h hd
      refine ⟨v, ?_, dv⟩
      rw [List.getElem?_append_left (by simp; omega), List.getElem?_map, hv]; rfl
    · rw [List.getElem?_append_right (by simpa using hlt), List.getElem?_replicate] at hi
      split at hi <;> cases hi
  ow := fun i d hi => by
    unfold startE at hi
    by_cases hlt : i < ds.length
    · rw [List.getElem?_append_left (by simpa using hlt), List.getElem?_map] at hi
      obtain ⟨d', hd, e⟩ := Option.map_eq_some_iff.mp hi
      cases e
    · rw [List.getElem?_append_right (by simpa using hlt), List.getElem?_replicate] at hi
      split at hi <;> cases hi
  inj := fun i j xs ys a hi => by
    unfold startE at hi
    by_cases hlt : i < ds.length
    · rw [List.getElem?_append_left (by simpa using hlt), List.getElem?_map] at hi
      obtain ⟨d', hd, e⟩ := Option.map_eq_some_iff.mp hi
      cases e
    · rw [List.getElem?_append_right (by simpa using hlt), List.getElem?_replicate] at hi
      split at hi <;> cases hi
  od := fun i d hi => by
    unfold startE at hi
    by_cases hlt : i < ds.length
    · rw [List.getElem?_append_left (by simpa using hlt), List.getElem?_map] at hi
      obtain ⟨d', hd, e⟩ := Option.map_eq_some_iff.mp hi
      cases e
    · rw [List.getElem?_append_right (by simpa using hlt), List.getElem?_replicate] at hi
      split at hi <;> cases hi
  ijd := fun i j xs ys a hi => by
    unfold startE at hi
    by_cases hlt : i < ds.length
    · rw [List.getElem?_append_left (by simpa using hlt), List.getElem?_map] at hi
      obtain ⟨d', hd, e⟩ := Option.map_eq_some_iff.mp hi
      cases e
    · rw [List.getElem?_append_right (by simpa using hlt), List.getElem?_replicate] at hi
      split at hi <;> cases hi
  len := by
    unfold startE L2.start
    have hl := dpa_len h
    simp [hl]
theorem fn_mk {P : Program} {w : World} {K : PySem.W.Frag} {mg : Str → Option Value} {base : Heap} {k : Nat} {x qual : Str} {args : Arguments} {st : List Stmt} {sc : Scope} {f : Addr} {fd : FuncData} {N ps : List Str} {body : FS} {n : Nat}
    (F : FunD K x qual args st sc [] [] f fd) (S : FnScope N ps sc) (hn : N.length = n)
    (hb : ∀ (cdv : Value) (A : Around) (outer : List Env) (s : Shared) (H : Hp) (E : XK), Room k (A.deeper (envOfC qual sc s.heap.objs.size f cdv)) → DSs (cxOf CX0 P w K mg base N qual sc f cdv A outer s H E).nox st body) :
    FnD P w K mg base (k + 1) f fd ps (runF n body) := by
  refine F.ok S (fun vs H Q E h => ?_) (fun cdv A outer s H vs Q E hr h => ⟨_, PSs.nox (hb cdv A outer s H E hr), ?_⟩)
  · obtain ⟨F, ds, d, x, dp, hl, _⟩ := h
    rw [dpa_len dp]; exact hl
  · obtain ⟨F, ds, d, x, dp, hl, hM, q⟩ := h
    obtain ⟨r, hr1, hM⟩ := bind1 hM
    have ok : Ok K H F F (L2.start N vs) H (startE n ds) := by rw [← hn]; exact ok_start x dp
    refine ⟨H, F, F, startE n ds, r, ok, hr1, ?_⟩
    cases r with
    | rt d' => cases hM; exact fun v F' H' g dp => q v F' H' g dp
    | nx e' => cases hM; exact fun σ' F' H' _ ok' => q _ F' H' ok'.gr .non
    | bk e' => cases hM
    | ct e' => cases hM
section
variable {X : Cx} {e : Expr} {es : List Expr} {f : FE} {fa : FA} {x : Str} {p pos : Pos} {fd : FuncData} {ps : List Str} {k j : Nat} {fn : Addr} {M : List D → Option D}
theorem fn_none {P : Program} {w : World} {K : PySem.W.Frag} {mg : Str → Option Value} {base : Heap} {k : Nat} {f : Addr} {fd : FuncData} {ps : List Str} : FnD P w K mg base k f fd ps (fun _ => none) := ⟨fun vs H Q E h => (by obtain ⟨F, ds, d, _, _, _, h, _⟩ := h; cases h), fun A outer s H args us vs Q E hr e0 hb r h => (by obtain ⟨F, ds, d, _, _, _, h, _⟩ := h; cases h)⟩
theorem de_call (G : FnD X.prog X.w X.K X.mg X.base j fn fd ps M) (hr : Room k X.A) (hj : j ≤ k) (hm : X.mg x = some (.ref fn)) (kp : PySem.W.keepIn X.K (.ref fn) = true) (b : Binds X.K fd ps []) (ha : DA X (e :: es) fa) (hl : ∀ env ds, fa env = some ds → ds.length = ps.length)
    (hg : Gl X x := by rfl) (hdb : (x == ("__debug__" : Str)) = false := by decide) (he : starEach (e :: es) X.env = (false, eval e X.env) :: starEach es X.env := by rfl) (hpl : (backTo pos (starEach es X.env)).any (·.1) = false := by rfl) : DE X (.Call (.Name x p) (e :: es) [] pos) (cA M fa) :=
  pe_imp (pe_call (E := fun _ _ _ => False) G (hr.mono hj) hg hm kp b .nil pass0 ha hdb he hpl) fun σ H Q ⟨B, F0, F, env, d, ok, fe, q⟩ => by
  obtain ⟨ds, hd, fe⟩ := bind1 fe
  refine ⟨B, F0, F, env, ds, ok, hd, fun vs F' H' g dp => ?_⟩
  show spD X.K ps.length M (vs ++ []) H' Q _
  rw [List.append_nil]
  exact ⟨F', ds, d, g.fh, dp, hl _ _ hd, fe, fun v F2 H2 g2 dp2 => q v F2 H2 (g.trans g2) dp2⟩
theorem lev_le {j b n : Nat} (h : j ≤ b) : j ≤ b + n := Nat.le_trans h (Nat.le_add_right b n)
theorem lq_nil : ∀ e ds, nilA e = some ds → ds.length = 0 := fun e ds h => by cases h; rfl
theorem lq_cons {n : Nat} (h : ∀ e ds, fa e = some ds → ds.length = n) : ∀ e ds, consA f fa e = some ds → ds.length = n + 1 := fun e ds hx => by
  obtain ⟨x, y, hx, hy, fe⟩ := bind2 hx
  cases fe
  exact congrArg (· + 1) (h _ _ hy)
end
end DL

/-! DLay6: slices, isinstance, extend, is, in. -/
namespace DL
open PySem PySem.Spec PyProof.Rows L2 Evl

/-! ### slices -/
def cutL {α : Type} (xs : List α) (lo hi : Option Int) : List α := (xs.drop (HT.sIx xs.length 0 lo)).take (HT.sIx xs.length xs.length hi - HT.sIx xs.length 0 lo)
def cutD (d : D) (lo hi : Option Int) : Option D := match d with
  | .tuple xs => some (.tuple (cutL xs lo hi))
  | .list xs => some (.list (cutL xs lo hi))
  | .str z => if sml z.length = true then some (.str (cutS z lo hi)) else none
  | _ => none
abbrev FO := DEnv → Option (Option Int)
def noP : FO := fun _ => some none
def asI : D → Option Int
  | .int i => some i
  | _ => none
def yesP (f : FE) : FO := fun e => (f e).bind fun d => (asI d).map some
def slD (f : FE) (l h : FO) : FE := fun e => (f e).bind fun x => (l e).bind fun lo => (h e).bind fun hi => cutD x lo hi
section
variable {X : Cx} {e e2 : Expr} {f g : FE} {l h : FO} {pos p2 : Pos}
def TOd (K : PySem.W.Frag) (f : FO) : TO := fun σ H Q => ∃ B F0 F e o, Ok K B F0 F σ H e ∧ f e = some o ∧ ∀ F' H', Gr F H F' H' → Q o H'
def DO (X : Cx) (e : Option Expr) (f : FO) : Prop := PO X e (TOd X.K f)
theorem po_imp {e : Option Expr} {t t' : TO} (h : PO X e t) (i : ∀ σ H Q, t' σ H Q → t σ H Q) : PO X e t' := ⟨fun pins s σ H Q I hw => h.run pins s σ H Q I (i _ _ _ hw)⟩
theorem do_none : DO X none noP := po_imp po_none fun σ H Q ⟨B, F0, F, e, o, ok, fe, q⟩ => by
  cases fe
  exact q F H (Gr.refl ok.fh)
theorem do_some (h : DE X e f) : DO X (some e) (yesP f) := po_imp (po_some h) fun σ H Q ⟨B, F0, F, e, o, ok, fe, q⟩ => by
  obtain ⟨d, hd, fe⟩ := bind1 fe
  obtain ⟨i, hi, rfl⟩ := Option.map_eq_some_iff.mp fe
  refine ⟨B, F0, F, e, d, ok, hd, fun v F' H' g dp => ⟨i, ?_, q F' H' g⟩⟩
  unfold asI at hi
  split at hi
  · cases hi; exact dp_int dp
  · cases hi
theorem cutV_dp {K : PySem.W.Frag} {F : Hp} {vs : List V} {ds : List D} (h : DpAll K F vs ds) (lo hi : Option Int) : DpAll K F (cutV vs lo hi) (cutL ds lo hi) := by
  unfold cutV cutL
  rw [dpa_len h]
  exact dpa_take _ (dpa_drop _ h)
theorem cutL_whole {α : Type} {xs : List α} {lo hi : Option Int} (h : HT.sIx xs.length 0 lo = 0 ∧ HT.sIx xs.length xs.length hi = xs.length) : cutL xs lo hi = xs := by
  unfold cutL
  rw [h.1, h.2]
  simp
theorem de_slice (he : DR X e f) (hl : DO X e2' l) (hh : DO X e3' h) : DE X (.Subscript e (.Slice e2' e3' none p2) pos) (slD f l h) :=
  pe_imp (pe_slice (sl_list.or (sl_tupA.or sl_str)) he hl hh) fun σ H Q ⟨B, F0, F, e, d, ok, fe, q⟩ => by
  obtain ⟨x, hx, fe⟩ := bind1 fe
  obtain ⟨lo, hi, hlo, hhi, fe⟩ := bind2 fe
  refine ⟨B, F0, F, e, x, ok, hx, fun v F1 H1 g1 r1 => ⟨B, F0, F1, e, lo, ok.grow g1, hlo, fun F2 H2 g2 => ⟨B, F0, F2, e, hi, (ok.grow g1).grow g2, hhi, fun F3 H3 g3 => ?_⟩⟩⟩
  have r3 := (r1.grow g2).grow g3
  have q3 : Kn X.K F3 H3 d Q := fun w F' H' g4 dp => q w F' H' (((g1.trans g2).trans g3).trans g4) dp
  unfold cutD at fe
  split at fe
  · cases fe
    have r4 := rs_tupF r3
    obtain ⟨a, vs, rfl, s1, d1⟩ := dp_tup r4
    refine .inr (.inl ⟨a, vs, rfl, ex_t g3.fh s1, fun hw => ?_, fun _ p hp => q3.tupN g3.fh (cutV_dp d1 lo hi) hp⟩)
    rw [dpa_len d1] at hw
    rw [cutL_whole hw] at q3
    exact q3.now g3.fh r4
  · cases fe
    obtain ⟨a, vs, rfl, s1, d1⟩ := r3.lst g3.fh
    exact .inl ⟨a, vs, rfl, s1, fun p hp => q3.lstN g3.fh (cutV_dp d1 lo hi) hp⟩
  · split at fe
    · rename_i hz
      cases fe
      exact .inr (.inr ⟨_, rs_str r3, Nat.le_trans (sml_le hz) big_line, q3.now g3.fh (.str _)⟩)
    · cases fe
  · cases fe
end

/-! ### isinstance -/
section
variable {X : Cx} {e e2 : Expr} {f g : FE} {p p2 pos : Pos} {x : Str}
theorem tyx_lst {K : PySem.W.Frag} {H : Hp} {a : Addr} {xs : List V} (h : SqL K H a xs) : TyX K H (.ref a) (.type "list") := by
  rcases h with (h | ⟨o, h⟩) | ⟨o, its, n, h1, h2, _⟩
  · exact .base (.lst h)
  · exact .base (.frz h)
  · exact .kList h1 h2
theorem tyx_tup {K : PySem.W.Frag} {H : Hp} {a : Addr} {xs : List V} (h : SqT K H a xs) : TyX K H (.ref a) (.type "tuple") := by
  rcases h with (h | ⟨o, h⟩) | ⟨o, its, n, h1, h2, _⟩
  · exact .base (.tup h)
  · exact .fTuple h
  · exact .kTuple h1 h2
theorem isi_of {K : PySem.W.Frag} {F H : Hp} {v : V} {d r : D} {T : Ty} (x : Ex F H) (h : Rs K F H v d) (hi : isiD T d = some r) : ∃ t b, TyX K H v t ∧ PySem.W.kitOne K t (.type T.nm) = some b ∧ r = .bool b := by
  have h' := h.dp x
  cases h' with
  | non => cases T <;> cases hi <;> exact ⟨_, _, .base .non, kit_ty (by decide +kernel), rfl⟩
  | bl b => cases T <;> cases hi <;> exact ⟨_, _, .base (.bl b), kit_ty (by decide +kernel), rfl⟩
  | int b => cases T <;> cases hi <;> exact ⟨_, _, .base (.int b), kit_ty (by decide +kernel), rfl⟩
  | str b => cases T <;> cases hi <;> exact ⟨_, _, .base (.str b), kit_ty (by decide +kernel), rfl⟩
  | lst s _ => cases T <;> cases hi <;> exact ⟨_, _, tyx_lst s, kit_ty (by decide +kernel), rfl⟩
  | tup s _ => cases T <;> cases hi <;> exact ⟨_, _, tyx_tup s, kit_ty (by decide +kernel), rfl⟩
  | dic s _ => cases T <;> cases hi
theorem de_isi (T : Ty) (hm : X.mg "isinstance" = none) (hmT : X.mg T.nm = none) (h : DR X e f) (hx : x = (T.nm : Str) := by rfl) (hg : Gl X "isinstance" := by rfl) (hgT : Gl X x := by rfl)
    (hs : starEach [e, .Name x p2] X.env = (false, eval e X.env) :: starEach [.Name x p2] X.env := by rfl) (hs2 : starEach [.Name x p2] X.env = (false, eval (.Name x p2) X.env) :: starEach [] X.env := by rfl) (hpl : (backTo pos (starEach [.Name x p2] X.env)).any (·.1) = false := by rfl) :
    DE X (.Call (.Name "isinstance" p) [e, .Name x p2] [] pos) (c1 (isiD T) f) := by
  subst hx
  have hT : PE X (.Name (T.nm : Str) p2) (tC (.ty T.nm)) := by
    cases T <;> exact pe_bltn (u := .type _) hgT hmT (by decide +kernel) rfl (by decide) (by decide)
  refine pe_imp (pe_callB call_isi hg hm (by decide +kernel) (pa_cons h (pa_cons hT pa_nil hs2) hs) (by decide) (by decide) hs hpl) fun σ H Q ⟨B, F0, F, e, d, ok, fe, q⟩ => ?_
  obtain ⟨y, hy, fe⟩ := bind1 fe
  refine ⟨B, F0, F, e, y, ok, hy, fun v F1 H1 g1 r1 => ?_⟩
  obtain ⟨t, b, ht, hk, rfl⟩ := isi_of g1.fh r1 fe
  exact ⟨v, .ty T.nm, t, .type T.nm, b, rfl, .ty _, ht, hk, q _ F1 H1 g1 (.bl _)⟩
end

/-! ### is True, is not True -/
section
variable {X : Cx} {a b : Expr} {f g : FE} {pos : Pos}
def isBD : D → D → Option D
  | .bool c, .bool d => some (.bool (c == d))
  | _, _ => none
def notBD : D → D → Option D
  | .bool c, .bool d => some (.bool (c != d))
  | _, _ => none
theorem op_isB : OpR X (compareOp .Is) (fun x y H Q => ∃ c d, x = .bl c ∧ y = .bl d ∧ Q (.bl (c == d)) H) := by
  intro pins s σ H x y v u Q I rx ry h
  obtain ⟨c, d, rfl, rfl, q⟩ := h
  cases rx
  cases ry
  exact is_bool (fin_bl I q rfl)
theorem op_notB : OpR X (compareOp .IsNot) (fun x y H Q => ∃ c d, x = .bl c ∧ y = .bl d ∧ Q (.bl (c != d)) H) := by
  intro pins s σ H x y v u Q I rx ry h
  obtain ⟨c, d, rfl, rfl, q⟩ := h
  cases rx
  cases ry
  exact isnot_bool (fin_bl I q rfl)
theorem od_isB {K : PySem.W.Frag} : OpD K (fun x y H Q => ∃ c d, x = .bl c ∧ y = .bl d ∧ Q (.bl (c == d)) H) isBD := by
  intro F H x y a b d Q xf ha hb hg q
  unfold isBD at hg
  split at hg
  · cases hg
    exact ⟨_, _, rs_bl ha, rs_bl hb, q.now xf (.bl _)⟩
  · cases hg
theorem od_notB {K : PySem.W.Frag} : OpD K (fun x y H Q => ∃ c d, x = .bl c ∧ y = .bl d ∧ Q (.bl (c != d)) H) notBD := by
  intro F H x y a b d Q xf ha hb hg q
  unfold notBD at hg
  split at hg
  · cases hg
    exact ⟨_, _, rs_bl ha, rs_bl hb, q.now xf (.bl _)⟩
  · cases hg
end

/-! ### in, not in -/
section
variable {X : Cx} {a b : Expr} {f g : FE} {pos : Pos}
def flatD : D → Bool
  | .int _ => true
  | .str _ => true
  | .bool _ => true
  | .none => true
  | _ => false
def inSeq (x : D) (xs : List D) : Bool := xs.any fun y => PyData.eqv y x
def inStr (x z : Str) : Bool := !(Builtin.Str.occurrences z x 0 z.length 1).isEmpty
def sh63 (d : D) : Bool := d.canLay0 && decide (d.depth ≤ 62)
def okIn (x : D) (xs : List D) : Bool := (flatD x && xs.all flatD) || (sh63 x && PyData.canLayAll0 xs)
def inD (x y : D) : Option D := match y with
  | .list xs => if okIn x xs = true then some (.bool (inSeq x xs)) else none
  | .tuple xs => if okIn x xs = true then some (.bool (inSeq x xs)) else none
  | .str z => match x with
    | .str x => some (.bool (inStr x z))
    | _ => none
  | _ => none
def ninD (x y : D) : Option D := match y with
  | .list xs => if okIn x xs = true then some (.bool (!inSeq x xs)) else none
  | .tuple xs => if okIn x xs = true then some (.bool (!inSeq x xs)) else none
  | .str z => match x with
    | .str x => some (.bool (!inStr x z))
    | _ => none
  | _ => none
theorem flat_dp {K : PySem.W.Frag} {F : Hp} {v : V} {d : D} (h : Dp K F v d) (f : flatD d = true) : flatV v = true := by
  cases h <;> first | rfl | cases f
theorem flat_dpa {K : PySem.W.Frag} {F : Hp} : ∀ {vs : List V} {ds : List D}, DpAll K F vs ds → ds.all flatD = true → vs.all flatV = true
  | _, _, .nil, _ => rfl
  | _, _, .cons h hs, f => by
    rw [List.all_cons, Bool.and_eq_true] at f ⊢
    exact ⟨flat_dp h f.1, flat_dpa hs f.2⟩
theorem eqV_dp {K : PySem.W.Frag} {F : Hp} {v u : V} {d e : D} (h : Dp K F v d) (h2 : Dp K F u e) (f : flatD d = true) (f2 : flatD e = true) : eqV v u = PyData.eqv d e := by
  cases h <;> first | (cases f; done) | (cases h2 <;> first | (cases f2; done) | skip)
  all_goals (simp [eqV, PyData.eqv])
theorem inV_dp {K : PySem.W.Frag} {F : Hp} {v : V} {d : D} (h : Dp K F v d) (f : flatD d = true) : ∀ {vs : List V} {ds : List D}, DpAll K F vs ds → ds.all flatD = true → inV v vs = inSeq d ds
  | _, _, .nil, _ => rfl
  | _, _, .cons q qs, g => by
    rw [List.all_cons, Bool.and_eq_true] at g
    have ih := inV_dp h f qs g.2
    unfold inV inSeq at ih ⊢
    rw [List.any_cons, List.any_cons, ih, eqV_dp q h g.1 f]
end
end DL

/-! DLay7: in, extend. -/
namespace DL
open PySem PySem.Spec PyProof.Rows L2 Evl
section
variable {X : Cx}
open Classical in
noncomputable def eqR (h : Heap) (x : D) (u : Value) : Bool := if q : ∃ d, ∃ as, d.canLay0 = true ∧ Reads h u d as then PyData.eqv q.choose x else false
theorem eqR_of {h : Heap} {x d : D} {u : Value} {as : List Addr} (hc : d.canLay0 = true) (r : Reads h u d as) : eqR h x u = PyData.eqv d x := by
  have q : ∃ d, ∃ as, d.canLay0 = true ∧ Reads h u d as := ⟨d, as, hc, r⟩
  unfold eqR
  rw [dif_pos q]
  obtain ⟨as', hc', r'⟩ := q.choose_spec
  rw [SeqAt.Reads.unique _ _ _ _ _ hc' r' r]
theorem any_eqR {h : Heap} {x : D} : ∀ {ds : List D} {us : List Value} {as : List Addr}, ReadsAll h us ds as → PyData.canLayAll0 ds = true → us.any (eqR h x) = ds.any fun y => PyData.eqv y x
  | [], _, _, r, _ => by cases r; rfl
  | d :: ds, _, _, r, f => by
    cases r with
    | cons r1 r2 =>
      simp only [PyData.canLayAll0, Bool.and_eq_true] at f
      rw [List.any_cons, List.any_cons, eqR_of f.1 r1, any_eqR r2 f.2]
theorem mem_eqR {A : Around} {s : Shared} {x : D} {v : Value} {bs : List Addr} (rx : Reads s.heap v x bs) (hx : sh63 x = true) (hu : A.units + 64 < cLine) : ∀ {ds : List D} {us : List Value} {as : List Addr}, ReadsAll s.heap us ds as → PyData.canLayAll0 ds = true → ∀ u ∈ us, SeqAt.EqAt A.in1 s u v (eqR s.heap x u)
  | [], _, _, r, _ => fun u hu => by cases r; cases hu
  | d :: ds, _, _, r, f => fun u' hu' => by
    cases r with
    | cons r1 r2 =>
      simp only [PyData.canLayAll0, Bool.and_eq_true] at f
      rcases List.mem_cons.mp hu' with rfl | hu'
      · rw [eqR_of f.1 r1]
        unfold sh63 at hx
        simp only [Bool.and_eq_true, decide_eq_true_eq] at hx
        refine SeqAt.eqAt_reads d x A.in1 s _ _ _ _ r1 rx f.1 hx.1 ?_
        simp only [Around.in1_units]
        have := Nat.min_le_right d.depth x.depth
        omega
      · exact mem_eqR rx hx hu r2 f.2 u' hu'
def rInD (K : PySem.W.Frag) (neg : Bool) : R2 := fun x y H Q => ∃ p xs d ds, y = .ref p ∧ (SqL K H p xs ∨ SqT K H p xs) ∧ L2.Dp K H x d ∧ L2.DpAll K H xs ds ∧ sh63 d = true ∧ PyData.canLayAll0 ds = true ∧ Q (.bl (if neg then !inSeq d ds else inSeq d ds)) H
theorem op_in_D (hu : X.A.units + 64 < cLine) : OpR X (compareOp .In) (rInD X.K false) := by
  intro pins s σ H x y v u Q I rx ry h
  obtain ⟨p, xs, d, ds, rfl, hq, dx, da, fx, fs, q⟩ := h
  cases ry
  obtain ⟨bs, rdx⟩ := L2.Dp.reads I d x v dx rx
  rcases hq with hq | hq
  · obtain ⟨its, r, pl, hz⟩ := I.list hq
    obtain ⟨as, ra⟩ := L2.Dp.readsAll I ds _ _ da r
    refine SeqAt.in_listAt (eqR s.heap d) pl.isList (fun w hw => mem_eqR rdx fx hu ra fs w (by simpa using hw)) ⟨.bl _, H, I, rfl, ?_⟩
    rw [show its.toArray.any (eqR s.heap d) = its.any (eqR s.heap d) by simp, any_eqR ra fs]
    exact q
  · obtain ⟨its, r, pl, hz⟩ := I.tuple hq
    obtain ⟨as, ra⟩ := L2.Dp.readsAll I ds _ _ da r
    refine SeqAt.in_tupleAt (eqR s.heap d) pl (fun w hw => mem_eqR rdx fx hu ra fs w (by simpa using hw)) ⟨.bl _, H, I, rfl, ?_⟩
    rw [show its.toArray.any (eqR s.heap d) = its.any (eqR s.heap d) by simp, any_eqR ra fs]
    exact q
theorem op_nin_D (hu : X.A.units + 64 < cLine) : OpR X (compareOp .NotIn) (rInD X.K true) := by
  intro pins s σ H x y v u Q I rx ry h
  obtain ⟨p, xs, d, ds, rfl, hq, dx, da, fx, fs, q⟩ := h
  cases ry
  obtain ⟨bs, rdx⟩ := L2.Dp.reads I d x v dx rx
  rcases hq with hq | hq
  · obtain ⟨its, r, pl, hz⟩ := I.list hq
    obtain ⟨as, ra⟩ := L2.Dp.readsAll I ds _ _ da r
    refine SeqAt.notIn_listAt (eqR s.heap d) pl.isList (fun w hw => mem_eqR rdx fx hu ra fs w (by simpa using hw)) ⟨.bl _, H, I, rfl, ?_⟩
    rw [show its.toArray.any (eqR s.heap d) = its.any (eqR s.heap d) by simp, any_eqR ra fs]
    exact q
  · obtain ⟨its, r, pl, hz⟩ := I.tuple hq
    obtain ⟨as, ra⟩ := L2.Dp.readsAll I ds _ _ da r
    refine SeqAt.notIn_tupleAt (eqR s.heap d) pl (fun w hw => mem_eqR rdx fx hu ra fs w (by simpa using hw)) ⟨.bl _, H, I, rfl, ?_⟩
    rw [show its.toArray.any (eqR s.heap d) = its.any (eqR s.heap d) by simp, any_eqR ra fs]
    exact q
def rInA (K : PySem.W.Frag) : R2 := fun x y H Q => (rIn K false x y H Q ∨ rInD K false x y H Q) ∨ ∃ i j, x = .str i ∧ y = .str j ∧ Q (.bl (!(Builtin.Str.occurrences j i 0 j.length 1).isEmpty)) H
def rNinA (K : PySem.W.Frag) : R2 := fun x y H Q => (rIn K true x y H Q ∨ rInD K true x y H Q) ∨ ∃ i j, x = .str i ∧ y = .str j ∧ Q (.bl (!(!(Builtin.Str.occurrences j i 0 j.length 1).isEmpty))) H
theorem op_inA (hu : X.A.units + 64 < cLine) : OpR X (compareOp .In) (rInA X.K) := (op_in_seq.or (op_in_D hu)).or op_in_str
theorem op_ninA (hu : X.A.units + 64 < cLine) : OpR X (compareOp .NotIn) (rNinA X.K) := (op_notIn_seq.or (op_nin_D hu)).or op_notin_str
theorem rs_flat {K : PySem.W.Frag} {F H : Hp} {v : V} {d : D} (h : Rs K F H v d) (f : flatD d = true) : Dp K F v d := by
  rcases h with h | ⟨_, _, _, _, rfl, _⟩
  · exact h
  · cases f
theorem od_in {K : PySem.W.Frag} : OpD K (rInA K) inD := by
  intro F H x y a b d Q xf ha hb hg q
  unfold inD at hg
  split at hg
  · split at hg
    · rename_i hz
      cases hg
      unfold okIn at hz
      rcases (Bool.or_eq_true _ _).mp hz with hz | hz
      · rw [Bool.and_eq_true] at hz
        obtain ⟨p, vs, rfl, h1, h2⟩ := hb.lst xf
        have hx := rs_flat ha hz.1
        refine .inl (.inl ⟨p, vs, rfl, .inl h1, flat_dp hx hz.1, flat_dpa h2 hz.2, ?_⟩)
        simp only [Bool.false_eq_true, if_false, if_true]
        rw [inV_dp hx hz.1 h2 hz.2]
        exact q.now xf (.bl _)
      · rw [Bool.and_eq_true] at hz
        have hz1 := hz.1
        unfold sh63 at hz1
        rw [Bool.and_eq_true] at hz1
        have d1 := ha.dp xf
        have d2 := hb.dp xf
        cases d2 with
        | lst e1 e2 =>
          refine .inl (.inr ⟨_, _, _, _, rfl, .inl e1, dp_l2 d1 hz1.1, dpa_l2 e2 hz.2, hz.1, hz.2, ?_⟩)
          simp only [Bool.false_eq_true, if_false, if_true]
          exact q.now xf (.bl _)
    · cases hg
  · split at hg
    · rename_i hz
      cases hg
      unfold okIn at hz
      rcases (Bool.or_eq_true _ _).mp hz with hz | hz
      · rw [Bool.and_eq_true] at hz
        obtain ⟨p, vs, rfl, h1, h2⟩ := hb.tup xf
        have hx := rs_flat ha hz.1
        refine .inl (.inl ⟨p, vs, rfl, .inr h1, flat_dp hx hz.1, flat_dpa h2 hz.2, ?_⟩)
        simp only [Bool.false_eq_true, if_false, if_true]
        rw [inV_dp hx hz.1 h2 hz.2]
        exact q.now xf (.bl _)
      · rw [Bool.and_eq_true] at hz
        have hz1 := hz.1
        unfold sh63 at hz1
        rw [Bool.and_eq_true] at hz1
        have d1 := ha.dp xf
        have d2 := hb.dp xf
        cases d2 with
        | tup e1 e2 =>
          refine .inl (.inr ⟨_, _, _, _, rfl, .inr e1, dp_l2 d1 hz1.1, dpa_l2 e2 hz.2, hz.1, hz.2, ?_⟩)
          simp only [Bool.false_eq_true, if_false, if_true]
          exact q.now xf (.bl _)
    · cases hg
  · split at hg
    · cases hg
      exact .inr ⟨_, _, rs_str ha, rs_str hb, q.now xf (.bl _)⟩
    · cases hg
  · cases hg
theorem od_nin {K : PySem.W.Frag} : OpD K (rNinA K) ninD := by
  intro F H x y a b d Q xf ha hb hg q
  unfold ninD at hg
  split at hg
  · split at hg
    · rename_i hz
      cases hg
      unfold okIn at hz
      rcases (Bool.or_eq_true _ _).mp hz with hz | hz
      · rw [Bool.and_eq_true] at hz
        obtain ⟨p, vs, rfl, h1, h2⟩ := hb.lst xf
        have hx := rs_flat ha hz.1
        refine .inl (.inl ⟨p, vs, rfl, .inl h1, flat_dp hx hz.1, flat_dpa h2 hz.2, ?_⟩)
        simp only [Bool.false_eq_true, if_false, if_true]
        rw [inV_dp hx hz.1 h2 hz.2]
        exact q.now xf (.bl _)
      · rw [Bool.and_eq_true] at hz
        have hz1 := hz.1
        unfold sh63 at hz1
        rw [Bool.and_eq_true] at hz1
        have d1 := ha.dp xf
        have d2 := hb.dp xf
        cases d2 with
        | lst e1 e2 =>
          refine .inl (.inr ⟨_, _, _, _, rfl, .inl e1, dp_l2 d1 hz1.1, dpa_l2 e2 hz.2, hz.1, hz.2, ?_⟩)
          simp only [Bool.false_eq_true, if_false, if_true]
          exact q.now xf (.bl _)
    · cases hg
  · split at hg
    · rename_i hz
      cases hg
      unfold okIn at hz
      rcases (Bool.or_eq_true _ _).mp hz with hz | hz
      · rw [Bool.and_eq_true] at hz
        obtain ⟨p, vs, rfl, h1, h2⟩ := hb.tup xf
        have hx := rs_flat ha hz.1
        refine .inl (.inl ⟨p, vs, rfl, .inr h1, flat_dp hx hz.1, flat_dpa h2 hz.2, ?_⟩)
        simp only [Bool.false_eq_true, if_false, if_true]
        rw [inV_dp hx hz.1 h2 hz.2]
        exact q.now xf (.bl _)
      · rw [Bool.and_eq_true] at hz
        have hz1 := hz.1
        unfold sh63 at hz1
        rw [Bool.and_eq_true] at hz1
        have d1 := ha.dp xf
        have d2 := hb.dp xf
        cases d2 with
        | tup e1 e2 =>
          refine .inl (.inr ⟨_, _, _, _, rfl, .inr e1, dp_l2 d1 hz1.1, dpa_l2 e2 hz.2, hz.1, hz.2, ?_⟩)
          simp only [Bool.false_eq_true, if_false, if_true]
          exact q.now xf (.bl _)
    · cases hg
  · split at hg
    · cases hg
      exact .inr ⟨_, _, rs_str ha, rs_str hb, q.now xf (.bl _)⟩
    · cases hg
  · cases hg
end

/-! ### <= of ints and texts -/
section
variable {X : Cx}
theorem op_leA : OpR X (compareOp .LtE) (fun x y H Q => rI0 (fun i j => .bl (decide (i ≤ j))) x y H Q ∨ ∃ i j, x = .str i ∧ y = .str j ∧ Q (.bl (!decide (j.cps.toList < i.cps.toList))) H) := op_le.or op_le_str
theorem od_le {K : PySem.W.Frag} : OpD K (fun x y H Q => rI0 (fun i j => .bl (decide (i ≤ j))) x y H Q ∨ ∃ i j, x = .str i ∧ y = .str j ∧ Q (.bl (!decide (j.cps.toList < i.cps.toList))) H) leD := by
  intro F H x y a b d Q xf ha hb hg q
  unfold leD at hg
  split at hg
  · cases hg
    rw [rs_int ha, rs_int hb]
    exact .inl ⟨_, _, rfl, rfl, q.now xf (.bl _)⟩
  · cases hg
    rw [rs_str ha, rs_str hb]
    exact .inr ⟨_, _, rfl, rfl, q.now xf (.bl _)⟩
  · cases hg
end

/-! ### extend -/
theorem extW_list (l : Addr) (items : Array Value) (n : Nat) (b : Addr) (items2 : Array Value) (n2 : Nat) (dd : Option Addr) (sl : Array (Option Value)) (hs0 : ¬(!items.isEmpty && Builtin.List.listTooLong (items.size + items2.size)) = true) (hs1 : items.size ≤ sizeLine) (hs2 : items.size + items2.size ≤ sizeLine + 1) :
    Meets (Builtin.«list.extend» ⟨[.ref l, .ref b], []⟩) (fun _ R s => s.heap.get? l = some { cls := .type "list", dict := none, data := .seq items n, slots := #[] } ∧ s.heap.get? b = some { cls := .type "list", dict := dd, data := .seq items2 n2, slots := sl } ∧ R (.ok (.ret Value.none)) { s with heap := s.heap.update l (Obj.mapSeq fun x => x ++ items2), toks := s.toks }) :=
  .of_wp fun prog w A R s h => by
    obtain ⟨hp, g, d, tk, os⟩ := s; obtain ⟨hl, hb, h⟩ := h; have f1 := AutoSeq1.idx_int; have f2 := AutoSeq1.sub_tuple_tuple; have f3 := AutoSeq1.sub_list_list; have f4 := AutoSeq1.sub_tuple_list; have f5 := AutoSeq1.sub_list_tuple
    have hz' : (items ++ items2).size ≤ sizeLine + 1 := by rw [Array.size_append]; exact hs2
    wp_walk using (wpAny_updateSeq hl rfl (hz := hs1) (_hz' := hz')), AutoSeq1.wpAny_loadPart' hl, AutoSeq1.wpAny_loadPart' hb; exact ⟨_, rfl, h⟩
theorem extW_tup (l : Addr) (items : Array Value) (n : Nat) (b : Addr) (items2 : Array Value) (n2 : Nat) (dd : Option Addr) (sl : Array (Option Value)) (hs0 : ¬(!items.isEmpty && Builtin.List.listTooLong (items.size + items2.size)) = true) (hs1 : items.size ≤ sizeLine) (hs2 : items.size + items2.size ≤ sizeLine + 1) :
    Meets (Builtin.«list.extend» ⟨[.ref l, .ref b], []⟩) (fun _ R s => s.heap.get? l = some { cls := .type "list", dict := none, data := .seq items n, slots := #[] } ∧ s.heap.get? b = some { cls := .type "tuple", dict := dd, data := .seq items2 n2, slots := sl } ∧ R (.ok (.ret Value.none)) { s with heap := s.heap.update l (Obj.mapSeq fun x => x ++ items2), toks := s.toks }) :=
  .of_wp fun prog w A R s h => by
    obtain ⟨hp, g, d, tk, os⟩ := s; obtain ⟨hl, hb, h⟩ := h; have f1 := AutoSeq1.idx_int; have f2 := AutoSeq1.sub_tuple_tuple; have f3 := AutoSeq1.sub_list_list; have f4 := AutoSeq1.sub_tuple_list; have f5 := AutoSeq1.sub_list_tuple
    have hz' : (items ++ items2).size ≤ sizeLine + 1 := by rw [Array.size_append]; exact hs2
    wp_walk using (wpAny_updateSeq hl rfl (hz := hs1) (_hz' := hz')), AutoSeq1.wpAny_loadPart' hl, AutoSeq1.wpAny_loadPart' hb; exact ⟨_, rfl, h⟩
section
variable {X : Cx} {e : Expr} {fe : FE} {pos : Pos}
def rExtA (K : PySem.W.Frag) : V → List V → Hp → VK → Prop := fun x vs H Q => ∃ l b xs zs, x = .ref l ∧ vs = [.ref b] ∧ H l = some (.lst xs) ∧ (SqL K H b zs ∨ SqT K H b zs) ∧ xs.length + zs.length ≤ sizeLine ∧ Q .non (upd H l (.lst (xs ++ zs)))
theorem mt_extA : MtM X "list.extend" (rExtA X.K) := by
  intro pins s σ H x vs v us Q I rx rv h
  obtain ⟨l, b, xs, zs, rfl, rfl, hH, hB, hz, q⟩ := h
  cases rx
  obtain ⟨u, rfl, ru⟩ := rv.one
  cases ru
  obtain ⟨z, its, n, r, hl, e⟩ := I.lstM hH
  rcases hB with hB | hB
  · obtain ⟨its2, r2, ⟨⟨cls, dd, data, sl⟩, n2, ho, hc, hdd, hd⟩, hl2⟩ := I.list hB
    simp only at hc hd
    subst hc hd
    have hl3 := r2.length
    have hsz : its.toArray.size + its2.toArray.size ≤ sizeLine := by rw [List.size_toArray, List.size_toArray]; omega
    have hlong : ¬ (!its.toArray.isEmpty && Builtin.List.listTooLong (its.toArray.size + its2.toArray.size)) = true := by
      rw [notLongL hsz, Bool.and_false]
      exact Bool.false_ne_true
    refine call_meets PySem.F.slot_list_extend ⟨_, e, rfl⟩ PySem.F.entry_list_extend (PySem.F.args_list_extend_2 _ _) (extW_list l its.toArray n b its2.toArray n2 dd sl hlong (by rw [List.size_toArray]; omega) (by omega)) ⟨e, ho, ?_⟩
    refine ⟨.non, _, I.lset (its' := its ++ its2) hH e (by simp) (r.append r2) ?_, rfl, q⟩
    rw [List.length_append]
    omega
  · obtain ⟨its2, r2, ⟨⟨cls, dd, data, sl⟩, ho, hc, n2, hd⟩, hl2⟩ := I.tuple hB
    simp only at hc hd
    subst hc hd
    have hl3 := r2.length
    have hsz : its.toArray.size + its2.toArray.size ≤ sizeLine := by rw [List.size_toArray, List.size_toArray]; omega
    have hlong : ¬ (!its.toArray.isEmpty && Builtin.List.listTooLong (its.toArray.size + its2.toArray.size)) = true := by
      rw [notLongL hsz, Bool.and_false]
      exact Bool.false_ne_true
    refine call_meets PySem.F.slot_list_extend ⟨_, e, rfl⟩ PySem.F.entry_list_extend (PySem.F.args_list_extend_2 _ _) (extW_tup l its.toArray n b its2.toArray n2 dd sl hlong (by rw [List.size_toArray]; omega) (by omega)) ⟨e, ho, ?_⟩
    refine ⟨.non, _, I.lset (its' := its ++ its2) hH e (by simp) (r.append r2) ?_, rfl, q⟩
    rw [List.length_append]
    omega
theorem ds_ext (i : Nat) {x : Str} {px apos cpos : Pos} (he : DE X e fe) (hi : X.N[i]? = some x := by rfl) (hv : Vis X.env.scope x := by first | exact Or.inl rfl | exact Or.inr (Or.inl rfl) | exact Or.inr (Or.inr rfl)) (hd : (x == ("__debug__" : Str)) = false := by decide)
    (hcd : (x == ("__classdict__" : Str)) = false := by decide) (hbase : attributeBase (.Name x px) "extend" X.env (eval (.Name x px) X.env) = eval (.Name x px) X.env := by rfl)
    (hfew : ((backTo cpos (starEach [e] X.env)).all (fun x => !x.1) && (backToKw cpos (keywordEach [] X.env)).all (fun x => x.1.isSome) && decide (([e] : List Expr).length + ([] : List Keyword).length + (if ([] : List Keyword).isEmpty then 0 else 1) < 30)) = true := by rfl)
    (hline : (apos.endLine == cpos.line) = true := by rfl) (hs : starEach [e] X.env = (false, eval e X.env) :: starEach [] X.env := by rfl) (hsw : swapsWith (.Call (.Attribute (.Name x px) "extend" apos) [e] [] cpos) none pos.line X.env = pure false := by rfl) :
    DS X (.Expr (.Call (.Attribute (.Name x px) "extend" apos) [e] [] cpos) pos) (sExt i fe) :=
  ps_imp (ps_expr (pe_bm PySem.F.plainAttrs_list PySem.F.slot_list_extend PySem.F.type_list_extend mt_extA (pe_var hi hv hd hcd) (pa_cons he pa_nil hs) hbase hfew hline hs rfl) hsw) fun D σ H ⟨B, F0, F, e, r, ok, fr, q⟩ => by
  obtain ⟨d, h, fr⟩ := bind1 fr
  obtain ⟨ys, hys, fr⟩ := bind1 fr
  obtain ⟨xs, hx, fr⟩ := bind1 fr
  split at fr
  · rename_i hz
    cases fr
    have hx := owAt_some hx
    obtain ⟨a, vs, h1, h2, h3, h4, h5⟩ := ok.ow i xs hx
    refine ⟨.ref a, h1, .inl ⟨rfl, _, SqL.of h2⟩, B, F0, F, e, d, ok, h, fun v F' H' g dp => ?_⟩
    have key : ∃ b zs, v = .ref b ∧ (SqL X.K H' b zs ∨ SqT X.K H' b zs) ∧ DpAll X.K F' zs ys := by
      unfold seqOf at hys
      split at hys
      · cases hys
        obtain ⟨b, zs, e1, e2, e3⟩ := dp_lst dp
        exact ⟨b, zs, e1, .inl (ex_l g.fh e2), e3⟩
      · cases hys
        obtain ⟨b, zs, e1, e2, e3⟩ := dp_tup dp
        exact ⟨b, zs, e1, .inr (ex_t g.fh e2), e3⟩
      · cases hys
    obtain ⟨b, zs, rfl, hb, dz⟩ := key
    refine ⟨a, b, vs, zs, rfl, rfl, g.hh _ _ h2, hb, ?_, q σ F' _ g.ff ((ok.grow g).mutOw hx h1 (dpa_append (dpa_mono g.ff h5) dz))⟩
    rw [dpa_len h5, dpa_len dz]
    exact Nat.le_trans (sml_le hz) big_line
  · cases fr
end
end DL

/-! DLay8: the value layer in plain Lean: rewriting, loops, data that can be compared. -/
namespace DL
open PySem L2

/-! ### rewriting -/
def bindFl (r : Option Fl) (g : FS) : Option Fl := r.bind fun r => match r with
  | .nx e' => g e'
  | .rt d => some (.rt d)
  | .bk e' => some (.bk e')
  | .ct e' => some (.ct e')
def endFl (r : Option Fl) : Option D := r.bind fun r => match r with
  | .rt d => some d
  | .nx _ => some .none
  | _ => none
def ifFl (b : Option Bool) (f g : FS) (e : DEnv) : Option Fl := b.bind fun b => if b = true then f e else g e
section
variable {f g h : FE} {fa : FA} {p q : FB} {s t : FS} {e : DEnv} {i j : Nat}
@[simp] theorem e_vr : vr i e = (match e[i]? with
  | some (some (.sh d)) => some d
  | _ => none) := (rfl)
@[simp] theorem e_vo : vo i e = (match e[i]? with
  | some (some (.sh d)) => some d
  | some (some (.ow xs)) => some (.list xs)
  | _ => none) := (rfl)
@[simp] theorem e_cst {d : D} : cst d e = some d := (rfl)
@[simp] theorem e_c1 {G : D → Option D} : c1 G f e = (f e).bind G := (rfl)
@[simp] theorem e_c2 {G : D → D → Option D} : c2 G f g e = (f e).bind fun x => (g e).bind fun y => G x y := (rfl)
@[simp] theorem e_cA {G : List D → Option D} : cA G fa e = (fa e).bind G := (rfl)
@[simp] theorem e_nilA : nilA e = some [] := (rfl)
@[simp] theorem e_consA : consA f fa e = (f e).bind fun x => (fa e).bind fun xs => some (x :: xs) := (rfl)
@[simp] theorem e_tup : tup fa e = (fa e).map PyData.tuple := (rfl)
@[simp] theorem e_lstE : lstE fa e = (fa e).map PyData.list := (rfl)
@[simp] theorem e_tst : tst f e = (f e).bind asB := (rfl)
@[simp] theorem e_andT : andT p q e = (p e).bind fun b => if b = true then q e else some false := (rfl)
@[simp] theorem e_orT : orT p q e = (p e).bind fun b => if b = true then some true else q e := (rfl)
@[simp] theorem e_notT : notT p e = (p e).map not := (rfl)
@[simp] theorem e_andV : andV f g e = (f e).bind fun x => (asB x).bind fun b => if b = true then g e else some (.bool false) := (rfl)
@[simp] theorem e_orV : orV f g e = (f e).bind fun x => (asB x).bind fun b => if b = true then some (.bool true) else g e := (rfl)
@[simp] theorem e_notV : notV f e = (f e).bind fun x => (asB x).map fun b => .bool (!b) := (rfl)
@[simp] theorem e_ifE : ifE p f g e = (p e).bind fun b => if b = true then f e else g e := (rfl)
@[simp] theorem e_chD {G G' : D → D → Option D} : chD G G' f g h e = (f e).bind fun x => (g e).bind fun y => (G x y).bind fun z => (asB z).bind fun k => if k = true then (h e).bind fun w => G' y w else some (.bool false) := (rfl)
@[simp] theorem e_slD {l u : FO} : slD f l u e = (f e).bind fun x => (l e).bind fun lo => (u e).bind fun hi => cutD x lo hi := (rfl)
@[simp] theorem e_noP : noP e = some none := (rfl)
@[simp] theorem e_yesP : yesP f e = (f e).bind fun d => (asI d).map some := (rfl)
@[simp] theorem e_asI {k : Int} : asI (.int k) = some k := (rfl)
@[simp] theorem e_asB {b : Bool} : asB (.bool b) = some b := (rfl)
@[simp] theorem e_itA : itA f e = (f e).bind itemsD := (rfl)
@[simp] theorem e_rg1 : rg1 f e = (f e).bind rng1D := (rfl)
@[simp] theorem e_rg2 : rg2 f g e = (f e).bind fun x => (g e).bind fun y => rng2D x y := (rfl)
@[simp] theorem e_seqA : seqA f e = (f e).bind seqOf := (rfl)
@[simp] theorem e_lr1 : lr1 f e = (f e).bind rgS1 := (rfl)
@[simp] theorem e_lr2 : lr2 f g e = (f e).bind fun x => (g e).bind fun y => rgS2 x y := (rfl)
@[simp] theorem e_yesT : yesT e = some true := (rfl)
@[simp] theorem e_sNx : sNx e = some (.nx e) := (rfl)
@[simp] theorem e_sq : sq s t e = bindFl (s e) t := (rfl)
@[simp] theorem e_sAsg : sAsg i f e = (f e).map fun d => .nx (e.set i (some (.sh d))) := (rfl)
@[simp] theorem e_sNew : sNew i fa e = (fa e).map fun d => .nx (e.set i (some (.ow d))) := (rfl)
@[simp] theorem e_sRet : sRet f e = (f e).map .rt := (rfl)
@[simp] theorem e_sIf : sIf p s t e = ifFl (p e) s t e := (rfl)
@[simp] theorem e_ifFl {b : Bool} : ifFl (some b) s t e = if b = true then s e else t e := (rfl)
@[simp] theorem e_bnx {e' : DEnv} : bindFl (some (.nx e')) t = t e' := (rfl)
@[simp] theorem e_brt {d : D} : bindFl (some (.rt d)) t = some (.rt d) := (rfl)
@[simp] theorem e_bbk {e' : DEnv} : bindFl (some (.bk e')) t = some (.bk e') := (rfl)
@[simp] theorem e_bct {e' : DEnv} : bindFl (some (.ct e')) t = some (.ct e') := (rfl)
@[simp] theorem e_ert {d : D} : endFl (some (.rt d)) = some d := (rfl)
@[simp] theorem e_enx {e' : DEnv} : endFl (some (.nx e')) = some .none := (rfl)
@[simp] theorem e_sFrz : sFrz i s e = s (frzE i e) := (rfl)
@[simp] theorem e_sAsgT {b : BD} : sAsgT b f e = (f e).bind fun d => (b d e).map .nx := (rfl)
@[simp] theorem e_sFor {b : BD} : sFor fa b s e = (fa e).bind fun ds => forD b s ds e := (rfl)
@[simp] theorem e_sWhile {μ : DEnv → Nat} : sWhile μ p s e = whileD p s (μ e) e := (rfl)
@[simp] theorem e_lcD {b : BD} {vs : List Nat} : lcD fa b p f vs e = (fa e).bind fun ds => if sml ds.length = true then lcGo b p f (wipeE e vs) ds else none := (rfl)
@[simp] theorem e_sApp : sApp i f e = (f e).bind fun d => (owAt i e).bind fun xs => if sml (xs.length + 1) = true then some (.nx (e.set i (some (.ow (xs ++ [d]))))) else none := (rfl)
@[simp] theorem e_sExt : sExt i f e = (f e).bind fun d => (seqOf d).bind fun ys => (owAt i e).bind fun xs => if sml (xs.length + ys.length) = true then some (.nx (e.set i (some (.ow (xs ++ ys))))) else none := (rfl)
@[simp] theorem e_bNm {d : D} : bNm i d e = some (e.set i (some (.sh d))) := (rfl)
@[simp] theorem e_runF {n : Nat} {ds : List D} : runF n s ds = endFl (s (startE n ds)) := (rfl)
@[simp] theorem e_owAt : owAt i e = (match e[i]? with
  | some (some (.ow xs)) => some xs
  | _ => none) := (rfl)
@[simp] theorem e_frzE : frzE i e = (match e[i]? with
  | some (some (.ow xs)) => e.set i (some (.sh (.list xs)))
  | some (some (.od ds)) => e.set i (some (.sh (.dict ds)))
  | _ => e) := (rfl)
@[simp] theorem e_wipe0 : wipeE e [] = e := (rfl)
@[simp] theorem e_wipe1 {v : Nat} {vs : List Nat} : wipeE e (v :: vs) = (wipeE e vs).set v none := (rfl)
@[simp] theorem e_addI {a b : Int} : addD (.int a) (.int b) = some (.int (a + b)) := (rfl)
@[simp] theorem e_subI {a b : Int} : subD (.int a) (.int b) = some (.int (a - b)) := (rfl)
@[simp] theorem e_negI {a : Int} : negD (.int a) = some (.int (-a)) := (rfl)
@[simp] theorem e_ltI {a b : Int} : ltD (.int a) (.int b) = some (.bool (decide (a < b))) := (rfl)
@[simp] theorem e_leI {a b : Int} : leD (.int a) (.int b) = some (.bool (decide (a ≤ b))) := (rfl)
@[simp] theorem e_gtI {a b : Int} : gtD (.int a) (.int b) = some (.bool (decide (b < a))) := (rfl)
@[simp] theorem e_geI {a b : Int} : geD (.int a) (.int b) = some (.bool (decide (b ≤ a))) := (rfl)
@[simp] theorem e_lenL {xs : List D} : lenD (.list xs) = some (.int xs.length) := (rfl)
@[simp] theorem e_lenT {xs : List D} : lenD (.tuple xs) = some (.int xs.length) := (rfl)
@[simp] theorem e_tupleL {xs : List D} : tupleD (.list xs) = some (.tuple xs) := (rfl)
@[simp] theorem e_tupleT {xs : List D} : tupleD (.tuple xs) = some (.tuple xs) := (rfl)
@[simp] theorem e_ixT {xs : List D} {k : Int} : ixD (.tuple xs) (.int k) = atI xs k := (rfl)
@[simp] theorem e_ixL {xs : List D} {k : Int} : ixD (.list xs) (.int k) = atI xs k := (rfl)
@[simp] theorem e_itemsT {xs : List D} : itemsD (.tuple xs) = some xs := (rfl)
@[simp] theorem e_itemsL {xs : List D} : itemsD (.list xs) = some xs := (rfl)
@[simp] theorem e_seqOfT {xs : List D} : seqOf (.tuple xs) = some xs := (rfl)
@[simp] theorem e_seqOfL {xs : List D} : seqOf (.list xs) = some xs := (rfl)
@[simp] theorem e_max2 {a b : Int} : max2D (.int a) (.int b) = some (.int (if b > a then b else a)) := (rfl)
@[simp] theorem e_min2 {a b : Int} : min2D (.int a) (.int b) = some (.int (if b < a then b else a)) := (rfl)
@[simp] theorem e_sumL {xs : List D} : sumD (.list xs) = (asInts xs).map fun ns => .int ns.sum := (rfl)
@[simp] theorem e_sumT {xs : List D} : sumD (.tuple xs) = (asInts xs).map fun ns => .int ns.sum := (rfl)
@[simp] theorem e_allL {xs : List D} : allD (.list xs) = (asBools xs).map fun ns => .bool (ns.all id) := (rfl)
@[simp] theorem e_anyL {xs : List D} : anyD (.list xs) = (asBools xs).map fun ns => .bool (ns.any id) := (rfl)
@[simp] theorem e_minL {xs : List D} : minD (.list xs) = (asInts xs).bind fun ns => ns.min?.map PyData.int := (rfl)
@[simp] theorem e_maxL {xs : List D} : maxD (.list xs) = (asInts xs).bind fun ns => ns.max?.map PyData.int := (rfl)
@[simp] theorem e_asInts {ns : List Int} : asInts (ns.map PyData.int) = some ns := asInts_map ns
@[simp] theorem e_asBools {ns : List Bool} : asBools (ns.map PyData.bool) = some ns := asBools_map ns
@[simp] theorem e_intI {a : Int} : intD (.int a) = some (.int a) := (rfl)
@[simp] theorem e_intB {a : Bool} : intD (.bool a) = some (.int (if a then 1 else 0)) := (rfl)
@[simp] theorem e_isB {a b : Bool} : isBD (.bool a) (.bool b) = some (.bool (a == b)) := (rfl)
@[simp] theorem e_notB {a b : Bool} : notBD (.bool a) (.bool b) = some (.bool (a != b)) := (rfl)
@[simp] theorem e_cutT {xs : List D} {lo hi : Option Int} : cutD (.tuple xs) lo hi = some (.tuple (cutL xs lo hi)) := (rfl)
@[simp] theorem e_cutL {xs : List D} {lo hi : Option Int} : cutD (.list xs) lo hi = some (.list (cutL xs lo hi)) := (rfl)
end
theorem mul_ok {a b : Int} (h : mulOk a b = true) : mulD (.int a) (.int b) = some (.int (a * b)) := by simp [mulD, h]
theorem mulOk_r {a b : Int} (h1 : -(2 ^ 62) ≤ b) (h2 : b ≤ 2 ^ 62) : mulOk a b = true := by
  unfold mulOk
  have : b.natAbs < 2 ^ 63 := by omega
  simp [this]
theorem mulOk_l {a b : Int} (h1 : -(2 ^ 62) ≤ a) (h2 : a ≤ 2 ^ 62) : mulOk a b = true := by
  unfold mulOk
  have : a.natAbs < 2 ^ 63 := by omega
  simp [this]
theorem mul_r {a b : Int} (h1 : -(2 ^ 62) ≤ b) (h2 : b ≤ 2 ^ 62) : mulD (.int a) (.int b) = some (.int (a * b)) := mul_ok (mulOk_r h1 h2)
theorem mul_l {a b : Int} (h1 : -(2 ^ 62) ≤ a) (h2 : a ≤ 2 ^ 62) : mulD (.int a) (.int b) = some (.int (a * b)) := mul_ok (mulOk_l h1 h2)
theorem fdiv_ok {a b : Int} (h1 : 0 < b) (h2 : b ≤ 2 ^ 62) : fdivD (.int a) (.int b) = some (.int (a / b)) := by
  have h3 : b.natAbs < 2 ^ 63 := by omega
  have h4 : b.natAbs < 2 ^ 4000 := Nat.lt_of_lt_of_le h3 (Nat.pow_le_pow_right (by decide) (by decide))
  unfold fdivD
  exact if_pos ⟨h1, h4⟩
theorem mod_ok {a b : Int} (h1 : 0 < b) : modD (.int a) (.int b) = some (.int (a % b)) := by simp [modD, h1]
theorem add_t {xs ys : List D} (h : xs.length + ys.length ≤ 100000) : addD (.tuple xs) (.tuple ys) = some (.tuple (xs ++ ys)) := by simp [addD, sml_of h]
theorem add_l {xs ys : List D} (h : xs.length + ys.length ≤ 100000) : addD (.list xs) (.list ys) = some (.list (xs ++ ys)) := by simp [addD, sml_of h]
theorem rng1_ok {n : Nat} (h : n ≤ 100000) : rng1D (.int (n : Int)) = some ((List.range n).map fun i : Nat => PyData.int (i : Int)) := by
  have : rngOk (n : Int) = true := by
    unfold rngOk
    simp only [Bool.and_eq_true, decide_eq_true_eq]
    omega
  unfold rng1D
  simp only [this, if_true, rngL]
  simp
theorem rgS1_ok {n : Nat} (h : n ≤ 100000) : rgS1 (.int (n : Int)) = some ((List.range n).map fun i : Nat => PyData.int (i : Int)) := by
  have : rgSmall (n : Int) = true := by
    unfold rgSmall
    simp only [Bool.and_eq_true, decide_eq_true_eq]
    omega
  unfold rgS1
  simp only [this, if_true, rngL]
  simp
theorem pick3 {a b c r : Int} (h1 : 0 ≤ r) (h2 : r < 3) : ∃ v, (v = a ∨ v = b ∨ v = c) ∧ atI [PyData.int a, .int b, .int c] r = some (.int v) := by
  obtain rfl | rfl | rfl : r = 0 ∨ r = 1 ∨ r = 2 := by omega
  · exact ⟨a, .inl rfl, rfl⟩
  · exact ⟨b, .inr (.inl rfl), rfl⟩
  · exact ⟨c, .inr (.inr rfl), rfl⟩
theorem pick4 {a b c d r : Int} (h1 : 0 ≤ r) (h2 : r < 4) : ∃ v, (v = a ∨ v = b ∨ v = c ∨ v = d) ∧ atI [PyData.int a, .int b, .int c, .int d] r = some (.int v) := by
  obtain rfl | rfl | rfl | rfl : r = 0 ∨ r = 1 ∨ r = 2 ∨ r = 3 := by omega
  · exact ⟨a, .inl rfl, rfl⟩
  · exact ⟨b, .inr (.inl rfl), rfl⟩
  · exact ⟨c, .inr (.inr (.inl rfl)), rfl⟩
  · exact ⟨d, .inr (.inr (.inr rfl)), rfl⟩
/-- items by place -/
theorem atI_of {α : Type} {xs : List α} {n : Nat} {x : α} (h : xs[n]? = some x) : atI xs (n : Int) = some x := atI_nat h
theorem atI_pos {α : Type} {xs : List α} {k : Int} (h : 0 ≤ k) : atI xs k = xs[k.toNat]? := by
  unfold atI ixN
  rw [if_pos h]
  by_cases hk : k < xs.length
  · rw [if_pos hk]; rfl
  · rw [if_neg hk]
    have : xs.length ≤ k.toNat := by omega
    rw [List.getElem?_eq_none this]; rfl

/-! ### data that can be compared -/
def shp : Nat → D → Bool
  | _, .none => true
  | _, .bool _ => true
  | _, .int _ => true
  | _, .str x => PyData.strOk x
  | n + 1, .list xs => xs.all (shp n)
  | n + 1, .tuple xs => xs.all (shp n)
  | _, _ => false
theorem canLayAll_of {xs : List D} (h : ∀ x ∈ xs, x.canLay0 = true) : PyData.canLayAll0 xs = true := by
  induction xs with
  | nil => rfl
  | cons x xs ih => simp only [PyData.canLayAll0, Bool.and_eq_true]; exact ⟨h x (by simp), ih fun y hy => h y (by simp [hy])⟩
theorem depthAll_le {xs : List D} {n : Nat} (h : ∀ x ∈ xs, x.depth ≤ n) : PyData.depthAll xs ≤ n := by
  induction xs with
  | nil => simp [PyData.depthAll]
  | cons x xs ih => simp only [PyData.depthAll]; exact Nat.max_le.mpr ⟨h x (by simp), ih fun y hy => h y (by simp [hy])⟩
theorem shp_ok : ∀ (n : Nat) (d : D), shp n d = true → d.canLay0 = true ∧ d.depth ≤ n
  | _, .none, _ => ⟨rfl, by simp [PyData.depth]⟩
  | _, .bool _, _ => ⟨rfl, by simp [PyData.depth]⟩
  | _, .int _, _ => ⟨rfl, by simp [PyData.depth]⟩
  | n, .str x, h => ⟨by cases n <;> simpa [PyData.canLay0, shp] using h, by simp [PyData.depth]⟩
  | n + 1, .list xs, h => by
    have h' : ∀ x ∈ xs, shp n x = true := by simpa [shp] using h
    exact ⟨by simp only [PyData.canLay0]; exact canLayAll_of fun x hx => (shp_ok n x (h' x hx)).1, by simp only [PyData.depth]; exact Nat.succ_le_succ (depthAll_le fun x hx => (shp_ok n x (h' x hx)).2)⟩
  | n + 1, .tuple xs, h => by
    have h' : ∀ x ∈ xs, shp n x = true := by simpa [shp] using h
    exact ⟨by simp only [PyData.canLay0]; exact canLayAll_of fun x hx => (shp_ok n x (h' x hx)).1, by simp only [PyData.depth]; exact Nat.succ_le_succ (depthAll_le fun x hx => (shp_ok n x (h' x hx)).2)⟩
  | 0, .list xs, h => by simp [shp] at h
  | 0, .tuple xs, h => by simp [shp] at h
  | 0, .dict xs, h => by simp [shp] at h
  | _ + 1, .dict xs, h => by simp [shp] at h
theorem shaped_of {n : Nat} {d : D} (h : shp n d = true) (hn : n ≤ 64 := by decide) : SeqAt.shaped d = true := by
  obtain ⟨h1, h2⟩ := shp_ok n d h
  unfold SeqAt.shaped
  simp only [Bool.and_eq_true, decide_eq_true_eq]
  exact ⟨h1, Nat.le_trans h2 hn⟩
theorem eq_ok {n m : Nat} {a b : D} (ha : shp n a = true) (hb : shp m b = true) (hn : n ≤ 64 := by decide) (hm : m ≤ 64 := by decide) : eqD a b = some (.bool (PyData.eqv a b)) := by
  unfold eqD
  rw [if_pos ⟨shaped_of ha hn, shaped_of hb hm⟩]
theorem ne_ok {n m : Nat} {a b : D} (ha : shp n a = true) (hb : shp m b = true) (hn : n ≤ 64 := by decide) (hm : m ≤ 64 := by decide) : neD a b = some (.bool (!PyData.eqv a b)) := by
  unfold neD
  rw [if_pos ⟨shaped_of ha hn, shaped_of hb hm⟩]
@[simp] theorem eq_int {a b : Int} : eqD (.int a) (.int b) = some (.bool (a == b)) := eq_ok (n := 0) (m := 0) rfl rfl
@[simp] theorem ne_int {a b : Int} : neD (.int a) (.int b) = some (.bool (!(a == b))) := ne_ok (n := 0) (m := 0) rfl rfl
@[simp] theorem eq_boolD {a b : Bool} : eqD (.bool a) (.bool b) = some (.bool (a == b)) := eq_ok (n := 0) (m := 0) rfl rfl
theorem shp_ints (n : Nat) (ns : List Int) : shp (n + 1) (.tuple (ns.map PyData.int)) = true := by
  simp only [shp, List.all_map, List.all_eq_true]
  intro x _
  cases n <;> rfl
theorem shp_intsL (n : Nat) (ns : List Int) : shp (n + 1) (.list (ns.map PyData.int)) = true := by
  simp only [shp, List.all_map, List.all_eq_true]
  intro x _
  cases n <;> rfl
theorem eqvAll_map {α : Type} {f : α → D} (h : ∀ x y, PyData.eqv (f x) (f y) = true ↔ x = y) : ∀ xs ys : List α, PyData.eqvAll (xs.map f) (ys.map f) = true ↔ xs = ys
  | [], [] => by simp [PyData.eqvAll]
  | [], _ :: _ => by simp [PyData.eqvAll]
  | _ :: _, [] => by simp [PyData.eqvAll]
  | x :: xs, y :: ys => by
    simp only [List.map_cons, PyData.eqvAll, Bool.and_eq_true, List.cons.injEq]
    rw [h, eqvAll_map h xs ys]
theorem eqv_tup {α : Type} {f : α → D} (h : ∀ x y, PyData.eqv (f x) (f y) = true ↔ x = y) (xs ys : List α) : PyData.eqv (.tuple (xs.map f)) (.tuple (ys.map f)) = true ↔ xs = ys := by
  simp only [PyData.eqv]; exact eqvAll_map h xs ys
theorem eqv_lst {α : Type} {f : α → D} (h : ∀ x y, PyData.eqv (f x) (f y) = true ↔ x = y) (xs ys : List α) : PyData.eqv (.list (xs.map f)) (.list (ys.map f)) = true ↔ xs = ys := by
  simp only [PyData.eqv]; exact eqvAll_map h xs ys
theorem eqv_int (x y : Int) : PyData.eqv (.int x) (.int y) = true ↔ x = y := by simp [PyData.eqv]
theorem eqv_nat (x y : Nat) : PyData.eqv (.int (x : Int)) (.int (y : Int)) = true ↔ x = y := by
  simp only [PyData.eqv, beq_iff_eq]
  omega
theorem eqv_self {n : Nat} {d : D} (h : shp n d = true) : PyData.eqv d d = true   := SeqAt.eqv_refl d (shp_ok n d h).1
theorem ne_self {n : Nat} {d : D} (h : shp n d = true) (hn : n ≤ 64 := by decide) : neD d d = some (.bool false) := by rw [ne_ok h h hn hn, eqv_self h]; rfl
theorem eq_self {n : Nat} {d : D} (h : shp n d = true) (hn : n ≤ 64 := by decide) : eqD d d = some (.bool true) := by rw [eq_ok h h hn hn, eqv_self h]

/-! ### loops -/
/-- a for that runs through: an invariant by the number of turns -/
theorem forD_inv {b : BD} {body : FS} (P : Nat → DEnv → Prop) : ∀ (ds : List D) (k : Nat) (e : DEnv), P k e →
    (∀ (i : Nat) (d : D) (e : DEnv), ds[i]? = some d → P (k + i) e → ∃ e1 e2, b d e = some e1 ∧ (body e1 = some (.nx e2) ∨ body e1 = some (.ct e2)) ∧ P (k + i + 1) e2) →
    ∃ e', forD b body ds e = some (.nx e') ∧ P (k + ds.length) e'
  | [], k, e, h0, _ => ⟨e, rfl, h0⟩
  | d :: ds, k, e, h0, hs => by
    obtain ⟨e1, e2, h1, h2, h3⟩ := hs 0 d e rfl h0
    obtain ⟨e', h4, h5⟩ := forD_inv P ds (k + 1) e2 h3 fun i d e hd hp => by
      have e' : k + (i + 1) = k + 1 + i := by omega
      have := hs (i + 1) d e hd (by rw [e']; exact hp)
      rw [e'] at this
      exact this
    refine ⟨e', ?_, by rw [List.length_cons]; rw [show k + (ds.length + 1) = k + 1 + ds.length by omega]; exact h5⟩
    unfold forD
    rw [h1]
    rcases h2 with h2 | h2 <;> (simp only [Option.bind_some, h2]; exact h4)
/-- over typed items -/
theorem forD_typed {α : Type} {b : BD} {body : FS} (φ : α → D) (P : List α → DEnv → Prop) (xs : List α) (e : DEnv) (h0 : P [] e)
    (hs : ∀ (pre : List α) (x : α) (post : List α) (e : DEnv), xs = pre ++ x :: post → P pre e → ∃ e1 e2, b (φ x) e = some e1 ∧ (body e1 = some (.nx e2) ∨ body e1 = some (.ct e2)) ∧ P (pre ++ [x]) e2) :
    ∃ e', forD b body (xs.map φ) e = some (.nx e') ∧ P xs e' := by
  obtain ⟨e', h1, h2⟩ := forD_inv (b := b) (body := body) (fun k e => P (xs.take k) e) (xs.map φ) 0 e (by simpa using h0) fun i d e hd hp => by
    rw [List.getElem?_map] at hd
    obtain ⟨x, hx, rfl⟩ := Option.map_eq_some_iff.mp hd
    obtain ⟨hl, hx'⟩ := List.getElem?_eq_some_iff.mp hx
    rw [Nat.zero_add] at hp ⊢
    obtain ⟨e1, e2, a1, a2, a3⟩ := hs (xs.take i) x (xs.drop (i + 1)) e (by rw [← hx', ← List.drop_eq_getElem_cons hl, List.take_append_drop]) hp
    refine ⟨e1, e2, a1, a2, ?_⟩
    rw [List.take_add_one, hx]
    exact a3
  refine ⟨e', h1, ?_⟩
  simpa using h2
theorem forD_range {b : BD} {body : FS} (P : Nat → DEnv → Prop) (n : Nat) (e : DEnv) (h0 : P 0 e) (hs : ∀ (i : Nat) (e : DEnv), i < n → P i e → ∃ e1 e2, b (.int (i : Int)) e = some e1 ∧ (body e1 = some (.nx e2) ∨ body e1 = some (.ct e2)) ∧ P (i + 1) e2) :
    ∃ e', forD b body ((List.range n).map fun i : Nat => PyData.int (i : Int)) e = some (.nx e') ∧ P n e' := by
  obtain ⟨e', h1, h2⟩ := forD_inv (b := b) (body := body) P ((List.range n).map fun i : Nat => PyData.int (i : Int)) 0 e h0 fun i d e hd hp => by
    rw [List.getElem?_map] at hd
    obtain ⟨x, hx, rfl⟩ := Option.map_eq_some_iff.mp hd
    obtain ⟨hl, hx'⟩ := List.getElem?_eq_some_iff.mp hx
    rw [List.length_range] at hl
    rw [List.getElem_range] at hx'
    subst hx'
    rw [Nat.zero_add] at hp ⊢
    exact hs i e hl hp
  refine ⟨e', h1, ?_⟩
  simpa using h2
/-- a comprehension over typed items -/
theorem lcGo_typed {α : Type} {b : BD} {t : FB} {el : FE} {e : DEnv} (φ ψ : α → D) (p : α → Bool) : ∀ (xs : List α), (∀ x ∈ xs, ∃ e1, b (φ x) e = some e1 ∧ t e1 = some (p x) ∧ (p x = true → el e1 = some (ψ x))) → lcGo b t el e (xs.map φ) = some ((xs.filter p).map ψ)
  | [], _ => rfl
  | x :: xs, h => by
    obtain ⟨e1, h1, h2, h3⟩ := h x (by simp)
    have ih := lcGo_typed φ ψ p xs fun y hy => h y (by simp [hy])
    rw [List.map_cons]
    unfold lcGo
    rw [h1]
    simp only [Option.bind_some, h2]
    cases hp : p x with
    | true => simp only [if_true, h3 hp, Option.bind_some, ih, List.filter_cons_of_pos hp, List.map_cons]
    | false => simp only [Bool.false_eq_true, if_false, ih]; rw [List.filter_cons_of_neg (by simp [hp])]
theorem lcGo_map {α : Type} {b : BD} {el : FE} {e : DEnv} (φ ψ : α → D) (xs : List α) (h : ∀ x ∈ xs, ∃ e1, b (φ x) e = some e1 ∧ el e1 = some (ψ x)) : lcGo b yesT el e (xs.map φ) = some (xs.map ψ) := by
  have := lcGo_typed (b := b) (t := yesT) (el := el) (e := e) φ ψ (fun _ => true) xs fun x hx => by
    obtain ⟨e1, h1, h2⟩ := h x hx
    exact ⟨e1, h1, rfl, fun _ => h2⟩
  rw [this, List.filter_eq_self.mpr (fun _ _ => rfl)]
end DL
namespace DL
open PySem L2
/-- a comprehension whose items are only known to be some -/
theorem lcGo_exists {α β : Type} {b : BD} {t : FB} {el : FE} {e : DEnv} (φ : α → D) (ψ : β → D) (P : β → Prop) : ∀ (xs : List α), (∀ x ∈ xs, ∃ e1 y, b (φ x) e = some e1 ∧ t e1 = some true ∧ el e1 = some (ψ y) ∧ P y) → ∃ ys : List β, lcGo b t el e (xs.map φ) = some (ys.map ψ) ∧ ys.length = xs.length ∧ ∀ y ∈ ys, P y
  | [], _ => ⟨[], rfl, rfl, fun _ h => by cases h⟩
  | x :: xs, h => by
    obtain ⟨e1, y, h1, h2, h3, h4⟩ := h x (by simp)
    obtain ⟨ys, i1, i2, i3⟩ := lcGo_exists φ ψ P xs fun z hz => h z (by simp [hz])
    refine ⟨y :: ys, ?_, by simp [i2], fun z hz => ?_⟩
    · rw [List.map_cons]
      unfold lcGo
      rw [h1]
      simp only [Option.bind_some, h2, if_true, h3, i1, List.map_cons]
    · rcases List.mem_cons.mp hz with e | e
      · subst e; exact h4
      · exact i3 z e
end DL
namespace DL
open PySem L2
section
variable {α : Type}
@[simp] theorem e_asBools2 {xs : List α} {p : α → Bool} : asBools (xs.map fun x => PyData.bool (p x)) = some (xs.map p) := by
  have := asBools_map (xs.map p)
  rwa [List.map_map] at this
@[simp] theorem e_asBools3 {xs : List α} {p : α → Bool} : asBools (xs.map (PyData.bool ∘ p)) = some (xs.map p) := e_asBools2
@[simp] theorem e_asBools4 {n : Nat} {p : Bool} : asBools (List.replicate n (PyData.bool p)) = some (List.replicate n p) := by
  have := asBools_map (List.replicate n p)
  rwa [List.map_replicate] at this
@[simp] theorem e_asBoolsC {p : Bool} {ds : List D} : asBools (PyData.bool p :: ds) = (asBools ds).map (p :: ·) := (rfl)
@[simp] theorem e_asBoolsN : asBools [] = some [] := (rfl)
@[simp] theorem e_asInts2 {xs : List α} {p : α → Int} : asInts (xs.map fun x => PyData.int (p x)) = some (xs.map p) := by
  have := asInts_map (xs.map p)
  rwa [List.map_map] at this
@[simp] theorem e_asInts3 {xs : List α} {p : α → Int} : asInts (xs.map (PyData.int ∘ p)) = some (xs.map p) := e_asInts2
@[simp] theorem e_asIntsC {p : Int} {ds : List D} : asInts (PyData.int p :: ds) = (asInts ds).map (p :: ·) := (rfl)
@[simp] theorem e_asIntsN : asInts [] = some [] := (rfl)
end
end DL
namespace DL
open PySem L2
theorem sh63_of {n : Nat} {d : D} (h : shp n d = true) (hn : n ≤ 62 := by decide) : sh63 d = true := by
  obtain ⟨h1, h2⟩ := shp_ok n d h
  unfold sh63
  simp only [Bool.and_eq_true, decide_eq_true_eq]
  exact ⟨h1, Nat.le_trans h2 hn⟩
theorem okIn_of {n m : Nat} {x : D} {xs : List D} (hx : shp n x = true) (hxs : ∀ y ∈ xs, shp m y = true) (hn : n ≤ 62 := by decide) : okIn x xs = true := by
  unfold okIn
  rw [Bool.or_eq_true, Bool.and_eq_true, Bool.and_eq_true]
  exact .inr ⟨sh63_of hx hn, canLayAll_of fun y hy => (shp_ok m y (hxs y hy)).1⟩
theorem inL_ok {n m : Nat} {x : D} {xs : List D} (hx : shp n x = true) (hxs : ∀ y ∈ xs, shp m y = true) (hn : n ≤ 62 := by decide) : inD x (.list xs) = some (.bool (inSeq x xs)) := if_pos (okIn_of hx hxs hn)
theorem ninL_ok {n m : Nat} {x : D} {xs : List D} (hx : shp n x = true) (hxs : ∀ y ∈ xs, shp m y = true) (hn : n ≤ 62 := by decide) : ninD x (.list xs) = some (.bool (!inSeq x xs)) := if_pos (okIn_of hx hxs hn)
theorem inSeq_mem {n : Nat} {x : D} {xs : List D} (hx : shp n x = true) (h : x ∈ xs) : inSeq x xs = true := List.any_eq_true.mpr ⟨x, h, eqv_self hx⟩
theorem rng2_ok {a b : Nat} (h : b ≤ 100000) (h2 : a ≤ 100000) : rng2D (.int (a : Int)) (.int (b : Int)) = some ((List.range' a (b - a)).map fun i : Nat => PyData.int (i : Int)) := by
  have h3 : rngOk (a : Int) = true ∧ rngOk (b : Int) = true := by
    unfold rngOk
    simp only [Bool.and_eq_true, decide_eq_true_eq]
    omega
  show (if rngOk (a : Int) = true ∧ rngOk (b : Int) = true then some (rngL (a : Int) (b : Int)) else none) = _
  rw [if_pos h3, rngL, List.range'_eq_map_range, List.map_map, show ((b : Int) - (a : Int)).toNat = b - a by omega]
  rfl
theorem rgS2_ok {a b : Nat} (h : b ≤ 100000) (h2 : a ≤ 100000) : rgS2 (.int (a : Int)) (.int (b : Int)) = some ((List.range' a (b - a)).map fun i : Nat => PyData.int (i : Int)) := by
  have h3 : rgSmall (a : Int) = true ∧ rgSmall (b : Int) = true := by
    unfold rgSmall
    simp only [Bool.and_eq_true, decide_eq_true_eq]
    omega
  show (if rgSmall (a : Int) = true ∧ rgSmall (b : Int) = true then some (rngL (a : Int) (b : Int)) else none) = _
  rw [if_pos h3, rngL, List.range'_eq_map_range, List.map_map, show ((b : Int) - (a : Int)).toNat = b - a by omega]
  rfl
@[simp] theorem e_bTp {bs : List BD} {ds : List D} {e : DEnv} : bTp bs (.tuple ds) e = bAll bs ds e := (rfl)
@[simp] theorem e_bAll0 {e : DEnv} : bAll [] [] e = some e := (rfl)
@[simp] theorem e_bAll1 {b : BD} {bs : List BD} {d : D} {ds : List D} {e : DEnv} : bAll (b :: bs) (d :: ds) e = (b d e).bind fun e' => bAll bs ds e' := (rfl)
@[simp] theorem e_isN1 : isND .none = some (.bool true) := (rfl)
@[simp] theorem e_isN2 {ds : List D} : isND (.tuple ds) = some (.bool false) := (rfl)
@[simp] theorem e_isN3 {i : Int} : isND (.int i) = some (.bool false) := (rfl)
@[simp] theorem e_notN1 : notND .none = some (.bool false) := (rfl)
@[simp] theorem e_notN2 {ds : List D} : notND (.tuple ds) = some (.bool true) := (rfl)
@[simp] theorem e_notN3 {i : Int} : notND (.int i) = some (.bool true) := (rfl)
theorem pow2_ok {a : Int} (h1 : -(2 ^ 62) ≤ a) (h2 : a ≤ 2 ^ 62) : powD (.int a) (.int 2) = some (.int (a * a)) := by
  have h3 : a.natAbs < 2 ^ 64 := by omega
  show (if (0 : Int) ≤ 2 ∧ (2 : Int) ≤ 1000 ∧ a.natAbs < 2 ^ 64 then some (PyData.int (a ^ (2 : Int).toNat)) else none) = _
  rw [if_pos ⟨by decide, by decide, h3⟩]
  have : a ^ (2 : Int).toNat = a * a := by rw [show (2 : Int).toNat = 2 from rfl, Int.pow_succ, Int.pow_succ, Int.pow_zero, Int.one_mul]
  rw [this]
theorem forD_rangeF {b : BD} {body : FS} (P : Nat → DEnv → Prop) (a m : Nat) (e : DEnv) (h0 : P a e) (hs : ∀ (i : Nat) (e : DEnv), a ≤ i → i < a + m → P i e → ∃ e1 e2, b (.int (i : Int)) e = some e1 ∧ (body e1 = some (.nx e2) ∨ body e1 = some (.ct e2)) ∧ P (i + 1) e2) :
    ∃ e', forD b body ((List.range' a m).map fun i : Nat => PyData.int (i : Int)) e = some (.nx e') ∧ P (a + m) e' := by
  obtain ⟨e', h1, h2⟩ := forD_inv (b := b) (body := body) P ((List.range' a m).map fun i : Nat => PyData.int (i : Int)) a e h0 fun i d e hd hp => by
    rw [List.getElem?_map] at hd
    obtain ⟨x, hx, rfl⟩ := Option.map_eq_some_iff.mp hd
    obtain ⟨hl, hx'⟩ := List.getElem?_eq_some_iff.mp hx
    rw [List.length_range'] at hl
    rw [List.getElem_range'] at hx'
    have hx2 : x = a + i := by omega
    subst hx2
    exact hs (a + i) e (by omega) (by omega) hp
  refine ⟨e', h1, ?_⟩
  simpa using h2
end DL

/-! DLay9: enumerate, zip. -/
namespace PySem
theorem meets_enum_one {v : Value} {o : Obj} {H : Heap → Prop} (B : Begins v o H) :
    Meets (Builtin.«enumerate.__new__» ⟨[.type "enumerate", v], []⟩) (fun _ R s => H s.heap ∧
      R (.ok (.ret (.ref (s.heap.push o).objs.size))) { s with heap := (s.heap.push o).push { cls := .type "enumerate", data := .fields #[.none, .bool false, .ref s.heap.objs.size, rawInt 0, .none, .none] } }) :=
  .of_wp fun prog w A R s h => by
    obtain ⟨hp, g, d, tk, os⟩ := s; obtain ⟨h1, h⟩ := h
    have hsub := sub_enumerate
    have q1 : ∀ {A' : Around} {E : Value → Shared → Prop} {Q : Value → Shared → Prop}, Q (.ref hp.objs.size) ⟨(hp.push o), g, d, tk, os⟩ → wpAny (model prog w) A' (pyIter v) Q E ⟨hp, g, d, tk, os⟩ :=
      fun q => B.iter prog w _ _ ⟨hp, g, d, tk, os⟩ _ h1 q
    wp_walk using q1
    refine wpAny_stack_any fun st => wpAny_pure ?_
    split
    · rename_i c _ _ _ _ _
      cases (c == Value.type "enumerate")
      · wp_walk using q1
        exact ⟨_, rfl, h⟩
      · wp_walk using q1
        exact ⟨_, rfl, h⟩
    · wp_walk using q1
      exact ⟨_, rfl, h⟩
theorem enum_one {prog : Program} {w : World} {A : Around} {E : Value → Shared → Prop} {s : Shared} {v : Value} {o : Obj} {H : Heap → Prop} {Q : Value → Shared → Prop} (B : Begins v o H) (h1 : H s.heap)
    (h : ∀ h', IsEnum h' (s.heap.objs.size + 1) s.heap.objs.size 0 .none → h'.get? s.heap.objs.size = some o → h'.objs.size = s.heap.objs.size + 2 →
      (∀ b o, s.heap.get? b = some o → h'.get? b = some o) → Q (.ref (s.heap.objs.size + 1)) { s with heap := h' }) :
    wpAny (model prog w) A (call (.type "enumerate") [v]) Q E s := by
  refine callType_new F.called_enumerate (by decide) (F.typeCall_enumerate_1 _) (F.newCall_enumerate_1 _) (fun obj => F.args_object_init_2 obj _) F.entry_enumerate_new (meets_enum_one B) ⟨h1, ?_⟩
  have hz : (s.heap.push o).objs.size = s.heap.objs.size + 1 := Heap.size_push ..
  show _ ∧ _
  rw [hz]
  have he : IsEnum ((s.heap.push o).push { cls := .type "enumerate", data := .fields #[.none, .bool false, .ref s.heap.objs.size, rawInt 0, .none, .none] }) (s.heap.objs.size + 1) s.heap.objs.size 0 .none := by
    have := Heap.get?_push_size (s.heap.push o) (o := { cls := .type "enumerate", data := .fields #[.none, .bool false, .ref s.heap.objs.size, rawInt 0, .none, .none] }) rfl
    rw [hz] at this; exact this
  refine ⟨⟨_, he, rfl⟩, h _ he (Heap.get?_push_of_some _ (Heap.get?_push_size _ B.free)) (by rw [Heap.size_push, hz]) fun b o x => Heap.get?_push_of_some _ (Heap.get?_push_of_some _ x)⟩
end PySem
namespace DL
open PySem PySem.Spec PyProof.Rows L2 Evl

/-! ### a Turn from a WalksT -/
/-- the pairs that come: a new tuple of what Y tells -/
def Jt (R : Hp → Prop) (n : Nat) (Y : Nat → Hp → List V → Prop) : It :=
  ⟨fun i H => R H ∧ i < n, fun i H v H' => ∃ T xs, v = .ref T ∧ H T = none ∧ H' = upd H T (.tup xs) ∧ Y i H xs, fun i H => R H ∧ i = n⟩
theorem turn_walks {P : Program} {w : World} {K : PySem.W.Frag} {elts : List Expr} {kk : Nat} {tpos : Pos} {it : Addr} {fp : List Addr} {n : Nat} {R : Hp → Prop} {Y : Nat → Hp → List V → Prop} {tn : Nat → Heap → Prop}
    (mem : it ∈ fp) (obj : ∀ i h, tn i h → ∀ b ∈ fp, ∃ o, h.get? b = some o ∧ ∀ v, o.data ≠ .cell v)
    (keep : ∀ i h h', tn i h → (∀ b ∈ fp, ∀ o, h.get? b = some o → h'.get? b = some o) → tn i h')
    (self : ∀ (A : Around) (i : Nat) (s : Shared) (Q : Value → Shared → Prop) (E : Value → Shared → Prop), tn i s.heap → Q (.ref it) s → wpAny (model P w) A (pyIter (.ref it)) Q E s)
    (wk : ∀ (X : Cx), X.prog = P → X.w = w → X.K = K → X.calm = true → ∀ (i : Nat) (pins : List (Addr × Obj)) (s : Shared) (σ : L2.St) (H : Hp), Inv X pins σ H s → (∀ b ∈ fp, FpOk X pins H b) → tn i s.heap → R H →
      ∃ fpA wr Pt St Mid, (∀ b ∈ wr, b ∈ fp) ∧ WalksT P w X.A it fpA wr n Pt St Mid ∧ St i s.heap ∧ (∀ j h, St j h → tn j h) ∧ ∀ vals, Pt i vals → ∃ xs, Vals xs vals.toList ∧ xs.length ≤ 3 ∧ Y i H xs) :
    Turn P w K (.Tuple elts kk tpos) (Jt R n Y) fp it tn where
  mem := mem
  obj := obj
  keep := keep
  self := self
  item := by
    intro X hP hw hK hc i pins s σ H E I hf st hg
    obtain ⟨fpA, wr, Pt, St, Mid, sub, W, hst, back, vals⟩ := wk X hP hw hK hc i pins s σ H I hf st hg.1
    subst hP hw hK
    refine W.item i s _ E hg.2 hst fun T vs h' tk hp hT htup hmid hk => ⟨_, rfl, ?_⟩
    refine W.go elts kk tpos i T { s with heap := h', toks := tk } _ E hmid fun h'' hst' hk' => ?_
    obtain ⟨xs, rv, hl, hy⟩ := vals vs hp
    have hap := W.apart i T h' hmid
    have htup2 : IsTup h'' T vs := by
      obtain ⟨o, ho, r⟩ := htup
      exact ⟨o, hk' T o hap ho, r⟩
    have new : ObjOk X.prog X.w (upd H T (.tup xs)) h'' T (.tup xs) := ⟨Nat.le_trans hl (by rw [sizeLine_eq]; decide), vs.toList, rv, by simpa using htup2⟩
    have I1 : Inv X pins σ (upd H T (.tup xs)) { s with heap := h'', toks := tk } :=
      I.turnedNew (ch := wr) (fun b o hb q => hk' b o hb (hk b o hb q)) (fun b hb => hf b (sub b hb)) hT new
    refine ⟨.ref T, _, I1, rfl, ⟨T, xs, rfl, I.hok.fresh hT, rfl, hy⟩, back _ _ hst', fun b hb => ?_⟩
    obtain ⟨o, ho, _⟩ := obj i s.heap st b hb
    rw [upd_ne (Nat.ne_of_lt (Nat.lt_of_lt_of_le (Heap.lt_size ho) hT))]
    exact (hf b hb).1
  done := by
    intro X hP hw hK hc i pins s σ H E I hf st hg
    obtain ⟨fpA, wr, Pt, St, Mid, sub, W, hst, back, vals⟩ := wk X hP hw hK hc i pins s σ H I hf st hg.1
    subst hP hw hK
    have e := hg.2
    subst e
    exact W.done s _ E hst fun h' tk hk => ⟨rfl, I.turnedL (t' := tk) (ch := wr) hk fun b hb => hf b (sub b hb)⟩

/-! ### what can be drawn from -/
inductive Sk where
  | L (a : Addr) | T (a : Addr) | S (z : Str) (t : Tok)
def Sk.val : Sk → Value
  | .L a => .ref a
  | .T a => .ref a
  | .S z t => .str z t
def Sk.rd (K : PySem.W.Frag) (H : Hp) : Sk → List V → Prop
  | .L a, xs => SqL K H a xs
  | .T a, xs => SqT K H a xs
  | .S z _, xs => xs = z.cps.toList.map fun c => V.str ⟨#[c]⟩
def Sk.it (h : Heap) (it : Addr) (i : Nat) : Sk → Prop
  | .L a => h.IsListIter it a i
  | .T a => h.IsTupleIter it a i
  | .S z t => h.IsStrIter it (strIterType z) z t i
def Sk.obj : Sk → Obj
  | .L a => { cls := .type "list_iterator", data := .fields #[.ref a, .int 0 0] }
  | .T a => { cls := .type "tuple_iterator", data := .fields #[.ref a, .int 0 0] }
  | .S z t => { cls := .type (strIterType z), data := .fields #[.str z t, .int 0 0] }
def Sk.fr : Sk → List Addr
  | .L a => [a]
  | .T a => [a]
  | .S _ _ => []
theorem Sk.rd_mono {K : PySem.W.Frag} {G H : Hp} (x : Ex G H) {k : Sk} {xs : List V} (h : k.rd K G xs) : k.rd K H xs := by
  cases k with
  | L a => exact ex_l x h
  | T a => exact ex_t x h
  | S z t => exact h
theorem Sk.it_obj {h : Heap} {it : Addr} {i : Nat} {k : Sk} (q : k.it h it i) : ∃ o, h.get? it = some o ∧ ∀ v, o.data ≠ .cell v := by
  cases k with
  | L a => obtain ⟨o, ho, hc, hd⟩ := q; exact ⟨o, ho, fun v z => by rw [hd] at z; cases z⟩
  | T a => obtain ⟨o, ho, hc, hd⟩ := q; exact ⟨o, ho, fun v z => by rw [hd] at z; cases z⟩
  | S z t => obtain ⟨o, ho, hc, hd⟩ := q; exact ⟨o, ho, fun v z => by rw [hd] at z; cases z⟩
theorem Sk.it_keep {h h' : Heap} {it : Addr} {i : Nat} {k : Sk} (q : k.it h it i) (e : ∀ o, h.get? it = some o → h'.get? it = some o) : k.it h' it i := by
  cases k with
  | L a => obtain ⟨o, ho, r⟩ := q; exact ⟨o, e o ho, r⟩
  | T a => obtain ⟨o, ho, r⟩ := q; exact ⟨o, e o ho, r⟩
  | S z t => obtain ⟨o, ho, r⟩ := q; exact ⟨o, e o ho, r⟩
theorem Sk.it_new {h : Heap} {it : Addr} {k : Sk} (e : h.get? it = some k.obj) : k.it h it 0 := by
  cases k with
  | L a => exact ⟨_, e, rfl, rfl⟩
  | T a => exact ⟨_, e, rfl, rfl⟩
  | S z t => exact ⟨_, e, rfl, rfl⟩
section
variable {X : Cx} {pins : List (Addr × Obj)} {σ : L2.St} {H : Hp} {s : Shared}
theorem Sk.draws {P : Program} {w : World} {A : Around} {k : Sk} {xs : List V} {it : Addr} {i : Nat} (I : Inv X pins σ H s) (hh : A.handled = none) (rd : k.rd X.K H xs) (hit : k.it s.heap it i) :
    ∃ Pt St, Draws P w A it (it :: k.fr) xs.length Pt St ∧ St i s.heap ∧ (∀ j h, St j h → k.it h it j) ∧ ∀ (j : Nat) u, Pt j u → ∃ x, xs[j]? = some x ∧ RelV x u := by
  cases k with
  | L a =>
    obtain ⟨its, rv, p, hz⟩ := I.list rd
    have hne : a ≠ it := by
      rintro rfl
      obtain ⟨o, ho, hc, _⟩ := hit
      obtain ⟨o', ho', hc', _⟩ := p.isList
      rw [ho] at ho'; cases ho'
      have := hc.symm.trans hc'
      simp at this
    have hl : its.toArray.size = xs.length := by rw [List.size_toArray]; exact rv.length.symm
    refine ⟨_, _, hl ▸ Draws.list (prog := P) (w := w) (A := A) hh it a hne its.toArray, ⟨hit, p.isList⟩, fun j h q => q.1, fun j u q => ?_⟩
    have q' : its[j]? = some u := by simpa using q
    have hj : j < xs.length := by rw [rv.length]; exact (List.getElem?_eq_some_iff.mp q').1
    obtain ⟨u', hu, r⟩ := rv.get (List.getElem?_eq_getElem hj)
    rw [q'] at hu; cases hu
    exact ⟨_, List.getElem?_eq_getElem hj, r⟩
  | T a =>
    obtain ⟨its, rv, p, hz⟩ := I.tuple rd
    have hne : a ≠ it := by
      rintro rfl
      obtain ⟨o, ho, hc, _⟩ := hit
      obtain ⟨o', ho', hc', _⟩ := id p
      rw [ho] at ho'; cases ho'
      have := hc.symm.trans hc'
      simp at this
    have hl : its.toArray.size = xs.length := by rw [List.size_toArray]; exact rv.length.symm
    refine ⟨_, _, hl ▸ Draws.tuple (prog := P) (w := w) (A := A) hh it a hne its.toArray, ⟨hit, p⟩, fun j h q => q.1, fun j u q => ?_⟩
    have q' : its[j]? = some u := by simpa using q
    have hj : j < xs.length := by rw [rv.length]; exact (List.getElem?_eq_some_iff.mp q').1
    obtain ⟨u', hu, r⟩ := rv.get (List.getElem?_eq_getElem hj)
    rw [q'] at hu; cases hu
    exact ⟨_, List.getElem?_eq_getElem hj, r⟩
  | S z t =>
    have rd' : xs = z.cps.toList.map fun c => V.str ⟨#[c]⟩ := rd
    have hl : z.cps.size = xs.length := by rw [rd']; simp
    refine ⟨_, _, hl ▸ Draws.text (prog := P) (w := w) (A := A) hh it z t, hit, fun j h q => q, fun j u q => ?_⟩
    obtain ⟨c, v, hc, rfl⟩ := q
    have hc' : z.cps.toList[j]? = some c := by simpa using hc
    exact ⟨.str ⟨#[c]⟩, by rw [rd', List.getElem?_map, hc']; rfl, ⟨v, rfl⟩⟩
theorem Sk.begins {k : Sk} {xs : List V} (I : Inv X pins σ H s) (rd : k.rd X.K H xs) : ∃ Q : Heap → Prop, Begins k.val k.obj Q ∧ Q s.heap ∧ ∀ b ∈ k.fr, b < s.heap.objs.size := by
  cases k with
  | L a =>
    obtain ⟨its, rv, p, hz⟩ := I.list rd
    exact ⟨_, begins_list a its.toArray, p.isList, fun b hb => by have : b = a := by simpa [Sk.fr] using hb
                                                                  subst this; exact p.lt⟩
  | T a =>
    obtain ⟨its, rv, p, hz⟩ := I.tuple rd
    refine ⟨_, begins_tuple a its.toArray, p, fun b hb => ?_⟩
    have : b = a := by simpa [Sk.fr] using hb
    subst this
    obtain ⟨o, ho, _⟩ := p
    exact Heap.lt_size ho
  | S z t => exact ⟨_, begins_text z t, trivial, fun b hb => by simp [Sk.fr] at hb⟩
end

/-! ### enumerate -/
def tnE (N : Nat) (k : Sk) (i : Nat) (h : Heap) : Prop := (∃ old, IsEnum h (N + 1) N ((i : Nat) : Int) old) ∧ k.it h N i
theorem turn_en {P : Program} {w : World} {K : PySem.W.Frag} {elts : List Expr} {kk : Nat} {tpos : Pos} (N : Nat) (k : Sk) (xs : List V) (hN : ∀ b ∈ k.fr, b < N) :
    Turn P w K (.Tuple elts kk tpos) (Jt (fun H => k.rd K H xs) xs.length fun i _ ys => ∃ x, xs[i]? = some x ∧ ys = [.int (i : Nat), x]) [N + 1, N] (N + 1) (tnE N k) :=
  turn_walks (by simp) (fun i h st b hb => by
    obtain ⟨⟨old, he⟩, hi⟩ := st
    have e' : b = N + 1 ∨ b = N := by simpa using hb
    rcases e' with z | z
    · rw [z]; exact ⟨_, he, fun v q => nomatch q⟩
    · rw [z]; exact (Sk.it_obj hi)) (fun i h h' st q => let ⟨⟨old, he⟩, hi⟩ := st; ⟨⟨old, q (N + 1) (by simp) _ he⟩, Sk.it_keep hi fun o z => q N (by simp) o z⟩)
    (fun A i s Q E st h => let ⟨⟨_, he⟩, _⟩ := st; wpAny_pyIter_enum he h)
    fun X hP hw hK hc i pins s σ H I hf st rd => by
      subst hP hw hK
      obtain ⟨⟨old, he⟩, hi⟩ := st
      obtain ⟨Pt, St, D, hst, back, vals⟩ := Sk.draws (P := X.prog) (w := X.w) (A := X.A.in1) I (show X.A.in1.handled = none from I.ok.hd hc) rd hi
      have hfr : N + 1 ∉ N :: k.fr := fun hm => by
        rcases List.mem_cons.mp hm with e | e
        · exact Nat.succ_ne_self N e
        · exact absurd (hN _ e) (Nat.not_lt.mpr (Nat.le_succ N))
      refine ⟨_, [N + 1, N], _, _, _, fun b hb => hb, WalksT.enumFrom 0 D (N + 1) (Nat.succ_ne_self N) hfr (by simp), ⟨⟨old, by rw [Int.zero_add]; exact he⟩, hst⟩, fun j h q => ⟨?_, back j h q.2⟩, fun vs q => ?_⟩
      · obtain ⟨⟨old, he⟩, _⟩ := q
        rw [Int.zero_add] at he
        exact ⟨old, he⟩
      · obtain ⟨t, x, hx, rfl⟩ := q
        obtain ⟨y, hy, r⟩ := vals i x hx
        rw [Int.zero_add]
        exact ⟨[.int (i : Nat), y], .cons ⟨_, rfl⟩ (.cons r .nil), by simp, y, hy, rfl⟩
/-! ### zip -/
def tnZ2 (N : Nat) (k1 k2 : Sk) (i : Nat) (h : Heap) : Prop := IsZip h (N + 4) (N + 2) (N + 3) .none ∧ IsTupOf2 h (N + 2) (.ref N) (.ref (N + 1)) ∧ (∃ a1 a2, IsTupOf2 h (N + 3) a1 a2) ∧ k1.it h N i ∧ k2.it h (N + 1) i
theorem turn_z2 {P : Program} {w : World} {K : PySem.W.Frag} {elts : List Expr} {kk : Nat} {tpos : Pos} (N : Nat) (k1 k2 : Sk) (xs ys : List V) (h1 : ∀ b ∈ k1.fr, b < N) (h2 : ∀ b ∈ k2.fr, b < N) :
    Turn P w K (.Tuple elts kk tpos) (Jt (fun H => k1.rd K H xs ∧ k2.rd K H ys) (min xs.length ys.length) fun i _ zs => ∃ x y, xs[i]? = some x ∧ ys[i]? = some y ∧ zs = [x, y]) [N + 4, N + 2, N + 3, N, N + 1] (N + 4) (tnZ2 N k1 k2) :=
  turn_walks (by simp) (fun i h st b hb => by
    obtain ⟨hz, hTI, ⟨a1, a2, hTO⟩, hi1, hi2⟩ := st
    have e' : b = N + 4 ∨ b = N + 2 ∨ b = N + 3 ∨ b = N ∨ b = N + 1 := by simpa using hb
    rcases e' with z | z | z | z | z
    · rw [z]; exact ⟨_, hz, fun v q => nomatch q⟩
    · rw [z]; exact ⟨_, hTI, fun v q => nomatch q⟩
    · rw [z]; exact ⟨_, hTO, fun v q => nomatch q⟩
    · rw [z]; exact (Sk.it_obj hi1)
    · rw [z]; exact (Sk.it_obj hi2)) (fun i h h' st q => let ⟨hz, hTI, ⟨a1, a2, hTO⟩, hi1, hi2⟩ := st; ⟨q _ (by simp) _ hz, q _ (by simp) _ hTI, ⟨a1, a2, q _ (by simp) _ hTO⟩, Sk.it_keep hi1 fun o z => q _ (by simp) o z, Sk.it_keep hi2 fun o z => q _ (by simp) o z⟩)
    (fun A i s Q E st h => wpAny_pyIter_zip st.1 h)
    fun X hP hw hK hc i pins s σ H I hf st rd => by
      subst hP hw hK
      obtain ⟨hz, hTI, hTO, hi1, hi2⟩ := st
      obtain ⟨Pt1, St1, D1, hst1, back1, vals1⟩ := Sk.draws (P := X.prog) (w := X.w) (A := X.A.in1) I (show X.A.in1.handled = none from I.ok.hd hc) rd.1 hi1
      obtain ⟨Pt2, St2, D2, hst2, back2, vals2⟩ := Sk.draws (P := X.prog) (w := X.w) (A := X.A.in1) I (show X.A.in1.handled = none from I.ok.hd hc) rd.2 hi2
      refine ⟨_, [N + 4, N + 3, N, N + 1], _, _, _, fun b hb => ?_, WalksT.zipD2 (zip_sep2 h1 h2) D1 D2, ⟨hz, hTI, hTO, hst1, hst2⟩, fun j h q => ⟨q.1, q.2.1, q.2.2.1, back1 j h q.2.2.2.1, back2 j h q.2.2.2.2⟩, fun vs q => ?_⟩
      · have e' : b = N + 4 ∨ b = N + 3 ∨ b = N ∨ b = N + 1 := by simpa using hb
        rcases e' with z | z | z | z <;> simp [z]
      · obtain ⟨x, y, hx, hy, rfl⟩ := q
        obtain ⟨x', hx', r1⟩ := vals1 i x hx
        obtain ⟨y', hy', r2⟩ := vals2 i y hy
        exact ⟨[x', y'], .cons r1 (.cons r2 .nil), by simp, x', y', hx', hy', rfl⟩
def tnZ3 (N : Nat) (k1 k2 k3 : Sk) (i : Nat) (h : Heap) : Prop := IsZip h (N + 5) (N + 3) (N + 4) .none ∧ IsTupOf3 h (N + 3) (.ref N) (.ref (N + 1)) (.ref (N + 2)) ∧ (∃ a1 a2 a3, IsTupOf3 h (N + 4) a1 a2 a3) ∧ k1.it h N i ∧ k2.it h (N + 1) i ∧ k3.it h (N + 2) i
theorem turn_z3 {P : Program} {w : World} {K : PySem.W.Frag} {elts : List Expr} {kk : Nat} {tpos : Pos} (N : Nat) (k1 k2 k3 : Sk) (xs ys us : List V) (h1 : ∀ b ∈ k1.fr, b < N) (h2 : ∀ b ∈ k2.fr, b < N) (h3 : ∀ b ∈ k3.fr, b < N) :
    Turn P w K (.Tuple elts kk tpos) (Jt (fun H => k1.rd K H xs ∧ k2.rd K H ys ∧ k3.rd K H us) (min (min xs.length ys.length) us.length) fun i _ zs => ∃ x y u, xs[i]? = some x ∧ ys[i]? = some y ∧ us[i]? = some u ∧ zs = [x, y, u]) [N + 5, N + 3, N + 4, N, N + 1, N + 2] (N + 5) (tnZ3 N k1 k2 k3) :=
  turn_walks (by simp) (fun i h st b hb => by
    obtain ⟨hz, hTI, ⟨a1, a2, a3, hTO⟩, hi1, hi2, hi3⟩ := st
    have e' : b = N + 5 ∨ b = N + 3 ∨ b = N + 4 ∨ b = N ∨ b = N + 1 ∨ b = N + 2 := by simpa using hb
    rcases e' with z | z | z | z | z | z
    · rw [z]; exact ⟨_, hz, fun v q => nomatch q⟩
    · rw [z]; exact ⟨_, hTI, fun v q => nomatch q⟩
    · rw [z]; exact ⟨_, hTO, fun v q => nomatch q⟩
    · rw [z]; exact (Sk.it_obj hi1)
    · rw [z]; exact (Sk.it_obj hi2)
    · rw [z]; exact (Sk.it_obj hi3)) (fun i h h' st q => let ⟨hz, hTI, ⟨a1, a2, a3, hTO⟩, hi1, hi2, hi3⟩ := st; ⟨q _ (by simp) _ hz, q _ (by simp) _ hTI, ⟨a1, a2, a3, q _ (by simp) _ hTO⟩, Sk.it_keep hi1 fun o z => q _ (by simp) o z, Sk.it_keep hi2 fun o z => q _ (by simp) o z, Sk.it_keep hi3 fun o z => q _ (by simp) o z⟩)
    (fun A i s Q E st h => wpAny_pyIter_zip st.1 h)
    fun X hP hw hK hc i pins s σ H I hf st rd => by
      subst hP hw hK
      obtain ⟨hz, hTI, hTO, hi1, hi2, hi3⟩ := st
      obtain ⟨Pt1, St1, D1, hst1, back1, vals1⟩ := Sk.draws (P := X.prog) (w := X.w) (A := X.A.in1) I (show X.A.in1.handled = none from I.ok.hd hc) rd.1 hi1
      obtain ⟨Pt2, St2, D2, hst2, back2, vals2⟩ := Sk.draws (P := X.prog) (w := X.w) (A := X.A.in1) I (show X.A.in1.handled = none from I.ok.hd hc) rd.2.1 hi2
      obtain ⟨Pt3, St3, D3, hst3, back3, vals3⟩ := Sk.draws (P := X.prog) (w := X.w) (A := X.A.in1) I (show X.A.in1.handled = none from I.ok.hd hc) rd.2.2 hi3
      refine ⟨_, [N + 5, N + 4, N, N + 1, N + 2], _, _, _, fun b hb => ?_, WalksT.zipD3 (zip_sep3 h1 h2 h3) D1 D2 D3, ⟨hz, hTI, hTO, hst1, hst2, hst3⟩, fun j h q => ⟨q.1, q.2.1, q.2.2.1, back1 j h q.2.2.2.1, back2 j h q.2.2.2.2.1, back3 j h q.2.2.2.2.2⟩, fun vs q => ?_⟩
      · have e' : b = N + 5 ∨ b = N + 4 ∨ b = N ∨ b = N + 1 ∨ b = N + 2 := by simpa using hb
        rcases e' with z | z | z | z | z <;> simp [z]
      · obtain ⟨x, y, u, hx, hy, hu, rfl⟩ := q
        obtain ⟨x', hx', r1⟩ := vals1 i x hx
        obtain ⟨y', hy', r2⟩ := vals2 i y hy
        obtain ⟨u', hu', r3⟩ := vals3 i u hu
        exact ⟨[x', y', u'], .cons r1 (.cons r2 (.cons r3 .nil)), by simp, x', y', u', hx', hy', hu', rfl⟩
/-! ### the rules -/
/-- from data to a source -/
theorem sk_of {K : PySem.W.Frag} {F H : Hp} {v : V} {u : Value} {d : D} {ds : List D} (x : Ex F H) (dp : Dp K F v d) (r : RelV v u) (hi : itemsD d = some ds) : ∃ k : Sk, ∃ vs, k.val = u ∧ k.rd K F vs ∧ DpAll K F vs ds := by
  unfold itemsD at hi
  split at hi
  · cases hi
    obtain ⟨a, vs, rfl, h1, h2⟩ := dp_lst dp
    cases r
    exact ⟨.L a, vs, rfl, h1, h2⟩
  · cases hi
    obtain ⟨a, vs, rfl, h1, h2⟩ := dp_tup dp
    cases r
    exact ⟨.T a, vs, rfl, h1, h2⟩
  · cases hi
    have := dp_str dp
    subst this
    obtain ⟨t, rfl⟩ := r
    refine ⟨.S _ t, _, rfl, rfl, ?_⟩
    rename_i z
    generalize z.cps.toList = l
    induction l with
    | nil => exact .nil
    | cons c l ih => exact .cons (.str _) ih
  · cases hi
def enL (n : Nat) : List D → List D
  | [] => []
  | d :: ds => .tuple [.int n, d] :: enL (n + 1) ds
def z2L : List D → List D → List D
  | d :: ds, e :: es => .tuple [d, e] :: z2L ds es
  | _, _ => []
def z3L : List D → List D → List D → List D
  | d :: ds, e :: es, c :: cs => .tuple [d, e, c] :: z3L ds es cs
  | _, _, _ => []
def enA (f : FE) : FA := fun e => (f e).bind fun d => (itemsD d).map (enL 0)
def zp2 (f g : FE) : FA := fun e => (f e).bind fun c => (g e).bind fun d => (itemsD c).bind fun cs => (itemsD d).map (z2L cs)
def zp3 (f g h : FE) : FA := fun e => (f e).bind fun c => (g e).bind fun d => (h e).bind fun b => (itemsD c).bind fun cs => (itemsD d).bind fun ds => (itemsD b).map (z3L cs ds)
theorem enL_get : ∀ (ds : List D) (n i : Nat), (enL n ds)[i]? = (ds[i]?).map fun d => .tuple [.int ((n + i : Nat) : Int), d]
  | [], _, _ => rfl
  | d :: ds, n, 0 => rfl
  | d :: ds, n, i + 1 => by
    show (enL (n + 1) ds)[i]? = _
    rw [enL_get ds (n + 1) i]
    rw [show n + 1 + i = n + (i + 1) by omega]
    rfl
theorem enL_len : ∀ (ds : List D) (n : Nat), (enL n ds).length = ds.length
  | [], _ => rfl
  | d :: ds, n => congrArg (· + 1) (enL_len ds (n + 1))
theorem z2L_get : ∀ (cs ds : List D) (i : Nat), (z2L cs ds)[i]? = (cs[i]?).bind fun c => (ds[i]?).map fun d => .tuple [c, d]
  | [], _, _ => rfl
  | c :: cs, [], i => by
    cases h : (c :: cs)[i]? <;> rfl
  | c :: cs, d :: ds, 0 => rfl
  | c :: cs, d :: ds, i + 1 => z2L_get cs ds i
theorem z2L_len : ∀ (cs ds : List D), (z2L cs ds).length = min cs.length ds.length
  | [], _ => by simp [z2L]
  | c :: cs, [] => by simp [z2L]
  | c :: cs, d :: ds => by
    show (z2L cs ds).length + 1 = _
    rw [z2L_len cs ds]
    simp only [List.length_cons]
    omega
theorem z3L_get : ∀ (cs ds bs : List D) (i : Nat), (z3L cs ds bs)[i]? = (cs[i]?).bind fun c => (ds[i]?).bind fun d => (bs[i]?).map fun b => .tuple [c, d, b]
  | [], _, _, _ => rfl
  | c :: cs, [], _, i => by
    cases h : (c :: cs)[i]? <;> rfl
  | c :: cs, d :: ds, [], i => by
    cases h : (c :: cs)[i]? <;> cases h2 : (d :: ds)[i]? <;> rfl
  | c :: cs, d :: ds, b :: bs, 0 => rfl
  | c :: cs, d :: ds, b :: bs, i + 1 => z3L_get cs ds bs i
theorem z3L_len : ∀ (cs ds bs : List D), (z3L cs ds bs).length = min (min cs.length ds.length) bs.length
  | [], _, _ => by simp [z3L]
  | c :: cs, [], _ => by simp [z3L]
  | c :: cs, d :: ds, [] => by simp [z3L]
  | c :: cs, d :: ds, b :: bs => by
    show (z3L cs ds bs).length + 1 = _
    rw [z3L_len cs ds bs]
    simp only [List.length_cons]
    omega
theorem wlk_t {K : PySem.W.Frag} {G F : Hp} {R : Hp → Prop} {Y : Nat → Hp → List V → Prop} {n : Nat} {ds : List D} (hn : ds.length = n) (hR : ∀ H, Ex G H → R H)
    (hY : ∀ (i : Nat) H d xs, ds[i]? = some d → Y i H xs → ∃ es, d = .tuple es ∧ DpAll K F xs es) : Wlk K (Jt R n Y) G F ds := fun i F1 H1 hi x1 x2 x3 => by
  refine ⟨fun d hd => ⟨⟨hR _ x3, by rw [← hn]; exact (List.getElem?_eq_some_iff.mp hd).1⟩, fun x H2 hy => ?_⟩, fun hd => ⟨hR _ x3, ?_⟩⟩
  · obtain ⟨T, xs, rfl, hT, rfl, hy⟩ := hy
    obtain ⟨es, rfl, dp⟩ := hY i H1 d xs hd hy
    exact ⟨upd F1 T (.tup xs), Gr.new x2 hT, .tup (SqT.of upd_same) (dpa_mono (Ex.new (fresh_back x2 hT)) (dpa_mono x1 dp))⟩
  · have := List.getElem?_eq_none_iff.mp hd
    omega
section
variable {X : Cx} {e e2 e3 : Expr} {f g h : FE} {p pos tpos : Pos} {elts : List Expr} {kk : Nat}
theorem di_enum (hm : X.mg "enumerate" = none) (hc : X.calm = true) (h : DE X e f) (hg : Gl X "enumerate" := by rfl) (hs : starEach [e] X.env = [(false, eval e X.env)] := by rfl) : DI X (.Tuple elts kk tpos) (.Call (.Name "enumerate" p) [e] [] pos) (enA f) := by
  refine ⟨fun pins s σ H R I hw => ?_⟩
  obtain ⟨B, F0, F, env, ds, ok, fe, q⟩ := hw
  obtain ⟨d, hd, fe⟩ := bind1 fe
  obtain ⟨cs, hcs, rfl⟩ := Option.map_eq_some_iff.mp fe
  have ha : PA X [e] (TAr X.K (consA f nilA)) := da_cons h da_nil hs
  refine Call_ (ld_blt I hg hm boot_enumerate (PyProof.Rows.callWith_type1 (thn (ha.run pos pins s σ H (fun vs H1 => ∃ F1 v, vs = [v] ∧ Gr F H F1 H1 ∧ Dp X.K F1 v d) I ⟨B, F0, F, env, [d], ok, by simp [consA, nilA, hd], fun vs F1 H1 g1 dp => ?_⟩) fun us s1 ⟨vs, H1, I1, r1, q1⟩ => ?_) hs rfl))
  · cases dp with
    | cons d1 d2 => cases d2; exact ⟨F1, _, rfl, g1, d1⟩
  · obtain ⟨F1, v, rfl, g1, dp⟩ := q1
    obtain ⟨u, rfl, ru⟩ := vals1 r1
    obtain ⟨k, vs, hk, rd, dpa⟩ := sk_of g1.fh dp ru hcs
    obtain ⟨Qh, Bg, hq, hlt⟩ := Sk.begins I1 (Sk.rd_mono g1.fh rd)
    rw [hk] at Bg
    refine enum_one Bg hq fun h' he ho hsz hkp => wpAny_pyIter_enum he ?_
    have I2 : Inv X pins σ H1 { s1 with heap := h' } := I1.kept (t' := s1.toks) hkp
    refine ⟨s1.heap.objs.size + 1, [s1.heap.objs.size + 1, s1.heap.objs.size], _, _, H1, rfl, I2, turn_en s1.heap.objs.size k vs hlt, ⟨⟨.none, he⟩, Sk.it_new ho⟩, fun b hb => ?_, q _ F1 H1 g1 (wlk_t (by rw [enL_len, dpa_len dpa]) (fun H x => Sk.rd_mono x rd) fun i H d xs hd hy => ?_)⟩
    · have e' : b = s1.heap.objs.size + 1 ∨ b = s1.heap.objs.size := by simpa using hb
      have hle : s1.heap.objs.size ≤ b := by
        rcases e' with z | z
        · rw [z]; exact Nat.le_add_right _ _
        · rw [z]; exact Nat.le_refl _
      exact I1.fpOk hle (I1.hok.fresh hle)
    · obtain ⟨x, hx, rfl⟩ := hy
      rw [enL_get] at hd
      obtain ⟨c, hc, rfl⟩ := Option.map_eq_some_iff.mp hd
      obtain ⟨c', hc', dc⟩ := dpa_getV dpa hx
      have := Option.some.inj (hc.symm.trans hc')
      subst this
      rw [Nat.zero_add]
      exact ⟨_, rfl, .cons (.int _) (.cons dc .nil)⟩
theorem di_zip2 (hm : X.mg "zip" = none) (hc : X.calm = true) (h : DE X e f) (h2 : DE X e2 g) (hg : Gl X "zip" := by rfl) (hs : starEach [e, e2] X.env = (false, eval e X.env) :: starEach [e2] X.env := by rfl) (hs2 : starEach [e2] X.env = (false, eval e2 X.env) :: starEach [] X.env := by rfl)
    (hpl : (backTo pos (starEach [e2] X.env)).any (·.1) = false := by rfl) : DI X (.Tuple elts kk tpos) (.Call (.Name "zip" p) [e, e2] [] pos) (zp2 f g) := by
  refine ⟨fun pins s σ H R I hw => ?_⟩
  obtain ⟨B, F0, F, env, ds, ok, fe, q⟩ := hw
  obtain ⟨c, d, hcc, hd, fe⟩ := bind2 fe
  obtain ⟨cs, hcs, fe⟩ := bind1 fe
  obtain ⟨dd, hds, rfl⟩ := Option.map_eq_some_iff.mp fe
  have ha : PA X [e, e2] (TAr X.K (consA f (consA g nilA))) := da_cons h (da_cons h2 da_nil hs2) hs
  refine Call_ (ld_blt I hg hm PyProof.Rows.boot_zip (PyProof.Rows.callWith_type1 (thn (ha.run pos pins s σ H (fun vs H1 => ∃ F1 v1 v2, vs = [v1, v2] ∧ Gr F H F1 H1 ∧ Dp X.K F1 v1 c ∧ Dp X.K F1 v2 d) I ⟨B, F0, F, env, [c, d], ok, by simp [consA, nilA, hd, hcc], fun vs F1 H1 g1 dp => ?_⟩) fun us s1 ⟨vs, H1, I1, r1, q1⟩ => ?_) hs hpl))
  · cases dp with
    | cons d1 d2 => cases d2 with
      | cons d2 d3 => cases d3; exact ⟨F1, _, _, rfl, g1, d1, d2⟩
  · obtain ⟨F1, v1, v2, rfl, g1, dp1, dp2⟩ := q1
    obtain ⟨u1, u2, rfl, ru1, ru2⟩ := vals2 r1
    obtain ⟨k1, vs1, hk1, rd1, dpa1⟩ := sk_of g1.fh dp1 ru1 hcs
    obtain ⟨k2, vs2, hk2, rd2, dpa2⟩ := sk_of g1.fh dp2 ru2 hds
    obtain ⟨Q1, B1, hq1, hlt1⟩ := Sk.begins I1 (Sk.rd_mono g1.fh rd1)
    obtain ⟨Q2, B2, hq2, hlt2⟩ := Sk.begins I1 (Sk.rd_mono g1.fh rd2)
    rw [hk1] at B1
    rw [hk2] at B2
    refine zip_begins2 B1 B2 hq1 hq2 fun h' hz hTI hTO ho1 ho2 hsz hkp => wpAny_pyIter_zip hz ?_
    have I2 : Inv X pins σ H1 { s1 with heap := h' } := I1.kept (t' := s1.toks) hkp
    refine ⟨s1.heap.objs.size + 4, [s1.heap.objs.size + 4, s1.heap.objs.size + 2, s1.heap.objs.size + 3, s1.heap.objs.size, s1.heap.objs.size + 1], _, _, H1, rfl, I2, turn_z2 s1.heap.objs.size k1 k2 vs1 vs2 hlt1 hlt2, ⟨hz, hTI, ⟨_, _, hTO⟩, Sk.it_new ho1, Sk.it_new ho2⟩, fun b hb => ?_, q _ F1 H1 g1 (wlk_t (by rw [z2L_len, dpa_len dpa1, dpa_len dpa2]) (fun H x => ⟨Sk.rd_mono x rd1, Sk.rd_mono x rd2⟩) fun i H d xs hd hy => ?_)⟩
    · have e' : b = s1.heap.objs.size + 4 ∨ b = s1.heap.objs.size + 2 ∨ b = s1.heap.objs.size + 3 ∨ b = s1.heap.objs.size ∨ b = s1.heap.objs.size + 1 := by simpa using hb
      have hle : s1.heap.objs.size ≤ b := by
        rcases e' with z | z | z | z | z
        · rw [z]; exact Nat.le_add_right _ _
        · rw [z]; exact Nat.le_add_right _ _
        · rw [z]; exact Nat.le_add_right _ _
        · rw [z]; exact Nat.le_refl _
        · rw [z]; exact Nat.le_add_right _ _
      exact I1.fpOk hle (I1.hok.fresh hle)
    · obtain ⟨x, y, hx, hy, rfl⟩ := hy
      obtain ⟨c1, hc1, dc1⟩ := dpa_getV dpa1 hx
      obtain ⟨c2, hc2, dc2⟩ := dpa_getV dpa2 hy
      rw [z2L_get, hc1, hc2] at hd
      cases hd
      exact ⟨_, rfl, .cons dc1 (.cons dc2 .nil)⟩
theorem di_zip3 (hm : X.mg "zip" = none) (hc : X.calm = true) (h1 : DE X e f) (h2 : DE X e2 g) (h3 : DE X e3 h) (hg : Gl X "zip" := by rfl) (hs : starEach [e, e2, e3] X.env = (false, eval e X.env) :: starEach [e2, e3] X.env := by rfl) (hs2 : starEach [e2, e3] X.env = (false, eval e2 X.env) :: starEach [e3] X.env := by rfl)
    (hs3 : starEach [e3] X.env = (false, eval e3 X.env) :: starEach [] X.env := by rfl) (hpl : (backTo pos (starEach [e2, e3] X.env)).any (·.1) = false := by rfl) : DI X (.Tuple elts kk tpos) (.Call (.Name "zip" p) [e, e2, e3] [] pos) (zp3 f g h) := by
  refine ⟨fun pins s σ H R I hw => ?_⟩
  obtain ⟨B, F0, F, env, ds, ok, fe, q⟩ := hw
  obtain ⟨c, d, hcc, hd, fe⟩ := bind2 fe
  obtain ⟨b, cs, hbb, hcs, fe⟩ := bind2 fe
  obtain ⟨dd, hds, fe⟩ := bind1 fe
  obtain ⟨bs, hbs, rfl⟩ := Option.map_eq_some_iff.mp fe
  have ha : PA X [e, e2, e3] (TAr X.K (consA f (consA g (consA h nilA)))) := da_cons h1 (da_cons h2 (da_cons h3 da_nil hs3) hs2) hs
  refine Call_ (ld_blt I hg hm PyProof.Rows.boot_zip (PyProof.Rows.callWith_type1 (thn (ha.run pos pins s σ H (fun vs H1 => ∃ F1 v1 v2 v3, vs = [v1, v2, v3] ∧ Gr F H F1 H1 ∧ Dp X.K F1 v1 c ∧ Dp X.K F1 v2 d ∧ Dp X.K F1 v3 b) I ⟨B, F0, F, env, [c, d, b], ok, by simp [consA, nilA, hd, hcc, hbb], fun vs F1 H1 g1 dp => ?_⟩) fun us s1 ⟨vs, H1, I1, r1, q1⟩ => ?_) hs hpl))
  · cases dp with
    | cons d1 d2 => cases d2 with
      | cons d2 d3 => cases d3 with
        | cons d3 d4 => cases d4; exact ⟨F1, _, _, _, rfl, g1, d1, d2, d3⟩
  · obtain ⟨F1, v1, v2, v3, rfl, g1, dp1, dp2, dp3⟩ := q1
    cases r1 with
    | cons ru1 r1 => cases r1 with
      | cons ru2 r1 => cases r1 with
        | cons ru3 r1 =>
          cases r1
          obtain ⟨k1, vs1, hk1, rd1, dpa1⟩ := sk_of g1.fh dp1 ru1 hcs
          obtain ⟨k2, vs2, hk2, rd2, dpa2⟩ := sk_of g1.fh dp2 ru2 hds
          obtain ⟨k3, vs3, hk3, rd3, dpa3⟩ := sk_of g1.fh dp3 ru3 hbs
          obtain ⟨Q1, B1, hq1, hlt1⟩ := Sk.begins I1 (Sk.rd_mono g1.fh rd1)
          obtain ⟨Q2, B2, hq2, hlt2⟩ := Sk.begins I1 (Sk.rd_mono g1.fh rd2)
          obtain ⟨Q3, B3, hq3, hlt3⟩ := Sk.begins I1 (Sk.rd_mono g1.fh rd3)
          rw [hk1] at B1
          rw [hk2] at B2
          rw [hk3] at B3
          refine zip_begins3 B1 B2 B3 hq1 hq2 hq3 fun h' hz hTI hTO ho1 ho2 ho3 hsz hkp => wpAny_pyIter_zip hz ?_
          have I2 : Inv X pins σ H1 { s1 with heap := h' } := I1.kept (t' := s1.toks) hkp
          refine ⟨s1.heap.objs.size + 5, [s1.heap.objs.size + 5, s1.heap.objs.size + 3, s1.heap.objs.size + 4, s1.heap.objs.size, s1.heap.objs.size + 1, s1.heap.objs.size + 2], _, _, H1, rfl, I2, turn_z3 s1.heap.objs.size k1 k2 k3 vs1 vs2 vs3 hlt1 hlt2 hlt3, ⟨hz, hTI, ⟨_, _, _, hTO⟩, Sk.it_new ho1, Sk.it_new ho2, Sk.it_new ho3⟩, fun b hb => ?_, q _ F1 H1 g1 (wlk_t (by rw [z3L_len, dpa_len dpa1, dpa_len dpa2, dpa_len dpa3]) (fun H x => ⟨Sk.rd_mono x rd1, Sk.rd_mono x rd2, Sk.rd_mono x rd3⟩) fun i H d xs hd hy => ?_)⟩
          · have e' : b = s1.heap.objs.size + 5 ∨ b = s1.heap.objs.size + 3 ∨ b = s1.heap.objs.size + 4 ∨ b = s1.heap.objs.size ∨ b = s1.heap.objs.size + 1 ∨ b = s1.heap.objs.size + 2 := by simpa using hb
            have hle : s1.heap.objs.size ≤ b := by
              rcases e' with z | z | z | z | z | z
              · rw [z]; exact Nat.le_add_right _ _
              · rw [z]; exact Nat.le_add_right _ _
              · rw [z]; exact Nat.le_add_right _ _
              · rw [z]; exact Nat.le_refl _
              · rw [z]; exact Nat.le_add_right _ _
              · rw [z]; exact Nat.le_add_right _ _
            exact I1.fpOk hle (I1.hok.fresh hle)
          · obtain ⟨x, y, u, hx, hy, hu, rfl⟩ := hy
            obtain ⟨c1, hc1, dc1⟩ := dpa_getV dpa1 hx
            obtain ⟨c2, hc2, dc2⟩ := dpa_getV dpa2 hy
            obtain ⟨c3, hc3, dc3⟩ := dpa_getV dpa3 hu
            rw [z3L_get, hc1, hc2, hc3] at hd
            cases hd
            exact ⟨_, rfl, .cons dc1 (.cons dc2 (.cons dc3 .nil))⟩
@[simp] theorem e_enA {e : DEnv} : enA f e = (f e).bind fun d => (itemsD d).map (enL 0) := (rfl)
@[simp] theorem e_zp2 {e : DEnv} : zp2 f g e = (f e).bind fun c => (g e).bind fun d => (itemsD c).bind fun cs => (itemsD d).map (z2L cs) := (rfl)
@[simp] theorem e_zp3 {e : DEnv} : zp3 f g h e = (f e).bind fun c => (g e).bind fun d => (h e).bind fun b => (itemsD c).bind fun cs => (itemsD d).bind fun ds => (itemsD b).map (z3L cs ds) := (rfl)
end
end DL

/-! DLay10: tuples cut by steps. -/
namespace HT
open PySem PySem.Spec PyProof.Rows
section
variable {prog : Program} {w : World} {A : Around} {E : Value → Shared → Prop} {s : Shared}
theorem sliceApplied_st {sl : Addr} {vl vu vs : Value} {lo hi : Option Int} {st : Int} {n : Nat} {Q : Int × Int × Nat → Shared → Prop} (hs : s.heap.IsSliceOf sl vl vu vs) (pl : IsPart vl lo) (pu : IsPart vu hi) (ps : IsPart vs (some st)) (h0 : st ≠ 0)
    (h : Q ((Builtin.Slice.sliceAdjust lo hi st (n : Int)).1, st, Builtin.Slice.slicePlaces (Builtin.Slice.sliceAdjust lo hi st (n : Int)).1 (Builtin.Slice.sliceAdjust lo hi st (n : Int)).2 st) s) : wpAny (model prog w) A (Builtin.Slice.sliceApplied (.ref sl) (pure (n : Int))) Q E s := by
  obtain ⟨os, hos, hcs, hds⟩ := id hs
  unfold Builtin.Slice.sliceApplied Builtin.Slice.sliceFields
  refine wpAny_bind (wpAny_bind (wpAny_field hos hds (x := vl) rfl (wpAny_bind (wpAny_field hos hds (x := vu) rfl (wpAny_bind (wpAny_field hos hds (x := vs) rfl (wpAny_pure ?_)))))))
  refine wpAny_bind (slicePart_ ps ?_)
  show wpAny _ _ (if (st == 0) = true then _ else _) _ _ s
  rw [if_neg (by simpa using h0)]
  refine wpAny_bind (slicePart_ pl (wpAny_bind (slicePart_ pu (wpAny_bind (wpAny_pure ?_)))))
  show wpAny _ _ (match Builtin.Slice.sliceAdjust lo hi st (n : Int) with | (lo, hi) => pure (lo, st, Builtin.Slice.slicePlaces lo hi st)) _ _ s
  generalize Builtin.Slice.sliceAdjust lo hi st (n : Int) = r at h ⊢
  obtain ⟨a, b⟩ := r
  exact wpAny_pure h
theorem getItem_tuple_step {t sl : Addr} {items : Array Value} {vl vu vs : Value} {lo hi : Option Int} {st : Int} {Q : Value → Shared → Prop} (ht : IsTup s.heap t items) (hs : s.heap.IsSliceOf sl vl vu vs) (pl : IsPart vl lo) (pu : IsPart vu hi) (ps : IsPart vs (some st)) (h0 : st ≠ 0) (h1 : st ≠ 1)
    (hz : Builtin.Slice.slicePlaces (Builtin.Slice.sliceAdjust lo hi st (items.size : Int)).1 (Builtin.Slice.sliceAdjust lo hi st (items.size : Int)).2 st ≤ sizeLine)
    (h : Q (.ref s.heap.objs.size) { s with heap := s.heap.push { cls := .type "tuple", data := .seq ((List.range (Builtin.Slice.slicePlaces (Builtin.Slice.sliceAdjust lo hi st (items.size : Int)).1 (Builtin.Slice.sliceAdjust lo hi st (items.size : Int)).2 st)).filterMap fun (m : Nat) => items[((Builtin.Slice.sliceAdjust lo hi st (items.size : Int)).1 + (m : Int) * st).toNat]?).toArray } }) : wpAny (model prog w) A (getItem (.ref t) (.ref sl)) Q E s := by
  obtain ⟨os, hos, hcs, hds⟩ := id hs
  have hTs : s.TypeIs (.ref sl) "slice" := ⟨os, hos, hcs⟩
  unfold getItem
  try with_reducible refine wpAny_holding ?_
  first | refine wpAny_bind (wpAny_pure ?_) | skip
  refine wpAny_bind (wpAny_sequenceKey ht.typeIs (by decide) ?_)
  refine wpAny_bind (wpAny_callSpecial?_slot (name := Str.ofString "__getitem__") ht.typeIs PyProof.Rows.slot_tuple_getitem
    (wpAny_call_entry PyProof.Rows.slot_tuple_getitem ht.typeIs entry_tuple_getitem ?_ (args_tuple_getitem _ _)))
  show wpAny _ _ (Builtin.Tuple.tupleItemsOf (.ref t) >>= _) _ _ s
  refine wpAny_bind (tupleItemsOf_ ht ?_)
  refine wpAny_bind (wpAny_typeOf hTs ?_)
  rw [if_pos (by decide)]
  refine wpAny_bind (sliceApplied_st hs pl pu ps h0 ?_)
  generalize (Builtin.Slice.sliceAdjust lo hi st (items.size : Int)).1 = a at h hz ⊢
  generalize Builtin.Slice.slicePlaces a (Builtin.Slice.sliceAdjust lo hi st (items.size : Int)).2 st = n at h hz ⊢
  have htake : sizeOk (.seq ((List.range n).filterMap fun (m : Nat) => items[(a + (m : Int) * st).toNat]?).toArray) := by
    show ((List.range n).filterMap fun (m : Nat) => items[(a + (m : Int) * st).toNat]?).toArray.size ≤ sizeLine
    rw [List.size_toArray]
    refine Nat.le_trans (List.length_filterMap_le _ _) ?_
    rw [List.length_range]
    exact hz
  have hno : ¬ ((a == 0 && st == 1 && n == items.size) = true) := by
    intro q
    rw [Bool.and_eq_true, Bool.and_eq_true] at q
    exact h1 (eq_of_beq q.1.2)
  show wpAny _ _ (if (a == 0 && st == 1 && n == items.size) = true then _ else _) _ _ s
  rw [if_neg hno]
  first
    | exact wpAny_bind (m := Builtin.Tuple.tupleExact _) (wpAny_newObj_type (wpAny_pure ⟨_, rfl, wpAny_pure h⟩) htake)
    | exact wpAny_bind (m := Builtin.Tuple.tupleExact _) (wpAny_newObj_type (wpAny_bind (wpAny_pure (wpAny_pure ⟨_, rfl, wpAny_pure h⟩))) htake)
    | exact wpAny_bind (wpAny_bind (m := Builtin.Tuple.tupleExact _) (wpAny_newObj_type (wpAny_pure (wpAny_pure ⟨_, rfl, wpAny_pure h⟩)) htake))
    | exact wpAny_bind (wpAny_bind (m := Builtin.Tuple.tupleExact _) (wpAny_newObj_type (wpAny_pure ⟨_, rfl, wpAny_pure h⟩) htake))
end
end HT
namespace DL
open PySem PySem.Spec PyProof.Rows L2 Evl
/-- how many, where -/
def stN (n : Nat) (lo hi : Option Int) (st : Int) : Nat := Builtin.Slice.slicePlaces (Builtin.Slice.sliceAdjust lo hi st (n : Int)).1 (Builtin.Slice.sliceAdjust lo hi st (n : Int)).2 st
def stAt (n : Nat) (lo hi : Option Int) (st : Int) (m : Nat) : Nat := ((Builtin.Slice.sliceAdjust lo hi st (n : Int)).1 + (m : Int) * st).toNat
def stL {α : Type} (xs : List α) (lo hi : Option Int) (st : Int) : List α := (List.range (stN xs.length lo hi st)).filterMap fun m => xs[stAt xs.length lo hi st m]?
def stepD (d : D) (lo hi : Option Int) (st : Option Int) : Option D := match d, st with
  | .tuple xs, some st => if (decide (st ≠ 0) && decide (st ≠ 1) && sml (stN xs.length lo hi st)) = true then some (.tuple (stL xs lo hi st)) else none
  | _, _ => none
def slS (f : FE) (l h s : FO) : FE := fun e => (f e).bind fun x => (l e).bind fun lo => (h e).bind fun hi => (s e).bind fun st => stepD x lo hi st
theorem dpa_at {K : PySem.W.Frag} {F : Hp} : ∀ {vs : List V} {ds : List D}, DpAll K F vs ds → ∀ i : Nat, (vs[i]? = none ∧ ds[i]? = none) ∨ ∃ v d, vs[i]? = some v ∧ ds[i]? = some d ∧ Dp K F v d
  | _, _, .nil, i => .inl ⟨by simp, by simp⟩
  | _, _, .cons h hs, 0 => .inr ⟨_, _, rfl, rfl, h⟩
  | _, _, .cons h hs, i + 1 => by simpa using dpa_at hs i
theorem dpa_pick {K : PySem.W.Frag} {F : Hp} {vs : List V} {ds : List D} (h : DpAll K F vs ds) (g : Nat → Nat) : ∀ ks : List Nat, DpAll K F (ks.filterMap fun m => vs[g m]?) (ks.filterMap fun m => ds[g m]?)
  | [] => .nil
  | k :: ks => by
    have ih := dpa_pick h g ks
    rcases dpa_at h (g k) with ⟨h1, h2⟩ | ⟨v, d, h1, h2, h3⟩
    · simp only [List.filterMap_cons, h1, h2]; exact ih
    · simp only [List.filterMap_cons, h1, h2]; exact .cons h3 ih
theorem vals_at : ∀ {vs : List V} {us : List Value}, Vals vs us → ∀ i : Nat, (vs[i]? = none ∧ us[i]? = none) ∨ ∃ v u, vs[i]? = some v ∧ us[i]? = some u ∧ RelV v u
  | _, _, .nil, i => .inl ⟨by simp, by simp⟩
  | _, _, .cons h hs, 0 => .inr ⟨_, _, rfl, rfl, h⟩
  | _, _, .cons h hs, i + 1 => by simpa using vals_at hs i
theorem vals_pick {vs : List V} {us : List Value} (h : Vals vs us) (g : Nat → Nat) : ∀ ks : List Nat, Vals (ks.filterMap fun m => vs[g m]?) (ks.filterMap fun m => us[g m]?)
  | [] => .nil
  | k :: ks => by
    have ih := vals_pick h g ks
    rcases vals_at h (g k) with ⟨h1, h2⟩ | ⟨v, d, h1, h2, h3⟩
    · simp only [List.filterMap_cons, h1, h2]; exact ih
    · simp only [List.filterMap_cons, h1, h2]; exact .cons h3 ih
section
variable {X : Cx} {e : Expr} {lo hi : Option Expr} {st : Expr} {te : TE} {tl th ts : TO} {f : FE} {l h s : FO} {pos p2 : Pos}
def tSlS (K : PySem.W.Frag) (te : TE) (tl th ts : TO) : TE := fun σ H Q => te σ H fun x H1 => tl σ H1 fun lo H2 => th σ H2 fun hi H3 => ts σ H3 fun st H4 => ∃ a xs k, x = .ref a ∧ SqT K H4 a xs ∧ st = some k ∧ k ≠ 0 ∧ k ≠ 1 ∧ stN xs.length lo hi k ≤ sizeLine ∧ ∀ p, H4 p = none → Q (.ref p) (upd H4 p (.tup (stL xs lo hi k)))
theorem pe_sliceS (he : PE X e te) (hl : PO X lo tl) (hu : PO X hi th) (hs : PO X (some st) ts) : PE X (.Subscript e (.Slice lo hi (some st) p2) pos) (tSlS X.K te tl th ts) := by
  refine ⟨fun pins s σ H Q I h => ?_⟩
  refine Subscript_ (thn (he.run pins s σ H _ I h) fun v s1 ⟨x, H1, I1, r1, q1⟩ => ?_)
  refine wpAny_Slice (thn (hl.run pins s1 σ H1 _ I1 q1) fun vl s2 ⟨l, H2, I2, pl, q2⟩ => thn (hu.run pins s2 σ H2 _ I2 q2) fun vu s3 ⟨u, H3, I3, pu, q3⟩ => thn (hs.run pins s3 σ H3 _ I3 q3) fun vs s4 ⟨k', H4, I4, ps, q4⟩ => ?_)
  obtain ⟨a, xs, k, rfl, hx, rfl, h0, h1, hn, q⟩ := q4
  cases r1
  have I5 : Inv X pins σ H4 { s4 with heap := s4.heap.push { cls := .type "slice", data := .fields #[vl, vu, vs] } } := I4.kept (t' := s4.toks) fun b ob q => Heap.get?_push_of_some _ q
  obtain ⟨its, r, ht, hz⟩ := I5.tuple hx
  have hlen : its.toArray.size = xs.length := by rw [List.size_toArray]; exact r.length.symm
  show wpAny (model X.prog X.w) X.A (subscriptTail e (.Slice lo hi (some st) p2) (.ref a) (.ref s4.heap.objs.size)) (EP X pins σ Q) X.xe { s4 with heap := s4.heap.push { cls := .type "slice", data := .fields #[vl, vu, vs] } }
  refine tail_any (ops := [.ref a, .ref s4.heap.objs.size]) ht.typeIs PyProof.Rows.slot_tuple_getitem.lookup ?_ (by with_unfolding_all rfl)
  refine HT.getItem_tuple_step ht (Heap.IsSliceOf.new _ vl vu vs) pl pu ps h0 h1 (by rw [hlen]; exact hn) ?_
  rw [hlen]
  have hv := vals_pick r (stAt xs.length l u k) (List.range (stN xs.length l u k))
  refine ⟨.ref _, _, I5.laid (t' := s4.toks) (o := .tup (stL xs l u k)) (fun b ob q => Heap.get?_push_of_some _ q) (Nat.le_refl _) ?_, rfl, q _ (I5.hok.fresh (Nat.le_refl _))⟩
  refine ⟨Nat.le_trans (List.length_filterMap_le _ _) (by rw [List.length_range]; exact hn), _, hv, ?_⟩
  have e1 : (fun (m : Nat) => its.toArray[((Builtin.Slice.sliceAdjust l u k (xs.length : Int)).1 + (m : Int) * k).toNat]?) = fun m => its[stAt xs.length l u k m]? := by
    funext m
    simp [stAt]
  rw [e1]
  exact IsTup.new _ _
theorem de_sliceS (he : DR X e f) (hl : DO X lo l) (hh : DO X hi h) (hs : DO X (some st) s) : DE X (.Subscript e (.Slice lo hi (some st) p2) pos) (slS f l h s) :=
  pe_imp (pe_sliceS he hl hh hs) fun σ H Q ⟨B, F0, F, e, d, ok, fe, q⟩ => by
  obtain ⟨x, hx, fe⟩ := bind1 fe
  obtain ⟨lo, hi, hlo, hhi, fe⟩ := bind2 fe
  obtain ⟨st, hst, fe⟩ := bind1 fe
  refine ⟨B, F0, F, e, x, ok, hx, fun v F1 H1 g1 r1 => ⟨B, F0, F1, e, lo, ok.grow g1, hlo, fun F2 H2 g2 => ⟨B, F0, F2, e, hi, (ok.grow g1).grow g2, hhi, fun F3 H3 g3 => ⟨B, F0, F3, e, st, ((ok.grow g1).grow g2).grow g3, hst, fun F4 H4 g4 => ?_⟩⟩⟩⟩
  have r4 := ((r1.grow g2).grow g3).grow g4
  have q4 : Kn X.K F4 H4 d Q := fun w F' H' g5 dp => q w F' H' ((((g1.trans g2).trans g3).trans g4).trans g5) dp
  unfold stepD at fe
  split at fe
  · split at fe
    · rename_i hz
      cases fe
      rw [Bool.and_eq_true, Bool.and_eq_true, decide_eq_true_eq, decide_eq_true_eq] at hz
      have r5 := rs_tupF r4
      obtain ⟨a, vs, rfl, s1, d1⟩ := dp_tup r5
      refine ⟨a, vs, _, rfl, ex_t g4.fh s1, rfl, hz.1.1, hz.1.2, by rw [dpa_len d1]; exact Nat.le_trans (sml_le hz.2) big_line, fun p hp => ?_⟩
      refine q4.tupN g4.fh ?_ hp
      unfold stL
      rw [dpa_len d1]
      exact dpa_pick d1 _ _
    · cases fe
  · cases fe
@[simp] theorem e_slS {env : DEnv} : slS f l h s env = (f env).bind fun x => (l env).bind fun lo => (h env).bind fun hi => (s env).bind fun st => stepD x lo hi st := (rfl)
end
/-- xs[::-1] -/
theorem stL_rev {α : Type} (xs : List α) : stL xs none none (-1) = xs.reverse := by
  have h1 : stN xs.length none none (-1) = xs.length := by
    simp only [stN, Builtin.Slice.sliceAdjust, Builtin.Slice.slicePlaces]
    split <;> split <;> simp_all <;> omega
  have h2 : ∀ m, m < xs.length → stAt xs.length none none (-1) m = xs.length - 1 - m := fun m hm => by
    simp only [stAt, Builtin.Slice.sliceAdjust]
    simp
    omega
  unfold stL
  rw [h1]
  have key : ∀ n, n ≤ xs.length → (List.range n).filterMap (fun m => xs[stAt xs.length none none (-1) m]?) = (xs.reverse).take n := by
    intro n
    induction n with
    | zero => intro _; simp
    | succ n ih =>
      intro hn
      rw [List.range_succ, List.filterMap_append, ih (by omega), List.take_add_one]
      congr 1
      rw [List.getElem?_reverse (by omega), ← h2 n (by omega)]
      rw [List.getElem?_eq_getElem (by rw [h2 n (by omega)]; omega)]
      simp [List.filterMap_cons, List.getElem?_eq_getElem (show stAt xs.length none none (-1) n < xs.length by rw [h2 n (by omega)]; omega)]
  rw [key _ (Nat.le_refl _), ← List.length_reverse, List.take_length]
theorem step_rev {xs : List D} (h : xs.length ≤ 100000) : stepD (.tuple xs) none none (some (-1)) = some (.tuple xs.reverse) := by
  have h1 : stN xs.length none none (-1) = xs.length := by
    simp only [stN, Builtin.Slice.sliceAdjust, Builtin.Slice.slicePlaces]
    split <;> split <;> simp_all <;> omega
  show (if (decide ((-1 : Int) ≠ 0) && decide ((-1 : Int) ≠ 1) && sml (stN xs.length none none (-1))) = true then some (PyData.tuple (stL xs none none (-1))) else none) = _
  rw [stL_rev, h1, sml_of h]
  rfl
end DL

/-! DLay11: dicts as data: displays, d[k], d.get(k, x), in. -/
namespace DL
open PySem PySem.Spec PyProof.Rows L2 Evl
def asKey : D → Option Key
  | .int i => some (.inl i)
  | .str x => some (.inr x)
  | _ => none
theorem asKey_keyD (k : Key) : asKey (keyD k) = some k := by cases k <;> rfl
def lookK (ds : List (D × D)) (k : Key) : Option D := (ds.find? fun p => decide (asKey p.1 = some k)).map (·.2)
def putKD (ds : List (D × D)) (k : Key) (d : D) : List (D × D) :=
  if (ds.any fun p => decide (asKey p.1 = some k)) = true then ds.map (fun p => if asKey p.1 = some k then (p.1, d) else p) else ds ++ [(keyD k, d)]
def mergeKD (ds : List (D × D)) (more : List (Key × D)) : List (D × D) := more.foldl (fun acc kv => putKD acc kv.1 kv.2) ds
def dixD (d k : D) : Option D := match d with
  | .dict ds => (asKey k).bind (lookK ds)
  | _ => none
def dgetD (d k x : D) : Option D := match d with
  | .dict ds => (asKey k).map fun k => (lookK ds k).getD x
  | _ => none
section
variable {K : PySem.W.Frag} {F : Hp}
theorem dpk_look (k : Key) : ∀ {kvs : List (Key × V)} {ds : List (D × D)}, DpKv K F kvs ds → (valV kvs k = none ∧ lookK ds k = none) ∨ ∃ v d, valV kvs k = some v ∧ lookK ds k = some d ∧ Dp K F v d
  | _, _, .nil => .inl ⟨rfl, rfl⟩
  | _, _, .cons (k := k') h hs => by
    by_cases e : k' = k
    · refine .inr ⟨_, _, valV_pos e, ?_, h⟩
      simp [lookK, List.find?_cons, asKey_keyD, e]
    · have h1 : ∀ {v : V} {kvs : List (Key × V)}, valV ((k', v) :: kvs) k = valV kvs k := fun {v kvs} => valV_neg (p := (k', v)) e
      have h2 : ∀ {d : D} {ds : List (D × D)}, lookK ((keyD k', d) :: ds) k = lookK ds k := fun {d ds} => by simp [lookK, List.find?_cons, asKey_keyD, e]
      rw [h1, h2]
      exact dpk_look k hs
theorem dpk_any (k : Key) : ∀ {kvs : List (Key × V)} {ds : List (D × D)}, DpKv K F kvs ds → (kvs.any fun kv => decide (kv.1 = k)) = ds.any fun p => decide (asKey p.1 = some k)
  | _, _, .nil => rfl
  | _, _, .cons (k := k') h hs => by
    rw [List.any_cons, List.any_cons, dpk_any k hs, asKey_keyD]
    simp
theorem dpk_map (k : Key) {v : V} {d : D} (h0 : Dp K F v d) : ∀ {kvs : List (Key × V)} {ds : List (D × D)}, DpKv K F kvs ds → DpKv K F (kvs.map (fun kv => if kv.1 = k then (kv.1, v) else kv)) (ds.map (fun p => if asKey p.1 = some k then (p.1, d) else p))
  | _, _, .nil => .nil
  | _, _, .cons (k := k') h hs => by
    rw [List.map_cons, List.map_cons]
    by_cases e : k' = k
    · have e2 : asKey (keyD k') = some k := by rw [asKey_keyD, e]
      simp only [if_pos e, if_pos e2]
      exact .cons h0 (dpk_map k h0 hs)
    · have e2 : ¬ asKey (keyD k') = some k := by rw [asKey_keyD]; simpa using e
      simp only [if_neg e, if_neg e2]
      exact .cons h (dpk_map k h0 hs)
theorem dpk_snoc {k : Key} {v : V} {d : D} (h0 : Dp K F v d) : ∀ {kvs : List (Key × V)} {ds : List (D × D)}, DpKv K F kvs ds → DpKv K F (kvs ++ [(k, v)]) (ds ++ [(keyD k, d)])
  | _, _, .nil => .cons h0 .nil
  | _, _, .cons h hs => .cons h (dpk_snoc h0 hs)
theorem dpk_put (k : Key) {v : V} {d : D} (h0 : Dp K F v d) {kvs : List (Key × V)} {ds : List (D × D)} (h : DpKv K F kvs ds) : DpKv K F (putK kvs k v) (putKD ds k d) := by
  unfold putK putKD
  rw [dpk_any k h]
  split
  · exact dpk_map k h0 h
  · exact dpk_snoc h0 h
/-- pairs of a display -/
inductive KvD (K : PySem.W.Frag) (F : Hp) : List (Key × V) → List (Key × D) → Prop
  | nil : KvD K F [] []
  | cons {k : Key} {v : V} {d : D} {kvs : List (Key × V)} {kds : List (Key × D)} : Dp K F v d → KvD K F kvs kds → KvD K F ((k, v) :: kvs) ((k, d) :: kds)
theorem kvd_len : ∀ {kvs : List (Key × V)} {kds : List (Key × D)}, KvD K F kvs kds → kvs.length = kds.length
  | _, _, .nil => rfl
  | _, _, .cons _ hs => congrArg (· + 1) (kvd_len hs)
theorem dpk_merge : ∀ {more : List (Key × V)} {mds : List (Key × D)} {kvs : List (Key × V)} {ds : List (D × D)}, KvD K F more mds → DpKv K F kvs ds → DpKv K F (mergeK kvs more) (mergeKD ds mds)
  | _, _, _, _, .nil, h => h
  | _, _, _, _, .cons h hs, q => dpk_merge (kvs := putK _ _ _) (ds := putKD _ _ _) hs (dpk_put _ h q)
theorem dp_dic {v : V} {ds : List (D × D)} (h : Dp K F v (.dict ds)) : ∃ a kvs, v = .ref a ∧ Rd F a (.dK kvs) ∧ DpKv K F kvs ds := by
  cases h with
  | dic h hs => exact ⟨_, _, rfl, h, hs⟩
theorem dp_key {v : V} {d : D} {k : Key} (h : Dp K F v d) (hk : asKey d = some k) : v = kV k := by
  unfold asKey at hk
  split at hk
  · cases hk; exact dp_int h
  · cases hk; exact dp_str h
  · cases hk
end
def c3 (G : D → D → D → Option D) (f g h : FE) : FE := fun e => (f e).bind fun x => (g e).bind fun y => (h e).bind fun z => G x y z
abbrev FK := DEnv → Option (List (Key × D))
def nilK : FK := fun _ => some []
def consK (fk fv : FE) (fr : FK) : FK := fun e => (fk e).bind fun k => (asKey k).bind fun kk => (fv e).bind fun v => (fr e).map ((kk, v) :: ·)
def dspD (f : FK) : FE := fun e => (f e).bind fun kds => if Nat.ble kds.length 15 = true then some (.dict (mergeKD [] kds)) else none
section
variable {X : Cx} {pos : Pos} {k v : Expr} {ks : List (Option Expr)} {vs : List Expr} {fk fv f g h : FE} {fr : FK} {o i : Expr}
def TKd (K : PySem.W.Frag) (f : FK) : L2.St → Hp → (List (V × V) → Hp → Prop) → Prop := fun σ H Q => ∃ B F0 F e kds, Ok K B F0 F σ H e ∧ f e = some kds ∧ ∀ kvs F' H', Gr F H F' H' → KvD K F' kvs kds → Q (kvs.map fun kv => (kV kv.1, kv.2)) H'
def DK (X : Cx) (pos : Pos) (ks : List (Option Expr)) (vs : List Expr) (f : FK) : Prop := ∃ trs, PPs X pos ks vs trs ∧ ∀ σ H Q, TKd X.K f σ H Q → tPairs trs σ H Q
theorem kvd_mono {K : PySem.W.Frag} {F F' : Hp} (x : Ex F F') : ∀ {kvs : List (Key × V)} {kds : List (Key × D)}, KvD K F kvs kds → KvD K F' kvs kds
  | _, _, .nil => .nil
  | _, _, .cons h hs => .cons (dp_mono x h) (kvd_mono x hs)
theorem dk_nil : DK X pos [] [] nilK := ⟨[], pps_nil, fun σ H Q ⟨B, F0, F, e, kds, ok, fe, q⟩ => by
  cases fe
  exact q [] F H (Gr.refl ok.fh) .nil⟩
theorem dk_cons (hk : DE X k fk) (hv : DE X v fv) (hr : DK X pos ks vs fr) : DK X pos (some k :: ks) (v :: vs) (consK fk fv fr) := by
  obtain ⟨trs, h1, h2⟩ := hr
  refine ⟨_, pps_cons hk hv h1, fun σ H Q ⟨B, F0, F, e, kds, ok, fe, q⟩ => ?_⟩
  obtain ⟨x, hx, fe⟩ := bind1 fe
  obtain ⟨kk, hkk, fe⟩ := bind1 fe
  obtain ⟨d, hd, fe⟩ := bind1 fe
  obtain ⟨rs, hrs, rfl⟩ := Option.map_eq_some_iff.mp fe
  refine ⟨B, F0, F, e, x, ok, hx, fun v1 F1 H1 g1 d1 => ⟨B, F0, F1, e, d, ok.grow g1, hd, fun v2 F2 H2 g2 d2 => h2 _ _ _ ⟨B, F0, F2, e, rs, (ok.grow g1).grow g2, hrs, fun kvs F3 H3 g3 d3 => ?_⟩⟩⟩
  rw [dp_key d1 hkk]
  exact q ((kk, v2) :: kvs) F3 H3 ((g1.trans g2).trans g3) (.cons (dp_mono g3.ff d2) d3)
theorem de_disp (h : DK X pos ks vs fr) (hall : ks.all (·.isSome) = true := by rfl) (hl : ks.length = vs.length := by rfl) (h0 : ks ≠ [] := by exact fun h => nomatch h) (h15 : ks.length ≤ 15 := by decide) : DE X (.Dict ks vs pos) (dspD fr) := by
  obtain ⟨trs, h1, h2⟩ := h
  refine pe_imp (pe_disp h1 hall hl h0 h15) fun σ H Q ⟨B, F0, F, e, d, ok, fe, q⟩ p hp => ?_
  obtain ⟨kds, hk, fe⟩ := bind1 fe
  split at fe
  · rename_i hz
    cases fe
    have g0 : Gr F H F (upd H p (.dK [])) := Gr.loose ok.fh hp
    refine h2 _ _ _ ⟨B, F0, F, e, kds, ok.grow g0, hk, fun kvs F' H' g dk => ?_⟩
    have hp' : H' p = some (.dK []) := g.hh _ _ upd_same
    have hf : F' p = none := (g.nf p _ upd_same).trans (fresh_back ok.fh hp)
    refine ⟨hp', kvs, rfl, by rw [kvd_len dk]; exact Nat.le_of_ble_eq_true hz, ?_⟩
    have g1 : Gr F H F' (upd H' p (.dK (mergeK [] kvs))) := (g0.trans g).mut hp hf
    have g2 : Gr F H (upd F' p (.dK (mergeK [] kvs))) (upd H' p (.dK (mergeK [] kvs))) := g1.frz hp hf upd_same
    exact q _ _ _ g2 (.dic (.inl upd_same) (dpk_mono (Ex.new hf) (dpk_merge dk .nil)))
  · cases fe
theorem de_dix {r : Nat} (hr : Room r X.A) (ho : DE X o f) (hi : DE X i g) (hs : NoSl i := by exact fun _ _ => rfl) : DE X (.Subscript o i pos) (c2 dixD f g) :=
  pe_imp (pe_dget (by have := hr.units; omega) ho hi hs) fun σ H Q ⟨B, F0, F, e, d, ok, fe, q⟩ => by
  obtain ⟨x, y, hx, hy, fe⟩ := bind2 fe
  refine ⟨B, F0, F, e, x, ok, hx, fun v1 F1 H1 g1 d1 => ⟨B, F0, F1, e, y, ok.grow g1, hy, fun v2 F2 H2 g2 d2 => ?_⟩⟩
  unfold dixD at fe
  split at fe
  · obtain ⟨kk, hkk, fe⟩ := bind1 fe
    obtain ⟨a, kvs, rfl, hR, hD⟩ := dp_dic (dp_mono g2.ff d1)
    rcases dpk_look kk hD with ⟨_, h2⟩ | ⟨v, d', h1, h2, h3⟩
    · rw [h2] at fe; cases fe
    · rw [h2] at fe
      cases fe
      refine ⟨a, v, rfl, .inl ⟨kvs, kk, rd_mono g2.fh hR, dp_key d2 hkk, h1.symm⟩, q _ F2 H2 (g1.trans g2) h3⟩
  · cases fe
theorem de_dget {x : Expr} {apos : Pos} {r : Nat} (hr : Room r X.A) (ho : DE X o f) (hi : DE X i g) (hx : DE X x h) (m : M2 X o "get" apos i x pos := by exact ⟨rfl, rfl, rfl, rfl⟩) : DE X (.Call (.Attribute o "get" apos) [i, x] [] pos) (c3 dgetD f g h) :=
  pe_imp (pe_dget2 (by have := hr.units; omega) ho hi hx m) fun σ H Q ⟨B, F0, F, e, d, ok, fe, q⟩ => by
  obtain ⟨x, y, hx, hy, fe⟩ := bind2 fe
  obtain ⟨z, hz, fe⟩ := bind1 fe
  refine ⟨B, F0, F, e, x, ok, hx, fun v1 F1 H1 g1 d1 => ?_⟩
  unfold dgetD at fe
  split at fe
  · obtain ⟨kk, hkk, rfl⟩ := Option.map_eq_some_iff.mp fe
    obtain ⟨a, kvs, rfl, hR, hD⟩ := dp_dic d1
    refine ⟨a, rfl, .inl ⟨kvs, rd_mono g1.fh hR⟩, B, F0, F1, e, y, ok.grow g1, hy, fun v2 F2 H2 g2 d2 => ⟨B, F0, F2, e, z, (ok.grow g1).grow g2, hz, fun v3 F3 H3 g3 d3 => ⟨valV kvs kk, .inl ⟨kvs, kk, rd_mono g3.fh (rd_mono g3.ff (rd_mono g2.ff hR)), dp_key d2 hkk, rfl⟩, ?_⟩⟩⟩
    rcases dpk_look kk (dpk_mono g3.ff (dpk_mono g2.ff hD)) with ⟨h1, h2⟩ | ⟨v, d', h1, h2, h3⟩
    · rw [h1]
      refine q _ F3 H3 ((g1.trans g2).trans g3) ?_
      rw [h2]
      exact d3
    · rw [h1]
      refine q _ F3 H3 ((g1.trans g2).trans g3) ?_
      rw [h2]
      exact h3
  · cases fe
end
section
variable {fk fv f g h : FE} {fr : FK} {e : DEnv}
@[simp] theorem e_c3 {G : D → D → D → Option D} : c3 G f g h e = (f e).bind fun x => (g e).bind fun y => (h e).bind fun z => G x y z := (rfl)
@[simp] theorem e_nilK : nilK e = some [] := (rfl)
@[simp] theorem e_consK : consK fk fv fr e = (fk e).bind fun k => (asKey k).bind fun kk => (fv e).bind fun v => (fr e).map ((kk, v) :: ·) := (rfl)
@[simp] theorem e_dspD : dspD fr e = (fr e).bind fun kds => if Nat.ble kds.length 15 = true then some (.dict (mergeKD [] kds)) else none := (rfl)
@[simp] theorem e_asKeyI {i : Int} : asKey (.int i) = some (.inl i) := (rfl)
@[simp] theorem e_asKeyS {x : Str} : asKey (.str x) = some (.inr x) := (rfl)
@[simp] theorem e_dixD {ds : List (D × D)} {k : D} : dixD (.dict ds) k = (asKey k).bind (lookK ds) := (rfl)
@[simp] theorem e_dgetD {ds : List (D × D)} {k x : D} : dgetD (.dict ds) k x = (asKey k).map fun k => (lookK ds k).getD x := (rfl)
end
end DL

/-! DLay12: dicts and tuples of texts that the module holds. -/
namespace DL
open PySem PySem.Spec PyProof.Rows L2 Evl He
abbrev TabS := List (Str × Str)
def lookT (tab : TabS) (z : Str) : Option Str := (tab.find? fun p => decide (p.1 = z)).map (·.2)
def dinG (tab : TabS) (d : D) : Option D := match d with
  | .str z => some (.bool (lookT tab z).isSome)
  | _ => none
def dninG (tab : TabS) (d : D) : Option D := match d with
  | .str z => some (.bool (!(lookT tab z).isSome))
  | _ => none
def dixG (tab : TabS) (d : D) : Option D := match d with
  | .str z => (lookT tab z).map PyData.str
  | _ => none
def dgetG (tab : TabS) (d x : D) : Option D := match d with
  | .str z => some (match lookT tab z with
    | some y => .str y
    | none => x)
  | _ => none
/-! ### what is looked at -/
def entX (e : DictEntry) : Option (Str × Int × Str) := match e.key, e.val with
  | .str x _, .str y _ => some (x, e.hash, y)
  | _, _ => none
def entsIn (P : Params) (tab : TabS) : List (Option (Str × Int × Str)) := tab.map fun p => some (p.1, PyData.keyHash P p.1, p.2)
def dicX (K : PySem.W.Frag) (a : Addr) : Option (List (Option (Str × Int × Str))) := match K.lookup a with
  | some ⟨.type c, none, .dict es _, sl⟩ => (match decide (c = "dict") && (sl.isEmpty && !(a == sysModules)) with
    | true => some (es.toList.map entX)
    | false => none)
  | _ => none
structure GTab (K : PySem.W.Frag) (w : World) (d : Addr) (tab : TabS) : Prop where
  kd : ∃ es n, KDict K w d es n
  at_ : ∀ z, (∃ y t, lookT tab z = some y ∧ PySem.W.nsIn K d z = some (some (.str y t))) ∨ (lookT tab z = none ∧ PySem.W.nsIn K d z = some none)
theorem ents_lit {P : Params} : ∀ {l : List DictEntry} {tab : TabS}, l.map entX = entsIn P tab → PySem.W.KeysLit P l
  | [], _, _ => trivial
  | e :: r, [], h => by cases h
  | e :: r, p :: tab, h => by
    have h1 : entX e :: r.map entX = some (p.1, PyData.keyHash P p.1, p.2) :: entsIn P tab := h
    injection h1 with h2 h3
    refine ⟨?_, ents_lit h3⟩
    unfold entX at h2
    split at h2
    · rename_i x t y u q1 q2
      simp only [Option.some.injEq, Prod.mk.injEq] at h2
      exact ⟨x, t, q1, by rw [h2.2.1, h2.1]⟩
    · cases h2
theorem ents_find {P : Params} (z : Str) : ∀ {l : List DictEntry} {tab : TabS}, l.map entX = entsIn P tab →
    (∃ y t e, lookT tab z = some y ∧ l.find? (·.key.isStr z) = some e ∧ e.val = .str y t) ∨ (lookT tab z = none ∧ l.find? (·.key.isStr z) = none)
  | [], [], _ => .inr ⟨rfl, rfl⟩
  | [], _ :: _, h => by cases h
  | e :: r, [], h => by cases h
  | e :: r, p :: tab, h => by
    have h1 : entX e :: r.map entX = some (p.1, PyData.keyHash P p.1, p.2) :: entsIn P tab := h
    injection h1 with h2 h3
    have ih := ents_find z h3
    unfold entX at h2
    split at h2
    · rename_i x t y u q1 q2
      simp only [Option.some.injEq, Prod.mk.injEq] at h2
      obtain ⟨rfl, _, rfl⟩ := h2
      have hk : e.key.isStr z = decide (p.1 = z) := by
        rw [q1]
        show (p.1 == z) = _
        exact Bool.eq_iff_iff.mpr (by simp)
      by_cases hz : p.1 = z
      · refine .inl ⟨p.2, u, e, ?_, ?_, q2⟩
        · simp [lookT, List.find?_cons, hz]
        · rw [List.find?_cons, hk, decide_eq_true hz]
      · have e1 : lookT (p :: tab) z = lookT tab z := by simp [lookT, List.find?_cons, hz]
        have e2 : (e :: r).find? (·.key.isStr z) = r.find? (·.key.isStr z) := by rw [List.find?_cons, hk, decide_eq_false hz]
        rw [e1, e2]
        exact ih
    · cases h2
theorem ents_ref {P : Params} : ∀ {l : List DictEntry} {tab : TabS}, l.map entX = entsIn P tab → l.any (·.refKey) = false
  | [], _, _ => rfl
  | e :: r, [], h => by cases h
  | e :: r, p :: tab, h => by
    have h1 : entX e :: r.map entX = some (p.1, PyData.keyHash P p.1, p.2) :: entsIn P tab := h
    injection h1 with h2 h3
    rw [List.any_cons, ents_ref h3, Bool.or_false]
    unfold entX at h2
    split at h2
    · rename_i x t y u q1 q2
      unfold DictEntry.refKey
      rw [q1]
    · cases h2
theorem gtab_of {K : PySem.W.Frag} {w : World} {a : Addr} {tab : TabS} (h : dicX K a = some (entsIn w.params tab)) : GTab K w a tab := by
  unfold dicX at h
  cases q : K.lookup a with
  | none =>
    rw [q] at h
    cases h
  | some o =>
    obtain ⟨oc, od, dt, osl⟩ := o
    rw [q] at h
    cases oc with
    | type c =>
      cases od with
      | none =>
        cases dt with
        | dict es n =>
          have h1 : (match decide (c = "dict") && (osl.isEmpty && !(a == sysModules)) with
            | true => some (es.toList.map entX)
            | false => none) = some (entsIn w.params tab) := h
          cases z : decide (c = "dict") && (osl.isEmpty && !(a == sysModules)) with
          | false =>
            rw [z] at h1
            cases h1
          | true =>
            rw [z] at h1
            obtain ⟨z1, z2⟩ := ba z
            obtain ⟨z3, z4⟩ := ba z2
            have e1 : c = "dict" := of_decide_eq_true z1
            have e2 : osl = #[] := Array.isEmpty_iff.mp z3
            have e3 : (a == sysModules) = false := by
              cases y : a == sysModules with
              | false => rfl
              | true =>
                rw [y] at z4
                cases z4
            subst e1 e2
            have hm := Option.some.inj h1
            refine ⟨⟨es, n, q, ents_lit hm, e3⟩, fun zz => ?_⟩
            rcases ents_find zz hm with ⟨y, t, e, g1, g2, g3⟩ | ⟨g1, g2⟩
            · refine .inl ⟨y, t, g1, ?_⟩
              unfold PySem.W.nsIn
              rw [q]
              show (match es.toList.find? (·.key.isStr zz) with
                | some e => some (some e.val)
                | none => if es.toList.any (·.refKey) then none else some none) = _
              rw [g2]
              show some (some e.val) = _
              rw [g3]
            · refine .inr ⟨g1, ?_⟩
              unfold PySem.W.nsIn
              rw [q]
              show (match es.toList.find? (·.key.isStr zz) with
                | some e => some (some e.val)
                | none => if es.toList.any (·.refKey) then none else some none) = _
              rw [g2, ents_ref hm]
              rfl
        | _ => cases h
      | some b => cases dt <;> cases h
    | _ => cases od <;> cases dt <;> cases h
/-! ### the Hook -/
abbrev AlX : Type := AlD × List (Option (List (Option (Str × Int × Str)))) × Bool
def obsX (fa : List Fa) (fn : List DefD) (ts : List (Str × TabS)) (us : List (Str × List Dv)) (K : PySem.W.Frag) : AlX := (obsD fa fn K, ts.map (fun t => dicX K (ga K t.1)), us.all fun u => tupB K u.1 u.2)
def valX (fn : List DefD) (ts : List (Str × TabS)) (w : World) : AlX := (valD fn, ts.map (fun t => some (entsIn w.params t.2)), true)
def obsXG (n : Nat) (fa : List Fa) (fn : List DefD) (ts : List (Str × TabS)) (us : List (Str × List Dv)) (g : Addr → Option Obj) : AlX := obsX fa fn ts us (frG g (asD g n))
def SaysX (fa : List Fa) (fn : List DefD) (ts : List (Str × TabS)) (us : List (Str × List Dv)) (w : World) (K : PySem.W.Frag) : Prop := obsX fa fn ts us K = valX fn ts w
def hookX (n : Nat) (fa : List Fa) (fn : List DefD) (ts : List (Str × TabS)) (us : List (Str × List Dv)) : PySem.W.Hook where
  α := AlX
  obs := fun s => obsXG n fa fn ts us s.heap.get?
  val := fun w => valX fn ts w
  says := fun w h => ∃ K : PySem.W.Frag, K.In h ∧ SaysX fa fn ts us w K
  of := fun _ _ e => ⟨_, frG_in, e⟩
  keeps := fun _ _ _ ⟨K, hK, c⟩ k => ⟨K, PySem.W.Frag.In.keeps hK k, c⟩
theorem obsXG_eq {n : Nat} {fa : List Fa} {fn : List DefD} {ts : List (Str × TabS)} {us : List (Str × List Dv)} {g : Addr → Option Obj} {s : Shared} (h : ∀ a, g a = s.heap.get? a) : obsXG n fa fn ts us g = (hookX n fa fn ts us).obs s := by
  have e : g = s.heap.get? := funext h
  rw [e] <;> rfl
section
variable {fa : List Fa} {fn : List DefD} {ts : List (Str × TabS)} {us : List (Str × List Dv)} {w : World} {K : PySem.W.Frag}
theorem SaysX.d (c : SaysX fa fn ts us w K) : SaysD fa fn K := congrArg (fun z : AlX => z.1) c
theorem SaysX.tab (c : SaysX fa fn ts us w K) (i : Nat) {t : Str × TabS} (h : ts[i]? = some t := by rfl) : GTab K w (ga K t.1) t.2 := by
  have e : ts.map (fun t => dicX K (ga K t.1)) = ts.map fun t => some (entsIn w.params t.2) := congrArg (fun z : AlX => z.2.1) c
  have e2 : (ts.map fun t => dicX K (ga K t.1))[i]? = (ts.map fun t => some (entsIn w.params t.2))[i]? := by rw [e]
  rw [List.getElem?_map, List.getElem?_map, h] at e2
  exact gtab_of (Option.some.inj e2)
theorem SaysX.tup (c : SaysX fa fn ts us w K) (i : Nat) {u : Str × List Dv} (h : us[i]? = some u := by rfl) (H : Hp) : SqT K H (ga K u.1) (u.2.map (Dv.v K)) := by
  have e : (us.all fun u => tupB K u.1 u.2) = true := congrArg (fun z : AlX => z.2.2) c
  exact tupB_ok (List.all_eq_true.mp e u (List.mem_of_getElem? h)) H
end
/-! ### the rules -/
section
variable {X : Cx} {a b : Expr} {f g : FE} {x : Str} {d : Addr} {tab : TabS} {p pos apos : Pos}
theorem de_gtup {zs : List Str} (hg : Gl X x) (hm : X.mg x = some (.ref d)) (hs : ∀ H : Hp, SqT X.K H d (zs.map V.str)) (hd : (x == ("__debug__" : Str)) = false := by decide) : DE X (.Name x p) (cst (.tuple (zs.map PyData.str))) :=
  de_cst (v := .ref d) (pe_glob hg hm rfl hd) fun F => .tup (hs F) (by
    induction zs with
    | nil => exact .nil
    | cons z zs ih =>
      refine .cons (.str z) ?_
      clear ih hs
      induction zs with
      | nil => exact .nil
      | cons y ys ih => exact .cons (.str y) ih)
theorem de_gin (hm : X.mg x = some (.ref d)) (D : GTab X.K X.w d tab) (ha : DE X a f) (hg : Gl X x := by rfl) (hb : behindInMarks .In (.Name x p) = false := by rfl) (hd : (x == ("__debug__" : Str)) = false := by decide) : DE X (.Compare a [.In] [.Name x p] pos) (c1 (dinG tab) f) := by
  obtain ⟨es, n, kd⟩ := D.kd
  refine pe_imp (pe_cmpR (op_in_kd kd) ha (pe_glob (v := .ref d) hg hm rfl hd) hb) fun σ H Q ⟨B, F0, F, e, r, ok, fe, q⟩ => ?_
  obtain ⟨v, hv, fe⟩ := bind1 fe
  refine ⟨B, F0, F, e, v, ok, hv, fun v1 F1 H1 g1 d1 => ?_⟩
  unfold dinG at fe
  split at fe
  · rename_i z
    cases fe
    rcases D.at_ z with ⟨y, t, h1, h2⟩ | ⟨h1, h2⟩
    · refine ⟨z, _, dp_str d1, rfl, h2, ?_⟩
      have := q (.bl true) F1 H1 g1 (by rw [h1]; exact .bl true)
      exact this
    · refine ⟨z, _, dp_str d1, rfl, h2, ?_⟩
      have := q (.bl false) F1 H1 g1 (by rw [h1]; exact .bl false)
      exact this
  · cases fe
theorem de_gnin (hm : X.mg x = some (.ref d)) (D : GTab X.K X.w d tab) (ha : DE X a f) (hg : Gl X x := by rfl) (hb : behindInMarks .NotIn (.Name x p) = false := by rfl) (hd : (x == ("__debug__" : Str)) = false := by decide) : DE X (.Compare a [.NotIn] [.Name x p] pos) (c1 (dninG tab) f) := by
  obtain ⟨es, n, kd⟩ := D.kd
  refine pe_imp (pe_cmpR (op_notIn_kd kd) ha (pe_glob (v := .ref d) hg hm rfl hd) hb) fun σ H Q ⟨B, F0, F, e, r, ok, fe, q⟩ => ?_
  obtain ⟨v, hv, fe⟩ := bind1 fe
  refine ⟨B, F0, F, e, v, ok, hv, fun v1 F1 H1 g1 d1 => ?_⟩
  unfold dninG at fe
  split at fe
  · rename_i z
    cases fe
    rcases D.at_ z with ⟨y, t, h1, h2⟩ | ⟨h1, h2⟩
    · refine ⟨z, _, dp_str d1, rfl, h2, ?_⟩
      have := q (.bl false) F1 H1 g1 (by rw [h1]; exact .bl false)
      exact this
    · refine ⟨z, _, dp_str d1, rfl, h2, ?_⟩
      have := q (.bl true) F1 H1 g1 (by rw [h1]; exact .bl true)
      exact this
  · cases fe
theorem dt_gin (hm : X.mg x = some (.ref d)) (D : GTab X.K X.w d tab) (ha : DE X a f) (hg : Gl X x := by rfl) (hb : behindInMarks .In (.Name x p) = false := by rfl) (hd : (x == ("__debug__" : Str)) = false := by decide) : DT X (.Compare a [.In] [.Name x p] pos) (tst (c1 (dinG tab) f)) := by
  obtain ⟨es, n, kd⟩ := D.kd
  refine pt_imp (pt_cmpR (op_in_kd kd) ha (pe_glob (v := .ref d) hg hm rfl hd) hb) (tst_read fun σ H Q ⟨B, F0, F, e, r, ok, fe, q⟩ => ?_)
  obtain ⟨v, hv, fe⟩ := bind1 fe
  refine ⟨B, F0, F, e, v, ok, hv, fun v1 F1 H1 g1 d1 => ?_⟩
  unfold dinG at fe
  split at fe
  · rename_i z
    cases fe
    rcases D.at_ z with ⟨y, t, h1, h2⟩ | ⟨h1, h2⟩
    · refine ⟨z, _, dp_str d1, rfl, h2, ?_⟩
      have := q (.bl true) F1 H1 g1 (by rw [h1]; exact .bl true)
      exact this
    · refine ⟨z, _, dp_str d1, rfl, h2, ?_⟩
      have := q (.bl false) F1 H1 g1 (by rw [h1]; exact .bl false)
      exact this
  · cases fe
theorem dt_gnin (hm : X.mg x = some (.ref d)) (D : GTab X.K X.w d tab) (ha : DE X a f) (hg : Gl X x := by rfl) (hb : behindInMarks .NotIn (.Name x p) = false := by rfl) (hd : (x == ("__debug__" : Str)) = false := by decide) : DT X (.Compare a [.NotIn] [.Name x p] pos) (tst (c1 (dninG tab) f)) := by
  obtain ⟨es, n, kd⟩ := D.kd
  refine pt_imp (pt_cmpR (op_notIn_kd kd) ha (pe_glob (v := .ref d) hg hm rfl hd) hb) (tst_read fun σ H Q ⟨B, F0, F, e, r, ok, fe, q⟩ => ?_)
  obtain ⟨v, hv, fe⟩ := bind1 fe
  refine ⟨B, F0, F, e, v, ok, hv, fun v1 F1 H1 g1 d1 => ?_⟩
  unfold dninG at fe
  split at fe
  · rename_i z
    cases fe
    rcases D.at_ z with ⟨y, t, h1, h2⟩ | ⟨h1, h2⟩
    · refine ⟨z, _, dp_str d1, rfl, h2, ?_⟩
      have := q (.bl false) F1 H1 g1 (by rw [h1]; exact .bl false)
      exact this
    · refine ⟨z, _, dp_str d1, rfl, h2, ?_⟩
      have := q (.bl true) F1 H1 g1 (by rw [h1]; exact .bl true)
      exact this
  · cases fe
theorem ix_kd {es : Array DictEntry} {n : Nat} (kd : KDict X.K X.w d es n) : IxR X (fun x y H Q => ∃ (z : Str) (u0 : Value) (v0 : V), x = .ref d ∧ y = .str z ∧ PySem.W.nsIn X.K d z = some (some u0) ∧ RelV v0 u0 ∧ Q v0 H) := by
  intro value slice pins s σ H x y v u Q I rx ry h hs
  have h' := h
  obtain ⟨z, u0, v0, rfl, rfl, e, r, q⟩ := h'
  cases rx
  exact tail_any (ops := [.ref d, u]) (kd_type kd I) PySem.F.slot_dict_getitem.lookup (op_item_kd kd pins s σ H (.ref d) (.str z) (.ref d) u Q I rfl ry h) hs
theorem de_gdix {r : Nat} (hm : X.mg x = some (.ref d)) (D : GTab X.K X.w d tab) (hr : Room r X.A) (hb : DE X b f) (hg : Gl X x := by rfl) (hs : PlainIx b := by exact fun _ _ => rfl) (hd : (x == ("__debug__" : Str)) = false := by decide) : DE X (.Subscript (.Name x p) b pos) (c1 (dixG tab) f) := by
  obtain ⟨es, n, kd⟩ := D.kd
  refine pe_imp (pe_ix (ix_kd kd) (pe_glob (v := .ref d) hg hm rfl hd) hb hs) fun σ H Q ⟨B, F0, F, e, r, ok, fe, q⟩ => ?_
  obtain ⟨v, hv, fe⟩ := bind1 fe
  refine ⟨B, F0, F, e, v, ok, hv, fun v1 F1 H1 g1 d1 => ?_⟩
  unfold dixG at fe
  split at fe
  · rename_i z
    obtain ⟨y', hy', rfl⟩ := Option.map_eq_some_iff.mp fe
    rcases D.at_ z with ⟨y, t, h1, h2⟩ | ⟨h1, h2⟩
    · rw [h1] at hy'
      have ey := Option.some.inj hy'
      subst ey
      exact ⟨z, _, .str y, rfl, dp_str d1, h2, ⟨t, rfl⟩, q _ F1 H1 g1 (.str y)⟩
    · rw [h1] at hy'
      cases hy'
  · cases fe
theorem pe_kget2 {o i e : Expr} {es : Array DictEntry} {n : Nat} {ty tx : TE} (kd : KDict X.K X.w d es n) (ho : PE X o (tC (.ref d))) (hi : PE X i ty) (he : PE X e tx) (m : M2 X o "get" apos i e pos) :
    PE X (.Call (.Attribute o "get" apos) [i, e] [] pos) (fun σ H Q => ty σ H fun y H1 => tx σ H1 fun z H2 => ∃ k v0, y = .str k ∧ ((∃ u0, PySem.W.nsIn X.K d k = some (some u0) ∧ RelV v0 u0) ∨ (PySem.W.nsIn X.K d k = some none ∧ v0 = z)) ∧ Q v0 H2) := by
  refine ⟨fun pins s σ H Q I h => ?_⟩
  refine wpAny_Call_method m.base m.few m.line PySem.F.plainAttrs_dict PySem.F.slot_dict_get PySem.F.type_dict_get (thn (ho.run pins s σ H (fun v H' => v = .ref d ∧ H' = H) I ⟨rfl, rfl⟩) fun u s1 ⟨x, H1, I1, rx, ex, eh⟩ => ?_)
  subst ex eh
  obtain rfl : u = Value.ref d := rx
  refine ⟨kd_type kd I1, fun b q => ?_, ?_⟩
  · cases q
    exact ⟨_, I1.kIn _ _ kd.at_, rfl⟩
  rw [m.trees]
  refine Calls.callWith_builtin rfl (Calls.evalArgs_plain (Calls.spliced_cons (thn (hi.run pins s1 σ H1 _ I1 h) fun iv s2 ⟨y, H2, I2, ry, q2⟩ =>
    Calls.spliced_cons (thn (he.run pins s2 σ H2 _ I2 q2) fun fv s3 ⟨z, H3, I3, rz, k, v0, ey, hk, q3⟩ => Calls.spliced_nil ?_))))
  subst ey
  obtain ⟨t, rfl⟩ := ry
  refine call_meetsIn PySem.F.slot_dict_get (kd_type kd I3) PySem.F.entry_dict_get (PySem.F.args_dict_get_3 _ _ _) (meets_dict_get_default (PySem.strKind X.prog X.w) d (PySem.strKind_is X.prog X.w k t) kd.low fv) ⟨_, PySem.W.mapOf_K (prog := X.prog) I3.kIn kd.at_ kd.lit, ?_⟩
  rcases hk with ⟨u0, h1, h2⟩ | ⟨h1, h2⟩
  · rw [PySem.W.find_K kd.at_ h1]
    exact ⟨v0, H3, I3.tok _, h2, q3⟩
  · rw [PySem.W.find_K kd.at_ h1]
    subst h2
    exact ⟨v0, H3, I3.tok _, rz, q3⟩
theorem de_gget {i e : Expr} {r : Nat} (hm : X.mg x = some (.ref d)) (D : GTab X.K X.w d tab) (hr : Room r X.A) (hi : DE X i f) (he : DE X e g) (hg : Gl X x := by rfl) (m : M2 X (.Name x p) "get" apos i e pos := by exact ⟨rfl, rfl, rfl, rfl⟩) (hd : (x == ("__debug__" : Str)) = false := by decide) : DE X (.Call (.Attribute (.Name x p) "get" apos) [i, e] [] pos) (c2 (dgetG tab) f g) := by
  obtain ⟨es, n, kd⟩ := D.kd
  refine pe_imp (pe_kget2 kd (pe_glob (v := .ref d) hg hm rfl hd) hi he m) fun σ H Q ⟨B, F0, F, e, r, ok, fe, q⟩ => ?_
  obtain ⟨u, y, hu, hy, fe⟩ := bind2 fe
  refine ⟨B, F0, F, e, u, ok, hu, fun v1 F1 H1 g1 d1 => ⟨B, F0, F1, e, y, ok.grow g1, hy, fun v2 F2 H2 g2 d2 => ?_⟩⟩
  unfold dgetG at fe
  split at fe
  · rename_i z
    cases fe
    rcases D.at_ z with ⟨w, t, h1, h2⟩ | ⟨h1, h2⟩
    · refine ⟨z, .str w, dp_str d1, .inl ⟨_, h2, ⟨t, rfl⟩⟩, q _ F2 H2 (g1.trans g2) ?_⟩
      rw [h1]
      exact .str w
    · refine ⟨z, v2, dp_str d1, .inr ⟨h2, rfl⟩, q _ F2 H2 (g1.trans g2) ?_⟩
      rw [h1]
      exact d2
  · cases fe
end
section
variable {tab : TabS} {z : Str} {x : D}
@[simp] theorem e_dinG : dinG tab (.str z) = some (.bool (lookT tab z).isSome) := (rfl)
@[simp] theorem e_dninG : dninG tab (.str z) = some (.bool (!(lookT tab z).isSome)) := (rfl)
@[simp] theorem e_dixG : dixG tab (.str z) = (lookT tab z).map PyData.str := (rfl)
@[simp] theorem e_dgetG : dgetG tab (.str z) x = some (match lookT tab z with
    | some y => .str y
    | none => x) := (rfl)
end
end DL

/-! DLay13: texts joined. -/
namespace DL
open PySem PySem.Spec PyProof.Rows L2 Evl
def jnOk (a : Str) (ys : List Str) : Bool := Nat.ble ((ys.map (·.length)).sum + ys.length * a.length) 16777216
def joinD (s d : D) : Option D := match s, d with
  | .str a, .list xs => (asStrs xs).bind fun ys => if jnOk a ys = true then some (.str (Txt.join a ys)) else none
  | .str a, .tuple xs => (asStrs xs).bind fun ys => if jnOk a ys = true then some (.str (Txt.join a ys)) else none
  | _, _ => none
section
variable {X : Cx} {o e : Expr} {f g : FE} {apos pos : Pos}
theorem de_join (ho : DE X o f) (he : DR X e g) (hs : starEach [e] X.env = [(false, eval e X.env)] := by rfl) (hbase : attributeBase o "join" X.env (eval o X.env) = eval o X.env := by rfl) (hline : (apos.endLine == pos.line) = true := by rfl) :
    DE X (.Call (.Attribute o "join" apos) [e] [] pos) (c2 joinD f g) :=
  pe_imp (pe_join ho he hs hbase hline) fun σ H Q ⟨B, F0, F, e, d, ok, fe, q⟩ => by
  obtain ⟨x, y, hx, hy, fe⟩ := bind2 fe
  unfold joinD at fe
  split at fe
  · obtain ⟨ys, hys, fe⟩ := bind1 fe
    split at fe
    · rename_i hz
      cases fe
      refine ⟨B, F0, F, e, _, ok, hx, fun v1 F1 H1 g1 d1 => ⟨⟨_, dp_str d1⟩, B, F0, F1, e, _, ok.grow g1, hy, fun v2 F2 H2 g2 r2 => ?_⟩⟩
      obtain ⟨p, vs, rfl, h1, h2⟩ := r2.lst g2.fh
      rw [asStrs_of hys] at h2
      have := dpa_map_str h2
      subst this
      exact ⟨_, p, ys, dp_str d1, rfl, .inl h1, Nat.le_of_ble_eq_true hz, q _ F2 H2 (g1.trans g2) (.str _)⟩
    · cases fe
  · obtain ⟨ys, hys, fe⟩ := bind1 fe
    split at fe
    · rename_i hz
      cases fe
      refine ⟨B, F0, F, e, _, ok, hx, fun v1 F1 H1 g1 d1 => ⟨⟨_, dp_str d1⟩, B, F0, F1, e, _, ok.grow g1, hy, fun v2 F2 H2 g2 r2 => ?_⟩⟩
      obtain ⟨p, vs, rfl, h1, h2⟩ := r2.tup g2.fh
      rw [asStrs_of hys] at h2
      have := dpa_map_str h2
      subst this
      exact ⟨_, p, ys, dp_str d1, rfl, .inr h1, Nat.le_of_ble_eq_true hz, q _ F2 H2 (g1.trans g2) (.str _)⟩
    · cases fe
  · cases fe
end
end DL

/-! DLay14: how long a while goes on. -/
namespace DL
open PySem L2
def muI (i : Nat) (e : DEnv) : Nat := match e[i]? with
  | some (some (.sh (.int n))) => n.natAbs + 1
  | _ => 1
def muL (i : Nat) (e : DEnv) : Nat := match e[i]? with
  | some (some (.ow xs)) => xs.length + 1
  | some (some (.sh (.list xs))) => xs.length + 1
  | _ => 1
@[simp] theorem e_sIns {i : Nat} {f g : FE} {e : DEnv} : sIns i g f e = (g e).bind fun k => (f e).bind fun d => (owAt i e).bind fun xs => match k with
  | .int n => if sml (xs.length + 1) = true ∧ 0 ≤ n ∧ n < 2 ^ 63 then some (.nx (e.set i (some (.ow (xs.take n.toNat ++ [d] ++ xs.drop n.toNat))))) else none
  | _ => none := (rfl)
@[simp] theorem e_sPar {i j : Nat} {f : FA} {e : DEnv} : sPar i j f e = (f e).bind fun ds => match ds with
  | [v, w] => some (.nx ((e.set i (some (.sh v))).set j (some (.sh w))))
  | _ => none := (rfl)
def nextFl (r : Option Fl) (k : DEnv → Option Fl) : Option Fl := r.bind fun r => match r with
  | .nx e2 => k e2
  | .ct e2 => k e2
  | .bk e2 => some (.nx e2)
  | .rt v => some (.rt v)
@[simp] theorem e_nnx {e : DEnv} {k : DEnv → Option Fl} : nextFl (some (.nx e)) k = k e := (rfl)
@[simp] theorem e_nct {e : DEnv} {k : DEnv → Option Fl} : nextFl (some (.ct e)) k = k e := (rfl)
@[simp] theorem e_nbk {e : DEnv} {k : DEnv → Option Fl} : nextFl (some (.bk e)) k = some (.nx e) := (rfl)
@[simp] theorem e_nrt {d : D} {k : DEnv → Option Fl} : nextFl (some (.rt d)) k = some (.rt d) := (rfl)
theorem forD_n {b : BD} {body : FS} {e : DEnv} : forD b body [] e = some (.nx e) := (rfl)
theorem forD_c {b : BD} {body : FS} {d : D} {ds : List D} {e : DEnv} : forD b body (d :: ds) e = (b d e).bind fun e1 => nextFl (body e1) (forD b body ds) := (rfl)
theorem whileD_c {c : FB} {body : FS} {n : Nat} {e : DEnv} : whileD c body (n + 1) e = (c e).bind fun k => if k = true then nextFl (body e) (whileD c body n) else some (.nx e) := (rfl)
@[simp] theorem e_absI {i : Int} : absD (.int i) = some (.int (if i < 0 then -i else i)) := (rfl)
end DL

/-! DLay15: sorted, of pairs of texts. -/
namespace DL
open PySem PySem.Spec PyProof.Rows L2 Evl

/-! ### the order, and sorting by it -/
def kp (p : Str × Str) : List (Int ⊕ List Nat) := [.inr p.1.cps.toList, .inr p.2.cps.toList]
def ltP2 (p q : Str × Str) : Bool := (listOrd itemOrd).blt (kp p) (kp q)
theorem kp_inj {p q : Str × Str} (h : kp p = kp q) : p = q := by
  obtain ⟨⟨⟨a⟩⟩, ⟨⟨b⟩⟩⟩ := p
  obtain ⟨⟨⟨c⟩⟩, ⟨⟨d⟩⟩⟩ := q
  simp only [kp, List.cons.injEq, Sum.inr.injEq, and_true] at h
  obtain ⟨h1, h2⟩ := h
  subst h1 h2
  rfl
theorem ltP2_irr (p : Str × Str) : ltP2 p p = false := (listOrd itemOrd).irrefl _
theorem ltP2_tot {p q : Str × Str} (h : ltP2 p q = false) (h' : ltP2 q p = false) : p = q := kp_inj ((listOrd itemOrd).total _ _ h h')
theorem ltP2_asym {p q : Str × Str} (h : ltP2 p q = true) : ltP2 q p = false := by
  cases hq : ltP2 q p
  · rfl
  · have := (listOrd itemOrd).trans _ _ _ h hq
    rw [(listOrd itemOrd).irrefl] at this
    cases this
theorem ltP2_le_trans {p q r : Str × Str} (h : ltP2 q p = false) (h' : ltP2 r q = false) : ltP2 r p = false := by
  cases hq : ltP2 r p
  · rfl
  · rcases (listOrd itemOrd).negTrans _ (kp q) _ hq with z | z
    · have z' : ltP2 r q = true := z
      rw [h'] at z'; cases z'
    · have z' : ltP2 q p = true := z
      rw [h] at z'; cases z'
def insP (p : Str × Str) : List (Str × Str) → List (Str × Str)
  | [] => [p]
  | q :: qs => if ltP2 q p = true then q :: insP p qs else p :: q :: qs
def srtP (ps : List (Str × Str)) : List (Str × Str) := ps.foldr insP []
/-- in order -/
def Srd (ps : List (Str × Str)) : Prop := ps.Pairwise fun a b => ltP2 b a = false
theorem insP_perm (p : Str × Str) : ∀ qs : List (Str × Str), (insP p qs).Perm (p :: qs)
  | [] => .refl _
  | q :: qs => by
    unfold insP
    split
    · exact ((insP_perm p qs).cons q).trans (.swap p q qs)
    · exact .refl _
theorem srtP_perm : ∀ ps : List (Str × Str), (srtP ps).Perm ps
  | [] => .refl _
  | p :: ps => (insP_perm p (srtP ps)).trans ((srtP_perm ps).cons p)
theorem insP_srd (p : Str × Str) : ∀ {qs : List (Str × Str)}, Srd qs → Srd (insP p qs)
  | [], _ => List.pairwise_singleton ..
  | q :: qs, h => by
    unfold Srd at h ⊢
    rw [List.pairwise_cons] at h
    unfold insP
    split
    · rename_i hc
      refine List.pairwise_cons.mpr ⟨fun r hr => ?_, insP_srd p h.2⟩
      rcases List.mem_cons.mp ((insP_perm p qs).mem_iff.mp hr) with rfl | hr
      · exact ltP2_asym hc
      · exact h.1 r hr
    · rename_i hc
      have hc' : ltP2 q p = false := by simpa using hc
      refine List.pairwise_cons.mpr ⟨fun r hr => ?_, List.pairwise_cons.mpr h⟩
      rcases List.mem_cons.mp hr with rfl | hr
      · exact hc'
      · exact ltP2_le_trans hc' (h.1 r hr)
theorem srtP_srd : ∀ ps : List (Str × Str), Srd (srtP ps)
  | [] => List.Pairwise.nil
  | p :: ps => insP_srd p (srtP_srd ps)
theorem srd_uniq : ∀ {ps qs : List (Str × Str)}, ps.Perm qs → Srd ps → Srd qs → ps = qs
  | [], qs, h, _, _ => (List.nil_perm.mp h).symm
  | p :: ps, [], h, _, _ => absurd (List.perm_nil.mp h) (by simp)
  | p :: ps, q :: qs, h, hp, hq => by
    unfold Srd at hp hq
    rw [List.pairwise_cons] at hp hq
    have e : p = q := by
      have h1 : q ∈ p :: ps := h.mem_iff.mpr List.mem_cons_self
      have h2 : p ∈ q :: qs := h.mem_iff.mp List.mem_cons_self
      rcases List.mem_cons.mp h1 with e | h1
      · exact e.symm
      · rcases List.mem_cons.mp h2 with e | h2
        · exact e
        · exact ltP2_tot (hq.1 p h2) (hp.1 q h1)
    subst e
    rw [srd_uniq (List.perm_cons p |>.mp h) hp.2 hq.2]
theorem srtP_congr {ps qs : List (Str × Str)} (h : ps.Perm qs) : srtP ps = srtP qs := srd_uniq ((srtP_perm ps).trans (h.trans (srtP_perm qs).symm)) (srtP_srd ps) (srtP_srd qs)

/-! ### as data -/
def p2D (p : Str × Str) : D := .tuple [.str p.1, .str p.2]
def asP2 : List D → Option (List (Str × Str))
  | [] => some []
  | .tuple [.str a, .str b] :: r => (asP2 r).map ((a, b) :: ·)
  | _ :: _ => none
theorem asP2_map : ∀ ps : List (Str × Str), asP2 (ps.map p2D) = some ps
  | [] => rfl
  | p :: ps => by
    show (asP2 (ps.map p2D)).map _ = _
    rw [asP2_map ps]
    rfl
theorem asP2_of {ds : List D} {ps : List (Str × Str)} (h : asP2 ds = some ps) : ds = ps.map p2D := by
  induction ds generalizing ps with
  | nil => cases h; rfl
  | cons d ds ih =>
    unfold asP2 at h
    split at h
    · rename_i e
      cases e
    · rename_i e
      obtain ⟨rfl, rfl⟩ := List.cons.inj e
      obtain ⟨qs, hq, rfl⟩ := Option.map_eq_some_iff.mp h
      rw [ih hq]
      rfl
    · cases h
def srtD : D → Option (List D)
  | .list xs => (asP2 xs).bind fun ps => if sml ps.length = true then some ((srtP ps).map p2D) else none
  | _ => none
def srtA (f : FE) : FA := fun e => (f e).bind srtD
@[simp] theorem e_srtA {f : FE} {e : DEnv} : srtA f e = (f e).bind srtD := (rfl)
theorem srtD_ok {ps : List (Str × Str)} (h : ps.length ≤ 100000) : srtD (.list (ps.map p2D)) = some ((srtP ps).map p2D) := by
  show (asP2 (ps.map p2D)).bind _ = _
  rw [asP2_map]
  simp only [Option.bind_some]
  rw [if_pos (sml_of h)]

/-! ### the rule -/
section
variable {X : Cx} {e : Expr} {f : FE} {p pos : Pos}
def rSort2 (K : PySem.W.Frag) : List V → Hp → VK → Prop := fun vs H Q => ∃ (a : Addr) (xs : List V) (ps : List (Str × Str)), vs = [V.ref a] ∧ SqL K H a xs ∧ xs.length = ps.length ∧ (∀ z ∈ xs.zip ps, ∃ t, z.1 = V.ref t ∧ SqT K H t [.str z.2.1, .str z.2.2]) ∧
  ∀ ys qs p, (ys.zip qs).Perm (xs.zip ps) → ys.length = qs.length → Srd qs → H p = none → Q (.ref p) (upd H p (.lst ys))
def decK : Option (List (Int ⊕ List Nat)) → Str × Str
  | some [.inr a, .inr b] => (⟨a.toArray⟩, ⟨b.toArray⟩)
  | _ => (⟨#[]⟩, ⟨#[]⟩)
theorem decK_kp (p : Str × Str) : decK (some (kp p)) = p := by
  obtain ⟨⟨a⟩, ⟨b⟩⟩ := p
  simp [kp, decK]
theorem tups_of {h : Heap} : ∀ {vs : List Value}, (∀ v ∈ vs, ∃ (a : Addr) (o : Obj) (x y : Str) (t1 t2 : Tok) (n : Nat), v = .ref a ∧ h.get? a = some o ∧ o.cls = .type "tuple" ∧ o.data = .seq #[.str x t1, .str y t2] n) → ∃ fs, TupsOf h (fun _ => true) vs fs
  | [], _ => ⟨[], .nil⟩
  | v :: vs, hv => by
    obtain ⟨fs, hf⟩ := tups_of fun u hu => hv u (List.mem_cons_of_mem _ hu)
    obtain ⟨a, o, x, y, t1, t2, n, rfl, ho, hc, hd⟩ := hv v List.mem_cons_self
    exact ⟨_, .cons ⟨a, o, _, n, rfl, ho, hc, hd, rfl, (fun z => by cases z), fun _ => ⟨x, t1, rfl⟩⟩ hf⟩
theorem key_of {h : Heap} {a : Addr} {o : Obj} {x y : Str} {t1 t2 : Tok} {n : Nat} (ho : h.get? a = some o) (hc : o.cls = .type "tuple") (hd : o.data = .seq #[.str x t1, .str y t2] n) : G.tupKeyC h (fun _ => true) (.ref a) = some (kp (x, y)) := by
  have h1 : G.isTupObj h (.ref a) = true := by
    show (match h.get? a with
      | some o => (match o.cls with | .type n => n == "tuple" | _ => false)
      | none => false) = true
    rw [ho]
    simp only [hc]
    decide
  unfold G.tupKeyC
  rw [if_pos h1]
  show (match h.get? a with
    | some o => match o.data with
      | .seq xs _ => tupItems (fun _ => true) 0 xs.toList
      | _ => none
    | none => none) = _
  rw [ho]
  simp only [hd]
  rfl
theorem zip_mem_of {α β : Type} : ∀ {xs : List α} {ys : List β}, xs.length = ys.length → ∀ x ∈ xs, ∃ y, (x, y) ∈ xs.zip ys
  | [], _, _, x, h => by simp at h
  | _ :: _, [], hl, _, _ => by simp at hl
  | x :: xs, y :: ys, hl, z, h => by
    rcases List.mem_cons.mp h with rfl | h
    · exact ⟨y, List.mem_cons_self⟩
    · obtain ⟨y', h'⟩ := zip_mem_of (xs := xs) (ys := ys) (by simpa using hl) z h
      exact ⟨y', List.mem_cons_of_mem _ h'⟩
theorem zip_map_eq {α β : Type} (k : α → β) : ∀ {xs : List α} {ys : List β}, xs.length = ys.length → (∀ z ∈ xs.zip ys, k z.1 = z.2) → ys = xs.map k
  | [], [], _, _ => rfl
  | [], _ :: _, hl, _ => by simp at hl
  | _ :: _, [], hl, _ => by simp at hl
  | x :: xs, y :: ys, hl, h => by
    have h1 := h (x, y) List.mem_cons_self
    rw [List.map_cons, ← zip_map_eq k (by simpa using hl) fun z hz => h z (List.mem_cons_of_mem _ hz)]
    rw [show k x = y from h1]
theorem cr_sort2 : CallR X (.builtin "sorted") (rSort2 X.K) := by
  intro pins s σ H vs us Q I r h
  obtain ⟨a, xs, ps, rfl, hs, hlen, hx, q⟩ := h
  obtain ⟨its, rv, hl, hz⟩ := I.list hs
  obtain ⟨u, rfl, ru⟩ := vals1 r
  obtain rfl : u = Value.ref a := ru
  obtain ⟨e1, e2⟩ := refs_back rv fun x m => by
    obtain ⟨p, hp⟩ := zip_mem_of hlen x m
    obtain ⟨t, e, _⟩ := hx _ hp
    exact ⟨t, e⟩
  have hil : its.length = ps.length := by rw [← rv.length]; exact hlen
  have ht : ∀ z ∈ its.zip ps, ∃ (a : Addr) (o : Obj) (t1 t2 : Tok) (n : Nat), z.1 = .ref a ∧ s.heap.get? a = some o ∧ o.cls = .type "tuple" ∧ o.data = .seq #[.str z.2.1 t1, .str z.2.2 t2] n := fun z hz' => by
    have hm : (backV z.1, z.2) ∈ xs.zip ps := by
      rw [e1, List.zip_map_left]
      exact List.mem_map.mpr ⟨z, hz', rfl⟩
    obtain ⟨t, e, hT⟩ := hx _ hm
    obtain ⟨t', et⟩ := e2 z.1 (List.of_mem_zip hz').1
    rw [et] at e
    have e : t' = t := by
      have : V.ref t' = V.ref t := e
      cases this; rfl
    subst e
    obtain ⟨its2, r2, ⟨o, ho, hc, n, hd⟩, _⟩ := I.tuple hT
    obtain ⟨u1, u2, rfl, ri, rj⟩ := vals2 r2
    obtain ⟨t1, rfl⟩ := ri
    obtain ⟨t2, rfl⟩ := rj
    exact ⟨t', o, t1, t2, n, et, ho, hc, hd⟩
  have hkz : ∀ z ∈ its.zip ps, G.tupKeyC s.heap (fun _ => true) z.1 = some (kp z.2) := fun z hz' => by
    obtain ⟨a, o, t1, t2, n, e, ho, hc, hd⟩ := ht z hz'
    rw [e]
    exact key_of ho hc hd
  obtain ⟨kv, hkv⟩ : ∃ kv : Value → Str × Str, kv = fun v => decK (G.tupKeyC s.heap (fun _ => true) v) := ⟨_, rfl⟩
  have hps : ps = its.map kv := zip_map_eq kv hil fun z hz' => by
    subst hkv
    show decK (G.tupKeyC s.heap (fun _ => true) z.1) = z.2
    rw [hkz z hz', decK_kp]
  have hkey : ∀ v ∈ its, G.tupKeyC s.heap (fun _ => true) v = some (kp (kv v)) := fun v hv => by
    obtain ⟨p, hp⟩ := zip_mem_of hil v hv
    have := hkz _ hp
    subst hkv
    show G.tupKeyC s.heap (fun _ => true) v = some (kp (decK (G.tupKeyC s.heap (fun _ => true) v)))
    rw [show G.tupKeyC s.heap (fun _ => true) v = some (kp p) from this, decK_kp]
  obtain ⟨fs, hfs⟩ := tups_of (h := s.heap) (vs := its) fun v hv => by
    obtain ⟨p, hp⟩ := zip_mem_of hil v hv
    obtain ⟨a, o, t1, t2, n, e, ho, hc, hd⟩ := ht _ hp
    exact ⟨a, o, _, _, t1, t2, n, e, ho, hc, hd⟩
  refine G.sorted_tups hl.isList hfs (fun v hv => ⟨_, hkey v hv⟩) (by rw [← rv.length]; exact hz) fun st' p1 p2 _ => ?_
  obtain ⟨arr, ha⟩ : ∃ arr, arrOf st' = arr := ⟨_, rfl⟩
  rw [ha] at p1 p2 ⊢
  have hself : ∀ z ∈ arr.toList, z.1 = z.2 ∧ z.2 ∈ its := fun z hz' => by
    have : z ∈ (pairsOf its).toList := p1.toList.mem_iff.mp hz'
    rw [pairsOf_toList] at this
    obtain ⟨e, hm⟩ := mem_zip_self this
    exact ⟨e, e ▸ hm⟩
  have hperm : (arr.map (·.2)).toList.Perm its := by
    have h1 := p1.toList.map (fun z : Keyed => z.2)
    rw [pairsOf_toList] at h1
    have h2 : (its.zip its).map (fun z : Keyed => z.2) = its := List.map_snd_zip (Nat.le_refl _)
    have h3 : (arr.map (·.2)).toList = arr.toList.map (fun z : Keyed => z.2) := by simp
    rw [h3]
    rw [h2] at h1
    exact h1
  have h3 : ∀ u ∈ (arr.map (·.2)).toList, ∃ a, u = Value.ref a := fun u hu => e2 u (hperm.mem_iff.mp hu)
  have hz2 : ∀ l : List Value, (l.map backV).zip (l.map kv) = l.map fun u => (backV u, kv u) := fun l => by
    induction l with
    | nil => rfl
    | cons u l ih => simp only [List.map_cons, List.zip_cons_cons, ih]
  obtain ⟨n, hn⟩ := sortedAll_at s.heap its (arr.map (·.2))
  refine ⟨.ref (s.heap.objs.size + 1), upd H (s.heap.objs.size + 1) (.lst ((arr.map (·.2)).toList.map backV)), I.laid (t' := s.toks) (fun _ _ => sortedAll_old) (Nat.le_succ _) ⟨?_, (arr.map (·.2)).toList, n, vals_back h3, by rw [Array.toArray_toList]; exact hn⟩, rfl, q _ ((arr.map (·.2)).toList.map kv) _ ?_ (by rw [List.length_map, List.length_map]) ?_ (I.hok.fresh (Nat.le_succ _))⟩
  · rw [List.length_map, hperm.length_eq, ← rv.length]; exact hz
  · rw [e1, hps, hz2, hz2]
    exact hperm.map _
  · have hsz : (pairsOf its).size = arr.size := by
      have := p1.toList.length_eq
      simp only [Array.length_toList] at this
      exact this.symm
    unfold Srd
    rw [List.pairwise_iff_getElem]
    intro i j hi hj hij
    simp only [List.length_map, Array.length_toList, Array.size_map] at hi hj
    have kk : ∀ (i : Nat) (hi : i < arr.size), KK (G.tupKindC s.heap fun _ => true) arr i = kp (kv arr[i].2) := fun i hi => by
      have hm : arr[i] ∈ arr.toList := by simp
      obtain ⟨z1, z2⟩ := hself _ hm
      unfold KK
      rw [Array.getElem?_eq_getElem hi]
      simp only
      show (G.tupKeyC s.heap (fun _ => true) arr[i].1).getD [] = _
      rw [z1, hkey _ z2]
      rfl
    have := p2 i j (Nat.le_of_lt hij) (by rw [hsz]; exact hj)
    rw [kk i hi, kk j hj] at this
    simp only [List.getElem_map, Array.getElem_toList, Array.getElem_map]
    exact this
theorem dpa_zip {K : PySem.W.Frag} {F : Hp} : ∀ {vs : List V} {ps : List (Str × Str)}, DpAll K F vs (ps.map p2D) → vs.length = ps.length ∧ ∀ z ∈ vs.zip ps, Dp K F z.1 (p2D z.2)
  | _, [], .nil => ⟨rfl, fun z hz => by simp at hz⟩
  | _, p :: ps, .cons h hs => by
    obtain ⟨h1, h2⟩ := dpa_zip hs
    refine ⟨by simp [h1], fun z hz => ?_⟩
    rcases List.mem_cons.mp hz with rfl | hz
    · exact h
    · exact h2 z hz
theorem zip_dpa {K : PySem.W.Frag} {F : Hp} : ∀ {vs : List V} {ps : List (Str × Str)}, vs.length = ps.length → (∀ z ∈ vs.zip ps, Dp K F z.1 (p2D z.2)) → DpAll K F vs (ps.map p2D)
  | [], [], _, _ => .nil
  | [], _ :: _, hl, _ => by simp at hl
  | _ :: _, [], hl, _ => by simp at hl
  | v :: vs, p :: ps, hl, h => .cons (h (v, p) List.mem_cons_self) (zip_dpa (by simpa using hl) fun z hz => h z (List.mem_cons_of_mem _ hz))
theorem dn_sorted (hm : X.mg "sorted" = none) (h : DR X e f) (hg : Gl X "sorted" := by rfl) (hs : starEach [e] X.env = (false, eval e X.env) :: starEach [] X.env := by rfl) : DN X (.Call (.Name "sorted" p) [e] [] pos) (srtA f) :=
  pe_imp (pe_callB cr_sort2 hg hm (by decide +kernel) (pa_cons h pa_nil hs) (by decide) (by decide) hs rfl) fun σ H Q ⟨B, F0, F, e, xs, ok, fe, q⟩ => by
  obtain ⟨d, hd, fe⟩ := bind1 fe
  refine ⟨B, F0, F, e, d, ok, hd, fun v F' H' g dp => ?_⟩
  unfold srtD at fe
  split at fe
  · obtain ⟨ps, hps, fe⟩ := bind1 fe
    split at fe
    · cases fe
      obtain ⟨a, vs, rfl, h1, h2⟩ := dp.lst g.fh
      rw [asP2_of hps] at h2
      obtain ⟨hl, hz⟩ := dpa_zip h2
      refine ⟨a, vs, ps, rfl, h1, hl, fun z hz' => ?_, fun ys qs l hp hlq hsr hl' => ?_⟩
      · obtain ⟨t, us, e, s1, s2⟩ := dp_tup (hz z hz')
        cases s2 with
        | cons q1 s2 =>
          cases s2 with
          | cons q2 s2 =>
            cases s2
            rw [dp_str q1, dp_str q2] at s1
            exact ⟨t, e, ex_t g.fh s1⟩
      · have hpq : qs.Perm ps := by
          have := hp.map Prod.snd
          rwa [List.map_snd_zip (by omega), List.map_snd_zip (by omega)] at this
        have hq : qs = srtP ps := srd_uniq (hpq.trans (srtP_perm ps).symm) hsr (srtP_srd ps)
        have hd2 : DpAll X.K F' ys (qs.map p2D) := zip_dpa hlq fun z hz' => hz z (hp.mem_iff.mp hz')
        rw [hq] at hd2
        exact q l ys F' _ (g.trans (Gr.loose g.fh hl')) (fresh_back g.hh hl') (fresh_back g.fh hl') upd_same hd2
    · cases fe
  · cases fe
/-! ### list + list, a list of one's own -/
def catD : D → D → Option (List D)
  | .list a, .list b => if sml (a.length + b.length) = true then some (a ++ b) else none
  | _, _ => none
def catA (f g : FE) : FA := fun e => (f e).bind fun x => (g e).bind fun y => catD x y
@[simp] theorem e_catA {f g : FE} {e : DEnv} : catA f g e = (f e).bind fun x => (g e).bind fun y => catD x y := (rfl)
theorem catD_ok {xs ys : List D} (h : xs.length + ys.length ≤ 100000) : catD (.list xs) (.list ys) = some (xs ++ ys) := if_pos (sml_of h)
theorem dn_cat {a b : Expr} {g : FE} (ha : DR X a f) (hb : DR X b g) : DN X (.BinOp a .Add b pos) (catA f g) := pe_imp (pe_op op_catL ha hb) fun σ H Q ⟨B, F0, F, e, xs, ok, fe, q⟩ => by
  obtain ⟨x, y, hx, hy, fe⟩ := bind2 fe
  refine ⟨B, F0, F, e, x, ok, hx, fun v F1 H1 g1 r1 => ⟨B, F0, F1, e, y, ok.grow g1, hy, fun u F2 H2 g2 r2 => ?_⟩⟩
  unfold catD at fe
  split at fe
  · split at fe
    · rename_i hz
      cases fe
      obtain ⟨p, vs, rfl, s1, d1⟩ := (r1.grow g2).lst g2.fh
      obtain ⟨p2, us, rfl, s2, d2⟩ := r2.lst g2.fh
      have l1 := dpa_len d1
      have l2 := dpa_len d2
      have hbl := big_line
      have hz := sml_le hz
      exact ⟨p, p2, vs, us, rfl, rfl, s1, s2, by omega, fun l hl => q l _ F2 _ ((g1.trans g2).trans (Gr.loose g2.fh hl)) (fresh_back (g1.trans g2).hh hl) (fresh_back g2.fh hl) upd_same (dpa_append d1 d2)⟩
    · cases fe
  · cases fe
end
end DL

/-! the set of many texts -/
namespace TX
open PySem PySem.Spec PyProof.Rows
/-- the texts met so far, each once -/
def addT (σ : List Str) (x : Str) : List Str := if σ.any (· == x) = true then σ else σ ++ [x]
def metT (xs : List Str) : List Str := xs.foldl addT []
theorem metT_snoc (xs : List Str) (x : Str) : metT (xs ++ [x]) = addT (metT xs) x := by unfold metT; rw [List.foldl_append]; rfl
theorem addT_len (σ : List Str) (x : Str) : (addT σ x).length = if σ.any (· == x) = true then σ.length else σ.length + 1 := by
  unfold addT
  split
  · rfl
  · rw [List.length_append]; rfl
theorem addT_any (σ : List Str) (x k : Str) : (addT σ x).any (· == k) = (σ.any (· == k) || decide (k = x)) := by
  unfold addT
  by_cases h : σ.any (· == x) = true
  · rw [if_pos h]
    by_cases e : k = x
    · rw [e, h, Bool.true_or]
    · rw [decide_eq_false e, Bool.or_false]
  · rw [if_neg h, List.any_append]
    congr 1
    show ((x == k) || false) = decide (k = x)
    rw [Bool.or_false]
    by_cases e : k = x
    · rw [decide_eq_true e, e]; exact beq_self_eq_true x
    · rw [decide_eq_false e]; exact beq_eq_false_iff_ne.mpr fun q => e q.symm
theorem metT_le : ∀ (n : Nat) (xs : List Str), (metT (xs.take n)).length ≤ n
  | 0, xs => by rw [List.take_zero]; exact Nat.le_refl _
  | n + 1, xs => by
    have ih := metT_le n xs
    rcases Nat.lt_or_ge n xs.length with h | h
    · rw [List.take_succ_eq_append_getElem h, metT_snoc, addT_len]
      split <;> omega
    · rw [List.take_of_length_le (by omega)]
      rw [List.take_of_length_le h] at ih
      omega
section
variable {prog : Program} {w : World} {A : Around} {R : Result → Shared → Prop} {I : Addr} {fp wr : List Addr} {G : Array GenState → Array GenState → Prop} {n : Nat} {P : Nat → Value → Prop} {St : Nat → Shared → Prop}
/-- a set takes texts one by one -/
theorem take_texts (W : WalksS prog w A.in1 I fp wr G n P St) (S : Addr) (hSf : S ∉ fp) (xs : List Str) (hsz : xs.length = n) (hb : n + 1 < scanBound)
    (hval : ∀ i v, P i v → ∃ t, v = .str (xs.getD i Str.empty) t) :
    ∀ (k i : Nat) (s : Shared), n - i = k → i ≤ n → St i s →
      s.heap.SetOf (PySem.strKind prog w) S (fun q => (metT (xs.take i)).any (· == q)) (metT (xs.take i)).length →
      (∀ s', Moved (S :: wr) G s s' → s'.heap.SetOf (PySem.strKind prog w) S (fun q => (metT xs).any (· == q)) (metT xs).length → R (.ok (.ret .none)) s') →
      codeAny (model prog w) A (.builtin "set.update.loop" ⟨[.ref S, .ref I], []⟩) R s := by
  have notW : S ∉ wr := fun q => hSf (W.sub _ q)
  have keeps : ∀ {s s' : Shared} {T : Str → Bool} {m : Nat}, Moved wr G s s' → s.heap.SetOf (PySem.strKind prog w) S T m → s'.heap.SetOf (PySem.strKind prog w) S T m := fun {s s' T m} mv q => by
    obtain ⟨o, es, ep, tb, ho, q⟩ := q
    exact ⟨o, es, ep, tb, mv.heap S _ notW ho, q⟩
  intro k
  induction k with
  | zero =>
    intro i s hk hi hst hS hR
    have e : i = n := by omega
    subst e
    rw [List.take_of_length_le (by omega)] at hS
    refine codeAny_builtin PyProof.Rows.F.entry_set_update_loop ?_
    rw [Around.under_plainId PyProof.Rows.F.plain_set_update_loop _]
    show wpAny _ A.in1 (pyNext (.ref I) >>= _) _ _ s
    refine wpAny_bind (W.done s _ _ hst fun s' mv => ?_)
    show wpAny _ A.in1 (ret Value.none) _ _ s'
    exact wpAny_pure (hR s' (mv.mono fun b q => List.mem_cons_of_mem _ q) (keeps mv hS))
  | succ k ih =>
    intro i s hk hi hst hS hR
    have lt : i < n := by omega
    refine codeAny_builtin PyProof.Rows.F.entry_set_update_loop ?_
    rw [Around.under_plainId PyProof.Rows.F.plain_set_update_loop _]
    show wpAny _ A.in1 (pyNext (.ref I) >>= _) _ _ s
    refine wpAny_bind (W.item i s _ _ lt hst fun v s' hP hst' mv => ?_)
    obtain ⟨t, rfl⟩ := hval i v hP
    have hS' := keeps mv hS
    show wpAny _ A.in1 (holding [Value.str (xs.getD i Str.empty) t] (setAdd S (.str (xs.getD i Str.empty) t)) >>= _) _ _ s'
    refine wpAny_bind (wpAny_holding ?_)
    unfold setAdd
    refine wpAny_holding ?_
    refine wpAny_bind ((PySem.strKind prog w).pyHash (k := xs.getD i Str.empty) (strKind_is _ _ _ _) ?_)
    have room := metT_le i xs
    refine wpAny_setAddHashed_of (knd := PySem.strKind prog w) (s := { s' with toks := s'.toks + 1 }) (strKind_is _ _ _ _) rfl hS' (by omega) fun h' sb hS2 => ?_
    have e1 : xs.take (i + 1) = xs.take i ++ [xs.getD i Str.empty] := by
      rw [List.take_succ_eq_append_getElem (by omega), List.getD_eq_getElem?_getD, List.getElem?_eq_getElem (by omega)]
      rfl
    have hSi : h'.SetOf (PySem.strKind prog w) S (fun q => (metT (xs.take (i + 1))).any (· == q)) (metT (xs.take (i + 1))).length :=
      SetOf_congr hS2 (fun q => by rw [e1, metT_snoc, addT_any]) (by rw [e1, metT_snoc, addT_len])
    refine wpAny_pure ⟨plainId_quiet PyProof.Rows.F.plain_set_update_loop _, ih (i + 1) _ (by omega) lt (W.frame _ s' _ _ hst' (Nat.le_succ _) fun b hb' o e => ?_) hSi fun s'' mv2 hS'' => ?_⟩
    · rw [sb.2 b (fun q : b = S => hSf (q ▸ hb'))]; exact e
    · refine hR s'' (Moved.trans W.gtrans ((mv.mono fun b q => List.mem_cons_of_mem _ q).then_heap (Nat.le_succ _) fun b o hb' e => ?_) mv2) hS''
      rw [sb.2 b (fun q : b = S => hb' (q ▸ List.mem_cons_self))]; exact e
end
section
variable {prog : Program} {w : World} {A : Around} {E : Value → Shared → Prop} {s : Shared}
abbrev fresh (led : Bool) : Obj := { cls := .type "set", dict := none, data := .set #[] 0 (.fresh 0 0 led) }
/-- what a call of set leaves: a set of the texts, and all that was -/
def Left (prog : Program) (w : World) (s : Shared) (xs : List Str) (s2 : Shared) : Prop := ∃ h' tk, s2 = { s with heap := h', toks := tk } ∧
  h'.SetOf (PySem.strKind prog w) s.heap.objs.size (fun q => (metT xs).any (· == q)) (metT xs).length ∧ ∀ b o, b < s.heap.objs.size → s.heap.get? b = some o → h'.get? b = some o
theorem left_of {led : Bool} {it : Obj} {xs : List Str} {s' : Shared} {G : Array GenState → Array GenState → Prop} (hG : ∀ {a b}, G a b → b = a)
    (mv : Moved [s.heap.objs.size, (s.heap.push (fresh led)).objs.size] G { s with heap := (s.heap.push (fresh led)).push it } s')
    (hS : s'.heap.SetOf (PySem.strKind prog w) s.heap.objs.size (fun q => (metT xs).any (· == q)) (metT xs).length) : Left prog w s xs s' := by
  obtain ⟨h', g', d', tk', os'⟩ := s'
  have eg : g' = s.gens := hG mv.gens
  have ed : d' = s.drawn := mv.drawn
  have eo : os' = s.os := mv.os
  subst eg; subst ed; subst eo
  refine ⟨h', tk', rfl, hS, fun b o hb e => mv.heap b o ?_ (Heap.get?_push_of_some _ (Heap.get?_push_of_some _ e))⟩
  rw [Heap.size_push]
  simp only [List.mem_cons, List.not_mem_nil, or_false, not_or]
  exact ⟨Nat.ne_of_lt hb, Nat.ne_of_lt (Nat.lt_succ_of_lt hb)⟩
theorem set_texts {l : Addr} {items : Array Value} {xs : List Str} {Q : Value → Shared → Prop} (hh : A.handled = none) (hl : s.heap.IsList l items ∨ s.heap.IsTuple l items) (hi : StrsAre items.toList xs) (hb : xs.length + 1 < scanBound)
    (h : ∀ s2, Left prog w s xs s2 → Q (.ref s.heap.objs.size) s2) : wpAny (model prog w) A (call (.type "set") [.ref l]) Q E s := by
  obtain ⟨c, tl, hmro⟩ := PySem.F.called_set.mro
  have hmade := PySem.F.called_set.made
  have hsub := PySem.F.called_set.sub
  refine wpAny_call (codeAny_of_tree ?_)
  show wpAny _ _ (callAny (.type "set") _) _ _ _
  refine wpAny_pure ⟨Code.quiet_builtin _ (by decide +kernel), codeAny_builtin PySem.F.entry_type_call ?_⟩
  rw [Around.under_plain (weight_type_call_type "set" [.ref l] []) rfl]
  have h1 := PySem.F.called_set.notType
  have h2 := PySem.F.called_set.canCreate
  have hct := PySem.F.typeCall_set_1 (.ref l)
  repeat (any_goals (first | assumption | wp_step))
  refine codeAny_mono (code_set_new_1 (.ref l) (E := E) (Q₁ := fun obj s₁ => ∃ led : Bool, obj = .ref s.heap.objs.size ∧ s₁ = { s with heap := s.heap.push (fresh led) }) fun led => ⟨led, rfl, rfl⟩) fun r s₁ hr => ?_
  cases r with
  | error e => exact hr
  | ok fl =>
    cases fl with
    | ret obj =>
      obtain ⟨led, rfl, rfl⟩ := hr
      have hS : (s.heap.push (fresh led)).get? s.heap.objs.size = some (fresh led) := Heap.get?_push_size _ rfl
      have hT : Shared.TypeIs { s with heap := s.heap.push (fresh led) } (.ref s.heap.objs.size) "set" := ⟨_, hS, rfl⟩
      have hli := PySem.F.called_set.init.lookup
      have hbi := PySem.F.called_set.init.bind (.ref s.heap.objs.size)
      repeat (any_goals (first | assumption | wp_step))
      have hsz : xs.length = items.size := by rw [← StrsAre.len_eq hi, Array.length_toList]
      have hval : ∀ (i : Nat) (v : Value), items[i]? = some v → ∃ t, v = .str (xs.getD i Str.empty) t := fun i v hv => SS.strs_at hi i v (by rw [Array.getElem?_toList]; exact hv)
      have hh3 : A.in1.in1.in1.handled = none := by simp [hh]
      have fr : ∀ it : Obj, ((s.heap.push (fresh led)).push it).SetOf (PySem.strKind prog w) s.heap.objs.size (fun q => (metT (xs.take 0)).any (· == q)) (metT (xs.take 0)).length := fun it =>
        SetOf_congr ((setObjOf_fresh (knd := PySem.strKind prog w) led).setOf (Heap.get?_push_of_some _ hS) (by unfold scanBound; omega)) (fun _ => rfl) rfl
      refine codeAny_mono (codeAny_call_builtin (R := wants (fun r s₂ => r = .none ∧ Left prog w s xs s₂) E) PySem.F.called_set.init.plain PySem.F.entry_set_init (check_set_init_1 hT ?_)) fun r₂ s₂ hr₂ => ?_
      · rcases hl with hl | hl
        · obtain ⟨⟨ocls, odict, odata, oslots⟩, hol, hcl, nl, hdl⟩ := hl
          simp only at hcl hdl
          subst hcl; subst hdl
          have hlS : l < s.heap.objs.size := Heap.lt_size hol
          have hol' : (s.heap.push (fresh led)).get? l = some { cls := .type "list", dict := odict, data := .seq items nl, slots := oslots } := Heap.get?_push_of_some _ hol
          have hsls := PySem.F.sub_list_set
          have hslf := PySem.F.sub_list_frozenset
          have hne : (Value.type "list" == Value.type "dict") = false := by decide
          have hl1 : (s.heap.push (fresh led)).IsList l items := ⟨_, hol', rfl, nl, rfl⟩
          have apart : l ≠ (s.heap.push (fresh led)).objs.size := by
            rw [Heap.size_push]; exact Nat.ne_of_lt (Nat.lt_succ_of_lt hlS)
          have outs : s.heap.objs.size ∉ [(s.heap.push (fresh led)).objs.size, l] := by
            rw [Heap.size_push]; simp only [List.mem_cons, List.not_mem_nil, or_false, not_or]
            exact ⟨Nat.ne_of_lt (Nat.lt_succ_self _), Nat.ne_of_gt hlS⟩
          unfold Builtin.«set.__init__» noKeywords Builtin.Frozenset.updateFrom
          generalize hPI : pyIter = PI
          wp_walk
          subst hPI
          refine wpAny_pyIter_list hl1 (wpAny_bind (wpAny_runValue ?_))
          refine take_texts ((Walks.list hh3 _ l apart items).toS) s.heap.objs.size outs xs hsz (by omega) hval (items.size - 0) 0 _ (by omega) (Nat.zero_le _) ⟨⟨_, Heap.get?_push_size _ rfl, rfl, rfl⟩, (hl1.push _)⟩ (fr _) fun s' mv hS' => ?_
          show wpAny _ _ _ _ _ _
          refine wpAny_pure ?_
          show wpAny _ _ (ret Value.none) _ _ _
          exact wpAny_pure ⟨rfl, left_of (fun q => q) mv hS'⟩
        · obtain ⟨⟨ocls, odict, odata, oslots⟩, hol, hcl, nl, hdl⟩ := hl
          simp only at hcl hdl
          subst hcl; subst hdl
          have hlS : l < s.heap.objs.size := Heap.lt_size hol
          have hol' : (s.heap.push (fresh led)).get? l = some { cls := .type "tuple", dict := odict, data := .seq items nl, slots := oslots } := Heap.get?_push_of_some _ hol
          have hsls := PySem.F.sub_tuple_set
          have hslf := PySem.F.sub_tuple_frozenset
          have hne : (Value.type "tuple" == Value.type "dict") = false := by decide
          have hl1 : (s.heap.push (fresh led)).IsTuple l items := ⟨_, hol', rfl, nl, rfl⟩
          have apart : l ≠ (s.heap.push (fresh led)).objs.size := by
            rw [Heap.size_push]; exact Nat.ne_of_lt (Nat.lt_succ_of_lt hlS)
          have outs : s.heap.objs.size ∉ [(s.heap.push (fresh led)).objs.size, l] := by
            rw [Heap.size_push]; simp only [List.mem_cons, List.not_mem_nil, or_false, not_or]
            exact ⟨Nat.ne_of_lt (Nat.lt_succ_self _), Nat.ne_of_gt hlS⟩
          unfold Builtin.«set.__init__» noKeywords Builtin.Frozenset.updateFrom
          generalize hPI : pyIter = PI
          wp_walk
          subst hPI
          refine wpAny_pyIter_tuple hl1 (wpAny_bind (wpAny_runValue ?_))
          refine take_texts ((Walks.tuple hh3 _ l apart items).toS) s.heap.objs.size outs xs hsz (by omega) hval (items.size - 0) 0 _ (by omega) (Nat.zero_le _) ⟨⟨_, Heap.get?_push_size _ rfl, rfl, rfl⟩, (hl1.push _)⟩ (fr _) fun s' mv hS' => ?_
          show wpAny _ _ _ _ _ _
          refine wpAny_pure ?_
          show wpAny _ _ (ret Value.none) _ _ _
          exact wpAny_pure ⟨rfl, left_of (fun q => q) mv hS'⟩
      · cases r₂ with
        | error e => exact hr₂
        | ok fl₂ =>
          cases fl₂ with
          | ret r =>
            obtain ⟨rfl, hr₂⟩ := hr₂
            obtain ⟨h', tk, rfl, hS', hk'⟩ := hr₂
            repeat (any_goals (first | assumption | wp_step))
            exact h _ ⟨h', tk, rfl, hS', hk'⟩
          | _ => exact hr₂.elim
    | _ => exact hr.elim
end
end TX

/-! len(set(texts)) -/
namespace L2
open PySem PySem.Spec PyProof.Rows
section
variable {X : Cx}
def tLenS (K : PySem.W.Frag) (ta : TE) : TE := fun σ H Q => ta σ H fun x H1 => ∃ l, ∃ xs : List Str, x = .ref l ∧ (SqL K H1 l (xs.map V.str) ∨ SqT K H1 l (xs.map V.str)) ∧ xs.length + 1 < scanBound ∧ Q (.int (TX.metT xs).length) H1
theorem pe_lenS {a : Expr} {ta : TE} {p p2 q pos : Pos} (hc : X.calm = true) (hg : Gl X "len") (hm : X.mg "len" = none) (hg2 : Gl X "set") (hm2 : X.mg "set" = none) (ha : PE X a ta)
    (na : starEach [a] X.env = (false, eval a X.env) :: starEach [] X.env := by rfl) : PE X (.Call (.Name "len" p) [.Call (.Name "set" p2) [a] [] q] [] pos) (tLenS X.K ta) := by
  refine ⟨fun pins s σ H Q I h => ?_⟩
  refine Call_ (ld_blt I hg hm boot_len ?_)
  refine callWith_builtin1 (args_cons ?_ rfl) rfl rfl
  refine Call_ (ld_blt I hg2 hm2 boot_set ?_)
  refine callWith_type1 (args_cons (thn (ha.run pins s σ H _ I h) fun v s1 ⟨x, H1, I1, r1, q1⟩ => args_nil ?_) na) na rfl
  obtain ⟨l, xs, rfl, hq, h1, q1⟩ := q1
  cases r1
  have fin : ∀ s2, TX.Left X.prog X.w s1 xs s2 → wpAny (model X.prog X.w) X.A (spliced (backTo pos (starEach [] X.env))) (fun vs s₂ => wpAny (model X.prog X.w) X.A (call (.builtin "len") (Value.ref s1.heap.objs.size :: vs)) (EP X pins σ Q) X.xe s₂) X.xe s2 := fun s2 hs2 => by
    obtain ⟨h', tk, rfl, hS, hk⟩ := hs2
    have le := TX.metT_le xs.length xs
    rw [List.take_of_length_le (Nat.le_refl _)] at le
    obtain ⟨o, es, ep, t, ho, hex, hd, _, _, hbd, hf, hn⟩ := hS
    have I2 : Inv X pins σ H1 { s1 with heap := h', toks := tk } := I1.kept fun b o e => hk b o (Heap.lt_size e) e
    refine args_nil (call_len_set ho hex hd hf (by unfold scanBound at hbd; omega) ⟨.int (TX.metT xs).length, H1, I2.tok _, ⟨_, by rw [hn]⟩, q1⟩)
  rcases hq with hq | hq
  · obtain ⟨its, r, pl, hz⟩ := I1.list hq
    exact TX.set_texts (I1.ok.hd hc) (.inl pl.isList) (by simpa using strsAre_of r) h1 fin
  · obtain ⟨its, r, pl, hz⟩ := I1.tuple hq
    exact TX.set_texts (I1.ok.hd hc) (.inr pl) (by simpa using strsAre_of r) h1 fin
end
end L2
namespace DL
open PySem PySem.Spec PyProof.Rows L2 Evl
def stOk (ys : List Str) : Bool := Nat.ble ys.length 4000
def lensetD (d : D) : Option D := match d with
  | .list xs => (asStrs xs).bind fun ys => if stOk ys = true then some (.int (TX.metT ys).length) else none
  | .tuple xs => (asStrs xs).bind fun ys => if stOk ys = true then some (.int (TX.metT ys).length) else none
  | _ => none
section
variable {X : Cx} {a : Expr} {f : FE} {p p2 q pos : Pos}
theorem de_lenset (hc : X.calm = true) (hm : X.mg "len" = none) (hm2 : X.mg "set" = none) (h : DR X a f) (hg : Gl X "len" := by rfl) (hg2 : Gl X "set" := by rfl) (na : starEach [a] X.env = (false, eval a X.env) :: starEach [] X.env := by rfl) :
    DE X (.Call (.Name "len" p) [.Call (.Name "set" p2) [a] [] q] [] pos) (c1 lensetD f) :=
  pe_imp (pe_lenS hc hg hm hg2 hm2 h na) fun σ H Q ⟨B, F0, F, e, d, ok, fe, q⟩ => by
  obtain ⟨x, hx, fe⟩ := bind1 fe
  refine ⟨B, F0, F, e, x, ok, hx, fun v F1 H1 g1 r1 => ?_⟩
  unfold lensetD at fe
  split at fe
  · obtain ⟨ys, hys, fe⟩ := bind1 fe
    split at fe
    · rename_i hz
      cases fe
      obtain ⟨l, vs, rfl, h1, h2⟩ := r1.lst g1.fh
      rw [asStrs_of hys] at h2
      have := dpa_map_str h2
      subst this
      exact ⟨l, ys, rfl, .inl h1, by have := Nat.le_of_ble_eq_true hz; unfold scanBound; omega, q _ F1 H1 g1 (.int _)⟩
    · cases fe
  · obtain ⟨ys, hys, fe⟩ := bind1 fe
    split at fe
    · rename_i hz
      cases fe
      obtain ⟨l, vs, rfl, h1, h2⟩ := r1.tup g1.fh
      rw [asStrs_of hys] at h2
      have := dpa_map_str h2
      subst this
      exact ⟨l, ys, rfl, .inr h1, by have := Nat.le_of_ble_eq_true hz; unfold scanBound; omega, q _ F1 H1 g1 (.int _)⟩
    · cases fe
  · cases fe
theorem e_lensetT {ys : List Str} (h : ys.length ≤ 4000) : lensetD (.tuple (ys.map PyData.str)) = some (.int (TX.metT ys).length) := by
  unfold lensetD
  simp only
  rw [asStrs_map]
  exact if_pos (Nat.ble_eq_true_of_le h)
theorem e_lensetL {ys : List Str} (h : ys.length ≤ 4000) : lensetD (.list (ys.map PyData.str)) = some (.int (TX.metT ys).length) := by
  unfold lensetD
  simp only
  rw [asStrs_map]
  exact if_pos (Nat.ble_eq_true_of_le h)
end
end DL

/-! DLay18: dict(list of pairs) -/
namespace DL
open PySem PySem.Spec PyProof.Rows L2 Evl
def asKvs : List D → Option (List (Key × D))
  | [] => some []
  | .tuple [k, v] :: ds => (asKey k).bind fun kk => (asKvs ds).map ((kk, v) :: ·)
  | _ :: _ => none
def dictPD : D → Option D
  | .list ds => (asKvs ds).map fun kds => .dict (mergeKD [] kds)
  | _ => none
theorem asKvs_dpa {K : PySem.W.Frag} {F H : Hp} (xf : Ex F H) : ∀ {ds : List D} {kds : List (Key × D)} {vs : List V}, asKvs ds = some kds → DpAll K F vs ds →
    ∃ (ps : List Addr) (kvs : List (Key × V)), vs = ps.map V.ref ∧ Paired (fun p kv => SqT K H p [kV kv.1, kv.2]) ps kvs ∧ KvD K F kvs kds
  | [], _, _, h, .nil => by
    cases h
    exact ⟨[], [], rfl, .nil, .nil⟩
  | d :: ds, kds, _, h, .cons hd hs => by
    unfold asKvs at h
    split at h
    · cases ‹_ :: _ = []›
    · rename_i k v ds' e
      cases e
      obtain ⟨kk, hk, h⟩ := bind1 h
      obtain ⟨r, hr, rfl⟩ := Option.map_eq_some_iff.mp h
      obtain ⟨ps, kvs, rfl, h2, h3⟩ := asKvs_dpa xf hr hs
      obtain ⟨a, us, rfl, hS, hA⟩ := dp_tup hd
      cases hA with
      | cons h4 hA =>
        cases hA with
        | cons h5 hA =>
          cases hA
          rw [dp_key h4 hk] at hS
          exact ⟨a :: ps, (kk, _) :: kvs, rfl, .cons (ex_t xf hS) h2, .cons h5 h3⟩
    · cases h
def rDictP (K : PySem.W.Frag) : List V → Hp → VK → Prop := fun xs H Q => ∃ (a : Addr) (ps : List Addr) (kvs : List (Key × V)), xs = [.ref a] ∧ SqL K H a (ps.map V.ref) ∧ Paired (fun p kv => SqT K H p [kV kv.1, kv.2]) ps kvs ∧
    ∀ p, H p = none → Q (.ref p) (upd H p (.dK (mergeK [] kvs)))
theorem cd_dictP {K : PySem.W.Frag} : CD1 K (rDictP K) dictPD := by
  intro F H x a d Q xf ha hg q
  unfold dictPD at hg
  split at hg
  · obtain ⟨kds, hk, rfl⟩ := Option.map_eq_some_iff.mp hg
    obtain ⟨l, vs, rfl, h1, h2⟩ := ha.lst xf
    obtain ⟨ps, kvs, rfl, h3, h4⟩ := asKvs_dpa xf hk h2
    refine ⟨l, ps, kvs, rfl, h1, h3, fun p hp => ?_⟩
    have g := Gr.new (o := .dK (mergeK [] kvs)) xf hp
    exact q _ _ _ g (.dic (.inl upd_same) (dpk_mono g.ff (dpk_merge h4 .nil)))
  · cases hg
section
variable {X : Cx} {e : Expr} {f : FE} {p pos : Pos}
theorem de_dictP (hc : X.calm = true) (hm : X.mg "dict" = none) (h : DR X e f) (hg : Gl X "dict" := by rfl) (hs : starEach [e] X.env = (false, eval e X.env) :: starEach [] X.env := by rfl) : DE X (.Call (.Name "dict" p) [e] [] pos) (c1 dictPD f) :=
  de_t1 (call_dictP hc) cd_dictP (by rfl) hm h hg (by decide) (by decide) hs
end
theorem asKvs_map (ps : List (Key × D)) : asKvs (ps.map fun p => .tuple [keyD p.1, p.2]) = some ps := by
  induction ps with
  | nil => rfl
  | cons p ps ih =>
    rw [List.map_cons]
    show (asKey (keyD p.1)).bind (fun kk => (asKvs (ps.map fun p => .tuple [keyD p.1, p.2])).map ((kk, p.2) :: ·)) = _
    rw [asKey_keyD, ih]
    rfl
/-- what is stored last counts -/
theorem look_put (ds : List (D × D)) (k j : Key) (d : D) : lookK (putKD ds k d) j = if j = k then some d else lookK ds j := by
  have key : ∀ ds : List (D × D), lookK (ds.map (fun p => if asKey p.1 = some k then (p.1, d) else p)) j = (lookK ds j).map fun x => if j = k then d else x := by
    intro ds
    induction ds with
    | nil => rfl
    | cons p ds ih =>
      unfold lookK at ih ⊢
      rw [List.map_cons, List.find?_cons, List.find?_cons]
      by_cases h1 : asKey p.1 = some k
      · rw [if_pos h1]
        by_cases h2 : asKey p.1 = some j
        · have e : j = k := by rw [h1] at h2; exact (Option.some.inj h2).symm
          simp only [h2, decide_true, e, if_true, Option.map_some]
        · simp only [h2, decide_false]
          exact ih
      · rw [if_neg h1]
        by_cases h2 : asKey p.1 = some j
        · have e : ¬ j = k := fun q => h1 (by rw [h2, q])
          simp only [h2, decide_true, e, if_false, Option.map_some]
        · simp only [h2, decide_false]
          exact ih
  have none_of : ∀ ds : List (D × D), (ds.any fun p => decide (asKey p.1 = some k)) = false → lookK ds k = none := by
    intro ds h
    unfold lookK
    rw [List.find?_eq_none.mpr fun p hp => ?_]
    · rfl
    · have := List.any_eq_false.mp h p hp
      simpa using this
  unfold putKD
  split
  · rename_i h
    rw [key]
    by_cases e : j = k
    · subst e
      rw [if_pos rfl]
      have : ∃ x, lookK ds j = some x := by
        obtain ⟨p, hp, hk⟩ := List.any_eq_true.mp h
        unfold lookK
        cases hf : ds.find? fun p => decide (asKey p.1 = some j) with
        | none =>
          have := List.find?_eq_none.mp hf p hp
          exact absurd hk this
        | some q => exact ⟨_, rfl⟩
      obtain ⟨x, hx⟩ := this
      rw [hx]
      simp
    · rw [if_neg e]
      simp only [if_neg e]
      cases lookK ds j <;> rfl
  · rename_i h
    have h' : (ds.any fun p => decide (asKey p.1 = some k)) = false := by simpa using h
    unfold lookK
    rw [List.find?_append]
    by_cases e : j = k
    · subst e
      rw [if_pos rfl]
      have := none_of ds h'
      unfold lookK at this
      rw [Option.map_eq_none_iff.mp this]
      simp [List.find?_cons, asKey_keyD]
    · rw [if_neg e]
      have e2 : ¬ k = j := fun q => e q.symm
      simp only [List.find?_cons, asKey_keyD, Option.some.injEq, e2, decide_false, List.find?_nil, Option.or_none]
theorem look_merge : ∀ (kds : List (Key × D)) (ds : List (D × D)) (j : Key), (kds.map (·.1)).Nodup → lookK (mergeKD ds kds) j = ((kds.find? fun p => decide (p.1 = j)).map (·.2)).or (lookK ds j)
  | [], ds, j, _ => rfl
  | (k, d) :: kds, ds, j, h => by
    rw [List.map_cons, List.nodup_cons] at h
    show lookK (mergeKD (putKD ds k d) kds) j = _
    rw [look_merge kds _ j h.2, look_put, List.find?_cons]
    by_cases e : k = j
    · subst e
      simp only [decide_true, if_true, Option.map_some, Option.some_or]
      have : kds.find? (fun p => decide (p.1 = k)) = none := List.find?_eq_none.mpr fun p hp q => h.1 (List.mem_map.mpr ⟨p, hp, of_decide_eq_true q⟩)
      rw [this]
      rfl
    · have e2 : ¬ j = k := fun q => e q.symm
      simp only [e, e2, decide_false, if_false]
theorem look_merge_mem {kds : List (Key × D)} {k : Key} {d : D} (h : (kds.map (·.1)).Nodup) (hm : (k, d) ∈ kds) : lookK (mergeKD [] kds) k = some d := by
  rw [look_merge kds [] k h]
  have : kds.find? (fun p => decide (p.1 = k)) = some (k, d) := by
    induction kds with
    | nil => cases hm
    | cons p kds ih =>
      rw [List.map_cons, List.nodup_cons] at h
      rw [List.find?_cons]
      rcases List.mem_cons.mp hm with e | e
      · rw [← e]
        simp
      · have : ¬ p.1 = k := fun q => h.1 (by rw [q]; exact List.mem_map.mpr ⟨_, e, rfl⟩)
        simp only [this, decide_false]
        exact ih h.2 e
  rw [this]
  rfl
end DL

/-! DLay19: dicts of one's own: made, stored into, updated -/
namespace L2
open PySem PySem.Spec PyProof.Rows
section
variable {X : Cx} {o e : Expr} {apos cpos : Pos} {td ty : TE}
/-- d.update(d2) -/
def tDUpd (td ty : TE) : TE := fun σ H Q => td σ H fun x H1 => ∃ a, x = .ref a ∧ IsD H1 a ∧ ty σ H1 fun y H2 => ∃ b kvs more, y = .ref b ∧ a ≠ b ∧ H2 a = some (.dK kvs) ∧ Rd H2 b (.dK more) ∧ kvs.length + more.length ≤ sizeLine ∧ Q .non (upd H2 a (.dK (mergeK kvs more)))
theorem pe_dupd (ho : PE X o td) (he : PE X e ty) (m : M1 X o "update" apos e cpos) : PE X (.Call (.Attribute o "update" apos) [e] [] cpos) (tDUpd td ty) := by
  refine ⟨fun pins s σ H Q I h => ?_⟩
  refine wpAny_Call_method m.base m.few m.line PySem.F.plainAttrs_dict PySem.F.slot_dict_update PySem.F.type_dict_update (thn (ho.run pins s σ H _ I h) fun u s1 ⟨x, H1, I1, rx, a, ex, d, q1⟩ => ?_)
  subst ex
  obtain rfl : u = Value.ref a := rx
  obtain ⟨t1, t2, _⟩ := isD_at I1 d
  refine ⟨t1, t2, ?_⟩
  rw [m.trees]
  refine Calls.callWith_builtin rfl (Calls.evalArgs_plain (Calls.spliced_cons (thn (he.run pins s1 σ H1 _ I1 q1) fun iv s2 ⟨y, H2, I2, ry, b, kvs, more, ey, hne, ea, eb, hz, q2⟩ => Calls.spliced_nil ?_)))
  subst ey
  obtain rfl : iv = Value.ref b := ry
  obtain ⟨z, hd, vs, rel, dd⟩ := dk_of I2.hok ea
  obtain ⟨z2, hd2, vs2, rel2, dd2⟩ := dk_rd I2.hok eb
  refine call_meetsIn PySem.F.slot_dict_update dd.typeIs PySem.F.entry_dict_update (PySem.F.args_dict_update_2 _ _) (meets_dict_update (mixKind X.prog X.w) a b hne hd2) ⟨vs, vs2, dd, dd2, by rw [← rel.length, ← rel2.length]; exact hz, fun h' dd' _ hs => ?_⟩
  have hl : (mergeK kvs more).length ≤ sizeLine := Nat.le_trans (length_mergeK more kvs) hz
  have he : ∃ q, h'.get? a = some q := let ⟨q, _, _, hq, _⟩ := dd'; ⟨q, hq⟩
  exact ⟨.non, _, d_write (t' := s2.toks) I2 (by rw [ea]; exact True.intro) hs he (dk_new hl hd (KV.merge rel2 rel) dd'), rfl, q2⟩
end
end L2
namespace DL
open PySem PySem.Spec PyProof.Rows L2 Evl
abbrev FD := DEnv → Option (List (D × D))
def TNd (K : PySem.W.Frag) (f : FD) : TE := fun σ H Q => ∃ B F0 F e ds, Ok K B F0 F σ H e ∧ f e = some ds ∧ ∀ a kvs F' H', Gr F H F' H' → H a = none → F' a = none → H' a = some (.dK kvs) → DpKv K F' kvs ds → Q (.ref a) H'
def DNd (X : Cx) (e : Expr) (f : FD) : Prop := PE X e (TNd X.K f)
def newD : FD := fun _ => some []
def dspN (f : FK) : FD := fun e => (f e).bind fun kds => if Nat.ble kds.length 15 = true then some (mergeKD [] kds) else none
def sNewD (i : Nat) (f : FD) : FS := fun e => (f e).map fun ds => .nx (e.set i (some (.od ds)))
def odAt (i : Nat) (e : DEnv) : Option (List (D × D)) := match e[i]? with
  | some (some (.od ds)) => some ds
  | _ => none
def sPut (i : Nat) (g f : FE) : FS := fun e => (f e).bind fun d => (g e).bind fun k => (asKey k).bind fun kk => (odAt i e).bind fun ds => if sml (ds.length + 1) = true then some (.nx (e.set i (some (.od (putKD ds kk d))))) else none
/-- entries of a dict: keys and values -/
def kvsOf : List (D × D) → Option (List (Key × D))
  | [] => some []
  | (k, d) :: ds => (asKey k).bind fun kk => (kvsOf ds).map ((kk, d) :: ·)
def sUpd (i : Nat) (f : FE) : FS := fun e => (f e).bind fun d => match d with
  | .dict es => (kvsOf es).bind fun kes => (odAt i e).bind fun ds => if sml (ds.length + es.length) = true then some (.nx (e.set i (some (.od (mergeKD ds kes))))) else none
  | _ => none
section
variable {X : Cx} {pos : Pos} {e e2 : Expr} {fe fg : FE} {fd : FD} {fr : FK} {ks : List (Option Expr)} {vs : List Expr}
theorem dnd_new : DNd X (.Dict [] [] pos) newD := pe_imp pe_dnewK fun σ H Q ⟨B, F0, F, e, ds, ok, fe, q⟩ p hp => by
  cases fe
  exact q p [] F _ (Gr.loose ok.fh hp) hp (fresh_back ok.fh hp) upd_same .nil
theorem dnd_disp (h : DK X pos ks vs fr) (hall : ks.all (·.isSome) = true := by rfl) (hl : ks.length = vs.length := by rfl) (h0 : ks ≠ [] := by exact fun h => nomatch h) (h15 : ks.length ≤ 15 := by decide) : DNd X (.Dict ks vs pos) (dspN fr) := by
  obtain ⟨trs, h1, h2⟩ := h
  refine pe_imp (pe_disp h1 hall hl h0 h15) fun σ H Q ⟨B, F0, F, e, d, ok, fe, q⟩ p hp => ?_
  obtain ⟨kds, hk, fe⟩ := bind1 fe
  split at fe
  · rename_i hz
    cases fe
    have g0 : Gr F H F (upd H p (.dK [])) := Gr.loose ok.fh hp
    refine h2 _ _ _ ⟨B, F0, F, e, kds, ok.grow g0, hk, fun kvs F' H' g dk => ?_⟩
    have hp' : H' p = some (.dK []) := g.hh _ _ upd_same
    have hf : F' p = none := (g.nf p _ upd_same).trans (fresh_back ok.fh hp)
    refine ⟨hp', kvs, rfl, by rw [kvd_len dk]; exact Nat.le_of_ble_eq_true hz, ?_⟩
    have g1 : Gr F H F' (upd H' p (.dK (mergeK [] kvs))) := (g0.trans g).mut hp hf
    exact q p _ _ _ g1 hp hf upd_same (dpk_merge dk .nil)
  · cases fe
theorem Ok.newD {K : PySem.W.Frag} {B F0 F F' : Hp} {σ : L2.St} {H H' : Hp} {e : DEnv} {i : Nat} {a : Addr} {vs : List (Key × V)} {xs : List (D × D)} (ok : Ok K B F0 F σ H e) (g : Gr F H F' H') (h1 : H a = none) (h2 : F' a = none) (h3 : H' a = some (.dK vs)) (h4 : DpKv K F' vs xs) :
    Ok K B F0 F' (σ.set i (some (.ref a))) H' (e.set i (some (.od xs))) :=
  (ok.grow g).setOd (fun j ys b hj hs _ => by
    obtain ⟨a', vs', s1, t1, _⟩ := ok.od j ys hj
    rw [hs] at s1
    cases s1
    exact ne_of_none t1 h1) h3 (fresh_back ok.gr.hh h1) h2 h4
theorem ds_newD (i : Nat) {x : Str} {pos' : Pos} (hN : X.N.Nodup) (he : DNd X e fd) (hi : X.N[i]? = some x := by rfl) (hx : Loc X.env.scope x := by first | exact Or.inl rfl | exact Or.inr rfl) (hs : swapsWith e (some (.Name x pos')) pos.line X.env = pure false := by rfl)
    (hf : X.fn x = true ∨ X.env.scope.names.lookup x = some .local := by first | exact .inl rfl | exact .inr rfl | assumption) : DS X (.Assign [.Name x pos'] e pos) (sNewD i fd) := ps_imp (ps_set hN hi hx he hs hf) fun D σ H ⟨B, F0, F, e, r, ok, fr, q⟩ => by
  obtain ⟨d, h, rfl⟩ := Option.map_eq_some_iff.mp fr
  exact ⟨B, F0, F, e, d, ok, h, fun a vs F' H' g h1 h2 h3 h4 => q _ F' H' g.ff (ok.newD g h1 h2 h3 h4)⟩
theorem odAt_some {i : Nat} {e : DEnv} {xs : List (D × D)} (h : odAt i e = some xs) : e[i]? = some (some (.od xs)) := by
  unfold odAt at h
  split at h
  · cases h; assumption
  · cases h
theorem dpk_len {K : PySem.W.Frag} {F : Hp} : ∀ {kvs : List (Key × V)} {ds : List (D × D)}, DpKv K F kvs ds → kvs.length = ds.length
  | _, _, .nil => rfl
  | _, _, .cons _ hs => congrArg (· + 1) (dpk_len hs)
theorem dpk_kvs {K : PySem.W.Frag} {F : Hp} : ∀ {kvs : List (Key × V)} {ds : List (D × D)} {kes : List (Key × D)}, DpKv K F kvs ds → kvsOf ds = some kes → KvD K F kvs kes
  | _, _, _, .nil, h => by cases h; exact .nil
  | _, _, kes, .cons (k := k) h hs, q => by
    unfold kvsOf at q
    rw [asKey_keyD] at q
    obtain ⟨r, hr, rfl⟩ := Option.map_eq_some_iff.mp q
    exact .cons h (dpk_kvs hs hr)
/-- d[k] = e -/
theorem ds_dput (i : Nat) {x : Str} {px ps : Pos} {r : Nat} (hr : Room r X.A) (he2 : DE X e2 fg) (he : DE X e fe) (hi : X.N[i]? = some x := by rfl) (hv : Vis X.env.scope x := by first | exact Or.inl rfl | exact Or.inr (Or.inl rfl) | exact Or.inr (Or.inr rfl)) (hd : (x == ("__debug__" : Str)) = false := by decide)
    (hcd : (x == ("__classdict__" : Str)) = false := by decide) (hs : swapsWith e (some (.Subscript (.Name x px) e2 ps)) pos.line X.env = pure false := by rfl) :
    DS X (.Assign [.Subscript (.Name x px) e2 ps] e pos) (sPut i fg fe) :=
  ps_imp (ps_dput (by have := hr.units; omega) (pe_var hi hv hd hcd) he2 he hs) fun D σ H ⟨B, F0, F, e, r, ok, fr, q⟩ => by
  obtain ⟨d, k, h, hk, fr⟩ := bind2 fr
  obtain ⟨kk, hkk, fr⟩ := bind1 fr
  obtain ⟨xs, hx, fr⟩ := bind1 fr
  split at fr
  · rename_i hz
    cases fr
    have hx := odAt_some hx
    refine ⟨B, F0, F, e, d, ok, h, fun v F' H' g dp => ?_⟩
    obtain ⟨a, kvs, h1, h2, h3, h4, h5⟩ := (ok.grow g).od i xs hx
    refine ⟨.ref a, h1, B, F0, F', e, _, ok.grow g, hk, fun v2 F2 H2 g2 dp2 => ?_⟩
    rw [dp_key dp2 hkk]
    refine ⟨a, _, rfl, DPut.k (g2.hh _ _ h2) ?_, q σ F2 _ (g.trans g2).ff (((ok.grow g).grow g2).mutOd hx h1 (dpk_put kk (dp_mono g2.ff dp) (dpk_mono g2.ff h5)))⟩
    rw [dpk_len h5]
    exact Nat.lt_of_lt_of_le (sml_le hz) big_line
  · cases fr
/-- d.update(e) -/
theorem ds_dupd (i : Nat) {x : Str} {px apos cpos : Pos} (he : DE X e fe) (hi : X.N[i]? = some x := by rfl) (hv : Vis X.env.scope x := by first | exact Or.inl rfl | exact Or.inr (Or.inl rfl) | exact Or.inr (Or.inr rfl)) (hd : (x == ("__debug__" : Str)) = false := by decide)
    (hcd : (x == ("__classdict__" : Str)) = false := by decide) (m : M1 X (.Name x px) "update" apos e cpos := by exact ⟨rfl, rfl, rfl, rfl⟩) (hsw : swapsWith (.Call (.Attribute (.Name x px) "update" apos) [e] [] cpos) none pos.line X.env = pure false := by rfl) :
    DS X (.Expr (.Call (.Attribute (.Name x px) "update" apos) [e] [] cpos) pos) (sUpd i fe) :=
  ps_imp (ps_expr (pe_dupd (pe_var hi hv hd hcd) he m) hsw) fun D σ H ⟨B, F0, F, e, r, ok, fr, q⟩ => by
  obtain ⟨d, h, fr⟩ := bind1 fr
  split at fr
  · rename_i es
    obtain ⟨kes, hke, fr⟩ := bind1 fr
    obtain ⟨xs, hx, fr⟩ := bind1 fr
    split at fr
    · rename_i hz
      cases fr
      have hx := odAt_some hx
      obtain ⟨a, kvs, h1, h2, h3, h4, h5⟩ := ok.od i xs hx
      refine ⟨.ref a, h1, a, rfl, .inl ⟨kvs, .inl h2⟩, B, F0, F, e, _, ok, h, fun v F' H' g dp => ?_⟩
      obtain ⟨b, more, rfl, hR, hD⟩ := dp_dic dp
      have hne : a ≠ b := by
        rintro rfl
        have hf : F' a = none := (g.nf _ _ h2).trans h4
        rcases hR with hR | ⟨o, hR⟩
        · rw [hf] at hR; cases hR
        · rw [hf] at hR; cases hR
      refine ⟨b, kvs, more, rfl, hne, g.hh _ _ h2, rd_mono g.fh hR, ?_, q σ F' _ g.ff ((ok.grow g).mutOd hx h1 (dpk_merge (dpk_kvs hD hke) (dpk_mono g.ff h5)))⟩
      rw [dpk_len h5, dpk_len hD]
      exact Nat.le_trans (sml_le hz) big_line
    · cases fr
  · cases fr
end
section
variable {e : DEnv} {f g : FE} {fd : FD} {fr : FK} {i : Nat}
@[simp] theorem e_newD : newD e = some [] := (rfl)
@[simp] theorem e_dspN : dspN fr e = (fr e).bind fun kds => if Nat.ble kds.length 15 = true then some (mergeKD [] kds) else none := (rfl)
@[simp] theorem e_sNewD : sNewD i fd e = (fd e).map fun ds => .nx (e.set i (some (.od ds))) := (rfl)
@[simp] theorem e_odAt : odAt i e = (match e[i]? with
  | some (some (.od ds)) => some ds
  | _ => none) := (rfl)
@[simp] theorem e_sPut : sPut i g f e = (f e).bind fun d => (g e).bind fun k => (asKey k).bind fun kk => (odAt i e).bind fun ds => if sml (ds.length + 1) = true then some (.nx (e.set i (some (.od (putKD ds kk d))))) else none := (rfl)
def updFl (i : Nat) (e : DEnv) (d : D) : Option Fl := match d with
  | .dict es => (kvsOf es).bind fun kes => (odAt i e).bind fun ds => if sml (ds.length + es.length) = true then some (.nx (e.set i (some (.od (mergeKD ds kes))))) else none
  | _ => none
@[simp] theorem e_sUpd : sUpd i f e = (f e).bind (updFl i e) := (rfl)
@[simp] theorem e_updFl {es : List (D × D)} : updFl i e (.dict es) = (kvsOf es).bind fun kes => (odAt i e).bind fun ds => if sml (ds.length + es.length) = true then some (.nx (e.set i (some (.od (mergeKD ds kes))))) else none := (rfl)
end
end DL

/-! DLay20: a text once -/
namespace DL
open PySem PySem.Spec PyProof.Rows L2 Evl
def mulSD : D → D → Option D
  | .str x, .int n => if n = 1 then some (.str x) else none
  | _, _ => none
section
variable {X : Cx} {a b : Expr} {f g : FE} {pos : Pos}
def rMulS : R2 := fun x y H Q => ∃ i, x = .str i ∧ y = .int 1 ∧ Q (.str i) H
theorem op_mulS : OpR X (binaryOp .Mult) rMulS := by
  intro pins s σ H x y v u Q I rx ry h
  obtain ⟨i, rfl, rfl, q⟩ := h
  obtain ⟨t, rfl⟩ := rx
  obtain ⟨t', rfl⟩ := ry
  have e : Txt.mul i 1 = i := by
    unfold Txt.mul
    rw [if_neg (by decide), if_pos (by simp)]
  refine SB.mul (n := 1) ⟨by decide, fun _ h => by simp at h, fun _ h => by simp at h⟩ fun t2 tk => ?_
  rw [e]
  exact ⟨.str i, H, I.tok _, ⟨t2, rfl⟩, q⟩
theorem od_mulS {K : PySem.W.Frag} : OpD K rMulS mulSD := by
  intro F H x y a b d Q xf ha hb hg q
  unfold mulSD at hg
  split at hg
  · split at hg
    · rename_i hz
      subst hz
      cases hg
      rw [rs_int hb]
      have := rs_flat ha rfl
      rw [dp_str this]
      exact ⟨_, rfl, rfl, q.now xf (.str _)⟩
    · cases hg
  · cases hg
theorem de_mulS (ha : DR X a f) (hb : DR X b g) : DE X (.BinOp a .Mult b pos) (c2 mulSD f g) := de_op op_mulS od_mulS ha hb
end
theorem mulS1 {x : Str} : mulSD (.str x) (.int 1) = some (.str x) := by simp [mulSD]
end DL

namespace W
open PySem PySem.Spec PyProof.Rows L2 Evl DL
def topS (i : Nat) : Stmt := PySem.Challenge.pw_growbox_k43_whole_other_names.main.body.getD i (.Pass ⟨0, 0, 0, 0⟩)
abbrev FnP (K : PySem.W.Frag) (x : Str) (st : Stmt) (f : Addr) (fd : FuncData) : Prop := FunD K x x (defArgs st) (defBody st) (defScope st) [] [] f fd
abbrev s_is_whole : Stmt := topS 8
abbrev N_is_whole : List Str := ["thing", "low", "high"]
theorem sc_is_whole : FnScope N_is_whole ["thing", "low", "high"] (defScope s_is_whole) := ⟨rfl, rfl, rfl, by decide +kernel, rfl, by decide +kernel, by decide +kernel⟩
abbrev s_is_name : Stmt := topS 9
abbrev N_is_name : List Str := ["thing", "sign"]
theorem sc_is_name : FnScope N_is_name ["thing"] (defScope s_is_name) := ⟨rfl, rfl, rfl, by decide +kernel, rfl, by decide +kernel, by decide +kernel⟩
abbrev s_is_span : Stmt := topS 10
abbrev N_is_span : List Str := ["thing", "part"]
theorem sc_is_span : FnScope N_is_span ["thing"] (defScope s_is_span) := ⟨rfl, rfl, rfl, by decide +kernel, rfl, by decide +kernel, by decide +kernel⟩
abbrev s_are_boxes : Stmt := topS 11
abbrev N_are_boxes : List Str := ["thing", "many", "deep", "part"]
theorem sc_are_boxes : FnScope N_are_boxes ["thing", "many", "deep"] (defScope s_are_boxes) := ⟨rfl, rfl, rfl, by decide +kernel, rfl, by decide +kernel, by decide +kernel⟩
abbrev s_is_box_to : Stmt := topS 12
abbrev N_is_box_to : List Str := ["thing", "deep", "word", "part"]
theorem sc_is_box_to : FnScope N_is_box_to ["thing", "deep"] (defScope s_is_box_to) := ⟨rfl, rfl, rfl, by decide +kernel, rfl, by decide +kernel, by decide +kernel⟩
abbrev s_boxes_in : Stmt := topS 13
abbrev N_boxes_in : List Str := ["box"]
theorem sc_boxes_in : FnScope N_boxes_in ["box"] (defScope s_boxes_in) := ⟨rfl, rfl, rfl, by decide +kernel, rfl, by decide +kernel, by decide +kernel⟩
abbrev s_names_in : Stmt := topS 14
abbrev N_names_in : List Str := ["box", "found", "part"]
theorem sc_names_in : FnScope N_names_in ["box"] (defScope s_names_in) := ⟨rfl, rfl, rfl, by decide +kernel, rfl, by decide +kernel, by decide +kernel⟩
abbrev s_is_box : Stmt := topS 15
abbrev N_is_box : List Str := ["thing"]
theorem sc_is_box : FnScope N_is_box ["thing"] (defScope s_is_box) := ⟨rfl, rfl, rfl, by decide +kernel, rfl, by decide +kernel, by decide +kernel⟩
abbrev s_with_boxes : Stmt := topS 16
abbrev N_with_boxes : List Str := ["box", "parts"]
theorem sc_with_boxes : FnScope N_with_boxes ["box", "parts"] (defScope s_with_boxes) := ⟨rfl, rfl, rfl, by decide +kernel, rfl, by decide +kernel, by decide +kernel⟩
abbrev s_plain : Stmt := topS 18
abbrev N_plain : List Str := ["upper", "lower", "one", "other"]
theorem sc_plain : FnScope N_plain ["upper", "lower"] (defScope s_plain) := ⟨rfl, rfl, rfl, by decide +kernel, rfl, by decide +kernel, by decide +kernel⟩
abbrev s_plus : Stmt := topS 19
abbrev N_plus : List Str := ["one", "other"]
theorem sc_plus : FnScope N_plus ["one", "other"] (defScope s_plus) := ⟨rfl, rfl, rfl, by decide +kernel, rfl, by decide +kernel, by decide +kernel⟩
abbrev s_is_less : Stmt := topS 20
abbrev N_is_less : List Str := ["one", "other"]
theorem sc_is_less : FnScope N_is_less ["one", "other"] (defScope s_is_less) := ⟨rfl, rfl, rfl, by decide +kernel, rfl, by decide +kernel, by decide +kernel⟩
abbrev s_low_of : Stmt := topS 23
abbrev N_low_of : List Str := ["span"]
theorem sc_low_of : FnScope N_low_of ["span"] (defScope s_low_of) := ⟨rfl, rfl, rfl, by decide +kernel, rfl, by decide +kernel, by decide +kernel⟩
abbrev s_top_of : Stmt := topS 24
abbrev N_top_of : List Str := ["span"]
theorem sc_top_of : FnScope N_top_of ["span"] (defScope s_top_of) := ⟨rfl, rfl, rfl, by decide +kernel, rfl, by decide +kernel, by decide +kernel⟩
abbrev s_join : Stmt := topS 25
abbrev N_join : List Str := ["some", "is_sum"]
theorem sc_join : FnScope N_join ["some", "is_sum"] (defScope s_join) := ⟨rfl, rfl, rfl, by decide +kernel, rfl, by decide +kernel, by decide +kernel⟩
abbrev s_joined : Stmt := topS 26
abbrev N_joined : List Str := ["spans", "is_sum", "more", "tops", "most", "least", "wish", "span", "one"]
theorem sc_joined : FnScope N_joined ["spans", "is_sum", "more"] (defScope s_joined) := ⟨rfl, rfl, rfl, by decide +kernel, rfl, by decide +kernel, by decide +kernel⟩
abbrev s_along : Stmt := topS 27
abbrev N_along : List Str := ["spans", "gap"]
theorem sc_along : FnScope N_along ["spans", "gap"] (defScope s_along) := ⟨rfl, rfl, rfl, by decide +kernel, rfl, by decide +kernel, by decide +kernel⟩
abbrev s_beside : Stmt := topS 28
abbrev N_beside : List Str := ["spans"]
theorem sc_beside : FnScope N_beside ["spans"] (defScope s_beside) := ⟨rfl, rfl, rfl, by decide +kernel, rfl, by decide +kernel, by decide +kernel⟩
abbrev s_rims_of : Stmt := topS 29
abbrev N_rims_of : List Str := ["box", "axis"]
theorem sc_rims_of : FnScope N_rims_of ["box", "axis"] (defScope s_rims_of) := ⟨rfl, rfl, rfl, by decide +kernel, rfl, by decide +kernel, by decide +kernel⟩
abbrev s_span_of : Stmt := topS 30
abbrev N_span_of : List Str := ["box", "axis", "spans", "more", "part", "least", "wish", "most", "grow", "shrink"]
theorem sc_span_of : FnScope N_span_of ["box", "axis"] (defScope s_span_of) := ⟨rfl, rfl, rfl, by decide +kernel, rfl, by decide +kernel, by decide +kernel⟩
abbrev s_room_of : Stmt := topS 32
abbrev N_room_of : List Str := ["spans", "gap", "length"]
theorem sc_room_of : FnScope N_room_of ["spans", "gap", "length"] (defScope s_room_of) := ⟨rfl, rfl, rfl, by decide +kernel, rfl, by decide +kernel, by decide +kernel⟩
abbrev s_is_enough : Stmt := topS 33
abbrev N_is_enough : List Str := ["spans", "room", "span"]
theorem sc_is_enough : FnScope N_is_enough ["spans", "room"] (defScope s_is_enough) := ⟨rfl, rfl, rfl, by decide +kernel, rfl, by decide +kernel, by decide +kernel⟩
abbrev s_grown : Stmt := topS 34
abbrev N_grown : List Str := ["span", "by", "found"]
theorem sc_grown : FnScope N_grown ["span", "by"] (defScope s_grown) := ⟨rfl, rfl, rfl, by decide +kernel, rfl, by decide +kernel, by decide +kernel⟩
abbrev s_shrunk : Stmt := topS 35
abbrev N_shrunk : List Str := ["span", "by", "found"]
theorem sc_shrunk : FnScope N_shrunk ["span", "by"] (defScope s_shrunk) := ⟨rfl, rfl, rfl, by decide +kernel, rfl, by decide +kernel, by decide +kernel⟩
abbrev s_stops : Stmt := topS 36
abbrev N_stops : List Str := ["spans", "is_growing", "found", "span", "rising", "one", "at", "other"]
theorem sc_stops : FnScope N_stops ["spans", "is_growing"] (defScope s_stops) := ⟨rfl, rfl, rfl, by decide +kernel, rfl, by decide +kernel, by decide +kernel⟩
abbrev s_rate_at : Stmt := topS 38
abbrev N_rate_at : List Str := ["spans", "is_growing", "here", "found", "span"]
theorem sc_rate_at : FnScope N_rate_at ["spans", "is_growing", "here"] (defScope s_rate_at) := ⟨rfl, rfl, rfl, by decide +kernel, rfl, by decide +kernel, by decide +kernel⟩
abbrev s_level : Stmt := topS 37
abbrev N_level : List Str := ["spans", "gap", "length", "room", "is_growing", "change", "here", "moved", "stop", "rate", "left", "goal", "step", "span"]
theorem sc_level : FnScope N_level ["spans", "gap", "length"] (defScope s_level) := ⟨rfl, rfl, rfl, by decide +kernel, rfl, by decide +kernel, by decide +kernel⟩
abbrev s_shares : Stmt := topS 39
abbrev N_shares : List Str := ["spans", "gap", "length", "by", "is_growing", "span"]
theorem sc_shares : FnScope N_shares ["spans", "gap", "length"] (defScope s_shares) := ⟨rfl, rfl, rfl, by decide +kernel, rfl, by decide +kernel, by decide +kernel⟩
abbrev s_lengths : Stmt := topS 40
abbrev N_lengths : List Str := ["spans", "gap", "length", "found", "ahead", "share", "more"]
theorem sc_lengths : FnScope N_lengths ["spans", "gap", "length"] (defScope s_lengths) := ⟨rfl, rfl, rfl, by decide +kernel, rfl, by decide +kernel, by decide +kernel⟩
abbrev s_taken : Stmt := topS 43
abbrev N_taken : List Str := ["box", "axis", "room", "span"]
theorem sc_taken : FnScope N_taken ["box", "axis", "room"] (defScope s_taken) := ⟨rfl, rfl, rfl, by decide +kernel, rfl, by decide +kernel, by decide +kernel⟩
abbrev s_inner_lines : Stmt := topS 44
abbrev N_inner_lines : List Str := ["box", "axis", "begin", "length", "parts", "found", "own", "rims", "part"]
theorem sc_inner_lines : FnScope N_inner_lines ["box", "axis", "begin", "length"] (defScope s_inner_lines) := ⟨rfl, rfl, rfl, by decide +kernel, rfl, by decide +kernel, by decide +kernel⟩
abbrev s_placed : Stmt := topS 45
abbrev N_placed : List Str := ["box", "left", "upper", "wide", "high", "found", "across", "down", "part", "one", "other"]
theorem sc_placed : FnScope N_placed ["box", "left", "upper", "wide", "high"] (defScope s_placed) := ⟨rfl, rfl, rfl, by decide +kernel, rfl, by decide +kernel, by decide +kernel⟩
abbrev s_places : Stmt := topS 46
abbrev N_places : List Str := ["box", "wide", "high"]
theorem sc_places : FnScope N_places ["box", "wide", "high"] (defScope s_places) := ⟨rfl, rfl, rfl, by decide +kernel, rfl, by decide +kernel, by decide +kernel⟩
abbrev s_touched : Stmt := topS 47
abbrev N_touched : List Str := ["box", "wide", "high", "x", "y", "found", "name", "left", "upper", "own", "tall"]
theorem sc_touched : FnScope N_touched ["box", "wide", "high", "x", "y"] (defScope s_touched) := ⟨rfl, rfl, rfl, by decide +kernel, rfl, by decide +kernel, by decide +kernel⟩
abbrev s_is_within : Stmt := topS 48
abbrev N_is_within : List Str := ["box", "axis", "begin", "length", "rims", "part", "line"]
theorem sc_is_within : FnScope N_is_within ["box", "axis", "begin", "length"] (defScope s_is_within) := ⟨rfl, rfl, rfl, by decide +kernel, rfl, by decide +kernel, by decide +kernel⟩
abbrev s_fits : Stmt := topS 49
abbrev N_fits : List Str := ["box", "wide", "high"]
theorem sc_fits : FnScope N_fits ["box", "wide", "high"] (defScope s_fits) := ⟨rfl, rfl, rfl, by decide +kernel, rfl, by decide +kernel, by decide +kernel⟩
abbrev s_needs : Stmt := topS 50
abbrev N_needs : List Str := ["box", "axis"]
theorem sc_needs : FnScope N_needs ["box"] (defScope s_needs) := ⟨rfl, rfl, rfl, by decide +kernel, rfl, by decide +kernel, by decide +kernel⟩
abbrev s_with_leaf : Stmt := topS 52
abbrev N_with_leaf : List Str := ["box", "name", "wide", "high", "part"]
theorem sc_with_leaf : FnScope N_with_leaf ["box", "name", "wide", "high"] (defScope s_with_leaf) := ⟨rfl, rfl, rfl, by decide +kernel, rfl, by decide +kernel, by decide +kernel⟩
abbrev s_changed : Stmt := topS 53
abbrev N_changed : List Str := ["box", "other", "wide", "high", "found", "one", "two", "at", "axis"]
theorem sc_changed : FnScope N_changed ["box", "other", "wide", "high"] (defScope s_changed) := ⟨rfl, rfl, rfl, by decide +kernel, rfl, by decide +kernel, by decide +kernel⟩
abbrev s_may_change : Stmt := topS 54
abbrev N_may_change : List Str := ["box", "name", "found", "part", "names", "axis", "one"]
theorem sc_may_change : FnScope N_may_change ["box", "name"] (defScope s_may_change) := ⟨rfl, rfl, rfl, by decide +kernel, rfl, by decide +kernel, by decide +kernel⟩
abbrev s_turned : Stmt := topS 57
abbrev N_turned : List Str := ["box", "parts", "new", "part"]
theorem sc_turned : FnScope N_turned ["box"] (defScope s_turned) := ⟨rfl, rfl, rfl, by decide +kernel, rfl, by decide +kernel, by decide +kernel⟩
abbrev s_Lcell_at : Stmt := topS 59
abbrev N_Lcell_at : List Str := ["script", "k"]
theorem sc_Lcell_at : FnScope N_Lcell_at ["script", "k"] (defScope s_Lcell_at) := ⟨rfl, rfl, rfl, by decide +kernel, rfl, by decide +kernel, by decide +kernel⟩
abbrev s_Lmixed : Stmt := topS 60
abbrev N_Lmixed : List Str := ["script", "k", "drawn"]
theorem sc_Lmixed : FnScope N_Lmixed ["script", "k"] (defScope s_Lmixed) := ⟨rfl, rfl, rfl, by decide +kernel, rfl, by decide +kernel, by decide +kernel⟩
abbrev s_Ldrawn : Stmt := topS 61
abbrev N_Ldrawn : List Str := ["number", "k", "drawn"]
theorem sc_Ldrawn : FnScope N_Ldrawn ["number", "k"] (defScope s_Ldrawn) := ⟨rfl, rfl, rfl, by decide +kernel, rfl, by decide +kernel, by decide +kernel⟩
abbrev s_Lspan : Stmt := topS 62
abbrev N_Lspan : List Str := ["number", "least", "wish", "most"]
theorem sc_Lspan : FnScope N_Lspan ["number"] (defScope s_Lspan) := ⟨rfl, rfl, rfl, by decide +kernel, rfl, by decide +kernel, by decide +kernel⟩
abbrev s_Lbox : Stmt := topS 63
abbrev N_Lbox : List Str := ["number", "name", "deep", "kind", "many", "gap", "boxes", "rims", "k"]
theorem sc_Lbox : FnScope N_Lbox ["number", "name", "deep"] (defScope s_Lbox) := ⟨rfl, rfl, rfl, by decide +kernel, rfl, by decide +kernel, by decide +kernel⟩
abbrev s_Lsizes : Stmt := topS 64
abbrev N_Lsizes : List Str := ["box", "number", "wide"]
theorem sc_Lsizes : FnScope N_Lsizes ["box", "number"] (defScope s_Lsizes) := ⟨rfl, rfl, rfl, by decide +kernel, rfl, by decide +kernel, by decide +kernel⟩
abbrev s_Lin : Stmt := topS 65
abbrev N_Lin : List Str := ["box"]
theorem sc_Lin : FnScope N_Lin ["box"] (defScope s_Lin) := ⟨rfl, rfl, rfl, by decide +kernel, rfl, by decide +kernel, by decide +kernel⟩
abbrev s_Lleaves : Stmt := topS 66
abbrev N_Lleaves : List Str := ["box", "found", "part"]
theorem sc_Lleaves : FnScope N_Lleaves ["box"] (defScope s_Lleaves) := ⟨rfl, rfl, rfl, by decide +kernel, rfl, by decide +kernel, by decide +kernel⟩
abbrev s_Lled : Stmt := topS 67
abbrev N_Lled : List Str := ["box", "names", "parts", "part"]
theorem sc_Lled : FnScope N_Lled ["box", "names"] (defScope s_Lled) := ⟨rfl, rfl, rfl, by decide +kernel, rfl, by decide +kernel, by decide +kernel⟩
abbrev s_law : Stmt := topS 68
abbrev N_law : List Str := ["script", "box", "signs", "names", "far", "axis", "leaves", "leaf", "due", "k", "name", "wide", "high", "x", "y", "one", "other", "here", "there", "row"]
theorem sc_law : FnScope N_law ["script"] (defScope s_law) := ⟨rfl, rfl, rfl, by decide +kernel, rfl, by decide +kernel, by decide +kernel⟩
def G_MAIN : TabS := [("row", "wide"), ("col", "high")]
def G_OTHER : TabS := [("row", "col"), ("col", "row")]
structure T (w : World) (K : PySem.W.Frag) (mg : Str → Option Value) where
  a_is_whole : Addr
  fd_is_whole : FuncData
  F_is_whole : FnP K "is_whole" s_is_whole a_is_whole fd_is_whole
  g_is_whole : mg "is_whole" = some (.ref a_is_whole)
  b_is_whole : Binds K fd_is_whole ["thing", "low", "high"] []
  a_is_name : Addr
  fd_is_name : FuncData
  F_is_name : FnP K "is_name" s_is_name a_is_name fd_is_name
  g_is_name : mg "is_name" = some (.ref a_is_name)
  b_is_name : Binds K fd_is_name ["thing"] []
  a_is_span : Addr
  fd_is_span : FuncData
  F_is_span : FnP K "is_span" s_is_span a_is_span fd_is_span
  g_is_span : mg "is_span" = some (.ref a_is_span)
  b_is_span : Binds K fd_is_span ["thing"] []
  a_are_boxes : Addr
  fd_are_boxes : FuncData
  F_are_boxes : FnP K "are_boxes" s_are_boxes a_are_boxes fd_are_boxes
  g_are_boxes : mg "are_boxes" = some (.ref a_are_boxes)
  b_are_boxes : Binds K fd_are_boxes ["thing", "many", "deep"] []
  a_is_box_to : Addr
  fd_is_box_to : FuncData
  F_is_box_to : FnP K "is_box_to" s_is_box_to a_is_box_to fd_is_box_to
  g_is_box_to : mg "is_box_to" = some (.ref a_is_box_to)
  b_is_box_to : Binds K fd_is_box_to ["thing", "deep"] []
  a_boxes_in : Addr
  fd_boxes_in : FuncData
  F_boxes_in : FnP K "boxes_in" s_boxes_in a_boxes_in fd_boxes_in
  g_boxes_in : mg "boxes_in" = some (.ref a_boxes_in)
  b_boxes_in : Binds K fd_boxes_in ["box"] []
  a_names_in : Addr
  fd_names_in : FuncData
  F_names_in : FnP K "names_in" s_names_in a_names_in fd_names_in
  g_names_in : mg "names_in" = some (.ref a_names_in)
  b_names_in : Binds K fd_names_in ["box"] []
  a_is_box : Addr
  fd_is_box : FuncData
  F_is_box : FnP K "is_box" s_is_box a_is_box fd_is_box
  g_is_box : mg "is_box" = some (.ref a_is_box)
  b_is_box : Binds K fd_is_box ["thing"] []
  a_with_boxes : Addr
  fd_with_boxes : FuncData
  F_with_boxes : FnP K "with_boxes" s_with_boxes a_with_boxes fd_with_boxes
  g_with_boxes : mg "with_boxes" = some (.ref a_with_boxes)
  b_with_boxes : Binds K fd_with_boxes ["box", "parts"] []
  a_plain : Addr
  fd_plain : FuncData
  F_plain : FnP K "plain" s_plain a_plain fd_plain
  g_plain : mg "plain" = some (.ref a_plain)
  b_plain : Binds K fd_plain ["upper", "lower"] []
  a_plus : Addr
  fd_plus : FuncData
  F_plus : FnP K "plus" s_plus a_plus fd_plus
  g_plus : mg "plus" = some (.ref a_plus)
  b_plus : Binds K fd_plus ["one", "other"] []
  a_is_less : Addr
  fd_is_less : FuncData
  F_is_less : FnP K "is_less" s_is_less a_is_less fd_is_less
  g_is_less : mg "is_less" = some (.ref a_is_less)
  b_is_less : Binds K fd_is_less ["one", "other"] []
  a_low_of : Addr
  fd_low_of : FuncData
  F_low_of : FnP K "low_of" s_low_of a_low_of fd_low_of
  g_low_of : mg "low_of" = some (.ref a_low_of)
  b_low_of : Binds K fd_low_of ["span"] []
  a_top_of : Addr
  fd_top_of : FuncData
  F_top_of : FnP K "top_of" s_top_of a_top_of fd_top_of
  g_top_of : mg "top_of" = some (.ref a_top_of)
  b_top_of : Binds K fd_top_of ["span"] []
  a_join : Addr
  fd_join : FuncData
  F_join : FnP K "join" s_join a_join fd_join
  g_join : mg "join" = some (.ref a_join)
  b_join : Binds K fd_join ["some", "is_sum"] []
  a_joined : Addr
  fd_joined : FuncData
  F_joined : FnP K "joined" s_joined a_joined fd_joined
  g_joined : mg "joined" = some (.ref a_joined)
  b_joined : Binds K fd_joined ["spans", "is_sum", "more"] []
  a_along : Addr
  fd_along : FuncData
  F_along : FnP K "along" s_along a_along fd_along
  g_along : mg "along" = some (.ref a_along)
  b_along : Binds K fd_along ["spans", "gap"] []
  a_beside : Addr
  fd_beside : FuncData
  F_beside : FnP K "beside" s_beside a_beside fd_beside
  g_beside : mg "beside" = some (.ref a_beside)
  b_beside : Binds K fd_beside ["spans"] []
  a_rims_of : Addr
  fd_rims_of : FuncData
  F_rims_of : FnP K "rims_of" s_rims_of a_rims_of fd_rims_of
  g_rims_of : mg "rims_of" = some (.ref a_rims_of)
  b_rims_of : Binds K fd_rims_of ["box", "axis"] []
  a_span_of : Addr
  fd_span_of : FuncData
  F_span_of : FnP K "span_of" s_span_of a_span_of fd_span_of
  g_span_of : mg "span_of" = some (.ref a_span_of)
  b_span_of : Binds K fd_span_of ["box", "axis"] []
  a_room_of : Addr
  fd_room_of : FuncData
  F_room_of : FnP K "room_of" s_room_of a_room_of fd_room_of
  g_room_of : mg "room_of" = some (.ref a_room_of)
  b_room_of : Binds K fd_room_of ["spans", "gap", "length"] []
  a_is_enough : Addr
  fd_is_enough : FuncData
  F_is_enough : FnP K "is_enough" s_is_enough a_is_enough fd_is_enough
  g_is_enough : mg "is_enough" = some (.ref a_is_enough)
  b_is_enough : Binds K fd_is_enough ["spans", "room"] []
  a_grown : Addr
  fd_grown : FuncData
  F_grown : FnP K "grown" s_grown a_grown fd_grown
  g_grown : mg "grown" = some (.ref a_grown)
  b_grown : Binds K fd_grown ["span", "by"] []
  a_shrunk : Addr
  fd_shrunk : FuncData
  F_shrunk : FnP K "shrunk" s_shrunk a_shrunk fd_shrunk
  g_shrunk : mg "shrunk" = some (.ref a_shrunk)
  b_shrunk : Binds K fd_shrunk ["span", "by"] []
  a_stops : Addr
  fd_stops : FuncData
  F_stops : FnP K "stops" s_stops a_stops fd_stops
  g_stops : mg "stops" = some (.ref a_stops)
  b_stops : Binds K fd_stops ["spans", "is_growing"] []
  a_rate_at : Addr
  fd_rate_at : FuncData
  F_rate_at : FnP K "rate_at" s_rate_at a_rate_at fd_rate_at
  g_rate_at : mg "rate_at" = some (.ref a_rate_at)
  b_rate_at : Binds K fd_rate_at ["spans", "is_growing", "here"] []
  a_level : Addr
  fd_level : FuncData
  F_level : FnP K "level" s_level a_level fd_level
  g_level : mg "level" = some (.ref a_level)
  b_level : Binds K fd_level ["spans", "gap", "length"] []
  a_shares : Addr
  fd_shares : FuncData
  F_shares : FnP K "shares" s_shares a_shares fd_shares
  g_shares : mg "shares" = some (.ref a_shares)
  b_shares : Binds K fd_shares ["spans", "gap", "length"] []
  a_lengths : Addr
  fd_lengths : FuncData
  F_lengths : FnP K "lengths" s_lengths a_lengths fd_lengths
  g_lengths : mg "lengths" = some (.ref a_lengths)
  b_lengths : Binds K fd_lengths ["spans", "gap", "length"] []
  a_taken : Addr
  fd_taken : FuncData
  F_taken : FnP K "taken" s_taken a_taken fd_taken
  g_taken : mg "taken" = some (.ref a_taken)
  b_taken : Binds K fd_taken ["box", "axis", "room"] []
  a_inner_lines : Addr
  fd_inner_lines : FuncData
  F_inner_lines : FnP K "inner_lines" s_inner_lines a_inner_lines fd_inner_lines
  g_inner_lines : mg "inner_lines" = some (.ref a_inner_lines)
  b_inner_lines : Binds K fd_inner_lines ["box", "axis", "begin", "length"] []
  a_placed : Addr
  fd_placed : FuncData
  F_placed : FnP K "placed" s_placed a_placed fd_placed
  g_placed : mg "placed" = some (.ref a_placed)
  b_placed : Binds K fd_placed ["box", "left", "upper", "wide", "high"] []
  a_places : Addr
  fd_places : FuncData
  F_places : FnP K "places" s_places a_places fd_places
  g_places : mg "places" = some (.ref a_places)
  b_places : Binds K fd_places ["box", "wide", "high"] []
  a_touched : Addr
  fd_touched : FuncData
  F_touched : FnP K "touched" s_touched a_touched fd_touched
  g_touched : mg "touched" = some (.ref a_touched)
  b_touched : Binds K fd_touched ["box", "wide", "high", "x", "y"] []
  a_is_within : Addr
  fd_is_within : FuncData
  F_is_within : FnP K "is_within" s_is_within a_is_within fd_is_within
  g_is_within : mg "is_within" = some (.ref a_is_within)
  b_is_within : Binds K fd_is_within ["box", "axis", "begin", "length"] []
  a_fits : Addr
  fd_fits : FuncData
  F_fits : FnP K "fits" s_fits a_fits fd_fits
  g_fits : mg "fits" = some (.ref a_fits)
  b_fits : Binds K fd_fits ["box", "wide", "high"] []
  a_needs : Addr
  fd_needs : FuncData
  F_needs : FnP K "needs" s_needs a_needs fd_needs
  g_needs : mg "needs" = some (.ref a_needs)
  b_needs : Binds K fd_needs ["box"] []
  a_with_leaf : Addr
  fd_with_leaf : FuncData
  F_with_leaf : FnP K "with_leaf" s_with_leaf a_with_leaf fd_with_leaf
  g_with_leaf : mg "with_leaf" = some (.ref a_with_leaf)
  b_with_leaf : Binds K fd_with_leaf ["box", "name", "wide", "high"] []
  a_changed : Addr
  fd_changed : FuncData
  F_changed : FnP K "changed" s_changed a_changed fd_changed
  g_changed : mg "changed" = some (.ref a_changed)
  b_changed : Binds K fd_changed ["box", "other", "wide", "high"] []
  a_may_change : Addr
  fd_may_change : FuncData
  F_may_change : FnP K "may_change" s_may_change a_may_change fd_may_change
  g_may_change : mg "may_change" = some (.ref a_may_change)
  b_may_change : Binds K fd_may_change ["box", "name"] []
  a_turned : Addr
  fd_turned : FuncData
  F_turned : FnP K "turned" s_turned a_turned fd_turned
  g_turned : mg "turned" = some (.ref a_turned)
  b_turned : Binds K fd_turned ["box"] []
  a_Lcell_at : Addr
  fd_Lcell_at : FuncData
  F_Lcell_at : FnP K "_law_cell_at" s_Lcell_at a_Lcell_at fd_Lcell_at
  g_Lcell_at : mg "_law_cell_at" = some (.ref a_Lcell_at)
  b_Lcell_at : Binds K fd_Lcell_at ["script", "k"] []
  a_Lmixed : Addr
  fd_Lmixed : FuncData
  F_Lmixed : FnP K "_law_mixed" s_Lmixed a_Lmixed fd_Lmixed
  g_Lmixed : mg "_law_mixed" = some (.ref a_Lmixed)
  b_Lmixed : Binds K fd_Lmixed ["script", "k"] []
  a_Ldrawn : Addr
  fd_Ldrawn : FuncData
  F_Ldrawn : FnP K "_law_drawn" s_Ldrawn a_Ldrawn fd_Ldrawn
  g_Ldrawn : mg "_law_drawn" = some (.ref a_Ldrawn)
  b_Ldrawn : Binds K fd_Ldrawn ["number", "k"] []
  a_Lspan : Addr
  fd_Lspan : FuncData
  F_Lspan : FnP K "_law_span" s_Lspan a_Lspan fd_Lspan
  g_Lspan : mg "_law_span" = some (.ref a_Lspan)
  b_Lspan : Binds K fd_Lspan ["number"] []
  a_Lbox : Addr
  fd_Lbox : FuncData
  F_Lbox : FnP K "_law_box" s_Lbox a_Lbox fd_Lbox
  g_Lbox : mg "_law_box" = some (.ref a_Lbox)
  b_Lbox : Binds K fd_Lbox ["number", "name", "deep"] []
  a_Lsizes : Addr
  fd_Lsizes : FuncData
  F_Lsizes : FnP K "_law_sizes" s_Lsizes a_Lsizes fd_Lsizes
  g_Lsizes : mg "_law_sizes" = some (.ref a_Lsizes)
  b_Lsizes : Binds K fd_Lsizes ["box", "number"] []
  a_Lin : Addr
  fd_Lin : FuncData
  F_Lin : FnP K "_law_in" s_Lin a_Lin fd_Lin
  g_Lin : mg "_law_in" = some (.ref a_Lin)
  b_Lin : Binds K fd_Lin ["box"] []
  a_Lleaves : Addr
  fd_Lleaves : FuncData
  F_Lleaves : FnP K "_law_leaves" s_Lleaves a_Lleaves fd_Lleaves
  g_Lleaves : mg "_law_leaves" = some (.ref a_Lleaves)
  b_Lleaves : Binds K fd_Lleaves ["box"] []
  a_Lled : Addr
  fd_Lled : FuncData
  F_Lled : FnP K "_law_led" s_Lled a_Lled fd_Lled
  g_Lled : mg "_law_led" = some (.ref a_Lled)
  b_Lled : Binds K fd_Lled ["box", "names"] []
  a_law : Addr
  fd_law : FuncData
  F_law : FnP K "law" s_law a_law fd_law
  g_law : mg "law" = some (.ref a_law)
  b_law : Binds K fd_law ["script"] []
  m_isinstance : mg "isinstance" = none
  m_bool : mg "bool" = none
  m_int : mg "int" = none
  m_all : mg "all" = none
  m_len : mg "len" = none
  m_str : mg "str" = none
  m_tuple : mg "tuple" = none
  m_set : mg "set" = none
  m_abs : mg "abs" = none
  m_sum : mg "sum" = none
  m_max : mg "max" = none
  m_any : mg "any" = none
  m_min : mg "min" = none
  m_zip : mg "zip" = none
  m_enumerate : mg "enumerate" = none
  m_sorted : mg "sorted" = none
  m_range : mg "range" = none
  m_list : mg "list" = none
  k_LETTERS : Tok
  c_LETTERS : mg "LETTERS" = some (.str "abcdefghijklmnopqrstuvwxyz" k_LETTERS)
  k_LONGEST_NAME : Tok
  c_LONGEST_NAME : mg "LONGEST_NAME" = some (.int 4 k_LONGEST_NAME)
  k_FAR : Tok
  c_FAR : mg "FAR" = some (.int 999 k_FAR)
  k_MOST_SHARE : Tok
  c_MOST_SHARE : mg "MOST_SHARE" = some (.int 9 k_MOST_SHARE)
  k_MOST_BOXES : Tok
  c_MOST_BOXES : mg "MOST_BOXES" = some (.int 4 k_MOST_BOXES)
  k_MOST_PILE : Tok
  c_MOST_PILE : mg "MOST_PILE" = some (.int 3 k_MOST_PILE)
  k_DEEPEST : Tok
  c_DEEPEST : mg "DEEPEST" = some (.int 4 k_DEEPEST)
  k_MAIN : Addr
  c_MAIN : mg "MAIN" = some (.ref k_MAIN)
  d_MAIN : GTab K w k_MAIN G_MAIN
  k_AXES : Addr
  c_AXES : mg "AXES" = some (.ref k_AXES)
  s_AXES : ∀ H : Hp, SqT K H k_AXES ((["wide", "high"] : List Str).map V.str)
  k_OTHER : Addr
  c_OTHER : mg "OTHER" = some (.ref k_OTHER)
  d_OTHER : GTab K w k_OTHER G_OTHER
def D_is_whole : FS := (sRet (andV (c1 (isiD .int) (vr 0)) (andV (notV (c1 (isiD .bool) (vr 0))) (chD leD leD (vr 1) (vr 0) (vr 2)))))
def M_is_whole : List D → Option D := runF 3 D_is_whole
def D_is_name : FS := (sRet (andV (c1 (isiD .str) (vr 0)) (andV (chD leD leD (cst (.int 1)) (c1 lenD (vr 0)) (cst (.int 4))) (c1 allD (lstE (lcD (itA (vr 0)) (bNm 1) yesT (c2 inD (vr 1) (cst (.str "abcdefghijklmnopqrstuvwxyz"))) [1]))))))
def M_is_name : List D → Option D := runF 2 D_is_name
def D_is_span : FS := (sq (sIf (orT (notT (tst (c1 (isiD .tuple) (vr 0)))) (orT (tst (c2 neD (c1 lenD (vr 0)) (cst (.int 5)))) (notT (tst (c1 allD (lstE (lcD (itA (slD (vr 0) noP (yesP (cst (.int 2))))) (bNm 1) yesT (cA M_is_whole (consA (vr 1) (consA (cst (.int 0)) (consA (cst (.int 999)) nilA)))) [1]))))))) (sRet (cst (.bool false))) sNx)
    (sq (sIf (orT (tst (c2 gtD (c2 ixD (vr 0) (cst (.int 0))) (c2 ixD (vr 0) (cst (.int 1))))) (notT (tst (c1 allD (lstE (lcD (itA (slD (vr 0) (yesP (cst (.int 3))) noP)) (bNm 1) yesT (cA M_is_whole (consA (vr 1) (consA (cst (.int 0)) (consA (cst (.int 9)) nilA)))) [1])))))) (sRet (cst (.bool false))) sNx)
    (sRet (orV (c1 isND (c2 ixD (vr 0) (cst (.int 2)))) (cA M_is_whole (consA (c2 ixD (vr 0) (cst (.int 2))) (consA (c2 ixD (vr 0) (cst (.int 1))) (consA (cst (.int 999)) nilA))))))))
def M_is_span : List D → Option D := runF 2 D_is_span
def C_are_boxes_1 (R1 R2 : List D → Option D) : FE := (cA R2 (consA (vr 3) (consA (vr 2) nilA)))
def D_are_boxes (R1 R2 : List D → Option D) : FS := (sq (sIf (orT (notT (tst (c1 (isiD .tuple) (vr 0)))) (notT (tst (chD leD leD (cst (.int 1)) (c1 lenD (vr 0)) (vr 1))))) (sRet (cst (.bool false))) sNx)
    (sRet (c1 allD (lstE (lcD (itA (vr 0)) (bNm 3) yesT (C_are_boxes_1 R1 R2) [3])))))
def C_is_box_to_1 (R1 R2 : List D → Option D) : FE := (cA M_is_whole (consA (vr 3) (consA (cst (.int 0)) (consA (cst (.int 999)) nilA))))
def D_is_box_to (R1 R2 : List D → Option D) : FS := (sq (sIf (orT (tst (c2 eqD (vr 1) (cst (.int 0)))) (orT (notT (tst (c1 (isiD .tuple) (vr 0)))) (orT (tst (c2 ltD (c1 lenD (vr 0)) (cst (.int 3)))) (notT (tst (c1 (isiD .str) (c2 ixD (vr 0) (cst (.int 0))))))))) (sRet (cst (.bool false))) sNx)
    (sq (sIf (notT (tst (cA M_is_name (consA (c2 ixD (vr 0) (cst (.int 1))) nilA)))) (sRet (cst (.bool false))) sNx)
    (sq (sAsg 2 (c2 ixD (vr 0) (cst (.int 0))))
    (sq (sIf (tst (c2 eqD (vr 2) (cst (.str "leaf")))) (sRet (andV (c2 eqD (c1 lenD (vr 0)) (cst (.int 4))) (andV (cA M_is_span (consA (c2 ixD (vr 0) (cst (.int 2))) nilA)) (cA M_is_span (consA (c2 ixD (vr 0) (cst (.int 3))) nilA))))) sNx)
    (sq (sIf (tst (c2 inD (vr 2) (tup (consA (cst (.str "row")) (consA (cst (.str "col")) nilA))))) (sRet (andV (c2 eqD (c1 lenD (vr 0)) (cst (.int 4))) (andV (cA M_is_whole (consA (c2 ixD (vr 0) (cst (.int 2))) (consA (cst (.int 0)) (consA (cst (.int 999)) nilA)))) (cA R1 (consA (c2 ixD (vr 0) (cst (.int 3))) (consA (cst (.int 4)) (consA (c2 subD (vr 1) (cst (.int 1))) nilA))))))) sNx)
    (sq (sIf (tst (c2 eqD (vr 2) (cst (.str "pile")))) (sRet (andV (c2 eqD (c1 lenD (vr 0)) (cst (.int 3))) (cA R1 (consA (c2 ixD (vr 0) (cst (.int 2))) (consA (cst (.int 3)) (consA (c2 subD (vr 1) (cst (.int 1))) nilA)))))) sNx)
    (sq (sIf (orT (tst (c2 neD (vr 2) (cst (.str "rim")))) (tst (c2 neD (c1 lenD (vr 0)) (cst (.int 7))))) (sRet (cst (.bool false))) sNx)
    (sRet (andV (c1 allD (lstE (lcD (itA (slD (vr 0) (yesP (cst (.int 2))) (yesP (cst (.int 6))))) (bNm 3) yesT (C_is_box_to_1 R1 R2) [3]))) (cA R2 (consA (c2 ixD (vr 0) (cst (.int 6))) (consA (c2 subD (vr 1) (cst (.int 1))) nilA))))))))))))
def MM_are_boxes : Nat → (List D → Option D) × (List D → Option D)
  | 0 => (fun _ => none, fun _ => none)
  | n + 1 => (runF 4 (D_are_boxes (MM_are_boxes n).1 (MM_are_boxes n).2), runF 4 (D_is_box_to (MM_are_boxes n).1 (MM_are_boxes n).2))
def M_are_boxes (n : Nat) : List D → Option D := (MM_are_boxes n).1
def M_is_box_to (n : Nat) : List D → Option D := (MM_are_boxes n).2
def D_boxes_in : FS := (sq (sIf (tst (c2 eqD (c2 ixD (vr 0) (cst (.int 0))) (cst (.str "leaf")))) (sRet (tup nilA)) sNx)
    (sq (sIf (tst (c2 eqD (c2 ixD (vr 0) (cst (.int 0))) (cst (.str "rim")))) (sRet (tup (consA (c2 ixD (vr 0) (cst (.int 6))) nilA))) sNx)
    (sRet (c2 ixD (vr 0) (c1 negD (cst (.int 1)))))))
def M_boxes_in : List D → Option D := runF 1 D_boxes_in
def B_names_in_1 (R : List D → Option D) : FS := (sAsg 1 (c2 addD (vr 1) (cA R (consA (vr 2) nilA))))
def D_names_in (R : List D → Option D) : FS := (sq (sAsg 1 (tup (consA (c2 ixD (vr 0) (cst (.int 1))) nilA)))
    (sq (sFor (itA (cA M_boxes_in (consA (vr 0) nilA))) (bNm 2) (B_names_in_1 R))
    (sRet (vr 1))))
def M_names_in : Nat → List D → Option D
  | 0 => fun _ => none
  | n + 1 => runF 3 (D_names_in (M_names_in n))
def D_is_box : FS := (sq (sIf (notT (tst (cA (M_is_box_to 12) (consA (vr 0) (consA (cst (.int 4)) nilA))))) (sRet (cst (.bool false))) sNx)
    (sRet (c2 eqD (c1 lensetD (cA (M_names_in 12) (consA (vr 0) nilA))) (c1 lenD (cA (M_names_in 12) (consA (vr 0) nilA))))))
def M_is_box : List D → Option D := runF 1 D_is_box
def D_with_boxes : FS := (sq (sIf (tst (c2 eqD (c2 ixD (vr 0) (cst (.int 0))) (cst (.str "leaf")))) (sRet (vr 0)) sNx)
    (sq (sIf (tst (c2 eqD (c2 ixD (vr 0) (cst (.int 0))) (cst (.str "rim")))) (sRet (c2 addD (slD (vr 0) noP (yesP (cst (.int 6)))) (tup (consA (c2 ixD (vr 1) (cst (.int 0))) nilA)))) sNx)
    (sRet (c2 addD (slD (vr 0) noP (yesP (c1 negD (cst (.int 1))))) (tup (consA (c1 tupleD (vr 1)) nilA))))))
def M_with_boxes : List D → Option D := runF 2 D_with_boxes
def B_plain_1 : FS := (sPar 2 3 (consA (c2 modD (vr 3) (vr 2)) (consA (vr 2) nilA)))
def D_plain : FS := (sq (sAsg 2 (c1 absD (vr 0)))
    (sq (sAsg 3 (vr 1))
    (sq (sWhile (muI 2) (tst (c2 gtD (vr 2) (cst (.int 0)))) B_plain_1)
    (sRet (tup (consA (c2 fdivD (vr 0) (vr 3)) (consA (c2 fdivD (vr 1) (vr 3)) nilA)))))))
def M_plain : List D → Option D := runF 4 D_plain
def D_plus : FS := (sRet (cA M_plain (consA (c2 addD (c2 mulD (c2 ixD (vr 0) (cst (.int 0))) (c2 ixD (vr 1) (cst (.int 1)))) (c2 mulD (c2 ixD (vr 1) (cst (.int 0))) (c2 ixD (vr 0) (cst (.int 1))))) (consA (c2 mulD (c2 ixD (vr 0) (cst (.int 1))) (c2 ixD (vr 1) (cst (.int 1)))) nilA))))
def M_plus : List D → Option D := runF 2 D_plus
def D_is_less : FS := (sRet (c2 ltD (c2 mulD (c2 ixD (vr 0) (cst (.int 0))) (c2 ixD (vr 1) (cst (.int 1)))) (c2 mulD (c2 ixD (vr 1) (cst (.int 0))) (c2 ixD (vr 0) (cst (.int 1))))))
def M_is_less : List D → Option D := runF 2 D_is_less
def D_low_of : FS := (sq (sIf (tst (c2 gtD (c2 ixD (vr 0) (cst (.int 4))) (cst (.int 0)))) (sRet (c2 ixD (vr 0) (cst (.int 0)))) sNx)
    (sRet (c2 ixD (vr 0) (cst (.int 1)))))
def M_low_of : List D → Option D := runF 1 D_low_of
def D_top_of : FS := (sq (sIf (tst (c2 gtD (c2 ixD (vr 0) (cst (.int 3))) (cst (.int 0)))) (sRet (c2 ixD (vr 0) (cst (.int 2)))) sNx)
    (sRet (c2 ixD (vr 0) (cst (.int 1)))))
def M_top_of : List D → Option D := runF 1 D_top_of
def D_join : FS := (sq (sIf (tst (vr 1)) (sRet (c1 sumD (vr 0))) sNx)
    (sRet (c1 maxD (vr 0))))
def M_join : List D → Option D := runF 2 D_join
def D_joined : FS := (sq (sAsg 3 (lstE (lcD (itA (vr 0)) (bNm 7) yesT (cA M_top_of (consA (vr 7) nilA)) [7])))
    (sq (sAsg 4 (cst .none))
    (sq (sIf (notT (tst (c1 anyD (lstE (lcD (itA (vr 3)) (bNm 8) yesT (c1 isND (vr 8)) [8]))))) (sAsg 4 (c2 addD (cA M_join (consA (vr 3) (consA (vr 1) nilA))) (vr 2))) sNx)
    (sq (sAsg 5 (c2 addD (cA M_join (consA (lstE (lcD (itA (vr 0)) (bNm 7) yesT (cA M_low_of (consA (vr 7) nilA)) [7])) (consA (vr 1) nilA))) (vr 2)))
    (sq (sAsg 6 (c2 addD (cA M_join (consA (lstE (lcD (itA (vr 0)) (bNm 7) yesT (c2 ixD (vr 7) (cst (.int 1))) [7])) (consA (vr 1) nilA))) (vr 2)))
    (sRet (tup (consA (vr 5) (consA (vr 6) (consA (vr 4) (consA (c1 maxD (lstE (lcD (itA (vr 0)) (bNm 7) yesT (c2 ixD (vr 7) (cst (.int 3))) [7]))) (consA (c1 maxD (lstE (lcD (itA (vr 0)) (bNm 7) yesT (c2 ixD (vr 7) (cst (.int 4))) [7]))) nilA))))))))))))
def M_joined : List D → Option D := runF 9 D_joined
def D_along : FS := (sRet (cA M_joined (consA (vr 0) (consA (cst (.bool true)) (consA (c2 mulD (vr 1) (c2 subD (c1 lenD (vr 0)) (cst (.int 1)))) nilA)))))
def M_along : List D → Option D := runF 2 D_along
def D_beside : FS := (sRet (cA M_joined (consA (vr 0) (consA (cst (.bool false)) (consA (cst (.int 0)) nilA)))))
def M_beside : List D → Option D := runF 1 D_beside
def D_rims_of : FS := (sq (sIf (tst (c2 eqD (vr 1) (cst (.str "wide")))) (sRet (tup (consA (c2 ixD (vr 0) (cst (.int 2))) (consA (c2 ixD (vr 0) (cst (.int 4))) nilA)))) sNx)
    (sRet (tup (consA (c2 ixD (vr 0) (cst (.int 3))) (consA (c2 ixD (vr 0) (cst (.int 5))) nilA)))))
def M_rims_of : List D → Option D := runF 2 D_rims_of
def M_span_of : Nat → List D → Option D
  | 0 => fun _ => none
  | n + 1 => runF 10 ((sq (sIf (tst (c2 eqD (c2 ixD (vr 0) (cst (.int 0))) (cst (.str "leaf")))) (sRet (c2 ixD (vr 0) (c2 addD (cst (.int 2)) (c1 intD (c2 eqD (vr 1) (cst (.str "high"))))))) sNx)
    (sq (sAsg 2 (lstE (lcD (itA (cA M_boxes_in (consA (vr 0) nilA))) (bNm 4) yesT (cA (M_span_of n) (consA (vr 4) (consA (vr 1) nilA))) [4])))
    (sq (sIf (tst (c2 eqD (c2 ixD (vr 0) (cst (.int 0))) (cst (.str "rim")))) (sq (sAsg 3 (c1 sumD (cA M_rims_of (consA (vr 0) (consA (vr 1) nilA)))))
    (sq (sAsgT (bTp [(bNm 5), (bNm 6), (bNm 7), (bNm 8), (bNm 9)]) (c2 ixD (vr 2) (cst (.int 0))))
    (sq (sIf (tst (c1 notND (vr 7))) (sAsg 7 (c2 addD (vr 7) (vr 3))) sNx)
    (sRet (tup (consA (c2 addD (vr 5) (vr 3)) (consA (c2 addD (vr 6) (vr 3)) (consA (vr 7) (consA (vr 8) (consA (vr 9) nilA)))))))))) sNx)
    (sq (sIf (andT (tst (c1 (dinG G_MAIN) (c2 ixD (vr 0) (cst (.int 0))))) (tst (c2 eqD (c1 (dixG G_MAIN) (c2 ixD (vr 0) (cst (.int 0)))) (vr 1)))) (sRet (cA M_along (consA (vr 2) (consA (c2 ixD (vr 0) (cst (.int 2))) nilA)))) sNx)
    (sRet (cA M_beside (consA (vr 2) nilA))))))))
def D_room_of : FS := (sRet (c2 max2D (cst (.int 0)) (c2 subD (vr 2) (c2 mulD (vr 1) (c2 subD (c1 lenD (vr 0)) (cst (.int 1)))))))
def M_room_of : List D → Option D := runF 3 D_room_of
def C_is_enough_1 : FE := (c2 ixD (vr 2) (cst (.int 1)))
def D_is_enough : FS := (sRet (c2 geD (vr 1) (c1 sumD (lstE (lcD (itA (vr 0)) (bNm 2) yesT C_is_enough_1 [2])))))
def M_is_enough : List D → Option D := runF 3 D_is_enough
def D_grown : FS := (sq (sAsg 2 (cA M_plus (consA (tup (consA (c2 ixD (vr 0) (cst (.int 1))) (consA (cst (.int 1)) nilA))) (consA (cA M_plain (consA (c2 mulD (c2 ixD (vr 1) (cst (.int 0))) (c2 ixD (vr 0) (cst (.int 3)))) (consA (c2 ixD (vr 1) (cst (.int 1))) nilA))) nilA))))
    (sq (sIf (andT (tst (c1 notND (cA M_top_of (consA (vr 0) nilA)))) (tst (cA M_is_less (consA (tup (consA (cA M_top_of (consA (vr 0) nilA)) (consA (cst (.int 1)) nilA))) (consA (vr 2) nilA))))) (sRet (tup (consA (cA M_top_of (consA (vr 0) nilA)) (consA (cst (.int 1)) nilA)))) sNx)
    (sRet (vr 2))))
def M_grown : List D → Option D := runF 3 D_grown
def D_shrunk : FS := (sq (sAsg 2 (cA M_plus (consA (tup (consA (c2 ixD (vr 0) (cst (.int 1))) (consA (cst (.int 1)) nilA))) (consA (cA M_plain (consA (c2 subD (cst (.int 0)) (c2 mulD (c2 ixD (vr 1) (cst (.int 0))) (c2 ixD (vr 0) (cst (.int 4))))) (consA (c2 ixD (vr 1) (cst (.int 1))) nilA))) nilA))))
    (sq (sIf (tst (cA M_is_less (consA (vr 2) (consA (tup (consA (cA M_low_of (consA (vr 0) nilA)) (consA (cst (.int 1)) nilA))) nilA)))) (sRet (tup (consA (cA M_low_of (consA (vr 0) nilA)) (consA (cst (.int 1)) nilA)))) sNx)
    (sRet (vr 2))))
def M_shrunk : List D → Option D := runF 3 D_shrunk
def B_stops_1 : FS := (sq (sIf (andT (tst (vr 1)) (andT (tst (c2 gtD (c2 ixD (vr 3) (cst (.int 3))) (cst (.int 0)))) (tst (c1 notND (c2 ixD (vr 3) (cst (.int 2))))))) (sApp 2 (cA M_plain (consA (c2 subD (c2 ixD (vr 3) (cst (.int 2))) (c2 ixD (vr 3) (cst (.int 1)))) (consA (c2 ixD (vr 3) (cst (.int 3))) nilA)))) sNx)
    (sIf (andT (notT (tst (vr 1))) (tst (c2 gtD (c2 ixD (vr 3) (cst (.int 4))) (cst (.int 0))))) (sApp 2 (cA M_plain (consA (c2 subD (c2 ixD (vr 3) (cst (.int 1))) (c2 ixD (vr 3) (cst (.int 0)))) (consA (c2 ixD (vr 3) (cst (.int 4))) nilA)))) sNx))
def T_stops_1 : FB := (tst (cA M_is_less (consA (vr 7) (consA (vr 5) nilA))))
def C_stops_1 : FE := (vr 7)
def B_stops_2 : FS := (sq (sAsg 6 (c1 lenD (lstE (lcD (itA (vo 4)) (bNm 7) T_stops_1 C_stops_1 [7]))))
    (sIns 4 (vr 6) (vr 5)))
def D_stops : FS := (sq (sNew 2 nilA)
    (sq (sFor (itA (vr 0)) (bNm 3) B_stops_1)
    (sq (sNew 4 nilA)
    (sq (sFrz 2 (sFor (itA (vr 2)) (bNm 5) B_stops_2))
    (sFrz 4 (sRet (vr 4)))))))
def M_stops : List D → Option D := runF 8 D_stops
def B_rate_at_1 : FS := (sIf (tst (vr 1)) (sIf (andT (tst (c2 gtD (c2 ixD (vr 4) (cst (.int 3))) (cst (.int 0)))) (orT (tst (c1 isND (c2 ixD (vr 4) (cst (.int 2))))) (tst (cA M_is_less (consA (vr 2) (consA (cA M_plain (consA (c2 subD (c2 ixD (vr 4) (cst (.int 2))) (c2 ixD (vr 4) (cst (.int 1)))) (consA (c2 ixD (vr 4) (cst (.int 3))) nilA))) nilA)))))) (sAsg 3 (c2 addD (vr 3) (c2 ixD (vr 4) (cst (.int 3))))) sNx) (sIf (andT (tst (c2 gtD (c2 ixD (vr 4) (cst (.int 4))) (cst (.int 0)))) (tst (cA M_is_less (consA (vr 2) (consA (cA M_plain (consA (c2 subD (c2 ixD (vr 4) (cst (.int 1))) (c2 ixD (vr 4) (cst (.int 0)))) (consA (c2 ixD (vr 4) (cst (.int 4))) nilA))) nilA))))) (sAsg 3 (c2 addD (vr 3) (c2 ixD (vr 4) (cst (.int 4))))) sNx))
def D_rate_at : FS := (sq (sAsg 3 (cst (.int 0)))
    (sq (sFor (itA (vr 0)) (bNm 4) B_rate_at_1)
    (sRet (vr 3))))
def M_rate_at : List D → Option D := runF 5 D_rate_at
def C_level_1 : FE := (c2 ixD (vr 13) (cst (.int 1)))
def B_level_1 : FS := (sq (sAsg 9 (cA M_rate_at (consA (vr 0) (consA (vr 4) (consA (vr 6) nilA)))))
    (sq (sAsg 10 (cA M_plus (consA (tup (consA (vr 5) (consA (cst (.int 1)) nilA))) (consA (tup (consA (c2 subD (cst (.int 0)) (c2 ixD (vr 7) (cst (.int 0)))) (consA (c2 ixD (vr 7) (cst (.int 1))) nilA))) nilA))))
    (sq (sIf (tst (c2 eqD (c2 ixD (vr 10) (cst (.int 0))) (cst (.int 0)))) (sRet (vr 6)) sNx)
    (sq (sIf (tst (c2 gtD (vr 9) (cst (.int 0)))) (sq (sAsg 11 (cA M_plus (consA (vr 6) (consA (cA M_plain (consA (c2 ixD (vr 10) (cst (.int 0))) (consA (c2 mulD (c2 ixD (vr 10) (cst (.int 1))) (vr 9)) nilA))) nilA))))
    (sIf (orT (tst (c1 isND (vr 8))) (notT (tst (cA M_is_less (consA (vr 8) (consA (vr 11) nilA)))))) (sRet (vr 11)) sNx)) sNx)
    (sIf (tst (c1 notND (vr 8))) (sq (sAsg 12 (cA M_plus (consA (vr 8) (consA (tup (consA (c2 subD (cst (.int 0)) (c2 ixD (vr 6) (cst (.int 0)))) (consA (c2 ixD (vr 6) (cst (.int 1))) nilA))) nilA))))
    (sq (sAsg 7 (cA M_plus (consA (vr 7) (consA (cA M_plain (consA (c2 mulD (c2 ixD (vr 12) (cst (.int 0))) (vr 9)) (consA (c2 ixD (vr 12) (cst (.int 1))) nilA))) nilA))))
    (sAsg 6 (vr 8)))) sNx)))))
def D_level : FS := (sq (sAsg 3 (cA M_room_of (consA (vr 0) (consA (vr 1) (consA (vr 2) nilA)))))
    (sq (sAsg 4 (cA M_is_enough (consA (vr 0) (consA (vr 3) nilA))))
    (sq (sAsg 5 (c1 absD (c2 subD (vr 3) (c1 sumD (lstE (lcD (itA (vr 0)) (bNm 13) yesT C_level_1 [13]))))))
    (sq (sAsg 6 (tup (consA (cst (.int 0)) (consA (cst (.int 1)) nilA))))
    (sq (sAsg 7 (tup (consA (cst (.int 0)) (consA (cst (.int 1)) nilA))))
    (sq (sFor (itA (c2 addD (cA M_stops (consA (vr 0) (consA (vr 4) nilA))) (lstE (consA (cst .none) nilA)))) (bNm 8) B_level_1)
    (sRet (cst .none))))))))
def M_level : List D → Option D := runF 14 D_level
def C_shares_1 : FE := (tup (consA (c2 ixD (lstE (consA (cA M_low_of (consA (vr 5) nilA)) (consA (cA M_top_of (consA (vr 5) nilA)) nilA))) (c1 intD (vr 4))) (consA (cst (.int 1)) nilA)))
def C_shares_2 : FE := (cA M_grown (consA (vr 5) (consA (vr 3) nilA)))
def C_shares_3 : FE := (cA M_shrunk (consA (vr 5) (consA (vr 3) nilA)))
def D_shares : FS := (sq (sAsg 3 (cA M_level (consA (vr 0) (consA (vr 1) (consA (vr 2) nilA)))))
    (sq (sAsg 4 (cA M_is_enough (consA (vr 0) (consA (cA M_room_of (consA (vr 0) (consA (vr 1) (consA (vr 2) nilA)))) nilA))))
    (sq (sIf (tst (c1 isND (vr 3))) (sRet (c1 tupleD (lstE (lcD (itA (vr 0)) (bNm 5) yesT C_shares_1 [5])))) sNx)
    (sq (sIf (tst (vr 4)) (sRet (c1 tupleD (lstE (lcD (itA (vr 0)) (bNm 5) yesT C_shares_2 [5])))) sNx)
    (sRet (c1 tupleD (lstE (lcD (itA (vr 0)) (bNm 5) yesT C_shares_3 [5]))))))))
def M_shares : List D → Option D := runF 6 D_shares
def B_lengths_1 : FS := (sq (sAsg 6 (cA M_plus (consA (vr 4) (consA (vr 5) nilA))))
    (sq (sApp 3 (c2 subD (c2 fdivD (c2 ixD (vr 6) (cst (.int 0))) (c2 ixD (vr 6) (cst (.int 1)))) (c2 fdivD (c2 ixD (vr 4) (cst (.int 0))) (c2 ixD (vr 4) (cst (.int 1))))))
    (sAsg 4 (vr 6))))
def D_lengths : FS := (sq (sNew 3 nilA)
    (sq (sAsg 4 (tup (consA (cst (.int 0)) (consA (cst (.int 1)) nilA))))
    (sq (sFor (itA (cA M_shares (consA (vr 0) (consA (vr 1) (consA (vr 2) nilA))))) (bNm 5) B_lengths_1)
    (sRet (c1 tupleD (vo 3))))))
def M_lengths : List D → Option D := runF 7 D_lengths
def D_taken : FS := (sq (sAsg 3 (cA (M_span_of 12) (consA (vr 0) (consA (vr 1) nilA))))
    (sq (sIf (tst (c1 notND (cA M_top_of (consA (vr 3) nilA)))) (sAsg 2 (c2 min2D (vr 2) (cA M_top_of (consA (vr 3) nilA)))) sNx)
    (sRet (c2 max2D (vr 2) (cA M_low_of (consA (vr 3) nilA))))))
def M_taken : List D → Option D := runF 4 D_taken
def C_inner_lines_1 : FE := (tup (consA (vr 2) (consA (cA M_taken (consA (vr 8) (consA (vr 1) (consA (vr 3) nilA)))) nilA)))
def C_inner_lines_2 : FE := (cA (M_span_of 12) (consA (vr 8) (consA (vr 1) nilA)))
def B_inner_lines_1 : FS := (sq (sApp 5 (tup (consA (vr 2) (consA (vr 6) nilA))))
    (sAsg 2 (c2 addD (c2 addD (vr 2) (vr 6)) (c2 ixD (vr 0) (cst (.int 2))))))
def D_inner_lines : FS := (sq (sAsg 4 (cA M_boxes_in (consA (vr 0) nilA)))
    (sq (sIf (tst (c2 eqD (c2 ixD (vr 0) (cst (.int 0))) (cst (.str "rim")))) (sq (sAsg 7 (cA M_rims_of (consA (vr 0) (consA (vr 1) nilA))))
    (sRet (lstE (consA (tup (consA (c2 addD (vr 2) (c2 ixD (vr 7) (cst (.int 0)))) (consA (cA M_taken (consA (c2 ixD (vr 4) (cst (.int 0))) (consA (vr 1) (consA (c2 max2D (cst (.int 0)) (c2 subD (vr 3) (c1 sumD (vr 7)))) nilA)))) nilA))) nilA)))) sNx)
    (sq (sIf (orT (tst (c1 (dninG G_MAIN) (c2 ixD (vr 0) (cst (.int 0))))) (tst (c2 neD (c1 (dixG G_MAIN) (c2 ixD (vr 0) (cst (.int 0)))) (vr 1)))) (sRet (lstE (lcD (itA (vr 4)) (bNm 8) yesT C_inner_lines_1 [8]))) sNx)
    (sq (sNew 5 nilA)
    (sq (sFor (itA (cA M_lengths (consA (lstE (lcD (itA (vr 4)) (bNm 8) yesT C_inner_lines_2 [8])) (consA (c2 ixD (vr 0) (cst (.int 2))) (consA (vr 3) nilA))))) (bNm 6) B_inner_lines_1)
    (sFrz 5 (sRet (vr 5))))))))
def M_inner_lines : List D → Option D := runF 9 D_inner_lines
def B_placed_1 (R : List D → Option D) : FS := (sExt 5 (cA R (consA (vr 8) (consA (c2 ixD (vr 9) (cst (.int 0))) (consA (c2 ixD (vr 10) (cst (.int 0))) (consA (c2 ixD (vr 9) (cst (.int 1))) (consA (c2 ixD (vr 10) (cst (.int 1))) nilA)))))))
def D_placed (R : List D → Option D) : FS := (sq (sNew 5 (consA (tup (consA (c2 ixD (vr 0) (cst (.int 1))) (consA (vr 1) (consA (vr 2) (consA (vr 3) (consA (vr 4) nilA)))))) nilA))
    (sq (sIf (tst (c2 eqD (c2 ixD (vr 0) (cst (.int 0))) (cst (.str "leaf")))) (sFrz 5 (sRet (vr 5))) sNx)
    (sq (sAsg 6 (cA M_inner_lines (consA (vr 0) (consA (cst (.str "wide")) (consA (vr 1) (consA (vr 3) nilA))))))
    (sq (sAsg 7 (cA M_inner_lines (consA (vr 0) (consA (cst (.str "high")) (consA (vr 2) (consA (vr 4) nilA))))))
    (sq (sFor (zp3 (cA M_boxes_in (consA (vr 0) nilA)) (vr 6) (vr 7)) (bTp [(bNm 8), (bNm 9), (bNm 10)]) (B_placed_1 R))
    (sFrz 5 (sRet (vr 5))))))))
def M_placed : Nat → List D → Option D
  | 0 => fun _ => none
  | n + 1 => runF 11 (D_placed (M_placed n))
def D_places : FS := (sRet (c1 tupleD (cA (M_placed 12) (consA (vr 0) (consA (cst (.int 0)) (consA (cst (.int 0)) (consA (vr 1) (consA (vr 2) nilA))))))))
def M_places : List D → Option D := runF 3 D_places
def B_touched_1 : FS := (sIf (andT (tst (chD leD ltD (vr 7) (vr 3) (c2 addD (vr 7) (vr 9)))) (tst (chD leD ltD (vr 8) (vr 4) (c2 addD (vr 8) (vr 10))))) (sApp 5 (vr 6)) sNx)
def D_touched : FS := (sq (sNew 5 nilA)
    (sq (sFor (itA (cA M_places (consA (vr 0) (consA (vr 1) (consA (vr 2) nilA))))) (bTp [(bNm 6), (bNm 7), (bNm 8), (bNm 9), (bNm 10)]) B_touched_1)
    (sRet (c1 tupleD (vo 5)))))
def M_touched : List D → Option D := runF 11 D_touched
def B_is_within_1 (R : List D → Option D) : FS := (sq (sIf (orT (tst (c2 ltD (c2 ixD (vr 6) (cst (.int 0))) (c2 addD (vr 2) (c2 ixD (vr 4) (cst (.int 0)))))) (tst (c2 gtD (c2 addD (c2 ixD (vr 6) (cst (.int 0))) (c2 ixD (vr 6) (cst (.int 1)))) (c2 subD (c2 addD (vr 2) (vr 3)) (c2 ixD (vr 4) (cst (.int 1))))))) (sRet (cst (.bool false))) sNx)
    (sIf (notT (tst (cA R (consA (vr 5) (consA (vr 1) (consA (c2 ixD (vr 6) (cst (.int 0))) (consA (c2 ixD (vr 6) (cst (.int 1))) nilA))))))) (sRet (cst (.bool false))) sNx))
def D_is_within (R : List D → Option D) : FS := (sq (sAsg 4 (tup (consA (cst (.int 0)) (consA (cst (.int 0)) nilA))))
    (sq (sIf (tst (c2 eqD (c2 ixD (vr 0) (cst (.int 0))) (cst (.str "rim")))) (sAsg 4 (cA M_rims_of (consA (vr 0) (consA (vr 1) nilA)))) sNx)
    (sq (sIf (tst (c2 eqD (c2 ixD (vr 0) (cst (.int 0))) (cst (.str "leaf")))) (sRet (cst (.bool true))) sNx)
    (sq (sFor (zp2 (cA M_boxes_in (consA (vr 0) nilA)) (cA M_inner_lines (consA (vr 0) (consA (vr 1) (consA (vr 2) (consA (vr 3) nilA)))))) (bTp [(bNm 5), (bNm 6)]) (B_is_within_1 R))
    (sRet (cst (.bool true)))))))
def M_is_within : Nat → List D → Option D
  | 0 => fun _ => none
  | n + 1 => runF 7 (D_is_within (M_is_within n))
def D_fits : FS := (sRet (andV (cA (M_is_within 12) (consA (vr 0) (consA (cst (.str "wide")) (consA (cst (.int 0)) (consA (vr 1) nilA))))) (cA (M_is_within 12) (consA (vr 0) (consA (cst (.str "high")) (consA (cst (.int 0)) (consA (vr 2) nilA)))))))
def M_fits : List D → Option D := runF 3 D_fits
def C_needs_1 : FE := (cA M_low_of (consA (cA (M_span_of 12) (consA (vr 0) (consA (vr 1) nilA))) nilA))
def D_needs : FS := (sRet (c1 tupleD (lstE (lcD (itA (cst (.tuple ((["wide", "high"] : List Str).map PyData.str)))) (bNm 1) yesT C_needs_1 [1]))))
def M_needs : List D → Option D := runF 2 D_needs
def C_with_leaf_1 (R : List D → Option D) : FE := (cA R (consA (vr 4) (consA (vr 1) (consA (vr 2) (consA (vr 3) nilA)))))
def D_with_leaf (R : List D → Option D) : FS := (sq (sIf (andT (tst (c2 eqD (c2 ixD (vr 0) (cst (.int 0))) (cst (.str "leaf")))) (tst (c2 eqD (c2 ixD (vr 0) (cst (.int 1))) (vr 1)))) (sRet (tup (consA (cst (.str "leaf")) (consA (vr 1) (consA (vr 2) (consA (vr 3) nilA)))))) sNx)
    (sRet (cA M_with_boxes (consA (vr 0) (consA (lstE (lcD (itA (cA M_boxes_in (consA (vr 0) nilA))) (bNm 4) yesT (C_with_leaf_1 R) [4])) nilA)))))
def M_with_leaf : Nat → List D → Option D
  | 0 => fun _ => none
  | n + 1 => runF 5 (D_with_leaf (M_with_leaf n))
def B_changed_1 : FS := (sIf (tst (c2 neD (slS (vr 5) (yesP (c2 addD (cst (.int 1)) (vr 7))) noP (yesP (cst (.int 2)))) (slS (vr 6) (yesP (c2 addD (cst (.int 1)) (vr 7))) noP (yesP (cst (.int 2)))))) (sApp 4 (tup (consA (c2 ixD (vr 5) (cst (.int 0))) (consA (vr 8) nilA)))) sNx)
def B_changed_2 : FS := (sFor (enA (cst (.tuple ((["wide", "high"] : List Str).map PyData.str)))) (bTp [(bNm 7), (bNm 8)]) B_changed_1)
def D_changed : FS := (sq (sNew 4 nilA)
    (sq (sFor (zp2 (cA M_places (consA (vr 0) (consA (vr 2) (consA (vr 3) nilA)))) (cA M_places (consA (vr 1) (consA (vr 2) (consA (vr 3) nilA))))) (bTp [(bNm 5), (bNm 6)]) B_changed_2)
    (sRet (c1 tupleD (lstE (srtA (vo 4)))))))
def M_changed : List D → Option D := runF 9 D_changed
def C_may_change_1 : FE := (tup (consA (vr 6) (consA (vr 5) nilA)))
def B_may_change_1 : FS := (sIf (orT (tst (c2 inD (vr 1) (vr 4))) (tst (c2 eqD (c2 (dgetG G_MAIN) (c2 ixD (vr 0) (cst (.int 0))) (cst (.str ""))) (vr 5)))) (sExt 2 (lstE (lcD (itA (vr 4)) (bNm 6) yesT C_may_change_1 [6]))) sNx)
def B_may_change_2 : FS := (sq (sAsg 4 (cA (M_names_in 12) (consA (vr 3) nilA)))
    (sFor (itA (cst (.tuple ((["wide", "high"] : List Str).map PyData.str)))) (bNm 5) B_may_change_1))
def D_may_change : FS := (sq (sNew 2 nilA)
    (sq (sFor (itA (cA M_boxes_in (consA (vr 0) nilA))) (bNm 3) B_may_change_2)
    (sRet (c1 tupleD (lstE (srtA (vo 2)))))))
def M_may_change : List D → Option D := runF 7 D_may_change
def C_turned_1 (R : List D → Option D) : FE := (cA R (consA (vr 3) nilA))
def D_turned (R : List D → Option D) : FS := (sq (sAsg 1 (lstE (lcD (itA (cA M_boxes_in (consA (vr 0) nilA))) (bNm 3) yesT (C_turned_1 R) [3])))
    (sq (sIf (tst (c2 eqD (c2 ixD (vr 0) (cst (.int 0))) (cst (.str "leaf")))) (sRet (tup (consA (cst (.str "leaf")) (consA (c2 ixD (vr 0) (cst (.int 1))) (consA (c2 ixD (vr 0) (cst (.int 3))) (consA (c2 ixD (vr 0) (cst (.int 2))) nilA)))))) sNx)
    (sq (sIf (tst (c2 eqD (c2 ixD (vr 0) (cst (.int 0))) (cst (.str "rim")))) (sRet (tup (consA (cst (.str "rim")) (consA (c2 ixD (vr 0) (cst (.int 1))) (consA (c2 ixD (vr 0) (cst (.int 3))) (consA (c2 ixD (vr 0) (cst (.int 2))) (consA (c2 ixD (vr 0) (cst (.int 5))) (consA (c2 ixD (vr 0) (cst (.int 4))) (consA (c2 ixD (vr 1) (cst (.int 0))) nilA))))))))) sNx)
    (sq (sAsg 2 (cA M_with_boxes (consA (vr 0) (consA (vr 1) nilA))))
    (sRet (c2 addD (tup (consA (c2 (dgetG G_OTHER) (c2 ixD (vr 0) (cst (.int 0))) (c2 ixD (vr 0) (cst (.int 0)))) nilA)) (slD (vr 2) (yesP (cst (.int 1))) noP)))))))
def M_turned : Nat → List D → Option D
  | 0 => fun _ => none
  | n + 1 => runF 4 (D_turned (M_turned n))
def D_Lcell_at : FS := (sq (sIf (tst (c2 ltD (vr 1) (c1 lenD (vr 0)))) (sRet (c2 ixD (vr 0) (vr 1))) sNx)
    (sRet (cst (.int 0))))
def M_Lcell_at : List D → Option D := runF 2 D_Lcell_at
def D_Lmixed : FS := (sq (sAsg 2 (c2 modD (c2 mulD (c2 addD (c2 addD (cA M_Lcell_at (consA (vr 0) (consA (vr 1) nilA))) (c2 mulD (cst (.int 7919)) (vr 1))) (cst (.int 1))) (cst (.int 48271))) (cst (.int 2147483647))))
    (sRet (c2 modD (c2 addD (c2 addD (c2 mulD (vr 2) (vr 2)) (c2 mulD (cst (.int 7)) (vr 2))) (vr 1)) (cst (.int 2147483629)))))
def M_Lmixed : List D → Option D := runF 3 D_Lmixed
def D_Ldrawn : FS := (sq (sAsg 2 (c2 modD (c2 mulD (c2 addD (c2 addD (vr 0) (c2 mulD (cst (.int 104729)) (vr 1))) (cst (.int 17))) (cst (.int 69621))) (cst (.int 2147483647))))
    (sRet (c2 modD (c2 addD (c2 addD (c2 mulD (vr 2) (vr 2)) (c2 mulD (cst (.int 3)) (vr 2))) (vr 1)) (cst (.int 2147483629)))))
def M_Ldrawn : List D → Option D := runF 3 D_Ldrawn
def D_Lspan : FS := (sq (sAsg 1 (c2 modD (vr 0) (c2 ixD (tup (consA (cst (.int 21)) (consA (cst (.int 6)) (consA (cst (.int 200)) nilA)))) (c2 modD (c2 fdivD (vr 0) (cst (.int 8))) (cst (.int 3))))))
    (sq (sAsg 2 (c2 addD (vr 1) (c2 modD (c2 fdivD (vr 0) (cst (.int 64))) (c2 ixD (tup (consA (cst (.int 21)) (consA (cst (.int 1)) (consA (cst (.int 90)) nilA)))) (c2 modD (c2 fdivD (vr 0) (cst (.int 512))) (cst (.int 3)))))))
    (sq (sAsg 3 (c2 ixD (lstE (consA (cst .none) (consA (c2 addD (vr 2) (c2 modD (c2 fdivD (vr 0) (cst (.int 4096))) (cst (.int 30)))) (consA (vr 2) (consA (c2 addD (vr 2) (c2 modD (c2 fdivD (vr 0) (cst (.int 4096))) (cst (.int 300)))) nilA))))) (c2 modD (c2 fdivD (vr 0) (cst (.int 131072))) (cst (.int 4)))))
    (sRet (tup (consA (vr 1) (consA (vr 2) (consA (vr 3) (consA (c2 ixD (tup (consA (cst (.int 0)) (consA (cst (.int 1)) (consA (cst (.int 2)) (consA (cst (.int 3)) nilA))))) (c2 modD (c2 fdivD (vr 0) (cst (.int 524288))) (cst (.int 4)))) (consA (c2 ixD (tup (consA (cst (.int 1)) (consA (cst (.int 0)) (consA (cst (.int 2)) (consA (cst (.int 9)) nilA))))) (c2 modD (c2 fdivD (vr 0) (cst (.int 2097152))) (cst (.int 4)))) nilA))))))))))
def M_Lspan : List D → Option D := runF 4 D_Lspan
def M_Lbox : Nat → List D → Option D
  | 0 => fun _ => none
  | n + 1 => runF 9 ((sq (sAsg 3 (c2 modD (vr 0) (cst (.int 8))))
    (sq (sIf (orT (tst (c2 eqD (vr 2) (cst (.int 1)))) (tst (c2 gtD (vr 3) (cst (.int 5))))) (sRet (tup (consA (cst (.str "leaf")) (consA (vr 1) (consA (cA M_Lspan (consA (c2 fdivD (cA M_Ldrawn (consA (vr 0) (consA (cst (.int 1)) nilA))) (cst (.int 4))) nilA)) (consA (cA M_Lspan (consA (c2 fdivD (cA M_Ldrawn (consA (vr 0) (consA (cst (.int 2)) nilA))) (cst (.int 4))) nilA)) nilA)))))) sNx)
    (sq (sAsg 4 (c2 addD (cst (.int 1)) (c2 modD (c2 fdivD (vr 0) (cst (.int 8))) (cst (.int 4)))))
    (sq (sAsg 5 (c2 ixD (tup (consA (cst (.int 0)) (consA (cst (.int 3)) (consA (cst (.int 1)) (consA (cst (.int 10)) nilA))))) (c2 modD (c2 fdivD (vr 0) (cst (.int 64))) (cst (.int 4)))))
    (sq (sIf (tst (c2 eqD (vr 3) (cst (.int 4)))) (sq (sAsg 7 (c1 tupleD (lstE (lcD (rg1 (cst (.int 4))) (bNm 8) yesT (c2 modD (c2 fdivD (cA M_Ldrawn (consA (vr 0) (consA (c2 addD (cst (.int 3)) (vr 8)) nilA))) (cst (.int 4))) (cst (.int 7))) [8]))))
    (sRet (c2 addD (c2 addD (tup (consA (cst (.str "rim")) (consA (vr 1) nilA))) (vr 7)) (tup (consA (cA (M_Lbox n) (consA (c2 fdivD (cA M_Ldrawn (consA (vr 0) (consA (cst (.int 7)) nilA))) (cst (.int 4))) (consA (c2 addD (vr 1) (cst (.str "a"))) (consA (c2 subD (vr 2) (cst (.int 1))) nilA)))) nilA))))) sNx)
    (sq (sIf (tst (c2 eqD (vr 3) (cst (.int 5)))) (sAsg 4 (c2 min2D (vr 4) (cst (.int 3)))) sNx)
    (sq (sAsg 6 (c1 tupleD (lstE (lcD (rg1 (vr 4)) (bNm 8) yesT (cA (M_Lbox n) (consA (c2 fdivD (cA M_Ldrawn (consA (vr 0) (consA (c2 addD (cst (.int 10)) (vr 8)) nilA))) (cst (.int 4))) (consA (c2 addD (vr 1) (c2 ixD (cst (.str "abcd")) (vr 8))) (consA (c2 subD (vr 2) (cst (.int 1))) nilA)))) [8]))))
    (sq (sIf (tst (c2 eqD (vr 3) (cst (.int 5)))) (sRet (tup (consA (cst (.str "pile")) (consA (vr 1) (consA (vr 6) nilA))))) sNx)
    (sRet (tup (consA (c2 ixD (tup (consA (cst (.str "row")) (consA (cst (.str "col")) nilA))) (c2 modD (vr 3) (cst (.int 2)))) (consA (vr 1) (consA (vr 5) (consA (vr 6) nilA)))))))))))))))
def D_Lsizes : FS := (sq (sAsg 2 (c2 modD (vr 1) (c2 ixD (tup (consA (cst (.int 200)) (consA (cst (.int 60)) (consA (cst (.int 600)) nilA)))) (c2 modD (c2 fdivD (vr 1) (cst (.int 1024))) (cst (.int 3))))))
    (sRet (tup (consA (vr 2) (consA (c2 modD (c2 fdivD (vr 1) (cst (.int 4096))) (c2 ixD (tup (consA (cst (.int 200)) (consA (cst (.int 60)) (consA (cst (.int 600)) nilA)))) (c2 modD (c2 fdivD (vr 1) (cst (.int 8))) (cst (.int 3))))) nilA)))))
def M_Lsizes : List D → Option D := runF 3 D_Lsizes
def D_Lin : FS := (sq (sIf (tst (c2 eqD (c2 ixD (vr 0) (cst (.int 0))) (cst (.str "leaf")))) (sRet (tup nilA)) sNx)
    (sRet (c2 ixD (lstE (consA (c2 ixD (vr 0) (c2 subD (c1 lenD (vr 0)) (cst (.int 1)))) (consA (slD (vr 0) (yesP (cst (.int 6))) noP) nilA))) (c1 intD (c2 eqD (c2 ixD (vr 0) (cst (.int 0))) (cst (.str "rim")))))))
def M_Lin : List D → Option D := runF 1 D_Lin
def B_Lleaves_1 (R : List D → Option D) : FS := (sAsg 1 (c2 addD (vr 1) (cA R (consA (vr 2) nilA))))
def D_Lleaves (R : List D → Option D) : FS := (sq (sIf (tst (c2 eqD (c2 ixD (vr 0) (cst (.int 0))) (cst (.str "leaf")))) (sRet (lstE (consA (c2 ixD (vr 0) (cst (.int 1))) nilA))) sNx)
    (sq (sAsg 1 (lstE nilA))
    (sq (sFor (itA (cA M_Lin (consA (vr 0) nilA))) (bNm 2) (B_Lleaves_1 R))
    (sRet (vr 1)))))
def M_Lleaves : Nat → List D → Option D
  | 0 => fun _ => none
  | n + 1 => runF 3 (D_Lleaves (M_Lleaves n))
def C_Lled_1 (R : List D → Option D) : FE := (cA R (consA (vr 3) (consA (vr 1) nilA)))
def D_Lled (R : List D → Option D) : FS := (sq (sIf (tst (c2 eqD (c2 ixD (vr 0) (cst (.int 0))) (cst (.str "leaf")))) (sRet (c2 addD (tup (consA (cst (.str "leaf")) (consA (c2 dixD (vr 1) (c2 ixD (vr 0) (cst (.int 1)))) nilA))) (slD (vr 0) (yesP (cst (.int 2))) noP))) sNx)
    (sq (sAsg 2 (c1 tupleD (lstE (lcD (itA (cA M_Lin (consA (vr 0) nilA))) (bNm 3) yesT (C_Lled_1 R) [3]))))
    (sq (sIf (tst (c2 eqD (c2 ixD (vr 0) (cst (.int 0))) (cst (.str "rim")))) (sRet (c2 addD (c2 addD (tup (consA (cst (.str "rim")) (consA (c2 dixD (vr 1) (c2 ixD (vr 0) (cst (.int 1)))) nilA))) (slD (vr 0) (yesP (cst (.int 2))) (yesP (cst (.int 6))))) (vr 2))) sNx)
    (sRet (c2 addD (c2 addD (tup (consA (c2 ixD (vr 0) (cst (.int 0))) (consA (c2 dixD (vr 1) (c2 ixD (vr 0) (cst (.int 1)))) nilA))) (slD (vr 0) (yesP (cst (.int 2))) (yesP (c2 subD (c1 lenD (vr 0)) (cst (.int 1)))))) (tup (consA (vr 2) nilA)))))))
def M_Lled : Nat → List D → Option D
  | 0 => fun _ => none
  | n + 1 => runF 4 (D_Lled (M_Lled n))
def B_law_1 : FS := (sPut 3 (vr 10) (c2 mulSD (c2 ixD (vr 2) (c2 modD (vr 9) (cst (.int 26)))) (c2 addD (cst (.int 1)) (c2 fdivD (vr 9) (cst (.int 26))))))
def C_law_1 : FE := (c2 dixD (vr 3) (vr 10))
def C_law_2 : FE := (c2 addD (tup (consA (c2 dixD (vr 3) (c2 ixD (vr 19) (cst (.int 0)))) nilA)) (slD (vr 19) (yesP (cst (.int 1))) noP))
def C_law_3 : FE := (c2 dixD (vr 3) (vr 10))
def B_law_2 : FS := (sIf (tst (c2 neD (cA (M_span_of 12) (consA (vr 4) (consA (vr 5) nilA))) (cA (M_span_of 12) (consA (vr 1) (consA (vr 5) nilA))))) (sRet (cst (.bool false))) sNx)
def C_law_4 : FE := (tup (consA (c2 dixD (vr 3) (vr 10)) (consA (vr 5) nilA)))
def C_law_5 : FE := (tup (consA (c2 dixD (vr 3) (vr 10)) (consA (vr 5) nilA)))
def D_law : FS := (sq (sAsg 1 (cA (M_Lbox 12) (consA (cA M_Lmixed (consA (vr 0) (consA (cst (.int 0)) nilA))) (consA (cst (.str "x")) (consA (cst (.int 3)) nilA)))))
    (sq (sAsg 2 (cst (.str "zyxwvutsrqponmlkjihgfedcba")))
    (sq (sNewD 3 newD)
    (sq (sFor (enA (cA (M_names_in 12) (consA (vr 1) nilA))) (bTp [(bNm 9), (bNm 10)]) B_law_1)
    (sq (sFrz 3 (sAsg 4 (cA (M_Lled 12) (consA (vr 1) (consA (vr 3) nilA)))))
    (sq (sFrz 3 (sIf (orT (tst (c2 notBD (cA M_is_box (consA (vr 4) nilA)) (cst (.bool true)))) (tst (c2 neD (cA (M_names_in 12) (consA (vr 4) nilA)) (c1 tupleD (lstE (lcD (itA (cA (M_names_in 12) (consA (vr 1) nilA))) (bNm 10) yesT C_law_1 [10])))))) (sRet (cst (.bool false))) sNx))
    (sq (sAsgT (bTp [(bNm 11), (bNm 12)]) (cA M_Lsizes (consA (vr 1) (consA (cA M_Lmixed (consA (vr 0) (consA (cst (.int 1)) nilA))) nilA))))
    (sq (sFrz 3 (sIf (tst (c2 neD (cA M_places (consA (vr 4) (consA (vr 11) (consA (vr 12) nilA)))) (c1 tupleD (lstE (lcD (itA (cA M_places (consA (vr 1) (consA (vr 11) (consA (vr 12) nilA))))) (bNm 19) yesT C_law_2 [19]))))) (sRet (cst (.bool false))) sNx))
    (sq (sPar 13 14 (consA (c2 modD (cA M_Lmixed (consA (vr 0) (consA (cst (.int 2)) nilA))) (c2 addD (vr 11) (cst (.int 1)))) (consA (c2 modD (cA M_Lmixed (consA (vr 0) (consA (cst (.int 3)) nilA))) (c2 addD (vr 12) (cst (.int 1)))) nilA)))
    (sq (sFrz 3 (sIf (tst (c2 neD (cA M_touched (consA (vr 4) (consA (vr 11) (consA (vr 12) (consA (vr 13) (consA (vr 14) nilA)))))) (c1 tupleD (lstE (lcD (itA (cA M_touched (consA (vr 1) (consA (vr 11) (consA (vr 12) (consA (vr 13) (consA (vr 14) nilA))))))) (bNm 10) yesT C_law_3 [10]))))) (sRet (cst (.bool false))) sNx))
    (sq (sIf (orT (tst (c2 neD (cA M_needs (consA (vr 4) nilA)) (cA M_needs (consA (vr 1) nilA)))) (tst (c2 neD (cA M_fits (consA (vr 4) (consA (vr 11) (consA (vr 12) nilA)))) (cA M_fits (consA (vr 1) (consA (vr 11) (consA (vr 12) nilA))))))) (sRet (cst (.bool false))) sNx)
    (sq (sFor (itA (tup (consA (cst (.str "wide")) (consA (cst (.str "high")) nilA)))) (bNm 5) B_law_2)
    (sq (sAsg 6 (cA (M_Lleaves 12) (consA (vr 1) nilA)))
    (sq (sAsg 7 (c2 ixD (vr 6) (c2 modD (cA M_Lmixed (consA (vr 0) (consA (cst (.int 4)) nilA))) (c1 lenD (vr 6)))))
    (sq (sPar 15 16 (consA (cA M_Lspan (consA (cA M_Lmixed (consA (vr 0) (consA (cst (.int 5)) nilA))) nilA)) (consA (cA M_Lspan (consA (cA M_Lmixed (consA (vr 0) (consA (cst (.int 6)) nilA))) nilA)) nilA)))
    (sq (sFrz 3 (sPar 17 18 (consA (cA (M_with_leaf 12) (consA (vr 1) (consA (vr 7) (consA (vr 15) (consA (vr 16) nilA))))) (consA (cA (M_with_leaf 12) (consA (vr 4) (consA (c2 dixD (vr 3) (vr 7)) (consA (vr 15) (consA (vr 16) nilA))))) nilA))))
    (sq (sFrz 3 (sIf (orT (tst (c2 neD (vr 18) (cA (M_Lled 12) (consA (vr 17) (consA (vr 3) nilA))))) (tst (c2 neD (cA (M_turned 12) (consA (vr 4) nilA)) (cA (M_Lled 12) (consA (cA (M_turned 12) (consA (vr 1) nilA)) (consA (vr 3) nilA)))))) (sRet (cst (.bool false))) sNx))
    (sq (sFrz 3 (sAsg 8 (lstE (srtA (lstE (lcD (itA (cA M_changed (consA (vr 1) (consA (vr 17) (consA (vr 11) (consA (vr 12) nilA)))))) (bTp [(bNm 10), (bNm 5)]) yesT C_law_4 [10, 5]))))))
    (sq (sIf (tst (c2 neD (lstE (seqA (cA M_changed (consA (vr 4) (consA (vr 18) (consA (vr 11) (consA (vr 12) nilA))))))) (vr 8))) (sRet (cst (.bool false))) sNx)
    (sFrz 3 (sRet (c2 eqD (lstE (seqA (cA M_may_change (consA (vr 4) (consA (c2 dixD (vr 3) (vr 7)) nilA))))) (lstE (srtA (lstE (lcD (itA (cA M_may_change (consA (vr 1) (consA (vr 7) nilA)))) (bTp [(bNm 10), (bNm 5)]) yesT C_law_5 [10, 5]))))))))))))))))))))))))))
def M_law : List D → Option D := runF 20 D_law
section
variable {P : Program} {w : World} {K : PySem.W.Frag} {mg : Str → Option Value} {base : Heap}
theorem ok_is_whole (t : T w K mg) : FnD P w K mg base 1 t.a_is_whole t.fd_is_whole ["thing", "low", "high"] M_is_whole := fn_mk t.F_is_whole sc_is_whole rfl fun cdv A outer s H E hr =>
    ((ds_one (ds_ret (de_and (de_isi .int t.m_isinstance t.m_int (DE.dr (de_var 0))) (de_and (de_not (de_isi .bool t.m_isinstance t.m_bool (DE.dr (de_var 0)))) (de_one (de_chain op_leA od_le op_leA od_le (DE.dr (de_var 1)) (DE.dr (de_var 0)) (DE.dr (de_var 2)))))))))
theorem ok_is_name (t : T w K mg) : FnD P w K mg base 1 t.a_is_name t.fd_is_name ["thing"] M_is_name := fn_mk t.F_is_name sc_is_name rfl fun cdv A outer s H E hr =>
    ((ds_one (ds_ret (de_and (de_isi .str t.m_isinstance t.m_str (DE.dr (de_var 0))) (de_and (de_chain op_leA od_le op_leA od_le (DE.dr de_int) (DE.dr (de_len t.m_len (DE.dr (de_var 0)))) (DE.dr (de_gint (by rfl) t.c_LONGEST_NAME))) (de_one (de_all rfl t.m_all (DN.dr (dn_lc [("sign", 1)] rfl sc_is_name.nd (dir_any (DE.dr (de_var 0))) (blkOk_by (N := N_is_name) (sc := defScope s_is_name) (by decide +kernel)) (fun _ _ _ _ _ => (dg_name 1 sc_is_name.nd)) (fun _ _ _ _ _ => dts_nil) (fun _ _ _ _ _ => (de_cmp (op_inA hr.units) od_in (DE.dr (de_var 1)) (DE.dr (de_gstr (by rfl) t.c_LETTERS)) (by rfl))))))))))))
theorem ok_is_span (t : T w K mg) : FnD P w K mg base 2 t.a_is_span t.fd_is_span ["thing"] M_is_span := fn_mk t.F_is_span sc_is_span rfl fun cdv A outer s H E hr =>
    ((ds_cons (ds_if (DW.dt (dw_or (dt_not (dt_val (de_isi .tuple t.m_isinstance t.m_tuple (DE.dr (de_var 0))))) (dw_or (dt_cmp (op_neD hr.units) od_ne (DE.dr (de_len t.m_len (DE.dr (de_var 0)))) (DE.dr de_int) (nomark _)) (dw_or1 (dt_not (dt_val (de_all rfl t.m_all (DN.dr (dn_lc [("part", 1)] rfl sc_is_span.nd (dir_any (DE.dr (de_slice (DE.dr (de_var 0)) do_none (do_some de_int)))) (blkOk_by (N := N_is_span) (sc := defScope s_is_span) (by decide +kernel)) (fun _ _ _ _ _ => (dg_name 1 sc_is_span.nd)) (fun _ _ _ _ _ => dts_nil) (fun _ _ _ _ _ => (de_call (ok_is_whole t) hr (by decide) t.g_is_whole t.F_is_whole.kp t.b_is_whole (da_cons (de_var 1) (da_cons de_int (da_cons (de_gint (by rfl) t.c_FAR) da_nil))) (lq_cons (lq_cons (lq_cons lq_nil)))))))))))))) (ds_one (ds_ret de_bl)) ds_nil)
      (ds_cons (ds_if (DW.dt (dw_or (dt_cmp op_gt od_gt (DE.dr (de_ix (DE.dr (de_var 0)) (DE.dr de_int))) (DE.dr (de_ix (DE.dr (de_var 0)) (DE.dr de_int))) (nomark _)) (dw_or1 (dt_not (dt_val (de_all rfl t.m_all (DN.dr (dn_lc [("part", 1)] rfl sc_is_span.nd (dir_any (DE.dr (de_slice (DE.dr (de_var 0)) (do_some de_int) do_none))) (blkOk_by (N := N_is_span) (sc := defScope s_is_span) (by decide +kernel)) (fun _ _ _ _ _ => (dg_name 1 sc_is_span.nd)) (fun _ _ _ _ _ => dts_nil) (fun _ _ _ _ _ => (de_call (ok_is_whole t) hr (by decide) t.g_is_whole t.F_is_whole.kp t.b_is_whole (da_cons (de_var 1) (da_cons de_int (da_cons (de_gint (by rfl) t.c_MOST_SHARE) da_nil))) (lq_cons (lq_cons (lq_cons lq_nil))))))))))))) (ds_one (ds_ret de_bl)) ds_nil)
      (ds_one (ds_ret (de_or (de_isN (DE.dr (de_ix (DE.dr (de_var 0)) (DE.dr de_int)))) (de_one (de_call (ok_is_whole t) hr (by decide) t.g_is_whole t.F_is_whole.kp t.b_is_whole (da_cons (de_ix (DE.dr (de_var 0)) (DE.dr de_int)) (da_cons (de_ix (DE.dr (de_var 0)) (DE.dr de_int)) (da_cons (de_gint (by rfl) t.c_FAR) da_nil))) (lq_cons (lq_cons (lq_cons lq_nil)))))))))))
theorem okk_are_boxes (t : T w K mg) : ∀ n, FnD P w K mg base (2 + n) t.a_are_boxes t.fd_are_boxes ["thing", "many", "deep"] (M_are_boxes n) ∧ FnD P w K mg base (2 + n) t.a_is_box_to t.fd_is_box_to ["thing", "deep"] (M_is_box_to n)
  | 0 => ⟨fn_none, fn_none⟩
  | n + 1 => have ih_are_boxes := (okk_are_boxes t n).1
    have ih_is_box_to := (okk_are_boxes t n).2
    ⟨fn_mk t.F_are_boxes sc_are_boxes rfl fun cdv A outer s H E hr =>
    ((ds_cons (ds_if (DW.dt (dw_or (dt_not (dt_val (de_isi .tuple t.m_isinstance t.m_tuple (DE.dr (de_var 0))))) (dw_or1 (dt_not (dt_chain op_leA od_le op_leA od_le (DE.dr de_int) (DE.dr (de_len t.m_len (DE.dr (de_var 0)))) (DE.dr (de_var 1))))))) (ds_one (ds_ret de_bl)) ds_nil)
      (ds_one (ds_ret (de_all rfl t.m_all (DN.dr (dn_lc [("part", 3)] rfl sc_are_boxes.nd (dir_any (DE.dr (de_var 0))) (blkOk_by (N := N_are_boxes) (sc := defScope s_are_boxes) (by decide +kernel)) (fun _ _ _ _ _ => (dg_name 3 sc_are_boxes.nd)) (fun _ _ _ _ _ => dts_nil) (fun _ _ _ _ _ => (de_call ih_is_box_to hr (Nat.le_refl _) t.g_is_box_to t.F_is_box_to.kp t.b_is_box_to (da_cons (de_var 3) (da_cons (de_var 2) da_nil)) (lq_cons (lq_cons lq_nil))))))))))),
    fn_mk t.F_is_box_to sc_is_box_to rfl fun cdv A outer s H E hr =>
    ((ds_cons (ds_if (DW.dt (dw_or (dt_cmp (op_eqD hr.units) od_eq (DE.dr (de_var 1)) (DE.dr de_int) (nomark _)) (dw_or (dt_not (dt_val (de_isi .tuple t.m_isinstance t.m_tuple (DE.dr (de_var 0))))) (dw_or (dt_cmp op_lt od_lt (DE.dr (de_len t.m_len (DE.dr (de_var 0)))) (DE.dr de_int) (nomark _)) (dw_or1 (dt_not (dt_val (de_isi .str t.m_isinstance t.m_str (DE.dr (de_ix (DE.dr (de_var 0)) (DE.dr de_int))))))))))) (ds_one (ds_ret de_bl)) ds_nil)
      (ds_cons (ds_if (dt_not (dt_val (de_call (ok_is_name t) hr (lev_le (b := 2) (n := n) (by decide)) t.g_is_name t.F_is_name.kp t.b_is_name (da_cons (de_ix (DE.dr (de_var 0)) (DE.dr de_int)) da_nil) (lq_cons lq_nil)))) (ds_one (ds_ret de_bl)) ds_nil)
      (ds_cons (ds_asg 2 sc_is_box_to.nd (de_ix (DE.dr (de_var 0)) (DE.dr de_int)))
      (ds_cons (ds_if (dt_cmp (op_eqD hr.units) od_eq (DE.dr (de_var 2)) (DE.dr de_str) (nomark _)) (ds_one (ds_ret (de_and (de_cmp (op_eqD hr.units) od_eq (DE.dr (de_len t.m_len (DE.dr (de_var 0)))) (DE.dr de_int) (nomark _)) (de_and (de_call (ok_is_span t) hr (lev_le (b := 2) (n := n) (by decide)) t.g_is_span t.F_is_span.kp t.b_is_span (da_cons (de_ix (DE.dr (de_var 0)) (DE.dr de_int)) da_nil) (lq_cons lq_nil)) (de_one (de_call (ok_is_span t) hr (lev_le (b := 2) (n := n) (by decide)) t.g_is_span t.F_is_span.kp t.b_is_span (da_cons (de_ix (DE.dr (de_var 0)) (DE.dr de_int)) da_nil) (lq_cons lq_nil))))))) ds_nil)
      (ds_cons (ds_if (dt_cmp (op_inA hr.units) od_in (DE.dr (de_var 2)) (DE.dr (de_tup (da_cons de_str (da_cons de_str da_nil)) (ln_big (ln_cons (ln_cons ln_nil))))) (by rfl)) (ds_one (ds_ret (de_and (de_cmp (op_eqD hr.units) od_eq (DE.dr (de_len t.m_len (DE.dr (de_var 0)))) (DE.dr de_int) (nomark _)) (de_and (de_call (ok_is_whole t) hr (lev_le (b := 2) (n := n) (by decide)) t.g_is_whole t.F_is_whole.kp t.b_is_whole (da_cons (de_ix (DE.dr (de_var 0)) (DE.dr de_int)) (da_cons de_int (da_cons (de_gint (by rfl) t.c_FAR) da_nil))) (lq_cons (lq_cons (lq_cons lq_nil)))) (de_one (de_call ih_are_boxes hr (Nat.le_refl _) t.g_are_boxes t.F_are_boxes.kp t.b_are_boxes (da_cons (de_ix (DE.dr (de_var 0)) (DE.dr de_int)) (da_cons (de_gint (by rfl) t.c_MOST_BOXES) (da_cons (de_sub (DE.dr (de_var 1)) (DE.dr de_int)) da_nil))) (lq_cons (lq_cons (lq_cons lq_nil))))))))) ds_nil)
      (ds_cons (ds_if (dt_cmp (op_eqD hr.units) od_eq (DE.dr (de_var 2)) (DE.dr de_str) (nomark _)) (ds_one (ds_ret (de_and (de_cmp (op_eqD hr.units) od_eq (DE.dr (de_len t.m_len (DE.dr (de_var 0)))) (DE.dr de_int) (nomark _)) (de_one (de_call ih_are_boxes hr (Nat.le_refl _) t.g_are_boxes t.F_are_boxes.kp t.b_are_boxes (da_cons (de_ix (DE.dr (de_var 0)) (DE.dr de_int)) (da_cons (de_gint (by rfl) t.c_MOST_PILE) (da_cons (de_sub (DE.dr (de_var 1)) (DE.dr de_int)) da_nil))) (lq_cons (lq_cons (lq_cons lq_nil)))))))) ds_nil)
      (ds_cons (ds_if (DW.dt (dw_or (dt_cmp (op_neD hr.units) od_ne (DE.dr (de_var 2)) (DE.dr de_str) (nomark _)) (dw_or1 (dt_cmp (op_neD hr.units) od_ne (DE.dr (de_len t.m_len (DE.dr (de_var 0)))) (DE.dr de_int) (nomark _))))) (ds_one (ds_ret de_bl)) ds_nil)
      (ds_one (ds_ret (de_and (de_all rfl t.m_all (DN.dr (dn_lc [("part", 3)] rfl sc_is_box_to.nd (dir_any (DE.dr (de_slice (DE.dr (de_var 0)) (do_some de_int) (do_some de_int)))) (blkOk_by (N := N_is_box_to) (sc := defScope s_is_box_to) (by decide +kernel)) (fun _ _ _ _ _ => (dg_name 3 sc_is_box_to.nd)) (fun _ _ _ _ _ => dts_nil) (fun _ _ _ _ _ => (de_call (ok_is_whole t) hr (lev_le (b := 2) (n := n) (by decide)) t.g_is_whole t.F_is_whole.kp t.b_is_whole (da_cons (de_var 3) (da_cons de_int (da_cons (de_gint (by rfl) t.c_FAR) da_nil))) (lq_cons (lq_cons (lq_cons lq_nil)))))))) (de_one (de_call ih_is_box_to hr (Nat.le_refl _) t.g_is_box_to t.F_is_box_to.kp t.b_is_box_to (da_cons (de_ix (DE.dr (de_var 0)) (DE.dr de_int)) (da_cons (de_sub (DE.dr (de_var 1)) (DE.dr de_int)) da_nil)) (lq_cons (lq_cons lq_nil)))))))))))))))⟩
theorem ok_are_boxes (t : T w K mg) (n : Nat) : FnD P w K mg base (2 + n) t.a_are_boxes t.fd_are_boxes ["thing", "many", "deep"] (M_are_boxes n) := (okk_are_boxes t n).1
theorem ok_is_box_to (t : T w K mg) (n : Nat) : FnD P w K mg base (2 + n) t.a_is_box_to t.fd_is_box_to ["thing", "deep"] (M_is_box_to n) := (okk_are_boxes t n).2
theorem ok_boxes_in (t : T w K mg) : FnD P w K mg base 1 t.a_boxes_in t.fd_boxes_in ["box"] M_boxes_in := fn_mk t.F_boxes_in sc_boxes_in rfl fun cdv A outer s H E hr =>
    ((ds_cons (ds_if (dt_cmp (op_eqD hr.units) od_eq (DE.dr (de_ix (DE.dr (de_var 0)) (DE.dr de_int))) (DE.dr de_str) (nomark _)) (ds_one (ds_ret (de_tup da_nil (ln_big ln_nil)))) ds_nil)
      (ds_cons (ds_if (dt_cmp (op_eqD hr.units) od_eq (DE.dr (de_ix (DE.dr (de_var 0)) (DE.dr de_int))) (DE.dr de_str) (nomark _)) (ds_one (ds_ret (de_tup (da_cons (de_ix (DE.dr (de_var 0)) (DE.dr de_int)) da_nil) (ln_big (ln_cons ln_nil))))) ds_nil)
      (ds_one (ds_ret (de_ix (DE.dr (de_var 0)) (DE.dr (de_neg (DE.dr de_int)))))))))
theorem ok_names_in (t : T w K mg) : ∀ n, FnD P w K mg base (1 + n) t.a_names_in t.fd_names_in ["box"] (M_names_in n)
  | 0 => fn_none
  | n + 1 => fn_mk t.F_names_in sc_names_in rfl fun cdv A outer s H E hr => have ih_names_in := ok_names_in t n
    ((ds_cons (ds_asg 1 sc_names_in.nd (de_tup (da_cons (de_ix (DE.dr (de_var 0)) (DE.dr de_int)) da_nil) (ln_big (ln_cons ln_nil))))
      (ds_cons (ds_for PassesOwn.never rfl (di_any (de_call (ok_boxes_in t) hr (lev_le (b := 1) (n := n) (by decide)) t.g_boxes_in t.F_boxes_in.kp t.b_boxes_in (da_cons (de_var 0) da_nil) (lq_cons lq_nil))) (dg_name 2 sc_names_in.nd) (ds_one (ds_asg 1 sc_names_in.nd (de_add (DE.dr (de_var 1)) (DE.dr (de_call ih_names_in hr (Nat.le_refl _) t.g_names_in t.F_names_in.kp t.b_names_in (da_cons (de_var 2) da_nil) (lq_cons lq_nil)))))))
      (ds_one (ds_ret (de_var 1))))))
theorem ok_is_box (t : T w K mg) : FnD P w K mg base 27 t.a_is_box t.fd_is_box ["thing"] M_is_box := fn_mk t.F_is_box sc_is_box rfl fun cdv A outer s H E hr =>
    ((ds_cons (ds_if (dt_not (dt_val (de_call (ok_is_box_to t 12) hr (by decide) t.g_is_box_to t.F_is_box_to.kp t.b_is_box_to (da_cons (de_var 0) (da_cons (de_gint (by rfl) t.c_DEEPEST) da_nil)) (lq_cons (lq_cons lq_nil))))) (ds_one (ds_ret de_bl)) ds_nil)
      (ds_one (ds_ret (de_cmp (op_eqD hr.units) od_eq (DE.dr (de_lenset rfl t.m_len t.m_set (DE.dr (de_call (ok_names_in t 12) hr (by decide) t.g_names_in t.F_names_in.kp t.b_names_in (da_cons (de_var 0) da_nil) (lq_cons lq_nil))))) (DE.dr (de_len t.m_len (DE.dr (de_call (ok_names_in t 12) hr (by decide) t.g_names_in t.F_names_in.kp t.b_names_in (da_cons (de_var 0) da_nil) (lq_cons lq_nil))))) (nomark _))))))
theorem ok_with_boxes (t : T w K mg) : FnD P w K mg base 1 t.a_with_boxes t.fd_with_boxes ["box", "parts"] M_with_boxes := fn_mk t.F_with_boxes sc_with_boxes rfl fun cdv A outer s H E hr =>
    ((ds_cons (ds_if (dt_cmp (op_eqD hr.units) od_eq (DE.dr (de_ix (DE.dr (de_var 0)) (DE.dr de_int))) (DE.dr de_str) (nomark _)) (ds_one (ds_ret (de_var 0))) ds_nil)
      (ds_cons (ds_if (dt_cmp (op_eqD hr.units) od_eq (DE.dr (de_ix (DE.dr (de_var 0)) (DE.dr de_int))) (DE.dr de_str) (nomark _)) (ds_one (ds_ret (de_add (DE.dr (de_slice (DE.dr (de_var 0)) do_none (do_some de_int))) (DE.dr (de_tup (da_cons (de_ix (DE.dr (de_var 1)) (DE.dr de_int)) da_nil) (ln_big (ln_cons ln_nil))))))) ds_nil)
      (ds_one (ds_ret (de_add (DE.dr (de_slice (DE.dr (de_var 0)) do_none (do_some (de_neg (DE.dr de_int))))) (DE.dr (de_tup (da_cons (de_tuple t.m_tuple (DE.dr (de_var 1))) da_nil) (ln_big (ln_cons ln_nil))))))))))
theorem ok_plain (t : T w K mg) : FnD P w K mg base 1 t.a_plain t.fd_plain ["upper", "lower"] M_plain := fn_mk t.F_plain sc_plain rfl fun cdv A outer s H E hr =>
    ((ds_cons (ds_asg 2 sc_plain.nd (de_abs t.m_abs (DE.dr (de_var 0))))
      (ds_cons (ds_asg 3 sc_plain.nd (de_var 1))
      (ds_cons (ds_while (muI 2) PassesOwn.never (dt_cmp op_gt od_gt (DE.dr (de_var 2)) (DE.dr de_int) (nomark _)) (ds_one (ds_par 2 3 rfl sc_plain.nd (da_cons (de_mod (DE.dr (de_var 3)) (DE.dr (de_var 2))) (da_cons (de_var 2) da_nil)))))
      (ds_one (ds_ret (de_tup (da_cons (de_fdiv (DE.dr (de_var 0)) (DE.dr (de_var 3))) (da_cons (de_fdiv (DE.dr (de_var 1)) (DE.dr (de_var 3))) da_nil)) (ln_big (ln_cons (ln_cons ln_nil))))))))))
theorem ok_plus (t : T w K mg) : FnD P w K mg base 2 t.a_plus t.fd_plus ["one", "other"] M_plus := fn_mk t.F_plus sc_plus rfl fun cdv A outer s H E hr =>
    ((ds_one (ds_ret (de_call (ok_plain t) hr (by decide) t.g_plain t.F_plain.kp t.b_plain (da_cons (de_add (DE.dr (de_mul (DE.dr (de_ix (DE.dr (de_var 0)) (DE.dr de_int))) (DE.dr (de_ix (DE.dr (de_var 1)) (DE.dr de_int))))) (DE.dr (de_mul (DE.dr (de_ix (DE.dr (de_var 1)) (DE.dr de_int))) (DE.dr (de_ix (DE.dr (de_var 0)) (DE.dr de_int)))))) (da_cons (de_mul (DE.dr (de_ix (DE.dr (de_var 0)) (DE.dr de_int))) (DE.dr (de_ix (DE.dr (de_var 1)) (DE.dr de_int)))) da_nil)) (lq_cons (lq_cons lq_nil))))))
theorem ok_is_less (t : T w K mg) : FnD P w K mg base 1 t.a_is_less t.fd_is_less ["one", "other"] M_is_less := fn_mk t.F_is_less sc_is_less rfl fun cdv A outer s H E hr =>
    ((ds_one (ds_ret (de_cmp op_lt od_lt (DE.dr (de_mul (DE.dr (de_ix (DE.dr (de_var 0)) (DE.dr de_int))) (DE.dr (de_ix (DE.dr (de_var 1)) (DE.dr de_int))))) (DE.dr (de_mul (DE.dr (de_ix (DE.dr (de_var 1)) (DE.dr de_int))) (DE.dr (de_ix (DE.dr (de_var 0)) (DE.dr de_int))))) (nomark _)))))
theorem ok_low_of (t : T w K mg) : FnD P w K mg base 1 t.a_low_of t.fd_low_of ["span"] M_low_of := fn_mk t.F_low_of sc_low_of rfl fun cdv A outer s H E hr =>
    ((ds_cons (ds_if (dt_cmp op_gt od_gt (DE.dr (de_ix (DE.dr (de_var 0)) (DE.dr de_int))) (DE.dr de_int) (nomark _)) (ds_one (ds_ret (de_ix (DE.dr (de_var 0)) (DE.dr de_int)))) ds_nil)
      (ds_one (ds_ret (de_ix (DE.dr (de_var 0)) (DE.dr de_int))))))
theorem ok_top_of (t : T w K mg) : FnD P w K mg base 1 t.a_top_of t.fd_top_of ["span"] M_top_of := fn_mk t.F_top_of sc_top_of rfl fun cdv A outer s H E hr =>
    ((ds_cons (ds_if (dt_cmp op_gt od_gt (DE.dr (de_ix (DE.dr (de_var 0)) (DE.dr de_int))) (DE.dr de_int) (nomark _)) (ds_one (ds_ret (de_ix (DE.dr (de_var 0)) (DE.dr de_int)))) ds_nil)
      (ds_one (ds_ret (de_ix (DE.dr (de_var 0)) (DE.dr de_int))))))
theorem ok_join (t : T w K mg) : FnD P w K mg base 1 t.a_join t.fd_join ["some", "is_sum"] M_join := fn_mk t.F_join sc_join rfl fun cdv A outer s H E hr =>
    ((ds_cons (ds_if (dt_val (de_var 1)) (ds_one (ds_ret (de_sum rfl t.m_sum (DE.dr (de_var 0))))) ds_nil)
      (ds_one (ds_ret (de_max rfl t.m_max (DE.dr (de_var 0)))))))
theorem ok_joined (t : T w K mg) : FnD P w K mg base 2 t.a_joined t.fd_joined ["spans", "is_sum", "more"] M_joined := fn_mk t.F_joined sc_joined rfl fun cdv A outer s H E hr =>
    ((ds_cons (ds_lc 3 [("span", 7)] rfl sc_joined.nd (dir_any (DE.dr (de_var 0))) (blkOk_by (N := N_joined) (sc := defScope s_joined) (by decide +kernel)) (fun _ _ _ _ _ => (dg_name 7 sc_joined.nd)) (fun _ _ _ _ _ => dts_nil) (fun _ _ _ _ _ => (de_call (ok_top_of t) hr (by decide) t.g_top_of t.F_top_of.kp t.b_top_of (da_cons (de_var 7) da_nil) (lq_cons lq_nil))))
      (ds_cons (ds_asg 4 sc_joined.nd de_non)
      (ds_cons (ds_if (dt_not (dt_val (de_any rfl t.m_any (DN.dr (dn_lc [("one", 8)] rfl sc_joined.nd (dir_any (DE.dr (de_var 3))) (blkOk_by (N := N_joined) (sc := defScope s_joined) (by decide +kernel)) (fun _ _ _ _ _ => (dg_name 8 sc_joined.nd)) (fun _ _ _ _ _ => dts_nil) (fun _ _ _ _ _ => (de_isN (DE.dr (de_var 8))))))))) (ds_one (ds_asg 4 sc_joined.nd (de_add (DE.dr (de_call (ok_join t) hr (by decide) t.g_join t.F_join.kp t.b_join (da_cons (de_var 3) (da_cons (de_var 1) da_nil)) (lq_cons (lq_cons lq_nil)))) (DE.dr (de_var 2))))) ds_nil)
      (ds_cons (ds_asg 5 sc_joined.nd (de_add (DE.dr (de_call (ok_join t) hr (by decide) t.g_join t.F_join.kp t.b_join (da_cons (DN.de (dn_lc [("span", 7)] rfl sc_joined.nd (dir_any (DE.dr (de_var 0))) (blkOk_by (N := N_joined) (sc := defScope s_joined) (by decide +kernel)) (fun _ _ _ _ _ => (dg_name 7 sc_joined.nd)) (fun _ _ _ _ _ => dts_nil) (fun _ _ _ _ _ => (de_call (ok_low_of t) hr (by decide) t.g_low_of t.F_low_of.kp t.b_low_of (da_cons (de_var 7) da_nil) (lq_cons lq_nil))))) (da_cons (de_var 1) da_nil)) (lq_cons (lq_cons lq_nil)))) (DE.dr (de_var 2))))
      (ds_cons (ds_asg 6 sc_joined.nd (de_add (DE.dr (de_call (ok_join t) hr (by decide) t.g_join t.F_join.kp t.b_join (da_cons (DN.de (dn_lc [("span", 7)] rfl sc_joined.nd (dir_any (DE.dr (de_var 0))) (blkOk_by (N := N_joined) (sc := defScope s_joined) (by decide +kernel)) (fun _ _ _ _ _ => (dg_name 7 sc_joined.nd)) (fun _ _ _ _ _ => dts_nil) (fun _ _ _ _ _ => (de_ix (DE.dr (de_var 7)) (DE.dr de_int))))) (da_cons (de_var 1) da_nil)) (lq_cons (lq_cons lq_nil)))) (DE.dr (de_var 2))))
      (ds_one (ds_ret (de_tup (da_cons (de_var 5) (da_cons (de_var 6) (da_cons (de_var 4) (da_cons (de_max rfl t.m_max (DN.dr (dn_lc [("span", 7)] rfl sc_joined.nd (dir_any (DE.dr (de_var 0))) (blkOk_by (N := N_joined) (sc := defScope s_joined) (by decide +kernel)) (fun _ _ _ _ _ => (dg_name 7 sc_joined.nd)) (fun _ _ _ _ _ => dts_nil) (fun _ _ _ _ _ => (de_ix (DE.dr (de_var 7)) (DE.dr de_int)))))) (da_cons (de_max rfl t.m_max (DN.dr (dn_lc [("span", 7)] rfl sc_joined.nd (dir_any (DE.dr (de_var 0))) (blkOk_by (N := N_joined) (sc := defScope s_joined) (by decide +kernel)) (fun _ _ _ _ _ => (dg_name 7 sc_joined.nd)) (fun _ _ _ _ _ => dts_nil) (fun _ _ _ _ _ => (de_ix (DE.dr (de_var 7)) (DE.dr de_int)))))) da_nil))))) (ln_big (ln_cons (ln_cons (ln_cons (ln_cons (ln_cons ln_nil)))))))))))))))
theorem ok_along (t : T w K mg) : FnD P w K mg base 3 t.a_along t.fd_along ["spans", "gap"] M_along := fn_mk t.F_along sc_along rfl fun cdv A outer s H E hr =>
    ((ds_one (ds_ret (de_call (ok_joined t) hr (by decide) t.g_joined t.F_joined.kp t.b_joined (da_cons (de_var 0) (da_cons de_bl (da_cons (de_mul (DE.dr (de_var 1)) (DE.dr (de_sub (DE.dr (de_len t.m_len (DE.dr (de_var 0)))) (DE.dr de_int)))) da_nil))) (lq_cons (lq_cons (lq_cons lq_nil)))))))
theorem ok_beside (t : T w K mg) : FnD P w K mg base 3 t.a_beside t.fd_beside ["spans"] M_beside := fn_mk t.F_beside sc_beside rfl fun cdv A outer s H E hr =>
    ((ds_one (ds_ret (de_call (ok_joined t) hr (by decide) t.g_joined t.F_joined.kp t.b_joined (da_cons (de_var 0) (da_cons de_bl (da_cons de_int da_nil))) (lq_cons (lq_cons (lq_cons lq_nil)))))))
theorem ok_rims_of (t : T w K mg) : FnD P w K mg base 1 t.a_rims_of t.fd_rims_of ["box", "axis"] M_rims_of := fn_mk t.F_rims_of sc_rims_of rfl fun cdv A outer s H E hr =>
    ((ds_cons (ds_if (dt_cmp (op_eqD hr.units) od_eq (DE.dr (de_var 1)) (DE.dr de_str) (nomark _)) (ds_one (ds_ret (de_tup (da_cons (de_ix (DE.dr (de_var 0)) (DE.dr de_int)) (da_cons (de_ix (DE.dr (de_var 0)) (DE.dr de_int)) da_nil)) (ln_big (ln_cons (ln_cons ln_nil)))))) ds_nil)
      (ds_one (ds_ret (de_tup (da_cons (de_ix (DE.dr (de_var 0)) (DE.dr de_int)) (da_cons (de_ix (DE.dr (de_var 0)) (DE.dr de_int)) da_nil)) (ln_big (ln_cons (ln_cons ln_nil))))))))
theorem ok_span_of (t : T w K mg) : ∀ n, FnD P w K mg base (3 + n) t.a_span_of t.fd_span_of ["box", "axis"] (M_span_of n)
  | 0 => fn_none
  | n + 1 => fn_mk t.F_span_of sc_span_of rfl fun cdv A outer s H E hr => have ih_span_of := ok_span_of t n
    ((ds_cons (ds_if (dt_cmp (op_eqD hr.units) od_eq (DE.dr (de_ix (DE.dr (de_var 0)) (DE.dr de_int))) (DE.dr de_str) (nomark _)) (ds_one (ds_ret (de_ix (DE.dr (de_var 0)) (DE.dr (de_add (DE.dr de_int) (DE.dr (de_toint t.m_int (DE.dr (de_cmp (op_eqD hr.units) od_eq (DE.dr (de_var 1)) (DE.dr de_str) (nomark _)))))))))) ds_nil)
      (ds_cons (ds_lc 2 [("part", 4)] rfl sc_span_of.nd (dir_any (DE.dr (de_call (ok_boxes_in t) hr (lev_le (b := 3) (n := n) (by decide)) t.g_boxes_in t.F_boxes_in.kp t.b_boxes_in (da_cons (de_var 0) da_nil) (lq_cons lq_nil)))) (blkOk_by (N := N_span_of) (sc := defScope s_span_of) (by decide +kernel)) (fun _ _ _ _ _ => (dg_name 4 sc_span_of.nd)) (fun _ _ _ _ _ => dts_nil) (fun _ _ _ _ _ => (de_call ih_span_of hr (Nat.le_refl _) t.g_span_of t.F_span_of.kp t.b_span_of (da_cons (de_var 4) (da_cons (de_var 1) da_nil)) (lq_cons (lq_cons lq_nil)))))
      (ds_cons (ds_if (dt_cmp (op_eqD hr.units) od_eq (DE.dr (de_ix (DE.dr (de_var 0)) (DE.dr de_int))) (DE.dr de_str) (nomark _)) (ds_cons (ds_asg 3 sc_span_of.nd (de_sum rfl t.m_sum (DE.dr (de_call (ok_rims_of t) hr (lev_le (b := 3) (n := n) (by decide)) t.g_rims_of t.F_rims_of.kp t.b_rims_of (da_cons (de_var 0) (da_cons (de_var 1) da_nil)) (lq_cons (lq_cons lq_nil))))))
      (ds_cons (ds_asgT (de_ix (DE.dr (de_var 2)) (DE.dr de_int)) (dg_tup rfl (dgs_cons (dg_name 5 sc_span_of.nd) (dgs_cons (dg_name 6 sc_span_of.nd) (dgs_cons (dg_name 7 sc_span_of.nd) (dgs_cons (dg_name 8 sc_span_of.nd) (dgs_cons (dg_name 9 sc_span_of.nd) dgs_nil)))))))
      (ds_cons (ds_if (dt_notN (DE.dr (de_var 7))) (ds_one (ds_asg 7 sc_span_of.nd (de_add (DE.dr (de_var 7)) (DE.dr (de_var 3))))) ds_nil)
      (ds_one (ds_ret (de_tup (da_cons (de_add (DE.dr (de_var 5)) (DE.dr (de_var 3))) (da_cons (de_add (DE.dr (de_var 6)) (DE.dr (de_var 3))) (da_cons (de_var 7) (da_cons (de_var 8) (da_cons (de_var 9) da_nil))))) (ln_big (ln_cons (ln_cons (ln_cons (ln_cons (ln_cons ln_nil)))))))))))) ds_nil)
      (ds_cons (ds_if (DW.dt (dw_and (dt_gin t.c_MAIN t.d_MAIN (de_ix (DE.dr (de_var 0)) (DE.dr de_int))) (dw_and1 (dt_cmp (op_eqD hr.units) od_eq (DE.dr (de_gdix t.c_MAIN t.d_MAIN hr (de_ix (DE.dr (de_var 0)) (DE.dr de_int)))) (DE.dr (de_var 1)) (nomark _))))) (ds_one (ds_ret (de_call (ok_along t) hr (lev_le (b := 3) (n := n) (by decide)) t.g_along t.F_along.kp t.b_along (da_cons (de_var 2) (da_cons (de_ix (DE.dr (de_var 0)) (DE.dr de_int)) da_nil)) (lq_cons (lq_cons lq_nil))))) ds_nil)
      (ds_one (ds_ret (de_call (ok_beside t) hr (lev_le (b := 3) (n := n) (by decide)) t.g_beside t.F_beside.kp t.b_beside (da_cons (de_var 2) da_nil) (lq_cons lq_nil)))))))))
theorem ok_room_of (t : T w K mg) : FnD P w K mg base 1 t.a_room_of t.fd_room_of ["spans", "gap", "length"] M_room_of := fn_mk t.F_room_of sc_room_of rfl fun cdv A outer s H E hr =>
    ((ds_one (ds_ret (de_max2 rfl t.m_max (DE.dr de_int) (DE.dr (de_sub (DE.dr (de_var 2)) (DE.dr (de_mul (DE.dr (de_var 1)) (DE.dr (de_sub (DE.dr (de_len t.m_len (DE.dr (de_var 0)))) (DE.dr de_int)))))))))))
theorem ok_is_enough (t : T w K mg) : FnD P w K mg base 1 t.a_is_enough t.fd_is_enough ["spans", "room"] M_is_enough := fn_mk t.F_is_enough sc_is_enough rfl fun cdv A outer s H E hr =>
    ((ds_one (ds_ret (de_cmp op_ge od_ge (DE.dr (de_var 1)) (DE.dr (de_sum rfl t.m_sum (DN.dr (dn_lc [("span", 2)] rfl sc_is_enough.nd (dir_any (DE.dr (de_var 0))) (blkOk_by (N := N_is_enough) (sc := defScope s_is_enough) (by decide +kernel)) (fun _ _ _ _ _ => (dg_name 2 sc_is_enough.nd)) (fun _ _ _ _ _ => dts_nil) (fun _ _ _ _ _ => (de_ix (DE.dr (de_var 2)) (DE.dr de_int))))))) (nomark _)))))
theorem ok_grown (t : T w K mg) : FnD P w K mg base 3 t.a_grown t.fd_grown ["span", "by"] M_grown := fn_mk t.F_grown sc_grown rfl fun cdv A outer s H E hr =>
    ((ds_cons (ds_asg 2 sc_grown.nd (de_call (ok_plus t) hr (by decide) t.g_plus t.F_plus.kp t.b_plus (da_cons (de_tup (da_cons (de_ix (DE.dr (de_var 0)) (DE.dr de_int)) (da_cons de_int da_nil)) (ln_big (ln_cons (ln_cons ln_nil)))) (da_cons (de_call (ok_plain t) hr (by decide) t.g_plain t.F_plain.kp t.b_plain (da_cons (de_mul (DE.dr (de_ix (DE.dr (de_var 1)) (DE.dr de_int))) (DE.dr (de_ix (DE.dr (de_var 0)) (DE.dr de_int)))) (da_cons (de_ix (DE.dr (de_var 1)) (DE.dr de_int)) da_nil)) (lq_cons (lq_cons lq_nil))) da_nil)) (lq_cons (lq_cons lq_nil))))
      (ds_cons (ds_if (DW.dt (dw_and (dt_notN (DE.dr (de_call (ok_top_of t) hr (by decide) t.g_top_of t.F_top_of.kp t.b_top_of (da_cons (de_var 0) da_nil) (lq_cons lq_nil)))) (dw_and1 (dt_val (de_call (ok_is_less t) hr (by decide) t.g_is_less t.F_is_less.kp t.b_is_less (da_cons (de_tup (da_cons (de_call (ok_top_of t) hr (by decide) t.g_top_of t.F_top_of.kp t.b_top_of (da_cons (de_var 0) da_nil) (lq_cons lq_nil)) (da_cons de_int da_nil)) (ln_big (ln_cons (ln_cons ln_nil)))) (da_cons (de_var 2) da_nil)) (lq_cons (lq_cons lq_nil))))))) (ds_one (ds_ret (de_tup (da_cons (de_call (ok_top_of t) hr (by decide) t.g_top_of t.F_top_of.kp t.b_top_of (da_cons (de_var 0) da_nil) (lq_cons lq_nil)) (da_cons de_int da_nil)) (ln_big (ln_cons (ln_cons ln_nil)))))) ds_nil)
      (ds_one (ds_ret (de_var 2))))))
theorem ok_shrunk (t : T w K mg) : FnD P w K mg base 3 t.a_shrunk t.fd_shrunk ["span", "by"] M_shrunk := fn_mk t.F_shrunk sc_shrunk rfl fun cdv A outer s H E hr =>
    ((ds_cons (ds_asg 2 sc_shrunk.nd (de_call (ok_plus t) hr (by decide) t.g_plus t.F_plus.kp t.b_plus (da_cons (de_tup (da_cons (de_ix (DE.dr (de_var 0)) (DE.dr de_int)) (da_cons de_int da_nil)) (ln_big (ln_cons (ln_cons ln_nil)))) (da_cons (de_call (ok_plain t) hr (by decide) t.g_plain t.F_plain.kp t.b_plain (da_cons (de_sub (DE.dr de_int) (DE.dr (de_mul (DE.dr (de_ix (DE.dr (de_var 1)) (DE.dr de_int))) (DE.dr (de_ix (DE.dr (de_var 0)) (DE.dr de_int)))))) (da_cons (de_ix (DE.dr (de_var 1)) (DE.dr de_int)) da_nil)) (lq_cons (lq_cons lq_nil))) da_nil)) (lq_cons (lq_cons lq_nil))))
      (ds_cons (ds_if (dt_val (de_call (ok_is_less t) hr (by decide) t.g_is_less t.F_is_less.kp t.b_is_less (da_cons (de_var 2) (da_cons (de_tup (da_cons (de_call (ok_low_of t) hr (by decide) t.g_low_of t.F_low_of.kp t.b_low_of (da_cons (de_var 0) da_nil) (lq_cons lq_nil)) (da_cons de_int da_nil)) (ln_big (ln_cons (ln_cons ln_nil)))) da_nil)) (lq_cons (lq_cons lq_nil)))) (ds_one (ds_ret (de_tup (da_cons (de_call (ok_low_of t) hr (by decide) t.g_low_of t.F_low_of.kp t.b_low_of (da_cons (de_var 0) da_nil) (lq_cons lq_nil)) (da_cons de_int da_nil)) (ln_big (ln_cons (ln_cons ln_nil)))))) ds_nil)
      (ds_one (ds_ret (de_var 2))))))
theorem ok_stops (t : T w K mg) : FnD P w K mg base 2 t.a_stops t.fd_stops ["spans", "is_growing"] M_stops := fn_mk t.F_stops sc_stops rfl fun cdv A outer s H E hr =>
    ((ds_cons (ds_new 2 sc_stops.nd (dn_lst da_nil (ln_big ln_nil)))
      (ds_cons (ds_for PassesOwn.never rfl (di_any (de_var 0)) (dg_name 3 sc_stops.nd) (ds_cons (ds_if (DW.dt (dw_and (dt_val (de_var 1)) (dw_and (dt_cmp op_gt od_gt (DE.dr (de_ix (DE.dr (de_var 3)) (DE.dr de_int))) (DE.dr de_int) (nomark _)) (dw_and1 (dt_notN (DE.dr (de_ix (DE.dr (de_var 3)) (DE.dr de_int)))))))) (ds_one (ds_app 2 (de_call (ok_plain t) hr (by decide) t.g_plain t.F_plain.kp t.b_plain (da_cons (de_sub (DE.dr (de_ix (DE.dr (de_var 3)) (DE.dr de_int))) (DE.dr (de_ix (DE.dr (de_var 3)) (DE.dr de_int)))) (da_cons (de_ix (DE.dr (de_var 3)) (DE.dr de_int)) da_nil)) (lq_cons (lq_cons lq_nil))))) ds_nil)
      (ds_one (ds_if (DW.dt (dw_and (dt_not (dt_val (de_var 1))) (dw_and1 (dt_cmp op_gt od_gt (DE.dr (de_ix (DE.dr (de_var 3)) (DE.dr de_int))) (DE.dr de_int) (nomark _))))) (ds_one (ds_app 2 (de_call (ok_plain t) hr (by decide) t.g_plain t.F_plain.kp t.b_plain (da_cons (de_sub (DE.dr (de_ix (DE.dr (de_var 3)) (DE.dr de_int))) (DE.dr (de_ix (DE.dr (de_var 3)) (DE.dr de_int)))) (da_cons (de_ix (DE.dr (de_var 3)) (DE.dr de_int)) da_nil)) (lq_cons (lq_cons lq_nil))))) ds_nil))))
      (ds_cons (ds_new 4 sc_stops.nd (dn_lst da_nil (ln_big ln_nil)))
      (ds_cons (ds_frz 2 (ds_for PassesOwn.never rfl (di_any (de_var 2)) (dg_name 5 sc_stops.nd) (ds_cons (ds_asg 6 sc_stops.nd (de_len t.m_len (DN.dr (dn_lc [("other", 7)] rfl sc_stops.nd (dir_any (dr_var 4)) (blkOk_by (N := N_stops) (sc := defScope s_stops) (by decide +kernel)) (fun _ _ _ _ _ => (dg_name 7 sc_stops.nd)) (fun _ _ _ _ _ => (dts_one (dt_val (de_call (ok_is_less t) hr (by decide) t.g_is_less t.F_is_less.kp t.b_is_less (da_cons (de_var 7) (da_cons (de_var 5) da_nil)) (lq_cons (lq_cons lq_nil)))))) (fun _ _ _ _ _ => (de_var 7))))))
      (ds_one (ds_ins 4 (de_var 6) (de_var 5))))))
      (ds_one (ds_frz 4 (ds_ret (de_var 4)))))))))
theorem ok_rate_at (t : T w K mg) : FnD P w K mg base 2 t.a_rate_at t.fd_rate_at ["spans", "is_growing", "here"] M_rate_at := fn_mk t.F_rate_at sc_rate_at rfl fun cdv A outer s H E hr =>
    ((ds_cons (ds_asg 3 sc_rate_at.nd de_int)
      (ds_cons (ds_for PassesOwn.never rfl (di_any (de_var 0)) (dg_name 4 sc_rate_at.nd) (ds_one (ds_if (dt_val (de_var 1)) (ds_one (ds_if (DW.dt (dw_and (dt_cmp op_gt od_gt (DE.dr (de_ix (DE.dr (de_var 4)) (DE.dr de_int))) (DE.dr de_int) (nomark _)) (dw_and1 (DW.dt (dw_or (dt_isN (DE.dr (de_ix (DE.dr (de_var 4)) (DE.dr de_int)))) (dw_or1 (dt_val (de_call (ok_is_less t) hr (by decide) t.g_is_less t.F_is_less.kp t.b_is_less (da_cons (de_var 2) (da_cons (de_call (ok_plain t) hr (by decide) t.g_plain t.F_plain.kp t.b_plain (da_cons (de_sub (DE.dr (de_ix (DE.dr (de_var 4)) (DE.dr de_int))) (DE.dr (de_ix (DE.dr (de_var 4)) (DE.dr de_int)))) (da_cons (de_ix (DE.dr (de_var 4)) (DE.dr de_int)) da_nil)) (lq_cons (lq_cons lq_nil))) da_nil)) (lq_cons (lq_cons lq_nil)))))))))) (ds_one (ds_asg 3 sc_rate_at.nd (de_add (DE.dr (de_var 3)) (DE.dr (de_ix (DE.dr (de_var 4)) (DE.dr de_int)))))) ds_nil)) (ds_one (ds_if (DW.dt (dw_and (dt_cmp op_gt od_gt (DE.dr (de_ix (DE.dr (de_var 4)) (DE.dr de_int))) (DE.dr de_int) (nomark _)) (dw_and1 (dt_val (de_call (ok_is_less t) hr (by decide) t.g_is_less t.F_is_less.kp t.b_is_less (da_cons (de_var 2) (da_cons (de_call (ok_plain t) hr (by decide) t.g_plain t.F_plain.kp t.b_plain (da_cons (de_sub (DE.dr (de_ix (DE.dr (de_var 4)) (DE.dr de_int))) (DE.dr (de_ix (DE.dr (de_var 4)) (DE.dr de_int)))) (da_cons (de_ix (DE.dr (de_var 4)) (DE.dr de_int)) da_nil)) (lq_cons (lq_cons lq_nil))) da_nil)) (lq_cons (lq_cons lq_nil))))))) (ds_one (ds_asg 3 sc_rate_at.nd (de_add (DE.dr (de_var 3)) (DE.dr (de_ix (DE.dr (de_var 4)) (DE.dr de_int)))))) ds_nil)))))
      (ds_one (ds_ret (de_var 3))))))
theorem ok_level (t : T w K mg) : FnD P w K mg base 3 t.a_level t.fd_level ["spans", "gap", "length"] M_level := fn_mk t.F_level sc_level rfl fun cdv A outer s H E hr =>
    ((ds_cons (ds_asg 3 sc_level.nd (de_call (ok_room_of t) hr (by decide) t.g_room_of t.F_room_of.kp t.b_room_of (da_cons (de_var 0) (da_cons (de_var 1) (da_cons (de_var 2) da_nil))) (lq_cons (lq_cons (lq_cons lq_nil)))))
      (ds_cons (ds_asg 4 sc_level.nd (de_call (ok_is_enough t) hr (by decide) t.g_is_enough t.F_is_enough.kp t.b_is_enough (da_cons (de_var 0) (da_cons (de_var 3) da_nil)) (lq_cons (lq_cons lq_nil))))
      (ds_cons (ds_asg 5 sc_level.nd (de_abs t.m_abs (DE.dr (de_sub (DE.dr (de_var 3)) (DE.dr (de_sum rfl t.m_sum (DN.dr (dn_lc [("span", 13)] rfl sc_level.nd (dir_any (DE.dr (de_var 0))) (blkOk_by (N := N_level) (sc := defScope s_level) (by decide +kernel)) (fun _ _ _ _ _ => (dg_name 13 sc_level.nd)) (fun _ _ _ _ _ => dts_nil) (fun _ _ _ _ _ => (de_ix (DE.dr (de_var 13)) (DE.dr de_int)))))))))))
      (ds_cons (ds_asg 6 sc_level.nd (de_tup (da_cons de_int (da_cons de_int da_nil)) (ln_big (ln_cons (ln_cons ln_nil)))))
      (ds_cons (ds_asg 7 sc_level.nd (de_tup (da_cons de_int (da_cons de_int da_nil)) (ln_big (ln_cons (ln_cons ln_nil)))))
      (ds_cons (ds_for PassesOwn.never rfl (di_any (de_add (DE.dr (de_call (ok_stops t) hr (by decide) t.g_stops t.F_stops.kp t.b_stops (da_cons (de_var 0) (da_cons (de_var 4) da_nil)) (lq_cons (lq_cons lq_nil)))) (DN.dr (dn_lst (da_cons de_non da_nil) (ln_big (ln_cons ln_nil)))))) (dg_name 8 sc_level.nd) (ds_cons (ds_asg 9 sc_level.nd (de_call (ok_rate_at t) hr (by decide) t.g_rate_at t.F_rate_at.kp t.b_rate_at (da_cons (de_var 0) (da_cons (de_var 4) (da_cons (de_var 6) da_nil))) (lq_cons (lq_cons (lq_cons lq_nil)))))
      (ds_cons (ds_asg 10 sc_level.nd (de_call (ok_plus t) hr (by decide) t.g_plus t.F_plus.kp t.b_plus (da_cons (de_tup (da_cons (de_var 5) (da_cons de_int da_nil)) (ln_big (ln_cons (ln_cons ln_nil)))) (da_cons (de_tup (da_cons (de_sub (DE.dr de_int) (DE.dr (de_ix (DE.dr (de_var 7)) (DE.dr de_int)))) (da_cons (de_ix (DE.dr (de_var 7)) (DE.dr de_int)) da_nil)) (ln_big (ln_cons (ln_cons ln_nil)))) da_nil)) (lq_cons (lq_cons lq_nil))))
      (ds_cons (ds_if (dt_cmp (op_eqD hr.units) od_eq (DE.dr (de_ix (DE.dr (de_var 10)) (DE.dr de_int))) (DE.dr de_int) (nomark _)) (ds_one (ds_ret (de_var 6))) ds_nil)
      (ds_cons (ds_if (dt_cmp op_gt od_gt (DE.dr (de_var 9)) (DE.dr de_int) (nomark _)) (ds_cons (ds_asg 11 sc_level.nd (de_call (ok_plus t) hr (by decide) t.g_plus t.F_plus.kp t.b_plus (da_cons (de_var 6) (da_cons (de_call (ok_plain t) hr (by decide) t.g_plain t.F_plain.kp t.b_plain (da_cons (de_ix (DE.dr (de_var 10)) (DE.dr de_int)) (da_cons (de_mul (DE.dr (de_ix (DE.dr (de_var 10)) (DE.dr de_int))) (DE.dr (de_var 9))) da_nil)) (lq_cons (lq_cons lq_nil))) da_nil)) (lq_cons (lq_cons lq_nil))))
      (ds_one (ds_if (DW.dt (dw_or (dt_isN (DE.dr (de_var 8))) (dw_or1 (dt_not (dt_val (de_call (ok_is_less t) hr (by decide) t.g_is_less t.F_is_less.kp t.b_is_less (da_cons (de_var 8) (da_cons (de_var 11) da_nil)) (lq_cons (lq_cons lq_nil)))))))) (ds_one (ds_ret (de_var 11))) ds_nil))) ds_nil)
      (ds_one (ds_if (dt_notN (DE.dr (de_var 8))) (ds_cons (ds_asg 12 sc_level.nd (de_call (ok_plus t) hr (by decide) t.g_plus t.F_plus.kp t.b_plus (da_cons (de_var 8) (da_cons (de_tup (da_cons (de_sub (DE.dr de_int) (DE.dr (de_ix (DE.dr (de_var 6)) (DE.dr de_int)))) (da_cons (de_ix (DE.dr (de_var 6)) (DE.dr de_int)) da_nil)) (ln_big (ln_cons (ln_cons ln_nil)))) da_nil)) (lq_cons (lq_cons lq_nil))))
      (ds_cons (ds_asg 7 sc_level.nd (de_call (ok_plus t) hr (by decide) t.g_plus t.F_plus.kp t.b_plus (da_cons (de_var 7) (da_cons (de_call (ok_plain t) hr (by decide) t.g_plain t.F_plain.kp t.b_plain (da_cons (de_mul (DE.dr (de_ix (DE.dr (de_var 12)) (DE.dr de_int))) (DE.dr (de_var 9))) (da_cons (de_ix (DE.dr (de_var 12)) (DE.dr de_int)) da_nil)) (lq_cons (lq_cons lq_nil))) da_nil)) (lq_cons (lq_cons lq_nil))))
      (ds_one (ds_asg 6 sc_level.nd (de_var 8))))) ds_nil)))))))
      (ds_one (ds_ret de_non)))))))))
theorem ok_shares (t : T w K mg) : FnD P w K mg base 4 t.a_shares t.fd_shares ["spans", "gap", "length"] M_shares := fn_mk t.F_shares sc_shares rfl fun cdv A outer s H E hr =>
    ((ds_cons (ds_asg 3 sc_shares.nd (de_call (ok_level t) hr (by decide) t.g_level t.F_level.kp t.b_level (da_cons (de_var 0) (da_cons (de_var 1) (da_cons (de_var 2) da_nil))) (lq_cons (lq_cons (lq_cons lq_nil)))))
      (ds_cons (ds_asg 4 sc_shares.nd (de_call (ok_is_enough t) hr (by decide) t.g_is_enough t.F_is_enough.kp t.b_is_enough (da_cons (de_var 0) (da_cons (de_call (ok_room_of t) hr (by decide) t.g_room_of t.F_room_of.kp t.b_room_of (da_cons (de_var 0) (da_cons (de_var 1) (da_cons (de_var 2) da_nil))) (lq_cons (lq_cons (lq_cons lq_nil)))) da_nil)) (lq_cons (lq_cons lq_nil))))
      (ds_cons (ds_if (dt_isN (DE.dr (de_var 3))) (ds_one (ds_ret (de_tuple t.m_tuple (DN.dr (dn_lc [("span", 5)] rfl sc_shares.nd (dir_any (DE.dr (de_var 0))) (blkOk_by (N := N_shares) (sc := defScope s_shares) (by decide +kernel)) (fun _ _ _ _ _ => (dg_name 5 sc_shares.nd)) (fun _ _ _ _ _ => dts_nil) (fun _ _ _ _ _ => (de_tup (da_cons (de_ix (DN.dr (dn_lst (da_cons (de_call (ok_low_of t) hr (by decide) t.g_low_of t.F_low_of.kp t.b_low_of (da_cons (de_var 5) da_nil) (lq_cons lq_nil)) (da_cons (de_call (ok_top_of t) hr (by decide) t.g_top_of t.F_top_of.kp t.b_top_of (da_cons (de_var 5) da_nil) (lq_cons lq_nil)) da_nil)) (ln_big (ln_cons (ln_cons ln_nil))))) (DE.dr (de_toint t.m_int (DE.dr (de_var 4))))) (da_cons de_int da_nil)) (ln_big (ln_cons (ln_cons ln_nil)))))))))) ds_nil)
      (ds_cons (ds_if (dt_val (de_var 4)) (ds_one (ds_ret (de_tuple t.m_tuple (DN.dr (dn_lc [("span", 5)] rfl sc_shares.nd (dir_any (DE.dr (de_var 0))) (blkOk_by (N := N_shares) (sc := defScope s_shares) (by decide +kernel)) (fun _ _ _ _ _ => (dg_name 5 sc_shares.nd)) (fun _ _ _ _ _ => dts_nil) (fun _ _ _ _ _ => (de_call (ok_grown t) hr (by decide) t.g_grown t.F_grown.kp t.b_grown (da_cons (de_var 5) (da_cons (de_var 3) da_nil)) (lq_cons (lq_cons lq_nil))))))))) ds_nil)
      (ds_one (ds_ret (de_tuple t.m_tuple (DN.dr (dn_lc [("span", 5)] rfl sc_shares.nd (dir_any (DE.dr (de_var 0))) (blkOk_by (N := N_shares) (sc := defScope s_shares) (by decide +kernel)) (fun _ _ _ _ _ => (dg_name 5 sc_shares.nd)) (fun _ _ _ _ _ => dts_nil) (fun _ _ _ _ _ => (de_call (ok_shrunk t) hr (by decide) t.g_shrunk t.F_shrunk.kp t.b_shrunk (da_cons (de_var 5) (da_cons (de_var 3) da_nil)) (lq_cons (lq_cons lq_nil))))))))))))))
theorem ok_lengths (t : T w K mg) : FnD P w K mg base 5 t.a_lengths t.fd_lengths ["spans", "gap", "length"] M_lengths := fn_mk t.F_lengths sc_lengths rfl fun cdv A outer s H E hr =>
    ((ds_cons (ds_new 3 sc_lengths.nd (dn_lst da_nil (ln_big ln_nil)))
      (ds_cons (ds_asg 4 sc_lengths.nd (de_tup (da_cons de_int (da_cons de_int da_nil)) (ln_big (ln_cons (ln_cons ln_nil)))))
      (ds_cons (ds_for PassesOwn.never rfl (di_any (de_call (ok_shares t) hr (by decide) t.g_shares t.F_shares.kp t.b_shares (da_cons (de_var 0) (da_cons (de_var 1) (da_cons (de_var 2) da_nil))) (lq_cons (lq_cons (lq_cons lq_nil))))) (dg_name 5 sc_lengths.nd) (ds_cons (ds_asg 6 sc_lengths.nd (de_call (ok_plus t) hr (by decide) t.g_plus t.F_plus.kp t.b_plus (da_cons (de_var 4) (da_cons (de_var 5) da_nil)) (lq_cons (lq_cons lq_nil))))
      (ds_cons (ds_app 3 (de_sub (DE.dr (de_fdiv (DE.dr (de_ix (DE.dr (de_var 6)) (DE.dr de_int))) (DE.dr (de_ix (DE.dr (de_var 6)) (DE.dr de_int))))) (DE.dr (de_fdiv (DE.dr (de_ix (DE.dr (de_var 4)) (DE.dr de_int))) (DE.dr (de_ix (DE.dr (de_var 4)) (DE.dr de_int)))))))
      (ds_one (ds_asg 4 sc_lengths.nd (de_var 6))))))
      (ds_one (ds_ret (de_tuple t.m_tuple (dr_var 3))))))))
theorem ok_taken (t : T w K mg) : FnD P w K mg base 16 t.a_taken t.fd_taken ["box", "axis", "room"] M_taken := fn_mk t.F_taken sc_taken rfl fun cdv A outer s H E hr =>
    ((ds_cons (ds_asg 3 sc_taken.nd (de_call (ok_span_of t 12) hr (by decide) t.g_span_of t.F_span_of.kp t.b_span_of (da_cons (de_var 0) (da_cons (de_var 1) da_nil)) (lq_cons (lq_cons lq_nil))))
      (ds_cons (ds_if (dt_notN (DE.dr (de_call (ok_top_of t) hr (by decide) t.g_top_of t.F_top_of.kp t.b_top_of (da_cons (de_var 3) da_nil) (lq_cons lq_nil)))) (ds_one (ds_asg 2 sc_taken.nd (de_min2 rfl t.m_min (DE.dr (de_var 2)) (DE.dr (de_call (ok_top_of t) hr (by decide) t.g_top_of t.F_top_of.kp t.b_top_of (da_cons (de_var 3) da_nil) (lq_cons lq_nil)))))) ds_nil)
      (ds_one (ds_ret (de_max2 rfl t.m_max (DE.dr (de_var 2)) (DE.dr (de_call (ok_low_of t) hr (by decide) t.g_low_of t.F_low_of.kp t.b_low_of (da_cons (de_var 3) da_nil) (lq_cons lq_nil)))))))))
theorem ok_inner_lines (t : T w K mg) : FnD P w K mg base 17 t.a_inner_lines t.fd_inner_lines ["box", "axis", "begin", "length"] M_inner_lines := fn_mk t.F_inner_lines sc_inner_lines rfl fun cdv A outer s H E hr =>
    ((ds_cons (ds_asg 4 sc_inner_lines.nd (de_call (ok_boxes_in t) hr (by decide) t.g_boxes_in t.F_boxes_in.kp t.b_boxes_in (da_cons (de_var 0) da_nil) (lq_cons lq_nil)))
      (ds_cons (ds_if (dt_cmp (op_eqD hr.units) od_eq (DE.dr (de_ix (DE.dr (de_var 0)) (DE.dr de_int))) (DE.dr de_str) (nomark _)) (ds_cons (ds_asg 7 sc_inner_lines.nd (de_call (ok_rims_of t) hr (by decide) t.g_rims_of t.F_rims_of.kp t.b_rims_of (da_cons (de_var 0) (da_cons (de_var 1) da_nil)) (lq_cons (lq_cons lq_nil))))
      (ds_one (ds_ret (DN.de (dn_lst (da_cons (de_tup (da_cons (de_add (DE.dr (de_var 2)) (DE.dr (de_ix (DE.dr (de_var 7)) (DE.dr de_int)))) (da_cons (de_call (ok_taken t) hr (by decide) t.g_taken t.F_taken.kp t.b_taken (da_cons (de_ix (DE.dr (de_var 4)) (DE.dr de_int)) (da_cons (de_var 1) (da_cons (de_max2 rfl t.m_max (DE.dr de_int) (DE.dr (de_sub (DE.dr (de_var 3)) (DE.dr (de_sum rfl t.m_sum (DE.dr (de_var 7))))))) da_nil))) (lq_cons (lq_cons (lq_cons lq_nil)))) da_nil)) (ln_big (ln_cons (ln_cons ln_nil)))) da_nil) (ln_big (ln_cons ln_nil))))))) ds_nil)
      (ds_cons (ds_if (DW.dt (dw_or (dt_gnin t.c_MAIN t.d_MAIN (de_ix (DE.dr (de_var 0)) (DE.dr de_int))) (dw_or1 (dt_cmp (op_neD hr.units) od_ne (DE.dr (de_gdix t.c_MAIN t.d_MAIN hr (de_ix (DE.dr (de_var 0)) (DE.dr de_int)))) (DE.dr (de_var 1)) (nomark _))))) (ds_one (ds_ret (DN.de (dn_lc [("part", 8)] rfl sc_inner_lines.nd (dir_any (DE.dr (de_var 4))) (blkOk_by (N := N_inner_lines) (sc := defScope s_inner_lines) (by decide +kernel)) (fun _ _ _ _ _ => (dg_name 8 sc_inner_lines.nd)) (fun _ _ _ _ _ => dts_nil) (fun _ _ _ _ _ => (de_tup (da_cons (de_var 2) (da_cons (de_call (ok_taken t) hr (by decide) t.g_taken t.F_taken.kp t.b_taken (da_cons (de_var 8) (da_cons (de_var 1) (da_cons (de_var 3) da_nil))) (lq_cons (lq_cons (lq_cons lq_nil)))) da_nil)) (ln_big (ln_cons (ln_cons ln_nil))))))))) ds_nil)
      (ds_cons (ds_new 5 sc_inner_lines.nd (dn_lst da_nil (ln_big ln_nil)))
      (ds_cons (ds_for PassesOwn.never rfl (di_any (de_call (ok_lengths t) hr (by decide) t.g_lengths t.F_lengths.kp t.b_lengths (da_cons (DN.de (dn_lc [("part", 8)] rfl sc_inner_lines.nd (dir_any (DE.dr (de_var 4))) (blkOk_by (N := N_inner_lines) (sc := defScope s_inner_lines) (by decide +kernel)) (fun _ _ _ _ _ => (dg_name 8 sc_inner_lines.nd)) (fun _ _ _ _ _ => dts_nil) (fun _ _ _ _ _ => (de_call (ok_span_of t 12) hr (by decide) t.g_span_of t.F_span_of.kp t.b_span_of (da_cons (de_var 8) (da_cons (de_var 1) da_nil)) (lq_cons (lq_cons lq_nil)))))) (da_cons (de_ix (DE.dr (de_var 0)) (DE.dr de_int)) (da_cons (de_var 3) da_nil))) (lq_cons (lq_cons (lq_cons lq_nil))))) (dg_name 6 sc_inner_lines.nd) (ds_cons (ds_app 5 (de_tup (da_cons (de_var 2) (da_cons (de_var 6) da_nil)) (ln_big (ln_cons (ln_cons ln_nil)))))
      (ds_one (ds_asg 2 sc_inner_lines.nd (de_add (DE.dr (de_add (DE.dr (de_var 2)) (DE.dr (de_var 6)))) (DE.dr (de_ix (DE.dr (de_var 0)) (DE.dr de_int))))))))
      (ds_one (ds_frz 5 (ds_ret (de_var 5))))))))))
theorem ok_placed (t : T w K mg) : ∀ n, FnD P w K mg base (17 + n) t.a_placed t.fd_placed ["box", "left", "upper", "wide", "high"] (M_placed n)
  | 0 => fn_none
  | n + 1 => fn_mk t.F_placed sc_placed rfl fun cdv A outer s H E hr => have ih_placed := ok_placed t n
    ((ds_cons (ds_new 5 sc_placed.nd (dn_lst (da_cons (de_tup (da_cons (de_ix (DE.dr (de_var 0)) (DE.dr de_int)) (da_cons (de_var 1) (da_cons (de_var 2) (da_cons (de_var 3) (da_cons (de_var 4) da_nil))))) (ln_big (ln_cons (ln_cons (ln_cons (ln_cons (ln_cons ln_nil))))))) da_nil) (ln_big (ln_cons ln_nil))))
      (ds_cons (ds_if (dt_cmp (op_eqD hr.units) od_eq (DE.dr (de_ix (DE.dr (de_var 0)) (DE.dr de_int))) (DE.dr de_str) (nomark _)) (ds_one (ds_frz 5 (ds_ret (de_var 5)))) ds_nil)
      (ds_cons (ds_asg 6 sc_placed.nd (de_call (ok_inner_lines t) hr (lev_le (b := 17) (n := n) (by decide)) t.g_inner_lines t.F_inner_lines.kp t.b_inner_lines (da_cons (de_var 0) (da_cons de_str (da_cons (de_var 1) (da_cons (de_var 3) da_nil)))) (lq_cons (lq_cons (lq_cons (lq_cons lq_nil))))))
      (ds_cons (ds_asg 7 sc_placed.nd (de_call (ok_inner_lines t) hr (lev_le (b := 17) (n := n) (by decide)) t.g_inner_lines t.F_inner_lines.kp t.b_inner_lines (da_cons (de_var 0) (da_cons de_str (da_cons (de_var 2) (da_cons (de_var 4) da_nil)))) (lq_cons (lq_cons (lq_cons (lq_cons lq_nil))))))
      (ds_cons (ds_for PassesOwn.never rfl (di_zip3 t.m_zip rfl (de_call (ok_boxes_in t) hr (lev_le (b := 17) (n := n) (by decide)) t.g_boxes_in t.F_boxes_in.kp t.b_boxes_in (da_cons (de_var 0) da_nil) (lq_cons lq_nil)) (de_var 6) (de_var 7)) (dg_tup rfl (dgs_cons (dg_name 8 sc_placed.nd) (dgs_cons (dg_name 9 sc_placed.nd) (dgs_cons (dg_name 10 sc_placed.nd) dgs_nil)))) (ds_one (ds_ext 5 (de_call ih_placed hr (Nat.le_refl _) t.g_placed t.F_placed.kp t.b_placed (da_cons (de_var 8) (da_cons (de_ix (DE.dr (de_var 9)) (DE.dr de_int)) (da_cons (de_ix (DE.dr (de_var 10)) (DE.dr de_int)) (da_cons (de_ix (DE.dr (de_var 9)) (DE.dr de_int)) (da_cons (de_ix (DE.dr (de_var 10)) (DE.dr de_int)) da_nil))))) (lq_cons (lq_cons (lq_cons (lq_cons (lq_cons lq_nil)))))))))
      (ds_one (ds_frz 5 (ds_ret (de_var 5))))))))))
theorem ok_places (t : T w K mg) : FnD P w K mg base 30 t.a_places t.fd_places ["box", "wide", "high"] M_places := fn_mk t.F_places sc_places rfl fun cdv A outer s H E hr =>
    ((ds_one (ds_ret (de_tuple t.m_tuple (DE.dr (de_call (ok_placed t 12) hr (by decide) t.g_placed t.F_placed.kp t.b_placed (da_cons (de_var 0) (da_cons de_int (da_cons de_int (da_cons (de_var 1) (da_cons (de_var 2) da_nil))))) (lq_cons (lq_cons (lq_cons (lq_cons (lq_cons lq_nil)))))))))))
theorem ok_touched (t : T w K mg) : FnD P w K mg base 31 t.a_touched t.fd_touched ["box", "wide", "high", "x", "y"] M_touched := fn_mk t.F_touched sc_touched rfl fun cdv A outer s H E hr =>
    ((ds_cons (ds_new 5 sc_touched.nd (dn_lst da_nil (ln_big ln_nil)))
      (ds_cons (ds_for PassesOwn.never rfl (di_any (de_call (ok_places t) hr (by decide) t.g_places t.F_places.kp t.b_places (da_cons (de_var 0) (da_cons (de_var 1) (da_cons (de_var 2) da_nil))) (lq_cons (lq_cons (lq_cons lq_nil))))) (dg_tup rfl (dgs_cons (dg_name 6 sc_touched.nd) (dgs_cons (dg_name 7 sc_touched.nd) (dgs_cons (dg_name 8 sc_touched.nd) (dgs_cons (dg_name 9 sc_touched.nd) (dgs_cons (dg_name 10 sc_touched.nd) dgs_nil)))))) (ds_one (ds_if (DW.dt (dw_and (dt_chain op_leA od_le op_lt od_lt (DE.dr (de_var 7)) (DE.dr (de_var 3)) (DE.dr (de_add (DE.dr (de_var 7)) (DE.dr (de_var 9))))) (dw_and1 (dt_chain op_leA od_le op_lt od_lt (DE.dr (de_var 8)) (DE.dr (de_var 4)) (DE.dr (de_add (DE.dr (de_var 8)) (DE.dr (de_var 10)))))))) (ds_one (ds_app 5 (de_var 6))) ds_nil)))
      (ds_one (ds_ret (de_tuple t.m_tuple (dr_var 5)))))))
theorem ok_is_within (t : T w K mg) : ∀ n, FnD P w K mg base (17 + n) t.a_is_within t.fd_is_within ["box", "axis", "begin", "length"] (M_is_within n)
  | 0 => fn_none
  | n + 1 => fn_mk t.F_is_within sc_is_within rfl fun cdv A outer s H E hr => have ih_is_within := ok_is_within t n
    ((ds_cons (ds_asg 4 sc_is_within.nd (de_tup (da_cons de_int (da_cons de_int da_nil)) (ln_big (ln_cons (ln_cons ln_nil)))))
      (ds_cons (ds_if (dt_cmp (op_eqD hr.units) od_eq (DE.dr (de_ix (DE.dr (de_var 0)) (DE.dr de_int))) (DE.dr de_str) (nomark _)) (ds_one (ds_asg 4 sc_is_within.nd (de_call (ok_rims_of t) hr (lev_le (b := 17) (n := n) (by decide)) t.g_rims_of t.F_rims_of.kp t.b_rims_of (da_cons (de_var 0) (da_cons (de_var 1) da_nil)) (lq_cons (lq_cons lq_nil))))) ds_nil)
      (ds_cons (ds_if (dt_cmp (op_eqD hr.units) od_eq (DE.dr (de_ix (DE.dr (de_var 0)) (DE.dr de_int))) (DE.dr de_str) (nomark _)) (ds_one (ds_ret de_bl)) ds_nil)
      (ds_cons (ds_for PassesOwn.never rfl (di_zip2 t.m_zip rfl (de_call (ok_boxes_in t) hr (lev_le (b := 17) (n := n) (by decide)) t.g_boxes_in t.F_boxes_in.kp t.b_boxes_in (da_cons (de_var 0) da_nil) (lq_cons lq_nil)) (de_call (ok_inner_lines t) hr (lev_le (b := 17) (n := n) (by decide)) t.g_inner_lines t.F_inner_lines.kp t.b_inner_lines (da_cons (de_var 0) (da_cons (de_var 1) (da_cons (de_var 2) (da_cons (de_var 3) da_nil)))) (lq_cons (lq_cons (lq_cons (lq_cons lq_nil)))))) (dg_tup rfl (dgs_cons (dg_name 5 sc_is_within.nd) (dgs_cons (dg_name 6 sc_is_within.nd) dgs_nil))) (ds_cons (ds_if (DW.dt (dw_or (dt_cmp op_lt od_lt (DE.dr (de_ix (DE.dr (de_var 6)) (DE.dr de_int))) (DE.dr (de_add (DE.dr (de_var 2)) (DE.dr (de_ix (DE.dr (de_var 4)) (DE.dr de_int))))) (nomark _)) (dw_or1 (dt_cmp op_gt od_gt (DE.dr (de_add (DE.dr (de_ix (DE.dr (de_var 6)) (DE.dr de_int))) (DE.dr (de_ix (DE.dr (de_var 6)) (DE.dr de_int))))) (DE.dr (de_sub (DE.dr (de_add (DE.dr (de_var 2)) (DE.dr (de_var 3)))) (DE.dr (de_ix (DE.dr (de_var 4)) (DE.dr de_int))))) (nomark _))))) (ds_one (ds_ret de_bl)) ds_nil)
      (ds_one (ds_if (dt_not (dt_val (de_call ih_is_within hr (Nat.le_refl _) t.g_is_within t.F_is_within.kp t.b_is_within (da_cons (de_var 5) (da_cons (de_var 1) (da_cons (de_ix (DE.dr (de_var 6)) (DE.dr de_int)) (da_cons (de_ix (DE.dr (de_var 6)) (DE.dr de_int)) da_nil)))) (lq_cons (lq_cons (lq_cons (lq_cons lq_nil))))))) (ds_one (ds_ret de_bl)) ds_nil))))
      (ds_one (ds_ret de_bl)))))))
theorem ok_fits (t : T w K mg) : FnD P w K mg base 30 t.a_fits t.fd_fits ["box", "wide", "high"] M_fits := fn_mk t.F_fits sc_fits rfl fun cdv A outer s H E hr =>
    ((ds_one (ds_ret (de_and (de_call (ok_is_within t 12) hr (by decide) t.g_is_within t.F_is_within.kp t.b_is_within (da_cons (de_var 0) (da_cons de_str (da_cons de_int (da_cons (de_var 1) da_nil)))) (lq_cons (lq_cons (lq_cons (lq_cons lq_nil))))) (de_one (de_call (ok_is_within t 12) hr (by decide) t.g_is_within t.F_is_within.kp t.b_is_within (da_cons (de_var 0) (da_cons de_str (da_cons de_int (da_cons (de_var 2) da_nil)))) (lq_cons (lq_cons (lq_cons (lq_cons lq_nil))))))))))
theorem ok_needs (t : T w K mg) : FnD P w K mg base 16 t.a_needs t.fd_needs ["box"] M_needs := fn_mk t.F_needs sc_needs rfl fun cdv A outer s H E hr =>
    ((ds_one (ds_ret (de_tuple t.m_tuple (DN.dr (dn_lc [("axis", 1)] rfl sc_needs.nd (dir_any (DE.dr (de_gtup (by rfl) t.c_AXES t.s_AXES))) (blkOk_by (N := N_needs) (sc := defScope s_needs) (by decide +kernel)) (fun _ _ _ _ _ => (dg_name 1 sc_needs.nd)) (fun _ _ _ _ _ => dts_nil) (fun _ _ _ _ _ => (de_call (ok_low_of t) hr (by decide) t.g_low_of t.F_low_of.kp t.b_low_of (da_cons (de_call (ok_span_of t 12) hr (by decide) t.g_span_of t.F_span_of.kp t.b_span_of (da_cons (de_var 0) (da_cons (de_var 1) da_nil)) (lq_cons (lq_cons lq_nil))) da_nil) (lq_cons lq_nil)))))))))
theorem ok_with_leaf (t : T w K mg) : ∀ n, FnD P w K mg base (1 + n) t.a_with_leaf t.fd_with_leaf ["box", "name", "wide", "high"] (M_with_leaf n)
  | 0 => fn_none
  | n + 1 => fn_mk t.F_with_leaf sc_with_leaf rfl fun cdv A outer s H E hr => have ih_with_leaf := ok_with_leaf t n
    ((ds_cons (ds_if (DW.dt (dw_and (dt_cmp (op_eqD hr.units) od_eq (DE.dr (de_ix (DE.dr (de_var 0)) (DE.dr de_int))) (DE.dr de_str) (nomark _)) (dw_and1 (dt_cmp (op_eqD hr.units) od_eq (DE.dr (de_ix (DE.dr (de_var 0)) (DE.dr de_int))) (DE.dr (de_var 1)) (nomark _))))) (ds_one (ds_ret (de_tup (da_cons de_str (da_cons (de_var 1) (da_cons (de_var 2) (da_cons (de_var 3) da_nil)))) (ln_big (ln_cons (ln_cons (ln_cons (ln_cons ln_nil)))))))) ds_nil)
      (ds_one (ds_ret (de_call (ok_with_boxes t) hr (lev_le (b := 1) (n := n) (by decide)) t.g_with_boxes t.F_with_boxes.kp t.b_with_boxes (da_cons (de_var 0) (da_cons (DN.de (dn_lc [("part", 4)] rfl sc_with_leaf.nd (dir_any (DE.dr (de_call (ok_boxes_in t) hr (lev_le (b := 1) (n := n) (by decide)) t.g_boxes_in t.F_boxes_in.kp t.b_boxes_in (da_cons (de_var 0) da_nil) (lq_cons lq_nil)))) (blkOk_by (N := N_with_leaf) (sc := defScope s_with_leaf) (by decide +kernel)) (fun _ _ _ _ _ => (dg_name 4 sc_with_leaf.nd)) (fun _ _ _ _ _ => dts_nil) (fun _ _ _ _ _ => (de_call ih_with_leaf hr (Nat.le_refl _) t.g_with_leaf t.F_with_leaf.kp t.b_with_leaf (da_cons (de_var 4) (da_cons (de_var 1) (da_cons (de_var 2) (da_cons (de_var 3) da_nil)))) (lq_cons (lq_cons (lq_cons (lq_cons lq_nil)))))))) da_nil)) (lq_cons (lq_cons lq_nil)))))))
theorem ok_changed (t : T w K mg) : FnD P w K mg base 31 t.a_changed t.fd_changed ["box", "other", "wide", "high"] M_changed := fn_mk t.F_changed sc_changed rfl fun cdv A outer s H E hr =>
    ((ds_cons (ds_new 4 sc_changed.nd (dn_lst da_nil (ln_big ln_nil)))
      (ds_cons (ds_for PassesOwn.never rfl (di_zip2 t.m_zip rfl (de_call (ok_places t) hr (by decide) t.g_places t.F_places.kp t.b_places (da_cons (de_var 0) (da_cons (de_var 2) (da_cons (de_var 3) da_nil))) (lq_cons (lq_cons (lq_cons lq_nil)))) (de_call (ok_places t) hr (by decide) t.g_places t.F_places.kp t.b_places (da_cons (de_var 1) (da_cons (de_var 2) (da_cons (de_var 3) da_nil))) (lq_cons (lq_cons (lq_cons lq_nil))))) (dg_tup rfl (dgs_cons (dg_name 5 sc_changed.nd) (dgs_cons (dg_name 6 sc_changed.nd) dgs_nil))) (ds_one (ds_for PassesOwn.never rfl (di_enum t.m_enumerate rfl (de_gtup (by rfl) t.c_AXES t.s_AXES)) (dg_tup rfl (dgs_cons (dg_name 7 sc_changed.nd) (dgs_cons (dg_name 8 sc_changed.nd) dgs_nil))) (ds_one (ds_if (dt_cmp (op_neD hr.units) od_ne (DE.dr (de_sliceS (DE.dr (de_var 5)) (do_some (de_add (DE.dr de_int) (DE.dr (de_var 7)))) do_none (do_some de_int))) (DE.dr (de_sliceS (DE.dr (de_var 6)) (do_some (de_add (DE.dr de_int) (DE.dr (de_var 7)))) do_none (do_some de_int))) (nomark _)) (ds_one (ds_app 4 (de_tup (da_cons (de_ix (DE.dr (de_var 5)) (DE.dr de_int)) (da_cons (de_var 8) da_nil)) (ln_big (ln_cons (ln_cons ln_nil)))))) ds_nil)))))
      (ds_one (ds_ret (de_tuple t.m_tuple (DN.dr (dn_sorted t.m_sorted (dr_var 4)))))))))
theorem ok_may_change (t : T w K mg) : FnD P w K mg base 14 t.a_may_change t.fd_may_change ["box", "name"] M_may_change := fn_mk t.F_may_change sc_may_change rfl fun cdv A outer s H E hr =>
    ((ds_cons (ds_new 2 sc_may_change.nd (dn_lst da_nil (ln_big ln_nil)))
      (ds_cons (ds_for PassesOwn.never rfl (di_any (de_call (ok_boxes_in t) hr (by decide) t.g_boxes_in t.F_boxes_in.kp t.b_boxes_in (da_cons (de_var 0) da_nil) (lq_cons lq_nil))) (dg_name 3 sc_may_change.nd) (ds_cons (ds_asg 4 sc_may_change.nd (de_call (ok_names_in t 12) hr (by decide) t.g_names_in t.F_names_in.kp t.b_names_in (da_cons (de_var 3) da_nil) (lq_cons lq_nil)))
      (ds_one (ds_for PassesOwn.never rfl (di_any (de_gtup (by rfl) t.c_AXES t.s_AXES)) (dg_name 5 sc_may_change.nd) (ds_one (ds_if (DW.dt (dw_or (dt_cmp (op_inA hr.units) od_in (DE.dr (de_var 1)) (DE.dr (de_var 4)) (by rfl)) (dw_or1 (dt_cmp (op_eqD hr.units) od_eq (DE.dr (de_gget t.c_MAIN t.d_MAIN hr (de_ix (DE.dr (de_var 0)) (DE.dr de_int)) de_str)) (DE.dr (de_var 5)) (nomark _))))) (ds_one (ds_ext 2 (DN.de (dn_lc [("one", 6)] rfl sc_may_change.nd (dir_any (DE.dr (de_var 4))) (blkOk_by (N := N_may_change) (sc := defScope s_may_change) (by decide +kernel)) (fun _ _ _ _ _ => (dg_name 6 sc_may_change.nd)) (fun _ _ _ _ _ => dts_nil) (fun _ _ _ _ _ => (de_tup (da_cons (de_var 6) (da_cons (de_var 5) da_nil)) (ln_big (ln_cons (ln_cons ln_nil))))))))) ds_nil))))))
      (ds_one (ds_ret (de_tuple t.m_tuple (DN.dr (dn_sorted t.m_sorted (dr_var 2)))))))))
theorem ok_turned (t : T w K mg) : ∀ n, FnD P w K mg base (1 + n) t.a_turned t.fd_turned ["box"] (M_turned n)
  | 0 => fn_none
  | n + 1 => fn_mk t.F_turned sc_turned rfl fun cdv A outer s H E hr => have ih_turned := ok_turned t n
    ((ds_cons (ds_lc 1 [("part", 3)] rfl sc_turned.nd (dir_any (DE.dr (de_call (ok_boxes_in t) hr (lev_le (b := 1) (n := n) (by decide)) t.g_boxes_in t.F_boxes_in.kp t.b_boxes_in (da_cons (de_var 0) da_nil) (lq_cons lq_nil)))) (blkOk_by (N := N_turned) (sc := defScope s_turned) (by decide +kernel)) (fun _ _ _ _ _ => (dg_name 3 sc_turned.nd)) (fun _ _ _ _ _ => dts_nil) (fun _ _ _ _ _ => (de_call ih_turned hr (Nat.le_refl _) t.g_turned t.F_turned.kp t.b_turned (da_cons (de_var 3) da_nil) (lq_cons lq_nil))))
      (ds_cons (ds_if (dt_cmp (op_eqD hr.units) od_eq (DE.dr (de_ix (DE.dr (de_var 0)) (DE.dr de_int))) (DE.dr de_str) (nomark _)) (ds_one (ds_ret (de_tup (da_cons de_str (da_cons (de_ix (DE.dr (de_var 0)) (DE.dr de_int)) (da_cons (de_ix (DE.dr (de_var 0)) (DE.dr de_int)) (da_cons (de_ix (DE.dr (de_var 0)) (DE.dr de_int)) da_nil)))) (ln_big (ln_cons (ln_cons (ln_cons (ln_cons ln_nil)))))))) ds_nil)
      (ds_cons (ds_if (dt_cmp (op_eqD hr.units) od_eq (DE.dr (de_ix (DE.dr (de_var 0)) (DE.dr de_int))) (DE.dr de_str) (nomark _)) (ds_one (ds_ret (de_tup (da_cons de_str (da_cons (de_ix (DE.dr (de_var 0)) (DE.dr de_int)) (da_cons (de_ix (DE.dr (de_var 0)) (DE.dr de_int)) (da_cons (de_ix (DE.dr (de_var 0)) (DE.dr de_int)) (da_cons (de_ix (DE.dr (de_var 0)) (DE.dr de_int)) (da_cons (de_ix (DE.dr (de_var 0)) (DE.dr de_int)) (da_cons (de_ix (DE.dr (de_var 1)) (DE.dr de_int)) da_nil))))))) (ln_big (ln_cons (ln_cons (ln_cons (ln_cons (ln_cons (ln_cons (ln_cons ln_nil))))))))))) ds_nil)
      (ds_cons (ds_asg 2 sc_turned.nd (de_call (ok_with_boxes t) hr (lev_le (b := 1) (n := n) (by decide)) t.g_with_boxes t.F_with_boxes.kp t.b_with_boxes (da_cons (de_var 0) (da_cons (de_var 1) da_nil)) (lq_cons (lq_cons lq_nil))))
      (ds_one (ds_ret (de_add (DE.dr (de_tup (da_cons (de_gget t.c_OTHER t.d_OTHER hr (de_ix (DE.dr (de_var 0)) (DE.dr de_int)) (de_ix (DE.dr (de_var 0)) (DE.dr de_int))) da_nil) (ln_big (ln_cons ln_nil)))) (DE.dr (de_slice (DE.dr (de_var 2)) (do_some de_int) do_none))))))))))
theorem ok_Lcell_at (t : T w K mg) : FnD P w K mg base 1 t.a_Lcell_at t.fd_Lcell_at ["script", "k"] M_Lcell_at := fn_mk t.F_Lcell_at sc_Lcell_at rfl fun cdv A outer s H E hr =>
    ((ds_cons (ds_if (dt_cmp op_lt od_lt (DE.dr (de_var 1)) (DE.dr (de_len t.m_len (DE.dr (de_var 0)))) (nomark _)) (ds_one (ds_ret (de_ix (DE.dr (de_var 0)) (DE.dr (de_var 1))))) ds_nil)
      (ds_one (ds_ret de_int))))
theorem ok_Lmixed (t : T w K mg) : FnD P w K mg base 2 t.a_Lmixed t.fd_Lmixed ["script", "k"] M_Lmixed := fn_mk t.F_Lmixed sc_Lmixed rfl fun cdv A outer s H E hr =>
    ((ds_cons (ds_asg 2 sc_Lmixed.nd (de_mod (DE.dr (de_mul (DE.dr (de_add (DE.dr (de_add (DE.dr (de_call (ok_Lcell_at t) hr (by decide) t.g_Lcell_at t.F_Lcell_at.kp t.b_Lcell_at (da_cons (de_var 0) (da_cons (de_var 1) da_nil)) (lq_cons (lq_cons lq_nil)))) (DE.dr (de_mul (DE.dr de_int) (DE.dr (de_var 1)))))) (DE.dr de_int))) (DE.dr de_int))) (DE.dr de_int)))
      (ds_one (ds_ret (de_mod (DE.dr (de_add (DE.dr (de_add (DE.dr (de_mul (DE.dr (de_var 2)) (DE.dr (de_var 2)))) (DE.dr (de_mul (DE.dr de_int) (DE.dr (de_var 2)))))) (DE.dr (de_var 1)))) (DE.dr de_int))))))
theorem ok_Ldrawn (t : T w K mg) : FnD P w K mg base 1 t.a_Ldrawn t.fd_Ldrawn ["number", "k"] M_Ldrawn := fn_mk t.F_Ldrawn sc_Ldrawn rfl fun cdv A outer s H E hr =>
    ((ds_cons (ds_asg 2 sc_Ldrawn.nd (de_mod (DE.dr (de_mul (DE.dr (de_add (DE.dr (de_add (DE.dr (de_var 0)) (DE.dr (de_mul (DE.dr de_int) (DE.dr (de_var 1)))))) (DE.dr de_int))) (DE.dr de_int))) (DE.dr de_int)))
      (ds_one (ds_ret (de_mod (DE.dr (de_add (DE.dr (de_add (DE.dr (de_mul (DE.dr (de_var 2)) (DE.dr (de_var 2)))) (DE.dr (de_mul (DE.dr de_int) (DE.dr (de_var 2)))))) (DE.dr (de_var 1)))) (DE.dr de_int))))))
theorem ok_Lspan (t : T w K mg) : FnD P w K mg base 1 t.a_Lspan t.fd_Lspan ["number"] M_Lspan := fn_mk t.F_Lspan sc_Lspan rfl fun cdv A outer s H E hr =>
    ((ds_cons (ds_asg 1 sc_Lspan.nd (de_mod (DE.dr (de_var 0)) (DE.dr (de_ix (DE.dr (de_tup (da_cons de_int (da_cons de_int (da_cons de_int da_nil))) (ln_big (ln_cons (ln_cons (ln_cons ln_nil)))))) (DE.dr (de_mod (DE.dr (de_fdiv (DE.dr (de_var 0)) (DE.dr de_int))) (DE.dr de_int)))))))
      (ds_cons (ds_asg 2 sc_Lspan.nd (de_add (DE.dr (de_var 1)) (DE.dr (de_mod (DE.dr (de_fdiv (DE.dr (de_var 0)) (DE.dr de_int))) (DE.dr (de_ix (DE.dr (de_tup (da_cons de_int (da_cons de_int (da_cons de_int da_nil))) (ln_big (ln_cons (ln_cons (ln_cons ln_nil)))))) (DE.dr (de_mod (DE.dr (de_fdiv (DE.dr (de_var 0)) (DE.dr de_int))) (DE.dr de_int)))))))))
      (ds_cons (ds_asg 3 sc_Lspan.nd (de_ix (DN.dr (dn_lst (da_cons de_non (da_cons (de_add (DE.dr (de_var 2)) (DE.dr (de_mod (DE.dr (de_fdiv (DE.dr (de_var 0)) (DE.dr de_int))) (DE.dr de_int)))) (da_cons (de_var 2) (da_cons (de_add (DE.dr (de_var 2)) (DE.dr (de_mod (DE.dr (de_fdiv (DE.dr (de_var 0)) (DE.dr de_int))) (DE.dr de_int)))) da_nil)))) (ln_big (ln_cons (ln_cons (ln_cons (ln_cons ln_nil))))))) (DE.dr (de_mod (DE.dr (de_fdiv (DE.dr (de_var 0)) (DE.dr de_int))) (DE.dr de_int)))))
      (ds_one (ds_ret (de_tup (da_cons (de_var 1) (da_cons (de_var 2) (da_cons (de_var 3) (da_cons (de_ix (DE.dr (de_tup (da_cons de_int (da_cons de_int (da_cons de_int (da_cons de_int da_nil)))) (ln_big (ln_cons (ln_cons (ln_cons (ln_cons ln_nil))))))) (DE.dr (de_mod (DE.dr (de_fdiv (DE.dr (de_var 0)) (DE.dr de_int))) (DE.dr de_int)))) (da_cons (de_ix (DE.dr (de_tup (da_cons de_int (da_cons de_int (da_cons de_int (da_cons de_int da_nil)))) (ln_big (ln_cons (ln_cons (ln_cons (ln_cons ln_nil))))))) (DE.dr (de_mod (DE.dr (de_fdiv (DE.dr (de_var 0)) (DE.dr de_int))) (DE.dr de_int)))) da_nil))))) (ln_big (ln_cons (ln_cons (ln_cons (ln_cons (ln_cons ln_nil)))))))))))))
theorem ok_Lbox (t : T w K mg) : ∀ n, FnD P w K mg base (1 + n) t.a_Lbox t.fd_Lbox ["number", "name", "deep"] (M_Lbox n)
  | 0 => fn_none
  | n + 1 => fn_mk t.F_Lbox sc_Lbox rfl fun cdv A outer s H E hr => have ih_Lbox := ok_Lbox t n
    ((ds_cons (ds_asg 3 sc_Lbox.nd (de_mod (DE.dr (de_var 0)) (DE.dr de_int)))
      (ds_cons (ds_if (DW.dt (dw_or (dt_cmp (op_eqD hr.units) od_eq (DE.dr (de_var 2)) (DE.dr de_int) (nomark _)) (dw_or1 (dt_cmp op_gt od_gt (DE.dr (de_var 3)) (DE.dr de_int) (nomark _))))) (ds_one (ds_ret (de_tup (da_cons de_str (da_cons (de_var 1) (da_cons (de_call (ok_Lspan t) hr (lev_le (b := 1) (n := n) (by decide)) t.g_Lspan t.F_Lspan.kp t.b_Lspan (da_cons (de_fdiv (DE.dr (de_call (ok_Ldrawn t) hr (lev_le (b := 1) (n := n) (by decide)) t.g_Ldrawn t.F_Ldrawn.kp t.b_Ldrawn (da_cons (de_var 0) (da_cons de_int da_nil)) (lq_cons (lq_cons lq_nil)))) (DE.dr de_int)) da_nil) (lq_cons lq_nil)) (da_cons (de_call (ok_Lspan t) hr (lev_le (b := 1) (n := n) (by decide)) t.g_Lspan t.F_Lspan.kp t.b_Lspan (da_cons (de_fdiv (DE.dr (de_call (ok_Ldrawn t) hr (lev_le (b := 1) (n := n) (by decide)) t.g_Ldrawn t.F_Ldrawn.kp t.b_Ldrawn (da_cons (de_var 0) (da_cons de_int da_nil)) (lq_cons (lq_cons lq_nil)))) (DE.dr de_int)) da_nil) (lq_cons lq_nil)) da_nil)))) (ln_big (ln_cons (ln_cons (ln_cons (ln_cons ln_nil)))))))) ds_nil)
      (ds_cons (ds_asg 4 sc_Lbox.nd (de_add (DE.dr de_int) (DE.dr (de_mod (DE.dr (de_fdiv (DE.dr (de_var 0)) (DE.dr de_int))) (DE.dr de_int)))))
      (ds_cons (ds_asg 5 sc_Lbox.nd (de_ix (DE.dr (de_tup (da_cons de_int (da_cons de_int (da_cons de_int (da_cons de_int da_nil)))) (ln_big (ln_cons (ln_cons (ln_cons (ln_cons ln_nil))))))) (DE.dr (de_mod (DE.dr (de_fdiv (DE.dr (de_var 0)) (DE.dr de_int))) (DE.dr de_int)))))
      (ds_cons (ds_if (dt_cmp (op_eqD hr.units) od_eq (DE.dr (de_var 3)) (DE.dr de_int) (nomark _)) (ds_cons (ds_asg 7 sc_Lbox.nd (de_tuple t.m_tuple (DN.dr (dn_lc [("k", 8)] rfl sc_Lbox.nd (DI.r (di_rng1 t.m_range de_int)) (blkOk_by (N := N_Lbox) (sc := defScope s_Lbox) (by decide +kernel)) (fun _ _ _ _ _ => (dg_name 8 sc_Lbox.nd)) (fun _ _ _ _ _ => dts_nil) (fun _ _ _ _ _ => (de_mod (DE.dr (de_fdiv (DE.dr (de_call (ok_Ldrawn t) hr (lev_le (b := 1) (n := n) (by decide)) t.g_Ldrawn t.F_Ldrawn.kp t.b_Ldrawn (da_cons (de_var 0) (da_cons (de_add (DE.dr de_int) (DE.dr (de_var 8))) da_nil)) (lq_cons (lq_cons lq_nil)))) (DE.dr de_int))) (DE.dr de_int)))))))
      (ds_one (ds_ret (de_add (DE.dr (de_add (DE.dr (de_tup (da_cons de_str (da_cons (de_var 1) da_nil)) (ln_big (ln_cons (ln_cons ln_nil))))) (DE.dr (de_var 7)))) (DE.dr (de_tup (da_cons (de_call ih_Lbox hr (Nat.le_refl _) t.g_Lbox t.F_Lbox.kp t.b_Lbox (da_cons (de_fdiv (DE.dr (de_call (ok_Ldrawn t) hr (lev_le (b := 1) (n := n) (by decide)) t.g_Ldrawn t.F_Ldrawn.kp t.b_Ldrawn (da_cons (de_var 0) (da_cons de_int da_nil)) (lq_cons (lq_cons lq_nil)))) (DE.dr de_int)) (da_cons (de_add (DE.dr (de_var 1)) (DE.dr de_str)) (da_cons (de_sub (DE.dr (de_var 2)) (DE.dr de_int)) da_nil))) (lq_cons (lq_cons (lq_cons lq_nil)))) da_nil) (ln_big (ln_cons ln_nil)))))))) ds_nil)
      (ds_cons (ds_if (dt_cmp (op_eqD hr.units) od_eq (DE.dr (de_var 3)) (DE.dr de_int) (nomark _)) (ds_one (ds_asg 4 sc_Lbox.nd (de_min2 rfl t.m_min (DE.dr (de_var 4)) (DE.dr de_int)))) ds_nil)
      (ds_cons (ds_asg 6 sc_Lbox.nd (de_tuple t.m_tuple (DN.dr (dn_lc [("k", 8)] rfl sc_Lbox.nd (DI.r (di_rng1 t.m_range (de_var 4))) (blkOk_by (N := N_Lbox) (sc := defScope s_Lbox) (by decide +kernel)) (fun _ _ _ _ _ => (dg_name 8 sc_Lbox.nd)) (fun _ _ _ _ _ => dts_nil) (fun _ _ _ _ _ => (de_call ih_Lbox hr (Nat.le_refl _) t.g_Lbox t.F_Lbox.kp t.b_Lbox (da_cons (de_fdiv (DE.dr (de_call (ok_Ldrawn t) hr (lev_le (b := 1) (n := n) (by decide)) t.g_Ldrawn t.F_Ldrawn.kp t.b_Ldrawn (da_cons (de_var 0) (da_cons (de_add (DE.dr de_int) (DE.dr (de_var 8))) da_nil)) (lq_cons (lq_cons lq_nil)))) (DE.dr de_int)) (da_cons (de_add (DE.dr (de_var 1)) (DE.dr (de_ix (DE.dr de_str) (DE.dr (de_var 8))))) (da_cons (de_sub (DE.dr (de_var 2)) (DE.dr de_int)) da_nil))) (lq_cons (lq_cons (lq_cons lq_nil)))))))))
      (ds_cons (ds_if (dt_cmp (op_eqD hr.units) od_eq (DE.dr (de_var 3)) (DE.dr de_int) (nomark _)) (ds_one (ds_ret (de_tup (da_cons de_str (da_cons (de_var 1) (da_cons (de_var 6) da_nil))) (ln_big (ln_cons (ln_cons (ln_cons ln_nil))))))) ds_nil)
      (ds_one (ds_ret (de_tup (da_cons (de_ix (DE.dr (de_tup (da_cons de_str (da_cons de_str da_nil)) (ln_big (ln_cons (ln_cons ln_nil))))) (DE.dr (de_mod (DE.dr (de_var 3)) (DE.dr de_int)))) (da_cons (de_var 1) (da_cons (de_var 5) (da_cons (de_var 6) da_nil)))) (ln_big (ln_cons (ln_cons (ln_cons (ln_cons ln_nil)))))))))))))))))
theorem ok_Lsizes (t : T w K mg) : FnD P w K mg base 1 t.a_Lsizes t.fd_Lsizes ["box", "number"] M_Lsizes := fn_mk t.F_Lsizes sc_Lsizes rfl fun cdv A outer s H E hr =>
    ((ds_cons (ds_asg 2 sc_Lsizes.nd (de_mod (DE.dr (de_var 1)) (DE.dr (de_ix (DE.dr (de_tup (da_cons de_int (da_cons de_int (da_cons de_int da_nil))) (ln_big (ln_cons (ln_cons (ln_cons ln_nil)))))) (DE.dr (de_mod (DE.dr (de_fdiv (DE.dr (de_var 1)) (DE.dr de_int))) (DE.dr de_int)))))))
      (ds_one (ds_ret (de_tup (da_cons (de_var 2) (da_cons (de_mod (DE.dr (de_fdiv (DE.dr (de_var 1)) (DE.dr de_int))) (DE.dr (de_ix (DE.dr (de_tup (da_cons de_int (da_cons de_int (da_cons de_int da_nil))) (ln_big (ln_cons (ln_cons (ln_cons ln_nil)))))) (DE.dr (de_mod (DE.dr (de_fdiv (DE.dr (de_var 1)) (DE.dr de_int))) (DE.dr de_int)))))) da_nil)) (ln_big (ln_cons (ln_cons ln_nil))))))))
theorem ok_Lin (t : T w K mg) : FnD P w K mg base 1 t.a_Lin t.fd_Lin ["box"] M_Lin := fn_mk t.F_Lin sc_Lin rfl fun cdv A outer s H E hr =>
    ((ds_cons (ds_if (dt_cmp (op_eqD hr.units) od_eq (DE.dr (de_ix (DE.dr (de_var 0)) (DE.dr de_int))) (DE.dr de_str) (nomark _)) (ds_one (ds_ret (de_tup da_nil (ln_big ln_nil)))) ds_nil)
      (ds_one (ds_ret (de_ix (DN.dr (dn_lst (da_cons (de_ix (DE.dr (de_var 0)) (DE.dr (de_sub (DE.dr (de_len t.m_len (DE.dr (de_var 0)))) (DE.dr de_int)))) (da_cons (de_slice (DE.dr (de_var 0)) (do_some de_int) do_none) da_nil)) (ln_big (ln_cons (ln_cons ln_nil))))) (DE.dr (de_toint t.m_int (DE.dr (de_cmp (op_eqD hr.units) od_eq (DE.dr (de_ix (DE.dr (de_var 0)) (DE.dr de_int))) (DE.dr de_str) (nomark _))))))))))
theorem ok_Lleaves (t : T w K mg) : ∀ n, FnD P w K mg base (1 + n) t.a_Lleaves t.fd_Lleaves ["box"] (M_Lleaves n)
  | 0 => fn_none
  | n + 1 => fn_mk t.F_Lleaves sc_Lleaves rfl fun cdv A outer s H E hr => have ih_Lleaves := ok_Lleaves t n
    ((ds_cons (ds_if (dt_cmp (op_eqD hr.units) od_eq (DE.dr (de_ix (DE.dr (de_var 0)) (DE.dr de_int))) (DE.dr de_str) (nomark _)) (ds_one (ds_ret (DN.de (dn_lst (da_cons (de_ix (DE.dr (de_var 0)) (DE.dr de_int)) da_nil) (ln_big (ln_cons ln_nil)))))) ds_nil)
      (ds_cons (ds_asg 1 sc_Lleaves.nd (DN.de (dn_lst da_nil (ln_big ln_nil))))
      (ds_cons (ds_for PassesOwn.never rfl (di_any (de_call (ok_Lin t) hr (lev_le (b := 1) (n := n) (by decide)) t.g_Lin t.F_Lin.kp t.b_Lin (da_cons (de_var 0) da_nil) (lq_cons lq_nil))) (dg_name 2 sc_Lleaves.nd) (ds_one (ds_asg 1 sc_Lleaves.nd (de_add (DE.dr (de_var 1)) (DE.dr (de_call ih_Lleaves hr (Nat.le_refl _) t.g_Lleaves t.F_Lleaves.kp t.b_Lleaves (da_cons (de_var 2) da_nil) (lq_cons lq_nil)))))))
      (ds_one (ds_ret (de_var 1)))))))
theorem ok_Lled (t : T w K mg) : ∀ n, FnD P w K mg base (1 + n) t.a_Lled t.fd_Lled ["box", "names"] (M_Lled n)
  | 0 => fn_none
  | n + 1 => fn_mk t.F_Lled sc_Lled rfl fun cdv A outer s H E hr => have ih_Lled := ok_Lled t n
    ((ds_cons (ds_if (dt_cmp (op_eqD hr.units) od_eq (DE.dr (de_ix (DE.dr (de_var 0)) (DE.dr de_int))) (DE.dr de_str) (nomark _)) (ds_one (ds_ret (de_add (DE.dr (de_tup (da_cons de_str (da_cons (de_dix hr (de_var 1) (de_ix (DE.dr (de_var 0)) (DE.dr de_int))) da_nil)) (ln_big (ln_cons (ln_cons ln_nil))))) (DE.dr (de_slice (DE.dr (de_var 0)) (do_some de_int) do_none))))) ds_nil)
      (ds_cons (ds_asg 2 sc_Lled.nd (de_tuple t.m_tuple (DN.dr (dn_lc [("part", 3)] rfl sc_Lled.nd (dir_any (DE.dr (de_call (ok_Lin t) hr (lev_le (b := 1) (n := n) (by decide)) t.g_Lin t.F_Lin.kp t.b_Lin (da_cons (de_var 0) da_nil) (lq_cons lq_nil)))) (blkOk_by (N := N_Lled) (sc := defScope s_Lled) (by decide +kernel)) (fun _ _ _ _ _ => (dg_name 3 sc_Lled.nd)) (fun _ _ _ _ _ => dts_nil) (fun _ _ _ _ _ => (de_call ih_Lled hr (Nat.le_refl _) t.g_Lled t.F_Lled.kp t.b_Lled (da_cons (de_var 3) (da_cons (de_var 1) da_nil)) (lq_cons (lq_cons lq_nil))))))))
      (ds_cons (ds_if (dt_cmp (op_eqD hr.units) od_eq (DE.dr (de_ix (DE.dr (de_var 0)) (DE.dr de_int))) (DE.dr de_str) (nomark _)) (ds_one (ds_ret (de_add (DE.dr (de_add (DE.dr (de_tup (da_cons de_str (da_cons (de_dix hr (de_var 1) (de_ix (DE.dr (de_var 0)) (DE.dr de_int))) da_nil)) (ln_big (ln_cons (ln_cons ln_nil))))) (DE.dr (de_slice (DE.dr (de_var 0)) (do_some de_int) (do_some de_int))))) (DE.dr (de_var 2))))) ds_nil)
      (ds_one (ds_ret (de_add (DE.dr (de_add (DE.dr (de_tup (da_cons (de_ix (DE.dr (de_var 0)) (DE.dr de_int)) (da_cons (de_dix hr (de_var 1) (de_ix (DE.dr (de_var 0)) (DE.dr de_int))) da_nil)) (ln_big (ln_cons (ln_cons ln_nil))))) (DE.dr (de_slice (DE.dr (de_var 0)) (do_some de_int) (do_some (de_sub (DE.dr (de_len t.m_len (DE.dr (de_var 0)))) (DE.dr de_int))))))) (DE.dr (de_tup (da_cons (de_var 2) da_nil) (ln_big (ln_cons ln_nil)))))))))))
theorem ok_law (t : T w K mg) : FnD P w K mg base 32 t.a_law t.fd_law ["script"] M_law := fn_mk t.F_law sc_law rfl fun cdv A outer s H E hr =>
    ((ds_cons (ds_asg 1 sc_law.nd (de_call (ok_Lbox t 12) hr (by decide) t.g_Lbox t.F_Lbox.kp t.b_Lbox (da_cons (de_call (ok_Lmixed t) hr (by decide) t.g_Lmixed t.F_Lmixed.kp t.b_Lmixed (da_cons (de_var 0) (da_cons de_int da_nil)) (lq_cons (lq_cons lq_nil))) (da_cons de_str (da_cons de_int da_nil))) (lq_cons (lq_cons (lq_cons lq_nil)))))
      (ds_cons (ds_asg 2 sc_law.nd de_str)
      (ds_cons (ds_newD 3 sc_law.nd dnd_new)
      (ds_cons (ds_for PassesOwn.never rfl (di_enum t.m_enumerate rfl (de_call (ok_names_in t 12) hr (by decide) t.g_names_in t.F_names_in.kp t.b_names_in (da_cons (de_var 1) da_nil) (lq_cons lq_nil))) (dg_tup rfl (dgs_cons (dg_name 9 sc_law.nd) (dgs_cons (dg_name 10 sc_law.nd) dgs_nil))) (ds_one (ds_dput 3 hr (de_var 10) (de_mulS (DE.dr (de_ix (DE.dr (de_var 2)) (DE.dr (de_mod (DE.dr (de_var 9)) (DE.dr de_int))))) (DE.dr (de_add (DE.dr de_int) (DE.dr (de_fdiv (DE.dr (de_var 9)) (DE.dr de_int)))))))))
      (ds_cons (ds_frz 3 (ds_asg 4 sc_law.nd (de_call (ok_Lled t 12) hr (by decide) t.g_Lled t.F_Lled.kp t.b_Lled (da_cons (de_var 1) (da_cons (de_var 3) da_nil)) (lq_cons (lq_cons lq_nil)))))
      (ds_cons (ds_frz 3 (ds_if (DW.dt (dw_or (dt_cmp op_notB od_notB (DE.dr (de_call (ok_is_box t) hr (by decide) t.g_is_box t.F_is_box.kp t.b_is_box (da_cons (de_var 4) da_nil) (lq_cons lq_nil))) (DE.dr de_bl) (nomark _)) (dw_or1 (dt_cmp (op_neD hr.units) od_ne (DE.dr (de_call (ok_names_in t 12) hr (by decide) t.g_names_in t.F_names_in.kp t.b_names_in (da_cons (de_var 4) da_nil) (lq_cons lq_nil))) (DE.dr (de_tuple t.m_tuple (DN.dr (dn_lc [("name", 10)] rfl sc_law.nd (dir_any (DE.dr (de_call (ok_names_in t 12) hr (by decide) t.g_names_in t.F_names_in.kp t.b_names_in (da_cons (de_var 1) da_nil) (lq_cons lq_nil)))) (blkOk_by (N := N_law) (sc := defScope s_law) (by decide +kernel)) (fun _ _ _ _ _ => (dg_name 10 sc_law.nd)) (fun _ _ _ _ _ => dts_nil) (fun _ _ _ _ _ => (de_dix hr (de_var 3) (de_var 10))))))) (nomark _))))) (ds_one (ds_ret de_bl)) ds_nil))
      (ds_cons (ds_asgT (de_call (ok_Lsizes t) hr (by decide) t.g_Lsizes t.F_Lsizes.kp t.b_Lsizes (da_cons (de_var 1) (da_cons (de_call (ok_Lmixed t) hr (by decide) t.g_Lmixed t.F_Lmixed.kp t.b_Lmixed (da_cons (de_var 0) (da_cons de_int da_nil)) (lq_cons (lq_cons lq_nil))) da_nil)) (lq_cons (lq_cons lq_nil))) (dg_tup rfl (dgs_cons (dg_name 11 sc_law.nd) (dgs_cons (dg_name 12 sc_law.nd) dgs_nil))))
      (ds_cons (ds_frz 3 (ds_if (dt_cmp (op_neD hr.units) od_ne (DE.dr (de_call (ok_places t) hr (by decide) t.g_places t.F_places.kp t.b_places (da_cons (de_var 4) (da_cons (de_var 11) (da_cons (de_var 12) da_nil))) (lq_cons (lq_cons (lq_cons lq_nil))))) (DE.dr (de_tuple t.m_tuple (DN.dr (dn_lc [("row", 19)] rfl sc_law.nd (dir_any (DE.dr (de_call (ok_places t) hr (by decide) t.g_places t.F_places.kp t.b_places (da_cons (de_var 1) (da_cons (de_var 11) (da_cons (de_var 12) da_nil))) (lq_cons (lq_cons (lq_cons lq_nil)))))) (blkOk_by (N := N_law) (sc := defScope s_law) (by decide +kernel)) (fun _ _ _ _ _ => (dg_name 19 sc_law.nd)) (fun _ _ _ _ _ => dts_nil) (fun _ _ _ _ _ => (de_add (DE.dr (de_tup (da_cons (de_dix hr (de_var 3) (de_ix (DE.dr (de_var 19)) (DE.dr de_int))) da_nil) (ln_big (ln_cons ln_nil)))) (DE.dr (de_slice (DE.dr (de_var 19)) (do_some de_int) do_none)))))))) (nomark _)) (ds_one (ds_ret de_bl)) ds_nil))
      (ds_cons (ds_par 13 14 rfl sc_law.nd (da_cons (de_mod (DE.dr (de_call (ok_Lmixed t) hr (by decide) t.g_Lmixed t.F_Lmixed.kp t.b_Lmixed (da_cons (de_var 0) (da_cons de_int da_nil)) (lq_cons (lq_cons lq_nil)))) (DE.dr (de_add (DE.dr (de_var 11)) (DE.dr de_int)))) (da_cons (de_mod (DE.dr (de_call (ok_Lmixed t) hr (by decide) t.g_Lmixed t.F_Lmixed.kp t.b_Lmixed (da_cons (de_var 0) (da_cons de_int da_nil)) (lq_cons (lq_cons lq_nil)))) (DE.dr (de_add (DE.dr (de_var 12)) (DE.dr de_int)))) da_nil)))
      (ds_cons (ds_frz 3 (ds_if (dt_cmp (op_neD hr.units) od_ne (DE.dr (de_call (ok_touched t) hr (by decide) t.g_touched t.F_touched.kp t.b_touched (da_cons (de_var 4) (da_cons (de_var 11) (da_cons (de_var 12) (da_cons (de_var 13) (da_cons (de_var 14) da_nil))))) (lq_cons (lq_cons (lq_cons (lq_cons (lq_cons lq_nil))))))) (DE.dr (de_tuple t.m_tuple (DN.dr (dn_lc [("name", 10)] rfl sc_law.nd (dir_any (DE.dr (de_call (ok_touched t) hr (by decide) t.g_touched t.F_touched.kp t.b_touched (da_cons (de_var 1) (da_cons (de_var 11) (da_cons (de_var 12) (da_cons (de_var 13) (da_cons (de_var 14) da_nil))))) (lq_cons (lq_cons (lq_cons (lq_cons (lq_cons lq_nil)))))))) (blkOk_by (N := N_law) (sc := defScope s_law) (by decide +kernel)) (fun _ _ _ _ _ => (dg_name 10 sc_law.nd)) (fun _ _ _ _ _ => dts_nil) (fun _ _ _ _ _ => (de_dix hr (de_var 3) (de_var 10))))))) (nomark _)) (ds_one (ds_ret de_bl)) ds_nil))
      (ds_cons (ds_if (DW.dt (dw_or (dt_cmp (op_neD hr.units) od_ne (DE.dr (de_call (ok_needs t) hr (by decide) t.g_needs t.F_needs.kp t.b_needs (da_cons (de_var 4) da_nil) (lq_cons lq_nil))) (DE.dr (de_call (ok_needs t) hr (by decide) t.g_needs t.F_needs.kp t.b_needs (da_cons (de_var 1) da_nil) (lq_cons lq_nil))) (nomark _)) (dw_or1 (dt_cmp (op_neD hr.units) od_ne (DE.dr (de_call (ok_fits t) hr (by decide) t.g_fits t.F_fits.kp t.b_fits (da_cons (de_var 4) (da_cons (de_var 11) (da_cons (de_var 12) da_nil))) (lq_cons (lq_cons (lq_cons lq_nil))))) (DE.dr (de_call (ok_fits t) hr (by decide) t.g_fits t.F_fits.kp t.b_fits (da_cons (de_var 1) (da_cons (de_var 11) (da_cons (de_var 12) da_nil))) (lq_cons (lq_cons (lq_cons lq_nil))))) (nomark _))))) (ds_one (ds_ret de_bl)) ds_nil)
      (ds_cons (ds_for PassesOwn.never rfl (di_any (de_tup (da_cons de_str (da_cons de_str da_nil)) (ln_big (ln_cons (ln_cons ln_nil))))) (dg_name 5 sc_law.nd) (ds_one (ds_if (dt_cmp (op_neD hr.units) od_ne (DE.dr (de_call (ok_span_of t 12) hr (by decide) t.g_span_of t.F_span_of.kp t.b_span_of (da_cons (de_var 4) (da_cons (de_var 5) da_nil)) (lq_cons (lq_cons lq_nil)))) (DE.dr (de_call (ok_span_of t 12) hr (by decide) t.g_span_of t.F_span_of.kp t.b_span_of (da_cons (de_var 1) (da_cons (de_var 5) da_nil)) (lq_cons (lq_cons lq_nil)))) (nomark _)) (ds_one (ds_ret de_bl)) ds_nil)))
      (ds_cons (ds_asg 6 sc_law.nd (de_call (ok_Lleaves t 12) hr (by decide) t.g_Lleaves t.F_Lleaves.kp t.b_Lleaves (da_cons (de_var 1) da_nil) (lq_cons lq_nil)))
      (ds_cons (ds_asg 7 sc_law.nd (de_ix (DE.dr (de_var 6)) (DE.dr (de_mod (DE.dr (de_call (ok_Lmixed t) hr (by decide) t.g_Lmixed t.F_Lmixed.kp t.b_Lmixed (da_cons (de_var 0) (da_cons de_int da_nil)) (lq_cons (lq_cons lq_nil)))) (DE.dr (de_len t.m_len (DE.dr (de_var 6))))))))
      (ds_cons (ds_par 15 16 rfl sc_law.nd (da_cons (de_call (ok_Lspan t) hr (by decide) t.g_Lspan t.F_Lspan.kp t.b_Lspan (da_cons (de_call (ok_Lmixed t) hr (by decide) t.g_Lmixed t.F_Lmixed.kp t.b_Lmixed (da_cons (de_var 0) (da_cons de_int da_nil)) (lq_cons (lq_cons lq_nil))) da_nil) (lq_cons lq_nil)) (da_cons (de_call (ok_Lspan t) hr (by decide) t.g_Lspan t.F_Lspan.kp t.b_Lspan (da_cons (de_call (ok_Lmixed t) hr (by decide) t.g_Lmixed t.F_Lmixed.kp t.b_Lmixed (da_cons (de_var 0) (da_cons de_int da_nil)) (lq_cons (lq_cons lq_nil))) da_nil) (lq_cons lq_nil)) da_nil)))
      (ds_cons (ds_frz 3 (ds_par 17 18 rfl sc_law.nd (da_cons (de_call (ok_with_leaf t 12) hr (by decide) t.g_with_leaf t.F_with_leaf.kp t.b_with_leaf (da_cons (de_var 1) (da_cons (de_var 7) (da_cons (de_var 15) (da_cons (de_var 16) da_nil)))) (lq_cons (lq_cons (lq_cons (lq_cons lq_nil))))) (da_cons (de_call (ok_with_leaf t 12) hr (by decide) t.g_with_leaf t.F_with_leaf.kp t.b_with_leaf (da_cons (de_var 4) (da_cons (de_dix hr (de_var 3) (de_var 7)) (da_cons (de_var 15) (da_cons (de_var 16) da_nil)))) (lq_cons (lq_cons (lq_cons (lq_cons lq_nil))))) da_nil))))
      (ds_cons (ds_frz 3 (ds_if (DW.dt (dw_or (dt_cmp (op_neD hr.units) od_ne (DE.dr (de_var 18)) (DE.dr (de_call (ok_Lled t 12) hr (by decide) t.g_Lled t.F_Lled.kp t.b_Lled (da_cons (de_var 17) (da_cons (de_var 3) da_nil)) (lq_cons (lq_cons lq_nil)))) (nomark _)) (dw_or1 (dt_cmp (op_neD hr.units) od_ne (DE.dr (de_call (ok_turned t 12) hr (by decide) t.g_turned t.F_turned.kp t.b_turned (da_cons (de_var 4) da_nil) (lq_cons lq_nil))) (DE.dr (de_call (ok_Lled t 12) hr (by decide) t.g_Lled t.F_Lled.kp t.b_Lled (da_cons (de_call (ok_turned t 12) hr (by decide) t.g_turned t.F_turned.kp t.b_turned (da_cons (de_var 1) da_nil) (lq_cons lq_nil)) (da_cons (de_var 3) da_nil)) (lq_cons (lq_cons lq_nil)))) (nomark _))))) (ds_one (ds_ret de_bl)) ds_nil))
      (ds_cons (ds_frz 3 (ds_asg 8 sc_law.nd (DN.de (dn_sorted t.m_sorted (DN.dr (dn_lc [("name", 10), ("axis", 5)] rfl sc_law.nd (dir_any (DE.dr (de_call (ok_changed t) hr (by decide) t.g_changed t.F_changed.kp t.b_changed (da_cons (de_var 1) (da_cons (de_var 17) (da_cons (de_var 11) (da_cons (de_var 12) da_nil)))) (lq_cons (lq_cons (lq_cons (lq_cons lq_nil))))))) (blkOk_by (N := N_law) (sc := defScope s_law) (by decide +kernel)) (fun _ _ _ _ _ => (dg_tup rfl (dgs_cons (dg_name 10 sc_law.nd) (dgs_cons (dg_name 5 sc_law.nd) dgs_nil)))) (fun _ _ _ _ _ => dts_nil) (fun _ _ _ _ _ => (de_tup (da_cons (de_dix hr (de_var 3) (de_var 10)) (da_cons (de_var 5) da_nil)) (ln_big (ln_cons (ln_cons ln_nil)))))))))))
      (ds_cons (ds_if (dt_cmp (op_neD hr.units) od_ne (DN.dr (dn_list t.m_list (DE.dr (de_call (ok_changed t) hr (by decide) t.g_changed t.F_changed.kp t.b_changed (da_cons (de_var 4) (da_cons (de_var 18) (da_cons (de_var 11) (da_cons (de_var 12) da_nil)))) (lq_cons (lq_cons (lq_cons (lq_cons lq_nil)))))))) (DE.dr (de_var 8)) (nomark _)) (ds_one (ds_ret de_bl)) ds_nil)
      (ds_one (ds_frz 3 (ds_ret (de_cmp (op_eqD hr.units) od_eq (DN.dr (dn_list t.m_list (DE.dr (de_call (ok_may_change t) hr (by decide) t.g_may_change t.F_may_change.kp t.b_may_change (da_cons (de_var 4) (da_cons (de_dix hr (de_var 3) (de_var 7)) da_nil)) (lq_cons (lq_cons lq_nil)))))) (DN.dr (dn_sorted t.m_sorted (DN.dr (dn_lc [("name", 10), ("axis", 5)] rfl sc_law.nd (dir_any (DE.dr (de_call (ok_may_change t) hr (by decide) t.g_may_change t.F_may_change.kp t.b_may_change (da_cons (de_var 1) (da_cons (de_var 7) da_nil)) (lq_cons (lq_cons lq_nil))))) (blkOk_by (N := N_law) (sc := defScope s_law) (by decide +kernel)) (fun _ _ _ _ _ => (dg_tup rfl (dgs_cons (dg_name 10 sc_law.nd) (dgs_cons (dg_name 5 sc_law.nd) dgs_nil)))) (fun _ _ _ _ _ => dts_nil) (fun _ _ _ _ _ => (de_tup (da_cons (de_dix hr (de_var 3) (de_var 10)) (da_cons (de_var 5) da_nil)) (ln_big (ln_cons (ln_cons ln_nil))))))))) (nomark _)))))))))))))))))))))))))
end
def dd_is_whole : He.DefD := ⟨("is_whole", none), "is_whole", "is_whole", defArgs s_is_whole, defBody s_is_whole, defScope s_is_whole, [], []⟩
def dd_is_name : He.DefD := ⟨("is_name", none), "is_name", "is_name", defArgs s_is_name, defBody s_is_name, defScope s_is_name, [], []⟩
def dd_is_span : He.DefD := ⟨("is_span", none), "is_span", "is_span", defArgs s_is_span, defBody s_is_span, defScope s_is_span, [], []⟩
def dd_are_boxes : He.DefD := ⟨("are_boxes", none), "are_boxes", "are_boxes", defArgs s_are_boxes, defBody s_are_boxes, defScope s_are_boxes, [], []⟩
def dd_is_box_to : He.DefD := ⟨("is_box_to", none), "is_box_to", "is_box_to", defArgs s_is_box_to, defBody s_is_box_to, defScope s_is_box_to, [], []⟩
def dd_boxes_in : He.DefD := ⟨("boxes_in", none), "boxes_in", "boxes_in", defArgs s_boxes_in, defBody s_boxes_in, defScope s_boxes_in, [], []⟩
def dd_names_in : He.DefD := ⟨("names_in", none), "names_in", "names_in", defArgs s_names_in, defBody s_names_in, defScope s_names_in, [], []⟩
def dd_is_box : He.DefD := ⟨("is_box", none), "is_box", "is_box", defArgs s_is_box, defBody s_is_box, defScope s_is_box, [], []⟩
def dd_with_boxes : He.DefD := ⟨("with_boxes", none), "with_boxes", "with_boxes", defArgs s_with_boxes, defBody s_with_boxes, defScope s_with_boxes, [], []⟩
def dd_plain : He.DefD := ⟨("plain", none), "plain", "plain", defArgs s_plain, defBody s_plain, defScope s_plain, [], []⟩
def dd_plus : He.DefD := ⟨("plus", none), "plus", "plus", defArgs s_plus, defBody s_plus, defScope s_plus, [], []⟩
def dd_is_less : He.DefD := ⟨("is_less", none), "is_less", "is_less", defArgs s_is_less, defBody s_is_less, defScope s_is_less, [], []⟩
def dd_low_of : He.DefD := ⟨("low_of", none), "low_of", "low_of", defArgs s_low_of, defBody s_low_of, defScope s_low_of, [], []⟩
def dd_top_of : He.DefD := ⟨("top_of", none), "top_of", "top_of", defArgs s_top_of, defBody s_top_of, defScope s_top_of, [], []⟩
def dd_join : He.DefD := ⟨("join", none), "join", "join", defArgs s_join, defBody s_join, defScope s_join, [], []⟩
def dd_joined : He.DefD := ⟨("joined", none), "joined", "joined", defArgs s_joined, defBody s_joined, defScope s_joined, [], []⟩
def dd_along : He.DefD := ⟨("along", none), "along", "along", defArgs s_along, defBody s_along, defScope s_along, [], []⟩
def dd_beside : He.DefD := ⟨("beside", none), "beside", "beside", defArgs s_beside, defBody s_beside, defScope s_beside, [], []⟩
def dd_rims_of : He.DefD := ⟨("rims_of", none), "rims_of", "rims_of", defArgs s_rims_of, defBody s_rims_of, defScope s_rims_of, [], []⟩
def dd_span_of : He.DefD := ⟨("span_of", none), "span_of", "span_of", defArgs s_span_of, defBody s_span_of, defScope s_span_of, [], []⟩
def dd_room_of : He.DefD := ⟨("room_of", none), "room_of", "room_of", defArgs s_room_of, defBody s_room_of, defScope s_room_of, [], []⟩
def dd_is_enough : He.DefD := ⟨("is_enough", none), "is_enough", "is_enough", defArgs s_is_enough, defBody s_is_enough, defScope s_is_enough, [], []⟩
def dd_grown : He.DefD := ⟨("grown", none), "grown", "grown", defArgs s_grown, defBody s_grown, defScope s_grown, [], []⟩
def dd_shrunk : He.DefD := ⟨("shrunk", none), "shrunk", "shrunk", defArgs s_shrunk, defBody s_shrunk, defScope s_shrunk, [], []⟩
def dd_stops : He.DefD := ⟨("stops", none), "stops", "stops", defArgs s_stops, defBody s_stops, defScope s_stops, [], []⟩
def dd_rate_at : He.DefD := ⟨("rate_at", none), "rate_at", "rate_at", defArgs s_rate_at, defBody s_rate_at, defScope s_rate_at, [], []⟩
def dd_level : He.DefD := ⟨("level", none), "level", "level", defArgs s_level, defBody s_level, defScope s_level, [], []⟩
def dd_shares : He.DefD := ⟨("shares", none), "shares", "shares", defArgs s_shares, defBody s_shares, defScope s_shares, [], []⟩
def dd_lengths : He.DefD := ⟨("lengths", none), "lengths", "lengths", defArgs s_lengths, defBody s_lengths, defScope s_lengths, [], []⟩
def dd_taken : He.DefD := ⟨("taken", none), "taken", "taken", defArgs s_taken, defBody s_taken, defScope s_taken, [], []⟩
def dd_inner_lines : He.DefD := ⟨("inner_lines", none), "inner_lines", "inner_lines", defArgs s_inner_lines, defBody s_inner_lines, defScope s_inner_lines, [], []⟩
def dd_placed : He.DefD := ⟨("placed", none), "placed", "placed", defArgs s_placed, defBody s_placed, defScope s_placed, [], []⟩
def dd_places : He.DefD := ⟨("places", none), "places", "places", defArgs s_places, defBody s_places, defScope s_places, [], []⟩
def dd_touched : He.DefD := ⟨("touched", none), "touched", "touched", defArgs s_touched, defBody s_touched, defScope s_touched, [], []⟩
def dd_is_within : He.DefD := ⟨("is_within", none), "is_within", "is_within", defArgs s_is_within, defBody s_is_within, defScope s_is_within, [], []⟩
def dd_fits : He.DefD := ⟨("fits", none), "fits", "fits", defArgs s_fits, defBody s_fits, defScope s_fits, [], []⟩
def dd_needs : He.DefD := ⟨("needs", none), "needs", "needs", defArgs s_needs, defBody s_needs, defScope s_needs, [], []⟩
def dd_with_leaf : He.DefD := ⟨("with_leaf", none), "with_leaf", "with_leaf", defArgs s_with_leaf, defBody s_with_leaf, defScope s_with_leaf, [], []⟩
def dd_changed : He.DefD := ⟨("changed", none), "changed", "changed", defArgs s_changed, defBody s_changed, defScope s_changed, [], []⟩
def dd_may_change : He.DefD := ⟨("may_change", none), "may_change", "may_change", defArgs s_may_change, defBody s_may_change, defScope s_may_change, [], []⟩
def dd_turned : He.DefD := ⟨("turned", none), "turned", "turned", defArgs s_turned, defBody s_turned, defScope s_turned, [], []⟩
def dd_Lcell_at : He.DefD := ⟨("_law_cell_at", none), "_law_cell_at", "_law_cell_at", defArgs s_Lcell_at, defBody s_Lcell_at, defScope s_Lcell_at, [], []⟩
def dd_Lmixed : He.DefD := ⟨("_law_mixed", none), "_law_mixed", "_law_mixed", defArgs s_Lmixed, defBody s_Lmixed, defScope s_Lmixed, [], []⟩
def dd_Ldrawn : He.DefD := ⟨("_law_drawn", none), "_law_drawn", "_law_drawn", defArgs s_Ldrawn, defBody s_Ldrawn, defScope s_Ldrawn, [], []⟩
def dd_Lspan : He.DefD := ⟨("_law_span", none), "_law_span", "_law_span", defArgs s_Lspan, defBody s_Lspan, defScope s_Lspan, [], []⟩
def dd_Lbox : He.DefD := ⟨("_law_box", none), "_law_box", "_law_box", defArgs s_Lbox, defBody s_Lbox, defScope s_Lbox, [], []⟩
def dd_Lsizes : He.DefD := ⟨("_law_sizes", none), "_law_sizes", "_law_sizes", defArgs s_Lsizes, defBody s_Lsizes, defScope s_Lsizes, [], []⟩
def dd_Lin : He.DefD := ⟨("_law_in", none), "_law_in", "_law_in", defArgs s_Lin, defBody s_Lin, defScope s_Lin, [], []⟩
def dd_Lleaves : He.DefD := ⟨("_law_leaves", none), "_law_leaves", "_law_leaves", defArgs s_Lleaves, defBody s_Lleaves, defScope s_Lleaves, [], []⟩
def dd_Lled : He.DefD := ⟨("_law_led", none), "_law_led", "_law_led", defArgs s_Lled, defBody s_Lled, defScope s_Lled, [], []⟩
def dd_law : He.DefD := ⟨("law", none), "law", "law", defArgs s_law, defBody s_law, defScope s_law, [], []⟩
def fn : List He.DefD := [dd_is_whole, dd_is_name, dd_is_span, dd_are_boxes, dd_is_box_to, dd_boxes_in, dd_names_in, dd_is_box, dd_with_boxes, dd_plain, dd_plus, dd_is_less, dd_low_of, dd_top_of, dd_join, dd_joined, dd_along, dd_beside, dd_rims_of, dd_span_of, dd_room_of, dd_is_enough, dd_grown, dd_shrunk, dd_stops, dd_rate_at, dd_level, dd_shares, dd_lengths, dd_taken, dd_inner_lines, dd_placed, dd_places, dd_touched, dd_is_within, dd_fits, dd_needs, dd_with_leaf, dd_changed, dd_may_change, dd_turned, dd_Lcell_at, dd_Lmixed, dd_Ldrawn, dd_Lspan, dd_Lbox, dd_Lsizes, dd_Lin, dd_Lleaves, dd_Lled, dd_law]
def fa : List He.Fa := [.glo "is_whole", .glo "is_name", .glo "is_span", .glo "are_boxes", .glo "is_box_to", .glo "boxes_in", .glo "names_in", .glo "is_box", .glo "with_boxes", .glo "plain", .glo "plus", .glo "is_less", .glo "low_of", .glo "top_of", .glo "join", .glo "joined", .glo "along", .glo "beside", .glo "rims_of", .glo "span_of", .glo "room_of", .glo "is_enough", .glo "grown", .glo "shrunk", .glo "stops", .glo "rate_at", .glo "level", .glo "shares", .glo "lengths", .glo "taken", .glo "inner_lines", .glo "placed", .glo "places", .glo "touched", .glo "is_within", .glo "fits", .glo "needs", .glo "with_leaf", .glo "changed", .glo "may_change", .glo "turned", .glo "_law_cell_at", .glo "_law_mixed", .glo "_law_drawn", .glo "_law_span", .glo "_law_box", .glo "_law_sizes", .glo "_law_in", .glo "_law_leaves", .glo "_law_led", .glo "law", .free "isinstance", .free "bool", .free "int", .free "all", .free "len", .free "str", .free "tuple", .free "set", .free "abs", .free "sum", .free "max", .free "any", .free "min", .free "zip", .free "enumerate", .free "sorted", .free "range", .free "list", .str "LETTERS" "abcdefghijklmnopqrstuvwxyz", .int "LONGEST_NAME" 4, .int "FAR" 999, .int "MOST_SHARE" 9, .int "MOST_BOXES" 4, .int "MOST_PILE" 3, .int "DEEPEST" 4, .glo "MAIN", .glo "AXES", .glo "OTHER"]
abbrev R : PySem.W.OpenRow := PySem.W.OpenLaw.row PySem.Challenge.rw_growbox_k43_whole_other_names
def tds : List (Str × TabS) := [("MAIN", G_MAIN), ("OTHER", G_OTHER)]
def tus : List (Str × List He.Dv) := [("AXES", (["wide", "high"] : List Str).map He.Dv.str)]
abbrev hk : PySem.W.Hook := hookX 4 fa fn tds tus
def ob (s : PySem.W.SharedT) : AlX := obsXG 4 fa fn tds tus (HandSHeadRun.getT s)
theorem ob_eq (s : PySem.W.SharedT) : ob s = hk.obs s.abs := obsXG_eq (HandSHeadRun.getT_eq s)
def names : List PySem.Str := [("LETTERS" : PySem.Str), ("LONGEST_NAME" : PySem.Str), ("FAR" : PySem.Str), ("MOST_SHARE" : PySem.Str), ("DEEPEST" : PySem.Str), ("MOST_BOXES" : PySem.Str), ("MOST_PILE" : PySem.Str), ("is_whole" : PySem.Str), ("is_name" : PySem.Str), ("is_span" : PySem.Str), ("are_boxes" : PySem.Str), ("is_box_to" : PySem.Str), ("boxes_in" : PySem.Str), ("names_in" : PySem.Str), ("is_box" : PySem.Str), ("with_boxes" : PySem.Str), ("plain" : PySem.Str), ("plus" : PySem.Str), ("is_less" : PySem.Str), ("MAIN" : PySem.Str), ("low_of" : PySem.Str), ("top_of" : PySem.Str), ("join" : PySem.Str), ("joined" : PySem.Str), ("along" : PySem.Str), ("beside" : PySem.Str), ("rims_of" : PySem.Str), ("span_of" : PySem.Str), ("room_of" : PySem.Str), ("is_enough" : PySem.Str), ("grown" : PySem.Str), ("shrunk" : PySem.Str), ("stops" : PySem.Str), ("level" : PySem.Str), ("rate_at" : PySem.Str), ("shares" : PySem.Str), ("lengths" : PySem.Str), ("AXES" : PySem.Str), ("taken" : PySem.Str), ("inner_lines" : PySem.Str), ("placed" : PySem.Str), ("places" : PySem.Str), ("touched" : PySem.Str), ("is_within" : PySem.Str), ("fits" : PySem.Str), ("needs" : PySem.Str), ("with_leaf" : PySem.Str), ("changed" : PySem.Str), ("may_change" : PySem.Str), ("OTHER" : PySem.Str), ("turned" : PySem.Str), ("_law_cell_at" : PySem.Str), ("_law_mixed" : PySem.Str), ("_law_drawn" : PySem.Str), ("_law_span" : PySem.Str), ("_law_box" : PySem.Str), ("_law_sizes" : PySem.Str), ("_law_in" : PySem.Str), ("_law_leaves" : PySem.Str), ("_law_led" : PySem.Str)]
theorem run (w : World) : HandSHeadRun.RunEq R (PySem.W.view R.prog [68]) hk ob 2470 names w :=
  PySem.W.byRow2 "special-get-raises" (P := fun w => HandSHeadRun.RunEq R (PySem.W.view R.prog [68]) hk ob 2470 names w) (fun w => by
    intro os
    kernel_rfl) (fun w => by
    intro os
    kernel_rfl) w
theorem tOf {w : World} {K : PySem.W.Frag} {h : Heap} {mg : Str → Option Value} (X : K.In h) (G : h.Ns mainGlobals mg) (c0 : SaysX fa fn tds tus w K) : Nonempty (T w K mg) := by
  have c := c0.d
  obtain ⟨fd_is_whole, F_is_whole⟩ := c.def_ 0 (d := dd_is_whole) rfl
  obtain ⟨fd_is_name, F_is_name⟩ := c.def_ 1 (d := dd_is_name) rfl
  obtain ⟨fd_is_span, F_is_span⟩ := c.def_ 2 (d := dd_is_span) rfl
  obtain ⟨fd_are_boxes, F_are_boxes⟩ := c.def_ 3 (d := dd_are_boxes) rfl
  obtain ⟨fd_is_box_to, F_is_box_to⟩ := c.def_ 4 (d := dd_is_box_to) rfl
  obtain ⟨fd_boxes_in, F_boxes_in⟩ := c.def_ 5 (d := dd_boxes_in) rfl
  obtain ⟨fd_names_in, F_names_in⟩ := c.def_ 6 (d := dd_names_in) rfl
  obtain ⟨fd_is_box, F_is_box⟩ := c.def_ 7 (d := dd_is_box) rfl
  obtain ⟨fd_with_boxes, F_with_boxes⟩ := c.def_ 8 (d := dd_with_boxes) rfl
  obtain ⟨fd_plain, F_plain⟩ := c.def_ 9 (d := dd_plain) rfl
  obtain ⟨fd_plus, F_plus⟩ := c.def_ 10 (d := dd_plus) rfl
  obtain ⟨fd_is_less, F_is_less⟩ := c.def_ 11 (d := dd_is_less) rfl
  obtain ⟨fd_low_of, F_low_of⟩ := c.def_ 12 (d := dd_low_of) rfl
  obtain ⟨fd_top_of, F_top_of⟩ := c.def_ 13 (d := dd_top_of) rfl
  obtain ⟨fd_join, F_join⟩ := c.def_ 14 (d := dd_join) rfl
  obtain ⟨fd_joined, F_joined⟩ := c.def_ 15 (d := dd_joined) rfl
  obtain ⟨fd_along, F_along⟩ := c.def_ 16 (d := dd_along) rfl
  obtain ⟨fd_beside, F_beside⟩ := c.def_ 17 (d := dd_beside) rfl
  obtain ⟨fd_rims_of, F_rims_of⟩ := c.def_ 18 (d := dd_rims_of) rfl
  obtain ⟨fd_span_of, F_span_of⟩ := c.def_ 19 (d := dd_span_of) rfl
  obtain ⟨fd_room_of, F_room_of⟩ := c.def_ 20 (d := dd_room_of) rfl
  obtain ⟨fd_is_enough, F_is_enough⟩ := c.def_ 21 (d := dd_is_enough) rfl
  obtain ⟨fd_grown, F_grown⟩ := c.def_ 22 (d := dd_grown) rfl
  obtain ⟨fd_shrunk, F_shrunk⟩ := c.def_ 23 (d := dd_shrunk) rfl
  obtain ⟨fd_stops, F_stops⟩ := c.def_ 24 (d := dd_stops) rfl
  obtain ⟨fd_rate_at, F_rate_at⟩ := c.def_ 25 (d := dd_rate_at) rfl
  obtain ⟨fd_level, F_level⟩ := c.def_ 26 (d := dd_level) rfl
  obtain ⟨fd_shares, F_shares⟩ := c.def_ 27 (d := dd_shares) rfl
  obtain ⟨fd_lengths, F_lengths⟩ := c.def_ 28 (d := dd_lengths) rfl
  obtain ⟨fd_taken, F_taken⟩ := c.def_ 29 (d := dd_taken) rfl
  obtain ⟨fd_inner_lines, F_inner_lines⟩ := c.def_ 30 (d := dd_inner_lines) rfl
  obtain ⟨fd_placed, F_placed⟩ := c.def_ 31 (d := dd_placed) rfl
  obtain ⟨fd_places, F_places⟩ := c.def_ 32 (d := dd_places) rfl
  obtain ⟨fd_touched, F_touched⟩ := c.def_ 33 (d := dd_touched) rfl
  obtain ⟨fd_is_within, F_is_within⟩ := c.def_ 34 (d := dd_is_within) rfl
  obtain ⟨fd_fits, F_fits⟩ := c.def_ 35 (d := dd_fits) rfl
  obtain ⟨fd_needs, F_needs⟩ := c.def_ 36 (d := dd_needs) rfl
  obtain ⟨fd_with_leaf, F_with_leaf⟩ := c.def_ 37 (d := dd_with_leaf) rfl
  obtain ⟨fd_changed, F_changed⟩ := c.def_ 38 (d := dd_changed) rfl
  obtain ⟨fd_may_change, F_may_change⟩ := c.def_ 39 (d := dd_may_change) rfl
  obtain ⟨fd_turned, F_turned⟩ := c.def_ 40 (d := dd_turned) rfl
  obtain ⟨fd_Lcell_at, F_Lcell_at⟩ := c.def_ 41 (d := dd_Lcell_at) rfl
  obtain ⟨fd_Lmixed, F_Lmixed⟩ := c.def_ 42 (d := dd_Lmixed) rfl
  obtain ⟨fd_Ldrawn, F_Ldrawn⟩ := c.def_ 43 (d := dd_Ldrawn) rfl
  obtain ⟨fd_Lspan, F_Lspan⟩ := c.def_ 44 (d := dd_Lspan) rfl
  obtain ⟨fd_Lbox, F_Lbox⟩ := c.def_ 45 (d := dd_Lbox) rfl
  obtain ⟨fd_Lsizes, F_Lsizes⟩ := c.def_ 46 (d := dd_Lsizes) rfl
  obtain ⟨fd_Lin, F_Lin⟩ := c.def_ 47 (d := dd_Lin) rfl
  obtain ⟨fd_Lleaves, F_Lleaves⟩ := c.def_ 48 (d := dd_Lleaves) rfl
  obtain ⟨fd_Lled, F_Lled⟩ := c.def_ 49 (d := dd_Lled) rfl
  obtain ⟨fd_law, F_law⟩ := c.def_ 50 (d := dd_law) rfl
  obtain ⟨k_LETTERS, c_LETTERS⟩ := He.str_ok X G (c.fact 69 (f := .str "LETTERS" "abcdefghijklmnopqrstuvwxyz") rfl)
  obtain ⟨k_LONGEST_NAME, c_LONGEST_NAME⟩ := He.int_ok X G (c.fact 70 (f := .int "LONGEST_NAME" 4) rfl)
  obtain ⟨k_FAR, c_FAR⟩ := He.int_ok X G (c.fact 71 (f := .int "FAR" 999) rfl)
  obtain ⟨k_MOST_SHARE, c_MOST_SHARE⟩ := He.int_ok X G (c.fact 72 (f := .int "MOST_SHARE" 9) rfl)
  obtain ⟨k_MOST_BOXES, c_MOST_BOXES⟩ := He.int_ok X G (c.fact 73 (f := .int "MOST_BOXES" 4) rfl)
  obtain ⟨k_MOST_PILE, c_MOST_PILE⟩ := He.int_ok X G (c.fact 74 (f := .int "MOST_PILE" 3) rfl)
  obtain ⟨k_DEEPEST, c_DEEPEST⟩ := He.int_ok X G (c.fact 75 (f := .int "DEEPEST" 4) rfl)
  exact ⟨{
    a_is_whole := _, fd_is_whole := fd_is_whole, F_is_whole := F_is_whole, g_is_whole := He.glo_ok X G (c.fact 0 (f := .glo "is_whole") rfl), b_is_whole := F_is_whole.bindsN fun _ _ _ _ _ _ us hl => match us, hl with | [_, _, _], _ => rfl,
    a_is_name := _, fd_is_name := fd_is_name, F_is_name := F_is_name, g_is_name := He.glo_ok X G (c.fact 1 (f := .glo "is_name") rfl), b_is_name := F_is_name.bindsN fun _ _ _ _ _ _ us hl => match us, hl with | [_], _ => rfl,
    a_is_span := _, fd_is_span := fd_is_span, F_is_span := F_is_span, g_is_span := He.glo_ok X G (c.fact 2 (f := .glo "is_span") rfl), b_is_span := F_is_span.bindsN fun _ _ _ _ _ _ us hl => match us, hl with | [_], _ => rfl,
    a_are_boxes := _, fd_are_boxes := fd_are_boxes, F_are_boxes := F_are_boxes, g_are_boxes := He.glo_ok X G (c.fact 3 (f := .glo "are_boxes") rfl), b_are_boxes := F_are_boxes.bindsN fun _ _ _ _ _ _ us hl => match us, hl with | [_, _, _], _ => rfl,
    a_is_box_to := _, fd_is_box_to := fd_is_box_to, F_is_box_to := F_is_box_to, g_is_box_to := He.glo_ok X G (c.fact 4 (f := .glo "is_box_to") rfl), b_is_box_to := F_is_box_to.bindsN fun _ _ _ _ _ _ us hl => match us, hl with | [_, _], _ => rfl,
    a_boxes_in := _, fd_boxes_in := fd_boxes_in, F_boxes_in := F_boxes_in, g_boxes_in := He.glo_ok X G (c.fact 5 (f := .glo "boxes_in") rfl), b_boxes_in := F_boxes_in.bindsN fun _ _ _ _ _ _ us hl => match us, hl with | [_], _ => rfl,
    a_names_in := _, fd_names_in := fd_names_in, F_names_in := F_names_in, g_names_in := He.glo_ok X G (c.fact 6 (f := .glo "names_in") rfl), b_names_in := F_names_in.bindsN fun _ _ _ _ _ _ us hl => match us, hl with | [_], _ => rfl,
    a_is_box := _, fd_is_box := fd_is_box, F_is_box := F_is_box, g_is_box := He.glo_ok X G (c.fact 7 (f := .glo "is_box") rfl), b_is_box := F_is_box.bindsN fun _ _ _ _ _ _ us hl => match us, hl with | [_], _ => rfl,
    a_with_boxes := _, fd_with_boxes := fd_with_boxes, F_with_boxes := F_with_boxes, g_with_boxes := He.glo_ok X G (c.fact 8 (f := .glo "with_boxes") rfl), b_with_boxes := F_with_boxes.bindsN fun _ _ _ _ _ _ us hl => match us, hl with | [_, _], _ => rfl,
    a_plain := _, fd_plain := fd_plain, F_plain := F_plain, g_plain := He.glo_ok X G (c.fact 9 (f := .glo "plain") rfl), b_plain := F_plain.bindsN fun _ _ _ _ _ _ us hl => match us, hl with | [_, _], _ => rfl,
    a_plus := _, fd_plus := fd_plus, F_plus := F_plus, g_plus := He.glo_ok X G (c.fact 10 (f := .glo "plus") rfl), b_plus := F_plus.bindsN fun _ _ _ _ _ _ us hl => match us, hl with | [_, _], _ => rfl,
    a_is_less := _, fd_is_less := fd_is_less, F_is_less := F_is_less, g_is_less := He.glo_ok X G (c.fact 11 (f := .glo "is_less") rfl), b_is_less := F_is_less.bindsN fun _ _ _ _ _ _ us hl => match us, hl with | [_, _], _ => rfl,
    a_low_of := _, fd_low_of := fd_low_of, F_low_of := F_low_of, g_low_of := He.glo_ok X G (c.fact 12 (f := .glo "low_of") rfl), b_low_of := F_low_of.bindsN fun _ _ _ _ _ _ us hl => match us, hl with | [_], _ => rfl,
    a_top_of := _, fd_top_of := fd_top_of, F_top_of := F_top_of, g_top_of := He.glo_ok X G (c.fact 13 (f := .glo "top_of") rfl), b_top_of := F_top_of.bindsN fun _ _ _ _ _ _ us hl => match us, hl with | [_], _ => rfl,
    a_join := _, fd_join := fd_join, F_join := F_join, g_join := He.glo_ok X G (c.fact 14 (f := .glo "join") rfl), b_join := F_join.bindsN fun _ _ _ _ _ _ us hl => match us, hl with | [_, _], _ => rfl,
    a_joined := _, fd_joined := fd_joined, F_joined := F_joined, g_joined := He.glo_ok X G (c.fact 15 (f := .glo "joined") rfl), b_joined := F_joined.bindsN fun _ _ _ _ _ _ us hl => match us, hl with | [_, _, _], _ => rfl,
    a_along := _, fd_along := fd_along, F_along := F_along, g_along := He.glo_ok X G (c.fact 16 (f := .glo "along") rfl), b_along := F_along.bindsN fun _ _ _ _ _ _ us hl => match us, hl with | [_, _], _ => rfl,
    a_beside := _, fd_beside := fd_beside, F_beside := F_beside, g_beside := He.glo_ok X G (c.fact 17 (f := .glo "beside") rfl), b_beside := F_beside.bindsN fun _ _ _ _ _ _ us hl => match us, hl with | [_], _ => rfl,
    a_rims_of := _, fd_rims_of := fd_rims_of, F_rims_of := F_rims_of, g_rims_of := He.glo_ok X G (c.fact 18 (f := .glo "rims_of") rfl), b_rims_of := F_rims_of.bindsN fun _ _ _ _ _ _ us hl => match us, hl with | [_, _], _ => rfl,
    a_span_of := _, fd_span_of := fd_span_of, F_span_of := F_span_of, g_span_of := He.glo_ok X G (c.fact 19 (f := .glo "span_of") rfl), b_span_of := F_span_of.bindsN fun _ _ _ _ _ _ us hl => match us, hl with | [_, _], _ => rfl,
    a_room_of := _, fd_room_of := fd_room_of, F_room_of := F_room_of, g_room_of := He.glo_ok X G (c.fact 20 (f := .glo "room_of") rfl), b_room_of := F_room_of.bindsN fun _ _ _ _ _ _ us hl => match us, hl with | [_, _, _], _ => rfl,
    a_is_enough := _, fd_is_enough := fd_is_enough, F_is_enough := F_is_enough, g_is_enough := He.glo_ok X G (c.fact 21 (f := .glo "is_enough") rfl), b_is_enough := F_is_enough.bindsN fun _ _ _ _ _ _ us hl => match us, hl with | [_, _], _ => rfl,
    a_grown := _, fd_grown := fd_grown, F_grown := F_grown, g_grown := He.glo_ok X G (c.fact 22 (f := .glo "grown") rfl), b_grown := F_grown.bindsN fun _ _ _ _ _ _ us hl => match us, hl with | [_, _], _ => rfl,
    a_shrunk := _, fd_shrunk := fd_shrunk, F_shrunk := F_shrunk, g_shrunk := He.glo_ok X G (c.fact 23 (f := .glo "shrunk") rfl), b_shrunk := F_shrunk.bindsN fun _ _ _ _ _ _ us hl => match us, hl with | [_, _], _ => rfl,
    a_stops := _, fd_stops := fd_stops, F_stops := F_stops, g_stops := He.glo_ok X G (c.fact 24 (f := .glo "stops") rfl), b_stops := F_stops.bindsN fun _ _ _ _ _ _ us hl => match us, hl with | [_, _], _ => rfl,
    a_rate_at := _, fd_rate_at := fd_rate_at, F_rate_at := F_rate_at, g_rate_at := He.glo_ok X G (c.fact 25 (f := .glo "rate_at") rfl), b_rate_at := F_rate_at.bindsN fun _ _ _ _ _ _ us hl => match us, hl with | [_, _, _], _ => rfl,
    a_level := _, fd_level := fd_level, F_level := F_level, g_level := He.glo_ok X G (c.fact 26 (f := .glo "level") rfl), b_level := F_level.bindsN fun _ _ _ _ _ _ us hl => match us, hl with | [_, _, _], _ => rfl,
    a_shares := _, fd_shares := fd_shares, F_shares := F_shares, g_shares := He.glo_ok X G (c.fact 27 (f := .glo "shares") rfl), b_shares := F_shares.bindsN fun _ _ _ _ _ _ us hl => match us, hl with | [_, _, _], _ => rfl,
    a_lengths := _, fd_lengths := fd_lengths, F_lengths := F_lengths, g_lengths := He.glo_ok X G (c.fact 28 (f := .glo "lengths") rfl), b_lengths := F_lengths.bindsN fun _ _ _ _ _ _ us hl => match us, hl with | [_, _, _], _ => rfl,
    a_taken := _, fd_taken := fd_taken, F_taken := F_taken, g_taken := He.glo_ok X G (c.fact 29 (f := .glo "taken") rfl), b_taken := F_taken.bindsN fun _ _ _ _ _ _ us hl => match us, hl with | [_, _, _], _ => rfl,
    a_inner_lines := _, fd_inner_lines := fd_inner_lines, F_inner_lines := F_inner_lines, g_inner_lines := He.glo_ok X G (c.fact 30 (f := .glo "inner_lines") rfl), b_inner_lines := F_inner_lines.bindsN fun _ _ _ _ _ _ us hl => match us, hl with | [_, _, _, _], _ => rfl,
    a_placed := _, fd_placed := fd_placed, F_placed := F_placed, g_placed := He.glo_ok X G (c.fact 31 (f := .glo "placed") rfl), b_placed := F_placed.bindsN fun _ _ _ _ _ _ us hl => match us, hl with | [_, _, _, _, _], _ => rfl,
    a_places := _, fd_places := fd_places, F_places := F_places, g_places := He.glo_ok X G (c.fact 32 (f := .glo "places") rfl), b_places := F_places.bindsN fun _ _ _ _ _ _ us hl => match us, hl with | [_, _, _], _ => rfl,
    a_touched := _, fd_touched := fd_touched, F_touched := F_touched, g_touched := He.glo_ok X G (c.fact 33 (f := .glo "touched") rfl), b_touched := F_touched.bindsN fun _ _ _ _ _ _ us hl => match us, hl with | [_, _, _, _, _], _ => rfl,
    a_is_within := _, fd_is_within := fd_is_within, F_is_within := F_is_within, g_is_within := He.glo_ok X G (c.fact 34 (f := .glo "is_within") rfl), b_is_within := F_is_within.bindsN fun _ _ _ _ _ _ us hl => match us, hl with | [_, _, _, _], _ => rfl,
    a_fits := _, fd_fits := fd_fits, F_fits := F_fits, g_fits := He.glo_ok X G (c.fact 35 (f := .glo "fits") rfl), b_fits := F_fits.bindsN fun _ _ _ _ _ _ us hl => match us, hl with | [_, _, _], _ => rfl,
    a_needs := _, fd_needs := fd_needs, F_needs := F_needs, g_needs := He.glo_ok X G (c.fact 36 (f := .glo "needs") rfl), b_needs := F_needs.bindsN fun _ _ _ _ _ _ us hl => match us, hl with | [_], _ => rfl,
    a_with_leaf := _, fd_with_leaf := fd_with_leaf, F_with_leaf := F_with_leaf, g_with_leaf := He.glo_ok X G (c.fact 37 (f := .glo "with_leaf") rfl), b_with_leaf := F_with_leaf.bindsN fun _ _ _ _ _ _ us hl => match us, hl with | [_, _, _, _], _ => rfl,
    a_changed := _, fd_changed := fd_changed, F_changed := F_changed, g_changed := He.glo_ok X G (c.fact 38 (f := .glo "changed") rfl), b_changed := F_changed.bindsN fun _ _ _ _ _ _ us hl => match us, hl with | [_, _, _, _], _ => rfl,
    a_may_change := _, fd_may_change := fd_may_change, F_may_change := F_may_change, g_may_change := He.glo_ok X G (c.fact 39 (f := .glo "may_change") rfl), b_may_change := F_may_change.bindsN fun _ _ _ _ _ _ us hl => match us, hl with | [_, _], _ => rfl,
    a_turned := _, fd_turned := fd_turned, F_turned := F_turned, g_turned := He.glo_ok X G (c.fact 40 (f := .glo "turned") rfl), b_turned := F_turned.bindsN fun _ _ _ _ _ _ us hl => match us, hl with | [_], _ => rfl,
    a_Lcell_at := _, fd_Lcell_at := fd_Lcell_at, F_Lcell_at := F_Lcell_at, g_Lcell_at := He.glo_ok X G (c.fact 41 (f := .glo "_law_cell_at") rfl), b_Lcell_at := F_Lcell_at.bindsN fun _ _ _ _ _ _ us hl => match us, hl with | [_, _], _ => rfl,
    a_Lmixed := _, fd_Lmixed := fd_Lmixed, F_Lmixed := F_Lmixed, g_Lmixed := He.glo_ok X G (c.fact 42 (f := .glo "_law_mixed") rfl), b_Lmixed := F_Lmixed.bindsN fun _ _ _ _ _ _ us hl => match us, hl with | [_, _], _ => rfl,
    a_Ldrawn := _, fd_Ldrawn := fd_Ldrawn, F_Ldrawn := F_Ldrawn, g_Ldrawn := He.glo_ok X G (c.fact 43 (f := .glo "_law_drawn") rfl), b_Ldrawn := F_Ldrawn.bindsN fun _ _ _ _ _ _ us hl => match us, hl with | [_, _], _ => rfl,
    a_Lspan := _, fd_Lspan := fd_Lspan, F_Lspan := F_Lspan, g_Lspan := He.glo_ok X G (c.fact 44 (f := .glo "_law_span") rfl), b_Lspan := F_Lspan.bindsN fun _ _ _ _ _ _ us hl => match us, hl with | [_], _ => rfl,
    a_Lbox := _, fd_Lbox := fd_Lbox, F_Lbox := F_Lbox, g_Lbox := He.glo_ok X G (c.fact 45 (f := .glo "_law_box") rfl), b_Lbox := F_Lbox.bindsN fun _ _ _ _ _ _ us hl => match us, hl with | [_, _, _], _ => rfl,
    a_Lsizes := _, fd_Lsizes := fd_Lsizes, F_Lsizes := F_Lsizes, g_Lsizes := He.glo_ok X G (c.fact 46 (f := .glo "_law_sizes") rfl), b_Lsizes := F_Lsizes.bindsN fun _ _ _ _ _ _ us hl => match us, hl with | [_, _], _ => rfl,
    a_Lin := _, fd_Lin := fd_Lin, F_Lin := F_Lin, g_Lin := He.glo_ok X G (c.fact 47 (f := .glo "_law_in") rfl), b_Lin := F_Lin.bindsN fun _ _ _ _ _ _ us hl => match us, hl with | [_], _ => rfl,
    a_Lleaves := _, fd_Lleaves := fd_Lleaves, F_Lleaves := F_Lleaves, g_Lleaves := He.glo_ok X G (c.fact 48 (f := .glo "_law_leaves") rfl), b_Lleaves := F_Lleaves.bindsN fun _ _ _ _ _ _ us hl => match us, hl with | [_], _ => rfl,
    a_Lled := _, fd_Lled := fd_Lled, F_Lled := F_Lled, g_Lled := He.glo_ok X G (c.fact 49 (f := .glo "_law_led") rfl), b_Lled := F_Lled.bindsN fun _ _ _ _ _ _ us hl => match us, hl with | [_, _], _ => rfl,
    a_law := _, fd_law := fd_law, F_law := F_law, g_law := He.glo_ok X G (c.fact 50 (f := .glo "law") rfl), b_law := F_law.bindsN fun _ _ _ _ _ _ us hl => match us, hl with | [_], _ => rfl,
    m_isinstance := He.free_ok X G (c.fact 51 (f := .free "isinstance") rfl),
    m_bool := He.free_ok X G (c.fact 52 (f := .free "bool") rfl),
    m_int := He.free_ok X G (c.fact 53 (f := .free "int") rfl),
    m_all := He.free_ok X G (c.fact 54 (f := .free "all") rfl),
    m_len := He.free_ok X G (c.fact 55 (f := .free "len") rfl),
    m_str := He.free_ok X G (c.fact 56 (f := .free "str") rfl),
    m_tuple := He.free_ok X G (c.fact 57 (f := .free "tuple") rfl),
    m_set := He.free_ok X G (c.fact 58 (f := .free "set") rfl),
    m_abs := He.free_ok X G (c.fact 59 (f := .free "abs") rfl),
    m_sum := He.free_ok X G (c.fact 60 (f := .free "sum") rfl),
    m_max := He.free_ok X G (c.fact 61 (f := .free "max") rfl),
    m_any := He.free_ok X G (c.fact 62 (f := .free "any") rfl),
    m_min := He.free_ok X G (c.fact 63 (f := .free "min") rfl),
    m_zip := He.free_ok X G (c.fact 64 (f := .free "zip") rfl),
    m_enumerate := He.free_ok X G (c.fact 65 (f := .free "enumerate") rfl),
    m_sorted := He.free_ok X G (c.fact 66 (f := .free "sorted") rfl),
    m_range := He.free_ok X G (c.fact 67 (f := .free "range") rfl),
    m_list := He.free_ok X G (c.fact 68 (f := .free "list") rfl),
    k_LETTERS := k_LETTERS, c_LETTERS := c_LETTERS,
    k_LONGEST_NAME := k_LONGEST_NAME, c_LONGEST_NAME := c_LONGEST_NAME,
    k_FAR := k_FAR, c_FAR := c_FAR,
    k_MOST_SHARE := k_MOST_SHARE, c_MOST_SHARE := c_MOST_SHARE,
    k_MOST_BOXES := k_MOST_BOXES, c_MOST_BOXES := c_MOST_BOXES,
    k_MOST_PILE := k_MOST_PILE, c_MOST_PILE := c_MOST_PILE,
    k_DEEPEST := k_DEEPEST, c_DEEPEST := c_DEEPEST,
    k_MAIN := _, c_MAIN := He.glo_ok X G (c.fact 76 (f := .glo "MAIN") rfl), d_MAIN := c0.tab 0 (t := ("MAIN", G_MAIN)) rfl,
    k_AXES := _, c_AXES := He.glo_ok X G (c.fact 77 (f := .glo "AXES") rfl), s_AXES := fun H => c0.tup 0 (u := ("AXES", (["wide", "high"] : List Str).map He.Dv.str)) rfl H,
    k_OTHER := _, c_OTHER := He.glo_ok X G (c.fact 78 (f := .glo "OTHER") rfl), d_OTHER := c0.tab 1 (t := ("OTHER", G_OTHER)) rfl,
  }⟩
def spLaw (K : PySem.W.Frag) : Sp := fun vs H Q _ => ∃ (a : Addr) (ns : List Int), vs = [.ref a] ∧ SqL K H a (ns.map V.int) ∧ ns.length ≤ 63 ∧ ∀ H', Q (.bl true) H'
theorem law_ok {P : Program} {w : World} {K : PySem.W.Frag} {mg : Str → Option Value} {base : Heap} (hM : ∀ ns : List Int, ns.length ≤ 63 → M_law [.list (ns.map PyData.int)] = some (.bool true)) (t : T w K mg) :
    FnOk P w K mg base CX0 32 t.a_law t.fd_law ["script"] (spLaw K) :=
  (ok_law t).imp (fun vs H Q E h => by
    obtain ⟨a, ns, rfl, hS, hl, q⟩ := h
    exact ⟨H, _, _, Ex.refl _, .cons (.lst hS (dpa_ints ns)) .nil, rfl, hM ns hl, fun v F' H' g dp => by rw [dp_bl dp]; exact q H'⟩)
end W
open PySem PySem.W PySem.Calls PyProof.Rows
theorem W.finish (hM : ∀ ns : List Int, ns.length ≤ 63 → W.M_law [.list (ns.map PyData.int)] = some (.bool true)) : PySem.Challenge.rw_growbox_k43_whole_other_names.Holds := by
  w_on; o_law
  refine HandSHeadRun.head_any (r := OpenLaw.row PySem.Challenge.rw_growbox_k43_whole_other_names) (q := view (OpenLaw.row PySem.Challenge.rw_growbox_k43_whole_other_names).prog [68]) (H := W.hk) (ob := W.ob) (M := 2470) (loose := W.names) (d := HandSHeadRun.topDef (OpenLaw.row PySem.Challenge.rw_growbox_k43_whole_other_names).prog 68) (kwd := []) W.ob_eq
    (by kernel_rfl) (fun s => by kernel_rfl) W.run (by kernel_rfl) (by kernel_rfl) (by kernel_rfl) (by rfl) (by first | assumption | decide +kernel) (by decide +kernel) ⟨rfl, rfl, rfl, rfl, rfl, by decide +kernel⟩ ?hw ?hc
  case hw => w_witness2
  case hc =>
    refine L2.walk_ofE (l := PySem.Challenge.rw_growbox_k43_whole_other_names) (n := 63) (k := 32) (x := "script") (CX := L2.CX0) rfl (by decide) (by kernel_rfl) ⟨rfl, by decide, by decide⟩ ?F (fun _ _ _ _ z => z)
    intro w mg fa h Y G hmg0
    obtain ⟨K, KX, c⟩ := Y
    have hmg : mg ("law" : PySem.Str) = some (.ref fa) := by
      have e : (HandSHeadRun.topDef (OpenLaw.row PySem.Challenge.rw_growbox_k43_whole_other_names).prog 68).name = ("law" : PySem.Str) := by kernel_rfl
      rw [← e]
      exact hmg0
    obtain ⟨t⟩ := W.tOf KX G c
    have e := hmg.symm.trans t.g_law
    cases e
    have b := L2.FunD.bindsA (ps := ["script"]) t.F_law fun _ _ _ _ _ _ us hl => match us, hl with | [_], _ => rfl
    exact ⟨K, t.fd_law, W.spLaw K, KX, fun s v => b s [v] rfl, fun H a ns hl _ hS => ⟨a, ns, rfl, hS, hl, fun _ => rfl⟩, fun base _ _ => W.law_ok hM t⟩

namespace W
open PySem L2 DL

/-! levels: how far each moves, all together, the least level -/
abbrev Mv := Int × Option Int
def Mv.Ok (p : Mv) : Prop := 0 ≤ p.1 ∧ ∀ b, p.2 = some b → 0 ≤ b
def cMv (p : Mv) (t : Rat) : Rat := if 0 < p.1 then (match p.2 with
  | none => t * (p.1 : Rat)
  | some b => min (t * (p.1 : Rat)) (b : Rat)) else 0
def rtMv (p : Mv) (t : Rat) : Int := if 0 < p.1 then (match p.2 with
  | none => p.1
  | some b => if t < (b : Rat) / (p.1 : Rat) then p.1 else 0) else 0
def stMv (p : Mv) : Option Rat := if 0 < p.1 then p.2.map (fun b : Int => (b : Rat) / (p.1 : Rat)) else none
theorem rpos {g : Int} (h : 0 < g) : (0 : Rat) < (g : Rat) := by exact_mod_cast h
theorem rnn {g : Int} (h : 0 ≤ g) : (0 : Rat) ≤ (g : Rat) := by exact_mod_cast h
theorem cMv_mono {p : Mv} {a b : Rat} (hp : p.Ok) (h : a ≤ b) : cMv p a ≤ cMv p b := by
  rcases p with ⟨g, o⟩
  unfold cMv
  by_cases hg : 0 < g
  · have := Rat.mul_le_mul_of_nonneg_right h (rnn (Int.le_of_lt hg))
    cases o <;> simp only [hg, if_true] <;> grind
  · simp only [hg, if_false]; grind
theorem cMv_nn {p : Mv} {a : Rat} (hp : p.Ok) (h : 0 ≤ a) : 0 ≤ cMv p a := by
  rcases p with ⟨g, o⟩
  unfold cMv
  by_cases hg : 0 < g
  · have := Rat.mul_nonneg h (rnn (Int.le_of_lt hg))
    cases o with
    | none => simp only [hg, if_true]; exact this
    | some b =>
      have hb := rnn (hp.2 b rfl)
      simp only [hg, if_true]
      grind
  · simp only [hg, if_false]; grind
theorem cMv_0 {p : Mv} (hp : p.Ok) : cMv p 0 = 0 := by
  rcases p with ⟨g, o⟩
  unfold cMv
  by_cases hg : 0 < g
  · cases o with
    | none => simp only [hg, if_true]; grind
    | some b =>
      have hb := rnn (hp.2 b rfl)
      simp only [hg, if_true]
      grind
  · simp only [hg, if_false]
theorem cMv_le {p : Mv} {a : Rat} {b : Int} (hb : p.2 = some b) (hp : p.Ok) : cMv p a ≤ b := by
  rcases p with ⟨g, o⟩
  simp only at hb
  subst hb
  have := rnn (hp.2 b rfl)
  unfold cMv
  by_cases hg : 0 < g
  · simp only [hg, if_true]; grind
  · simp only [hg, if_false]; exact this
theorem rtMv_nn {p : Mv} {a : Rat} : 0 ≤ rtMv p a := by
  unfold rtMv
  split
  · split
    · omega
    · split <;> omega
  · omega
/-- between two levels with no stop between: straight -/
theorem cMv_lin {p : Mv} {a t : Rat} (h0 : 0 ≤ a) (h1 : a ≤ t) (hs : ∀ s, stMv p = some s → s ≤ a ∨ t ≤ s) : cMv p t = cMv p a + (t - a) * (rtMv p a : Rat) := by
  rcases p with ⟨g, o⟩
  unfold cMv rtMv
  unfold stMv at hs
  by_cases hg : 0 < g
  · have hgr := rpos hg
    have hm := Rat.mul_le_mul_of_nonneg_right h1 (Rat.le_of_lt hgr)
    cases o with
    | none => simp only [hg, if_true]; grind
    | some b =>
      simp only [hg, if_true, Option.map_some, Option.some.injEq, forall_eq'] at hs ⊢
      by_cases hc : a < (b : Rat) / (g : Rat)
      · simp only [hc, if_true]
        have h2 := (Rat.lt_div_iff hgr).mp hc
        have h3 : t ≤ (b : Rat) / (g : Rat) := by rcases hs with h | h <;> grind
        have h4 : t * (g : Rat) ≤ (b : Rat) := by
          have := Rat.mul_le_mul_of_nonneg_right h3 (Rat.le_of_lt hgr)
          rw [Rat.div_mul_cancel (by grind)] at this
          exact this
        grind
      · simp only [hc, if_false]
        have h2 : (b : Rat) ≤ a * (g : Rat) := by
          have : (b : Rat) / (g : Rat) ≤ a := by grind
          have := Rat.mul_le_mul_of_nonneg_right this (Rat.le_of_lt hgr)
          rw [Rat.div_mul_cancel (by grind)] at this
          exact this
        simp only [Rat.intCast_zero]
        grind
  · simp only [hg, if_false, Rat.intCast_zero]; grind
/-- all together -/
def chg (L : List Mv) (t : Rat) : Rat := (L.map fun p => cMv p t).sum
def rte (L : List Mv) (t : Rat) : Int := (L.map fun p => rtMv p t).sum
def sts (L : List Mv) : List Rat := L.filterMap stMv
theorem chg_cons {p : Mv} {L : List Mv} {t : Rat} : chg (p :: L) t = cMv p t + chg L t := by simp [chg]
theorem rte_cons {p : Mv} {L : List Mv} {t : Rat} : rte (p :: L) t = rtMv p t + rte L t := by simp [rte]
theorem chg_nil {t : Rat} : chg [] t = 0 := rfl
theorem chg_append {L M : List Mv} {t : Rat} : chg (L ++ M) t = chg L t + chg M t := by
  induction L with
  | nil => rw [List.nil_append, chg_nil]; grind
  | cons p L ih => rw [List.cons_append, chg_cons, chg_cons, ih]; grind
theorem chg_mono {L : List Mv} {a b : Rat} (hp : ∀ p ∈ L, p.Ok) (h : a ≤ b) : chg L a ≤ chg L b := by
  induction L with
  | nil => simp [chg_nil]
  | cons p L ih =>
    rw [chg_cons, chg_cons]
    have h1 := cMv_mono (hp p List.mem_cons_self) h
    have h2 := ih fun q hq => hp q (List.mem_cons_of_mem _ hq)
    grind
theorem chg_nn {L : List Mv} {a : Rat} (hp : ∀ p ∈ L, p.Ok) (h : 0 ≤ a) : 0 ≤ chg L a := by
  induction L with
  | nil => simp [chg_nil]
  | cons p L ih =>
    rw [chg_cons]
    have h1 := cMv_nn (hp p List.mem_cons_self) h
    have h2 := ih fun q hq => hp q (List.mem_cons_of_mem _ hq)
    grind
theorem chg_0 {L : List Mv} (hp : ∀ p ∈ L, p.Ok) : chg L 0 = 0 := by
  induction L with
  | nil => simp [chg_nil]
  | cons p L ih =>
    rw [chg_cons, cMv_0 (hp p List.mem_cons_self), ih fun q hq => hp q (List.mem_cons_of_mem _ hq)]
    grind
theorem rte_nn {L : List Mv} {a : Rat} : 0 ≤ rte L a := by
  induction L with
  | nil => simp [rte]
  | cons p L ih =>
    rw [rte_cons]
    have := rtMv_nn (p := p) (a := a)
    omega
theorem chg_lin {L : List Mv} {a t : Rat} (h0 : 0 ≤ a) (h1 : a ≤ t) (hs : ∀ s ∈ sts L, s ≤ a ∨ t ≤ s) : chg L t = chg L a + (t - a) * (rte L a : Rat) := by
  induction L with
  | nil => simp only [chg_nil, rte, List.map_nil, List.sum_nil, Rat.intCast_zero]; grind
  | cons p L ih =>
    rw [chg_cons, chg_cons, rte_cons, Rat.intCast_add]
    have i1 := cMv_lin (p := p) h0 h1 fun s hs' => hs s (List.mem_filterMap.mpr ⟨p, List.mem_cons_self, hs'⟩)
    have i2 := ih fun s hs' => hs s (by
      obtain ⟨q, hq, e⟩ := List.mem_filterMap.mp hs'
      exact List.mem_filterMap.mpr ⟨q, List.mem_cons_of_mem _ hq, e⟩)
    grind
/-- all at their bounds -/
def bdMv (p : Mv) : Option Int := if 0 < p.1 then p.2 else some 0
def bdV (p : Mv) : Int := (bdMv p).getD 0
def allBd (L : List Mv) : Prop := ∀ p ∈ L, (bdMv p).isSome = true
theorem cMv_bd {p : Mv} {a : Rat} (hp : p.Ok) (h : (bdMv p).isSome = true) : cMv p a ≤ bdV p := by
  rcases p with ⟨g, o⟩
  by_cases hg : 0 < g
  · simp only [bdMv, hg, if_true] at h
    cases o with
    | none => cases h
    | some b =>
      have e : bdV (g, some b) = b := by simp [bdV, bdMv, hg]
      rw [e]
      exact cMv_le rfl hp
  · simp [bdV, bdMv, cMv, hg]
theorem rt0_bd {p : Mv} {a : Rat} (h : rtMv p a = 0) : (bdMv p).isSome = true ∧ cMv p a = bdV p := by
  rcases p with ⟨g, o⟩
  by_cases hg : 0 < g
  · have hgr := rpos hg
    simp only [rtMv, hg, if_true] at h
    cases o with
    | none => simp only at h; omega
    | some b =>
      simp only at h
      have e : bdV (g, some b) = b := by simp [bdV, bdMv, hg]
      refine ⟨by simp [bdMv, hg], ?_⟩
      rw [e]
      split at h
      · omega
      · rename_i hc
        have h2 : (b : Rat) ≤ a * (g : Rat) := by
          have : (b : Rat) / (g : Rat) ≤ a := by grind
          have := Rat.mul_le_mul_of_nonneg_right this (Rat.le_of_lt hgr)
          rw [Rat.div_mul_cancel (by grind)] at this
          exact this
        simp only [cMv, hg, if_true]
        grind
  · simp [bdV, bdMv, cMv, hg]
def bds (L : List Mv) : Int := (L.map bdV).sum
theorem chg_bd {L : List Mv} {a : Rat} (hp : ∀ p ∈ L, p.Ok) (h : allBd L) : chg L a ≤ bds L := by
  induction L with
  | nil => simp [chg_nil, bds]
  | cons p L ih =>
    have h1 := cMv_bd (a := a) (hp p List.mem_cons_self) (h p List.mem_cons_self)
    have h2 := ih (fun q hq => hp q (List.mem_cons_of_mem _ hq)) fun q hq => h q (List.mem_cons_of_mem _ hq)
    have e : bds (p :: L) = bdV p + bds L := by simp [bds]
    rw [chg_cons, e, Rat.intCast_add]
    grind
theorem rte0_bd {L : List Mv} {a : Rat} (h : rte L a = 0) : allBd L ∧ chg L a = bds L := by
  induction L with
  | nil => exact ⟨fun p hp => by simp at hp, by simp [chg_nil, bds]⟩
  | cons p L ih =>
    rw [rte_cons] at h
    have n1 := rtMv_nn (p := p) (a := a)
    have n2 := rte_nn (L := L) (a := a)
    obtain ⟨i1, i2⟩ := ih (by omega)
    obtain ⟨j1, j2⟩ := rt0_bd (p := p) (a := a) (by omega)
    have e : bds (p :: L) = bdV p + bds L := by simp [bds]
    refine ⟨fun q hq => ?_, ?_⟩
    · rcases List.mem_cons.mp hq with rfl | hq
      · exact j1
      · exact i1 q hq
    · rw [chg_cons, e, Rat.intCast_add, i2, j2]
/-- the least level at which all together move by c, or none, and then all bounds are too little -/
def IsLvl (L : List Mv) (c : Rat) : Option Rat → Prop
  | none => allBd L ∧ (bds L : Rat) < c
  | some t => 0 ≤ t ∧ chg L t = c ∧ ∀ s, 0 ≤ s → s < t → chg L s < c
theorem lvl_unique {L : List Mv} {c : Rat} {o o' : Option Rat} (hp : ∀ p ∈ L, p.Ok) (h : IsLvl L c o) (h' : IsLvl L c o') : o = o' := by
  cases o with
  | none =>
    cases o' with
    | none => rfl
    | some t =>
      have := chg_bd (a := t) hp h.1
      have e1 := h.2
      have e2 := h'.2.1
      grind
  | some t =>
    cases o' with
    | none =>
      have := chg_bd (a := t) hp h'.1
      have e1 := h'.2
      have e2 := h.2.1
      grind
    | some t' =>
      obtain ⟨a1, a2, a3⟩ := h
      obtain ⟨b1, b2, b3⟩ := h'
      by_cases h1 : t < t'
      · have := b3 t a1 h1
        grind
      · by_cases h2 : t' < t
        · have := a3 t' b1 h2
          grind
        · congr 1
          grind
/-- one step: from a level, with all below, to the next stop -/
structure At (L : List Mv) (c : Rat) (a : Rat) : Prop where
  nn : 0 ≤ a
  le : chg L a ≤ c
  bl : ∀ s, 0 ≤ s → s < a → chg L s < c
theorem At.here {L : List Mv} {c a : Rat} (h : At L c a) (he : chg L a = c) : IsLvl L c (some a) := ⟨h.nn, he, h.bl⟩
theorem At.goal {L : List Mv} {c a t : Rat} (h : At L c a) (hn : chg L a ≠ c) (hr : 0 < rte L a) (ht : t = a + (c - chg L a) / (rte L a : Rat)) (hs : ∀ s ∈ sts L, s ≤ a ∨ t ≤ s) : IsLvl L c (some t) := by
  have hrr := rpos hr
  have hle := h.le
  have hnn := h.nn
  have hd : (t - a) * (rte L a : Rat) = c - chg L a := by
    have : t - a = (c - chg L a) / (rte L a : Rat) := by grind
    rw [this, Rat.div_mul_cancel (by grind)]
  have hta : a < t := by
    have : (0 : Rat) < (t - a) * (rte L a : Rat) := by grind
    have h0 : (0 : Rat) * (rte L a : Rat) < (t - a) * (rte L a : Rat) := by grind
    have := Rat.lt_of_mul_lt_mul_right h0 (Rat.le_of_lt hrr)
    grind
  refine ⟨by grind, ?_, fun s s0 st => ?_⟩
  · rw [chg_lin h.nn (by grind) hs, hd]
    grind
  · by_cases hsa : s < a
    · exact h.bl s s0 hsa
    · rw [chg_lin (t := s) h.nn (by grind) fun x hx => by rcases hs x hx with h | h <;> grind]
      have : (s - a) * (rte L a : Rat) < (t - a) * (rte L a : Rat) := Rat.mul_lt_mul_of_pos_right (by grind) hrr
      grind
theorem At.next {L : List Mv} {c a b : Rat} (hp : ∀ p ∈ L, p.Ok) (h : At L c a) (hn : chg L a ≠ c) (hab : a ≤ b) (hs : ∀ s ∈ sts L, s ≤ a ∨ b ≤ s) (hg : rte L a = 0 ∨ b < a + (c - chg L a) / (rte L a : Rat)) :
    At L c b ∧ chg L b = chg L a + (b - a) * (rte L a : Rat) := by
  have hl := chg_lin h.nn hab hs
  have hle := h.le
  have hnn := h.nn
  have hlt : chg L b < c := by
    by_cases h0 : rte L a = 0
    · rw [hl, h0]
      simp only [Rat.intCast_zero]
      grind
    · have hg : b < a + (c - chg L a) / (rte L a : Rat) := by rcases hg with h | h; exact absurd h h0; exact h
      have hr : 0 < rte L a := by have := rte_nn (L := L) (a := a); omega
      have hrr := rpos hr
      have : (b - a) * (rte L a : Rat) < c - chg L a := by
        have h1 : b - a < (c - chg L a) / (rte L a : Rat) := by grind
        exact (Rat.lt_div_iff hrr).mp h1
      rw [hl]
      grind
  refine ⟨⟨by grind, Rat.le_of_lt hlt, fun s _ hs => ?_⟩, hl⟩
  have := chg_mono (L := L) hp (Rat.le_of_lt hs)
  grind
theorem At.last {L : List Mv} {c a : Rat} (h : At L c a) (hn : chg L a ≠ c) (hr : rte L a = 0) : IsLvl L c none := by
  obtain ⟨h1, h2⟩ := rte0_bd hr
  refine ⟨h1, ?_⟩
  have := h.le
  grind

/-! sizes of fractions -/
def Sz (k : Nat) (q : Rat) : Prop := q.num.natAbs < 2 ^ k ∧ q.den < 2 ^ k
theorem Sz.mono {k m : Nat} {q : Rat} (h : Sz k q) (hm : k ≤ m) : Sz m q := by
  have := Nat.pow_le_pow_right (n := 2) (by decide) hm
  exact ⟨Nat.lt_of_lt_of_le h.1 this, Nat.lt_of_lt_of_le h.2 this⟩
theorem sz_mk {k : Nat} {u : Int} {d : Nat} (h1 : u.natAbs < 2 ^ k) (h2 : d < 2 ^ k) (hd : 0 < d) : Sz k (mkRat u d) := by
  constructor
  · rw [Rat.num_mkRat, if_neg (by omega)]
    refine Nat.lt_of_le_of_lt ?_ h1
    have hdv : ((d.gcd u.natAbs : Nat) : Int) ∣ u := Int.ofNat_dvd_left.mpr (Nat.gcd_dvd_right d u.natAbs)
    obtain ⟨c, hc⟩ := hdv
    have hg : 0 < d.gcd u.natAbs := Nat.gcd_pos_of_pos_left _ hd
    generalize d.gcd u.natAbs = g at hc hg ⊢
    subst hc
    rw [Int.mul_ediv_cancel_left _ (by omega), Int.natAbs_mul]
    exact Nat.le_mul_of_pos_left _ (by simpa using hg)
  · rw [Rat.den_mkRat, if_neg (by omega)]
    exact Nat.lt_of_le_of_lt (Nat.div_le_self _ _) h2
theorem pow_ml {a b k m : Nat} (h1 : a < 2 ^ k) (h2 : b < 2 ^ m) : a * b < 2 ^ (k + m) := by
  rw [Nat.pow_add]
  exact Nat.mul_lt_mul'' h1 h2
theorem natAbs_ml {a : Int} {b k m : Nat} (h1 : a.natAbs < 2 ^ k) (h2 : b < 2 ^ m) : (a * (b : Int)).natAbs < 2 ^ (k + m) := by
  rw [Int.natAbs_mul, Int.natAbs_natCast]
  exact pow_ml h1 h2
theorem natAbs_mi {a b : Int} {k m : Nat} (h1 : a.natAbs < 2 ^ k) (h2 : b.natAbs < 2 ^ m) : (a * b).natAbs < 2 ^ (k + m) := by
  rw [Int.natAbs_mul]
  exact pow_ml h1 h2
theorem natAbs_ad {a b : Int} {k : Nat} (h1 : a.natAbs < 2 ^ k) (h2 : b.natAbs < 2 ^ k) : (a + b).natAbs < 2 ^ (k + 1) := by
  have := Int.natAbs_add_le a b
  rw [Nat.pow_succ]
  omega
theorem add_num_sz {k m : Nat} {x y : Rat} (hx : Sz k x) (hy : Sz m y) : (x.num * y.den + y.num * x.den).natAbs < 2 ^ (k + m + 1) := by
  have h1 := natAbs_ml hx.1 hy.2
  have h2 := natAbs_ml hy.1 hx.2
  rw [Nat.add_comm m k] at h2
  exact natAbs_ad h1 h2
theorem sz_add {k m : Nat} {x y : Rat} (hx : Sz k x) (hy : Sz m y) : Sz (k + m + 1) (x + y) := by
  rw [Rat.add_def']
  refine sz_mk (add_num_sz hx hy) ?_ (Nat.mul_pos x.den_pos y.den_pos)
  have := pow_ml hx.2 hy.2
  rw [Nat.pow_succ]
  omega
theorem sz_neg {k : Nat} {x : Rat} (h : Sz k x) : Sz k (-x) := ⟨by rw [Rat.neg_num, Int.natAbs_neg]; exact h.1, h.2⟩
theorem sz_int {k : Nat} {x : Int} (h : x.natAbs < 2 ^ k) (hk : 0 < k) : Sz k (x : Rat) := ⟨h, by
  show 1 < 2 ^ k
  exact Nat.one_lt_two_pow (by omega)⟩
theorem rat_mul_int (q : Rat) (g : Int) : mkRat (q.num * g) q.den = q * (g : Rat) := by
  rw [Rat.mul_def']
  show _ = mkRat (q.num * g) (q.den * 1)
  rw [Nat.mul_one]
theorem rat_div_int (q : Rat) {g : Int} (h : 0 < g) : mkRat q.num (q.den * g.toNat) = q / (g : Rat) := by
  rw [Rat.mkRat_eq_div]
  have hq : q = (q.num : Rat) / (q.den : Rat) := by rw [← Rat.mkRat_eq_div, Rat.mkRat_self]
  have hd : (q.den : Rat) ≠ 0 := by
    have := q.den_nz
    exact_mod_cast this
  have hg : (g : Rat) ≠ 0 := by
    have : g ≠ 0 := by omega
    exact_mod_cast this
  have e : ((q.den * g.toNat : Nat) : Rat) = (q.den : Rat) * (g : Rat) := by
    have : ((q.den * g.toNat : Nat) : Int) = (q.den : Int) * g := by
      rw [Int.natCast_mul, Int.toNat_of_nonneg (by omega)]
    exact_mod_cast this
  rw [e]
  generalize (q.den : Rat) = d at *
  generalize (q.num : Rat) = n at *
  subst hq
  grind
theorem sz_mul {k m : Nat} {x : Rat} {g : Int} (hx : Sz k x) (hg : g.natAbs < 2 ^ m) : Sz (k + m) (x * (g : Rat)) := by
  rw [← rat_mul_int]
  exact sz_mk (natAbs_mi hx.1 hg) (Nat.lt_of_lt_of_le hx.2 (Nat.pow_le_pow_right (by decide) (by omega))) x.den_pos
theorem sz_div {k m : Nat} {x : Rat} {g : Int} (hx : Sz k x) (hg : g.natAbs < 2 ^ m) (h : 0 < g) : Sz (k + m) (x / (g : Rat)) := by
  rw [← rat_div_int x h]
  refine sz_mk (Nat.lt_of_lt_of_le hx.1 (Nat.pow_le_pow_right (by decide) (by omega))) (pow_ml hx.2 (by omega)) (Nat.mul_pos x.den_pos (by omega))
theorem sz_mulR {k m : Nat} {x y : Rat} (hx : Sz k x) (hy : Sz m y) : Sz (k + m) (x * y) := by
  rw [Rat.mul_def']
  exact sz_mk (natAbs_mi hx.1 hy.1) (pow_ml hx.2 hy.2) (Nat.mul_pos x.den_pos y.den_pos)
theorem sz_min {k : Nat} {x y : Rat} (hx : Sz k x) (hy : Sz k y) : Sz k (min x y) := by
  by_cases h : x ≤ y
  · rw [Rat.min_def, if_pos h]; exact hx
  · rw [Rat.min_def, if_neg h]; exact hy
/-! fractions in rising order -/
theorem mem_ins {α : Type} {n : Nat} {x y : α} {xs : List α} : y ∈ xs.take n ++ [x] ++ xs.drop n ↔ y = x ∨ y ∈ xs := by
  conv => rhs; rw [← List.take_append_drop n xs]
  simp only [List.mem_append, List.mem_singleton]
  grind
theorem ins_sorted {x : Rat} : ∀ {xs : List Rat}, xs.Pairwise (· ≤ ·) → (xs.take (xs.filter (fun y => decide (y < x))).length ++ [x] ++ xs.drop (xs.filter (fun y => decide (y < x))).length).Pairwise (· ≤ ·)
  | [], _ => by simp
  | y :: ys, h => by
    rw [List.pairwise_cons] at h
    by_cases hy : y < x
    · have ih := ins_sorted (x := x) h.2
      have e : (y :: ys).filter (fun y => decide (y < x)) = y :: ys.filter (fun y => decide (y < x)) := by simp [hy]
      rw [e, List.length_cons, List.take_succ_cons, List.drop_succ_cons, List.cons_append, List.cons_append, List.pairwise_cons]
      refine ⟨fun z hz => ?_, ih⟩
      rcases mem_ins.mp hz with rfl | hz
      · exact Rat.le_of_lt hy
      · exact h.1 z hz
    · have e : (y :: ys).filter (fun y => decide (y < x)) = [] := by
        rw [List.filter_eq_nil_iff]
        intro z hz
        rcases List.mem_cons.mp hz with rfl | hz
        · simpa using hy
        · have := h.1 z hz
          simp only [decide_eq_true_eq]
          grind
      rw [e]
      simp only [List.length_nil, List.take_zero, List.drop_zero, List.nil_append, List.singleton_append]
      rw [List.pairwise_cons]
      refine ⟨fun z hz => ?_, List.pairwise_cons.mpr h⟩
      rcases List.mem_cons.mp hz with rfl | hz
      · grind
      · have := h.1 z hz
        grind

/-! the law's draws -/
theorem cell_eq (ns : List Int) (k : Nat) : M_Lcell_at [.list (ns.map .int), .int k] = some (.int (ns.getD k 0)) := by
  simp -implicitDefEqProofs [M_Lcell_at, D_Lcell_at, startE]
  by_cases h : k < ns.length
  · simp [h, atI_pos]
  · have h' : ns.length ≤ k := by omega
    simp [h, h']
theorem mixed_ex (ns : List Int) (k : Nat) (hk : k < 1000) : ∃ m : Int, M_Lmixed [.list (ns.map .int), .int k] = some (.int m) ∧ 0 ≤ m ∧ m < 2147483629 := by
  simp -implicitDefEqProofs [M_Lmixed, D_Lmixed, startE, cell_eq, mul_l (a := 7919), mul_r (b := 48271), mod_ok (b := 2147483647), mod_ok (b := 2147483629), mul_l (a := 7)]
  generalize hd : (ns[k]?.getD 0 + 7919 * (k : Int) + 1) * 48271 % 2147483647 = d
  have h0 : 0 ≤ d := by omega
  have h1 : d < 2147483647 := by omega
  rw [mul_l (by omega) (by omega)]
  simp [mod_ok]
  exact ⟨Int.emod_nonneg _ (by decide), Int.emod_lt_of_pos _ (by decide)⟩

theorem drawn_ex (n k : Int) : ∃ m : Int, M_Ldrawn [.int n, .int k] = some (.int m) ∧ 0 ≤ m ∧ m < 2147483629 := by
  simp -implicitDefEqProofs [M_Ldrawn, D_Ldrawn, startE, mul_l (a := 104729), mul_r (b := 69621), mod_ok (b := 2147483647), mod_ok (b := 2147483629), mul_l (a := 3)]
  generalize hd : (n + 104729 * k + 17) * 69621 % 2147483647 = d
  have h0 : 0 ≤ d := by omega
  have h1 : d < 2147483647 := by omega
  rw [mul_l (by omega) (by omega)]
  simp [mod_ok]
  exact ⟨Int.emod_nonneg _ (by decide), Int.emod_lt_of_pos _ (by decide)⟩

/-! spans -/
structure Spn where
  lo : Int
  wi : Int
  mo : Option Int
  gr : Int
  sh : Int
def optD : Option Int → D
  | none => .none
  | some x => .int x
def spD (s : Spn) : D := .tuple [.int s.lo, .int s.wi, optD s.mo, .int s.gr, .int s.sh]
def loV (s : Spn) : Int := if 0 < s.sh then s.lo else s.wi
def toV (s : Spn) : Option Int := if 0 < s.gr then s.mo else some s.wi
/-- well formed -/
structure Spn.Ok (s : Spn) : Prop where
  lo0 : 0 ≤ s.lo
  low : s.lo ≤ s.wi
  top : ∀ m, s.mo = some m → s.wi ≤ m
  gr0 : 0 ≤ s.gr
  sh0 : 0 ≤ s.sh
/-- small -/
structure Spn.Sm (s : Spn) : Prop where
  wi : s.wi ≤ 999
  mo : ∀ m, s.mo = some m → m ≤ 999
  gr : s.gr ≤ 9
  sh : s.sh ≤ 9
theorem optD_none (o : Option Int) : isND (optD o) = some (.bool o.isNone) := by cases o <;> rfl
theorem optD_not (o : Option Int) : notND (optD o) = some (.bool o.isSome) := by cases o <;> rfl
theorem shp_opt (n : Nat) (o : Option Int) : shp n (optD o) = true := by cases o <;> cases n <;> rfl
theorem shp_sp (s : Spn) : shp 1 (spD s) = true := by
  rcases s with ⟨a, b, _ | c, d, e⟩ <;> rfl
theorem eqv_opt (a b : Option Int) : PyData.eqv (optD a) (optD b) = true ↔ a = b := by
  cases a <;> cases b <;> simp [optD, PyData.eqv]
theorem i1 (s : Spn) : atI [PyData.int s.lo, .int s.wi, optD s.mo, .int s.gr, .int s.sh] 1 = some (.int s.wi) := rfl
theorem ix0 (s : Spn) : ixD (spD s) (.int 0) = some (.int s.lo) := rfl
theorem ix1 (s : Spn) : ixD (spD s) (.int 1) = some (.int s.wi) := rfl
theorem ix2 (s : Spn) : ixD (spD s) (.int 2) = some (optD s.mo) := rfl
theorem ix3 (s : Spn) : ixD (spD s) (.int 3) = some (.int s.gr) := rfl
theorem ix4 (s : Spn) : ixD (spD s) (.int 4) = some (.int s.sh) := rfl
theorem optDn : optD none = .none := (rfl)
theorem optDs {x : Int} : optD (some x) = .int x := (rfl)

theorem lowof_eq (s : Spn) : M_low_of [spD s] = some (.int (loV s)) := by
  by_cases h : 0 < s.sh
  · simp -implicitDefEqProofs [M_low_of, D_low_of, startE, ix0, ix1, ix4, h, loV]
  · simp -implicitDefEqProofs [M_low_of, D_low_of, startE, ix0, ix1, ix4, h, loV]
theorem topof_eq (s : Spn) : M_top_of [spD s] = some (optD (toV s)) := by
  by_cases h : 0 < s.gr
  · simp -implicitDefEqProofs [M_top_of, D_top_of, startE, ix1, ix2, ix3, h, toV]
  · simp -implicitDefEqProofs [M_top_of, D_top_of, startE, ix1, ix2, ix3, h, toV, optD]

theorem atO4 {a b c : Int} {r : Int} (h1 : 0 ≤ r) (h2 : r < 4) : ∃ o : Option Int, (o = none ∨ o = some a ∨ o = some b ∨ o = some c) ∧ atI [PyData.none, .int a, .int b, .int c] r = some (optD o) := by
  obtain rfl | rfl | rfl | rfl : r = 0 ∨ r = 1 ∨ r = 2 ∨ r = 3 := by omega
  · exact ⟨none, .inl rfl, rfl⟩
  · exact ⟨some a, .inr (.inl rfl), rfl⟩
  · exact ⟨some b, .inr (.inr (.inl rfl)), rfl⟩
  · exact ⟨some c, .inr (.inr (.inr rfl)), rfl⟩
theorem span_ex {n : Int} (hn : 0 ≤ n) : ∃ s : Spn, M_Lspan [.int n] = some (spD s) ∧ s.Ok ∧ s.Sm := by
  obtain ⟨a, ha, pa⟩ := pick3 (a := 21) (b := 6) (c := 200) (r := n / 8 % 3) (by omega) (by omega)
  obtain ⟨b, hb, pb⟩ := pick3 (a := 21) (b := 1) (c := 90) (r := n / 512 % 3) (by omega) (by omega)
  have ha0 : 0 < a := by omega
  have hb0 : 0 < b := by omega
  have a1 := Int.emod_nonneg n (b := a) (by omega)
  have a2 := Int.emod_lt_of_pos n ha0
  have b1 := Int.emod_nonneg (n / 64) (b := b) (by omega)
  have b2 := Int.emod_lt_of_pos (n / 64) hb0
  obtain ⟨o, ho, po⟩ := atO4 (a := n % a + n / 64 % b + n / 4096 % 30) (b := n % a + n / 64 % b) (c := n % a + n / 64 % b + n / 4096 % 300) (r := n / 131072 % 4) (by omega) (by omega)
  obtain ⟨g, hg, pg⟩ := pick4 (a := 0) (b := 1) (c := 2) (d := 3) (r := n / 524288 % 4) (by omega) (by omega)
  obtain ⟨h, hh, ph⟩ := pick4 (a := 1) (b := 0) (c := 2) (d := 9) (r := n / 2097152 % 4) (by omega) (by omega)
  refine ⟨⟨n % a, n % a + n / 64 % b, o, g, h⟩, ?_, ⟨by simpa using a1, by simp; omega, ?_, by simp; omega, by simp; omega⟩, ⟨by simp; omega, ?_, by simp; omega, by simp; omega⟩⟩
  · simp -implicitDefEqProofs [M_Lspan, D_Lspan, startE, fdiv_ok (b := 8), mod_ok (b := 3), pa, mod_ok ha0, fdiv_ok (b := 64), fdiv_ok (b := 512), pb, mod_ok hb0, fdiv_ok (b := 4096), mod_ok (b := 30), mod_ok (b := 300), fdiv_ok (b := 131072), mod_ok (b := 4), po, fdiv_ok (b := 524288), pg, fdiv_ok (b := 2097152), ph, spD]
  · intro m hm
    simp at hm
    rcases ho with h | h | h | h <;> rw [h] at hm <;> cases hm <;> (try dsimp only) <;> omega
  · intro m hm
    simp at hm
    rcases ho with h | h | h | h <;> rw [h] at hm <;> cases hm <;> (try dsimp only) <;> omega

/-! fractions -/
def frD (q : Rat) : D := .tuple [.int q.num, .int (q.den : Int)]
theorem shp_fr (q : Rat) : shp 1 (frD q) = true := rfl
theorem mul_w {a b : Int} (ha : a.natAbs < 2 ^ 4000) (hb : b.natAbs < 2 ^ 4000) : mulD (.int a) (.int b) = some (.int (a * b)) := by
  refine mul_ok ?_
  unfold mulOk
  rw [decide_eq_true ha, decide_eq_true hb]
  simp
theorem p4000 {a k : Nat} (h : a < 2 ^ k) (hk : k ≤ 4000) : a < 2 ^ 4000 := Nat.lt_of_lt_of_le h (Nat.pow_le_pow_right (by decide) hk)
theorem whileD_s {c : FB} {body : FS} {n : Nat} {e : DEnv} : whileD c body (n + 1) e = (c e).bind fun k => if k = true then (body e).bind fun r => match r with
      | .nx e2 => whileD c body n e2
      | .ct e2 => whileD c body n e2
      | .bk e2 => some (.nx e2)
      | .rt v => some (.rt v)
    else some (.nx e) := (rfl)
theorem gcd_while (X Y : Option Sl) : ∀ (n a b : Nat), a < n → whileD (tst (c2 gtD (vr 2) (cst (.int 0)))) (sPar 2 3 (consA (c2 modD (vr 3) (vr 2)) (consA (vr 2) nilA))) n [X, Y, some (.sh (.int (a : Int))), some (.sh (.int (b : Int)))] = some (.nx [X, Y, some (.sh (.int 0)), some (.sh (.int (a.gcd b : Nat)))])
  | 0, a, b, h => by omega
  | n + 1, a, b, h => by
    rw [whileD_s]
    by_cases h0 : a = 0
    · subst h0
      simp -implicitDefEqProofs [Nat.gcd_zero_left]
    · have hp : 0 < (a : Int) := by omega
      have hm : modD (.int (b : Int)) (.int (a : Int)) = some (.int ((b % a : Nat) : Int)) := by rw [mod_ok hp]; rfl
      have ih := gcd_while X Y n (b % a) a (by have := Nat.mod_lt b (Nat.pos_of_ne_zero h0); omega)
      rw [← Nat.gcd_rec] at ih
      have hp' : 0 < a := by omega
      simp -implicitDefEqProofs [hp', hm, -Int.natCast_emod]
      exact ih
theorem abs_nat (u : Int) : (if u < 0 then -u else u) = (u.natAbs : Int) := by split <;> omega
theorem fdiv_w {a b : Int} (h1 : 0 < b) (h2 : b.natAbs < 2 ^ 4000) : fdivD (.int a) (.int b) = some (.int (a / b)) := by
  show (if 0 < b ∧ b.natAbs < 2 ^ 4000 then some (PyData.int (a / b)) else none) = _
  rw [if_pos ⟨h1, h2⟩]
theorem plainB (body : FS) (hb : body = (sq (sAsg 2 (c1 absD (vr 0)))
    (sq (sAsg 3 (vr 1))
    (sq (sWhile (muI 2) (tst (c2 gtD (vr 2) (cst (.int 0)))) (sPar 2 3 (consA (c2 modD (vr 3) (vr 2)) (consA (vr 2) nilA))))
    (sRet (tup (consA (c2 fdivD (vr 0) (vr 3)) (consA (c2 fdivD (vr 1) (vr 3)) nilA)))))))) {u : Int} {l : Nat} (hl : 0 < l) (h2 : l < 2 ^ 4000) : runF 4 body [.int u, .int (l : Int)] = some (frD (mkRat u l)) := by
  subst hb
  have hw := gcd_while (some (.sh (.int u))) (some (.sh (.int (l : Int)))) (u.natAbs + 1) u.natAbs l (by omega)
  have hg : 0 < u.natAbs.gcd l := Nat.gcd_pos_of_pos_right _ hl
  have hgl : u.natAbs.gcd l ≤ l := Nat.gcd_le_right _ hl
  generalize hG : u.natAbs.gcd l = g at hw hg hgl
  have f1 : ∀ a : Int, fdivD (.int a) (.int (g : Int)) = some (.int (a / (g : Int))) := fun a => fdiv_w (by omega) (by rw [Int.natAbs_natCast]; omega)
  have hm : muI 2 [some (.sh (.int u)), some (.sh (.int (l : Int))), some (.sh (.int (u.natAbs : Int))), some (.sh (.int (l : Int)))] = u.natAbs + 1 := by
    show ((u.natAbs : Int)).natAbs + 1 = _
    rw [Int.natAbs_natCast]
  have hr : frD (mkRat u l) = .tuple [.int (u / (g : Int)), .int ((l : Int) / (g : Int))] := by
    unfold frD
    rw [Rat.num_mkRat, Rat.den_mkRat, if_neg (by omega), if_neg (by omega), Nat.gcd_comm, hG]
    rfl
  rw [hr]
  simp -implicitDefEqProofs [startE, abs_nat, hm, hw, f1]
theorem ix_fr0 (q : Rat) : ixD (frD q) (.int 0) = some (.int q.num) := rfl
theorem ix_fr1 (q : Rat) : ixD (frD q) (.int 1) = some (.int (q.den : Int)) := rfl
theorem fr_int (i : Int) : PyData.tuple [.int i, .int 1] = frD (i : Rat) := rfl
theorem fr_neg (q : Rat) : PyData.tuple [.int (-q.num), .int (q.den : Int)] = frD (-q) := rfl
theorem fr_inj {x y : Rat} (h : frD x = frD y) : x = y := by
  unfold frD at h
  injection h with h
  injection h with h1 h2
  injection h1 with h1
  injection h2 with h2
  injection h2 with h2
  exact Rat.ext h1 (by omega)
theorem eqv_fr (x y : Rat) : PyData.eqv (frD x) (frD y) = true ↔ x = y := by
  refine ⟨fun h => ?_, fun h => by subst h; exact eqv_self (shp_fr x)⟩
  simp only [frD, PyData.eqv, PyData.eqvAll, Bool.and_eq_true, decide_eq_true_eq, beq_iff_eq, and_true] at h
  exact Rat.ext h.1 (by omega)
theorem ne_fr (x y : Rat) : neD (frD x) (frD y) = some (.bool (!decide (x = y))) := by
  rw [ne_ok (shp_fr x) (shp_fr y)]
  have := eqv_fr x y
  cases h : PyData.eqv (frD x) (frD y) with
  | true => rw [decide_eq_true (this.mp h)]
  | false =>
    rw [decide_eq_false (fun q => by rw [this.mpr q] at h; cases h)]
theorem eq_fr (x y : Rat) : eqD (frD x) (frD y) = some (.bool (decide (x = y))) := by
  rw [eq_ok (shp_fr x) (shp_fr y)]
  have := eqv_fr x y
  cases h : PyData.eqv (frD x) (frD y) with
  | true => rw [decide_eq_true (this.mp h)]
  | false =>
    rw [decide_eq_false (fun q => by rw [this.mpr q] at h; cases h)]
/-- products of two sizes -/
theorem mul_sz {k m : Nat} {a b : Int} (ha : a.natAbs < 2 ^ k) (hb : b.natAbs < 2 ^ m) (hk : k ≤ 4000 := by decide) (hm : m ≤ 4000 := by decide) : mulD (.int a) (.int b) = some (.int (a * b)) := mul_w (p4000 ha hk) (p4000 hb hm)
theorem den_sz {k : Nat} {q : Rat} (h : Sz k q) : ((q.den : Int)).natAbs < 2 ^ k := by rw [Int.natAbs_natCast]; exact h.2
theorem plusB (P : List D → Option D) (hP : ∀ (u : Int) (l : Nat), 0 < l → l < 2 ^ 4000 → P [.int u, .int (l : Int)] = some (frD (mkRat u l)))
    (body : FS) (hb : body = (sRet (cA P (consA (c2 addD (c2 mulD (c2 ixD (vr 0) (cst (.int 0))) (c2 ixD (vr 1) (cst (.int 1)))) (c2 mulD (c2 ixD (vr 1) (cst (.int 0))) (c2 ixD (vr 0) (cst (.int 1))))) (consA (c2 mulD (c2 ixD (vr 0) (cst (.int 1))) (c2 ixD (vr 1) (cst (.int 1)))) nilA)))))
    {x y : Rat} (hx : Sz 1999 x) (hy : Sz 1999 y) : runF 2 body [frD x, frD y] = some (frD (x + y)) := by
  subst hb
  have m1 := mul_sz hx.1 (den_sz hy)
  have m2 := mul_sz hy.1 (den_sz hx)
  have m3 := mul_sz (den_sz hx) (den_sz hy)
  have hp := hP (x.num * y.den + y.num * x.den) (x.den * y.den) (Nat.mul_pos x.den_pos y.den_pos) (p4000 (pow_ml hx.2 hy.2) (by decide))
  rw [← Rat.add_def', Int.natCast_mul] at hp
  simp -implicitDefEqProofs [startE, ix_fr0, ix_fr1, m1, m2, m3, hp]
theorem lessB (body : FS) (hb : body = (sRet (c2 ltD (c2 mulD (c2 ixD (vr 0) (cst (.int 0))) (c2 ixD (vr 1) (cst (.int 1)))) (c2 mulD (c2 ixD (vr 1) (cst (.int 0))) (c2 ixD (vr 0) (cst (.int 1)))))))
    {x y : Rat} (hx : Sz 1999 x) (hy : Sz 1999 y) : runF 2 body [frD x, frD y] = some (.bool (decide (x < y))) := by
  subst hb
  have m1 := mul_sz hx.1 (den_sz hy)
  have m2 := mul_sz hy.1 (den_sz hx)
  have := Rat.lt_iff x y
  simp -implicitDefEqProofs [startE, ix_fr0, ix_fr1, m1, m2, this]

theorem plain_eq {u : Int} {l : Nat} (hl : 0 < l) (h2 : l < 2 ^ 4000) : M_plain [.int u, .int (l : Int)] = some (frD (mkRat u l)) := plainB D_plain rfl hl h2
theorem plus_eq {x y : Rat} (hx : Sz 1999 x) (hy : Sz 1999 y) : M_plus [frD x, frD y] = some (frD (x + y)) := plusB M_plain (fun _ _ h1 h2 => plain_eq h1 h2) D_plus rfl hx hy
theorem isless_eq {x y : Rat} (hx : Sz 1999 x) (hy : Sz 1999 y) : M_is_less [frD x, frD y] = some (.bool (decide (x < y))) := lessB D_is_less rfl hx hy

/-! shares -/
def mvO (p : Mv) : Option Rat → Rat
  | some t => cMv p t
  | none => (bdV p : Rat)
def sumO (L : List Mv) (o : Option Rat) : Rat := (L.map fun p => mvO p o).sum
/-- a level that can be -/
def VO (L : List Mv) : Option Rat → Prop
  | some t => 0 ≤ t
  | none => allBd L
theorem sumO_some (L : List Mv) (t : Rat) : sumO L (some t) = chg L t := rfl
theorem sumO_none (L : List Mv) : sumO L none = (bds L : Rat) := by
  induction L with
  | nil => simp [sumO, bds]
  | cons p L ih =>
    have e1 : sumO (p :: L) none = (bdV p : Rat) + sumO L none := by simp [sumO, mvO]
    have e2 : bds (p :: L) = bdV p + bds L := by simp [bds]
    rw [e1, e2, ih, Rat.intCast_add]
theorem sumO_cons {p : Mv} {L : List Mv} {o : Option Rat} : sumO (p :: L) o = mvO p o + sumO L o := by simp [sumO]
theorem sumO_append {L M : List Mv} {o : Option Rat} : sumO (L ++ M) o = sumO L o + sumO M o := by
  induction L with
  | nil => rw [List.nil_append]; show sumO M o = 0 + sumO M o; grind
  | cons p L ih => rw [List.cons_append, sumO_cons, sumO_cons, ih]; grind
theorem IsLvl.vo {L : List Mv} {c : Rat} {o : Option Rat} (h : IsLvl L c o) : VO L o := by
  cases o with
  | none => exact h.1
  | some t => exact h.1
theorem mvO_cmp {L : List Mv} (hp : ∀ p ∈ L, p.Ok) (o o' : Option Rat) (h : VO L o) (h' : VO L o') : (∀ p ∈ L, mvO p o ≤ mvO p o') ∨ (∀ p ∈ L, mvO p o' ≤ mvO p o) := by
  cases o with
  | none =>
    cases o' with
    | none => exact .inl fun p _ => by grind
    | some t => exact .inr fun p q => cMv_bd (hp p q) (h p q)
  | some t =>
    cases o' with
    | none => exact .inl fun p q => cMv_bd (hp p q) (h' p q)
    | some t' =>
      by_cases ht : t ≤ t'
      · exact .inl fun p q => cMv_mono (hp p q) ht
      · exact .inr fun p q => cMv_mono (hp p q) (by grind)
theorem sum_le {α : Type} {f g : α → Rat} : ∀ {L : List α}, (∀ p ∈ L, f p ≤ g p) → (L.map f).sum ≤ (L.map g).sum
  | [], _ => by simp
  | p :: L, h => by
    have h1 := h p List.mem_cons_self
    have h2 := sum_le (L := L) fun q hq => h q (List.mem_cons_of_mem _ hq)
    simp only [List.map_cons, List.sum_cons]
    grind
theorem sum_eq {α : Type} {f g : α → Rat} : ∀ {L : List α}, (∀ p ∈ L, f p ≤ g p) → (L.map g).sum ≤ (L.map f).sum → ∀ p ∈ L, f p = g p
  | [], _, _ => fun p hp => by simp at hp
  | p :: L, h, hs => fun q hq => by
    have h1 := h p List.mem_cons_self
    have h2 := sum_le (L := L) fun q hq => h q (List.mem_cons_of_mem _ hq)
    simp only [List.map_cons, List.sum_cons] at hs
    rcases List.mem_cons.mp hq with rfl | hq
    · grind
    · exact sum_eq (L := L) (fun q hq => h q (List.mem_cons_of_mem _ hq)) (by grind) q hq
/-- who moves more together, moves each more -/
theorem mv_le {L : List Mv} (hp : ∀ p ∈ L, p.Ok) {o o' : Option Rat} (h : VO L o) (h' : VO L o') (hs : sumO L o ≤ sumO L o') : ∀ p ∈ L, mvO p o ≤ mvO p o' := by
  rcases mvO_cmp hp o o' h h' with hc | hc
  · exact hc
  · intro p q
    have := sum_eq hc hs p q
    grind
theorem mvO_nn {L : List Mv} (hp : ∀ p ∈ L, p.Ok) {o : Option Rat} (h : VO L o) : ∀ p ∈ L, 0 ≤ mvO p o := by
  intro p q
  have hz : cMv p 0 = 0 := cMv_0 (hp p q)
  cases o with
  | some t => exact cMv_nn (hp p q) h
  | none =>
    have := cMv_bd (a := 0) (hp p q) (h p q)
    show (0 : Rat) ≤ (bdV p : Rat)
    grind
theorem lvl_sum {L : List Mv} {c : Rat} {o : Option Rat} (h : IsLvl L c o) : sumO L o = c ∨ (o = none ∧ sumO L o < c) := by
  cases o with
  | some t => exact .inl h.2.1
  | none => exact .inr ⟨rfl, by rw [sumO_none]; exact h.2⟩
theorem sumO_le_bd {L : List Mv} {o : Option Rat} (hp : ∀ p ∈ L, p.Ok) (h : allBd L) : sumO L o ≤ (bds L : Rat) := by
  cases o with
  | some t => exact chg_bd hp h
  | none => rw [sumO_none]; grind
/-- with more to move each moves more -/
theorem lvl_mono {L : List Mv} {c c' : Rat} {o o' : Option Rat} (hp : ∀ p ∈ L, p.Ok) (h : IsLvl L c o) (h' : IsLvl L c' o') (hc : c ≤ c') : ∀ p ∈ L, mvO p o ≤ mvO p o' := by
  refine mv_le hp h.vo h'.vo ?_
  have s1 := lvl_sum h
  rcases lvl_sum h' with s2 | ⟨rfl, s2⟩
  · grind
  · rw [sumO_none]
    exact sumO_le_bd hp h'.1
/-! of spans -/
def mvS (up : Bool) (s : Spn) : Mv := if up = true then (s.gr, s.mo.map (fun m => m - s.wi)) else (s.sh, some (s.wi - s.lo))
theorem mvS_ok {up : Bool} {s : Spn} (h : s.Ok) : (mvS up s).Ok := by
  cases up with
  | true =>
    refine ⟨h.gr0, fun b hb => ?_⟩
    simp only [mvS, if_true] at hb
    obtain ⟨m, hm, rfl⟩ := Option.map_eq_some_iff.mp hb
    have := h.top m hm
    omega
  | false =>
    refine ⟨h.sh0, fun b hb => ?_⟩
    simp only [mvS, Bool.false_eq_true, if_false, Option.some.injEq] at hb
    have := h.low
    omega
def shV (up : Bool) (o : Option Rat) (s : Spn) : Rat := if up = true then (s.wi : Rat) + mvO (mvS up s) o else (s.wi : Rat) - mvO (mvS up s) o
def sumW (S : List Spn) : Int := (S.map Spn.wi).sum
def upV (S : List Spn) (room : Int) : Bool := decide (sumW S ≤ room)
/-- what there is to move -/
def mvC (S : List Spn) (room : Int) : Rat := if upV S room = true then (room : Rat) - (sumW S : Rat) else (sumW S : Rat) - (room : Rat)
def LvlS (S : List Spn) (room : Int) (o : Option Rat) : Prop := IsLvl (S.map (mvS (upV S room))) (mvC S room) o
theorem mvS_oks {up : Bool} {S : List Spn} (h : ∀ s ∈ S, s.Ok) : ∀ p ∈ S.map (mvS up), p.Ok := fun p hp => by
  obtain ⟨s, hs, rfl⟩ := List.mem_map.mp hp
  exact mvS_ok (h s hs)
theorem sum_sh {up : Bool} {o : Option Rat} {S : List Spn} : (S.map (shV up o)).sum = if up = true then (sumW S : Rat) + sumO (S.map (mvS up)) o else (sumW S : Rat) - sumO (S.map (mvS up)) o := by
  induction S with
  | nil => cases up <;> simp [sumO, sumW] <;> grind
  | cons s S ih =>
    have e : sumW (s :: S) = s.wi + sumW S := by simp [sumW]
    rw [List.map_cons, List.sum_cons, ih, List.map_cons, sumO_cons, e, Rat.intCast_add]
    cases up
    · simp only [shV, Bool.false_eq_true, if_false]; grind
    · simp only [shV, if_true]; grind
theorem mvC_nn {S : List Spn} {room : Int} : 0 ≤ mvC S room := by
  unfold mvC
  by_cases h : sumW S ≤ room
  · have e : upV S room = true := by simp [upV, h]
    have := rnn (g := room - sumW S) (by omega)
    rw [Rat.intCast_sub] at this
    rw [if_pos e]; exact this
  · have e : ¬ upV S room = true := by simp [upV, h]
    have := rnn (g := sumW S - room) (by omega)
    rw [Rat.intCast_sub] at this
    rw [if_neg e]; exact this
/-- where there is a level the shares come to the room -/
theorem sum_room {S : List Spn} {room : Int} {t : Rat} (h : LvlS S room (some t)) : (S.map (shV (upV S room) (some t))).sum = room := by
  rw [sum_sh]
  have h2 : sumO (S.map (mvS (upV S room))) (some t) = mvC S room := h.2.1
  unfold mvC at h2
  cases hu : upV S room
  · rw [hu] at h2
    simp only [Bool.false_eq_true, if_false] at h2 ⊢
    grind
  · rw [hu] at h2
    simp only [if_true] at h2 ⊢
    grind
theorem sum_none {S : List Spn} {room : Int} (h : LvlS S room none) : if upV S room = true then (S.map (shV (upV S room) none)).sum < room else (room : Rat) < (S.map (shV (upV S room) none)).sum := by
  have h2 : sumO (S.map (mvS (upV S room))) none < mvC S room := by rw [sumO_none]; exact h.2
  rw [sum_sh]
  unfold mvC at h2
  cases hu : upV S room
  · rw [hu] at h2
    simp only [Bool.false_eq_true, if_false] at h2 ⊢
    grind
  · rw [hu] at h2
    simp only [if_true] at h2 ⊢
    grind
/-- within bounds -/
theorem sh_lo {up : Bool} {s : Spn} {o : Option Rat} (h : s.Ok) (hv : VO [mvS up s] o) : (loV s : Rat) ≤ shV up o s := by
  have hn := mvO_nn (L := [mvS up s]) (fun p hp => by simp only [List.mem_singleton] at hp; subst hp; exact mvS_ok h) hv _ List.mem_cons_self
  have hl : (loV s : Rat) ≤ (s.wi : Rat) := by
    have : loV s ≤ s.wi := by unfold loV; split; exact h.low; omega
    exact_mod_cast this
  cases up with
  | true => simp only [shV, if_true] at hn ⊢; grind
  | false =>
    have hb : mvO (mvS false s) o ≤ (bdV (mvS false s) : Rat) := by
      cases o with
      | none => exact Rat.le_refl
      | some t =>
        refine cMv_bd (mvS_ok h) ?_
        simp only [mvS, bdMv, Bool.false_eq_true, if_false]
        split <;> rfl
    have e : (bdV (mvS false s) : Rat) = (s.wi : Rat) - (loV s : Rat) := by
      have : bdV (mvS false s) = s.wi - loV s := by
        simp only [bdV, mvS, bdMv, loV, Bool.false_eq_true, if_false]
        split <;> simp
      rw [this, Rat.intCast_sub]
    simp only [shV, Bool.false_eq_true, if_false] at hn ⊢
    grind
theorem bd_up {s : Spn} {m : Int} (hm : toV s = some m) : (bdMv (mvS true s)).isSome = true ∧ bdV (mvS true s) = m - s.wi := by
  simp only [bdV, mvS, bdMv, toV, if_true] at hm ⊢
  by_cases hg : 0 < s.gr
  · rw [if_pos hg] at hm ⊢
    rw [hm]
    simp
  · rw [if_neg hg] at hm ⊢
    cases hm
    simp
theorem bd_up_none {s : Spn} (hm : (bdMv (mvS true s)).isSome = true) : ∃ m, toV s = some m := by
  simp only [mvS, bdMv, toV, if_true] at hm ⊢
  by_cases hg : 0 < s.gr
  · rw [if_pos hg] at hm ⊢
    cases hmo : s.mo with
    | none => rw [hmo] at hm; cases hm
    | some m => exact ⟨m, rfl⟩
  · exact ⟨_, if_neg hg⟩
theorem wi_to {s : Spn} (h : s.Ok) {m : Int} (hm : toV s = some m) : s.wi ≤ m := by
  unfold toV at hm
  split at hm
  · exact h.top m hm
  · cases hm; omega
theorem sh_to {up : Bool} {s : Spn} {o : Option Rat} {m : Int} (h : s.Ok) (hv : VO [mvS up s] o) (hm : toV s = some m) : shV up o s ≤ (m : Rat) := by
  have hn := mvO_nn (L := [mvS up s]) (fun p hp => by simp only [List.mem_singleton] at hp; subst hp; exact mvS_ok h) hv _ List.mem_cons_self
  have hw : (s.wi : Rat) ≤ (m : Rat) := by exact_mod_cast wi_to h hm
  cases up with
  | false => simp only [shV, Bool.false_eq_true, if_false] at hn ⊢; grind
  | true =>
    obtain ⟨b1, b2⟩ := bd_up hm
    have hb : mvO (mvS true s) o ≤ (bdV (mvS true s) : Rat) := by
      cases o with
      | none => exact Rat.le_refl
      | some t => exact cMv_bd (mvS_ok h) b1
    rw [b2, Rat.intCast_sub] at hb
    simp only [shV, if_true] at hn ⊢
    grind
theorem vo_one {S : List Spn} {up : Bool} {o : Option Rat} (h : VO (S.map (mvS up)) o) {s : Spn} (hs : s ∈ S) : VO [mvS up s] o := by
  cases o with
  | some t => exact h
  | none =>
    intro p hp
    simp only [List.mem_singleton] at hp
    subst hp
    exact h _ (List.mem_map.mpr ⟨s, hs, rfl⟩)
/-- at no level: at the bounds -/
theorem sh_none {up : Bool} {s : Spn} (hv : VO [mvS up s] none) : ∃ m, (if up = true then toV s else some (loV s)) = some m ∧ shV up none s = (m : Rat) := by
  cases up with
  | true =>
    obtain ⟨m, hm⟩ := bd_up_none (hv _ List.mem_cons_self)
    refine ⟨m, by simpa using hm, ?_⟩
    obtain ⟨_, b2⟩ := bd_up hm
    simp only [shV, if_true, mvO]
    rw [b2, Rat.intCast_sub]
    grind
  | false =>
    refine ⟨loV s, by simp, ?_⟩
    have : bdV (mvS false s) = s.wi - loV s := by
      simp only [bdV, mvS, bdMv, loV, Bool.false_eq_true, if_false]
      split <;> simp
    simp only [shV, Bool.false_eq_true, if_false, mvO]
    rw [this, Rat.intCast_sub]
    grind
/-- with more room none gets less -/
theorem up_mono {S : List Spn} {r r' : Int} (h : r ≤ r') (hu : upV S r = true) : upV S r' = true := by
  simp only [upV, decide_eq_true_eq] at hu ⊢
  omega
theorem mvC_eq {S : List Spn} {r : Int} {b : Bool} (h : upV S r = b) : mvC S r = if b = true then (r : Rat) - (sumW S : Rat) else (sumW S : Rat) - (r : Rat) := by rw [mvC, h]
theorem more_room {S : List Spn} {r r' : Int} {o o' : Option Rat} (hS : ∀ s ∈ S, s.Ok) (h : LvlS S r o) (h' : LvlS S r' o') (hr : r ≤ r') : ∀ s ∈ S, shV (upV S r) o s ≤ shV (upV S r') o' s := by
  intro s hs
  have hrr : (r : Rat) ≤ (r' : Rat) := by exact_mod_cast hr
  have n1 := mvO_nn (mvS_oks hS) h.vo (mvS (upV S r) s) (List.mem_map.mpr ⟨s, hs, rfl⟩)
  have n2 := mvO_nn (mvS_oks hS) h'.vo (mvS (upV S r') s) (List.mem_map.mpr ⟨s, hs, rfl⟩)
  unfold LvlS at h h'
  cases hu : upV S r with
  | true =>
    have hu' := up_mono hr hu
    rw [mvC_eq hu, hu] at h
    rw [mvC_eq hu', hu'] at h'
    rw [hu']
    have := lvl_mono (mvS_oks hS) h h' (by simp only [if_true]; grind) (mvS true s) (List.mem_map.mpr ⟨s, hs, rfl⟩)
    simp only [shV, if_true]
    grind
  | false =>
    rw [hu] at n1
    cases hu' : upV S r' with
    | true =>
      rw [hu'] at n2
      simp only [shV, if_true, Bool.false_eq_true, if_false]
      grind
    | false =>
      rw [mvC_eq hu, hu] at h
      rw [mvC_eq hu', hu'] at h'
      have := lvl_mono (mvS_oks hS) h' h (by simp only [Bool.false_eq_true, if_false]; grind) (mvS false s) (List.mem_map.mpr ⟨s, hs, rfl⟩)
      simp only [shV, Bool.false_eq_true, if_false]
      grind
/-- with one span more none gets more -/
theorem one_more {S : List Spn} {n : Spn} {r r' : Int} {o o' : Option Rat} (hS : ∀ s ∈ S, s.Ok) (hn : n.Ok) (h : LvlS S r o) (h' : LvlS (S ++ [n]) r' o') (hr : r' ≤ r) : ∀ s ∈ S, shV (upV (S ++ [n]) r') o' s ≤ shV (upV S r) o s := by
  intro s hs
  have hrr : (r' : Rat) ≤ (r : Rat) := by exact_mod_cast hr
  have hSn : ∀ s ∈ S ++ [n], s.Ok := fun s hs => by
    rcases List.mem_append.mp hs with hs | hs
    · exact hS s hs
    · simp only [List.mem_singleton] at hs; subst hs; exact hn
  have hw : sumW (S ++ [n]) = sumW S + n.wi := by simp [sumW]
  have hwn : 0 ≤ n.wi := Int.le_trans hn.lo0 hn.low
  have hwnr := rnn hwn
  have hwr : (sumW (S ++ [n]) : Rat) = (sumW S : Rat) + (n.wi : Rat) := by rw [hw, Rat.intCast_add]
  have n1 := mvO_nn (mvS_oks hS) h.vo (mvS (upV S r) s) (List.mem_map.mpr ⟨s, hs, rfl⟩)
  have n2 := mvO_nn (mvS_oks hSn) h'.vo (mvS (upV (S ++ [n]) r') s) (List.mem_map.mpr ⟨s, List.mem_append_left _ hs, rfl⟩)
  have n3 := mvO_nn (mvS_oks hSn) h'.vo (mvS (upV (S ++ [n]) r') n) (List.mem_map.mpr ⟨n, List.mem_append_right _ List.mem_cons_self, rfl⟩)
  have v' := h'.vo
  have vS : ∀ {b : Bool}, upV (S ++ [n]) r' = b → VO (S.map (mvS b)) o' := fun {b} hb => by
    rw [hb] at v'
    cases o' with
    | some t => exact v'
    | none => exact fun p hp => v' p (by rw [List.map_append]; exact List.mem_append_left _ hp)
  have sp : ∀ {b : Bool}, sumO ((S ++ [n]).map (mvS b)) o' = sumO (S.map (mvS b)) o' + mvO (mvS b n) o' := fun {b} => by
    rw [List.map_append, sumO_append]
    congr 1
    simp [sumO]
    grind
  unfold LvlS at h h'
  cases hu' : upV (S ++ [n]) r' with
  | true =>
    have hu : upV S r = true := by
      simp only [upV, decide_eq_true_eq] at hu' ⊢
      omega
    have vs := vS hu'
    rw [mvC_eq hu, hu] at h
    rw [mvC_eq hu', hu'] at h'
    rw [hu'] at n3
    rw [hu]
    have := mv_le (mvS_oks hS) vs h.vo (by
      have l1 := lvl_sum h
      have l2 := lvl_sum h'
      rw [sp] at l2
      simp only [if_true] at l1 l2
      rcases l1 with l1 | ⟨rfl, l1⟩
      · grind
      · rw [sumO_none]; exact sumO_le_bd (mvS_oks hS) h.1) (mvS true s) (List.mem_map.mpr ⟨s, hs, rfl⟩)
    simp only [shV, if_true]
    grind
  | false =>
    rw [hu'] at n2
    cases hu : upV S r with
    | true =>
      rw [hu] at n1
      simp only [shV, if_true, Bool.false_eq_true, if_false]
      grind
    | false =>
      have vs := vS hu'
      rw [mvC_eq hu, hu] at h
      rw [mvC_eq hu', hu'] at h'
      have hlo := sh_lo (up := false) hn (o := o') (by
        have := v'
        rw [hu'] at this
        exact vo_one (S := S ++ [n]) this (List.mem_append_right _ List.mem_cons_self))
      have hl0 : (0 : Rat) ≤ (loV n : Rat) := by
        have : 0 ≤ loV n := by unfold loV; split; exact hn.lo0; exact hwn
        exact_mod_cast this
      simp only [shV, Bool.false_eq_true, if_false] at hlo
      have := mv_le (mvS_oks hS) h.vo vs (by
        have l1 := lvl_sum h
        have l2 := lvl_sum h'
        rw [sp] at l2
        simp only [Bool.false_eq_true, if_false] at l1 l2
        rcases l2 with l2 | ⟨rfl, l2⟩
        · grind
        · rw [sumO_none (S.map (mvS false))]
          exact sumO_le_bd (mvS_oks hS) vs) (mvS false s) (List.mem_map.mpr ⟨s, hs, rfl⟩)
      simp only [shV, Bool.false_eq_true, if_false]
      grind

/-! sharing out: what the program computes -/
structure Spn.Lm (s : Spn) : Prop where
  wi : s.wi ≤ 2 ^ 40
  mo : ∀ m, s.mo = some m → m ≤ 2 ^ 40
  gr : s.gr ≤ 9
  sh : s.sh ≤ 9
theorem Spn.Sm.lm {s : Spn} (h : s.Sm) : s.Lm := ⟨by have := h.wi; omega, fun m hm => by have := h.mo m hm; omega, h.gr, h.sh⟩
theorem nab {i : Int} {k : Nat} (h0 : 0 ≤ i) (h : i < 2 ^ k) : i.natAbs < 2 ^ k := by
  have : ((2 ^ k : Nat) : Int) = (2 : Int) ^ k := by simp
  omega
theorem n41 {i : Int} (h0 : 0 ≤ i) (h : i ≤ 2 ^ 40) : i.natAbs < 2 ^ 41 := by omega
theorem n4 {i : Int} (h0 : 0 ≤ i) (h : i ≤ 9) : i.natAbs < 2 ^ 4 := by omega
theorem szi {i : Int} (h0 : 0 ≤ i) (h : i ≤ 2 ^ 40) : Sz 41 (i : Rat) := sz_int (n41 h0 h) (by decide)
theorem Spn.Ok.wi0 {s : Spn} (h : s.Ok) : 0 ≤ s.wi := Int.le_trans h.lo0 h.low
theorem sz_cmv {up : Bool} {s : Spn} (h : s.Ok) (hl : s.Lm) {k : Nat} {t : Rat} (ht : Sz k t) (hk : 41 ≤ k) : Sz (k + 4) (cMv (mvS up s) t) := by
  have s0 : Sz (k + 4) (0 : Rat) := Sz.mono (k := 1) ⟨by decide, by decide⟩ (by omega)
  unfold cMv
  split
  · cases up with
    | true =>
      simp only [mvS, if_true]
      have h1 := sz_mul ht (n4 h.gr0 hl.gr)
      cases hm : s.mo with
      | none => exact h1
      | some m =>
        have := h.top m hm
        have h0 := h.wi0
        have h2 := hl.mo m hm
        exact sz_min h1 ((szi (i := m - s.wi) (by omega) (by omega)).mono (by omega))
    | false =>
      simp only [mvS, Bool.false_eq_true, if_false]
      have h1 := sz_mul ht (n4 h.sh0 hl.sh)
      have h0 := h.lo0
      have h2 := h.low
      have h3 := hl.wi
      exact sz_min h1 ((szi (i := s.wi - s.lo) (by omega) (by omega)).mono (by omega))
  · exact s0
theorem sz_sum {k : Nat} : ∀ (xs : List Rat), (∀ x ∈ xs, Sz k x) → Sz ((k + 1) * xs.length + 1) xs.sum
  | [], _ => ⟨by simp, by simp⟩
  | x :: xs, h => by
    have h1 := h x List.mem_cons_self
    have h2 := sz_sum xs fun y hy => h y (List.mem_cons_of_mem _ hy)
    rw [List.sum_cons]
    refine (sz_add h1 h2).mono ?_
    rw [List.length_cons, Nat.mul_succ]
    omega
theorem sz_chg {up : Bool} {S : List Spn} (h : ∀ s ∈ S, s.Ok ∧ s.Lm) {k : Nat} {t : Rat} (ht : Sz k t) (hk : 41 ≤ k) : Sz ((k + 5) * S.length + 1) (chg (S.map (mvS up)) t) := by
  have := sz_sum (k := k + 4) ((S.map (mvS up)).map fun p => cMv p t) (fun x hx => by
    rw [List.map_map] at hx
    obtain ⟨s, hs, rfl⟩ := List.mem_map.mp hx
    exact sz_cmv (h s hs).1 (h s hs).2 ht hk)
  rw [List.length_map, List.length_map] at this
  exact this
def roomV (n : Nat) (gap length : Int) : Int := max 0 (length - gap * ((n : Int) - 1))
theorem room_eq {d : D} {n : Nat} {gap length : Int} (hn : lenD d = some (.int (n : Int))) (hg : 0 ≤ gap ∧ gap ≤ 2 ^ 62) : M_room_of [d, .int gap, .int length] = some (.int (roomV n gap length)) := by
  have e : (if gap * ((n : Int) - 1) < length then length - gap * ((n : Int) - 1) else 0) = roomV n gap length := by unfold roomV; omega
  simp -implicitDefEqProofs [M_room_of, D_room_of, startE, hn, mul_l (a := gap) (by omega) hg.2, e]
theorem sumwi {S : List Spn} {e : DEnv} {i : Nat} (he : i < e.length) : lcGo (bNm i) yesT (c2 ixD (vr i) (cst (.int 1))) e (S.map spD) = some ((S.map Spn.wi).map PyData.int) := by
  rw [List.map_map]
  exact lcGo_map spD (PyData.int ∘ Spn.wi) S fun s _ => ⟨_, rfl, by simp -implicitDefEqProofs [he, ix1]⟩
theorem enough_eq {d : D} {S : List Spn} {room : Int} (hd : itemsD d = some (S.map spD)) (hl : S.length ≤ 1000) : M_is_enough [d, .int room] = some (.bool (upV S room)) := by
  have hs : sml S.length = true := sml_of (by omega)
  have k := sumwi (S := S) (e := [some (.sh d), some (.sh (.int room)), none]) (i := 2) (by simp)
  simp -implicitDefEqProofs [M_is_enough, D_is_enough, C_is_enough_1, startE, hd, hs, k, upV, sumW, -List.map_map]
  rfl
theorem got_up {s : Spn} (h : s.Ok) (t : Rat) : shV true (some t) s = match toV s with
    | some m => if (m : Rat) < (s.wi : Rat) + t * (s.gr : Rat) then (m : Rat) else (s.wi : Rat) + t * (s.gr : Rat)
    | none => (s.wi : Rat) + t * (s.gr : Rat) := by
  have hg := h.gr0
  simp only [shV, if_true, mvO, mvS, cMv, toV]
  by_cases h0 : 0 < s.gr
  · simp only [h0, if_true]
    cases hm : s.mo with
    | none => rfl
    | some m =>
      simp only [Option.map_some, Rat.intCast_sub]
      grind
  · have : s.gr = 0 := by omega
    simp only [this, Int.lt_irrefl, if_false, Rat.intCast_zero]
    grind
theorem got_dn {s : Spn} (h : s.Ok) (t : Rat) : shV false (some t) s = if (s.wi : Rat) + (-(t * (s.sh : Rat))) < (loV s : Rat) then (loV s : Rat) else (s.wi : Rat) + (-(t * (s.sh : Rat))) := by
  have hg := h.sh0
  simp only [shV, Bool.false_eq_true, if_false, mvO, mvS, cMv, loV]
  by_cases h0 : 0 < s.sh
  · simp only [h0, if_true, Rat.intCast_sub]
    grind
  · have : s.sh = 0 := by omega
    simp only [this, Int.lt_irrefl, if_false, Rat.intCast_zero]
    grind
theorem p4000' {a : Nat} (h : a < 2 ^ 4) : a < 2 ^ 1999 := Nat.lt_of_lt_of_le h (Nat.pow_le_pow_right (by decide) (by decide))
theorem plain_mul {q : Rat} {g : Int} {k : Nat} (hq : Sz k q) (hk : k ≤ 1999) : M_plain [.int (q.num * g), .int (q.den : Int)] = some (frD (q * (g : Rat))) := by
  rw [← rat_mul_int]
  exact plain_eq q.den_pos (p4000 hq.2 (by omega))
theorem plain_div {q : Rat} {g : Int} {k : Nat} (hq : Sz k q) (hk : k ≤ 1999) (hg : 0 < g) (hg2 : g.natAbs < 2 ^ 60) : M_plain [.int q.num, .int ((q.den : Int) * g)] = some (frD (q / (g : Rat))) := by
  have := plain_eq (u := q.num) (l := q.den * g.toNat) (Nat.mul_pos q.den_pos (by omega)) (p4000 (pow_ml hq.2 (m := 60) (by omega)) (by omega))
  rw [rat_div_int q hg, Int.natCast_mul, Int.toNat_of_nonneg (by omega)] at this
  exact this
theorem plain_ii {b g : Int} (hg : 0 < g) (hg2 : g ≤ 2 ^ 60) : M_plain [.int b, .int g] = some (frD ((b : Rat) / (g : Rat))) := by
  have h1 := p4000 (a := g.toNat) (k := 61) (by omega) (by decide)
  have := plain_eq (u := b) (l := g.toNat) (by omega) h1
  rw [Int.toNat_of_nonneg (by omega), Rat.mkRat_eq_div] at this
  rw [this]
  have e : ((g.toNat : Nat) : Rat) = (g : Rat) := by
    have : ((g.toNat : Nat) : Int) = g := Int.toNat_of_nonneg (by omega)
    exact_mod_cast this
  rw [e]
theorem grown_eq {s : Spn} (h : s.Ok) (hl : s.Lm) {t : Rat} {k : Nat} (ht : Sz k t) (hk : k ≤ 1900) : M_grown [spD s, frD t] = some (frD (shV true (some t) s)) := by
  have w0 := h.wi0
  have z1 := szi w0 hl.wi
  have z2 := sz_mul ht (n4 h.gr0 hl.gr)
  have z3 := sz_add z1 z2
  have m1 := mul_sz (k := 1999) (m := 1999) (ht.mono (m := 1999) (by omega)).1 (p4000' (n4 h.gr0 hl.gr))
  have p1 := plain_mul (g := s.gr) ht (by omega)
  have p2 := plus_eq (z1.mono (by decide)) (z2.mono (by omega))
  have tf := topof_eq s
  rw [got_up h]
  have i3 := ix3 s
  have i1 := ix1 s
  cases hm : toV s with
  | none =>
    rw [hm] at tf
    simp -implicitDefEqProofs [M_grown, D_grown, startE, i1, i3, ix_fr0, ix_fr1, m1, p1, fr_int, p2, tf, optDn]
  | some m =>
    rw [hm] at tf
    have hm0 : 0 ≤ m := Int.le_trans w0 (wi_to h hm)
    have hmb : m ≤ 2 ^ 40 := by
      unfold toV at hm
      split at hm
      · exact hl.mo m hm
      · cases hm; exact hl.wi
    have zm := szi hm0 hmb
    have l1 := isless_eq (zm.mono (m := 1999) (by decide)) (z3.mono (m := 1999) (by omega))
    by_cases hc : (m : Rat) < (s.wi : Rat) + t * (s.gr : Rat)
    · simp -implicitDefEqProofs [M_grown, D_grown, startE, i1, i3, ix_fr0, ix_fr1, m1, p1, fr_int, p2, tf, optDs, l1, hc]
    · simp -implicitDefEqProofs [M_grown, D_grown, startE, i1, i3, ix_fr0, ix_fr1, m1, p1, fr_int, p2, tf, optDs, l1, hc]
theorem shrunk_eq {s : Spn} (h : s.Ok) (hl : s.Lm) {t : Rat} {k : Nat} (ht : Sz k t) (hk : k ≤ 1900) : M_shrunk [spD s, frD t] = some (frD (shV false (some t) s)) := by
  have w0 := h.wi0
  have z1 := szi w0 hl.wi
  have z2 := sz_neg (sz_mul ht (n4 h.sh0 hl.sh))
  have z3 := sz_add z1 z2
  have m1 := mul_sz (k := 1999) (m := 1999) (ht.mono (m := 1999) (by omega)).1 (p4000' (n4 h.sh0 hl.sh))
  have p1 := plain_mul (g := -s.sh) ht (by omega)
  have e1 : t.num * -s.sh = -(t.num * s.sh) := by rw [Int.mul_neg]
  have e2 : t * ((-s.sh : Int) : Rat) = -(t * (s.sh : Rat)) := by rw [Rat.intCast_neg]; grind
  rw [e1, e2] at p1
  have p2 := plus_eq (z1.mono (by decide)) (z2.mono (by omega))
  have lf := lowof_eq s
  rw [got_dn h]
  have i4 := ix4 s
  have i1 := ix1 s
  have hlo : 0 ≤ loV s ∧ loV s ≤ 2 ^ 40 := by
    have := h.lo0
    have := h.low
    have := hl.wi
    unfold loV
    split <;> omega
  have zm := szi hlo.1 hlo.2
  have l1 := isless_eq (z3.mono (m := 1999) (by omega)) (zm.mono (m := 1999) (by decide))
  by_cases hc : (s.wi : Rat) + (-(t * (s.sh : Rat))) < (loV s : Rat)
  · simp -implicitDefEqProofs [M_shrunk, D_shrunk, startE, i1, i4, ix_fr0, ix_fr1, m1, p1, fr_int, p2, lf, l1, hc]
  · simp -implicitDefEqProofs [M_shrunk, D_shrunk, startE, i1, i4, ix_fr0, ix_fr1, m1, p1, fr_int, p2, lf, l1, hc]
theorem int_lt_fr (m : Int) (q : Rat) : (m : Rat) < q ↔ 0 < q.num - m * (q.den : Int) := by
  rw [Rat.lt_iff]
  show m * (q.den : Int) < q.num * ((1 : Nat) : Int) ↔ _
  omega
theorem fr_lt_int (m : Int) (q : Rat) : q < (m : Rat) ↔ q.num - m * (q.den : Int) < 0 := by
  rw [Rat.lt_iff]
  show q.num * ((1 : Nat) : Int) < m * (q.den : Int) ↔ _
  omega

/-! the stops, in rising order -/
theorem sts_cons {p : Mv} {L : List Mv} : sts (p :: L) = (stMv p).toList ++ sts L := by
  unfold sts
  rw [List.filterMap_cons]
  cases stMv p <;> simp
theorem sz_st {up : Bool} {s : Spn} (h : s.Ok) (hl : s.Lm) {q : Rat} (hq : stMv (mvS up s) = some q) : Sz 45 q ∧ 0 ≤ q := by
  unfold stMv at hq
  split at hq
  · rename_i hg
    obtain ⟨b, hb, rfl⟩ := Option.map_eq_some_iff.mp hq
    have hb0 := (mvS_ok (up := up) h).2 b hb
    have hb1 : b ≤ 2 ^ 40 := by
      have h0 := h.wi0
      have h1 := h.lo0
      have h2 := hl.wi
      cases up with
      | true =>
        simp only [mvS, if_true] at hb
        obtain ⟨m, hm, rfl⟩ := Option.map_eq_some_iff.mp hb
        have := hl.mo m hm
        omega
      | false =>
        simp only [mvS, Bool.false_eq_true, if_false, Option.some.injEq] at hb
        omega
    have hg9 : (mvS up s).1 ≤ 9 := by
      cases up with
      | true => exact hl.gr
      | false => exact hl.sh
    refine ⟨sz_div (szi hb0 hb1) (n4 (Int.le_of_lt hg) hg9) hg, ?_⟩
    have := rnn hb0
    refine Rat.not_lt.mp fun q => ?_
    have := (Rat.div_lt_iff (rpos hg)).mp q
    grind
  · cases hq
theorem sz_sts {up : Bool} {S : List Spn} (h : ∀ s ∈ S, s.Ok ∧ s.Lm) : ∀ q ∈ sts (S.map (mvS up)), Sz 45 q ∧ 0 ≤ q := fun q hq => by
  obtain ⟨p, hp, e⟩ := List.mem_filterMap.mp hq
  obtain ⟨s, hs, rfl⟩ := List.mem_map.mp hp
  exact sz_st (h s hs).1 (h s hs).2 e
theorem stops1 {up : Bool} {d : Option Sl} : ∀ (S : List Spn) (acc : List Rat) (x : Option Sl), (∀ s ∈ S, s.Ok ∧ s.Lm) → acc.length + S.length ≤ 1000 → ∃ y, forD (bNm 3) B_stops_1 (S.map spD) [d, some (.sh (.bool up)), some (.ow (acc.map frD)), x, none, none, none, none] = some (.nx [d, some (.sh (.bool up)), some (.ow ((acc ++ sts (S.map (mvS up))).map frD)), y, none, none, none, none])
  | [], acc, x, _, _ => ⟨x, by rw [List.map_nil, forD_n, List.map_nil]; simp [sts]⟩
  | s :: S, acc, x, h, hl => by
    have hs := h s List.mem_cons_self
    have hS : ∀ s ∈ S, s.Ok ∧ s.Lm := fun s q => h s (List.mem_cons_of_mem _ q)
    rw [List.length_cons] at hl
    have hsm : sml (acc.length + 1) = true := sml_of (by omega)
    have body : B_stops_1 [d, some (.sh (.bool up)), some (.ow (acc.map frD)), some (.sh (spD s)), none, none, none, none] = some (.nx [d, some (.sh (.bool up)), some (.ow ((acc ++ (stMv (mvS up s)).toList).map frD)), some (.sh (spD s)), none, none, none, none]) := by
      have i0 := ix0 s
      have i1 := ix1 s
      have i2 := ix2 s
      have i3 := ix3 s
      have i4 := ix4 s
      cases up with
      | true =>
        simp only [stMv, mvS, if_true]
        by_cases hg : 0 < s.gr
        · cases hm : s.mo with
          | none =>
            rw [hm] at i2
            simp -implicitDefEqProofs [B_stops_1, i3, hg, i2, optDn, notND]
          | some m =>
            rw [hm] at i2
            have p := plain_ii (b := m - s.wi) (g := s.gr) hg (by have := hs.2.gr; omega)
            simp -implicitDefEqProofs [B_stops_1, i1, i3, hg, i2, optDs, notND, p, hsm]
        · simp -implicitDefEqProofs [B_stops_1, i3, hg]
      | false =>
        simp only [stMv, mvS, Bool.false_eq_true, if_false]
        by_cases hg : 0 < s.sh
        · have p := plain_ii (b := s.wi - s.lo) (g := s.sh) hg (by have := hs.2.sh; omega)
          simp -implicitDefEqProofs [B_stops_1, i0, i1, i4, hg, p, hsm]
        · simp -implicitDefEqProofs [B_stops_1, i4, hg]
    obtain ⟨y, hy⟩ := stops1 (up := up) (d := d) S (acc ++ (stMv (mvS up s)).toList) (some (.sh (spD s))) hS (by
      rw [List.length_append]
      cases stMv (mvS up s) <;> simp <;> omega)
    refine ⟨y, ?_⟩
    rw [List.map_cons, forD_c, List.map_cons, sts_cons, ← List.append_assoc]
    simp -implicitDefEqProofs [body]
    simp -implicitDefEqProofs at hy
    exact hy
theorem stops2 {d u f x : Option Sl} : ∀ (fs ris : List Rat) (y z : Option Sl), (∀ q ∈ fs, Sz 45 q) → (∀ q ∈ ris, Sz 45 q) → ris.Pairwise (· ≤ ·) → fs.length + ris.length ≤ 1000 →
    ∃ (ris' : List Rat) (y' z' : Option Sl), forD (bNm 5) B_stops_2 (fs.map frD) [d, u, f, x, some (.ow (ris.map frD)), y, z, none] = some (.nx [d, u, f, x, some (.ow (ris'.map frD)), y', z', none]) ∧ ris'.Pairwise (· ≤ ·) ∧ (∀ q, q ∈ ris' ↔ q ∈ fs ∨ q ∈ ris) ∧ ris'.length = fs.length + ris.length
  | [], ris, y, z, _, _, hp, _ => ⟨ris, y, z, rfl, hp, fun q => by simp, by simp⟩
  | q :: fs, ris, y, z, hf, hr, hp, hl => by
    rw [List.length_cons] at hl
    have hq := hf q List.mem_cons_self
    have lc : ∀ e : DEnv, e = [d, u, f, x, some (.ow (ris.map frD)), some (.sh (frD q)), z, none] → lcGo (bNm 7) T_stops_1 C_stops_1 e (ris.map frD) = some ((ris.filter (fun y => decide (y < q))).map frD) := fun e he =>
      lcGo_typed frD frD (fun y => decide (y < q)) ris fun r hrm => by
        subst he
        have l := isless_eq ((hr r hrm).mono (m := 1999) (by decide)) (hq.mono (m := 1999) (by decide))
        exact ⟨_, rfl, by simp -implicitDefEqProofs [T_stops_1, l], fun _ => by simp -implicitDefEqProofs [C_stops_1]⟩
    have lc := lc _ rfl
    have hsm : sml ris.length = true := sml_of (by omega)
    have hsm1 : sml (ris.length + 1) = true := sml_of (by omega)
    obtain ⟨n, hn⟩ : ∃ n, (ris.filter (fun y => decide (y < q))).length = n := ⟨_, rfl⟩
    have hnl : n ≤ ris.length := by rw [← hn]; exact List.length_filter_le _ _
    have hn63 : (n : Int) < 9223372036854775808 := by omega
    have hso := ins_sorted (x := q) hp
    rw [hn] at hso
    have body : B_stops_2 [d, u, f, x, some (.ow (ris.map frD)), some (.sh (frD q)), z, none] = some (.nx [d, u, f, x, some (.ow ((ris.take n ++ [q] ++ ris.drop n).map frD)), some (.sh (frD q)), some (.sh (.int (n : Int))), none]) := by
      simp -implicitDefEqProofs [B_stops_2, hsm, lc, hn, hsm1, hn63, List.map_take, List.map_drop]
    obtain ⟨ris', y', z', h1, h2, h3, h4⟩ := stops2 (d := d) (u := u) (f := f) (x := x) fs (ris.take n ++ [q] ++ ris.drop n) (some (.sh (frD q))) (some (.sh (.int (n : Int)))) (fun r hr => hf r (List.mem_cons_of_mem _ hr)) (fun r hrm => by
      rcases mem_ins.mp hrm with rfl | hrm
      · exact hq
      · exact hr r hrm) hso (by simp; omega)
    refine ⟨ris', y', z', ?_, h2, fun r => ?_, ?_⟩
    · rw [List.map_cons, forD_c]
      simp -implicitDefEqProofs [body]
      simp -implicitDefEqProofs at h1
      exact h1
    · rw [h3 r, mem_ins]
      simp only [List.mem_cons]
      grind
    · rw [h4]
      simp
      omega
theorem stops_eq {d : D} {up : Bool} {S : List Spn} (hd : itemsD d = some (S.map spD)) (h : ∀ s ∈ S, s.Ok ∧ s.Lm) (hl : S.length ≤ 500) : ∃ R : List Rat, M_stops [d, .bool up] = some (.list (R.map frD)) ∧ R.Pairwise (· ≤ ·) ∧ (∀ q, q ∈ R ↔ q ∈ sts (S.map (mvS up))) ∧ R.length ≤ S.length := by
  obtain ⟨y, h1⟩ := stops1 (up := up) (d := some (.sh d)) S [] none h (by simp; omega)
  rw [List.nil_append] at h1
  have hsl : (sts (S.map (mvS up))).length ≤ S.length := by
    have := List.length_filterMap_le stMv (S.map (mvS up))
    rw [List.length_map] at this
    exact this
  obtain ⟨R, y', z', h2, h3, h4, h5⟩ := stops2 (d := some (.sh d)) (u := some (.sh (.bool up))) (f := some (.sh (.list ((sts (S.map (mvS up))).map frD)))) (x := y) (sts (S.map (mvS up))) [] none none (fun q hq => (sz_sts h q hq).1) (fun q hq => by simp at hq) List.Pairwise.nil (by simp; omega)
  refine ⟨R, ?_, h3, fun q => by rw [h4]; simp, by rw [h5]; simpa using hsl⟩
  simp -implicitDefEqProofs [M_stops, D_stops, startE, hd]
  simp -implicitDefEqProofs at h1 h2
  simp -implicitDefEqProofs [h1, h2]

/-! the level -/
theorem rate1 {up : Bool} {d : Option Sl} {t : Rat} (ht : Sz 1900 t) : ∀ (S : List Spn) (acc : Int) (x : Option Sl), (∀ s ∈ S, s.Ok ∧ s.Lm) → ∃ y, forD (bNm 4) B_rate_at_1 (S.map spD) [d, some (.sh (.bool up)), some (.sh (frD t)), some (.sh (.int acc)), x] = some (.nx [d, some (.sh (.bool up)), some (.sh (frD t)), some (.sh (.int (acc + rte (S.map (mvS up)) t))), y])
  | [], acc, x, _ => ⟨x, by rw [List.map_nil, forD_n, List.map_nil]; simp [rte]⟩
  | s :: S, acc, x, h => by
    have hs := h s List.mem_cons_self
    have hS : ∀ s ∈ S, s.Ok ∧ s.Lm := fun s q => h s (List.mem_cons_of_mem _ q)
    have body : B_rate_at_1 [d, some (.sh (.bool up)), some (.sh (frD t)), some (.sh (.int acc)), some (.sh (spD s))] = some (.nx [d, some (.sh (.bool up)), some (.sh (frD t)), some (.sh (.int (acc + rtMv (mvS up s) t))), some (.sh (spD s))]) := by
      have i0 := ix0 s
      have i1 := ix1 s
      have i2 := ix2 s
      have i3 := ix3 s
      have i4 := ix4 s
      have zst := fun q (hq : stMv (mvS up s) = some q) => (sz_st hs.1 hs.2 hq).1
      cases up with
      | true =>
        simp only [stMv, rtMv, mvS, if_true] at zst ⊢
        by_cases hg : 0 < s.gr
        · cases hm : s.mo with
          | none =>
            rw [hm] at i2
            simp -implicitDefEqProofs [B_rate_at_1, i3, hg, i2, optDn, isND]
          | some m =>
            rw [hm] at i2 zst
            have p := plain_ii (b := m - s.wi) (g := s.gr) hg (by have := hs.2.gr; omega)
            rw [if_pos hg] at zst
            have zs : Sz 45 (((m - s.wi : Int) : Rat) / (s.gr : Rat)) := zst _ rfl
            have l := isless_eq (ht.mono (m := 1999) (by decide)) (zs.mono (m := 1999) (by decide))
            simp only [Option.map_some]
            generalize (((m - s.wi : Int) : Rat) / (s.gr : Rat)) = q at *
            by_cases hc : t < q
            · simp -implicitDefEqProofs [B_rate_at_1, i1, i3, hg, i2, optDs, isND, p, l, hc]
            · simp -implicitDefEqProofs [B_rate_at_1, i1, i3, hg, i2, optDs, isND, p, l, hc]
        · simp -implicitDefEqProofs [B_rate_at_1, i3, hg]
      | false =>
        simp only [stMv, rtMv, mvS, Bool.false_eq_true, if_false] at zst ⊢
        by_cases hg : 0 < s.sh
        · have p := plain_ii (b := s.wi - s.lo) (g := s.sh) hg (by have := hs.2.sh; omega)
          rw [if_pos hg] at zst
          have zs : Sz 45 (((s.wi - s.lo : Int) : Rat) / (s.sh : Rat)) := zst _ rfl
          have l := isless_eq (ht.mono (m := 1999) (by decide)) (zs.mono (m := 1999) (by decide))
          generalize (((s.wi - s.lo : Int) : Rat) / (s.sh : Rat)) = q at *
          by_cases hc : t < q
          · simp -implicitDefEqProofs [B_rate_at_1, i0, i1, i4, hg, p, l, hc]
          · simp -implicitDefEqProofs [B_rate_at_1, i0, i1, i4, hg, p, l, hc]
        · simp -implicitDefEqProofs [B_rate_at_1, i4, hg]
    obtain ⟨y, hy⟩ := rate1 (up := up) (d := d) ht S (acc + rtMv (mvS up s) t) (some (.sh (spD s))) hS
    refine ⟨y, ?_⟩
    rw [List.map_cons, forD_c, List.map_cons, rte_cons, ← Int.add_assoc]
    simp -implicitDefEqProofs [body]
    exact hy
theorem rate_eq {d : D} {up : Bool} {t : Rat} {S : List Spn} (hd : itemsD d = some (S.map spD)) (h : ∀ s ∈ S, s.Ok ∧ s.Lm) (ht : Sz 1900 t) : M_rate_at [d, .bool up, frD t] = some (.int (rte (S.map (mvS up)) t)) := by
  obtain ⟨y, hy⟩ := rate1 (up := up) (d := some (.sh d)) ht S 0 none h
  rw [Int.zero_add] at hy
  simp -implicitDefEqProofs [M_rate_at, D_rate_at, startE, hd, hy]
theorem rte_le {up : Bool} {t : Rat} : ∀ {S : List Spn}, (∀ s ∈ S, s.Ok ∧ s.Lm) → rte (S.map (mvS up)) t ≤ 9 * (S.length : Int)
  | [], _ => by simp [rte]
  | s :: S, h => by
    have hs := h s List.mem_cons_self
    have ih := rte_le (up := up) (t := t) (S := S) fun s q => h s (List.mem_cons_of_mem _ q)
    rw [List.map_cons, rte_cons, List.length_cons]
    have : rtMv (mvS up s) t ≤ 9 := by
      have g1 := hs.2.gr
      have g2 := hs.2.sh
      unfold rtMv mvS
      cases up <;> simp only [if_true, Bool.false_eq_true, if_false] <;> (repeat' split) <;> omega
    omega
def frO : Option Rat → D
  | none => .none
  | some q => frD q
theorem shp_fro (o : Option Rat) : shp 1 (frO o) = true := by cases o <;> rfl
theorem frO_inj (a b : Option Rat) : PyData.eqv (frO a) (frO b) = true ↔ a = b := by
  cases a with
  | none =>
    cases b with
    | none => simp [frO, PyData.eqv]
    | some y => simp [frO, frD, PyData.eqv]
  | some x =>
    cases b with
    | none => simp [frO, frD, PyData.eqv]
    | some y =>
      rw [Option.some.injEq]
      exact eqv_fr x y
/-- how it goes on from a level -/
theorem level1 {d : D} {S : List Spn} {up : Bool} {c : Int} {s1 s2 s3 s13 : Option Sl} (hd : itemsD d = some (S.map spD)) (h : ∀ s ∈ S, s.Ok ∧ s.Lm) (hn : S.length ≤ 20) (hc0 : 0 ≤ c) (hc : c ≤ 2 ^ 50) :
    ∀ (R : List Rat) (a : Rat) (x8 x9 x10 x11 x12 : Option Sl), At (S.map (mvS up)) (c : Rat) a → R.Pairwise (· ≤ ·) → (∀ q ∈ R, a ≤ q) → (∀ q ∈ sts (S.map (mvS up)), q ≤ a ∨ q ∈ R) → (∀ q ∈ R, Sz 45 q) → Sz 45 a →
    ∃ r o, forD (bNm 8) B_level_1 (R.map frD ++ [.none]) [some (.sh d), s1, s2, s3, some (.sh (.bool up)), some (.sh (.int c)), some (.sh (frD a)), some (.sh (frD (chg (S.map (mvS up)) a))), x8, x9, x10, x11, x12, s13] = some r ∧ endFl (bindFl (some r) (sRet (cst .none))) = some (frO o) ∧ IsLvl (S.map (mvS up)) (c : Rat) o ∧ (∀ t, o = some t → Sz 1200 t) := by
  intro R
  induction R with
  | nil =>
    intro a x8 x9 x10 x11 x12 hat _ _ hst _ hza
    have zc := sz_chg (up := up) h hza (by decide)
    have zc : Sz 1020 (chg (S.map (mvS up)) a) := zc.mono (by omega)
    have zcc : Sz 51 (c : Rat) := sz_int (by omega) (by decide)
    have re := rate_eq (up := up) (t := a) hd h (hza.mono (by decide))
    have rl := rte_le (up := up) (t := a) h
    have rn := rte_nn (L := S.map (mvS up)) (a := a)
    have pl := plus_eq (zcc.mono (m := 1999) (by decide)) ((sz_neg zc).mono (m := 1999) (by decide))
    have zl := sz_add zcc (sz_neg zc)
    generalize hL : S.map (mvS up) = L at *
    have hleft : (c : Rat) + -chg L a = (c : Rat) - chg L a := by grind
    rw [hleft] at pl zl
    by_cases h0 : chg L a = c
    · refine ⟨.rt (frD a), some a, ?_, rfl, hat.here h0, fun t ht => by cases ht; exact hza.mono (by decide)⟩
      have hz : ((c : Rat) - chg L a).num = 0 := by
        have : (c : Rat) - chg L a = 0 := by grind
        rw [this]; rfl
      rw [List.map_nil, List.nil_append, forD_c]
      simp -implicitDefEqProofs [B_level_1, re, ix_fr0, ix_fr1, fr_int, fr_neg, pl, hz]
    · have hz : ((c : Rat) - chg L a).num ≠ 0 := by
        intro q
        have := Rat.num_eq_zero.mp q
        exact h0 (by grind)
      by_cases hr : 0 < rte L a
      · have pd := plain_div zl (by decide) hr (by omega)
        have zd := sz_div zl (m := 8) (g := rte L a) (by omega) hr
        have pg := plus_eq (hza.mono (m := 1999) (by decide)) (zd.mono (m := 1999) (by decide))
        have zg := sz_add hza zd
        have mm := mul_sz (k := 1080) (m := 60) (den_sz (zl.mono (m := 1080) (by decide))) (b := rte L a) (by omega)
        refine ⟨.rt (frD (a + ((c : Rat) - chg L a) / (rte L a : Rat))), some (a + ((c : Rat) - chg L a) / (rte L a : Rat)), ?_, rfl, hat.goal h0 hr rfl fun s hs => ?_, fun t ht => by cases ht; exact zg.mono (by decide)⟩
        · rw [List.map_nil, List.nil_append, forD_c]
          simp -implicitDefEqProofs [B_level_1, re, ix_fr0, ix_fr1, fr_int, fr_neg, pl, hz, hr, mm, pd, pg, isND]
        · rcases hst s hs with q | q
          · exact .inl q
          · simp at q
      · have hr0 : rte L a = 0 := by omega
        refine ⟨.nx ([some (.sh d), s1, s2, s3, some (.sh (.bool up)), some (.sh (.int c)), some (.sh (frD a)), some (.sh (frD (chg L a))), some (.sh .none), some (.sh (.int 0)), some (.sh (frD ((c : Rat) - chg L a))), x11, x12, s13]), none, ?_, ?_, hat.last h0 hr0, fun t ht => by cases ht⟩
        · rw [List.map_nil, List.nil_append, forD_c]
          simp -implicitDefEqProofs [B_level_1, re, ix_fr0, ix_fr1, fr_int, fr_neg, pl, hz, hr0, notND, forD_n]
        · rfl
  | cons b R ih =>
    intro a x8 x9 x10 x11 x12 hat hso hge hst hzR hza
    have hzb := hzR b List.mem_cons_self
    have hab := hge b List.mem_cons_self
    rw [List.pairwise_cons] at hso
    have zc := sz_chg (up := up) h hza (by decide)
    have zc : Sz 1020 (chg (S.map (mvS up)) a) := zc.mono (by omega)
    have zcc : Sz 51 (c : Rat) := sz_int (by omega) (by decide)
    have re := rate_eq (up := up) (t := a) hd h (hza.mono (by decide))
    have rl := rte_le (up := up) (t := a) h
    have rn := rte_nn (L := S.map (mvS up)) (a := a)
    have pl := plus_eq (zcc.mono (m := 1999) (by decide)) ((sz_neg zc).mono (m := 1999) (by decide))
    have zl := sz_add zcc (sz_neg zc)
    have hok := mvS_oks (up := up) (S := S) fun s q => (h s q).1
    generalize hL : S.map (mvS up) = L at *
    have hleft : (c : Rat) + -chg L a = (c : Rat) - chg L a := by grind
    rw [hleft] at pl zl
    have hstb : ∀ q ∈ sts L, q ≤ a ∨ b ≤ q := fun q hq => by
      rcases hst q hq with r | r
      · exact .inl r
      · rcases List.mem_cons.mp r with rfl | r
        · exact .inr (by grind)
        · exact .inr (hso.1 q r)
    by_cases h0 : chg L a = c
    · refine ⟨.rt (frD a), some a, ?_, rfl, hat.here h0, fun t ht => by cases ht; exact hza.mono (by decide)⟩
      have hz : ((c : Rat) - chg L a).num = 0 := by
        have : (c : Rat) - chg L a = 0 := by grind
        rw [this]; rfl
      rw [List.map_cons, List.cons_append, forD_c]
      simp -implicitDefEqProofs [B_level_1, re, ix_fr0, ix_fr1, fr_int, fr_neg, pl, hz]
    · have hz : ((c : Rat) - chg L a).num ≠ 0 := by
        intro q
        have := Rat.num_eq_zero.mp q
        exact h0 (by grind)
      have go : (rte L a = 0 ∨ b < a + ((c : Rat) - chg L a) / (rte L a : Rat)) → ∀ y11, ∃ r o, forD (bNm 8) B_level_1 (R.map frD ++ [.none]) [some (.sh d), s1, s2, s3, some (.sh (.bool up)), some (.sh (.int c)), some (.sh (frD b)), some (.sh (frD (chg L a + (b - a) * (rte L a : Rat)))), some (.sh (frD b)), some (.sh (.int (rte L a))), some (.sh (frD ((c : Rat) - chg L a))), y11, some (.sh (frD (b - a))), s13] = some r ∧ endFl (bindFl (some r) (sRet (cst .none))) = some (frO o) ∧ IsLvl L (c : Rat) o ∧ (∀ t, o = some t → Sz 1200 t) := fun hg y11 => by
        obtain ⟨n1, n2⟩ := hat.next hok h0 hab hstb hg
        obtain ⟨r, o, e1, e2, e3, e4⟩ := ih b (some (.sh (frD b))) (some (.sh (.int (rte L a)))) (some (.sh (frD ((c : Rat) - chg L a)))) y11 (some (.sh (frD (b - a)))) n1 hso.2 hso.1 (fun q hq => by
          rcases hst q hq with r | r
          · exact .inl (by grind)
          · rcases List.mem_cons.mp r with rfl | r
            · exact .inl (by grind)
            · exact .inr r) (fun q hq => hzR q (List.mem_cons_of_mem _ hq)) hzb
        rw [n2] at e1
        exact ⟨r, o, e1, e2, e3, e4⟩
      have pstep := plus_eq (hzb.mono (m := 1999) (by decide)) ((sz_neg hza).mono (m := 1999) (by decide))
      have zstep := sz_add hzb (sz_neg hza)
      have hstep : b + -a = b - a := by grind
      rw [hstep] at pstep zstep
      have pm := plain_mul (g := rte L a) zstep (by decide)
      have zm := sz_mul (m := 8) (g := rte L a) zstep (by omega)
      have mm2 := mul_sz (k := 91) (m := 60) zstep.1 (b := rte L a) (by omega)
      have pmv := plus_eq (zc.mono (m := 1999) (by decide)) (zm.mono (m := 1999) (by decide))
      by_cases hr : 0 < rte L a
      · have pd := plain_div zl (by decide) hr (by omega)
        have zd := sz_div zl (m := 8) (g := rte L a) (by omega) hr
        have pg := plus_eq (hza.mono (m := 1999) (by decide)) (zd.mono (m := 1999) (by decide))
        have zg := sz_add hza zd
        have mm := mul_sz (k := 1080) (m := 60) (den_sz (zl.mono (m := 1080) (by decide))) (b := rte L a) (by omega)
        have ls := isless_eq (hzb.mono (m := 1999) (by decide)) (zg.mono (m := 1999) (by decide))
        by_cases hc' : b < a + ((c : Rat) - chg L a) / (rte L a : Rat)
        · obtain ⟨r, o, e1, e2, e3, e4⟩ := go (.inr hc') (some (.sh (frD (a + ((c : Rat) - chg L a) / (rte L a : Rat)))))
          refine ⟨r, o, ?_, e2, e3, e4⟩
          rw [List.map_cons, List.cons_append, forD_c]
          rw [← e1]
          have ib : isND (frD b) = some (.bool false) := rfl
          have ib' : notND (frD b) = some (.bool true) := rfl
          simp -implicitDefEqProofs [B_level_1, re, ix_fr0, ix_fr1, fr_int, fr_neg, pl, hz, hr, mm, pd, pg, ib, ib', ls, hc', pstep, mm2, pm, pmv]
        · refine ⟨.rt (frD (a + ((c : Rat) - chg L a) / (rte L a : Rat))), some (a + ((c : Rat) - chg L a) / (rte L a : Rat)), ?_, rfl, hat.goal h0 hr rfl fun s hs => ?_, fun t ht => by cases ht; exact zg.mono (by decide)⟩
          · rw [List.map_cons, List.cons_append, forD_c]
            have ib : isND (frD b) = some (.bool false) := rfl
            simp -implicitDefEqProofs [B_level_1, re, ix_fr0, ix_fr1, fr_int, fr_neg, pl, hz, hr, mm, pd, pg, ib, ls, hc']
          · rcases hstb s hs with q | q
            · exact .inl q
            · exact .inr (by grind)
      · have hr0 : rte L a = 0 := by omega
        obtain ⟨r, o, e1, e2, e3, e4⟩ := go (.inl hr0) x11
        refine ⟨r, o, ?_, e2, e3, e4⟩
        rw [List.map_cons, List.cons_append, forD_c]
        rw [← e1]
        have ib' : notND (frD b) = some (.bool true) := rfl
        simp -implicitDefEqProofs [B_level_1, re, ix_fr0, ix_fr1, fr_int, fr_neg, pl, hz, hr, ib', pstep, mm2, pm, pmv]

/-! whole lengths -/
def lens (a : Rat) : List Rat → List Int
  | [] => []
  | x :: xs => ((a + x).floor - a.floor) :: lens (a + x) xs
theorem lens_len : ∀ (xs : List Rat) (a : Rat), (lens a xs).length = xs.length
  | [], _ => rfl
  | x :: xs, a => by rw [lens, List.length_cons, List.length_cons, lens_len xs]
/-! sizes of sums of shares -/
def Lin (t : Rat) (n : Nat) (x : Rat) : Prop := ∃ i g : Int, x = (i : Rat) + t * (g : Rat) ∧ i.natAbs ≤ n * 2 ^ 41 ∧ g.natAbs ≤ n * 9
theorem Lin.add {t x y : Rat} {n m : Nat} (h : Lin t n x) (h' : Lin t m y) : Lin t (n + m) (x + y) := by
  obtain ⟨i, g, rfl, h1, h2⟩ := h
  obtain ⟨j, k, rfl, h3, h4⟩ := h'
  refine ⟨i + j, g + k, ?_, ?_, ?_⟩
  · rw [Rat.intCast_add, Rat.intCast_add]; grind
  · have := Int.natAbs_add_le i j; omega
  · have := Int.natAbs_add_le g k; omega
theorem Lin.zero {t : Rat} : Lin t 0 0 := ⟨0, 0, by rw [Rat.intCast_zero]; grind, by simp, by simp⟩
theorem Lin.sz {t x : Rat} {n k : Nat} (h : Lin t n x) (hn : n ≤ 100) (ht : Sz k t) : Sz (k + 59) x := by
  obtain ⟨i, g, rfl, h1, h2⟩ := h
  have z1 : Sz 48 (i : Rat) := sz_int (by omega) (by decide)
  have z2 := sz_mul (m := 10) ht (g := g) (by omega)
  exact (sz_add z1 z2).mono (by omega)
theorem Lin.int {t : Rat} {i : Int} (h0 : 0 ≤ i) (h : i ≤ 2 ^ 40) : Lin t 1 (i : Rat) := ⟨i, 0, by rw [Rat.intCast_zero]; grind, by omega, by simp⟩
theorem lin_sh {up : Bool} {s : Spn} {t : Rat} (h : s.Ok) (hl : s.Lm) : Lin t 1 (shV up (some t) s) := by
  have w0 := h.wi0
  have w1 := hl.wi
  have l0 := h.lo0
  have l1 := h.low
  have g0 := h.gr0
  have g1 := hl.gr
  have g2 := h.sh0
  have g3 := hl.sh
  cases up with
  | true =>
    rw [got_up h]
    have lf : Lin t 1 ((s.wi : Rat) + t * (s.gr : Rat)) := ⟨s.wi, s.gr, rfl, by omega, by omega⟩
    split
    · rename_i m hm
      split
      · refine Lin.int (Int.le_trans w0 (wi_to h hm)) ?_
        unfold toV at hm
        split at hm
        · exact hl.mo m hm
        · cases hm; exact hl.wi
      · exact lf
    · exact lf
  | false =>
    rw [got_dn h]
    split
    · refine Lin.int ?_ ?_ <;> unfold loV <;> split <;> omega
    · exact ⟨s.wi, -s.sh, by rw [Rat.intCast_neg]; grind, by omega, by omega⟩
theorem lin_none {up : Bool} {s : Spn} (h : s.Ok) (hl : s.Lm) (hv : VO [mvS up s] none) : Lin 0 1 (shV up none s) := by
  obtain ⟨m, h1, h2⟩ := sh_none hv
  rw [h2]
  have w0 := h.wi0
  have w1 := hl.wi
  have l0 := h.lo0
  have l1 := h.low
  cases up with
  | true =>
    simp only [if_true] at h1
    refine Lin.int (Int.le_trans w0 (wi_to h h1)) ?_
    unfold toV at h1
    split at h1
    · exact hl.mo m h1
    · cases h1; exact hl.wi
  | false =>
    simp only [Bool.false_eq_true, if_false, Option.some.injEq] at h1
    subst h1
    refine Lin.int ?_ ?_ <;> unfold loV <;> split <;> omega
def tO : Option Rat → Rat
  | some t => t
  | none => 0
theorem lin_o {up : Bool} {s : Spn} {o : Option Rat} (h : s.Ok) (hl : s.Lm) (hv : VO [mvS up s] o) : Lin (tO o) 1 (shV up o s) := by
  cases o with
  | some t => exact lin_sh h hl
  | none => exact lin_none h hl hv
theorem sz_tO {o : Option Rat} {k : Nat} (h : ∀ t, o = some t → Sz k t) (hk : 1 ≤ k) : Sz k (tO o) := by
  cases o with
  | some t => exact h t rfl
  | none => exact Sz.mono (k := 1) ⟨by decide, by decide⟩ hk
/-! level, shares, lengths -/
theorem sumW_le {S : List Spn} (h : ∀ s ∈ S, s.Ok ∧ s.Lm) : 0 ≤ sumW S ∧ sumW S ≤ 2 ^ 40 * (S.length : Int) := by
  induction S with
  | nil => simp [sumW]
  | cons s S ih =>
    have hs := h s List.mem_cons_self
    have := ih fun s q => h s (List.mem_cons_of_mem _ q)
    have e : sumW (s :: S) = s.wi + sumW S := by simp [sumW]
    have w0 := hs.1.wi0
    have w1 := hs.2.wi
    rw [e, List.length_cons]
    omega
theorem level_eq {d : D} {S : List Spn} {gap length : Int} (hd : itemsD d = some (S.map spD)) (hn : lenD d = some (.int (S.length : Int))) (h : ∀ s ∈ S, s.Ok ∧ s.Lm) (hl : S.length ≤ 20) (hg : 0 ≤ gap ∧ gap ≤ 2 ^ 62) (hr : roomV S.length gap length ≤ 2 ^ 49) :
    ∃ o, M_level [d, .int gap, .int length] = some (frO o) ∧ LvlS S (roomV S.length gap length) o ∧ (∀ t, o = some t → Sz 1200 t) := by
  have r0 : 0 ≤ roomV S.length gap length := by unfold roomV; omega
  have e1 := room_eq (length := length) hn hg
  generalize roomV S.length gap length = room at *
  have e2 := enough_eq (room := room) hd (by omega)
  obtain ⟨w0, w1⟩ := sumW_le h
  obtain ⟨c, hc⟩ : ∃ c : Int, (if room - sumW S < 0 then -(room - sumW S) else room - sumW S) = c := ⟨_, rfl⟩
  have hc0 : 0 ≤ c := by subst hc; split <;> omega
  have hc1 : c ≤ 2 ^ 50 := by subst hc; split <;> omega
  have hcc : (c : Rat) = mvC S room := by
    subst hc
    unfold mvC upV
    by_cases q : sumW S ≤ room
    · rw [if_neg (by omega), if_pos (by simpa using q), Rat.intCast_sub]
    · rw [if_pos (by omega), if_neg (by simpa using q), Rat.intCast_neg, Rat.intCast_sub]; grind
  obtain ⟨R, hR, R1, R2, R3⟩ := stops_eq (up := upV S room) hd h (by omega)
  have hok := mvS_oks (up := upV S room) (S := S) fun s q => (h s q).1
  have hch : chg (S.map (mvS (upV S room))) 0 = 0 := chg_0 hok
  have hz : ∀ q ∈ R, Sz 45 q ∧ 0 ≤ q := fun q hq => sz_sts h q ((R2 q).mp hq)
  obtain ⟨r, o, f1, f2, f3, f4⟩ := level1 (c := c) (s1 := some (.sh (.int gap))) (s2 := some (.sh (.int length))) (s3 := some (.sh (.int room))) (s13 := none) hd h hl hc0 hc1 R 0 none none none none none ⟨by grind, by rw [hch]; exact rnn hc0, fun s s0 s1 => by grind⟩ R1 (fun q hq => (hz q hq).2) (fun q hq => .inr ((R2 q).mpr hq)) (fun q hq => (hz q hq).1) (Sz.mono (k := 1) ⟨by decide, by decide⟩ (by decide))
  rw [hch] at f1
  rw [hcc] at f3
  refine ⟨o, ?_, f3, f4⟩
  have hs : sml S.length = true := sml_of (by omega)
  have k := sumwi (S := S) (e := [some (.sh d), some (.sh (.int gap)), some (.sh (.int length)), some (.sh (.int room)), some (.sh (.bool (upV S room))), none, none, none, none, none, none, none, none, none]) (i := 13) (by simp)
  have hadd : addD (.list (R.map frD)) (.list [.none]) = some (.list (R.map frD ++ [.none])) := add_l (by simp; omega)
  have f00 : PyData.tuple [.int 0, .int 1] = frD 0 := rfl
  have hsw : (S.map Spn.wi).sum = sumW S := rfl
  rw [← f2]
  simp -implicitDefEqProofs [M_level, D_level, C_level_1, startE, e1, e2, hd, hs, k, hsw, hR, hadd, f00, -List.map_map]
  rw [hc, f1]
theorem lin_sum {up : Bool} {t : Rat} : ∀ {S : List Spn}, (∀ s ∈ S, s.Ok ∧ s.Lm) → Lin t S.length ((S.map (shV up (some t))).sum)
  | [], _ => Lin.zero
  | s :: S, h => by
    have hs := h s List.mem_cons_self
    have ih := lin_sum (up := up) (t := t) (S := S) fun s q => h s (List.mem_cons_of_mem _ q)
    have := (lin_sh (up := up) (t := t) hs.1 hs.2).add ih
    rw [Nat.add_comm] at this
    rw [List.map_cons, List.sum_cons]
    exact this
theorem notN_fr (q : Rat) : notND (frD q) = some (.bool true) := rfl
theorem isN_fr (q : Rat) : isND (frD q) = some (.bool false) := rfl
theorem shares_eq {d : D} {S : List Spn} {gap length : Int} (hd : itemsD d = some (S.map spD)) (hn : lenD d = some (.int (S.length : Int))) (h : ∀ s ∈ S, s.Ok ∧ s.Lm) (hl : S.length ≤ 20) (hg : 0 ≤ gap ∧ gap ≤ 2 ^ 62)
    {o : Option Rat} (hM : M_level [d, .int gap, .int length] = some (frO o)) (hL : LvlS S (roomV S.length gap length) o) (hz : ∀ t, o = some t → Sz 1200 t) :
    M_shares [d, .int gap, .int length] = some (.tuple ((S.map (shV (upV S (roomV S.length gap length)) o)).map frD)) := by
  have e1 := room_eq (length := length) hn hg
  generalize roomV S.length gap length = room at *
  have e2 := enough_eq (room := room) hd (by omega)
  have hs : sml S.length = true := sml_of (by omega)
  have hv := hL.vo
  cases o with
  | none =>
    have lc : ∀ (E : DEnv), E = [some (.sh d), some (.sh (.int gap)), some (.sh (.int length)), some (.sh .none), some (.sh (.bool (upV S room))), none] → lcGo (bNm 5) yesT C_shares_1 E (S.map spD) = some ((S.map (shV (upV S room) none)).map frD) := fun E hE => by
      subst hE
      rw [List.map_map]
      refine lcGo_map spD (frD ∘ shV (upV S room) none) S fun s hs' => ⟨_, rfl, ?_⟩
      obtain ⟨m, h1, h2⟩ := sh_none (vo_one hv hs')
      have e3 := lowof_eq s
      have e4 := topof_eq s
      simp only [Function.comp]
      rw [h2]
      cases hu : upV S room with
      | true =>
        rw [hu] at h1
        simp only [if_true] at h1
        rw [h1] at e4
        have at1 : atI [PyData.int (loV s), .int m] 1 = some (.int m) := rfl
        simp -implicitDefEqProofs [C_shares_1, e3, e4, optDs, at1, fr_int]
      | false =>
        rw [hu] at h1
        simp only [Bool.false_eq_true, if_false, Option.some.injEq] at h1
        have at0 : ∀ x : D, atI [PyData.int (loV s), x] 0 = some (.int (loV s)) := fun x => rfl
        rw [← h1]
        simp -implicitDefEqProofs [C_shares_1, e3, e4, at0, fr_int]
    have lc := lc _ rfl
    have i0 : isND (frO none) = some (.bool true) := rfl
    have i1 : frO none = .none := rfl
    rw [i1] at hM i0
    simp -implicitDefEqProofs [M_shares, D_shares, startE, hM, e1, e2, i0, hd, hs, lc, -List.map_map]
  | some t =>
    have ht := hz t rfl
    have i1 : frO (some t) = frD t := rfl
    rw [i1] at hM
    have i0 := isN_fr t
    cases hu : upV S room with
    | true =>
      rw [hu] at e2
      have lc : ∀ (E : DEnv), E = [some (.sh d), some (.sh (.int gap)), some (.sh (.int length)), some (.sh (frD t)), some (.sh (.bool true)), none] → lcGo (bNm 5) yesT C_shares_2 E (S.map spD) = some ((S.map (shV true (some t))).map frD) := fun E hE => by
        subst hE
        rw [List.map_map]
        refine lcGo_map spD (frD ∘ shV true (some t)) S fun s hs' => ⟨_, rfl, ?_⟩
        have g := grown_eq (h s hs').1 (h s hs').2 ht (by decide)
        simp -implicitDefEqProofs [C_shares_2, g]
      have lc := lc _ rfl
      simp -implicitDefEqProofs [M_shares, D_shares, startE, hM, e1, e2, i0, hd, hs, lc, -List.map_map]
    | false =>
      rw [hu] at e2
      have lc : ∀ (E : DEnv), E = [some (.sh d), some (.sh (.int gap)), some (.sh (.int length)), some (.sh (frD t)), some (.sh (.bool false)), none] → lcGo (bNm 5) yesT C_shares_3 E (S.map spD) = some ((S.map (shV false (some t))).map frD) := fun E hE => by
        subst hE
        rw [List.map_map]
        refine lcGo_map spD (frD ∘ shV false (some t)) S fun s hs' => ⟨_, rfl, ?_⟩
        have g := shrunk_eq (h s hs').1 (h s hs').2 ht (by decide)
        simp -implicitDefEqProofs [C_shares_3, g]
      have lc := lc _ rfl
      simp -implicitDefEqProofs [M_shares, D_shares, startE, hM, e1, e2, i0, hd, hs, lc, -List.map_map]
theorem floor_fr {q : Rat} {k : Nat} (h : Sz k q) (hk : k ≤ 4000) : fdivD (.int q.num) (.int (q.den : Int)) = some (.int q.floor) := by
  rw [fdiv_w (by have := q.den_pos; omega) (p4000 (den_sz h) hk), Rat.floor_def]
/-- the loop that sums up -/
theorem lensB (P : List D → Option D) (hP : ∀ x y : Rat, Sz 1999 x → Sz 1999 y → P [frD x, frD y] = some (frD (x + y))) (body : FS) (hb : body = (sq (sAsg 6 (cA P (consA (vr 4) (consA (vr 5) nilA))))
    (sq (sApp 3 (c2 subD (c2 fdivD (c2 ixD (vr 6) (cst (.int 0))) (c2 ixD (vr 6) (cst (.int 1)))) (c2 fdivD (c2 ixD (vr 4) (cst (.int 0))) (c2 ixD (vr 4) (cst (.int 1))))))
    (sAsg 4 (vr 6))))) {s0 s1 s2 : Option Sl} {t : Rat} (ht : Sz 1200 t) : ∀ (xs : List Rat) (n : Nat) (acc : List Int) (a : Rat) (y z : Option Sl), (∀ x ∈ xs, Lin t 1 x) → Lin t n a → n + xs.length ≤ 100 → acc.length + xs.length ≤ 1000 →
    ∃ a' y' z', forD (bNm 5) body (xs.map frD) [s0, s1, s2, some (.ow (acc.map PyData.int)), some (.sh (frD a)), y, z] = some (.nx [s0, s1, s2, some (.ow ((acc ++ lens a xs).map PyData.int)), a', y', z'])
  | [], n, acc, a, y, z, _, _, _, _ => ⟨_, _, _, by rw [List.map_nil, forD_n, lens, List.append_nil]⟩
  | x :: xs, n, acc, a, y, z, hx, ha, hn, hl => by
    rw [List.length_cons] at hn hl
    have lx := hx x List.mem_cons_self
    have la := ha.add lx
    have z1 := (ha.sz (by omega) ht).mono (m := 1999) (by decide)
    have z2 := (lx.sz (by omega) ht).mono (m := 1999) (by decide)
    have z3 := (la.sz (by omega) ht).mono (m := 1999) (by decide)
    have p := hP a x z1 z2
    have f1 := floor_fr z1 (by decide)
    have f2 := floor_fr z3 (by decide)
    have hsm : sml (acc.length + 1) = true := sml_of (by omega)
    obtain ⟨a', y', z', hh⟩ := lensB P hP body hb (s0 := s0) (s1 := s1) (s2 := s2) ht xs (n + 1) (acc ++ [(a + x).floor - a.floor]) (a + x) (some (.sh (frD x))) (some (.sh (frD (a + x)))) (fun y q => hx y (List.mem_cons_of_mem _ q)) la (by omega) (by simp; omega)
    refine ⟨a', y', z', ?_⟩
    rw [List.append_assoc, List.singleton_append] at hh
    rw [List.map_cons, forD_c, lens, ← hh]
    subst hb
    simp -implicitDefEqProofs [p, ix_fr0, ix_fr1, f1, f2, hsm]

/-- what the program tells of spans, a gap, a length -/
theorem share_ex0 {d : D} {S : List Spn} {gap length : Int} (hd : itemsD d = some (S.map spD)) (hn : lenD d = some (.int (S.length : Int))) (h : ∀ s ∈ S, s.Ok ∧ s.Lm) (hl : S.length ≤ 20) (hg : 0 ≤ gap ∧ gap ≤ 2 ^ 62) (hr : roomV S.length gap length ≤ 2 ^ 49) :
    ∃ o, M_level [d, .int gap, .int length] = some (frO o) ∧ LvlS S (roomV S.length gap length) o ∧ (∀ t, o = some t → Sz 1200 t) ∧ M_shares [d, .int gap, .int length] = some (.tuple ((S.map (shV (upV S (roomV S.length gap length)) o)).map frD)) := by
  obtain ⟨o, h1, h2, h3⟩ := level_eq hd hn h hl hg hr
  exact ⟨o, h1, h2, h3, shares_eq hd hn h hl hg h1 h2 h3⟩
theorem roomV_le {n : Nat} {gap length : Int} (hn : 1 ≤ n) (hg : 0 ≤ gap) (hl : length ≤ 2 ^ 49) : roomV n gap length ≤ 2 ^ 49 := by
  unfold roomV
  have : 0 ≤ gap * ((n : Int) - 1) := Int.mul_nonneg hg (by omega)
  omega
theorem shp_frT (ms : List Rat) : shp 2 (.tuple (ms.map frD)) = true := by
  show (ms.map frD).all (shp 1) = true
  rw [List.all_eq_true]
  intro x hx
  obtain ⟨q, _, rfl⟩ := List.mem_map.mp hx
  exact shp_fr q

theorem lengths_eq {d : D} {S : List Spn} {gap length : Int} (h : ∀ s ∈ S, s.Ok ∧ s.Lm) (hl : S.length ≤ 20) {up : Bool} {o : Option Rat} (hv : VO (S.map (mvS up)) o) (hz : ∀ t, o = some t → Sz 1200 t)
    (hM : M_shares [d, .int gap, .int length] = some (.tuple ((S.map (shV up o)).map frD))) : M_lengths [d, .int gap, .int length] = some (.tuple ((lens 0 (S.map (shV up o))).map PyData.int)) := by
  obtain ⟨a', y', z', hh⟩ := lensB M_plus (fun _ _ h1 h2 => plus_eq h1 h2) B_lengths_1 rfl (s0 := some (.sh d)) (s1 := some (.sh (.int gap))) (s2 := some (.sh (.int length))) (sz_tO hz (by decide)) (S.map (shV up o)) 0 [] 0 none none (fun x hx => by
    obtain ⟨s, hs, rfl⟩ := List.mem_map.mp hx
    exact lin_o (h s hs).1 (h s hs).2 (vo_one hv hs)) Lin.zero (by simp; omega) (by simp; omega)
  rw [List.nil_append, List.map_nil] at hh
  have f00 : PyData.tuple [.int 0, .int 1] = frD 0 := rfl
  simp -implicitDefEqProofs [M_lengths, D_lengths, startE, hM, f00, hh, -List.map_map]
/-- what the program tells of spans, a gap, a length -/
theorem share_ex {d : D} {S : List Spn} {gap length : Int} (hd : itemsD d = some (S.map spD)) (hn : lenD d = some (.int (S.length : Int))) (h : ∀ s ∈ S, s.Ok ∧ s.Lm) (hl : S.length ≤ 20) (hg : 0 ≤ gap ∧ gap ≤ 2 ^ 62) (hr : roomV S.length gap length ≤ 2 ^ 49) :
    ∃ o, M_level [d, .int gap, .int length] = some (frO o) ∧ LvlS S (roomV S.length gap length) o ∧ (∀ t, o = some t → Sz 1200 t) ∧ M_shares [d, .int gap, .int length] = some (.tuple ((S.map (shV (upV S (roomV S.length gap length)) o)).map frD)) ∧ M_lengths [d, .int gap, .int length] = some (.tuple ((lens 0 (S.map (shV (upV S (roomV S.length gap length)) o))).map PyData.int)) := by
  obtain ⟨o, h1, h2, h3⟩ := level_eq hd hn h hl hg hr
  have h4 := shares_eq hd hn h hl hg h1 h2 h3
  exact ⟨o, h1, h2, h3, h4, lengths_eq h hl h2.vo h3 h4⟩

/-! the law's level -/
/-- the least of some -/
def minL (a : Rat) : List Rat → Rat
  | [] => a
  | x :: xs => minL (if x < a then x else a) xs
theorem minL_le : ∀ (xs : List Rat) (a : Rat), minL a xs ≤ a ∧ ∀ x ∈ xs, minL a xs ≤ x
  | [], a => ⟨Rat.le_refl, fun x h => by simp at h⟩
  | y :: ys, a => by
    obtain ⟨h1, h2⟩ := minL_le ys (if y < a then y else a)
    have e : minL a (y :: ys) = minL (if y < a then y else a) ys := rfl
    refine ⟨by grind, fun x hx => ?_⟩
    rcases List.mem_cons.mp hx with rfl | hx
    · grind
    · exact h2 x hx
theorem minL_mem : ∀ (xs : List Rat) (a : Rat), minL a xs = a ∨ minL a xs ∈ xs
  | [], a => .inl rfl
  | y :: ys, a => by
    have e : minL a (y :: ys) = minL (if y < a then y else a) ys := rfl
    have := minL_mem ys (if y < a then y else a)
    rw [e, List.mem_cons]
    grind
/-- |x|, parts of two -/
def absR (x : Rat) : Rat := if x < 0 then -x else x
theorem absR_eq (x : Rat) : absR x = (x.num.natAbs : Rat) / (x.den : Rat) := by
  have hx : x = (x.num : Rat) / (x.den : Rat) := by rw [← Rat.mkRat_eq_div, Rat.mkRat_self]
  have hn := Rat.num_nonneg (q := x)
  unfold absR
  by_cases h : x < 0
  · have h1 : x.num < 0 := by
      have : ¬ 0 ≤ x.num := fun q => by have := hn.mp q; grind
      omega
    have h2 : (x.num.natAbs : Rat) = -(x.num : Rat) := by
      have : ((x.num.natAbs : Nat) : Int) = -x.num := by omega
      have : (((x.num.natAbs : Nat) : Int) : Rat) = ((-x.num : Int) : Rat) := by rw [this]
      rw [Rat.intCast_neg] at this
      exact this
    rw [if_pos h, h2]
    generalize (x.num : Rat) = a at *
    generalize (x.den : Rat) = b at *
    grind
  · have h1 : 0 ≤ x.num := hn.mpr (by grind)
    have h2 : (x.num.natAbs : Rat) = (x.num : Rat) := by
      have : ((x.num.natAbs : Nat) : Int) = x.num := by omega
      have : (((x.num.natAbs : Nat) : Int) : Rat) = (x.num : Rat) := by rw [this]
      exact this
    rw [if_neg h, h2]
    exact hx
theorem part_eq {f r : Rat} (hr : r ≠ 0) : mkRat (((f.num * (r.den : Int)).natAbs : Nat) : Int) (f.den * r.num.natAbs) = absR f / absR r := by
  rw [Rat.mkRat_eq_div, absR_eq, absR_eq]
  have e1 : (((f.num * (r.den : Int)).natAbs : Nat) : Rat) = (f.num.natAbs : Rat) * (r.den : Rat) := by
    rw [Int.natAbs_mul, Int.natAbs_natCast, Rat.natCast_mul]
  have e2 : ((f.den * r.num.natAbs : Nat) : Rat) = (f.den : Rat) * (r.num.natAbs : Rat) := by rw [Rat.natCast_mul]
  have e0 : ((((f.num * (r.den : Int)).natAbs : Nat) : Int) : Rat) = (((f.num * (r.den : Int)).natAbs : Nat) : Rat) := rfl
  rw [e0, e1, e2]
  have n1 : (f.den : Rat) ≠ 0 := by have := f.den_nz; exact_mod_cast this
  have n2 : (r.den : Rat) ≠ 0 := by have := r.den_nz; exact_mod_cast this
  have n3 : (r.num.natAbs : Rat) ≠ 0 := by
    have : r.num.natAbs ≠ 0 := fun q => hr (Rat.num_eq_zero.mp (by omega))
    exact_mod_cast this
  generalize (f.num.natAbs : Rat) = a at *
  generalize (r.num.natAbs : Rat) = c at *
  generalize (f.den : Rat) = b at *
  generalize (r.den : Rat) = d at *
  grind

theorem ne_bool (a b : Bool) : neD (.bool a) (.bool b) = some (.bool (a != b)) := by cases a <;> cases b <;> rfl
theorem shp_frs (ms : List Rat) : shp 2 (.list (ms.map frD)) = true := by
  show (ms.map frD).all (shp 1) = true
  rw [List.all_eq_true]
  intro x hx
  obtain ⟨q, _, rfl⟩ := List.mem_map.mp hx
  exact shp_fr q
theorem ne_nil {q : Rat} {ms : List Rat} : neD (.list ((q :: ms).map frD)) (.list []) = some (.bool true) := by
  rw [ne_ok (shp_frs _) (m := 1) (b := .list []) rfl]
  rfl
theorem ne_nil0 : neD (.list []) (.list []) = some (.bool false) := rfl
theorem eq_nil {q : Rat} {ms : List Rat} : eqD (.list ((q :: ms).map frD)) (.list []) = some (.bool false) := by
  rw [eq_ok (shp_frs _) (m := 1) (b := .list []) rfl]
  rfl
theorem eq_nil0 : eqD (.list []) (.list []) = some (.bool true) := rfl
def mks (b : Bool) (ms : List Rat) : Option Sl := if b = true then some (.ow (ms.map frD)) else some (.sh (.list (ms.map frD)))
theorem z2L_map {α : Type} (f g : α → D) : ∀ xs : List α, z2L (xs.map f) (xs.map g) = xs.map fun x => .tuple [f x, g x]
  | [] => rfl
  | x :: xs => by
    have := z2L_map f g xs
    simp only [List.map_cons, z2L, this]
theorem z3L_map {α : Type} (f g h : α → D) : ∀ xs : List α, z3L (xs.map f) (xs.map g) (xs.map h) = xs.map fun x => .tuple [f x, g x, h x]
  | [] => rfl
  | x :: xs => by
    have := z3L_map f g h xs
    simp only [List.map_cons, z3L, this]

/-! spans joined -/
def J (b : Bool) (xs : List Int) : Int := if b = true then xs.sum else xs.max?.getD 0
theorem mx_iff {xs : List Int} (h : xs ≠ []) (m : Int) : xs.max?.getD 0 = m ↔ m ∈ xs ∧ ∀ x ∈ xs, x ≤ m := by
  cases hx : xs.max? with
  | none => exact absurd (List.max?_eq_none_iff.mp hx) h
  | some v =>
    have hv := List.max?_eq_some_iff.mp hx
    constructor
    · rintro rfl
      exact hv
    · rintro ⟨h1, h2⟩
      have h3 := hv.2 m h1
      have h4 := h2 v hv.1
      simp only [Option.getD_some]
      omega
theorem mx_some {xs : List Int} (h : xs ≠ []) : xs.max? = some (xs.max?.getD 0) := by
  cases hx : xs.max? with
  | none => exact absurd (List.max?_eq_none_iff.mp hx) h
  | some v => rfl
theorem mx_mem {xs : List Int} (h : xs ≠ []) : xs.max?.getD 0 ∈ xs := ((mx_iff h _).mp rfl).1
theorem mx_le {xs : List Int} (h : xs ≠ []) : ∀ x ∈ xs, x ≤ xs.max?.getD 0 := ((mx_iff h _).mp rfl).2
theorem sum_perm {xs ys : List Int} (h : xs.Perm ys) : xs.sum = ys.sum := by
  induction h with
  | nil => rfl
  | cons x _ ih => rw [List.sum_cons, List.sum_cons, ih]
  | swap x y l => simp only [List.sum_cons]; omega
  | trans _ _ a b => rw [a, b]
theorem J_perm {b : Bool} {xs ys : List Int} (h : xs.Perm ys) : J b xs = J b ys := by
  unfold J
  split
  · exact sum_perm h
  · by_cases hx : xs = []
    · subst hx
      rw [List.nil_perm.mp h]
    · refine (mx_iff hx _).mpr ⟨?_, fun x hxm => ?_⟩
      · have hy : ys ≠ [] := fun e => hx (by rw [e] at h; exact List.perm_nil.mp h)
        exact h.mem_iff.mpr (mx_mem hy)
      · have hy : ys ≠ [] := fun e => hx (by rw [e] at h; exact List.perm_nil.mp h)
        exact mx_le hy x (h.mem_iff.mp hxm)
theorem J_two {b : Bool} {xs ys : List Int} {m1 m2 m3 m : Int} (hx : xs ≠ []) (hy : ys ≠ []) (ht : b = true → m1 + m2 + m3 = m) (hf : b = false → m1 = 0 ∧ m2 = 0 ∧ m3 = 0 ∧ m = 0) : J b [J b xs + m1, J b ys + m2] + m3 = J b (xs ++ ys) + m := by
  cases b with
  | true =>
    have := ht rfl
    simp only [J, if_true, List.sum_cons, List.sum_nil, List.sum_append]
    omega
  | false =>
    obtain ⟨rfl, rfl, rfl, rfl⟩ := hf rfl
    simp only [J, Bool.false_eq_true, if_false, Int.add_zero]
    refine ((mx_iff (by simp [hx]) _).mpr ?_).symm
    have h1 : [xs.max?.getD 0, ys.max?.getD 0] ≠ [] := by simp
    have h2 := mx_mem h1
    have h3 := mx_le h1
    refine ⟨?_, fun x hxm => ?_⟩
    · simp only [List.mem_cons, List.not_mem_nil, or_false] at h2
      rcases h2 with h2 | h2
      · rw [h2]; exact List.mem_append.mpr (.inl (mx_mem hx))
      · rw [h2]; exact List.mem_append.mpr (.inr (mx_mem hy))
    · rcases List.mem_append.mp hxm with q | q
      · exact Int.le_trans (mx_le hx x q) (h3 _ (by simp))
      · exact Int.le_trans (mx_le hy x q) (h3 _ (by simp))
theorem J_mono {b : Bool} {α : Type} {f g : α → Int} : ∀ {S : List α}, S ≠ [] → (∀ s ∈ S, f s ≤ g s) → J b (S.map f) ≤ J b (S.map g) := by
  intro S hS h
  cases b with
  | true =>
    simp only [J, if_true]
    clear hS
    induction S with
    | nil => simp
    | cons a S ih =>
      have h1 := h a (by simp)
      have h2 := ih fun s hs => h s (by simp [hs])
      simp only [List.map_cons, List.sum_cons]
      omega
  | false =>
    simp only [J, Bool.false_eq_true, if_false]
    have h1 : S.map f ≠ [] := by simpa using hS
    have h2 : S.map g ≠ [] := by simpa using hS
    obtain ⟨s, hs, e⟩ := List.mem_map.mp (mx_mem h1)
    rw [← e]
    exact Int.le_trans (h s hs) (mx_le h2 _ (List.mem_map.mpr ⟨s, hs, rfl⟩))
theorem J_congr {b : Bool} {α : Type} {f g : α → Int} {S : List α} (h : ∀ s ∈ S, f s = g s) : J b (S.map f) = J b (S.map g) := by
  rw [List.map_congr_left h]
def allTop (S : List Spn) : Bool := S.all fun s => (toV s).isSome
def tops (S : List Spn) : List Int := S.map fun s => (toV s).getD 0
def jnV (b : Bool) (more : Int) (S : List Spn) : Spn where
  lo := J b (S.map loV) + more
  wi := J b (S.map Spn.wi) + more
  mo := if allTop S = true then some (J b (tops S) + more) else none
  gr := (S.map Spn.gr).max?.getD 0
  sh := (S.map Spn.sh).max?.getD 0
theorem Spn.ext {s t : Spn} (h1 : s.lo = t.lo) (h2 : s.wi = t.wi) (h3 : s.mo = t.mo) (h4 : s.gr = t.gr) (h5 : s.sh = t.sh) : s = t := by
  cases s; cases t
  simp only at h1 h2 h3 h4 h5
  subst h1 h2 h3 h4 h5
  rfl
theorem jn_lo {b : Bool} {more : Int} {S : List Spn} (hS : S ≠ []) (h : ∀ s ∈ S, 0 ≤ s.sh) : loV (jnV b more S) = J b (S.map loV) + more := by
  have hne : S.map Spn.sh ≠ [] := by simpa using hS
  have hle := mx_le hne
  unfold loV jnV
  simp only
  split
  · rfl
  · rename_i hc
    congr 1
    refine J_congr fun s hs => ?_
    have := hle s.sh (List.mem_map.mpr ⟨s, hs, rfl⟩)
    rw [if_neg (by omega)]
theorem jn_to {b : Bool} {more : Int} {S : List Spn} (hS : S ≠ []) (h : ∀ s ∈ S, 0 ≤ s.gr) : toV (jnV b more S) = if allTop S = true then some (J b (tops S) + more) else none := by
  have hne : S.map Spn.gr ≠ [] := by simpa using hS
  have hle := mx_le hne
  unfold toV jnV
  simp only
  split
  · rfl
  · rename_i hc
    have ht : ∀ s ∈ S, toV s = some s.wi := fun s hs => by
      have := hle s.gr (List.mem_map.mpr ⟨s, hs, rfl⟩)
      unfold toV
      rw [if_neg (by omega)]
    have ha : allTop S = true := List.all_eq_true.mpr fun s hs => by rw [ht s hs]; rfl
    rw [if_pos ha]
    congr 2
    unfold tops
    exact J_congr fun s hs => by rw [ht s hs]; rfl
theorem jn_gr0 {b : Bool} {more : Int} {S : List Spn} (hS : S ≠ []) (h : ∀ s ∈ S, 0 ≤ s.gr) : 0 ≤ (jnV b more S).gr := by
  have hne : S.map Spn.gr ≠ [] := by simpa using hS
  obtain ⟨s, hs, e⟩ := List.mem_map.mp (mx_mem hne)
  show 0 ≤ (S.map Spn.gr).max?.getD 0
  rw [← e]
  exact h s hs
theorem jn_sh0 {b : Bool} {more : Int} {S : List Spn} (hS : S ≠ []) (h : ∀ s ∈ S, 0 ≤ s.sh) : 0 ≤ (jnV b more S).sh := by
  have hne : S.map Spn.sh ≠ [] := by simpa using hS
  obtain ⟨s, hs, e⟩ := List.mem_map.mp (mx_mem hne)
  show 0 ≤ (S.map Spn.sh).max?.getD 0
  rw [← e]
  exact h s hs
theorem jn_perm {b : Bool} {more : Int} {S T : List Spn} (h : S.Perm T) : jnV b more S = jnV b more T := by
  have ha : allTop S = allTop T := by
    unfold allTop
    rw [Bool.eq_iff_iff, List.all_eq_true, List.all_eq_true]
    exact ⟨fun q s hs => q s (h.mem_iff.mpr hs), fun q s hs => q s (h.mem_iff.mp hs)⟩
  have mx : ∀ f : Spn → Int, (S.map f).max?.getD 0 = (T.map f).max?.getD 0 := fun f => by
    have := J_perm (b := false) (h.map f)
    simpa [J] using this
  refine Spn.ext ?_ ?_ ?_ (mx _) (mx _)
  · show J b (S.map loV) + more = J b (T.map loV) + more
    rw [J_perm (h.map loV)]
  · show J b (S.map Spn.wi) + more = J b (T.map Spn.wi) + more
    rw [J_perm (h.map Spn.wi)]
  · show (if allTop S = true then some (J b (tops S) + more) else none) = (if allTop T = true then some (J b (tops T) + more) else none)
    rw [ha]
    unfold tops
    rw [J_perm (h.map fun s => (toV s).getD 0)]
theorem jn_two {b : Bool} {m1 m2 m3 m : Int} {S T : List Spn} (hS : S ≠ []) (hT : T ≠ []) (oS : ∀ s ∈ S, 0 ≤ s.gr ∧ 0 ≤ s.sh) (oT : ∀ s ∈ T, 0 ≤ s.gr ∧ 0 ≤ s.sh) (ht : b = true → m1 + m2 + m3 = m) (hf : b = false → m1 = 0 ∧ m2 = 0 ∧ m3 = 0 ∧ m = 0) :
    jnV b m3 [jnV b m1 S, jnV b m2 T] = jnV b m (S ++ T) := by
  have a1 := jn_lo (b := b) (more := m1) hS fun s h => (oS s h).2
  have a2 := jn_lo (b := b) (more := m2) hT fun s h => (oT s h).2
  have b1 := jn_to (b := b) (more := m1) hS fun s h => (oS s h).1
  have b2 := jn_to (b := b) (more := m2) hT fun s h => (oT s h).1
  have mx : ∀ f : Spn → Int, [(S.map f).max?.getD 0, (T.map f).max?.getD 0].max?.getD 0 = ((S ++ T).map f).max?.getD 0 := fun f => by
    have := J_two (b := false) (xs := S.map f) (ys := T.map f) (m1 := 0) (m2 := 0) (m3 := 0) (m := 0) (by simpa using hS) (by simpa using hT) (fun h => by cases h) (fun _ => ⟨rfl, rfl, rfl, rfl⟩)
    rw [List.map_append]
    simpa [J] using this
  have hal : allTop (S ++ T) = (allTop S && allTop T) := by simp [allTop]
  refine Spn.ext ?_ ?_ ?_ (mx _) (mx _)
  · show J b [loV (jnV b m1 S), loV (jnV b m2 T)] + m3 = J b ((S ++ T).map loV) + m
    rw [a1, a2, List.map_append]
    exact J_two (by simpa using hS) (by simpa using hT) ht hf
  · show J b [J b (S.map Spn.wi) + m1, J b (T.map Spn.wi) + m2] + m3 = J b ((S ++ T).map Spn.wi) + m
    rw [List.map_append]
    exact J_two (by simpa using hS) (by simpa using hT) ht hf
  · show (if allTop [jnV b m1 S, jnV b m2 T] = true then some (J b (tops [jnV b m1 S, jnV b m2 T]) + m3) else none) = (if allTop (S ++ T) = true then some (J b (tops (S ++ T)) + m) else none)
    have e1 : allTop [jnV b m1 S, jnV b m2 T] = (allTop S && allTop T) := by
      show ((toV (jnV b m1 S)).isSome && ((toV (jnV b m2 T)).isSome && true)) = _
      rw [b1, b2]
      cases allTop S <;> cases allTop T <;> rfl
    rw [e1, hal]
    by_cases hc : (allTop S && allTop T) = true
    · rw [if_pos hc, if_pos hc]
      congr 1
      rw [Bool.and_eq_true] at hc
      have e2 : tops [jnV b m1 S, jnV b m2 T] = [J b (tops S) + m1, J b (tops T) + m2] := by
        show [(toV (jnV b m1 S)).getD 0, (toV (jnV b m2 T)).getD 0] = _
        rw [b1, b2, if_pos hc.1, if_pos hc.2]
        rfl
      have e3 : tops (S ++ T) = tops S ++ tops T := by simp [tops]
      rw [e2, e3]
      exact J_two (by simpa [tops] using hS) (by simpa [tops] using hT) ht hf
    · rw [if_neg hc, if_neg hc]

theorem join_eq {b : Bool} {xs : List Int} (h : xs ≠ []) : M_join [.list (xs.map .int), .bool b] = some (.int (J b xs)) := by
  have := mx_some h
  cases b with
  | true => simp -implicitDefEqProofs [M_join, D_join, startE, J]
  | false =>
    simp -implicitDefEqProofs [M_join, D_join, startE, J]
    rw [this]
    rfl
theorem joined_eqD {b : Bool} {more : Int} {S : List Spn} {d : D} (hd : itemsD d = some (S.map spD)) (hS : S ≠ []) (hl : S.length ≤ 100) : M_joined [d, .bool b, .int more] = some (spD (jnV b more S)) := by
  have hs : sml S.length = true := sml_of (by omega)
  have k1 : ∀ e : DEnv, e.length = 9 → lcGo (bNm 7) yesT (cA M_top_of (consA (vr 7) nilA)) e (S.map spD) = some (S.map fun s => optD (toV s)) := fun e he =>
    lcGo_map spD (fun s => optD (toV s)) S fun s _ => by
      have h7 : 7 < e.length := by omega
      exact ⟨_, rfl, by simp -implicitDefEqProofs [h7, topof_eq]⟩
  have k2 : ∀ e : DEnv, e.length = 9 → lcGo (bNm 7) yesT (cA M_low_of (consA (vr 7) nilA)) e (S.map spD) = some ((S.map loV).map PyData.int) := fun e he => by
    rw [List.map_map]
    exact lcGo_map spD (PyData.int ∘ loV) S fun s _ => by
      have h7 : 7 < e.length := by omega
      exact ⟨_, rfl, by simp -implicitDefEqProofs [h7, lowof_eq]⟩
  have k3 : ∀ e : DEnv, e.length = 9 → lcGo (bNm 7) yesT (c2 ixD (vr 7) (cst (.int 1))) e (S.map spD) = some ((S.map Spn.wi).map PyData.int) := fun e he => by
    rw [List.map_map]
    exact lcGo_map spD (PyData.int ∘ Spn.wi) S fun s _ => by
      have h7 : 7 < e.length := by omega
      exact ⟨_, rfl, by simp -implicitDefEqProofs [h7, ix1]⟩
  have k4 : ∀ e : DEnv, e.length = 9 → lcGo (bNm 7) yesT (c2 ixD (vr 7) (cst (.int 3))) e (S.map spD) = some ((S.map Spn.gr).map PyData.int) := fun e he => by
    rw [List.map_map]
    exact lcGo_map spD (PyData.int ∘ Spn.gr) S fun s _ => by
      have h7 : 7 < e.length := by omega
      exact ⟨_, rfl, by simp -implicitDefEqProofs [h7, ix3]⟩
  have k5 : ∀ e : DEnv, e.length = 9 → lcGo (bNm 7) yesT (c2 ixD (vr 7) (cst (.int 4))) e (S.map spD) = some ((S.map Spn.sh).map PyData.int) := fun e he => by
    rw [List.map_map]
    exact lcGo_map spD (PyData.int ∘ Spn.sh) S fun s _ => by
      have h7 : 7 < e.length := by omega
      exact ⟨_, rfl, by simp -implicitDefEqProofs [h7, ix4]⟩
  have k6 : ∀ e : DEnv, e.length = 9 → lcGo (bNm 8) yesT (c1 isND (vr 8)) e (S.map fun s => optD (toV s)) = some (S.map fun s => PyData.bool (toV s).isNone) := fun e he =>
    lcGo_map (fun s => optD (toV s)) (fun s => PyData.bool (toV s).isNone) S fun s _ => by
      have h8 : 8 < e.length := by omega
      exact ⟨_, rfl, by simp -implicitDefEqProofs [h8, optD_none]⟩
  have j1 := join_eq (b := b) (xs := S.map loV) (by simpa using hS)
  have j2 := join_eq (b := b) (xs := S.map Spn.wi) (by simpa using hS)
  have j3 := join_eq (b := b) (xs := tops S) (by simpa [tops] using hS)
  have m1 := mx_some (xs := S.map Spn.gr) (by simpa using hS)
  have m2 := mx_some (xs := S.map Spn.sh) (by simpa using hS)
  have hany : (S.map fun s => (toV s).isNone).any id = !allTop S := by
    unfold allTop
    rw [List.any_map, Bool.eq_iff_iff]
    simp [List.any_eq_true]
  generalize hG : (S.map Spn.gr).max?.getD 0 = G at m1
  generalize hH : (S.map Spn.sh).max?.getD 0 = Hh at m2
  have hsp : jnV b more S = ⟨J b (S.map loV) + more, J b (S.map Spn.wi) + more, if allTop S = true then some (J b (tops S) + more) else none, G, Hh⟩ := by
    unfold jnV
    rw [hG, hH]
  rw [hsp]
  cases ha : allTop S with
  | true =>
    have ht : (S.map fun s => optD (toV s)) = (tops S).map PyData.int := by
      unfold tops
      rw [List.map_map]
      refine List.map_congr_left fun s hs => ?_
      have := List.all_eq_true.mp ha s hs
      show optD (toV s) = PyData.int ((toV s).getD 0)
      cases h : toV s with
      | none => rw [h] at this; cases this
      | some x => rfl
    rw [ha] at hany
    rw [ht] at k1 k6
    have hst : sml (tops S).length = true := by unfold tops; rw [List.length_map]; exact hs
    have hres : spD ⟨J b (S.map loV) + more, J b (S.map Spn.wi) + more, if true = true then some (J b (tops S) + more) else none, G, Hh⟩ = .tuple [.int (J b (S.map loV) + more), .int (J b (S.map Spn.wi) + more), .int (J b (tops S) + more), .int G, .int Hh] := rfl
    rw [hres]
    simp -implicitDefEqProofs [M_joined, D_joined, startE, hd, hs, hst, k1, k2, k3, k4, k5, k6, hany, j1, j2, j3, m1, m2, -List.any_map, -List.map_map]
  | false =>
    rw [ha] at hany
    have hres : spD ⟨J b (S.map loV) + more, J b (S.map Spn.wi) + more, if false = true then some (J b (tops S) + more) else none, G, Hh⟩ = .tuple [.int (J b (S.map loV) + more), .int (J b (S.map Spn.wi) + more), .none, .int G, .int Hh] := rfl
    rw [hres]
    simp -implicitDefEqProofs [M_joined, D_joined, startE, hd, hs, k1, k2, k3, k4, k5, k6, hany, j1, j2, m1, m2, -List.any_map, -List.map_map]
theorem joined_eq {b : Bool} {more : Int} {S : List Spn} (hS : S ≠ []) (hl : S.length ≤ 100) : M_joined [.tuple (S.map spD), .bool b, .int more] = some (spD (jnV b more S)) := joined_eqD rfl hS hl
theorem along_eqD {g : Int} {S : List Spn} {d : D} (hd : itemsD d = some (S.map spD)) (hn : lenD d = some (.int (S.length : Int))) (hS : S ≠ []) (hl : S.length ≤ 100) (hg : -(2 ^ 62) ≤ g ∧ g ≤ 2 ^ 62) : M_along [d, .int g] = some (spD (jnV true (g * ((S.length : Int) - 1)) S)) := by
  have h := joined_eqD (b := true) (more := g * ((S.length : Int) - 1)) hd hS hl
  simp -implicitDefEqProofs [M_along, D_along, startE, hn, mul_l hg.1 hg.2, h]
theorem beside_eqD {S : List Spn} {d : D} (hd : itemsD d = some (S.map spD)) (hS : S ≠ []) (hl : S.length ≤ 100) : M_beside [d] = some (spD (jnV false 0 S)) := by
  have h := joined_eqD (b := false) (more := 0) hd hS hl
  simp -implicitDefEqProofs [M_beside, D_beside, startE, h]
theorem along_eq {g : Int} {S : List Spn} (hS : S ≠ []) (hl : S.length ≤ 100) (hg : -(2 ^ 62) ≤ g ∧ g ≤ 2 ^ 62) : M_along [.tuple (S.map spD), .int g] = some (spD (jnV true (g * ((S.length : Int) - 1)) S)) := along_eqD rfl (by simp) hS hl hg
theorem beside_eq {S : List Spn} (hS : S ≠ []) (hl : S.length ≤ 100) : M_beside [.tuple (S.map spD)] = some (spD (jnV false 0 S)) := beside_eqD rfl hS hl

theorem cutL_from {α : Type} (xs : List α) (k : Nat) : cutL xs (some (k : Int)) none = xs.drop k := by
  unfold cutL
  rw [HT.sIx_none, HT.sIx_nat]
  rcases Nat.le_total k xs.length with h | h
  · rw [Nat.min_eq_left h, List.take_of_length_le (by simp)]
  · rw [Nat.min_eq_right h, List.drop_of_length_le h]
    simp
theorem cutL_to {α : Type} (xs : List α) (k : Nat) : cutL xs none (some (k : Int)) = xs.take k := by
  unfold cutL
  rw [HT.sIx_none, HT.sIx_nat, List.drop_zero, Nat.sub_zero]
  rcases Nat.le_total k xs.length with h | h
  · rw [Nat.min_eq_left h]
  · rw [Nat.min_eq_right h, List.take_length, List.take_of_length_le h]

/-! words compared -/
theorem eq_strs {a b : Str} {c : Bool} (ha : PyData.strOk a = true) (hb : PyData.strOk b = true) (hc : (a == b) = c) : eqD (.str a) (.str b) = some (.bool c) := by
  rw [eq_ok (n := 0) (m := 0) (a := .str a) (b := .str b) ha hb, ← hc]
  rfl
theorem ne_strs {a b : Str} {c : Bool} (ha : PyData.strOk a = true) (hb : PyData.strOk b = true) (hc : (a == b) = c) : neD (.str a) (.str b) = some (.bool (!c)) := by
  rw [ne_ok (n := 0) (m := 0) (a := .str a) (b := .str b) ha hb, ← hc]
  rfl
@[simp] theorem ek_leaf_leaf : eqD (.str "leaf") (.str "leaf") = some (.bool true) := eq_strs (by decide +kernel) (by decide +kernel) (by decide +kernel)
@[simp] theorem nk_leaf_leaf : neD (.str "leaf") (.str "leaf") = some (.bool false) := (ne_strs (c := true) (by decide +kernel) (by decide +kernel) (by decide +kernel))
@[simp] theorem ek_leaf_row : eqD (.str "leaf") (.str "row") = some (.bool false) := eq_strs (by decide +kernel) (by decide +kernel) (by decide +kernel)
@[simp] theorem nk_leaf_row : neD (.str "leaf") (.str "row") = some (.bool true) := (ne_strs (c := false) (by decide +kernel) (by decide +kernel) (by decide +kernel))
@[simp] theorem ek_leaf_col : eqD (.str "leaf") (.str "col") = some (.bool false) := eq_strs (by decide +kernel) (by decide +kernel) (by decide +kernel)
@[simp] theorem nk_leaf_col : neD (.str "leaf") (.str "col") = some (.bool true) := (ne_strs (c := false) (by decide +kernel) (by decide +kernel) (by decide +kernel))
@[simp] theorem ek_leaf_pile : eqD (.str "leaf") (.str "pile") = some (.bool false) := eq_strs (by decide +kernel) (by decide +kernel) (by decide +kernel)
@[simp] theorem nk_leaf_pile : neD (.str "leaf") (.str "pile") = some (.bool true) := (ne_strs (c := false) (by decide +kernel) (by decide +kernel) (by decide +kernel))
@[simp] theorem ek_leaf_rim : eqD (.str "leaf") (.str "rim") = some (.bool false) := eq_strs (by decide +kernel) (by decide +kernel) (by decide +kernel)
@[simp] theorem nk_leaf_rim : neD (.str "leaf") (.str "rim") = some (.bool true) := (ne_strs (c := false) (by decide +kernel) (by decide +kernel) (by decide +kernel))
@[simp] theorem ek_row_leaf : eqD (.str "row") (.str "leaf") = some (.bool false) := eq_strs (by decide +kernel) (by decide +kernel) (by decide +kernel)
@[simp] theorem nk_row_leaf : neD (.str "row") (.str "leaf") = some (.bool true) := (ne_strs (c := false) (by decide +kernel) (by decide +kernel) (by decide +kernel))
@[simp] theorem ek_row_row : eqD (.str "row") (.str "row") = some (.bool true) := eq_strs (by decide +kernel) (by decide +kernel) (by decide +kernel)
@[simp] theorem nk_row_row : neD (.str "row") (.str "row") = some (.bool false) := (ne_strs (c := true) (by decide +kernel) (by decide +kernel) (by decide +kernel))
@[simp] theorem ek_row_col : eqD (.str "row") (.str "col") = some (.bool false) := eq_strs (by decide +kernel) (by decide +kernel) (by decide +kernel)
@[simp] theorem nk_row_col : neD (.str "row") (.str "col") = some (.bool true) := (ne_strs (c := false) (by decide +kernel) (by decide +kernel) (by decide +kernel))
@[simp] theorem ek_row_pile : eqD (.str "row") (.str "pile") = some (.bool false) := eq_strs (by decide +kernel) (by decide +kernel) (by decide +kernel)
@[simp] theorem nk_row_pile : neD (.str "row") (.str "pile") = some (.bool true) := (ne_strs (c := false) (by decide +kernel) (by decide +kernel) (by decide +kernel))
@[simp] theorem ek_row_rim : eqD (.str "row") (.str "rim") = some (.bool false) := eq_strs (by decide +kernel) (by decide +kernel) (by decide +kernel)
@[simp] theorem nk_row_rim : neD (.str "row") (.str "rim") = some (.bool true) := (ne_strs (c := false) (by decide +kernel) (by decide +kernel) (by decide +kernel))
@[simp] theorem ek_col_leaf : eqD (.str "col") (.str "leaf") = some (.bool false) := eq_strs (by decide +kernel) (by decide +kernel) (by decide +kernel)
@[simp] theorem nk_col_leaf : neD (.str "col") (.str "leaf") = some (.bool true) := (ne_strs (c := false) (by decide +kernel) (by decide +kernel) (by decide +kernel))
@[simp] theorem ek_col_row : eqD (.str "col") (.str "row") = some (.bool false) := eq_strs (by decide +kernel) (by decide +kernel) (by decide +kernel)
@[simp] theorem nk_col_row : neD (.str "col") (.str "row") = some (.bool true) := (ne_strs (c := false) (by decide +kernel) (by decide +kernel) (by decide +kernel))
@[simp] theorem ek_col_col : eqD (.str "col") (.str "col") = some (.bool true) := eq_strs (by decide +kernel) (by decide +kernel) (by decide +kernel)
@[simp] theorem nk_col_col : neD (.str "col") (.str "col") = some (.bool false) := (ne_strs (c := true) (by decide +kernel) (by decide +kernel) (by decide +kernel))
@[simp] theorem ek_col_pile : eqD (.str "col") (.str "pile") = some (.bool false) := eq_strs (by decide +kernel) (by decide +kernel) (by decide +kernel)
@[simp] theorem nk_col_pile : neD (.str "col") (.str "pile") = some (.bool true) := (ne_strs (c := false) (by decide +kernel) (by decide +kernel) (by decide +kernel))
@[simp] theorem ek_col_rim : eqD (.str "col") (.str "rim") = some (.bool false) := eq_strs (by decide +kernel) (by decide +kernel) (by decide +kernel)
@[simp] theorem nk_col_rim : neD (.str "col") (.str "rim") = some (.bool true) := (ne_strs (c := false) (by decide +kernel) (by decide +kernel) (by decide +kernel))
@[simp] theorem ek_pile_leaf : eqD (.str "pile") (.str "leaf") = some (.bool false) := eq_strs (by decide +kernel) (by decide +kernel) (by decide +kernel)
@[simp] theorem nk_pile_leaf : neD (.str "pile") (.str "leaf") = some (.bool true) := (ne_strs (c := false) (by decide +kernel) (by decide +kernel) (by decide +kernel))
@[simp] theorem ek_pile_row : eqD (.str "pile") (.str "row") = some (.bool false) := eq_strs (by decide +kernel) (by decide +kernel) (by decide +kernel)
@[simp] theorem nk_pile_row : neD (.str "pile") (.str "row") = some (.bool true) := (ne_strs (c := false) (by decide +kernel) (by decide +kernel) (by decide +kernel))
@[simp] theorem ek_pile_col : eqD (.str "pile") (.str "col") = some (.bool false) := eq_strs (by decide +kernel) (by decide +kernel) (by decide +kernel)
@[simp] theorem nk_pile_col : neD (.str "pile") (.str "col") = some (.bool true) := (ne_strs (c := false) (by decide +kernel) (by decide +kernel) (by decide +kernel))
@[simp] theorem ek_pile_pile : eqD (.str "pile") (.str "pile") = some (.bool true) := eq_strs (by decide +kernel) (by decide +kernel) (by decide +kernel)
@[simp] theorem nk_pile_pile : neD (.str "pile") (.str "pile") = some (.bool false) := (ne_strs (c := true) (by decide +kernel) (by decide +kernel) (by decide +kernel))
@[simp] theorem ek_pile_rim : eqD (.str "pile") (.str "rim") = some (.bool false) := eq_strs (by decide +kernel) (by decide +kernel) (by decide +kernel)
@[simp] theorem nk_pile_rim : neD (.str "pile") (.str "rim") = some (.bool true) := (ne_strs (c := false) (by decide +kernel) (by decide +kernel) (by decide +kernel))
@[simp] theorem ek_rim_leaf : eqD (.str "rim") (.str "leaf") = some (.bool false) := eq_strs (by decide +kernel) (by decide +kernel) (by decide +kernel)
@[simp] theorem nk_rim_leaf : neD (.str "rim") (.str "leaf") = some (.bool true) := (ne_strs (c := false) (by decide +kernel) (by decide +kernel) (by decide +kernel))
@[simp] theorem ek_rim_row : eqD (.str "rim") (.str "row") = some (.bool false) := eq_strs (by decide +kernel) (by decide +kernel) (by decide +kernel)
@[simp] theorem nk_rim_row : neD (.str "rim") (.str "row") = some (.bool true) := (ne_strs (c := false) (by decide +kernel) (by decide +kernel) (by decide +kernel))
@[simp] theorem ek_rim_col : eqD (.str "rim") (.str "col") = some (.bool false) := eq_strs (by decide +kernel) (by decide +kernel) (by decide +kernel)
@[simp] theorem nk_rim_col : neD (.str "rim") (.str "col") = some (.bool true) := (ne_strs (c := false) (by decide +kernel) (by decide +kernel) (by decide +kernel))
@[simp] theorem ek_rim_pile : eqD (.str "rim") (.str "pile") = some (.bool false) := eq_strs (by decide +kernel) (by decide +kernel) (by decide +kernel)
@[simp] theorem nk_rim_pile : neD (.str "rim") (.str "pile") = some (.bool true) := (ne_strs (c := false) (by decide +kernel) (by decide +kernel) (by decide +kernel))
@[simp] theorem ek_rim_rim : eqD (.str "rim") (.str "rim") = some (.bool true) := eq_strs (by decide +kernel) (by decide +kernel) (by decide +kernel)
@[simp] theorem nk_rim_rim : neD (.str "rim") (.str "rim") = some (.bool false) := (ne_strs (c := true) (by decide +kernel) (by decide +kernel) (by decide +kernel))
@[simp] theorem ek_wide_wide : eqD (.str "wide") (.str "wide") = some (.bool true) := eq_strs (by decide +kernel) (by decide +kernel) (by decide +kernel)
@[simp] theorem ek_wide_high : eqD (.str "wide") (.str "high") = some (.bool false) := eq_strs (by decide +kernel) (by decide +kernel) (by decide +kernel)
@[simp] theorem ek_high_wide : eqD (.str "high") (.str "wide") = some (.bool false) := eq_strs (by decide +kernel) (by decide +kernel) (by decide +kernel)
@[simp] theorem ek_high_high : eqD (.str "high") (.str "high") = some (.bool true) := eq_strs (by decide +kernel) (by decide +kernel) (by decide +kernel)

/-! boxes, no deeper than n -/
inductive BxF (α : Type) where
  | leaf (nm : Str) (w h : Spn)
  | line (c : Bool) (nm : Str) (g : Int) (ps : List α)
  | pile (nm : Str) (ps : List α)
  | rim (nm : Str) (a b c d : Int) (p : α)
def Bx : Nat → Type
  | 0 => Empty
  | n + 1 => BxF (Bx n)
def kindS (c : Bool) : Str := if c = true then "col" else "row"
def bxD : (n : Nat) → Bx n → D
  | 0, b => nomatch b
  | n + 1, b => match (b : BxF (Bx n)) with
    | .leaf nm w h => .tuple [.str "leaf", .str nm, spD w, spD h]
    | .line c nm g ps => .tuple [.str (kindS c), .str nm, .int g, .tuple (ps.map (bxD n))]
    | .pile nm ps => .tuple [.str "pile", .str nm, .tuple (ps.map (bxD n))]
    | .rim nm a b c d p => .tuple [.str "rim", .str nm, .int a, .int b, .int c, .int d, bxD n p]
def bxN : (n : Nat) → Bx n → Str
  | 0, b => nomatch b
  | _ + 1, b => match (b : BxF _) with
    | .leaf nm _ _ => nm
    | .line _ nm _ _ => nm
    | .pile nm _ => nm
    | .rim nm _ _ _ _ _ => nm
def chS (k : Nat) : Str := ⟨#[97 + k]⟩
/-- as a law makes them: its name, its parts' names -/
def Made : (n : Nat) → Str → Bx n → Prop
  | 0, _, b => nomatch b
  | n + 1, nm, b => match (b : BxF (Bx n)) with
    | .leaf nm' w h => nm' = nm ∧ w.Ok ∧ w.Sm ∧ h.Ok ∧ h.Sm
    | .line _ nm' g ps => nm' = nm ∧ 0 ≤ g ∧ g ≤ 10 ∧ 1 ≤ ps.length ∧ ps.length ≤ 4 ∧ ∀ k p, ps[k]? = some p → Made n (nm ++ chS k) p
    | .pile nm' ps => nm' = nm ∧ 1 ≤ ps.length ∧ ps.length ≤ 3 ∧ ∀ k p, ps[k]? = some p → Made n (nm ++ chS k) p
    | .rim nm' a b c d p => nm' = nm ∧ (0 ≤ a ∧ a ≤ 6) ∧ (0 ≤ b ∧ b ≤ 6) ∧ (0 ≤ c ∧ c ≤ 6) ∧ (0 ≤ d ∧ d ≤ 6) ∧ Made n (nm ++ chS 0) p
theorem abcd_ix {k : Nat} (h : k < 4) : ixD (.str "abcd") (.int (k : Int)) = some (.str (chS k)) := by
  have h4 : (if sml ("abcd" : Str).length = true then (atI ("abcd" : Str).cps.toList (k : Int)).map fun c => PyData.str ⟨#[c]⟩ else none) = some (.str (chS k)) := by
    have e1 : ("abcd" : Str).cps.toList = [97, 98, 99, 100] := by decide +kernel
    have e2 : sml ("abcd" : Str).length = true := by decide +kernel
    rw [e1, e2]
    match k, h with
    | 0, _ => rfl
    | 1, _ => rfl
    | 2, _ => rfl
    | 3, _ => rfl
  exact h4
theorem a_ch : ("a" : Str) = chS 0 := by decide +kernel
theorem add_s {a b : Str} (h : a.length + b.length ≤ 100000) : addD (.str a) (.str b) = some (.str (a ++ b)) := by
  show (if sml (a.length + b.length) = true then some (PyData.str (a ++ b)) else none) = _
  rw [sml_of h]
  rfl
theorem len_ch (a : Str) (k : Nat) : (a ++ chS k).length = a.length + 1 := by
  show (a.cps ++ #[97 + k]).size = a.cps.size + 1
  simp

theorem box_leaf {n k : Nat} {num : Int} {nm : Str} (h : n = 0 ∨ 5 < num % 8) (hn : 0 ≤ num) : ∃ b : Bx (n + 1), M_Lbox (k + 1) [.int num, .str nm, .int ((n : Int) + 1)] = some (bxD (n + 1) b) ∧ Made (n + 1) nm b := by
  obtain ⟨d1, x1, y1, _⟩ := drawn_ex num 1
  obtain ⟨d2, x2, y2, _⟩ := drawn_ex num 2
  obtain ⟨s1, z1, o1, p1⟩ := span_ex (n := d1 / 4) (by omega)
  obtain ⟨s2, z2, o2, p2⟩ := span_ex (n := d2 / 4) (by omega)
  have q8 := mod_ok (a := num) (b := 8) (by decide)
  have f4 : ∀ a : Int, fdivD (.int a) (.int 4) = some (.int (a / 4)) := fun a => fdiv_ok (by decide) (by decide)
  refine ⟨BxF.leaf nm s1 s2, ?_, rfl, o1, p1, o2, p2⟩
  show _ = some (PyData.tuple [.str "leaf", .str nm, spD s1, spD s2])
  unfold M_Lbox
  rcases h with h | h
  · subst h
    simp -implicitDefEqProofs [startE, q8, x1, x2, f4, z1, z2]
  · by_cases h0 : n = 0
    · subst h0
      simp -implicitDefEqProofs [startE, q8, x1, x2, f4, z1, z2]
    · have : ¬ ((n : Int) + 1 = 1) := by omega
      simp -implicitDefEqProofs [startE, q8, this, h0, h, x1, x2, f4, z1, z2]
theorem box_ex : ∀ (n k : Nat), n ≤ k → ∀ (num : Int) (nm : Str), 0 ≤ num → nm.length + n ≤ 1000 → ∃ b : Bx (n + 1), M_Lbox (k + 1) [.int num, .str nm, .int ((n : Int) + 1)] = some (bxD (n + 1) b) ∧ Made (n + 1) nm b := by
  intro n
  induction n with
  | zero =>
    intro k _ num nm hn hl
    exact box_leaf (.inl rfl) hn
  | succ n ih =>
    intro k hk num nm hn hl
    obtain ⟨k, rfl⟩ : ∃ j, k = j + 1 := ⟨k - 1, by omega⟩
    by_cases h5 : 5 < num % 8
    · exact box_leaf (.inr h5) hn
    · have sub : ∀ (num' : Int) (j : Nat), 0 ≤ num' → ∃ b : Bx (n + 1), M_Lbox (k + 1) [.int num', .str (nm ++ chS j), .int ((n : Int) + 1)] = some (bxD (n + 1) b) ∧ Made (n + 1) (nm ++ chS j) b := fun num' j h' => ih k (by omega) num' (nm ++ chS j) h' (by rw [len_ch]; omega)
      obtain ⟨dp, hdp⟩ : ∃ dp : Int, dp = (((n + 1 : Nat) : Int) + 1) := ⟨_, rfl⟩
      rw [← hdp]
      have e1 : dp - 1 = (n : Int) + 1 := by omega
      have hnot : ¬ (dp = 1) := by omega
      have hd : ∀ j : Int, ∃ dr, M_Ldrawn [.int num, .int j] = some (.int dr) ∧ 0 ≤ dr := fun j => by
        obtain ⟨d, a, b, _⟩ := drawn_ex num j
        exact ⟨d, a, b⟩
      obtain ⟨g, hg, pg⟩ := pick4 (a := 0) (b := 3) (c := 1) (d := 10) (r := num / 64 % 4) (by omega) (by omega)
      have q8 := mod_ok (a := num) (b := 8) (by decide)
      have q88 : fdivD (.int num) (.int 8) = some (.int (num / 8)) := fdiv_ok (by decide) (by decide)
      have q64 : fdivD (.int num) (.int 64) = some (.int (num / 64)) := fdiv_ok (by decide) (by decide)
      have m4 : ∀ a : Int, modD (.int a) (.int 4) = some (.int (a % 4)) := fun a => mod_ok (by decide)
      have f4 : ∀ a : Int, fdivD (.int a) (.int 4) = some (.int (a / 4)) := fun a => fdiv_ok (by decide) (by decide)
      by_cases h4 : num % 8 = 4
      · -- a rim
        obtain ⟨d3, x3, y3⟩ := hd 3
        obtain ⟨d4, x4, y4⟩ := hd 4
        obtain ⟨d5, x5, y5⟩ := hd 5
        obtain ⟨d6, x6, y6⟩ := hd 6
        obtain ⟨d7, x7, y7⟩ := hd 7
        obtain ⟨p, hp, mp⟩ := sub (d7 / 4) 0 (by omega)
        have m7 : ∀ a : Int, modD (.int a) (.int 7) = some (.int (a % 7)) := fun a => mod_ok (by decide)
        have r4 : rng1D (.int 4) = some [.int 0, .int 1, .int 2, .int 3] := by
          have := rng1_ok (n := 4) (by decide)
          exact this
        have s4 : sml 4 = true := rfl
        have ha : addD (.str nm) (.str "a") = some (.str (nm ++ chS 0)) := by
          rw [a_ch]
          exact add_s (by have : (chS 0).length = 1 := rfl; omega)
        have t1 : addD (.tuple [.str "rim", .str nm]) (.tuple [.int (d3 / 4 % 7), .int (d4 / 4 % 7), .int (d5 / 4 % 7), .int (d6 / 4 % 7)]) = some (.tuple [.str "rim", .str nm, .int (d3 / 4 % 7), .int (d4 / 4 % 7), .int (d5 / 4 % 7), .int (d6 / 4 % 7)]) := add_t (by simp)
        have t2 : addD (.tuple [.str "rim", .str nm, .int (d3 / 4 % 7), .int (d4 / 4 % 7), .int (d5 / 4 % 7), .int (d6 / 4 % 7)]) (.tuple [bxD (n + 1) p]) = some (.tuple [.str "rim", .str nm, .int (d3 / 4 % 7), .int (d4 / 4 % 7), .int (d5 / 4 % 7), .int (d6 / 4 % 7), bxD (n + 1) p]) := add_t (by simp)
        refine ⟨BxF.rim nm (d3 / 4 % 7) (d4 / 4 % 7) (d5 / 4 % 7) (d6 / 4 % 7) p, ?_, rfl, by omega, by omega, by omega, by omega, mp⟩
        show _ = some (PyData.tuple [.str "rim", .str nm, .int (d3 / 4 % 7), .int (d4 / 4 % 7), .int (d5 / 4 % 7), .int (d6 / 4 % 7), bxD (n + 1) p])
        unfold M_Lbox
        simp -implicitDefEqProofs [startE, q8, hnot, h4, q88, m4, q64, pg, r4, s4, lcGo, x3, x4, x5, x6, f4, m7, t1, x7, ha, e1, hp, t2]
      · -- some in it
        obtain ⟨m, hm⟩ : ∃ m : Nat, (if num % 8 = 5 then (if 3 < 1 + num / 8 % 4 then 3 else 1 + num / 8 % 4) else 1 + num / 8 % 4) = (m : Int) := ⟨(if num % 8 = 5 then (if 3 < 1 + num / 8 % 4 then 3 else 1 + num / 8 % 4) else 1 + num / 8 % 4).toNat, by split <;> (try split) <;> omega⟩
        have hm4 : 1 ≤ m ∧ m ≤ 4 ∧ (num % 8 = 5 → m ≤ 3) := by
          split at hm <;> (try split at hm) <;> omega
        obtain ⟨ps, hps, hpl, hpm⟩ : ∃ ps : List (Bx (n + 1)), (∀ e : DEnv, e.length = 9 → e[0]? = some (some (.sh (.int num))) → e[1]? = some (some (.sh (.str nm))) → e[2]? = some (some (.sh (.int dp))) → lcGo (bNm 8) yesT (cA (M_Lbox (k + 1)) (consA (c2 fdivD (cA M_Ldrawn (consA (vr 0) (consA (c2 addD (cst (.int 10)) (vr 8)) nilA))) (cst (.int 4))) (consA (c2 addD (vr 1) (c2 ixD (cst (.str "abcd")) (vr 8))) (consA (c2 subD (vr 2) (cst (.int 1))) nilA)))) e ((List.range m).map fun i : Nat => PyData.int (i : Int)) = some (ps.map (bxD (n + 1)))) ∧ ps.length = m ∧ ∀ j p, ps[j]? = some p → Made (n + 1) (nm ++ chS j) p := by
          -- choose the parts
          have ch : ∀ j : Nat, ∃ p : Bx (n + 1), ∃ dr, M_Ldrawn [.int num, .int (10 + (j : Int))] = some (.int dr) ∧ M_Lbox (k + 1) [.int (dr / 4), .str (nm ++ chS j), .int ((n : Int) + 1)] = some (bxD (n + 1) p) ∧ Made (n + 1) (nm ++ chS j) p := fun j => by
            obtain ⟨dr, hdr, dr0⟩ := hd (10 + (j : Int))
            obtain ⟨p, hp, mp⟩ := sub (dr / 4) j (by omega)
            exact ⟨p, dr, hdr, hp, mp⟩
          refine ⟨(List.range m).map fun j => (ch j).choose, fun e he h0 h1 h2 => ?_, by simp, fun j p hp => ?_⟩
          · rw [List.map_map]
            refine lcGo_map (fun i : Nat => PyData.int (i : Int)) (fun j => bxD (n + 1) (ch j).choose) _ fun j hj => ?_
            have hj4 : j < 4 := by
              have : j < m := by simpa using hj
              omega
            have hsp := (ch j).choose_spec
            generalize (ch j).choose = pj at hsp ⊢
            obtain ⟨dr, hdr, hp, mp⟩ := hsp
            have hix := abcd_ix hj4
            have hadd : addD (.str nm) (.str (chS j)) = some (.str (nm ++ chS j)) := add_s (by have : (chS j).length = 1 := rfl; omega)
            have h8 : 8 < e.length := by omega
            refine ⟨_, rfl, ?_⟩
            simp -implicitDefEqProofs [h8, h0, h1, h2, hdr, f4, hix, hadd, e1, hp]
          · rw [List.getElem?_map] at hp
            obtain ⟨j', hj', rfl⟩ := Option.map_eq_some_iff.mp hp
            obtain ⟨hl', hx⟩ := List.getElem?_eq_some_iff.mp hj'
            rw [List.getElem_range] at hx
            subst hx
            obtain ⟨_, _, _, mp⟩ := (ch j).choose_spec
            exact mp
        have hsm : sml m = true := sml_of (by omega)
        have hr := rng1_ok (n := m) (by omega)
        by_cases h55 : num % 8 = 5
        · rw [if_pos h55] at hm
          refine ⟨BxF.pile nm ps, ?_, rfl, by omega, by have := hm4.2.2 h55; omega, hpm⟩
          show _ = some (PyData.tuple [.str "pile", .str nm, .tuple (ps.map (bxD (n + 1)))])
          have hmn : (if 3 < 1 + num / 8 % 4 then (3 : Int) else 1 + num / 8 % 4) = (m : Int) := hm
          unfold M_Lbox
          simp -implicitDefEqProofs [startE, q8, hnot, h55, q88, m4, q64, pg, hmn, hr, hsm, hps]
        · rw [if_neg h55] at hm
          obtain ⟨c, hc⟩ : ∃ c : Bool, atI [PyData.str "row", .str "col"] (num % 2) = some (.str (kindS c)) := by
            have : num % 2 = 0 ∨ num % 2 = 1 := by omega
            rcases this with h | h
            · exact ⟨false, by rw [h]; rfl⟩
            · exact ⟨true, by rw [h]; rfl⟩
          refine ⟨BxF.line c nm g ps, ?_, rfl, by omega, by omega, by omega, by omega, hpm⟩
          show _ = some (PyData.tuple [.str (kindS c), .str nm, .int g, .tuple (ps.map (bxD (n + 1)))])
          have m2 : ∀ a : Int, modD (.int a) (.int 2) = some (.int (a % 2)) := fun a => mod_ok (by decide)
          unfold M_Lbox
          simp -implicitDefEqProofs [startE, q8, hnot, h55, h4, h5, q88, m4, q64, pg, hm, hr, hsm, hps, m2, hc]

/-! well formed boxes, what spans they have -/
def Wf : (n : Nat) → Bx n → Prop
  | 0, b => nomatch b
  | n + 1, b => match (b : BxF (Bx n)) with
    | .leaf _ w h => w.Ok ∧ h.Ok
    | .line _ _ g ps => 0 ≤ g ∧ g ≤ 999 ∧ 1 ≤ ps.length ∧ ps.length ≤ 4 ∧ ∀ p ∈ ps, Wf n p
    | .pile _ ps => 1 ≤ ps.length ∧ ps.length ≤ 4 ∧ ∀ p ∈ ps, Wf n p
    | .rim _ a b c d p => (0 ≤ a ∧ a ≤ 999) ∧ (0 ≤ b ∧ b ≤ 999) ∧ (0 ≤ c ∧ c ≤ 999) ∧ (0 ≤ d ∧ d ≤ 999) ∧ Wf n p
theorem made_wf : ∀ (n : Nat) (nm : Str) (b : Bx n), Made n nm b → Wf n b
  | 0, _, b, _ => nomatch b
  | n + 1, nm, b, h => by
    have mem : ∀ {ps : List (Bx n)}, (∀ k p, ps[k]? = some p → Made n (nm ++ chS k) p) → ∀ p ∈ ps, Wf n p := fun {ps} hp p hm => by
      obtain ⟨k, hk⟩ := List.getElem?_of_mem hm
      exact made_wf n _ p (hp k p hk)
    match (b : BxF (Bx n)), h with
    | .leaf _ w h', h => exact ⟨h.2.1, h.2.2.2.1⟩
    | .line _ _ g ps, h =>
      obtain ⟨_, h1, h2, h3, h4, h5⟩ := h
      exact ⟨h1, by omega, h3, h4, mem h5⟩
    | .pile _ ps, h =>
      obtain ⟨_, h1, h2, h3⟩ := h
      exact ⟨h1, by omega, mem h3⟩
    | .rim _ a b c d p, h =>
      obtain ⟨_, h1, h2, h3, h4, h5⟩ := h
      exact ⟨by omega, by omega, by omega, by omega, made_wf n _ p h5⟩
def axS (hi : Bool) : Str := if hi = true then "high" else "wide"
def moreV (s : Spn) (m : Int) : Spn := ⟨s.lo + m, s.wi + m, s.mo.map (· + m), s.gr, s.sh⟩
def spnV : (n : Nat) → Bool → Bx n → Spn
  | 0, _, b => nomatch b
  | n + 1, hi, b => match (b : BxF (Bx n)) with
    | .leaf _ w h => if hi = true then h else w
    | .line c _ g ps => if c = hi then jnV true (g * ((ps.length : Int) - 1)) (ps.map (spnV n hi)) else jnV false 0 (ps.map (spnV n hi))
    | .pile _ ps => jnV false 0 (ps.map (spnV n hi))
    | .rim _ a b c d p => moreV (spnV n hi p) (if hi = true then b + d else a + c)
def inB {n : Nat} (b : Bx (n + 1)) : List (Bx n) := match (b : BxF (Bx n)) with
  | .leaf _ _ _ => []
  | .line _ _ _ ps => ps
  | .pile _ ps => ps
  | .rim _ _ _ _ _ p => [p]
theorem spnsD (n : Nat) (hi : Bool) (ps : List (Bx n)) : ps.map (fun p => spD (spnV n hi p)) = (ps.map (spnV n hi)).map spD := by rw [List.map_map]; rfl

theorem boxesin_eq {n : Nat} (b : Bx (n + 1)) : M_boxes_in [bxD (n + 1) b] = some (.tuple ((inB b).map (bxD n))) := by
  match (b : BxF (Bx n)) with
  | .leaf nm w h =>
    have e : bxD (n + 1) (BxF.leaf nm w h : BxF (Bx n)) = .tuple [.str "leaf", .str nm, spD w, spD h] := rfl
    have i0 : atI [PyData.str "leaf", .str nm, spD w, spD h] 0 = some (.str "leaf") := rfl
    rw [e]
    simp -implicitDefEqProofs [M_boxes_in, D_boxes_in, startE, i0, inB]
  | .line c nm g ps =>
    have e : bxD (n + 1) (BxF.line c nm g ps : BxF (Bx n)) = .tuple [.str (kindS c), .str nm, .int g, .tuple (ps.map (bxD n))] := rfl
    have i0 : atI [PyData.str (kindS c), .str nm, .int g, .tuple (ps.map (bxD n))] 0 = some (.str (kindS c)) := rfl
    have i1 : atI [PyData.str (kindS c), .str nm, .int g, .tuple (ps.map (bxD n))] (-1) = some (.tuple (ps.map (bxD n))) := rfl
    rw [e]
    cases c <;> simp only [kindS, if_true, Bool.false_eq_true, if_false] at i0 i1 ⊢ <;> simp -implicitDefEqProofs [M_boxes_in, D_boxes_in, startE, i0, i1, inB]
  | .pile nm ps =>
    have e : bxD (n + 1) (BxF.pile nm ps : BxF (Bx n)) = .tuple [.str "pile", .str nm, .tuple (ps.map (bxD n))] := rfl
    have i0 : atI [PyData.str "pile", .str nm, .tuple (ps.map (bxD n))] 0 = some (.str "pile") := rfl
    have i1 : atI [PyData.str "pile", .str nm, .tuple (ps.map (bxD n))] (-1) = some (.tuple (ps.map (bxD n))) := rfl
    rw [e]
    simp -implicitDefEqProofs [M_boxes_in, D_boxes_in, startE, i0, i1, inB]
  | .rim nm a b' c d p =>
    have e : bxD (n + 1) (BxF.rim nm a b' c d p : BxF (Bx n)) = .tuple [.str "rim", .str nm, .int a, .int b', .int c, .int d, bxD n p] := rfl
    have i0 : atI [PyData.str "rim", .str nm, .int a, .int b', .int c, .int d, bxD n p] 0 = some (.str "rim") := rfl
    have i1 : atI [PyData.str "rim", .str nm, .int a, .int b', .int c, .int d, bxD n p] 6 = some (bxD n p) := rfl
    rw [e]
    simp -implicitDefEqProofs [M_boxes_in, D_boxes_in, startE, i0, i1, inB]
theorem main_row : lookT G_MAIN "row" = some "wide" := by decide +kernel
theorem main_col : lookT G_MAIN "col" = some "high" := by decide +kernel
theorem main_pile : lookT G_MAIN "pile" = none := by decide +kernel
theorem rimsof_eq {n : Nat} {nm : Str} {a b c d : Int} {p : Bx n} (hi : Bool) : M_rims_of [bxD (n + 1) (BxF.rim nm a b c d p : BxF (Bx n)), .str (axS hi)] = some (.tuple (if hi = true then [.int b, .int d] else [.int a, .int c])) := by
  have e : bxD (n + 1) (BxF.rim nm a b c d p : BxF (Bx n)) = .tuple [.str "rim", .str nm, .int a, .int b, .int c, .int d, bxD n p] := rfl
  rw [e]
  have i2 : atI [PyData.str "rim", .str nm, .int a, .int b, .int c, .int d, bxD n p] 2 = some (.int a) := rfl
  have i3 : atI [PyData.str "rim", .str nm, .int a, .int b, .int c, .int d, bxD n p] 3 = some (.int b) := rfl
  have i4 : atI [PyData.str "rim", .str nm, .int a, .int b, .int c, .int d, bxD n p] 4 = some (.int c) := rfl
  have i5 : atI [PyData.str "rim", .str nm, .int a, .int b, .int c, .int d, bxD n p] 5 = some (.int d) := rfl
  cases hi <;> simp only [axS, if_true, Bool.false_eq_true, if_false] <;> simp -implicitDefEqProofs [M_rims_of, D_rims_of, startE, i2, i3, i4, i5]
theorem spanof_eq : ∀ (n m : Nat) (hi : Bool) (b : Bx n), n ≤ m → Wf n b → M_span_of m [bxD n b, .str (axS hi)] = some (spD (spnV n hi b)) := by
  intro n
  induction n with
  | zero => intro m hi b; exact nomatch b
  | succ n ih =>
    intro m hi b hm hw
    obtain ⟨m, rfl⟩ : ∃ j, m = j + 1 := ⟨m - 1, by omega⟩
    have hbi := boxesin_eq b
    have parts : ∀ (ps : List (Bx n)), (∀ p ∈ ps, Wf n p) → ∀ e : DEnv, e.length = 10 → e[1]? = some (some (.sh (.str (axS hi)))) → lcGo (bNm 4) yesT (cA (M_span_of m) (consA (vr 4) (consA (vr 1) nilA))) e (ps.map (bxD n)) = some ((ps.map (spnV n hi)).map spD) := fun ps hps e he h1 => by
      rw [← spnsD]
      refine lcGo_map (bxD n) (fun p => spD (spnV n hi p)) ps fun p hp => ?_
      have h4 : 4 < e.length := by omega
      have := ih m hi p (by omega) (hps p hp)
      exact ⟨_, rfl, by simp -implicitDefEqProofs [h4, h1, this]⟩
    match (b : BxF (Bx n)), hw, hbi with
    | .leaf nm w h, hw, _ =>
      have e : bxD (n + 1) (BxF.leaf nm w h : BxF (Bx n)) = .tuple [.str "leaf", .str nm, spD w, spD h] := rfl
      have i0 : atI [PyData.str "leaf", .str nm, spD w, spD h] 0 = some (.str "leaf") := rfl
      have i2 : atI [PyData.str "leaf", .str nm, spD w, spD h] 2 = some (spD w) := rfl
      have i3 : atI [PyData.str "leaf", .str nm, spD w, spD h] 3 = some (spD h) := rfl
      rw [e]
      unfold M_span_of
      cases hi <;> simp only [axS, if_true, Bool.false_eq_true, if_false, spnV] <;> simp -implicitDefEqProofs [startE, i0, i2, i3]
    | .line c nm g ps, hw, hbi =>
      obtain ⟨g0, g1, l1, l4, hps⟩ := hw
      have e : bxD (n + 1) (BxF.line c nm g ps : BxF (Bx n)) = .tuple [.str (kindS c), .str nm, .int g, .tuple (ps.map (bxD n))] := rfl
      have i0 : atI [PyData.str (kindS c), .str nm, .int g, .tuple (ps.map (bxD n))] 0 = some (.str (kindS c)) := rfl
      have i2 : atI [PyData.str (kindS c), .str nm, .int g, .tuple (ps.map (bxD n))] 2 = some (.int g) := rfl
      have hps' := parts ps hps
      have hsm : sml ps.length = true := sml_of (by omega)
      have hbi' : M_boxes_in [.tuple [.str (kindS c), .str nm, .int g, .tuple (ps.map (bxD n))]] = some (.tuple (ps.map (bxD n))) := hbi
      have hne : ps.map (spnV n hi) ≠ [] := by
        intro h
        have := congrArg List.length h
        simp at this
        subst this
        simp at l1
      have al := along_eqD (g := g) (S := ps.map (spnV n hi)) (d := .list ((ps.map (spnV n hi)).map spD)) rfl (by simp) hne (by simp; omega) (by omega)
      have be := beside_eqD (S := ps.map (spnV n hi)) (d := .list ((ps.map (spnV n hi)).map spD)) rfl hne (by simp; omega)
      rw [List.length_map] at al
      rw [e]
      have hv : spnV (n + 1) hi (BxF.line c nm g ps : BxF (Bx n)) = if c = hi then jnV true (g * ((ps.length : Int) - 1)) (ps.map (spnV n hi)) else jnV false 0 (ps.map (spnV n hi)) := rfl
      rw [hv]
      unfold M_span_of
      cases c <;> cases hi <;> simp only [kindS, axS, if_true, Bool.false_eq_true, if_false, Bool.true_eq_false] at i0 i2 hbi' hps' al be ⊢ <;> simp -implicitDefEqProofs [startE, i0, i2, hbi', hsm, hps', main_row, main_col, al, be, -List.map_map]
    | .pile nm ps, hw, hbi =>
      obtain ⟨l1, l4, hps⟩ := hw
      have e : bxD (n + 1) (BxF.pile nm ps : BxF (Bx n)) = .tuple [.str "pile", .str nm, .tuple (ps.map (bxD n))] := rfl
      have i0 : atI [PyData.str "pile", .str nm, .tuple (ps.map (bxD n))] 0 = some (.str "pile") := rfl
      have hps' := parts ps hps
      have hsm : sml ps.length = true := sml_of (by omega)
      have hbi' : M_boxes_in [.tuple [.str "pile", .str nm, .tuple (ps.map (bxD n))]] = some (.tuple (ps.map (bxD n))) := hbi
      have hne : ps.map (spnV n hi) ≠ [] := by
        intro h
        have := congrArg List.length h
        simp at this
        subst this
        simp at l1
      have be := beside_eqD (S := ps.map (spnV n hi)) (d := .list ((ps.map (spnV n hi)).map spD)) rfl hne (by simp; omega)
      rw [e]
      have hv : spnV (n + 1) hi (BxF.pile nm ps : BxF (Bx n)) = jnV false 0 (ps.map (spnV n hi)) := rfl
      rw [hv]
      unfold M_span_of
      cases hi <;> simp only [axS, if_true, Bool.false_eq_true, if_false] at hps' be ⊢ <;> simp -implicitDefEqProofs [startE, i0, hbi', hsm, hps', main_pile, be, -List.map_map]
    | .rim nm a b' c d p, hw, hbi =>
      obtain ⟨ha, hb, hc, hd, hp⟩ := hw
      have e : bxD (n + 1) (BxF.rim nm a b' c d p : BxF (Bx n)) = .tuple [.str "rim", .str nm, .int a, .int b', .int c, .int d, bxD n p] := rfl
      have i0 : atI [PyData.str "rim", .str nm, .int a, .int b', .int c, .int d, bxD n p] 0 = some (.str "rim") := rfl
      have hbi' : M_boxes_in [.tuple [.str "rim", .str nm, .int a, .int b', .int c, .int d, bxD n p]] = some (.tuple [bxD n p]) := hbi
      have hri := rimsof_eq (n := n) (nm := nm) (a := a) (b := b') (c := c) (d := d) (p := p) hi
      rw [e] at hri
      have hps' := parts [p] (by simpa using hp)
      simp only [List.map_cons, List.map_nil] at hps'
      have s1 : sml 1 = true := rfl
      have hv : spnV (n + 1) hi (BxF.rim nm a b' c d p : BxF (Bx n)) = moreV (spnV n hi p) (if hi = true then b' + d else a + c) := rfl
      have j0 : atI [spD (spnV n hi p)] 0 = some (spD (spnV n hi p)) := rfl
      rw [e, hv]
      generalize spnV n hi p = s at hps' j0 ⊢
      obtain ⟨lo, wi, mo, gr, sh⟩ := s
      have es : spD ⟨lo, wi, mo, gr, sh⟩ = .tuple [.int lo, .int wi, optD mo, .int gr, .int sh] := rfl
      rw [es] at hps' j0
      unfold M_span_of
      cases hi <;> cases mo <;> simp only [axS, if_true, Bool.false_eq_true, if_false, optDn, optDs, moreV] at hps' hri j0 ⊢ <;> simp -implicitDefEqProofs [startE, i0, hbi', s1, hps', hri, j0, spD, optDn, optDs]

theorem in_ints (xs : List Int) : inD .none (.list (xs.map PyData.int)) = some (.bool false) := by
  rw [inL_ok (n := 0) (m := 0) rfl (by
    intro y hy
    obtain ⟨x, _, rfl⟩ := List.mem_map.mp hy
    rfl)]
  congr 2
  unfold inSeq
  rw [List.any_map, List.any_eq_false]
  intro x _
  simp [PyData.eqv]
theorem in_tops (S : List Spn) : inD .none (.list (S.map fun s => optD (toV s))) = some (.bool (!allTop S)) := by
  rw [inL_ok (n := 0) (m := 0) rfl (by
    intro y hy
    obtain ⟨s, _, rfl⟩ := List.mem_map.mp hy
    exact shp_opt 0 _)]
  congr 2
  unfold inSeq allTop
  rw [List.any_map, Bool.eq_iff_iff]
  simp only [List.any_eq_true, Function.comp_apply, Bool.not_eq_true', List.all_eq_false]
  constructor
  · rintro ⟨s, h1, h2⟩
    refine ⟨s, h1, ?_⟩
    cases ht : toV s with
    | none => simp
    | some x => rw [ht] at h2; cases h2
  · rintro ⟨s, h1, h2⟩
    refine ⟨s, h1, ?_⟩
    cases ht : toV s with
    | none => rfl
    | some x => rw [ht] at h2; simp at h2
theorem tops_ints {S : List Spn} (ha : allTop S = true) : (S.map fun s => optD (toV s)) = (tops S).map PyData.int := by
  unfold tops
  rw [List.map_map]
  refine List.map_congr_left fun s hs => ?_
  have := List.all_eq_true.mp ha s hs
  show optD (toV s) = PyData.int ((toV s).getD 0)
  cases h : toV s with
  | none => rw [h] at this; cases this
  | some x => rfl
theorem Lin_eq {n : Nat} (b : Bx (n + 1)) : M_Lin [bxD (n + 1) b] = some (.tuple ((inB b).map (bxD n))) := by
  match (b : BxF (Bx n)) with
  | .leaf nm w h =>
    have e : bxD (n + 1) (BxF.leaf nm w h : BxF (Bx n)) = .tuple [.str "leaf", .str nm, spD w, spD h] := rfl
    have i0 : atI [PyData.str "leaf", .str nm, spD w, spD h] 0 = some (.str "leaf") := rfl
    rw [e]
    simp -implicitDefEqProofs [M_Lin, D_Lin, startE, i0, inB]
  | .line c nm g ps =>
    have e : bxD (n + 1) (BxF.line c nm g ps : BxF (Bx n)) = .tuple [.str (kindS c), .str nm, .int g, .tuple (ps.map (bxD n))] := rfl
    have i0 : atI [PyData.str (kindS c), .str nm, .int g, .tuple (ps.map (bxD n))] 0 = some (.str (kindS c)) := rfl
    have i1 : atI [PyData.str (kindS c), .str nm, .int g, .tuple (ps.map (bxD n))] 3 = some (.tuple (ps.map (bxD n))) := rfl
    have j0 : ∀ x : List D, atI [PyData.tuple (ps.map (bxD n)), .tuple x] 0 = some (.tuple (ps.map (bxD n))) := fun _ => rfl
    rw [e]
    cases c <;> simp only [kindS, if_true, Bool.false_eq_true, if_false] at i0 i1 ⊢ <;> simp -implicitDefEqProofs [M_Lin, D_Lin, startE, i0, i1, j0, inB]
  | .pile nm ps =>
    have e : bxD (n + 1) (BxF.pile nm ps : BxF (Bx n)) = .tuple [.str "pile", .str nm, .tuple (ps.map (bxD n))] := rfl
    have i0 : atI [PyData.str "pile", .str nm, .tuple (ps.map (bxD n))] 0 = some (.str "pile") := rfl
    have i1 : atI [PyData.str "pile", .str nm, .tuple (ps.map (bxD n))] 2 = some (.tuple (ps.map (bxD n))) := rfl
    have j0 : ∀ x : List D, atI [PyData.tuple (ps.map (bxD n)), .tuple x] 0 = some (.tuple (ps.map (bxD n))) := fun _ => rfl
    rw [e]
    simp -implicitDefEqProofs [M_Lin, D_Lin, startE, i0, i1, j0, inB]
  | .rim nm a b' c d p =>
    have e : bxD (n + 1) (BxF.rim nm a b' c d p : BxF (Bx n)) = .tuple [.str "rim", .str nm, .int a, .int b', .int c, .int d, bxD n p] := rfl
    have i0 : atI [PyData.str "rim", .str nm, .int a, .int b', .int c, .int d, bxD n p] 0 = some (.str "rim") := rfl
    have i1 : atI [PyData.str "rim", .str nm, .int a, .int b', .int c, .int d, bxD n p] 6 = some (bxD n p) := rfl
    have k1 : cutL [PyData.str "rim", .str nm, .int a, .int b', .int c, .int d, bxD n p] (some 6) none = [bxD n p] := rfl
    have j1 : ∀ x y : D, atI [x, y] 1 = some y := fun _ _ => rfl
    rw [e]
    simp -implicitDefEqProofs [M_Lin, D_Lin, startE, i0, i1, k1, j1, inB]
theorem inT_ok {n m : Nat} {x : D} {xs : List D} (hx : shp n x = true) (hxs : ∀ y ∈ xs, shp m y = true) (hn : n ≤ 62 := by decide) : inD x (.tuple xs) = some (.bool (inSeq x xs)) := if_pos (okIn_of hx hxs hn)
theorem in_main {k a : Str} {c : Bool} (hk : PyData.strOk k = true) (ha : PyData.strOk a = true) (h : inSeq (.tuple [.str k, .str a]) [.tuple [.str "row", .str "wide"], .tuple [.str "col", .str "high"]] = c) : inD (.tuple [.str k, .str a]) (.tuple [.tuple [.str "row", .str "wide"], .tuple [.str "col", .str "high"]]) = some (.bool c) := by
  have h1 : shp 1 (.tuple [.str k, .str a]) = true := by
    show (PyData.strOk k && (PyData.strOk a && true)) = true
    rw [hk, ha]
    rfl
  have h2 : ∀ y ∈ [PyData.tuple [.str "row", .str "wide"], .tuple [.str "col", .str "high"]], shp 1 y = true := List.all_eq_true.mp (by decide +kernel)
  rw [inT_ok h1 h2, h]
theorem im_row_wide : inD (.tuple [.str "row", .str "wide"]) (.tuple [.tuple [.str "row", .str "wide"], .tuple [.str "col", .str "high"]]) = some (.bool true) := in_main (by decide +kernel) (by decide +kernel) (by decide +kernel)
theorem im_row_high : inD (.tuple [.str "row", .str "high"]) (.tuple [.tuple [.str "row", .str "wide"], .tuple [.str "col", .str "high"]]) = some (.bool false) := in_main (by decide +kernel) (by decide +kernel) (by decide +kernel)
theorem im_col_wide : inD (.tuple [.str "col", .str "wide"]) (.tuple [.tuple [.str "row", .str "wide"], .tuple [.str "col", .str "high"]]) = some (.bool false) := in_main (by decide +kernel) (by decide +kernel) (by decide +kernel)
theorem im_col_high : inD (.tuple [.str "col", .str "high"]) (.tuple [.tuple [.str "row", .str "wide"], .tuple [.str "col", .str "high"]]) = some (.bool true) := in_main (by decide +kernel) (by decide +kernel) (by decide +kernel)
theorem im_pile_wide : inD (.tuple [.str "pile", .str "wide"]) (.tuple [.tuple [.str "row", .str "wide"], .tuple [.str "col", .str "high"]]) = some (.bool false) := in_main (by decide +kernel) (by decide +kernel) (by decide +kernel)
theorem im_pile_high : inD (.tuple [.str "pile", .str "high"]) (.tuple [.tuple [.str "row", .str "wide"], .tuple [.str "col", .str "high"]]) = some (.bool false) := in_main (by decide +kernel) (by decide +kernel) (by decide +kernel)
/-! good boxes: their spans are in order, and small -/
def Gd : (n : Nat) → Bx n → Prop
  | 0, b => nomatch b
  | n + 1, b => match (b : BxF (Bx n)) with
    | .leaf _ w h => (w.Ok ∧ w.Sm) ∧ (h.Ok ∧ h.Sm)
    | .line _ _ g ps => 0 ≤ g ∧ g ≤ 10 ∧ 1 ≤ ps.length ∧ ps.length ≤ 4 ∧ ∀ p ∈ ps, Gd n p
    | .pile _ ps => 1 ≤ ps.length ∧ ps.length ≤ 4 ∧ ∀ p ∈ ps, Gd n p
    | .rim _ a b c d p => (0 ≤ a ∧ a ≤ 6) ∧ (0 ≤ b ∧ b ≤ 6) ∧ (0 ≤ c ∧ c ≤ 6) ∧ (0 ≤ d ∧ d ≤ 6) ∧ Gd n p
theorem gd_wf : ∀ (n : Nat) (b : Bx n), Gd n b → Wf n b
  | 0, b, _ => nomatch b
  | n + 1, b, h => by
    match (b : BxF (Bx n)), h with
    | .leaf _ w h', h => exact ⟨h.1.1, h.2.1⟩
    | .line _ _ g ps, h =>
      obtain ⟨h1, h2, h3, h4, h5⟩ := h
      exact ⟨h1, by omega, h3, h4, fun p q => gd_wf n p (h5 p q)⟩
    | .pile _ ps, h =>
      obtain ⟨h1, h2, h3⟩ := h
      exact ⟨h1, h2, fun p q => gd_wf n p (h3 p q)⟩
    | .rim _ a b c d p, h =>
      obtain ⟨h1, h2, h3, h4, h5⟩ := h
      exact ⟨by omega, by omega, by omega, by omega, gd_wf n p h5⟩
theorem made_gd : ∀ (n : Nat) (nm : Str) (b : Bx n), Made n nm b → Gd n b
  | 0, _, b, _ => nomatch b
  | n + 1, nm, b, h => by
    have mem : ∀ {ps : List (Bx n)}, (∀ k p, ps[k]? = some p → Made n (nm ++ chS k) p) → ∀ p ∈ ps, Gd n p := fun {ps} hp p hm => by
      obtain ⟨k, hk⟩ := List.getElem?_of_mem hm
      exact made_gd n _ p (hp k p hk)
    match (b : BxF (Bx n)), h with
    | .leaf _ w h', h => exact ⟨⟨h.2.1, h.2.2.1⟩, h.2.2.2⟩
    | .line _ _ g ps, h =>
      obtain ⟨_, h1, h2, h3, h4, h5⟩ := h
      exact ⟨h1, h2, h3, h4, mem h5⟩
    | .pile _ ps, h =>
      obtain ⟨_, h1, h2, h3⟩ := h
      exact ⟨h1, by omega, mem h3⟩
    | .rim _ a b c d p, h =>
      obtain ⟨_, h1, h2, h3, h4, h5⟩ := h
      exact ⟨h1, h2, h3, h4, made_gd n _ p h5⟩
theorem gd_in {n : Nat} {b : Bx (n + 1)} (h : Gd (n + 1) b) : ∀ p ∈ inB b, Gd n p := by
  intro p hp
  match (b : BxF (Bx n)), h, hp with
  | .leaf _ w h', h, hp => exact absurd hp (by simp [inB])
  | .line _ _ g ps, h, hp => exact h.2.2.2.2 p hp
  | .pile _ ps, h, hp => exact h.2.2 p hp
  | .rim _ a b c d q, h, hp =>
    have : p = q := by simpa [inB] using hp
    subst this
    exact h.2.2.2.2
/-! spans of boxes are in order, and not too great -/
structure Spn.Bn (k : Int) (s : Spn) : Prop where
  ok : s.Ok
  wi : s.wi ≤ k
  mo : ∀ m, s.mo = some m → m ≤ k
  gr : s.gr ≤ 9
  sh : s.sh ≤ 9
theorem J_le_sum {b : Bool} : ∀ {xs : List Int} {k : Int}, (∀ x ∈ xs, 0 ≤ x ∧ x ≤ k) → 0 ≤ k → 0 ≤ J b xs ∧ J b xs ≤ k * (xs.length : Int) := by
  intro xs k h hk
  cases b with
  | true =>
    simp only [J, if_true]
    induction xs with
    | nil => simp
    | cons x xs ih =>
      have h1 := h x List.mem_cons_self
      have h2 := ih fun y q => h y (List.mem_cons_of_mem _ q)
      rw [List.sum_cons, List.length_cons]
      have e : k * ((xs.length + 1 : Nat) : Int) = k * (xs.length : Int) + k := by rw [Int.natCast_add, Int.mul_add]; simp
      omega
  | false =>
    simp only [J, Bool.false_eq_true, if_false]
    by_cases hx : xs = []
    · subst hx; simp
    · have hm := h _ (mx_mem hx)
      refine ⟨hm.1, Int.le_trans hm.2 ?_⟩
      have : 1 ≤ (xs.length : Int) := by
        have := List.length_pos_iff.mpr hx
        omega
      have := Int.mul_le_mul_of_nonneg_left this hk
      omega
theorem jn_bn {b : Bool} {more k : Int} {S : List Spn} (hS : S ≠ []) (hl : S.length ≤ 4) (h : ∀ s ∈ S, s.Bn k) (hk : 0 ≤ k) (hm : 0 ≤ more) : (jnV b more S).Bn (4 * k + more) := by
  have lw : ∀ s ∈ S, 0 ≤ loV s ∧ loV s ≤ s.wi := fun s q => by
    have h1 := (h s q).ok.lo0
    have h2 := (h s q).ok.low
    unfold loV
    split <;> omega
  have ww : ∀ s ∈ S, 0 ≤ s.wi ∧ s.wi ≤ k := fun s q => ⟨Int.le_trans (h s q).ok.lo0 (h s q).ok.low, (h s q).wi⟩
  have bound : ∀ (f : Spn → Int), (∀ s ∈ S, 0 ≤ f s ∧ f s ≤ k) → 0 ≤ J b (S.map f) ∧ J b (S.map f) ≤ 4 * k := fun f hf => by
    have := J_le_sum (b := b) (xs := S.map f) (k := k) (fun x hx => by
      obtain ⟨s, q, rfl⟩ := List.mem_map.mp hx
      exact hf s q) hk
    rw [List.length_map] at this
    have h4 : k * (S.length : Int) ≤ k * 4 := Int.mul_le_mul_of_nonneg_left (by omega) hk
    omega
  have b1 := bound loV fun s q => ⟨(lw s q).1, Int.le_trans (lw s q).2 (ww s q).2⟩
  have b2 := bound Spn.wi ww
  have m1 := J_mono (b := b) hS fun s q => (lw s q).2
  have mx : ∀ f : Spn → Int, (∀ s ∈ S, 0 ≤ f s ∧ f s ≤ 9) → 0 ≤ (S.map f).max?.getD 0 ∧ (S.map f).max?.getD 0 ≤ 9 := fun f hf => by
    obtain ⟨s, q, e⟩ := List.mem_map.mp (mx_mem (xs := S.map f) (by simpa using hS))
    rw [← e]
    exact hf s q
  have g1 := mx Spn.gr fun s q => ⟨(h s q).ok.gr0, (h s q).gr⟩
  have g2 := mx Spn.sh fun s q => ⟨(h s q).ok.sh0, (h s q).sh⟩
  have top : ∀ m, (jnV b more S).mo = some m → J b (S.map Spn.wi) + more ≤ m ∧ m ≤ 4 * k + more := fun m hm' => by
    change (if allTop S = true then some (J b (tops S) + more) else none) = some m at hm'
    split at hm'
    · rename_i ha
      cases hm'
      have ht : ∀ s ∈ S, s.wi ≤ (toV s).getD 0 ∧ (toV s).getD 0 ≤ k := fun s q => by
        have := List.all_eq_true.mp ha s q
        cases hv : toV s with
        | none => rw [hv] at this; cases this
        | some t =>
          simp only [Option.getD_some]
          unfold toV at hv
          split at hv
          · exact ⟨(h s q).ok.top t hv, (h s q).mo t hv⟩
          · cases hv; exact ⟨by omega, (h s q).wi⟩
      have m2 := J_mono (b := b) hS fun s q => (ht s q).1
      have b3 := bound (fun s => (toV s).getD 0) fun s q => ⟨Int.le_trans (ww s q).1 (ht s q).1, (ht s q).2⟩
      unfold tops
      omega
    · cases hm'
  refine ⟨⟨?_, ?_, fun m q => (top m q).1, g1.1, g2.1⟩, ?_, fun m q => (top m q).2, g1.2, g2.2⟩
  · show 0 ≤ J b (S.map loV) + more
    omega
  · show J b (S.map loV) + more ≤ J b (S.map Spn.wi) + more
    omega
  · show J b (S.map Spn.wi) + more ≤ 4 * k + more
    omega
theorem bn_mono {s : Spn} {k m : Int} (h : s.Bn k) (hk : k ≤ m) : s.Bn m := ⟨h.ok, Int.le_trans h.wi hk, fun x q => Int.le_trans (h.mo x q) hk, h.gr, h.sh⟩
theorem more_bn {s : Spn} {k m : Int} (h : s.Bn k) (hm : 0 ≤ m) : (moreV s m).Bn (k + m) := by
  have h1 := h.ok.lo0
  have h2 := h.ok.low
  have h3 := h.wi
  refine ⟨⟨?_, ?_, fun x q => ?_, h.ok.gr0, h.ok.sh0⟩, ?_, fun x q => ?_, h.gr, h.sh⟩
  · show 0 ≤ s.lo + m
    omega
  · show s.lo + m ≤ s.wi + m
    omega
  · obtain ⟨y, hy, rfl⟩ := Option.map_eq_some_iff.mp q
    have := h.ok.top y hy
    show s.wi + m ≤ y + m
    omega
  · show s.wi + m ≤ k + m
    omega
  · obtain ⟨y, hy, rfl⟩ := Option.map_eq_some_iff.mp q
    have := h.mo y hy
    omega
theorem spn_bn : ∀ (n : Nat) (hi : Bool) (b : Bx n), Gd n b → (spnV n hi b).Bn (1000 * (5 : Int) ^ n)
  | 0, _, b, _ => nomatch b
  | n + 1, hi, b, h => by
    have hp : (5 : Int) ^ (n + 1) = 5 * 5 ^ n := by rw [Int.pow_succ]; omega
    have h1 : (1 : Int) ≤ 5 ^ n := by
      have : 0 < (5 : Int) ^ n := Int.pow_pos (by decide)
      omega
    have ih := fun p q => spn_bn n hi p q
    match (b : BxF (Bx n)), h with
    | .leaf _ w h', h =>
      have lf : ∀ s : Spn, s.Ok ∧ s.Sm → s.Bn (1000 * (5 : Int) ^ (n + 1)) := fun s q => ⟨q.1, by have := q.2.wi; omega, fun m hm => by have := q.2.mo m hm; omega, q.2.gr, q.2.sh⟩
      cases hi
      · exact lf w h.1
      · exact lf h' h.2
    | .line c nm g ps, h =>
      obtain ⟨g0, g1, l1, l4, hps⟩ := h
      have hne : ps.map (spnV n hi) ≠ [] := by intro e; have := congrArg List.length e; simp at this; subst this; simp at l1
      have hb : ∀ s ∈ ps.map (spnV n hi), s.Bn (1000 * (5 : Int) ^ n) := fun s q => by
        obtain ⟨p, hp, rfl⟩ := List.mem_map.mp q
        exact ih p (hps p hp)
      have hm : 0 ≤ g * ((ps.length : Int) - 1) ∧ g * ((ps.length : Int) - 1) ≤ 30 := by
        refine ⟨Int.mul_nonneg g0 (by omega), ?_⟩
        have := Int.mul_le_mul g1 (show (ps.length : Int) - 1 ≤ 3 by omega) (by omega) (by decide)
        omega
      show (if c = hi then jnV true (g * ((ps.length : Int) - 1)) (ps.map (spnV n hi)) else jnV false 0 (ps.map (spnV n hi))).Bn _
      split
      · exact bn_mono (jn_bn hne (by simpa using l4) hb (by omega) hm.1) (by omega)
      · exact bn_mono (jn_bn hne (by simpa using l4) hb (by omega) (Int.le_refl 0)) (by omega)
    | .pile nm ps, h =>
      obtain ⟨l1, l4, hps⟩ := h
      have hne : ps.map (spnV n hi) ≠ [] := by intro e; have := congrArg List.length e; simp at this; subst this; simp at l1
      have hb : ∀ s ∈ ps.map (spnV n hi), s.Bn (1000 * (5 : Int) ^ n) := fun s q => by
        obtain ⟨p, hp, rfl⟩ := List.mem_map.mp q
        exact ih p (hps p hp)
      exact bn_mono (jn_bn hne (by simpa using l4) hb (by omega) (Int.le_refl 0)) (by omega)
    | .rim _ a b c d p, h =>
      obtain ⟨h1', h2, h3, h4, h5⟩ := h
      have := more_bn (m := if hi = true then b + d else a + c) (ih p h5) (by split <;> omega)
      exact bn_mono this (by split <;> omega)
theorem spn_lm {n : Nat} {hi : Bool} {b : Bx n} (h : Gd n b) (hn : n ≤ 6) : (spnV n hi b).Ok ∧ (spnV n hi b).wi ≤ 2 ^ 40 ∧ (∀ m, (spnV n hi b).mo = some m → m ≤ 2 ^ 40) ∧ (spnV n hi b).gr ≤ 9 ∧ (spnV n hi b).sh ≤ 9 := by
  have hb := spn_bn n hi b h
  have h5 : (5 : Int) ^ n ≤ 5 ^ 6 := by
    have : (5 : Nat) ^ n ≤ 5 ^ 6 := Nat.pow_le_pow_right (by decide) hn
    exact_mod_cast this
  have e6 : (5 : Int) ^ 6 = 15625 := by decide
  exact ⟨hb.ok, by have := hb.wi; omega, fun m hm => by have := hb.mo m hm; omega, hb.gr, hb.sh⟩

/-! places -/
theorem spn_lm' {n : Nat} {hi : Bool} {b : Bx n} (h : Gd n b) (hn : n ≤ 6) : (spnV n hi b).Ok ∧ (spnV n hi b).Lm := by
  obtain ⟨h1, h2, h3, h4, h5⟩ := spn_lm (hi := hi) h hn
  exact ⟨h1, h2, h3, h4, h5⟩
open Classical in
/-- the level of spans with a room -/
noncomputable def lvlO (S : List Spn) (room : Int) : Option Rat := if h : ∃ o, LvlS S room o then h.choose else none
theorem lvlO_eq {S : List Spn} {room : Int} {o : Option Rat} (hS : ∀ s ∈ S, s.Ok) (h : LvlS S room o) : lvlO S room = o := by
  have hx : ∃ o, LvlS S room o := ⟨o, h⟩
  unfold lvlO
  rw [dif_pos hx]
  exact lvl_unique (mvS_oks hS) hx.choose_spec h
noncomputable def shaV (S : List Spn) (gap length : Int) : List Rat := S.map (shV (upV S (roomV S.length gap length)) (lvlO S (roomV S.length gap length)))
noncomputable def lenS (S : List Spn) (gap length : Int) : List Int := lens 0 (shaV S gap length)
def takV (s : Spn) (room : Int) : Int := max (match toV s with
  | none => room
  | some m => min room m) (loV s)
/-- one behind the other -/
def begs (g : Int) : Int → List Int → List (Int × Int)
  | _, [] => []
  | b, x :: xs => (b, x) :: begs g (b + x + g) xs
noncomputable def lineV {n : Nat} (hi : Bool) (b : Bx (n + 1)) (beg len : Int) : List (Int × Int) := match (b : BxF (Bx n)) with
  | .leaf _ _ _ => []
  | .line c _ g ps => if c = hi then begs g beg (lenS (ps.map (spnV n hi)) g len) else ps.map fun p => (beg, takV (spnV n hi p) len)
  | .pile _ ps => ps.map fun p => (beg, takV (spnV n hi p) len)
  | .rim _ a b c d p => [(beg + (if hi = true then b else a), takV (spnV n hi p) (max 0 (len - (if hi = true then b + d else a + c))))]
abbrev Row := Str × Int × Int × Int × Int
def rowD (r : Row) : D := .tuple [.str r.1, .int r.2.1, .int r.2.2.1, .int r.2.2.2.1, .int r.2.2.2.2]
noncomputable def plcV : (n : Nat) → Bx n → Int → Int → Int → Int → List Row
  | 0, b, _, _, _, _ => nomatch b
  | n + 1, b, l, u, w, h => (bxN (n + 1) b, l, u, w, h) :: ((inB b).zip ((lineV false b l w).zip (lineV true b u h))).flatMap fun x => plcV n x.1 x.2.1.1 x.2.2.1 x.2.1.2 x.2.2.2
theorem begs_len (g : Int) : ∀ (xs : List Int) (b : Int), (begs g b xs).length = xs.length
  | [], _ => rfl
  | x :: xs, b => by rw [begs, List.length_cons, List.length_cons, begs_len g xs]
theorem lenS_len (S : List Spn) (gap length : Int) : (lenS S gap length).length = S.length := by
  unfold lenS shaV
  rw [lens_len, List.length_map]
theorem lineV_len {n : Nat} (hi : Bool) (b : Bx (n + 1)) (beg len : Int) : (lineV hi b beg len).length = (inB b).length := by
  match (b : BxF (Bx n)) with
  | .leaf _ _ _ => rfl
  | .line c _ g ps =>
    show (if c = hi then begs g beg (lenS (ps.map (spnV n hi)) g len) else ps.map fun p => (beg, takV (spnV n hi p) len)).length = ps.length
    split
    · rw [begs_len, lenS_len, List.length_map]
    · rw [List.length_map]
  | .pile _ ps => exact List.length_map ..
  | .rim _ _ _ _ _ _ => rfl
/-! how long the parts are: no less than their lows, and not too long -/
theorem lens_mem {f : Rat → Prop} : ∀ (xs : List Rat) (a : Rat) (k : Int), k ∈ lens a xs → ∃ a' x, x ∈ xs ∧ k = (a' + x).floor - a'.floor
  | [], a, k, h => by simp [lens] at h
  | x :: xs, a, k, h => by
    rw [lens] at h
    rcases List.mem_cons.mp h with h | h
    · exact ⟨a, x, List.mem_cons_self, h⟩
    · obtain ⟨a', y, h1, h2⟩ := lens_mem (f := f) xs (a + x) k h
      exact ⟨a', y, List.mem_cons_of_mem _ h1, h2⟩
theorem mem_le_sum : ∀ (xs : List Rat), (∀ x ∈ xs, 0 ≤ x) → ∀ x ∈ xs, x ≤ xs.sum
  | [], _, x, h => by simp at h
  | y :: ys, h0, x, h => by
    have h1 := h0 y List.mem_cons_self
    have hs : 0 ≤ ys.sum := by
      have : ∀ zs : List Rat, (∀ z ∈ zs, 0 ≤ z) → 0 ≤ zs.sum := by
        intro zs
        induction zs with
        | nil => intro _; simp
        | cons z zs ih =>
          intro hz
          have := hz z List.mem_cons_self
          have := ih fun w q => hz w (List.mem_cons_of_mem _ q)
          rw [List.sum_cons]
          grind
      exact this ys fun z q => h0 z (List.mem_cons_of_mem _ q)
    rw [List.sum_cons]
    rcases List.mem_cons.mp h with rfl | h
    · grind
    · have := mem_le_sum ys (fun z q => h0 z (List.mem_cons_of_mem _ q)) x h
      grind
theorem floor_le_int {a x : Rat} {m : Int} (h : x ≤ (m : Rat)) : (a + x).floor - a.floor ≤ m := by
  have h1 : (a + x).floor ≤ (a + (m : Rat)).floor := Rat.floor_monotone (by grind)
  rw [Rat.floor_add_intCast] at h1
  omega
theorem floor_ge_int {a x : Rat} {m : Int} (h : (m : Rat) ≤ x) : m ≤ (a + x).floor - a.floor := by
  have h1 : (a + (m : Rat)).floor ≤ (a + x).floor := Rat.floor_monotone (by grind)
  rw [Rat.floor_add_intCast] at h1
  omega
theorem lo_nn {s : Spn} (h : s.Ok) : 0 ≤ loV s := by
  have := h.lo0
  have := h.low
  unfold loV
  split <;> omega
theorem lo_wi {s : Spn} (h : s.Ok) : loV s ≤ s.wi := by
  have := h.low
  unfold loV
  split <;> omega
theorem to_lm {s : Spn} (hl : s.Lm) {m : Int} (hm : toV s = some m) : m ≤ 2 ^ 40 := by
  unfold toV at hm
  split at hm
  · exact hl.mo m hm
  · cases hm; exact hl.wi
theorem sha_le {S : List Spn} {room : Int} {o : Option Rat} (h : ∀ s ∈ S, s.Ok ∧ s.Lm) (hL : LvlS S room o) (hr0 : 0 ≤ room) {K : Int} (hK : room ≤ K) (hK2 : 2 ^ 40 ≤ K) : ∀ s ∈ S, shV (upV S room) o s ≤ (K : Rat) := by
  intro s hs
  have hok := (h s hs).1
  have hv := vo_one hL.vo hs
  cases o with
  | some t =>
    have e := sum_room hL
    have nn : ∀ x ∈ S.map (shV (upV S room) (some t)), 0 ≤ x := fun x hx => by
      obtain ⟨s', q, rfl⟩ := List.mem_map.mp hx
      have h1 := sh_lo (h s' q).1 (vo_one hL.vo q)
      have h2 := rnn (lo_nn (h s' q).1)
      grind
    have h1 := mem_le_sum _ nn _ (List.mem_map.mpr ⟨s, hs, rfl⟩)
    rw [e] at h1
    have h2 : (room : Rat) ≤ (K : Rat) := by exact_mod_cast hK
    grind
  | none =>
    obtain ⟨m, h1, h2⟩ := sh_none hv
    rw [h2]
    have : m ≤ K := by
      cases hu : upV S room with
      | true =>
        rw [hu] at h1
        simp only [if_true] at h1
        have := to_lm (h s hs).2 h1
        omega
      | false =>
        rw [hu] at h1
        simp only [Bool.false_eq_true, if_false, Option.some.injEq] at h1
        have := lo_wi hok
        have := (h s hs).2.wi
        omega
    exact_mod_cast this
theorem lenS_le {S : List Spn} {gap len : Int} {o : Option Rat} (h : ∀ s ∈ S, s.Ok ∧ s.Lm) (hL : LvlS S (roomV S.length gap len) o) (hg : 0 ≤ gap) (h1 : 1 ≤ S.length) (hl : len ≤ 2 ^ 40) : ∀ k ∈ lenS S gap len, 0 ≤ k ∧ k ≤ 2 ^ 40 := by
  intro k hk
  unfold lenS shaV at hk
  rw [lvlO_eq (fun s q => (h s q).1) hL] at hk
  obtain ⟨a, x, hx, rfl⟩ := lens_mem (f := fun _ => True) _ _ _ hk
  obtain ⟨s, hs, rfl⟩ := List.mem_map.mp hx
  have hr : roomV S.length gap len ≤ 2 ^ 40 := by
    unfold roomV
    have : 0 ≤ gap * ((S.length : Int) - 1) := Int.mul_nonneg hg (by omega)
    omega
  have hr0 : 0 ≤ roomV S.length gap len := by unfold roomV; omega
  have b1 := sha_le h hL hr0 hr (Int.le_refl _) s hs
  have b2 := sh_lo (h s hs).1 (vo_one hL.vo hs)
  have b3 := rnn (lo_nn (h s hs).1)
  refine ⟨floor_ge_int (m := 0) ?_, floor_le_int b1⟩
  have : ((0 : Int) : Rat) = 0 := rfl
  grind
theorem tak_le {s : Spn} (h : s.Ok ∧ s.Lm) {len : Int} (hl : len ≤ 2 ^ 40) : 0 ≤ takV s len ∧ takV s len ≤ 2 ^ 40 := by
  have h1 := lo_nn h.1
  have h2 := lo_wi h.1
  have h3 := h.2.wi
  unfold takV
  cases hm : toV s with
  | none => simp only; omega
  | some m => simp only; omega

/-! what the program tells of places -/
def prD (p : Int × Int) : D := .tuple [.int p.1, .int p.2]
theorem main_leaf' : dninG G_MAIN (.str "leaf") = some (.bool true) := by
  have : lookT G_MAIN "leaf" = none := by decide +kernel
  unfold dninG; simp only; rw [this]; rfl
theorem main_pile' : dninG G_MAIN (.str "pile") = some (.bool true) := by unfold dninG; simp only; rw [main_pile]; rfl
theorem main_line (c : Bool) : dninG G_MAIN (.str (kindS c)) = some (.bool false) := by
  cases c
  · unfold dninG kindS; simp only [Bool.false_eq_true, if_false]; rw [main_row]; rfl
  · unfold dninG kindS; simp only [if_true]; rw [main_col]; rfl
theorem main_ax (c : Bool) : dixG G_MAIN (.str (kindS c)) = some (.str (axS c)) := by
  cases c
  · unfold dixG kindS axS; simp only [Bool.false_eq_true, if_false]; rw [main_row]; rfl
  · unfold dixG kindS axS; simp only [if_true]; rw [main_col]; rfl
theorem ne_ax (c hi : Bool) : neD (.str (axS c)) (.str (axS hi)) = some (.bool (!decide (c = hi))) := by
  cases c <;> cases hi
  · exact ne_strs (c := true) (by decide +kernel) (by decide +kernel) (by decide +kernel)
  · exact ne_strs (c := false) (by decide +kernel) (by decide +kernel) (by decide +kernel)
  · exact ne_strs (c := false) (by decide +kernel) (by decide +kernel) (by decide +kernel)
  · exact ne_strs (c := true) (by decide +kernel) (by decide +kernel) (by decide +kernel)
theorem taken_eq {n : Nat} {b : Bx n} {hi : Bool} {room : Int} (hn : n ≤ 12) (hw : Wf n b) : M_taken [bxD n b, .str (axS hi), .int room] = some (.int (takV (spnV n hi b) room)) := by
  have s := spanof_eq n 12 hi b hn hw
  have t1 := topof_eq (spnV n hi b)
  have t2 := lowof_eq (spnV n hi b)
  generalize bxD n b = B at *
  generalize spnV n hi b = sp at *
  unfold takV
  cases hm : toV sp with
  | none =>
    rw [hm] at t1
    have e : (if room < loV sp then loV sp else room) = max room (loV sp) := by omega
    simp -implicitDefEqProofs [M_taken, D_taken, startE, s, t1, t2, optDn, notND, e]
  | some m =>
    rw [hm] at t1
    have e : (if (if m < room then m else room) < loV sp then loV sp else (if m < room then m else room)) = max (min room m) (loV sp) := by omega
    simp -implicitDefEqProofs [M_taken, D_taken, startE, s, t1, t2, optDs, notND, e]
theorem inner1 {s0 s1 s3 s4 s7 s8 : Option Sl} {g : Int} (h0 : ∃ B, s0 = some (.sh B) ∧ ixD B (.int 2) = some (.int g)) : ∀ (xs : List Int) (acc : List (Int × Int)) (b : Int) (x : Option Sl), acc.length + xs.length ≤ 1000 → ∃ b' x', forD (bNm 6) B_inner_lines_1 (xs.map PyData.int) [s0, s1, some (.sh (.int b)), s3, s4, some (.ow (acc.map prD)), x, s7, s8] = some (.nx [s0, s1, b', s3, s4, some (.ow ((acc ++ begs g b xs).map prD)), x', s7, s8])
  | [], acc, b, x, _ => ⟨_, _, by rw [List.map_nil, forD_n, begs, List.append_nil]⟩
  | y :: ys, acc, b, x, hl => by
    rw [List.length_cons] at hl
    obtain ⟨b', x', hh⟩ := inner1 (s1 := s1) (s3 := s3) (s4 := s4) (s7 := s7) (s8 := s8) h0 ys (acc ++ [(b, y)]) (b + y + g) (some (.sh (.int y))) (by simp; omega)
    obtain ⟨B, rfl, hB⟩ := h0
    have hsm : sml (acc.length + 1) = true := sml_of (by omega)
    refine ⟨b', x', ?_⟩
    rw [List.append_assoc, List.singleton_append] at hh
    rw [List.map_cons, forD_c, begs, ← hh]
    simp -implicitDefEqProofs [B_inner_lines_1, hsm, hB, prD]
/-- lengths of boxes in a row -/
theorem len_boxes {n : Nat} {hi : Bool} {ps : List (Bx n)} {g len : Int} (hn : n ≤ 6) (h1 : 1 ≤ ps.length) (h4 : ps.length ≤ 4) (hps : ∀ p ∈ ps, Gd n p) (hg : 0 ≤ g ∧ g ≤ 10) (hl : len ≤ 2 ^ 40) :
    M_lengths [.list ((ps.map (spnV n hi)).map spD), .int g, .int len] = some (.tuple ((lenS (ps.map (spnV n hi)) g len).map PyData.int)) ∧ ∃ o, LvlS (ps.map (spnV n hi)) (roomV (ps.map (spnV n hi)).length g len) o := by
  have hS : ∀ s ∈ ps.map (spnV n hi), s.Ok ∧ s.Lm := fun s q => by
    obtain ⟨p, hp, rfl⟩ := List.mem_map.mp q
    exact spn_lm' (hps p hp) hn
  obtain ⟨o, a1, a2, a3, a4, a5⟩ := share_ex (d := .list ((ps.map (spnV n hi)).map spD)) (S := ps.map (spnV n hi)) (gap := g) (length := len) rfl (by simp) hS (by simp; omega) (by omega) (roomV_le (by simp; omega) hg.1 (by omega))
  refine ⟨?_, o, a2⟩
  rw [a5]
  unfold lenS shaV
  rw [lvlO_eq (fun s q => (hS s q).1) a2]
theorem inner_eq {n : Nat} {b : Bx (n + 1)} {hi : Bool} {beg len : Int} (hn : n ≤ 6) (hw : Gd (n + 1) b) (hl : len ≤ 2 ^ 40) : M_inner_lines [bxD (n + 1) b, .str (axS hi), .int beg, .int len] = some (.list ((lineV hi b beg len).map prD)) := by
  have hbi := boxesin_eq b
  have parts : ∀ (ps : List (Bx n)), (∀ p ∈ ps, Gd n p) → ∀ e : DEnv, e.length = 9 → e[1]? = some (some (.sh (.str (axS hi)))) → e[2]? = some (some (.sh (.int beg))) → e[3]? = some (some (.sh (.int len))) → lcGo (bNm 8) yesT C_inner_lines_1 e (ps.map (bxD n)) = some ((ps.map fun p => (beg, takV (spnV n hi p) len)).map prD) := fun ps hps e he h1 h2 h3 => by
    rw [List.map_map]
    refine lcGo_map (bxD n) _ ps fun p hp => ⟨_, rfl, ?_⟩
    have h8 : 8 < e.length := by omega
    have := taken_eq (hi := hi) (room := len) (show n ≤ 12 by omega) (gd_wf n p (hps p hp))
    simp -implicitDefEqProofs [C_inner_lines_1, h8, h1, h2, h3, this, prD]
  have spans : ∀ (ps : List (Bx n)), (∀ p ∈ ps, Gd n p) → ∀ e : DEnv, e.length = 9 → e[1]? = some (some (.sh (.str (axS hi)))) → lcGo (bNm 8) yesT C_inner_lines_2 e (ps.map (bxD n)) = some ((ps.map (spnV n hi)).map spD) := fun ps hps e he h1 => by
    rw [← spnsD]
    refine lcGo_map (bxD n) (fun p => spD (spnV n hi p)) ps fun p hp => ⟨_, rfl, ?_⟩
    have h8 : 8 < e.length := by omega
    have := spanof_eq n 12 hi p (by omega) (gd_wf n p (hps p hp))
    simp -implicitDefEqProofs [C_inner_lines_2, h8, h1, this]
  match (b : BxF (Bx n)), hw, hbi with
  | .leaf nm w h, hw, hbi =>
    have e : bxD (n + 1) (BxF.leaf nm w h : BxF (Bx n)) = .tuple [.str "leaf", .str nm, spD w, spD h] := rfl
    have i0 : ixD (.tuple [PyData.str "leaf", .str nm, spD w, spD h]) (.int 0) = some (.str "leaf") := rfl
    have hbi' : M_boxes_in [.tuple [.str "leaf", .str nm, spD w, spD h]] = some (.tuple []) := hbi
    have hL : lineV hi (BxF.leaf nm w h : BxF (Bx n)) beg len = [] := rfl
    have ml := main_leaf'
    have s0 : sml 0 = true := rfl
    rw [e, hL]
    generalize PyData.tuple [.str "leaf", .str nm, spD w, spD h] = B at *
    simp -implicitDefEqProofs [M_inner_lines, D_inner_lines, startE, hbi', i0, ml, s0, lcGo]
  | .line c nm g ps, hw, hbi =>
    obtain ⟨g0, g1, l1, l4, hps⟩ := hw
    have e : bxD (n + 1) (BxF.line c nm g ps : BxF (Bx n)) = .tuple [.str (kindS c), .str nm, .int g, .tuple (ps.map (bxD n))] := rfl
    have i0 : ixD (.tuple [PyData.str (kindS c), .str nm, .int g, .tuple (ps.map (bxD n))]) (.int 0) = some (.str (kindS c)) := rfl
    have i2 : ixD (.tuple [PyData.str (kindS c), .str nm, .int g, .tuple (ps.map (bxD n))]) (.int 2) = some (.int g) := rfl
    have hbi' : M_boxes_in [.tuple [.str (kindS c), .str nm, .int g, .tuple (ps.map (bxD n))]] = some (.tuple (ps.map (bxD n))) := hbi
    have hsm : sml (ps.map (bxD n)).length = true := sml_of (by simp; omega)
    have hv : lineV hi (BxF.line c nm g ps : BxF (Bx n)) beg len = if c = hi then begs g beg (lenS (ps.map (spnV n hi)) g len) else ps.map fun p => (beg, takV (spnV n hi p) len) := rfl
    have m1 := main_line c
    have m2 := main_ax c
    have kr : eqD (.str (kindS c)) (.str "rim") = some (.bool false) := by cases c <;> simp only [kindS, if_true, Bool.false_eq_true, if_false] <;> simp -implicitDefEqProofs
    have ne := ne_ax c hi
    rw [e, hv]
    have parts' := parts ps hps
    have spans' := spans ps hps
    generalize hB : PyData.tuple [.str (kindS c), .str nm, .int g, .tuple (ps.map (bxD n))] = B at *
    by_cases hc : c = hi
    · rw [if_pos hc]
      subst hc
      obtain ⟨lb, _⟩ := len_boxes (hi := c) (len := len) hn l1 l4 hps ⟨g0, g1⟩ hl
      obtain ⟨b', x', hin⟩ := inner1 (s0 := some (.sh B)) (s1 := some (.sh (.str (axS c)))) (s3 := some (.sh (.int len))) (s4 := some (.sh (.tuple (ps.map (bxD n))))) (s7 := none) (s8 := none) (g := g) ⟨B, rfl, i2⟩ (lenS (ps.map (spnV n c)) g len) [] beg none (by rw [lenS_len]; simp; omega)
      rw [List.map_nil, List.nil_append] at hin
      generalize hPS : (ps.map (spnV n c)).map spD = PS at *
      generalize (lenS (ps.map (spnV n c)) g len).map PyData.int = LL at *
      generalize ps.map (bxD n) = PB at *
      simp -implicitDefEqProofs [M_inner_lines, D_inner_lines, startE, hbi', i0, kr, m1, m2, ne, hsm, spans', i2, lb, hin]
    · rw [if_neg hc]
      generalize (ps.map fun p => (beg, takV (spnV n hi p) len)).map prD = PP at *
      generalize ps.map (bxD n) = PB at *
      simp -implicitDefEqProofs [M_inner_lines, D_inner_lines, startE, hbi', i0, kr, m1, m2, ne, hc, hsm, parts']
  | .pile nm ps, hw, hbi =>
    obtain ⟨l1, l4, hps⟩ := hw
    have e : bxD (n + 1) (BxF.pile nm ps : BxF (Bx n)) = .tuple [.str "pile", .str nm, .tuple (ps.map (bxD n))] := rfl
    have i0 : ixD (.tuple [PyData.str "pile", .str nm, .tuple (ps.map (bxD n))]) (.int 0) = some (.str "pile") := rfl
    have hbi' : M_boxes_in [.tuple [.str "pile", .str nm, .tuple (ps.map (bxD n))]] = some (.tuple (ps.map (bxD n))) := hbi
    have hsm : sml (ps.map (bxD n)).length = true := sml_of (by simp; omega)
    have hv : lineV hi (BxF.pile nm ps : BxF (Bx n)) beg len = ps.map fun p => (beg, takV (spnV n hi p) len) := rfl
    have m1 := main_pile'
    rw [e, hv]
    have parts' := parts ps hps
    generalize hB : PyData.tuple [.str "pile", .str nm, .tuple (ps.map (bxD n))] = B at *
    generalize (ps.map fun p => (beg, takV (spnV n hi p) len)).map prD = PP at *
    generalize ps.map (bxD n) = PB at *
    simp -implicitDefEqProofs [M_inner_lines, D_inner_lines, startE, hbi', i0, m1, hsm, parts']
  | .rim nm a b' c d p, hw, hbi =>
    obtain ⟨w1, w2, w3, w4, hp⟩ := hw
    have e : bxD (n + 1) (BxF.rim nm a b' c d p : BxF (Bx n)) = .tuple [.str "rim", .str nm, .int a, .int b', .int c, .int d, bxD n p] := rfl
    have i0 : ixD (.tuple [PyData.str "rim", .str nm, .int a, .int b', .int c, .int d, bxD n p]) (.int 0) = some (.str "rim") := rfl
    have hbi' : M_boxes_in [.tuple [.str "rim", .str nm, .int a, .int b', .int c, .int d, bxD n p]] = some (.tuple [bxD n p]) := hbi
    have hv : lineV hi (BxF.rim nm a b' c d p : BxF (Bx n)) beg len = [(beg + (if hi = true then b' else a), takV (spnV n hi p) (max 0 (len - (if hi = true then b' + d else a + c))))] := rfl
    have hr := rimsof_eq (n := n) (nm := nm) (a := a) (b := b') (c := c) (d := d) (p := p) hi
    rw [e] at hr
    have tk := taken_eq (b := p) (hi := hi) (room := max 0 (len - (if hi = true then b' + d else a + c))) (show n ≤ 12 by omega) (gd_wf n p hp)
    have p0 : atI [bxD n p] 0 = some (bxD n p) := rfl
    rw [e, hv]
    generalize hB : PyData.tuple [.str "rim", .str nm, .int a, .int b', .int c, .int d, bxD n p] = B at *
    generalize bxD n p = PB at *
    cases hi with
    | true =>
      simp only [if_true] at hr tk ⊢
      have e1 : (if b' + d < len then len - (b' + d) else 0) = max 0 (len - (b' + d)) := by omega
      have a0 : atI [PyData.int b', .int d] 0 = some (.int b') := rfl
      have as : asInts [PyData.int b', .int d] = some [b', d] := rfl
      have su : [b', d].sum = b' + d := by simp
      simp -implicitDefEqProofs [M_inner_lines, D_inner_lines, startE, hbi', i0, hr, a0, p0, as, su, e1, tk, prD, -List.sum_cons]
    | false =>
      simp only [Bool.false_eq_true, if_false] at hr tk ⊢
      have e1 : (if a + c < len then len - (a + c) else 0) = max 0 (len - (a + c)) := by omega
      have a0 : atI [PyData.int a, .int c] 0 = some (.int a) := rfl
      have as : asInts [PyData.int a, .int c] = some [a, c] := rfl
      have su : [a, c].sum = a + c := by simp
      simp -implicitDefEqProofs [M_inner_lines, D_inner_lines, startE, hbi', i0, hr, a0, p0, as, su, e1, tk, prD, -List.sum_cons]

/-! kinds of boxes -/
def kndS {n : Nat} (b : Bx (n + 1)) : Str := match (b : BxF (Bx n)) with
  | .leaf _ _ _ => "leaf"
  | .line c _ _ _ => kindS c
  | .pile _ _ => "pile"
  | .rim _ _ _ _ _ _ => "rim"
def isLf {n : Nat} (b : Bx (n + 1)) : Bool := match (b : BxF (Bx n)) with
  | .leaf _ _ _ => true
  | _ => false
def isRm {n : Nat} (b : Bx (n + 1)) : Bool := match (b : BxF (Bx n)) with
  | .rim _ _ _ _ _ _ => true
  | _ => false
theorem bx_i0 {n : Nat} (b : Bx (n + 1)) : ixD (bxD (n + 1) b) (.int 0) = some (.str (kndS b)) := by
  match (b : BxF (Bx n)) with
  | .leaf _ _ _ => rfl
  | .line c _ _ _ => rfl
  | .pile _ _ => rfl
  | .rim _ _ _ _ _ _ => rfl
theorem bx_i1 {n : Nat} (b : Bx (n + 1)) : ixD (bxD (n + 1) b) (.int 1) = some (.str (bxN (n + 1) b)) := by
  match (b : BxF (Bx n)) with
  | .leaf _ _ _ => rfl
  | .line c _ _ _ => rfl
  | .pile _ _ => rfl
  | .rim _ _ _ _ _ _ => rfl
theorem knd_lf {n : Nat} (b : Bx (n + 1)) : eqD (.str (kndS b)) (.str "leaf") = some (.bool (isLf b)) := by
  match (b : BxF (Bx n)) with
  | .leaf _ _ _ => exact ek_leaf_leaf
  | .line c _ _ _ =>
    cases c
    · exact ek_row_leaf
    · exact ek_col_leaf
  | .pile _ _ => exact ek_pile_leaf
  | .rim _ _ _ _ _ _ => exact ek_rim_leaf
theorem knd_nlf {n : Nat} (b : Bx (n + 1)) : neD (.str (kndS b)) (.str "leaf") = some (.bool (!isLf b)) := by
  match (b : BxF (Bx n)) with
  | .leaf _ _ _ => exact nk_leaf_leaf
  | .line c _ _ _ =>
    cases c
    · exact nk_row_leaf
    · exact nk_col_leaf
  | .pile _ _ => exact nk_pile_leaf
  | .rim _ _ _ _ _ _ => exact nk_rim_leaf
theorem knd_rm {n : Nat} (b : Bx (n + 1)) : eqD (.str (kndS b)) (.str "rim") = some (.bool (isRm b)) := by
  match (b : BxF (Bx n)) with
  | .leaf _ _ _ => exact ek_leaf_rim
  | .line c _ _ _ =>
    cases c
    · exact ek_row_rim
    · exact ek_col_rim
  | .pile _ _ => exact ek_pile_rim
  | .rim _ _ _ _ _ _ => exact ek_rim_rim
theorem lf_in {n : Nat} {b : Bx (n + 1)} (h : isLf b = true) : inB b = [] := by
  match (b : BxF (Bx n)), h with
  | .leaf _ _ _, _ => rfl
  | .line _ _ _ _, h => cases h
  | .pile _ _, h => cases h
  | .rim _ _ _ _ _ _, h => cases h
theorem inB_le {n : Nat} {b : Bx (n + 1)} (h : Gd (n + 1) b) : (inB b).length ≤ 4 := by
  match (b : BxF (Bx n)), h with
  | .leaf _ _ _, _ => simp [inB]
  | .line _ _ _ ps, h => exact h.2.2.2.1
  | .pile _ ps, h => exact h.2.1
  | .rim _ _ _ _ _ _, h => simp [inB]
/-- boxes, and all in them -/
def capN : Nat → Nat
  | 0 => 0
  | n + 1 => 1 + 4 * capN n
theorem flat_le {α β : Type} {f : α → List β} {k : Nat} : ∀ (xs : List α), (∀ x ∈ xs, (f x).length ≤ k) → (xs.flatMap f).length ≤ k * xs.length
  | [], _ => by simp
  | x :: xs, h => by
    have h1 := h x List.mem_cons_self
    have h2 := flat_le xs fun y q => h y (List.mem_cons_of_mem _ q)
    rw [List.flatMap_cons, List.length_append, List.length_cons, Nat.mul_succ]
    omega
theorem capN_le {n : Nat} (h : n ≤ 7) : capN n ≤ 6000 := by
  have : n = 0 ∨ n = 1 ∨ n = 2 ∨ n = 3 ∨ n = 4 ∨ n = 5 ∨ n = 6 ∨ n = 7 := by omega
  rcases this with rfl | rfl | rfl | rfl | rfl | rfl | rfl | rfl <;> decide

theorem begs_mem {g : Int} : ∀ (xs : List Int) (b : Int) (p : Int × Int), p ∈ begs g b xs → p.2 ∈ xs
  | [], _, p, h => by simp [begs] at h
  | x :: xs, b, p, h => by
    rw [begs] at h
    rcases List.mem_cons.mp h with rfl | h
    · exact List.mem_cons_self
    · exact List.mem_cons_of_mem _ (begs_mem xs _ p h)
theorem plc_len : ∀ (n : Nat) (b : Bx n) (l u w h : Int), Gd n b → (plcV n b l u w h).length ≤ capN n
  | 0, b, _, _, _, _, _ => nomatch b
  | n + 1, b, l, u, w, h, hg => by
    rw [plcV, List.length_cons]
    have h1 := flat_le (k := capN n) ((inB b).zip ((lineV false b l w).zip (lineV true b u h))) (f := fun x => plcV n x.1 x.2.1.1 x.2.2.1 x.2.1.2 x.2.2.2) fun x hx => plc_len n x.1 _ _ _ _ (gd_in hg x.1 (List.of_mem_zip hx).1)
    have h2 : ((inB b).zip ((lineV false b l w).zip (lineV true b u h))).length ≤ 4 := by
      rw [List.length_zip]
      have := inB_le hg
      omega
    have h3 : capN n * ((inB b).zip ((lineV false b l w).zip (lineV true b u h))).length ≤ capN n * 4 := Nat.mul_le_mul_left _ h2
    unfold capN
    omega

theorem lineV_le {n : Nat} {hi : Bool} {b : Bx (n + 1)} {beg len : Int} (hn : n ≤ 6) (hg : Gd (n + 1) b) (hl : len ≤ 2 ^ 40) : ∀ x ∈ lineV hi b beg len, 0 ≤ x.2 ∧ x.2 ≤ 2 ^ 40 := by
  intro x hx
  match (b : BxF (Bx n)), hg, hx with
  | .leaf _ _ _, _, hx => exact absurd hx (List.not_mem_nil)
  | .line c _ g ps, hg, hx =>
    obtain ⟨g0, g1, l1, l4, hps⟩ := hg
    have hx : x ∈ (if c = hi then begs g beg (lenS (ps.map (spnV n hi)) g len) else ps.map fun p => (beg, takV (spnV n hi p) len)) := hx
    split at hx
    · obtain ⟨_, o, ho⟩ := len_boxes (hi := hi) (len := len) hn l1 l4 hps ⟨g0, g1⟩ hl
      exact lenS_le (fun s q => by
        obtain ⟨p, hp, rfl⟩ := List.mem_map.mp q
        exact spn_lm' (hps p hp) hn) ho g0 (by simpa using l1) hl x.2 (begs_mem _ _ _ hx)
    · obtain ⟨p, hp, rfl⟩ := List.mem_map.mp hx
      exact tak_le (spn_lm' (hps p hp) hn) hl
  | .pile _ ps, hg, hx =>
    obtain ⟨l1, l4, hps⟩ := hg
    have hx : x ∈ ps.map fun p => (beg, takV (spnV n hi p) len) := hx
    obtain ⟨p, hp, rfl⟩ := List.mem_map.mp hx
    exact tak_le (spn_lm' (hps p hp) hn) hl
  | .rim _ a b' c d p, hg, hx =>
    obtain ⟨w1, w2, w3, w4, hp⟩ := hg
    have hx : x ∈ [(beg + (if hi = true then b' else a), takV (spnV n hi p) (max 0 (len - (if hi = true then b' + d else a + c))))] := hx
    simp only [List.mem_singleton] at hx
    subst hx
    exact tak_le (spn_lm' hp hn) (by split <;> omega)
theorem z3L_zip {α β γ : Type} (f : α → D) (g : β → D) (h : γ → D) : ∀ (xs : List α) (ys : List β) (zs : List γ), z3L (xs.map f) (ys.map g) (zs.map h) = (xs.zip (ys.zip zs)).map fun x => .tuple [f x.1, g x.2.1, h x.2.2]
  | [], _, _ => by simp [z3L]
  | _ :: _, [], _ => by simp [z3L]
  | _ :: _, _ :: _, [] => by simp [z3L]
  | x :: xs, y :: ys, z :: zs => by
    have := z3L_zip f g h xs ys zs
    simp only [List.map_cons, z3L, List.zip_cons_cons, this]
theorem pr0 (p : Int × Int) : ixD (prD p) (.int 0) = some (.int p.1) := rfl
theorem pr1 (p : Int × Int) : ixD (prD p) (.int 1) = some (.int p.2) := rfl
theorem placed1 {n : Nat} (R : List D → Option D) (P : Bx n × (Int × Int) × (Int × Int) → Prop) (hR : ∀ x, P x → R [bxD n x.1, .int x.2.1.1, .int x.2.2.1, .int x.2.1.2, .int x.2.2.2] = some (.list ((plcV n x.1 x.2.1.1 x.2.2.1 x.2.1.2 x.2.2.2).map rowD))) {k : Nat} {s0 s1 s2 s3 s4 s6 s7 : Option Sl} :
    ∀ (xs : List (Bx n × (Int × Int) × (Int × Int))) (acc : List Row) (x8 x9 x10 : Option Sl), (∀ x ∈ xs, P x ∧ (plcV n x.1 x.2.1.1 x.2.2.1 x.2.1.2 x.2.2.2).length ≤ k) → acc.length + k * xs.length ≤ 100000 →
    ∃ x8' x9' x10', forD (bTp [(bNm 8), (bNm 9), (bNm 10)]) (B_placed_1 R) (xs.map fun x => .tuple [bxD n x.1, prD x.2.1, prD x.2.2]) [s0, s1, s2, s3, s4, some (.ow (acc.map rowD)), s6, s7, x8, x9, x10] = some (.nx [s0, s1, s2, s3, s4, some (.ow ((acc ++ xs.flatMap fun x => plcV n x.1 x.2.1.1 x.2.2.1 x.2.1.2 x.2.2.2).map rowD)), s6, s7, x8', x9', x10'])
  | [], acc, x8, x9, x10, _, _ => ⟨x8, x9, x10, by rw [List.map_nil, forD_n, List.flatMap_nil, List.append_nil]⟩
  | x :: xs, acc, x8, x9, x10, h, hl => by
    obtain ⟨hx, hk⟩ := h x List.mem_cons_self
    rw [List.length_cons, Nat.mul_succ] at hl
    obtain ⟨x8', x9', x10', hh⟩ := placed1 R P hR (k := k) (s0 := s0) (s1 := s1) (s2 := s2) (s3 := s3) (s4 := s4) (s6 := s6) (s7 := s7) xs (acc ++ plcV n x.1 x.2.1.1 x.2.2.1 x.2.1.2 x.2.2.2) (some (.sh (bxD n x.1))) (some (.sh (prD x.2.1))) (some (.sh (prD x.2.2))) (fun y q => h y (List.mem_cons_of_mem _ q)) (by rw [List.length_append]; omega)
    refine ⟨x8', x9', x10', ?_⟩
    rw [List.flatMap_cons, ← List.append_assoc, ← hh, List.map_cons, forD_c]
    have r := hR x hx
    have hsm : sml ((acc.map rowD).length + ((plcV n x.1 x.2.1.1 x.2.2.1 x.2.1.2 x.2.2.2).map rowD).length) = true := sml_of (by rw [List.length_map, List.length_map]; omega)
    have q0 := pr0 x.2.1
    have q1 := pr1 x.2.1
    have q2 := pr0 x.2.2
    have q3 := pr1 x.2.2
    rw [List.map_append]
    generalize (plcV n x.1 x.2.1.1 x.2.2.1 x.2.1.2 x.2.2.2).map rowD = PL at *
    generalize acc.map rowD = AC at *
    generalize bxD n x.1 = B at *
    generalize prD x.2.1 = P1 at *
    generalize prD x.2.2 = P2 at *
    simp -implicitDefEqProofs [B_placed_1, q0, q1, q2, q3, r, hsm]
theorem placed_eq : ∀ (n m : Nat) (b : Bx n) (l u w h : Int), n ≤ m → n ≤ 7 → Gd n b → w ≤ 2 ^ 40 → h ≤ 2 ^ 40 → M_placed m [bxD n b, .int l, .int u, .int w, .int h] = some (.list ((plcV n b l u w h).map rowD)) := by
  intro n
  induction n with
  | zero => intro m b; exact nomatch b
  | succ n ih =>
    intro m b l u w h hm hn hg hw hh
    obtain ⟨m, rfl⟩ : ∃ j, m = j + 1 := ⟨m - 1, by omega⟩
    have i0 := bx_i0 b
    have i1 := bx_i1 b
    have kl := knd_lf b
    have bi := boxesin_eq b
    have in1 := inner_eq (hi := false) (beg := l) (len := w) (show n ≤ 6 by omega) hg hw
    have in2 := inner_eq (hi := true) (beg := u) (len := h) (show n ≤ 6 by omega) hg hh
    simp only [axS, if_true, Bool.false_eq_true, if_false] at in1 in2
    have lf := lf_in (b := b)
    have ll1 := lineV_le (hi := false) (beg := l) (show n ≤ 6 by omega) hg hw
    have ll2 := lineV_le (hi := true) (beg := u) (show n ≤ 6 by omega) hg hh
    have gin := gd_in hg
    have i4 := inB_le hg
    have hpl : plcV (n + 1) b l u w h = (bxN (n + 1) b, l, u, w, h) :: ((inB b).zip ((lineV false b l w).zip (lineV true b u h))).flatMap fun x => plcV n x.1 x.2.1.1 x.2.2.1 x.2.1.2 x.2.2.2 := by rw [plcV]
    rw [hpl]
    generalize lineV false b l w = L1 at *
    generalize lineV true b u h = L2 at *
    have rowe : rowD (bxN (n + 1) b, l, u, w, h) = .tuple [.str (bxN (n + 1) b), .int l, .int u, .int w, .int h] := rfl
    have hM : M_placed (m + 1) = runF 11 (D_placed (M_placed m)) := rfl
    rw [hM]
    cases hlf : isLf b with
    | true =>
      rw [hlf] at kl
      rw [lf hlf]
      generalize bxD (n + 1) b = B at *
      simp -implicitDefEqProofs [D_placed, startE, i0, i1, kl, rowe]
    | false =>
      rw [hlf] at kl
      have cap := capN_le (show n ≤ 7 by omega)
      obtain ⟨x8, x9, x10, lp⟩ := placed1 (M_placed m) (fun x => Gd n x.1 ∧ x.2.1.2 ≤ 2 ^ 40 ∧ x.2.2.2 ≤ 2 ^ 40) (fun x hx => ih m x.1 _ _ _ _ (by omega) (by omega) hx.1 hx.2.1 hx.2.2) (k := capN n) (s0 := some (.sh (bxD (n + 1) b))) (s1 := some (.sh (.int l))) (s2 := some (.sh (.int u))) (s3 := some (.sh (.int w))) (s4 := some (.sh (.int h))) (s6 := some (.sh (.list (L1.map prD)))) (s7 := some (.sh (.list (L2.map prD)))) ((inB b).zip (L1.zip L2)) [(bxN (n + 1) b, l, u, w, h)] none none none (fun x hx => by
        obtain ⟨h1, h2⟩ := List.of_mem_zip hx
        obtain ⟨h3, h4⟩ := List.of_mem_zip h2
        exact ⟨⟨gin _ h1, (ll1 _ h3).2, (ll2 _ h4).2⟩, plc_len n _ _ _ _ _ (gin _ h1)⟩) (by
        have : ((inB b).zip (L1.zip L2)).length ≤ 4 := by rw [List.length_zip]; omega
        have := Nat.mul_le_mul cap this
        simp only [List.length_singleton]
        omega)
      rw [List.singleton_append] at lp
      have zz := z3L_zip (bxD n) prD prD (inB b) L1 L2
      have r1 : [(bxN (n + 1) b, l, u, w, h)].map rowD = [.tuple [.str (bxN (n + 1) b), .int l, .int u, .int w, .int h]] := rfl
      rw [r1] at lp
      generalize ((inB b).zip (L1.zip L2)).map (fun x => PyData.tuple [bxD n x.1, prD x.2.1, prD x.2.2]) = ZZ at *
      generalize hFF : ((bxN (n + 1) b, l, u, w, h) :: ((inB b).zip (L1.zip L2)).flatMap fun x => plcV n x.1 x.2.1.1 x.2.2.1 x.2.1.2 x.2.2.2).map rowD = FF at *
      generalize L1.map prD = PL1 at *
      generalize L2.map prD = PL2 at *
      generalize (inB b).map (bxD n) = PB at *
      generalize bxD (n + 1) b = B at *
      simp -implicitDefEqProofs [D_placed, startE, i0, i1, kl, in1, in2, bi, zz, lp]
theorem places_eq {n : Nat} {b : Bx n} {w h : Int} (hn : n ≤ 7) (hg : Gd n b) (hw : w ≤ 2 ^ 40) (hh : h ≤ 2 ^ 40) : M_places [bxD n b, .int w, .int h] = some (.tuple ((plcV n b 0 0 w h).map rowD)) := by
  have := placed_eq n 12 b 0 0 w h (by omega) hn hg hw hh
  generalize bxD n b = B at *
  simp -implicitDefEqProofs [M_places, D_places, startE, this]
theorem needs_eq {n : Nat} {b : Bx n} (hn : n ≤ 12) (hg : Wf n b) : M_needs [bxD n b] = some (.tuple [.int (loV (spnV n false b)), .int (loV (spnV n true b))]) := by
  have s1 := spanof_eq n 12 false b hn hg
  have s2 := spanof_eq n 12 true b hn hg
  simp only [axS, if_true, Bool.false_eq_true, if_false] at s1 s2
  have l1 := lowof_eq (spnV n false b)
  have l2 := lowof_eq (spnV n true b)
  generalize bxD n b = B at *
  have hs : sml 2 = true := rfl
  simp -implicitDefEqProofs [M_needs, D_needs, startE, hs, lcGo, C_needs_1, s1, s2, l1, l2]

/-! the law's places -/
theorem st25 (k nm a b c d p : D) : stepD (.tuple [k, nm, a, b, c, d, p]) (some 2) (some 5) (some 2) = some (.tuple [a, c]) := rfl
theorem st36 (k nm a b c d p : D) : stepD (.tuple [k, nm, a, b, c, d, p]) (some 3) (some 6) (some 2) = some (.tuple [b, d]) := rfl
/-! names, in the order of places -/
def nmsV : (n : Nat) → Bx n → List Str
  | 0, b => nomatch b
  | n + 1, b => bxN (n + 1) b :: (inB b).flatMap (nmsV n)
theorem flatMap_congr' {α β : Type} {f g : α → List β} : ∀ {xs : List α}, (∀ x ∈ xs, f x = g x) → xs.flatMap f = xs.flatMap g
  | [], _ => rfl
  | x :: xs, h => by rw [List.flatMap_cons, List.flatMap_cons, h x List.mem_cons_self, flatMap_congr' fun y q => h y (List.mem_cons_of_mem _ q)]
theorem plc_names : ∀ (n : Nat) (b : Bx n) (l u w h : Int), (plcV n b l u w h).map (fun r => r.1) = nmsV n b
  | 0, b, _, _, _, _ => nomatch b
  | n + 1, b, l, u, w, h => by
    rw [plcV, nmsV, List.map_cons, List.map_flatMap]
    congr 1
    have e : ((inB b).zip ((lineV false b l w).zip (lineV true b u h))).flatMap (fun x => (plcV n x.1 x.2.1.1 x.2.2.1 x.2.1.2 x.2.2.2).map (fun r => r.1)) = ((inB b).zip ((lineV false b l w).zip (lineV true b u h))).flatMap fun x => nmsV n x.1 := flatMap_congr' fun x _ => plc_names n x.1 _ _ _ _
    rw [e]
    have e2 : ((inB b).zip ((lineV false b l w).zip (lineV true b u h))).map Prod.fst = inB b := by
      refine List.map_fst_zip ?_
      rw [List.length_zip, lineV_len, lineV_len]
      omega
    conv => rhs; rw [← e2]
    rw [List.flatMap_map]
theorem strOk_ch {nm : Str} {k : Nat} (h : PyData.strOk nm = true) (hk : k < 4) : PyData.strOk (nm ++ chS k) = true := by
  show (nm.cps ++ #[97 + k]).all (· < 0x110000) = true
  rw [Array.all_append]
  have h1 : nm.cps.all (· < 0x110000) = true := h
  rw [h1]
  have : 97 + k < 0x110000 := by omega
  simp [this]
theorem made_ok : ∀ (n : Nat) (nm : Str) (b : Bx n), Made n nm b → PyData.strOk nm = true → ∀ x ∈ nmsV n b, PyData.strOk x = true
  | 0, _, b, _, _ => nomatch b
  | n + 1, nm, b, h, ho => by
    have mem : ∀ {ps : List (Bx n)}, ps.length ≤ 4 → (∀ k p, ps[k]? = some p → Made n (nm ++ chS k) p) → ∀ x ∈ ps.flatMap (nmsV n), PyData.strOk x = true := fun {ps} hl hp x hx => by
      obtain ⟨p, hm, hx⟩ := List.mem_flatMap.mp hx
      obtain ⟨k, hk⟩ := List.getElem?_of_mem hm
      have : k < ps.length := (List.getElem?_eq_some_iff.mp hk).1
      exact made_ok n _ p (hp k p hk) (strOk_ch ho (by omega)) x hx
    intro x hx
    rw [nmsV] at hx
    match (b : BxF (Bx n)), h, hx with
    | .leaf nm' w h', h, hx =>
      rcases List.mem_cons.mp hx with rfl | hx
      · have e := h.1
        rw [e]; exact ho
      · exact absurd hx (by simp [inB])
    | .line _ nm' g ps, h, hx =>
      obtain ⟨e, h1, h2, h3, h4, h5⟩ := h
      rcases List.mem_cons.mp hx with rfl | hx
      · rw [e]; exact ho
      · exact mem h4 h5 x hx
    | .pile nm' ps, h, hx =>
      obtain ⟨e, h1, h2, h3⟩ := h
      rcases List.mem_cons.mp hx with rfl | hx
      · rw [e]; exact ho
      · exact mem (by omega) h3 x hx
    | .rim nm' a b c d p, h, hx =>
      obtain ⟨e, h1, h2, h3, h4, h5⟩ := h
      rcases List.mem_cons.mp hx with rfl | hx
      · rw [e]; exact ho
      · have hx : x ∈ nmsV n p := by simpa [inB] using hx
        exact made_ok n _ p h5 (strOk_ch ho (by decide)) x hx
theorem shp_row {r : Row} (h : PyData.strOk r.1 = true) : shp 1 (rowD r) = true := by
  show ([.str r.1, .int r.2.1, .int r.2.2.1, .int r.2.2.2.1, .int r.2.2.2.2] : List D).all (shp 0) = true
  have h1 : shp 0 (.str r.1) = true := h
  simp only [List.all_cons, List.all_nil, h1]
  rfl
theorem shp_rows {rs : List Row} (h : ∀ r ∈ rs, PyData.strOk r.1 = true) : shp 2 (.tuple (rs.map rowD)) = true := by
  show (rs.map rowD).all (shp 1) = true
  rw [List.all_eq_true]
  intro x hx
  obtain ⟨r, hr, rfl⟩ := List.mem_map.mp hx
  exact shp_row (h r hr)
theorem plc_ok {n : Nat} {b : Bx n} (hs : ∀ x ∈ nmsV n b, PyData.strOk x = true) {l u w h : Int} : ∀ r ∈ plcV n b l u w h, PyData.strOk r.1 = true := fun r hr => by
  refine hs r.1 ?_
  rw [← plc_names n b l u w h]
  exact List.mem_map.mpr ⟨r, hr, rfl⟩

theorem sizes_ex {n : Int} {B : D} (hn : 0 ≤ n) : ∃ w h : Int, M_Lsizes [B, .int n] = some (.tuple [.int w, .int h]) ∧ (0 ≤ w ∧ w < 600) ∧ (0 ≤ h ∧ h < 600) := by
  obtain ⟨a, ha, pa⟩ := pick3 (a := 200) (b := 60) (c := 600) (r := n / 1024 % 3) (by omega) (by omega)
  obtain ⟨b, hb, pb⟩ := pick3 (a := 200) (b := 60) (c := 600) (r := n / 8 % 3) (by omega) (by omega)
  have ha0 : 0 < a := by omega
  have hb0 : 0 < b := by omega
  have a1 := Int.emod_nonneg n (b := a) (by omega)
  have a2 := Int.emod_lt_of_pos n ha0
  have b1 := Int.emod_nonneg (n / 4096) (b := b) (by omega)
  have b2 := Int.emod_lt_of_pos (n / 4096) hb0
  refine ⟨n % a, n / 4096 % b, ?_, by omega, by omega⟩
  simp -implicitDefEqProofs [M_Lsizes, D_Lsizes, startE, fdiv_ok (b := 1024), mod_ok (b := 3), pa, mod_ok ha0, fdiv_ok (b := 4096), fdiv_ok (b := 8), pb, mod_ok hb0]
theorem nm_a : ("a" : Str).length = 1 := by decide +kernel
theorem nm_x : ("x" : Str).length = 1 := by decide +kernel

/-! whether all lies within, what holds a point -/
def rmsV {n : Nat} (hi : Bool) (b : Bx (n + 1)) : Int × Int := match (b : BxF (Bx n)) with
  | .rim _ a b c d _ => if hi = true then (b, d) else (a, c)
  | _ => (0, 0)
noncomputable def winV : (n : Nat) → Bool → Bx n → Int → Int → Bool
  | 0, _, b, _, _ => nomatch b
  | n + 1, hi, b, beg, len => ((inB b).zip (lineV hi b beg len)).all fun x => decide (beg + (rmsV hi b).1 ≤ x.2.1) && (decide (x.2.1 + x.2.2 ≤ beg + len - (rmsV hi b).2) && winV n hi x.1 x.2.1 x.2.2)
theorem z2L_zip {α β : Type} (f : α → D) (g : β → D) : ∀ (xs : List α) (ys : List β), z2L (xs.map f) (ys.map g) = (xs.zip ys).map fun x => .tuple [f x.1, g x.2]
  | [], _ => by simp [z2L]
  | _ :: _, [] => by simp [z2L]
  | x :: xs, y :: ys => by
    have := z2L_zip f g xs ys
    simp only [List.map_cons, z2L, List.zip_cons_cons, this]
theorem within1 {n : Nat} {hi : Bool} (R : List D → Option D) (P : Bx n × (Int × Int) → Prop) (hR : ∀ x, P x → R [bxD n x.1, .str (axS hi), .int x.2.1, .int x.2.2] = some (.bool (winV n hi x.1 x.2.1 x.2.2))) {s0 : Option Sl} {beg len r0 r1 : Int} :
    ∀ (xs : List (Bx n × (Int × Int))) (x5 x6 : Option Sl), (∀ x ∈ xs, P x) →
    ((xs.all fun x => decide (beg + r0 ≤ x.2.1) && (decide (x.2.1 + x.2.2 ≤ beg + len - r1) && winV n hi x.1 x.2.1 x.2.2)) = true ∧ ∃ x5' x6', forD (bTp [(bNm 5), (bNm 6)]) (B_is_within_1 R) (xs.map fun x => .tuple [bxD n x.1, prD x.2]) [s0, some (.sh (.str (axS hi))), some (.sh (.int beg)), some (.sh (.int len)), some (.sh (.tuple [.int r0, .int r1])), x5, x6] = some (.nx [s0, some (.sh (.str (axS hi))), some (.sh (.int beg)), some (.sh (.int len)), some (.sh (.tuple [.int r0, .int r1])), x5', x6'])) ∨
    ((xs.all fun x => decide (beg + r0 ≤ x.2.1) && (decide (x.2.1 + x.2.2 ≤ beg + len - r1) && winV n hi x.1 x.2.1 x.2.2)) = false ∧ forD (bTp [(bNm 5), (bNm 6)]) (B_is_within_1 R) (xs.map fun x => .tuple [bxD n x.1, prD x.2]) [s0, some (.sh (.str (axS hi))), some (.sh (.int beg)), some (.sh (.int len)), some (.sh (.tuple [.int r0, .int r1])), x5, x6] = some (.rt (.bool false)))
  | [], x5, x6, _ => .inl ⟨rfl, x5, x6, rfl⟩
  | x :: xs, x5, x6, h => by
    have r := hR x (h x List.mem_cons_self)
    have ih := within1 R P hR (s0 := s0) (beg := beg) (len := len) (r0 := r0) (r1 := r1) xs (some (.sh (bxD n x.1))) (some (.sh (prD x.2))) fun y q => h y (List.mem_cons_of_mem _ q)
    have q0 := pr0 x.2
    have q1 := pr1 x.2
    have a0 : atI [PyData.int r0, .int r1] 0 = some (.int r0) := rfl
    have a1 : atI [PyData.int r0, .int r1] 1 = some (.int r1) := rfl
    rw [List.map_cons, forD_c, List.all_cons]
    generalize bxD n x.1 = B at *
    generalize prD x.2 = PD at *
    by_cases c1 : beg + r0 ≤ x.2.1
    · by_cases c2 : x.2.1 + x.2.2 ≤ beg + len - r1
      · have d1 : ¬ (x.2.1 < beg + r0) := by omega
        have d2 : ¬ (beg + len - r1 < x.2.1 + x.2.2) := by omega
        cases hw : winV n hi x.1 x.2.1 x.2.2 with
        | true =>
          rw [hw] at r
          have st : (bTp [(bNm 5), (bNm 6)] (.tuple [B, PD]) [s0, some (.sh (.str (axS hi))), some (.sh (.int beg)), some (.sh (.int len)), some (.sh (.tuple [.int r0, .int r1])), x5, x6]).bind (fun e1 => nextFl (B_is_within_1 R e1) (forD (bTp [(bNm 5), (bNm 6)]) (B_is_within_1 R) (xs.map fun x => .tuple [bxD n x.1, prD x.2]))) = forD (bTp [(bNm 5), (bNm 6)]) (B_is_within_1 R) (xs.map fun x => .tuple [bxD n x.1, prD x.2]) [s0, some (.sh (.str (axS hi))), some (.sh (.int beg)), some (.sh (.int len)), some (.sh (.tuple [.int r0, .int r1])), some (.sh B), some (.sh PD)] := by
            generalize (xs.map fun x => PyData.tuple [bxD n x.1, prD x.2]) = XS at *
            simp -implicitDefEqProofs [B_is_within_1, q0, q1, a0, a1, d1, d2, r]
          rw [st]
          simp only [c1, c2, decide_true, Bool.true_and]
          exact ih
        | false =>
          rw [hw] at r
          right
          refine ⟨by simp, ?_⟩
          generalize (xs.map fun x => PyData.tuple [bxD n x.1, prD x.2]) = XS at *
          simp -implicitDefEqProofs [B_is_within_1, q0, q1, a0, a1, d1, d2, r]
      · right
        have d1 : ¬ (x.2.1 < beg + r0) := by omega
        have d2 : beg + len - r1 < x.2.1 + x.2.2 := by omega
        refine ⟨by simp [c2], ?_⟩
        generalize (xs.map fun x => PyData.tuple [bxD n x.1, prD x.2]) = XS at *
        simp -implicitDefEqProofs [B_is_within_1, q0, q1, a0, a1, d1, d2]
    · right
      have d1 : x.2.1 < beg + r0 := by omega
      refine ⟨by simp [c1], ?_⟩
      generalize (xs.map fun x => PyData.tuple [bxD n x.1, prD x.2]) = XS at *
      simp -implicitDefEqProofs [B_is_within_1, q0, q1, a0, a1, d1]
theorem within_eq : ∀ (n m : Nat) (hi : Bool) (b : Bx n) (beg len : Int), n ≤ m → n ≤ 7 → Gd n b → len ≤ 2 ^ 40 → M_is_within m [bxD n b, .str (axS hi), .int beg, .int len] = some (.bool (winV n hi b beg len)) := by
  intro n
  induction n with
  | zero => intro m hi b; exact nomatch b
  | succ n ih =>
    intro m hi b beg len hm hn hg hl
    obtain ⟨m, rfl⟩ : ∃ j, m = j + 1 := ⟨m - 1, by omega⟩
    have i0 := bx_i0 b
    have kl := knd_lf b
    have kr := knd_rm b
    have bi := boxesin_eq b
    have in1 := inner_eq (hi := hi) (beg := beg) (len := len) (show n ≤ 6 by omega) hg hl
    have lf := lf_in (b := b)
    have ll1 := lineV_le (hi := hi) (beg := beg) (show n ≤ 6 by omega) hg hl
    have gin := gd_in hg
    have hrm : isRm b = true → M_rims_of [bxD (n + 1) b, .str (axS hi)] = some (.tuple [.int (rmsV hi b).1, .int (rmsV hi b).2]) := fun q => by
      match (b : BxF (Bx n)), q with
      | .rim nm a b' c d p, _ =>
        rw [rimsof_eq hi]
        cases hi <;> rfl
      | .leaf _ _ _, q => cases q
      | .line _ _ _ _, q => cases q
      | .pile _ _, q => cases q
    have hrn : isRm b = false → rmsV hi b = (0, 0) := fun q => by
      match (b : BxF (Bx n)), q with
      | .rim _ _ _ _ _ _, q => cases q
      | .leaf _ _ _, _ => rfl
      | .line _ _ _ _, _ => rfl
      | .pile _ _, _ => rfl
    have hW : winV (n + 1) hi b beg len = ((inB b).zip (lineV hi b beg len)).all fun x => decide (beg + (rmsV hi b).1 ≤ x.2.1) && (decide (x.2.1 + x.2.2 ≤ beg + len - (rmsV hi b).2) && winV n hi x.1 x.2.1 x.2.2) := rfl
    rw [hW]
    generalize lineV hi b beg len = L1 at *
    have hM : M_is_within (m + 1) = runF 7 (D_is_within (M_is_within m)) := rfl
    rw [hM]
    have zz := z2L_zip (bxD n) prD (inB b) L1
    have W := fun (r0 r1 : Int) => within1 (hi := hi) (M_is_within m) (fun x => Gd n x.1 ∧ x.2.2 ≤ 2 ^ 40) (fun x hx => ih m hi x.1 _ _ (by omega) (by omega) hx.1 hx.2) (s0 := some (.sh (bxD (n + 1) b))) (beg := beg) (len := len) (r0 := r0) (r1 := r1) ((inB b).zip L1) none none (fun x hx => by
      obtain ⟨h1, h2⟩ := List.of_mem_zip hx
      exact ⟨gin _ h1, (ll1 _ h2).2⟩)
    generalize hZZ : ((inB b).zip L1).map (fun x => PyData.tuple [bxD n x.1, prD x.2]) = ZZ at *
    cases hlf : isLf b with
    | true =>
      rw [hlf] at kl
      have hr0 : isRm b = false := by
        match (b : BxF (Bx n)), hlf with
        | .leaf _ _ _, _ => rfl
        | .rim _ _ _ _ _ _, q => cases q
        | .line _ _ _ _, q => cases q
        | .pile _ _, q => cases q
      rw [hr0] at kr
      rw [lf hlf]
      generalize bxD (n + 1) b = B at *
      simp -implicitDefEqProofs [D_is_within, startE, i0, kr, kl]
    | false =>
      rw [hlf] at kl
      cases hr : isRm b with
      | true =>
        rw [hr] at kr
        have rm := hrm hr
        generalize rmsV hi b = rr at *
        obtain ⟨r0, r1⟩ := rr
        have W := W r0 r1
        generalize (inB b).map (bxD n) = PB at *
        generalize L1.map prD = PL at *
        generalize bxD (n + 1) b = B at *
        rcases W with ⟨w1, x5, x6, w2⟩ | ⟨w1, w2⟩
        · simp only at w1 ⊢
          rw [w1]
          simp -implicitDefEqProofs [D_is_within, startE, i0, kr, kl, rm, bi, in1, zz, w2]
        · simp only at w1 ⊢
          rw [w1]
          simp -implicitDefEqProofs [D_is_within, startE, i0, kr, kl, rm, bi, in1, zz, w2]
      | false =>
        rw [hr] at kr
        have hrr := hrn hr
        have W := W 0 0
        rw [hrr]
        generalize (inB b).map (bxD n) = PB at *
        generalize L1.map prD = PL at *
        generalize bxD (n + 1) b = B at *
        rcases W with ⟨w1, x5, x6, w2⟩ | ⟨w1, w2⟩
        · simp only at w1 ⊢
          rw [w1]
          simp -implicitDefEqProofs [D_is_within, startE, i0, kr, kl, bi, in1, zz, w2]
        · simp only at w1 ⊢
          rw [w1]
          simp -implicitDefEqProofs [D_is_within, startE, i0, kr, kl, bi, in1, zz, w2]
theorem fits_eq {n : Nat} {b : Bx n} {w h : Int} (hn : n ≤ 7) (hg : Gd n b) (hw : w ≤ 2 ^ 40) (hh : h ≤ 2 ^ 40) : M_fits [bxD n b, .int w, .int h] = some (.bool (winV n false b 0 w && winV n true b 0 h)) := by
  have h1 := within_eq n 12 false b 0 w (by omega) hn hg hw
  have h2 := within_eq n 12 true b 0 h (by omega) hn hg hh
  simp only [axS, if_true, Bool.false_eq_true, if_false] at h1 h2
  generalize bxD n b = B at *
  cases hc : winV n false b 0 w with
  | true =>
    rw [hc] at h1
    simp -implicitDefEqProofs [M_fits, D_fits, startE, h1, h2]
  | false =>
    rw [hc] at h1
    simp -implicitDefEqProofs [M_fits, D_fits, startE, h1]
def holds (x y : Int) (r : Row) : Bool := (decide (r.2.1 ≤ x) && decide (x < r.2.1 + r.2.2.2.1)) && (decide (r.2.2.1 ≤ y) && decide (y < r.2.2.1 + r.2.2.2.2))
def touV (rs : List Row) (x y : Int) : List Str := (rs.filter (holds x y)).map fun r => r.1
theorem touched1 {s0 s1 s2 : Option Sl} {x y : Int} : ∀ (rs : List Row) (acc : List Str) (a b c d e : Option Sl), acc.length + rs.length ≤ 100000 → ∃ a' b' c' d' e', forD (bTp [(bNm 6), (bNm 7), (bNm 8), (bNm 9), (bNm 10)]) B_touched_1 (rs.map rowD) [s0, s1, s2, some (.sh (.int x)), some (.sh (.int y)), some (.ow (acc.map PyData.str)), a, b, c, d, e] = some (.nx [s0, s1, s2, some (.sh (.int x)), some (.sh (.int y)), some (.ow ((acc ++ touV rs x y).map PyData.str)), a', b', c', d', e'])
  | [], acc, a, b, c, d, e, _ => ⟨a, b, c, d, e, by rw [List.map_nil, forD_n]; simp [touV]⟩
  | r :: rs, acc, a, b, c, d, e, hl => by
    rw [List.length_cons] at hl
    have rd : rowD r = .tuple [.str r.1, .int r.2.1, .int r.2.2.1, .int r.2.2.2.1, .int r.2.2.2.2] := rfl
    have hsm : sml (acc.length + 1) = true := sml_of (by omega)
    cases hh : holds x y r with
    | true =>
      obtain ⟨a', b', c', d', e', ih⟩ := touched1 (s0 := s0) (s1 := s1) (s2 := s2) (x := x) (y := y) rs (acc ++ [r.1]) (some (.sh (.str r.1))) (some (.sh (.int r.2.1))) (some (.sh (.int r.2.2.1))) (some (.sh (.int r.2.2.2.1))) (some (.sh (.int r.2.2.2.2))) (by simp; omega)
      have et : touV (r :: rs) x y = r.1 :: touV rs x y := by simp [touV, hh]
      refine ⟨a', b', c', d', e', ?_⟩
      rw [List.append_assoc, List.singleton_append] at ih
      rw [et, ← ih, List.map_cons, forD_c, rd]
      simp only [holds, Bool.and_eq_true, decide_eq_true_eq] at hh
      obtain ⟨⟨h1, h2⟩, h3, h4⟩ := hh
      generalize rs.map rowD = RS at *
      simp -implicitDefEqProofs [B_touched_1, h1, h2, h3, h4, hsm]
    | false =>
      obtain ⟨a', b', c', d', e', ih⟩ := touched1 (s0 := s0) (s1 := s1) (s2 := s2) (x := x) (y := y) rs acc (some (.sh (.str r.1))) (some (.sh (.int r.2.1))) (some (.sh (.int r.2.2.1))) (some (.sh (.int r.2.2.2.1))) (some (.sh (.int r.2.2.2.2))) (by omega)
      have et : touV (r :: rs) x y = touV rs x y := by simp [touV, hh]
      refine ⟨a', b', c', d', e', ?_⟩
      rw [et, ← ih, List.map_cons, forD_c, rd]
      unfold holds at hh
      generalize rs.map rowD = RS at *
      by_cases c1 : r.2.1 ≤ x
      · by_cases c2 : x < r.2.1 + r.2.2.2.1
        · by_cases c3 : r.2.2.1 ≤ y
          · by_cases c4 : y < r.2.2.1 + r.2.2.2.2
            · simp [c1, c2, c3, c4] at hh
            · simp -implicitDefEqProofs [B_touched_1, c1, c2, c3, c4]
          · simp -implicitDefEqProofs [B_touched_1, c1, c2, c3]
        · simp -implicitDefEqProofs [B_touched_1, c1, c2]
      · simp -implicitDefEqProofs [B_touched_1, c1]
theorem touched_eq {n : Nat} {b : Bx n} {w h x y : Int} (hn : n ≤ 7) (hg : Gd n b) (hw : w ≤ 2 ^ 40) (hh : h ≤ 2 ^ 40) : M_touched [bxD n b, .int w, .int h, .int x, .int y] = some (.tuple ((touV (plcV n b 0 0 w h) x y).map PyData.str)) := by
  have p := places_eq (w := w) (h := h) hn hg hw hh
  have pl := plc_len n b 0 0 w h hg
  have cp := capN_le hn
  obtain ⟨a', b', c', d', e', l⟩ := touched1 (s0 := some (.sh (bxD n b))) (s1 := some (.sh (.int w))) (s2 := some (.sh (.int h))) (x := x) (y := y) (plcV n b 0 0 w h) [] none none none none none (by simp; omega)
  rw [List.map_nil, List.nil_append] at l
  generalize (touV (plcV n b 0 0 w h) x y).map PyData.str = TT at *
  generalize (plcV n b 0 0 w h).map rowD = RR at *
  generalize bxD n b = B at *
  simp -implicitDefEqProofs [M_touched, D_touched, startE, p, l]

theorem shp_succ : ∀ (n : Nat) (d : D), shp n d = true → shp (n + 1) d = true
  | n, .none, _ => by cases n <;> rfl
  | n, .bool _, _ => by cases n <;> rfl
  | n, .int _, _ => by cases n <;> rfl
  | n, .str x, h => by cases n <;> exact h
  | 0, .list xs, h => by simp [shp] at h
  | 0, .tuple xs, h => by simp [shp] at h
  | n + 1, .list xs, h => by
    have h' : ∀ x ∈ xs, shp n x = true := by simpa [shp] using h
    show xs.all (shp (n + 1)) = true
    exact List.all_eq_true.mpr fun x hx => shp_succ n x (h' x hx)
  | n + 1, .tuple xs, h => by
    have h' : ∀ x ∈ xs, shp n x = true := by simpa [shp] using h
    show xs.all (shp (n + 1)) = true
    exact List.all_eq_true.mpr fun x hx => shp_succ n x (h' x hx)
  | 0, .dict xs, h => by simp [shp] at h
  | n + 1, .dict xs, h => by simp [shp] at h
theorem shp_mono {n m : Nat} {d : D} (h : shp n d = true) (hm : n ≤ m) : shp m d = true := by
  obtain ⟨k, rfl⟩ := Nat.exists_eq_add_of_le hm
  clear hm
  induction k with
  | zero => exact h
  | succ k ih => exact shp_succ _ _ ih
theorem shp_bx : ∀ (n : Nat) (b : Bx n), (∀ x ∈ nmsV n b, PyData.strOk x = true) → shp (2 * n + 1) (bxD n b) = true
  | 0, b, _ => nomatch b
  | n + 1, b, h => by
    have hn : PyData.strOk (bxN (n + 1) b) = true := h _ (by rw [nmsV]; exact List.mem_cons_self)
    have hp : ∀ p ∈ inB b, shp (2 * n + 1) (bxD n p) = true := fun p hp => shp_bx n p fun x hx => h x (by
      rw [nmsV]
      exact List.mem_cons_of_mem _ (List.mem_flatMap.mpr ⟨p, hp, hx⟩))
    have st : ∀ x : Str, PyData.strOk x = true → ∀ k, shp k (.str x) = true := fun x hx k => by cases k <;> exact hx
    have it : ∀ (x : Int) k, shp k (.int x) = true := fun x k => by cases k <;> rfl
    have sp : ∀ (s : Spn), shp (2 * n + 1 + 1) (spD s) = true := fun s => shp_mono (shp_sp s) (by omega)
    have e : 2 * (n + 1) + 1 = 2 * n + 1 + 1 + 1 := by omega
    rw [e]
    have tp : ∀ ps : List (Bx n), (∀ p ∈ ps, shp (2 * n + 1) (bxD n p) = true) → shp (2 * n + 1 + 1) (.tuple (ps.map (bxD n))) = true := fun ps q => by
      show (ps.map (bxD n)).all (shp (2 * n + 1)) = true
      rw [List.all_eq_true]
      intro x hx
      obtain ⟨p, hp, rfl⟩ := List.mem_map.mp hx
      exact q p hp
    match (b : BxF (Bx n)), hn, hp with
    | .leaf nm w h, hn, hp =>
      show ([.str "leaf", .str nm, spD w, spD h] : List D).all (shp (2 * n + 1 + 1)) = true
      simp only [List.all_cons, List.all_nil, st nm hn, sp, st "leaf" (by decide +kernel)]
      rfl
    | .line c nm g ps, hn, hp =>
      have hk : PyData.strOk (kindS c) = true := by cases c <;> decide +kernel
      show ([.str (kindS c), .str nm, .int g, .tuple (ps.map (bxD n))] : List D).all (shp (2 * n + 1 + 1)) = true
      simp only [List.all_cons, List.all_nil, st nm hn, st _ hk, it, tp ps hp]
      rfl
    | .pile nm ps, hn, hp =>
      show ([.str "pile", .str nm, .tuple (ps.map (bxD n))] : List D).all (shp (2 * n + 1 + 1)) = true
      simp only [List.all_cons, List.all_nil, st nm hn, st "pile" (by decide +kernel), tp ps hp]
      rfl
    | .rim nm a b' c d p, hn, hp =>
      show ([.str "rim", .str nm, .int a, .int b', .int c, .int d, bxD n p] : List D).all (shp (2 * n + 1 + 1)) = true
      have := shp_mono (hp p (by simp [inB])) (show 2 * n + 1 ≤ 2 * n + 1 + 1 by omega)
      simp only [List.all_cons, List.all_nil, st nm hn, st "rim" (by decide +kernel), it, this]
      rfl

/-! turned over -/
def trnV : (n : Nat) → Bx n → Bx n
  | 0, b => nomatch b
  | n + 1, b => match (b : BxF (Bx n)) with
    | .leaf nm w h => (BxF.leaf nm h w : BxF (Bx n))
    | .line c nm g ps => (BxF.line (!c) nm g (ps.map (trnV n)) : BxF (Bx n))
    | .pile nm ps => (BxF.pile nm (ps.map (trnV n)) : BxF (Bx n))
    | .rim nm a b c d p => (BxF.rim nm b a d c (trnV n p) : BxF (Bx n))
theorem trn_in {n : Nat} (b : Bx (n + 1)) : inB (trnV (n + 1) b) = (inB b).map (trnV n) := by
  match (b : BxF (Bx n)) with
  | .leaf _ _ _ => rfl
  | .line _ _ _ _ => rfl
  | .pile _ _ => rfl
  | .rim _ _ _ _ _ _ => rfl
theorem trn_nm {n : Nat} (b : Bx (n + 1)) : bxN (n + 1) (trnV (n + 1) b) = bxN (n + 1) b := by
  match (b : BxF (Bx n)) with
  | .leaf _ _ _ => rfl
  | .line _ _ _ _ => rfl
  | .pile _ _ => rfl
  | .rim _ _ _ _ _ _ => rfl
theorem trn_trn : ∀ (n : Nat) (b : Bx n), trnV n (trnV n b) = b
  | 0, b => nomatch b
  | n + 1, b => by
    have mm : ∀ ps : List (Bx n), (ps.map (trnV n)).map (trnV n) = ps := fun ps => by
      rw [List.map_map]
      have : (trnV n ∘ trnV n) = id := funext fun p => trn_trn n p
      rw [this, List.map_id]
    match (b : BxF (Bx n)) with
    | .leaf _ _ _ => rfl
    | .line c nm g ps =>
      show (BxF.line (!!c) nm g ((ps.map (trnV n)).map (trnV n)) : BxF (Bx n)) = _
      rw [mm, Bool.not_not]
    | .pile nm ps =>
      show (BxF.pile nm ((ps.map (trnV n)).map (trnV n)) : BxF (Bx n)) = _
      rw [mm]
    | .rim nm a b c d p =>
      show (BxF.rim nm a b c d (trnV n (trnV n p)) : BxF (Bx n)) = _
      rw [trn_trn n p]
theorem trn_gd : ∀ (n : Nat) (b : Bx n), Gd n b → Gd n (trnV n b)
  | 0, b, _ => nomatch b
  | n + 1, b, h => by
    have mm : ∀ ps : List (Bx n), (∀ p ∈ ps, Gd n p) → ∀ p ∈ ps.map (trnV n), Gd n p := fun ps hp p q => by
      obtain ⟨p', h1, rfl⟩ := List.mem_map.mp q
      exact trn_gd n p' (hp p' h1)
    match (b : BxF (Bx n)), h with
    | .leaf _ _ _, h => exact ⟨h.2, h.1⟩
    | .line c nm g ps, h => exact ⟨h.1, h.2.1, by rw [List.length_map]; exact h.2.2.1, by rw [List.length_map]; exact h.2.2.2.1, mm ps h.2.2.2.2⟩
    | .pile nm ps, h => exact ⟨by rw [List.length_map]; exact h.1, by rw [List.length_map]; exact h.2.1, mm ps h.2.2⟩
    | .rim nm a b c d p, h => exact ⟨h.2.1, h.1, h.2.2.2.1, h.2.2.1, trn_gd n p h.2.2.2.2⟩
theorem trn_spn : ∀ (n : Nat) (hi : Bool) (b : Bx n), spnV n hi (trnV n b) = spnV n (!hi) b
  | 0, _, b => nomatch b
  | n + 1, hi, b => by
    have mm : ∀ ps : List (Bx n), (ps.map (trnV n)).map (spnV n hi) = ps.map (spnV n (!hi)) := fun ps => by
      rw [List.map_map]
      exact List.map_congr_left fun p _ => trn_spn n hi p
    match (b : BxF (Bx n)) with
    | .leaf _ _ _ => cases hi <;> rfl
    | .line c nm g ps =>
      show (if (!c) = hi then jnV true (g * (((ps.map (trnV n)).length : Int) - 1)) ((ps.map (trnV n)).map (spnV n hi)) else jnV false 0 ((ps.map (trnV n)).map (spnV n hi))) = (if c = (!hi) then jnV true (g * ((ps.length : Int) - 1)) (ps.map (spnV n (!hi))) else jnV false 0 (ps.map (spnV n (!hi))))
      rw [mm, List.length_map]
      cases c <;> cases hi <;> rfl
    | .pile nm ps =>
      show jnV false 0 ((ps.map (trnV n)).map (spnV n hi)) = jnV false 0 (ps.map (spnV n (!hi)))
      rw [mm]
    | .rim nm a b c d p =>
      show moreV (spnV n hi (trnV n p)) (if hi = true then a + c else b + d) = moreV (spnV n (!hi) p) (if (!hi) = true then b + d else a + c)
      rw [trn_spn n hi p]
      cases hi <;> rfl
theorem trn_line {n : Nat} (hi : Bool) (b : Bx (n + 1)) (beg len : Int) : lineV hi (trnV (n + 1) b) beg len = lineV (!hi) b beg len := by
  have mm : ∀ ps : List (Bx n), (ps.map (trnV n)).map (spnV n hi) = ps.map (spnV n (!hi)) := fun ps => by
    rw [List.map_map]
    exact List.map_congr_left fun p _ => trn_spn n hi p
  have m2 : ∀ ps : List (Bx n), ((ps.map (trnV n)).map fun p => (beg, takV (spnV n hi p) len)) = ps.map fun p => (beg, takV (spnV n (!hi) p) len) := fun ps => by
    rw [List.map_map]
    exact List.map_congr_left fun p _ => by show (beg, takV (spnV n hi (trnV n p)) len) = _; rw [trn_spn n hi p]
  match (b : BxF (Bx n)) with
  | .leaf _ _ _ => rfl
  | .line c nm g ps =>
    show (if (!c) = hi then begs g beg (lenS ((ps.map (trnV n)).map (spnV n hi)) g len) else (ps.map (trnV n)).map fun p => (beg, takV (spnV n hi p) len)) = (if c = (!hi) then begs g beg (lenS (ps.map (spnV n (!hi))) g len) else ps.map fun p => (beg, takV (spnV n (!hi) p) len))
    rw [mm, m2]
    cases c <;> cases hi <;> rfl
  | .pile nm ps => exact m2 ps
  | .rim nm a b c d p =>
    show [(beg + (if hi = true then a else b), takV (spnV n hi (trnV n p)) (max 0 (len - (if hi = true then a + c else b + d))))] = [(beg + (if (!hi) = true then b else a), takV (spnV n (!hi) p) (max 0 (len - (if (!hi) = true then b + d else a + c))))]
    rw [trn_spn n hi p]
    cases hi <;> rfl
def swR (r : Row) : Row := (r.1, r.2.2.1, r.2.1, r.2.2.2.2, r.2.2.2.1)
theorem zip_sw {α β γ : Type} (f : α → α) : ∀ (xs : List α) (ys : List β) (zs : List γ), (xs.map f).zip (ys.zip zs) = (xs.zip (zs.zip ys)).map fun x => (f x.1, x.2.2, x.2.1)
  | [], _, _ => by simp
  | _ :: _, [], zs => by cases zs <;> simp
  | _ :: _, _ :: _, [] => by simp
  | x :: xs, y :: ys, z :: zs => by
    simp only [List.map_cons, List.zip_cons_cons, zip_sw f xs ys zs]
theorem trn_plc : ∀ (n : Nat) (b : Bx n) (l u w h : Int), plcV n (trnV n b) u l h w = (plcV n b l u w h).map swR
  | 0, b, _, _, _, _ => nomatch b
  | n + 1, b, l, u, w, h => by
    rw [plcV, plcV, trn_nm, trn_in, trn_line, trn_line, List.map_cons, List.map_flatMap, Bool.not_false, Bool.not_true, zip_sw, List.flatMap_map]
    congr 1
    exact flatMap_congr' fun x _ => trn_plc n x.1 _ _ _ _
theorem trn_rms {n : Nat} (hi : Bool) (b : Bx (n + 1)) : rmsV hi (trnV (n + 1) b) = rmsV (!hi) b := by
  match (b : BxF (Bx n)) with
  | .leaf _ _ _ => rfl
  | .line _ _ _ _ => rfl
  | .pile _ _ => rfl
  | .rim _ _ _ _ _ _ => cases hi <;> rfl
theorem zip_mapl {α β : Type} (f : α → α) : ∀ (xs : List α) (ys : List β), (xs.map f).zip ys = (xs.zip ys).map fun x => (f x.1, x.2)
  | [], _ => by simp
  | _ :: _, [] => by simp
  | x :: xs, y :: ys => by simp only [List.map_cons, List.zip_cons_cons, zip_mapl f xs ys]
theorem trn_win : ∀ (n : Nat) (hi : Bool) (b : Bx n) (beg len : Int), winV n hi (trnV n b) beg len = winV n (!hi) b beg len
  | 0, _, b, _, _ => nomatch b
  | n + 1, hi, b, beg, len => by
    rw [winV, winV, trn_in, trn_line, trn_rms, zip_mapl, List.all_map]
    congr 1
    funext x
    simp only [Function.comp]
    rw [trn_win n hi x.1]
theorem trn_names : ∀ (n : Nat) (b : Bx n), nmsV n (trnV n b) = nmsV n b
  | 0, b => nomatch b
  | n + 1, b => by
    rw [nmsV, nmsV, trn_nm, trn_in, List.flatMap_map]
    congr 1
    exact flatMap_congr' fun x _ => trn_names n x
theorem trn_tou (rs : List Row) (x y : Int) : touV (rs.map swR) y x = touV rs x y := by
  unfold touV
  rw [List.filter_map, List.map_map]
  have : (holds y x ∘ swR) = holds x y := funext fun r => by
    simp only [Function.comp, holds, swR]
    exact Bool.and_comm _ _
  rw [this]
  rfl

theorem cut4m (a b c d : D) : cutD (.tuple [a, b, c, d]) none (some (-1)) = some (.tuple [a, b, c]) := rfl
theorem cut3m (a b c : D) : cutD (.tuple [a, b, c]) none (some (-1)) = some (.tuple [a, b]) := rfl
theorem cut7 (a b c d e f g : D) : cutD (.tuple [a, b, c, d, e, f, g]) none (some 6) = some (.tuple [a, b, c, d, e, f]) := rfl
theorem cut41 (a b c d : D) : cutD (.tuple [a, b, c, d]) (some 1) none = some (.tuple [b, c, d]) := rfl
theorem cut31 (a b c : D) : cutD (.tuple [a, b, c]) (some 1) none = some (.tuple [b, c]) := rfl
theorem ad (xs ys : List D) (h : xs.length + ys.length ≤ 50) : addD (.tuple xs) (.tuple ys) = some (.tuple (xs ++ ys)) := add_t (by omega)
/-- a box with others in it -/
theorem withb_leaf {nm w h x : D} : M_with_boxes [.tuple [.str "leaf", nm, w, h], x] = some (.tuple [.str "leaf", nm, w, h]) := by
  have i0 : atI [PyData.str "leaf", nm, w, h] 0 = some (.str "leaf") := rfl
  simp -implicitDefEqProofs [M_with_boxes, D_with_boxes, startE, i0]
theorem withb_line {c : Bool} {nm g ps : D} {qs : List D} : M_with_boxes [.tuple [.str (kindS c), nm, g, ps], .list qs] = some (.tuple [.str (kindS c), nm, g, .tuple qs]) := by
  have i0 : ixD (.tuple [PyData.str (kindS c), nm, g, ps]) (.int 0) = some (.str (kindS c)) := rfl
  have kr : eqD (.str (kindS c)) (.str "rim") = some (.bool false) := by cases c <;> simp only [kindS, if_true, Bool.false_eq_true, if_false] <;> simp -implicitDefEqProofs
  have kl : eqD (.str (kindS c)) (.str "leaf") = some (.bool false) := by cases c <;> simp only [kindS, if_true, Bool.false_eq_true, if_false] <;> simp -implicitDefEqProofs
  have cu := cut4m (.str (kindS c)) nm g ps
  have a := ad [.str (kindS c), nm, g] [.tuple qs] (by simp)
  rw [List.cons_append, List.cons_append, List.cons_append, List.nil_append] at a
  generalize PyData.tuple [.str (kindS c), nm, g, ps] = B at *
  simp -implicitDefEqProofs [M_with_boxes, D_with_boxes, startE, i0, kr, kl, cu, a]
theorem withb_pile {nm ps : D} {qs : List D} : M_with_boxes [.tuple [.str "pile", nm, ps], .list qs] = some (.tuple [.str "pile", nm, .tuple qs]) := by
  have i0 : ixD (.tuple [PyData.str "pile", nm, ps]) (.int 0) = some (.str "pile") := rfl
  have cu := cut3m (.str "pile") nm ps
  have a := ad [.str "pile", nm] [.tuple qs] (by simp)
  rw [List.cons_append, List.cons_append, List.nil_append] at a
  generalize PyData.tuple [.str "pile", nm, ps] = B at *
  simp -implicitDefEqProofs [M_with_boxes, D_with_boxes, startE, i0, cu, a]
theorem withb_rim {nm a b c d p q : D} : M_with_boxes [.tuple [.str "rim", nm, a, b, c, d, p], .list [q]] = some (.tuple [.str "rim", nm, a, b, c, d, q]) := by
  have i0 : ixD (.tuple [PyData.str "rim", nm, a, b, c, d, p]) (.int 0) = some (.str "rim") := rfl
  have cu := cut7 (.str "rim") nm a b c d p
  have aa := ad [.str "rim", nm, a, b, c, d] [q] (by simp)
  rw [List.cons_append, List.cons_append, List.cons_append, List.cons_append, List.cons_append, List.cons_append, List.nil_append] at aa
  have q0 : atI [q] 0 = some q := rfl
  generalize PyData.tuple [.str "rim", nm, a, b, c, d, p] = B at *
  simp -implicitDefEqProofs [M_with_boxes, D_with_boxes, startE, i0, cu, q0, aa]
theorem other_line (c : Bool) : dgetG G_OTHER (.str (kindS c)) (.str (kindS c)) = some (.str (kindS (!c))) := by
  have h1 : lookT G_OTHER "row" = some "col" := by decide +kernel
  have h2 : lookT G_OTHER "col" = some "row" := by decide +kernel
  cases c
  · unfold dgetG kindS; simp only [Bool.false_eq_true, if_false]; rw [h1]; rfl
  · unfold dgetG kindS; simp only [if_true]; rw [h2]; rfl
theorem other_pile : dgetG G_OTHER (.str "pile") (.str "pile") = some (.str "pile") := by
  have h1 : lookT G_OTHER "pile" = none := by decide +kernel
  unfold dgetG; simp only; rw [h1]
theorem turned_eq : ∀ (n m : Nat) (b : Bx n), n ≤ m → Gd n b → M_turned m [bxD n b] = some (bxD n (trnV n b)) := by
  intro n
  induction n with
  | zero => intro m b; exact nomatch b
  | succ n ih =>
    intro m b hm hg
    obtain ⟨m, rfl⟩ : ∃ j, m = j + 1 := ⟨m - 1, by omega⟩
    have hM : M_turned (m + 1) = runF 4 (D_turned (M_turned m)) := rfl
    rw [hM]
    have bi := boxesin_eq b
    have gin := gd_in hg
    have i4 := inB_le hg
    have parts : ∀ (ps : List (Bx n)), (∀ p ∈ ps, Gd n p) → ∀ e : DEnv, e.length = 4 → lcGo (bNm 3) yesT (C_turned_1 (M_turned m)) e (ps.map (bxD n)) = some ((ps.map (trnV n)).map (bxD n)) := fun ps hps e he => by
      rw [List.map_map]
      refine lcGo_map (bxD n) (bxD n ∘ trnV n) ps fun p hp => ⟨_, rfl, ?_⟩
      have h3 : 3 < e.length := by omega
      have := ih m p (by omega) (hps p hp)
      simp -implicitDefEqProofs [C_turned_1, h3, this]
    match (b : BxF (Bx n)), hg, bi, gin, i4 with
    | .leaf nm w h, hg, bi, gin, i4 =>
      have e : bxD (n + 1) (BxF.leaf nm w h : BxF (Bx n)) = .tuple [.str "leaf", .str nm, spD w, spD h] := rfl
      have e2 : bxD (n + 1) (trnV (n + 1) (BxF.leaf nm w h : BxF (Bx n))) = .tuple [.str "leaf", .str nm, spD h, spD w] := rfl
      have bi' : M_boxes_in [.tuple [.str "leaf", .str nm, spD w, spD h]] = some (.tuple []) := bi
      have i0 : ixD (.tuple [PyData.str "leaf", .str nm, spD w, spD h]) (.int 0) = some (.str "leaf") := rfl
      have i1 : ixD (.tuple [PyData.str "leaf", .str nm, spD w, spD h]) (.int 1) = some (.str nm) := rfl
      have i2 : ixD (.tuple [PyData.str "leaf", .str nm, spD w, spD h]) (.int 2) = some (spD w) := rfl
      have i3 : ixD (.tuple [PyData.str "leaf", .str nm, spD w, spD h]) (.int 3) = some (spD h) := rfl
      have s0 : sml 0 = true := rfl
      rw [e, e2]
      generalize PyData.tuple [.str "leaf", .str nm, spD w, spD h] = B at *
      simp -implicitDefEqProofs [D_turned, startE, bi', s0, lcGo, i0, i1, i2, i3]
    | .line c nm g ps, hg, bi, gin, i4 =>
      have e : bxD (n + 1) (BxF.line c nm g ps : BxF (Bx n)) = .tuple [.str (kindS c), .str nm, .int g, .tuple (ps.map (bxD n))] := rfl
      have e2 : bxD (n + 1) (trnV (n + 1) (BxF.line c nm g ps : BxF (Bx n))) = .tuple [.str (kindS (!c)), .str nm, .int g, .tuple ((ps.map (trnV n)).map (bxD n))] := rfl
      have bi' : M_boxes_in [.tuple [.str (kindS c), .str nm, .int g, .tuple (ps.map (bxD n))]] = some (.tuple (ps.map (bxD n))) := bi
      have i0 : ixD (.tuple [PyData.str (kindS c), .str nm, .int g, .tuple (ps.map (bxD n))]) (.int 0) = some (.str (kindS c)) := rfl
      have kr : eqD (.str (kindS c)) (.str "rim") = some (.bool false) := by cases c <;> simp only [kindS, if_true, Bool.false_eq_true, if_false] <;> simp -implicitDefEqProofs
      have kl : eqD (.str (kindS c)) (.str "leaf") = some (.bool false) := by cases c <;> simp only [kindS, if_true, Bool.false_eq_true, if_false] <;> simp -implicitDefEqProofs
      have wb := withb_line (c := c) (nm := .str nm) (g := .int g) (ps := .tuple (ps.map (bxD n))) (qs := (ps.map (trnV n)).map (bxD n))
      have ot := other_line c
      have cu := cut41 (.str (kindS c)) (.str nm) (.int g) (.tuple ((ps.map (trnV n)).map (bxD n)))
      have aa := ad [.str (kindS (!c))] [.str nm, .int g, .tuple ((ps.map (trnV n)).map (bxD n))] (by simp)
      rw [List.singleton_append] at aa
      have hs : sml (ps.map (bxD n)).length = true := sml_of (by have : ps.length ≤ 4 := i4; rw [List.length_map]; omega)
      have pp := parts ps gin
      rw [e, e2]
      generalize (ps.map (trnV n)).map (bxD n) = QS at *
      generalize hB : PyData.tuple [.str (kindS c), .str nm, .int g, .tuple (ps.map (bxD n))] = B at *
      generalize ps.map (bxD n) = PS at *
      generalize hB2 : PyData.tuple [.str (kindS c), .str nm, .int g, .tuple QS] = B2 at *
      simp -implicitDefEqProofs [D_turned, startE, bi', hs, pp, i0, kl, kr, wb, ot, cu, aa]
    | .pile nm ps, hg, bi, gin, i4 =>
      have e : bxD (n + 1) (BxF.pile nm ps : BxF (Bx n)) = .tuple [.str "pile", .str nm, .tuple (ps.map (bxD n))] := rfl
      have e2 : bxD (n + 1) (trnV (n + 1) (BxF.pile nm ps : BxF (Bx n))) = .tuple [.str "pile", .str nm, .tuple ((ps.map (trnV n)).map (bxD n))] := rfl
      have bi' : M_boxes_in [.tuple [.str "pile", .str nm, .tuple (ps.map (bxD n))]] = some (.tuple (ps.map (bxD n))) := bi
      have i0 : ixD (.tuple [PyData.str "pile", .str nm, .tuple (ps.map (bxD n))]) (.int 0) = some (.str "pile") := rfl
      have wb := withb_pile (nm := .str nm) (ps := .tuple (ps.map (bxD n))) (qs := (ps.map (trnV n)).map (bxD n))
      have ot := other_pile
      have cu := cut31 (.str "pile") (.str nm) (.tuple ((ps.map (trnV n)).map (bxD n)))
      have aa := ad [.str "pile"] [.str nm, .tuple ((ps.map (trnV n)).map (bxD n))] (by simp)
      rw [List.singleton_append] at aa
      have hs : sml (ps.map (bxD n)).length = true := sml_of (by have : ps.length ≤ 4 := i4; rw [List.length_map]; omega)
      have pp := parts ps gin
      rw [e, e2]
      generalize (ps.map (trnV n)).map (bxD n) = QS at *
      generalize hB : PyData.tuple [.str "pile", .str nm, .tuple (ps.map (bxD n))] = B at *
      generalize ps.map (bxD n) = PS at *
      generalize hB2 : PyData.tuple [.str "pile", .str nm, .tuple QS] = B2 at *
      simp -implicitDefEqProofs [D_turned, startE, bi', hs, pp, i0, wb, ot, cu, aa, -e_dgetG]
    | .rim nm a b' c d p, hg, bi, gin, i4 =>
      have e : bxD (n + 1) (BxF.rim nm a b' c d p : BxF (Bx n)) = .tuple [.str "rim", .str nm, .int a, .int b', .int c, .int d, bxD n p] := rfl
      have e2 : bxD (n + 1) (trnV (n + 1) (BxF.rim nm a b' c d p : BxF (Bx n))) = .tuple [.str "rim", .str nm, .int b', .int a, .int d, .int c, bxD n (trnV n p)] := rfl
      have bi' : M_boxes_in [.tuple [.str "rim", .str nm, .int a, .int b', .int c, .int d, bxD n p]] = some (.tuple [bxD n p]) := bi
      have i0 : ixD (.tuple [PyData.str "rim", .str nm, .int a, .int b', .int c, .int d, bxD n p]) (.int 0) = some (.str "rim") := rfl
      have i1 : ixD (.tuple [PyData.str "rim", .str nm, .int a, .int b', .int c, .int d, bxD n p]) (.int 1) = some (.str nm) := rfl
      have i2 : ixD (.tuple [PyData.str "rim", .str nm, .int a, .int b', .int c, .int d, bxD n p]) (.int 2) = some (.int a) := rfl
      have i3 : ixD (.tuple [PyData.str "rim", .str nm, .int a, .int b', .int c, .int d, bxD n p]) (.int 3) = some (.int b') := rfl
      have i4' : ixD (.tuple [PyData.str "rim", .str nm, .int a, .int b', .int c, .int d, bxD n p]) (.int 4) = some (.int c) := rfl
      have i5 : ixD (.tuple [PyData.str "rim", .str nm, .int a, .int b', .int c, .int d, bxD n p]) (.int 5) = some (.int d) := rfl
      have s1 : sml 1 = true := rfl
      have pp := parts [p] (fun q hq => gin q hq)
      have p1 : [p].map (bxD n) = [bxD n p] := rfl
      have p2 : ([p].map (trnV n)).map (bxD n) = [bxD n (trnV n p)] := rfl
      rw [p1, p2] at pp
      have q0 : atI [bxD n (trnV n p)] 0 = some (bxD n (trnV n p)) := rfl
      rw [e, e2]
      generalize bxD n (trnV n p) = Q at *
      generalize hB : PyData.tuple [.str "rim", .str nm, .int a, .int b', .int c, .int d, bxD n p] = B at *
      generalize bxD n p = PB at *
      simp -implicitDefEqProofs [D_turned, startE, bi', s1, pp, i0, i1, i2, i3, i4', i5, q0]

theorem names1 {n : Nat} (R : List D → Option D) {s0 : Option Sl} {k : Nat} (P : Bx n → Prop) (hR : ∀ p, P p → R [bxD n p] = some (.tuple ((nmsV n p).map PyData.str)) ∧ (nmsV n p).length ≤ k) :
    ∀ (ps : List (Bx n)) (acc : List Str) (x : Option Sl), (∀ p ∈ ps, P p) → acc.length + k * ps.length ≤ 100000 → ∃ x', forD (bNm 2) (B_names_in_1 R) (ps.map (bxD n)) [s0, some (.sh (.tuple (acc.map PyData.str))), x] = some (.nx [s0, some (.sh (.tuple ((acc ++ ps.flatMap (nmsV n)).map PyData.str))), x'])
  | [], acc, x, _, _ => ⟨x, by rw [List.map_nil, forD_n, List.flatMap_nil, List.append_nil]⟩
  | p :: ps, acc, x, h, hl => by
    obtain ⟨r, hk⟩ := hR p (h p List.mem_cons_self)
    rw [List.length_cons, Nat.mul_succ] at hl
    obtain ⟨x', hh⟩ := names1 R (s0 := s0) (k := k) P hR ps (acc ++ nmsV n p) (some (.sh (bxD n p))) (fun y q => h y (List.mem_cons_of_mem _ q)) (by rw [List.length_append]; omega)
    refine ⟨x', ?_⟩
    rw [List.flatMap_cons, ← List.append_assoc, ← hh, List.map_cons, forD_c]
    have a : addD (.tuple (acc.map PyData.str)) (.tuple ((nmsV n p).map PyData.str)) = some (.tuple ((acc ++ nmsV n p).map PyData.str)) := by
      rw [List.map_append]
      exact add_t (by rw [List.length_map, List.length_map]; omega)
    generalize (acc ++ nmsV n p).map PyData.str = AW at *
    generalize (nmsV n p).map PyData.str = WP at *
    generalize acc.map PyData.str = AC at *
    generalize bxD n p = B at *
    simp -implicitDefEqProofs [B_names_in_1, r, a]
theorem nms_len : ∀ (n : Nat) (b : Bx n), Gd n b → (nmsV n b).length ≤ capN n
  | 0, b, _ => nomatch b
  | n + 1, b, hg => by
    rw [nmsV, List.length_cons]
    have h1 := flat_le (k := capN n) (inB b) (f := nmsV n) fun x hx => nms_len n x (gd_in hg x hx)
    have h2 := inB_le hg
    have h3 : capN n * (inB b).length ≤ capN n * 4 := Nat.mul_le_mul_left _ h2
    unfold capN
    omega
theorem names_eq : ∀ (n m : Nat) (b : Bx n), n ≤ m → n ≤ 7 → Gd n b → M_names_in m [bxD n b] = some (.tuple ((nmsV n b).map PyData.str)) := by
  intro n
  induction n with
  | zero => intro m b; exact nomatch b
  | succ n ih =>
    intro m b hm hn hg
    obtain ⟨m, rfl⟩ : ∃ j, m = j + 1 := ⟨m - 1, by omega⟩
    have hM : M_names_in (m + 1) = runF 3 (D_names_in (M_names_in m)) := rfl
    rw [hM]
    have i1 := bx_i1 b
    have bi := boxesin_eq b
    have cp := capN_le (show n ≤ 7 by omega)
    have i4 := inB_le hg
    have hl : capN n * (inB b).length ≤ capN n * 4 := Nat.mul_le_mul_left _ i4
    obtain ⟨x', lp⟩ := names1 (M_names_in m) (s0 := some (.sh (bxD (n + 1) b))) (k := capN n) (Gd n) (fun p hp => ⟨ih m p (by omega) (by omega) hp, nms_len n p hp⟩) (inB b) [bxN (n + 1) b] none (gd_in hg) (by simp; omega)
    rw [List.singleton_append] at lp
    have e : nmsV (n + 1) b = bxN (n + 1) b :: (inB b).flatMap (nmsV n) := by rw [nmsV]
    have l1 : [bxN (n + 1) b].map PyData.str = [.str (bxN (n + 1) b)] := rfl
    rw [e]
    rw [l1] at lp
    generalize (bxN (n + 1) b :: (inB b).flatMap (nmsV n)).map PyData.str = W at *
    generalize (inB b).map (bxD n) = PB at *
    generalize bxD (n + 1) b = B at *
    simp -implicitDefEqProofs [D_names_in, startE, i1, bi, lp]

/-! a leaf with other spans -/
def wlV : (n : Nat) → Str → Spn → Spn → Bx n → Bx n
  | 0, _, _, _, b => nomatch b
  | n + 1, nm, w, h, b => match (b : BxF (Bx n)) with
    | .leaf nm' w' h' => (BxF.leaf nm' (if (nm' == nm) = true then w else w') (if (nm' == nm) = true then h else h') : BxF (Bx n))
    | .line c nm' g ps => (BxF.line c nm' g (ps.map (wlV n nm w h)) : BxF (Bx n))
    | .pile nm' ps => (BxF.pile nm' (ps.map (wlV n nm w h)) : BxF (Bx n))
    | .rim nm' a b c d p => (BxF.rim nm' a b c d (wlV n nm w h p) : BxF (Bx n))
theorem st_eq {a b : Str} : (a == b) = true ↔ a = b := by
  constructor
  · intro h
    exact beq_iff_eq.mp h
  · rintro rfl
    exact beq_iff_eq.mpr rfl
theorem wl_in {n : Nat} (nm : Str) (w h : Spn) (b : Bx (n + 1)) : inB (wlV (n + 1) nm w h b) = (inB b).map (wlV n nm w h) := by
  match (b : BxF (Bx n)) with
  | .leaf _ _ _ => rfl
  | .line _ _ _ _ => rfl
  | .pile _ _ => rfl
  | .rim _ _ _ _ _ _ => rfl
theorem wl_nm {n : Nat} (nm : Str) (w h : Spn) (b : Bx (n + 1)) : bxN (n + 1) (wlV (n + 1) nm w h b) = bxN (n + 1) b := by
  match (b : BxF (Bx n)) with
  | .leaf _ _ _ => rfl
  | .line _ _ _ _ => rfl
  | .pile _ _ => rfl
  | .rim _ _ _ _ _ _ => rfl
theorem wl_names : ∀ (n : Nat) (nm : Str) (w h : Spn) (b : Bx n), nmsV n (wlV n nm w h b) = nmsV n b
  | 0, _, _, _, b => nomatch b
  | n + 1, nm, w, h, b => by
    rw [nmsV, nmsV, wl_nm, wl_in, List.flatMap_map]
    congr 1
    exact flatMap_congr' fun x _ => wl_names n nm w h x
theorem wl_gd : ∀ (n : Nat) (nm : Str) (w h : Spn) (b : Bx n), (w.Ok ∧ w.Sm) → (h.Ok ∧ h.Sm) → Gd n b → Gd n (wlV n nm w h b)
  | 0, _, _, _, b, _, _, _ => nomatch b
  | n + 1, nm, w, h, b, hw, hh, hg => by
    have mm : ∀ ps : List (Bx n), (∀ p ∈ ps, Gd n p) → ∀ p ∈ ps.map (wlV n nm w h), Gd n p := fun ps hp p q => by
      obtain ⟨p', h1, rfl⟩ := List.mem_map.mp q
      exact wl_gd n nm w h p' hw hh (hp p' h1)
    match (b : BxF (Bx n)), hg with
    | .leaf nm' w' h', hg =>
      show ((if (nm' == nm) = true then w else w').Ok ∧ (if (nm' == nm) = true then w else w').Sm) ∧ ((if (nm' == nm) = true then h else h').Ok ∧ (if (nm' == nm) = true then h else h').Sm)
      cases (nm' == nm)
      · exact hg
      · exact ⟨hw, hh⟩
    | .line c nm' g ps, hg => exact ⟨hg.1, hg.2.1, by rw [List.length_map]; exact hg.2.2.1, by rw [List.length_map]; exact hg.2.2.2.1, mm ps hg.2.2.2.2⟩
    | .pile nm' ps, hg => exact ⟨by rw [List.length_map]; exact hg.1, by rw [List.length_map]; exact hg.2.1, mm ps hg.2.2⟩
    | .rim nm' a b c d p, hg => exact ⟨hg.1, hg.2.1, hg.2.2.1, hg.2.2.2.1, wl_gd n nm w h p hw hh hg.2.2.2.2⟩
/-- names of leaves -/
def lvsV : (n : Nat) → Bx n → List Str
  | 0, b => nomatch b
  | n + 1, b => match (b : BxF (Bx n)) with
    | .leaf nm _ _ => [nm]
    | .line _ _ _ ps => ps.flatMap (lvsV n)
    | .pile _ ps => ps.flatMap (lvsV n)
    | .rim _ _ _ _ _ p => lvsV n p
theorem lvs_in {n : Nat} {b : Bx (n + 1)} (h : isLf b = false) : lvsV (n + 1) b = (inB b).flatMap (lvsV n) := by
  match (b : BxF (Bx n)), h with
  | .leaf _ _ _, h => cases h
  | .line _ _ _ _, _ => rfl
  | .pile _ _, _ => rfl
  | .rim _ _ _ _ _ p, _ => exact (List.append_nil (lvsV n p)).symm
theorem lvs_pos : ∀ (n : Nat) (b : Bx n), Gd n b → lvsV n b ≠ []
  | 0, b, _ => nomatch b
  | n + 1, b, hg => by
    have mm : ∀ ps : List (Bx n), 1 ≤ ps.length → (∀ p ∈ ps, Gd n p) → ps.flatMap (lvsV n) ≠ [] := fun ps hl hp e => by
      cases ps with
      | nil => simp at hl
      | cons p ps =>
        rw [List.flatMap_cons] at e
        exact lvs_pos n p (hp p List.mem_cons_self) (List.append_eq_nil_iff.mp e).1
    match (b : BxF (Bx n)), hg with
    | .leaf _ _ _, _ => simp [lvsV]
    | .line _ _ _ ps, hg => exact mm ps hg.2.2.1 hg.2.2.2.2
    | .pile _ ps, hg => exact mm ps hg.1 hg.2.2
    | .rim _ _ _ _ _ p, hg => exact lvs_pos n p hg.2.2.2.2
theorem lvs_sub : ∀ (n : Nat) (b : Bx n), ∀ x ∈ lvsV n b, x ∈ nmsV n b
  | 0, b => nomatch b
  | n + 1, b => by
    intro x hx
    rw [nmsV]
    have mm : ∀ ps : List (Bx n), x ∈ ps.flatMap (lvsV n) → x ∈ ps.flatMap (nmsV n) := fun ps h => by
      obtain ⟨p, hp, h⟩ := List.mem_flatMap.mp h
      exact List.mem_flatMap.mpr ⟨p, hp, lvs_sub n p x h⟩
    match (b : BxF (Bx n)), hx with
    | .leaf nm _ _, hx =>
      have : x = nm := by simpa [lvsV] using hx
      subst this
      exact List.mem_cons_self
    | .line _ _ _ ps, hx => exact List.mem_cons_of_mem _ (mm ps hx)
    | .pile _ ps, hx => exact List.mem_cons_of_mem _ (mm ps hx)
    | .rim _ _ _ _ _ p, hx =>
      have hx : x ∈ lvsV n p := hx
      exact List.mem_cons_of_mem _ (mm [p] (List.mem_flatMap.mpr ⟨p, List.mem_singleton.mpr rfl, hx⟩))
theorem lvs_len : ∀ (n : Nat) (b : Bx n), Gd n b → (lvsV n b).length ≤ capN n
  | 0, b, _ => nomatch b
  | n + 1, b, hg => by
    have cs : capN (n + 1) = 1 + 4 * capN n := rfl
    have mm : ∀ ps : List (Bx n), ps.length ≤ 4 → (∀ p ∈ ps, Gd n p) → (ps.flatMap (lvsV n)).length ≤ 4 * capN n := fun ps hl hp => by
      have h1 := flat_le (k := capN n) ps (f := lvsV n) fun x hx => lvs_len n x (hp x hx)
      have h3 : capN n * ps.length ≤ capN n * 4 := Nat.mul_le_mul_left _ hl
      omega
    match (b : BxF (Bx n)), hg with
    | .leaf _ _ _, _ => show 1 ≤ _; omega
    | .line _ _ _ ps, hg =>
      have := mm ps hg.2.2.2.1 hg.2.2.2.2
      show (ps.flatMap (lvsV n)).length ≤ _
      omega
    | .pile _ ps, hg =>
      have := mm ps hg.2.1 hg.2.2
      show (ps.flatMap (lvsV n)).length ≤ _
      omega
    | .rim _ _ _ _ _ p, hg =>
      have := lvs_len n p hg.2.2.2.2
      show (lvsV n p).length ≤ _
      omega
/-! what changes, what may -/
def axW : Str := "wide"
def axH : Str := "high"
def chR (r s : Row) : List (Str × Str) := (if r.2.1 = s.2.1 ∧ r.2.2.2.1 = s.2.2.2.1 then [] else [(r.1, axW)]) ++ (if r.2.2.1 = s.2.2.1 ∧ r.2.2.2.2 = s.2.2.2.2 then [] else [(r.1, axH)])
def chgL (rs ss : List Row) : List (Str × Str) := (rs.zip ss).flatMap fun x => chR x.1 x.2
def mnW {n : Nat} (b : Bx (n + 1)) (hi : Bool) : Bool := match (b : BxF (Bx n)) with
  | .line c _ _ _ => decide (c = hi)
  | _ => false
def mayP (nm : Str) (mw mh : Bool) (ns : List Str) : List (Str × Str) := (if (inSeq (.str nm) (ns.map PyData.str) || mw) = true then ns.map fun o => (o, axW) else []) ++ (if (inSeq (.str nm) (ns.map PyData.str) || mh) = true then ns.map fun o => (o, axH) else [])
def mayL {n : Nat} (b : Bx (n + 1)) (nm : Str) : List (Str × Str) := (inB b).flatMap fun p => mayP nm (mnW b false) (mnW b true) (nmsV n p)

theorem eq_names {a b : Str} (ha : PyData.strOk a = true) (hb : PyData.strOk b = true) : eqD (.str a) (.str b) = some (.bool (a == b)) := eq_strs ha hb rfl
theorem withleaf_eq : ∀ (n m : Nat) (nm : Str) (w h : Spn) (b : Bx n), n ≤ m → Gd n b → PyData.strOk nm = true → (∀ x ∈ nmsV n b, PyData.strOk x = true) → M_with_leaf m [bxD n b, .str nm, spD w, spD h] = some (bxD n (wlV n nm w h b)) := by
  intro n
  induction n with
  | zero => intro m nm w h b; exact nomatch b
  | succ n ih =>
    intro m nm w h b hm hg hnm hok
    obtain ⟨m, rfl⟩ : ∃ j, m = j + 1 := ⟨m - 1, by omega⟩
    have hM : M_with_leaf (m + 1) = runF 5 (D_with_leaf (M_with_leaf m)) := rfl
    rw [hM]
    have bi := boxesin_eq b
    have gin := gd_in hg
    have i4 := inB_le hg
    have hokp : ∀ p ∈ inB b, ∀ x ∈ nmsV n p, PyData.strOk x = true := fun p hp x hx => hok x (by
      rw [nmsV]
      exact List.mem_cons_of_mem _ (List.mem_flatMap.mpr ⟨p, hp, hx⟩))
    have hn1 : PyData.strOk (bxN (n + 1) b) = true := hok _ (by rw [nmsV]; exact List.mem_cons_self)
    have parts : ∀ (ps : List (Bx n)), (∀ p ∈ ps, Gd n p ∧ ∀ x ∈ nmsV n p, PyData.strOk x = true) → ∀ e : DEnv, e.length = 5 → e[1]? = some (some (.sh (.str nm))) → e[2]? = some (some (.sh (spD w))) → e[3]? = some (some (.sh (spD h))) → lcGo (bNm 4) yesT (C_with_leaf_1 (M_with_leaf m)) e (ps.map (bxD n)) = some ((ps.map (wlV n nm w h)).map (bxD n)) := fun ps hps e he h1 h2 h3 => by
      rw [List.map_map]
      refine lcGo_map (bxD n) (bxD n ∘ wlV n nm w h) ps fun p hp => ⟨_, rfl, ?_⟩
      have h4 : 4 < e.length := by omega
      have := ih m nm w h p (by omega) (hps p hp).1 hnm (hps p hp).2
      simp -implicitDefEqProofs [C_with_leaf_1, h4, h1, h2, h3, this]
    match (b : BxF (Bx n)), hg, bi, gin, i4, hokp, hn1 with
    | .leaf nm' w' h', hg, bi, gin, i4, hokp, hn1 =>
      have e : bxD (n + 1) (BxF.leaf nm' w' h' : BxF (Bx n)) = .tuple [.str "leaf", .str nm', spD w', spD h'] := rfl
      have bi' : M_boxes_in [.tuple [.str "leaf", .str nm', spD w', spD h']] = some (.tuple []) := bi
      have i0 : ixD (.tuple [PyData.str "leaf", .str nm', spD w', spD h']) (.int 0) = some (.str "leaf") := rfl
      have i1 : ixD (.tuple [PyData.str "leaf", .str nm', spD w', spD h']) (.int 1) = some (.str nm') := rfl
      have en := eq_names (a := nm') (b := nm) hn1 hnm
      have s0 : sml 0 = true := rfl
      have wb := withb_leaf (nm := .str nm') (w := spD w') (h := spD h') (x := .list [])
      have e2 : bxD (n + 1) (wlV (n + 1) nm w h (BxF.leaf nm' w' h' : BxF (Bx n))) = .tuple [.str "leaf", .str nm', spD (if (nm' == nm) = true then w else w'), spD (if (nm' == nm) = true then h else h')] := rfl
      rw [e, e2]
      cases hc : (nm' == nm) with
      | true =>
        rw [hc] at en
        have hnn := st_eq.mp hc
        subst hnn
        simp only [if_true]
        generalize hB : PyData.tuple [.str "leaf", .str nm', spD w', spD h'] = B at *
        simp -implicitDefEqProofs [D_with_leaf, startE, i0, i1, en]
      | false =>
        rw [hc] at en
        simp only [Bool.false_eq_true, if_false]
        generalize hB : PyData.tuple [.str "leaf", .str nm', spD w', spD h'] = B at *
        simp -implicitDefEqProofs [D_with_leaf, startE, i0, i1, en, bi', s0, lcGo, wb]
    | .line c nm' g ps, hg, bi, gin, i4, hokp, hn1 =>
      have e : bxD (n + 1) (BxF.line c nm' g ps : BxF (Bx n)) = .tuple [.str (kindS c), .str nm', .int g, .tuple (ps.map (bxD n))] := rfl
      have e2 : bxD (n + 1) (wlV (n + 1) nm w h (BxF.line c nm' g ps : BxF (Bx n))) = .tuple [.str (kindS c), .str nm', .int g, .tuple ((ps.map (wlV n nm w h)).map (bxD n))] := rfl
      have bi' : M_boxes_in [.tuple [.str (kindS c), .str nm', .int g, .tuple (ps.map (bxD n))]] = some (.tuple (ps.map (bxD n))) := bi
      have i0 : ixD (.tuple [PyData.str (kindS c), .str nm', .int g, .tuple (ps.map (bxD n))]) (.int 0) = some (.str (kindS c)) := rfl
      have kl : eqD (.str (kindS c)) (.str "leaf") = some (.bool false) := by cases c <;> simp only [kindS, if_true, Bool.false_eq_true, if_false] <;> simp -implicitDefEqProofs
      have wb := withb_line (c := c) (nm := .str nm') (g := .int g) (ps := .tuple (ps.map (bxD n))) (qs := (ps.map (wlV n nm w h)).map (bxD n))
      have hs : sml (ps.map (bxD n)).length = true := sml_of (by have : ps.length ≤ 4 := i4; rw [List.length_map]; omega)
      have pp := parts ps fun p hp => ⟨gin p hp, hokp p hp⟩
      rw [e, e2]
      generalize (ps.map (wlV n nm w h)).map (bxD n) = QS at *
      generalize hB : PyData.tuple [.str (kindS c), .str nm', .int g, .tuple (ps.map (bxD n))] = B at *
      generalize ps.map (bxD n) = PS at *
      simp -implicitDefEqProofs [D_with_leaf, startE, i0, kl, bi', hs, pp, wb]
    | .pile nm' ps, hg, bi, gin, i4, hokp, hn1 =>
      have e : bxD (n + 1) (BxF.pile nm' ps : BxF (Bx n)) = .tuple [.str "pile", .str nm', .tuple (ps.map (bxD n))] := rfl
      have e2 : bxD (n + 1) (wlV (n + 1) nm w h (BxF.pile nm' ps : BxF (Bx n))) = .tuple [.str "pile", .str nm', .tuple ((ps.map (wlV n nm w h)).map (bxD n))] := rfl
      have bi' : M_boxes_in [.tuple [.str "pile", .str nm', .tuple (ps.map (bxD n))]] = some (.tuple (ps.map (bxD n))) := bi
      have i0 : ixD (.tuple [PyData.str "pile", .str nm', .tuple (ps.map (bxD n))]) (.int 0) = some (.str "pile") := rfl
      have wb := withb_pile (nm := .str nm') (ps := .tuple (ps.map (bxD n))) (qs := (ps.map (wlV n nm w h)).map (bxD n))
      have hs : sml (ps.map (bxD n)).length = true := sml_of (by have : ps.length ≤ 4 := i4; rw [List.length_map]; omega)
      have pp := parts ps fun p hp => ⟨gin p hp, hokp p hp⟩
      rw [e, e2]
      generalize (ps.map (wlV n nm w h)).map (bxD n) = QS at *
      generalize hB : PyData.tuple [.str "pile", .str nm', .tuple (ps.map (bxD n))] = B at *
      generalize ps.map (bxD n) = PS at *
      simp -implicitDefEqProofs [D_with_leaf, startE, i0, bi', hs, pp, wb]
    | .rim nm' a b' c d p, hg, bi, gin, i4, hokp, hn1 =>
      have e : bxD (n + 1) (BxF.rim nm' a b' c d p : BxF (Bx n)) = .tuple [.str "rim", .str nm', .int a, .int b', .int c, .int d, bxD n p] := rfl
      have e2 : bxD (n + 1) (wlV (n + 1) nm w h (BxF.rim nm' a b' c d p : BxF (Bx n))) = .tuple [.str "rim", .str nm', .int a, .int b', .int c, .int d, bxD n (wlV n nm w h p)] := rfl
      have bi' : M_boxes_in [.tuple [.str "rim", .str nm', .int a, .int b', .int c, .int d, bxD n p]] = some (.tuple [bxD n p]) := bi
      have i0 : ixD (.tuple [PyData.str "rim", .str nm', .int a, .int b', .int c, .int d, bxD n p]) (.int 0) = some (.str "rim") := rfl
      have wb := withb_rim (nm := .str nm') (a := .int a) (b := .int b') (c := .int c) (d := .int d) (p := bxD n p) (q := bxD n (wlV n nm w h p))
      have s1 : sml 1 = true := rfl
      have pp := parts [p] fun q hq => ⟨gin q hq, hokp q hq⟩
      have p1 : [p].map (bxD n) = [bxD n p] := rfl
      have p2 : ([p].map (wlV n nm w h)).map (bxD n) = [bxD n (wlV n nm w h p)] := rfl
      rw [p1, p2] at pp
      rw [e, e2]
      generalize bxD n (wlV n nm w h p) = Q at *
      generalize hB : PyData.tuple [.str "rim", .str nm', .int a, .int b', .int c, .int d, bxD n p] = B at *
      generalize bxD n p = PB at *
      simp -implicitDefEqProofs [D_with_leaf, startE, i0, bi', s1, pp, wb]
/-! changed -/
theorem st_row1 (r : Row) : stepD (rowD r) (some 1) none (some 2) = some (.tuple [.int r.2.1, .int r.2.2.2.1]) := by
  obtain ⟨a, b, c, d, e⟩ := r
  with_unfolding_all rfl
theorem st_row2 (r : Row) : stepD (rowD r) (some 2) none (some 2) = some (.tuple [.int r.2.2.1, .int r.2.2.2.2]) := by
  obtain ⟨a, b, c, d, e⟩ := r
  with_unfolding_all rfl
theorem ne_pair (a b c d : Int) : neD (.tuple [.int a, .int b]) (.tuple [.int c, .int d]) = some (.bool (!decide (a = c ∧ b = d))) := by
  rw [ne_ok (n := 1) (m := 1) (a := .tuple [.int a, .int b]) (b := .tuple [.int c, .int d]) rfl rfl]
  have : PyData.eqv (.tuple [.int a, .int b]) (.tuple [.int c, .int d]) = decide (a = c ∧ b = d) := by
    rw [Bool.eq_iff_iff]
    simp [PyData.eqv, PyData.eqvAll]
  rw [this]
theorem rx0 (r : Row) : ixD (rowD r) (.int 0) = some (.str r.1) := rfl
theorem ax_l : (["wide", "high"] : List Str).map PyData.str = [.str axW, .str axH] := rfl
theorem en_ax : enL 0 [PyData.str "wide", .str "high"] = [.tuple [.int 0, .str "wide"], .tuple [.int 1, .str "high"]] := rfl
theorem changed1 {s0 s1 s2 s3 : Option Sl} : ∀ (zs : List (Row × Row)) (acc : List (Str × Str)) (a b c d : Option Sl), acc.length + 2 * zs.length ≤ 100000 → ∃ a' b' c' d', forD (bTp [(bNm 5), (bNm 6)]) B_changed_2 (zs.map fun z => .tuple [rowD z.1, rowD z.2]) [s0, s1, s2, s3, some (.ow (acc.map p2D)), a, b, c, d] = some (.nx [s0, s1, s2, s3, some (.ow ((acc ++ zs.flatMap fun z => chR z.1 z.2).map p2D)), a', b', c', d'])
  | [], acc, a, b, c, d, _ => ⟨a, b, c, d, by rw [List.map_nil, forD_n, List.flatMap_nil, List.append_nil]⟩
  | z :: zs, acc, a, b, c, d, hl => by
    rw [List.length_cons] at hl
    have cl : (chR z.1 z.2).length ≤ 2 := by
      unfold chR
      rw [List.length_append]
      split <;> split <;> simp
    obtain ⟨a', b', c', d', hh⟩ := changed1 (s0 := s0) (s1 := s1) (s2 := s2) (s3 := s3) zs (acc ++ chR z.1 z.2) (some (.sh (rowD z.1))) (some (.sh (rowD z.2))) (some (.sh (.int 1))) (some (.sh (.str axH))) (by rw [List.length_append]; omega)
    refine ⟨a', b', c', d', ?_⟩
    rw [List.flatMap_cons, ← List.append_assoc, ← hh, List.map_cons, forD_c]
    have q1 := st_row1 z.1
    have q2 := st_row1 z.2
    have q3 := st_row2 z.1
    have q4 := st_row2 z.2
    have q5 := rx0 z.1
    have hs1 : sml (acc.length + 1) = true := sml_of (by omega)
    have hs2 : sml (acc.length + 1 + 1) = true := sml_of (by omega)
    have p1 := ne_pair z.1.2.1 z.1.2.2.2.1 z.2.2.1 z.2.2.2.2.1
    have p2 := ne_pair z.1.2.2.1 z.1.2.2.2.2 z.2.2.2.1 z.2.2.2.2.2
    have e12 : (1 : Int) + 1 = 2 := rfl
    unfold chR
    rw [List.map_append, List.map_append]
    generalize rowD z.1 = R1 at *
    generalize rowD z.2 = R2 at *
    generalize (zs.map fun z => PyData.tuple [rowD z.1, rowD z.2]) = ZS at *
    by_cases c1 : z.1.2.1 = z.2.2.1 ∧ z.1.2.2.2.1 = z.2.2.2.2.1 <;> by_cases c2 : z.1.2.2.1 = z.2.2.2.1 ∧ z.1.2.2.2.2 = z.2.2.2.2.2
    · rw [decide_eq_true c2] at p2
      rw [decide_eq_true c1] at p1
      rw [if_pos c1, if_pos c2]
      simp -implicitDefEqProofs [B_changed_2, en_ax, axW, axH, forD_c, forD_n, B_changed_1, q1, q2, q3, q4, p1, p2, e12]
    · rw [decide_eq_false c2] at p2
      rw [decide_eq_true c1] at p1
      rw [if_pos c1, if_neg c2]
      simp -implicitDefEqProofs [B_changed_2, en_ax, axW, axH, forD_c, forD_n, B_changed_1, q1, q2, q3, q4, q5, p1, p2, e12, hs1, p2D]
    · rw [decide_eq_true c2] at p2
      rw [decide_eq_false c1] at p1
      rw [if_pos c2, if_neg c1]
      simp -implicitDefEqProofs [B_changed_2, en_ax, axW, axH, forD_c, forD_n, B_changed_1, q1, q2, q3, q4, q5, p1, p2, e12, hs1, p2D]
    · rw [decide_eq_false c2] at p2
      rw [decide_eq_false c1] at p1
      rw [if_neg c1, if_neg c2]
      simp -implicitDefEqProofs [B_changed_2, en_ax, axW, axH, forD_c, forD_n, B_changed_1, q1, q2, q3, q4, q5, p1, p2, e12, hs1, hs2, p2D]
theorem z2L_rows (rs ss : List Row) : z2L (rs.map rowD) (ss.map rowD) = (rs.zip ss).map fun z => .tuple [rowD z.1, rowD z.2] := z2L_zip rowD rowD rs ss
theorem chgL_len (rs ss : List Row) : (chgL rs ss).length ≤ 2 * rs.length := by
  unfold chgL
  have := flat_le (k := 2) (rs.zip ss) (f := fun x => chR x.1 x.2) fun z _ => by
    unfold chR
    rw [List.length_append]
    split <;> split <;> simp
  have h2 : (rs.zip ss).length ≤ rs.length := by rw [List.length_zip]; omega
  omega
theorem changed_eq {n k : Nat} {b : Bx n} {c : Bx k} {w h : Int} (hn : n ≤ 7) (hk : k ≤ 7) (hb : Gd n b) (hc : Gd k c) (hw : w ≤ 2 ^ 40) (hh : h ≤ 2 ^ 40) : M_changed [bxD n b, bxD k c, .int w, .int h] = some (.tuple ((srtP (chgL (plcV n b 0 0 w h) (plcV k c 0 0 w h))).map p2D)) := by
  have p1 := places_eq (w := w) (h := h) hn hb hw hh
  have p2 := places_eq (w := w) (h := h) hk hc hw hh
  have l1 := plc_len n b 0 0 w h hb
  have cp := capN_le hn
  have zl : ((plcV n b 0 0 w h).zip (plcV k c 0 0 w h)).length ≤ 6000 := by rw [List.length_zip]; omega
  obtain ⟨a', b', c', d', lp⟩ := changed1 (s0 := some (.sh (bxD n b))) (s1 := some (.sh (bxD k c))) (s2 := some (.sh (.int w))) (s3 := some (.sh (.int h))) ((plcV n b 0 0 w h).zip (plcV k c 0 0 w h)) [] none none none none (by simp only [List.length_nil]; omega)
  rw [List.map_nil, List.nil_append] at lp
  have zz := z2L_rows (plcV n b 0 0 w h) (plcV k c 0 0 w h)
  have cl := chgL_len (plcV n b 0 0 w h) (plcV k c 0 0 w h)
  have so := srtD_ok (ps := chgL (plcV n b 0 0 w h) (plcV k c 0 0 w h)) (by omega)
  have ee : ((plcV n b 0 0 w h).zip (plcV k c 0 0 w h)).flatMap (fun z => chR z.1 z.2) = chgL (plcV n b 0 0 w h) (plcV k c 0 0 w h) := rfl
  rw [ee] at lp
  generalize (srtP (chgL (plcV n b 0 0 w h) (plcV k c 0 0 w h))).map p2D = SS at *
  generalize (chgL (plcV n b 0 0 w h) (plcV k c 0 0 w h)).map p2D = CC at *
  generalize ((plcV n b 0 0 w h).zip (plcV k c 0 0 w h)).map (fun z => PyData.tuple [rowD z.1, rowD z.2]) = ZZ at *
  generalize (plcV n b 0 0 w h).map rowD = R1 at *
  generalize (plcV k c 0 0 w h).map rowD = R2 at *
  generalize bxD n b = B at *
  generalize bxD k c = C at *
  simp -implicitDefEqProofs [M_changed, D_changed, startE, p1, p2, zz, lp, so]
/-! may change -/
theorem main_get {n : Nat} (b : Bx (n + 1)) (hi : Bool) : ∃ g : D, dgetG G_MAIN (.str (kndS b)) (.str "") = some g ∧ eqD g (.str (axS hi)) = some (.bool (mnW b hi)) := by
  have q1 : ∀ c : Bool, dgetG G_MAIN (.str (kindS c)) (.str "") = some (.str (axS c)) := fun c => by
    cases c
    · unfold dgetG kindS axS; simp only [Bool.false_eq_true, if_false]; rw [main_row]; rfl
    · unfold dgetG kindS axS; simp only [if_true]; rw [main_col]; rfl
  have q2 : ∀ k : Str, lookT G_MAIN k = none → dgetG G_MAIN (.str k) (.str "") = some (.str "") := fun k hk => by
    unfold dgetG; simp only; rw [hk]
  have q3 : eqD (.str "") (.str (axS hi)) = some (.bool false) := by
    cases hi
    · exact eq_strs (by decide +kernel) (by decide +kernel) (by decide +kernel)
    · exact eq_strs (by decide +kernel) (by decide +kernel) (by decide +kernel)
  match (b : BxF (Bx n)) with
  | .leaf _ _ _ => exact ⟨_, q2 "leaf" (by decide +kernel), q3⟩
  | .line c _ _ _ =>
    refine ⟨_, q1 c, ?_⟩
    show eqD (.str (axS c)) (.str (axS hi)) = some (.bool (decide (c = hi)))
    cases c <;> cases hi
    · exact ek_wide_wide
    · exact ek_wide_high
    · exact ek_high_wide
    · exact ek_high_high
  | .pile _ _ => exact ⟨_, q2 "pile" main_pile, q3⟩
  | .rim _ _ _ _ _ _ => exact ⟨_, q2 "rim" (by decide +kernel), q3⟩
theorem in_tup {nm : Str} {ns : List Str} (h : PyData.strOk nm = true) (hs : ∀ x ∈ ns, PyData.strOk x = true) : inD (.str nm) (.tuple (ns.map PyData.str)) = some (.bool (inSeq (.str nm) (ns.map PyData.str))) := if_pos (okIn_of (n := 0) (m := 0) (show shp 0 (.str nm) = true from h) (fun y hy => by
  obtain ⟨x, hx, rfl⟩ := List.mem_map.mp hy
  exact hs x hx))
theorem in_lst {nm : Str} {ns : List Str} (h : PyData.strOk nm = true) (hs : ∀ x ∈ ns, PyData.strOk x = true) : inD (.str nm) (.list (ns.map PyData.str)) = some (.bool (inSeq (.str nm) (ns.map PyData.str))) := if_pos (okIn_of (n := 0) (m := 0) (show shp 0 (.str nm) = true from h) (fun y hy => by
  obtain ⟨x, hx, rfl⟩ := List.mem_map.mp hy
  exact hs x hx))
theorem may1 {n : Nat} {b : Bx (n + 1)} {nm : Str} (hn : n ≤ 7) (hnm : PyData.strOk nm = true) : ∀ (ps : List (Bx n)) (acc : List (Str × Str)) (x3 x4 x5 : Option Sl), (∀ p ∈ ps, Gd n p ∧ ∀ x ∈ nmsV n p, PyData.strOk x = true) → acc.length + 12000 * ps.length ≤ 100000 →
    ∃ x3' x4' x5', forD (bNm 3) B_may_change_2 (ps.map (bxD n)) [some (.sh (bxD (n + 1) b)), some (.sh (.str nm)), some (.ow (acc.map p2D)), x3, x4, x5, none] = some (.nx [some (.sh (bxD (n + 1) b)), some (.sh (.str nm)), some (.ow ((acc ++ ps.flatMap fun p => mayP nm (mnW b false) (mnW b true) (nmsV n p)).map p2D)), x3', x4', x5', none])
  | [], acc, x3, x4, x5, _, _ => ⟨x3, x4, x5, by rw [List.map_nil, forD_n, List.flatMap_nil, List.append_nil]⟩
  | p :: ps, acc, x3, x4, x5, hp, hl => by
    rw [List.length_cons] at hl
    obtain ⟨hg, hok⟩ := hp p List.mem_cons_self
    have nl := nms_len n p hg
    have cp := capN_le hn
    have ml : (mayP nm (mnW b false) (mnW b true) (nmsV n p)).length ≤ 12000 := by
      unfold mayP
      rw [List.length_append]
      split <;> split <;> simp <;> omega
    obtain ⟨x3', x4', x5', hh⟩ := may1 (b := b) (nm := nm) hn hnm ps (acc ++ mayP nm (mnW b false) (mnW b true) (nmsV n p)) (some (.sh (bxD n p))) (some (.sh (.tuple ((nmsV n p).map PyData.str)))) (some (.sh (.str axH))) (fun q hq => hp q (List.mem_cons_of_mem _ hq)) (by rw [List.length_append]; omega)
    refine ⟨x3', x4', x5', ?_⟩
    rw [List.flatMap_cons, ← List.append_assoc, ← hh, List.map_cons, forD_c]
    have nme := names_eq n 12 p (by omega) hn hg
    have inn := in_tup hnm hok
    have i0 := bx_i0 b
    obtain ⟨gw, gw1, gw2⟩ := main_get b false
    obtain ⟨gh, gh1, gh2⟩ := main_get b true
    have egg : gw = gh := Option.some.inj (gw1.symm.trans gh1)
    subst egg
    have eW : (axS false : Str) = axW := rfl
    have eH : (axS true : Str) = axH := rfl
    rw [eW] at gw2
    rw [eH] at gh2
    have lc : ∀ (ax : Str) (E : DEnv), E.length = 7 → E[5]? = some (some (.sh (.str ax))) → lcGo (bNm 6) yesT C_may_change_1 E ((nmsV n p).map PyData.str) = some (((nmsV n p).map fun o => (o, ax)).map p2D) := fun ax E hE h5 => by
      rw [List.map_map]
      refine lcGo_map PyData.str _ _ fun o _ => ⟨_, rfl, ?_⟩
      have h6 : 6 < E.length := by omega
      simp -implicitDefEqProofs [C_may_change_1, h6, h5, p2D]
    have hsm : sml ((nmsV n p).map PyData.str).length = true := sml_of (by rw [List.length_map]; omega)
    have hs1 : sml ((acc.map p2D).length + (((nmsV n p).map fun o => (o, axW)).map p2D).length) = true := sml_of (by simp; omega)
    have hs2 : sml ((acc.map p2D).length + (((nmsV n p).map fun o => (o, axH)).map p2D).length) = true := sml_of (by simp; omega)
    have hs3 : sml ((acc.map p2D ++ ((nmsV n p).map fun o => (o, axW)).map p2D).length + (((nmsV n p).map fun o => (o, axH)).map p2D).length) = true := sml_of (by simp; omega)
    unfold mayP
    rw [List.map_append, List.map_append]
    have lcW : ∀ E : DEnv, E.length = 7 → E[5]? = some (some (.sh (.str "wide"))) → lcGo (bNm 6) yesT C_may_change_1 E ((nmsV n p).map PyData.str) = some (((nmsV n p).map fun o => (o, axW)).map p2D) := lc axW
    have lcH : ∀ E : DEnv, E.length = 7 → E[5]? = some (some (.sh (.str "high"))) → lcGo (bNm 6) yesT C_may_change_1 E ((nmsV n p).map PyData.str) = some (((nmsV n p).map fun o => (o, axH)).map p2D) := lc axH
    have gw3 : eqD gw (.str "wide") = some (.bool (mnW b false)) := gw2
    have gh3 : eqD gw (.str "high") = some (.bool (mnW b true)) := gh2
    clear gw2 gh2 lc
    generalize inSeq (.str nm) ((nmsV n p).map PyData.str) = inn' at *
    generalize mnW b false = mw at *
    generalize mnW b true = mh at *
    cases inn' with
    | true =>
      simp only [Bool.true_or, if_true]
      generalize ((nmsV n p).map fun o => (o, axW)).map p2D = NW at *
      generalize ((nmsV n p).map fun o => (o, axH)).map p2D = NH at *
      generalize (nmsV n p).map PyData.str = NN at *
      generalize acc.map p2D = AC at *
      generalize ps.map (bxD n) = PS at *
      generalize bxD n p = PB at *
      generalize bxD (n + 1) b = BB at *
      simp -implicitDefEqProofs [B_may_change_2, nme, axW, axH, forD_c, forD_n, B_may_change_1, inn, hsm, lcW, lcH, hs1, hs3, -List.length_append]
    | false =>
      cases mw <;> cases mh <;> simp only [Bool.false_or, if_true, Bool.false_eq_true, if_false, List.map_nil, List.append_nil, List.nil_append, Bool.or_false, Bool.or_true] <;>
      generalize ((nmsV n p).map fun o => (o, axW)).map p2D = NW at * <;>
      generalize ((nmsV n p).map fun o => (o, axH)).map p2D = NH at * <;>
      generalize (nmsV n p).map PyData.str = NN at * <;>
      generalize acc.map p2D = AC at * <;>
      generalize ps.map (bxD n) = PS at * <;>
      generalize bxD n p = PB at * <;>
      generalize bxD (n + 1) b = BB at * <;>
      simp -implicitDefEqProofs [B_may_change_2, nme, axW, axH, forD_c, forD_n, B_may_change_1, inn, i0, gw1, gw3, gh3, hsm, lcW, lcH, hs1, hs2, hs3, -List.length_append]
theorem may_eq {n : Nat} {b : Bx (n + 1)} {nm : Str} (hn : n ≤ 6) (hg : Gd (n + 1) b) (hnm : PyData.strOk nm = true) (hok : ∀ x ∈ nmsV (n + 1) b, PyData.strOk x = true) : M_may_change [bxD (n + 1) b, .str nm] = some (.tuple ((srtP (mayL b nm)).map p2D)) := by
  have bi := boxesin_eq b
  have i4 := inB_le hg
  obtain ⟨x3, x4, x5, lp⟩ := may1 (b := b) (nm := nm) (show n ≤ 7 by omega) hnm (inB b) [] none none none (fun p hp => ⟨gd_in hg p hp, fun x hx => hok x (by
    rw [nmsV]
    exact List.mem_cons_of_mem _ (List.mem_flatMap.mpr ⟨p, hp, hx⟩))⟩) (by simp only [List.length_nil]; omega)
  rw [List.map_nil, List.nil_append] at lp
  have ml : (mayL b nm).length ≤ 100000 := by
    unfold mayL
    have := flat_le (k := 12000) (inB b) (f := fun p => mayP nm (mnW b false) (mnW b true) (nmsV n p)) fun p hp => by
      have nl := nms_len n p (gd_in hg p hp)
      have cp := capN_le (show n ≤ 7 by omega)
      unfold mayP
      rw [List.length_append]
      split <;> split <;> simp <;> omega
    omega
  have so := srtD_ok ml
  have ee : (inB b).flatMap (fun p => mayP nm (mnW b false) (mnW b true) (nmsV n p)) = mayL b nm := rfl
  rw [ee] at lp
  generalize (srtP (mayL b nm)).map p2D = SS at *
  generalize (mayL b nm).map p2D = ML at *
  generalize (inB b).map (bxD n) = PB at *
  generalize bxD (n + 1) b = B at *
  simp -implicitDefEqProofs [M_may_change, D_may_change, startE, bi, lp, so]

theorem Lleaves1 {n : Nat} (R : List D → Option D) {s0 : Option Sl} {k : Nat} (P : Bx n → Prop) (hR : ∀ p, P p → R [bxD n p] = some (.list ((lvsV n p).map PyData.str)) ∧ (lvsV n p).length ≤ k) :
    ∀ (ps : List (Bx n)) (acc : List Str) (x : Option Sl), (∀ p ∈ ps, P p) → acc.length + k * ps.length ≤ 100000 → ∃ x', forD (bNm 2) (B_Lleaves_1 R) (ps.map (bxD n)) [s0, some (.sh (.list (acc.map PyData.str))), x] = some (.nx [s0, some (.sh (.list ((acc ++ ps.flatMap (lvsV n)).map PyData.str))), x'])
  | [], acc, x, _, _ => ⟨x, by rw [List.map_nil, forD_n, List.flatMap_nil, List.append_nil]⟩
  | p :: ps, acc, x, h, hl => by
    obtain ⟨r, hk⟩ := hR p (h p List.mem_cons_self)
    rw [List.length_cons, Nat.mul_succ] at hl
    obtain ⟨x', hh⟩ := Lleaves1 R (s0 := s0) (k := k) P hR ps (acc ++ lvsV n p) (some (.sh (bxD n p))) (fun y q => h y (List.mem_cons_of_mem _ q)) (by rw [List.length_append]; omega)
    refine ⟨x', ?_⟩
    rw [List.flatMap_cons, ← List.append_assoc, ← hh, List.map_cons, forD_c]
    have a : addD (.list (acc.map PyData.str)) (.list ((lvsV n p).map PyData.str)) = some (.list ((acc ++ lvsV n p).map PyData.str)) := by
      rw [List.map_append]
      exact add_l (by rw [List.length_map, List.length_map]; omega)
    generalize (acc ++ lvsV n p).map PyData.str = AW at *
    generalize (lvsV n p).map PyData.str = WP at *
    generalize acc.map PyData.str = AC at *
    generalize bxD n p = B at *
    simp -implicitDefEqProofs [B_Lleaves_1, r, a]
theorem Lleaves_eq : ∀ (n m : Nat) (b : Bx n), n ≤ m → n ≤ 7 → Gd n b → M_Lleaves m [bxD n b] = some (.list ((lvsV n b).map PyData.str)) := by
  intro n
  induction n with
  | zero => intro m b; exact nomatch b
  | succ n ih =>
    intro m b hm hn hg
    obtain ⟨m, rfl⟩ : ∃ j, m = j + 1 := ⟨m - 1, by omega⟩
    have hM : M_Lleaves (m + 1) = runF 3 (D_Lleaves (M_Lleaves m)) := rfl
    rw [hM]
    have i0 := bx_i0 b
    have i1 := bx_i1 b
    have kl := knd_lf b
    have bi := Lin_eq b
    have cp := capN_le (show n ≤ 7 by omega)
    have i4 := inB_le hg
    have hl : capN n * (inB b).length ≤ capN n * 4 := Nat.mul_le_mul_left _ i4
    cases hlf : isLf b with
    | true =>
      rw [hlf] at kl
      have e : lvsV (n + 1) b = [bxN (n + 1) b] := by
        match (b : BxF (Bx n)), hlf with
        | .leaf _ _ _, _ => rfl
        | .line _ _ _ _, q => cases q
        | .pile _ _, q => cases q
        | .rim _ _ _ _ _ _, q => cases q
      rw [e]
      generalize bxD (n + 1) b = B at *
      simp -implicitDefEqProofs [D_Lleaves, startE, i0, i1, kl]
    | false =>
      rw [hlf] at kl
      obtain ⟨x', lp⟩ := Lleaves1 (M_Lleaves m) (s0 := some (.sh (bxD (n + 1) b))) (k := capN n) (Gd n) (fun p hp => ⟨ih m p (by omega) (by omega) hp, lvs_len n p hp⟩) (inB b) [] none (gd_in hg) (by simp; omega)
      rw [List.nil_append, List.map_nil] at lp
      rw [lvs_in hlf]
      generalize ((inB b).flatMap (lvsV n)).map PyData.str = W at *
      generalize (inB b).map (bxD n) = PB at *
      generalize bxD (n + 1) b = B at *
      simp -implicitDefEqProofs [D_Lleaves, startE, i0, kl, bi, lp]

theorem cut403 (a b c d : D) : cutD (.tuple [a, b, c, d]) none (some 3) = some (.tuple [a, b, c]) := rfl
theorem cut302 (a b c : D) : cutD (.tuple [a, b, c]) none (some 2) = some (.tuple [a, b]) := rfl
/-! may change, by the law -/
def mayO {n : Nat} (b : Bx (n + 1)) (c : Bool) (o : Str) : List (Str × Str) := if c = true then [(o, axW), (o, axH)] else match (b : BxF (Bx n)) with
  | .line d _ _ _ => [(o, axS d)]
  | _ => []
def mayQ {n : Nat} (b : Bx (n + 1)) (nm : Str) (ns : List Str) : List (Str × Str) := ns.flatMap (mayO b (inSeq (.str nm) (ns.map PyData.str)))
theorem mayO_le {n : Nat} (b : Bx (n + 1)) (c : Bool) (o : Str) : (mayO b c o).length ≤ 2 := by
  unfold mayO
  split
  · exact Nat.le_refl _
  · match (b : BxF (Bx n)) with
    | .leaf _ _ _ => exact Nat.zero_le _
    | .line _ _ _ _ => exact Nat.le_succ _
    | .pile _ _ => exact Nat.zero_le _
    | .rim _ _ _ _ _ _ => exact Nat.zero_le _
theorem two_perm : ∀ ns : List Str, ((ns.map fun o => (o, axW)) ++ (ns.map fun o => (o, axH))).Perm (ns.flatMap fun o => [(o, axW), (o, axH)])
  | [] => .refl _
  | o :: ns => by
    rw [List.map_cons, List.map_cons, List.flatMap_cons]
    have h1 : ((o, axW) :: (ns.map fun o => (o, axW)) ++ (o, axH) :: (ns.map fun o => (o, axH))).Perm ((o, axW) :: (o, axH) :: ((ns.map fun o => (o, axW)) ++ (ns.map fun o => (o, axH)))) := by
      rw [List.cons_append]
      exact (List.perm_middle).cons _
    exact h1.trans (((two_perm ns).cons _).cons _)
theorem fl_one {α β : Type} (f : α → β) : ∀ xs : List α, (xs.flatMap fun x => [f x]) = xs.map f
  | [] => rfl
  | x :: xs => by rw [List.flatMap_cons, fl_one f xs]; rfl
theorem fl_nil {α β : Type} : ∀ xs : List α, (xs.flatMap fun _ => ([] : List β)) = []
  | [] => rfl
  | x :: xs => by rw [List.flatMap_cons, fl_nil xs]; rfl
theorem mayPQ {n : Nat} (b : Bx (n + 1)) (nm : Str) (ns : List Str) : (mayP nm (mnW b false) (mnW b true) ns).Perm (mayQ b nm ns) := by
  unfold mayP mayQ
  cases hc : inSeq (.str nm) (ns.map PyData.str) with
  | true =>
    simp only [Bool.true_or, if_true]
    exact two_perm ns
  | false =>
    simp only [Bool.false_or]
    match (b : BxF (Bx n)) with
    | .leaf _ _ _ => exact (fl_nil ns).symm ▸ .refl _
    | .line c _ _ _ =>
      cases c
      · have e : (ns.flatMap (mayO (n := n) (BxF.line false ‹_› ‹_› ‹_› : BxF (Bx n)) false)) = ns.map fun o => (o, axS false) := fl_one _ ns
        rw [e]
        show ((ns.map fun o => (o, axW)) ++ []).Perm (ns.map fun o => (o, axS false))
        rw [List.append_nil]
        exact .refl _
      · have e : (ns.flatMap (mayO (n := n) (BxF.line true ‹_› ‹_› ‹_› : BxF (Bx n)) false)) = ns.map fun o => (o, axS true) := fl_one _ ns
        rw [e]
        exact .refl _
    | .pile _ _ => exact (fl_nil ns).symm ▸ .refl _
    | .rim _ _ _ _ _ _ => exact (fl_nil ns).symm ▸ .refl _
theorem flat_perm {α β : Type} {f g : α → List β} : ∀ xs : List α, (∀ x ∈ xs, (f x).Perm (g x)) → (xs.flatMap f).Perm (xs.flatMap g)
  | [], _ => .refl _
  | x :: xs, h => by
    rw [List.flatMap_cons, List.flatMap_cons]
    exact (h x List.mem_cons_self).append (flat_perm xs fun y q => h y (List.mem_cons_of_mem _ q))
theorem in_rc {k : Str} {c : Bool} (hk : PyData.strOk k = true) (h : inSeq (.str k) [.str "row", .str "col"] = c) : inD (.str k) (.tuple [.str "row", .str "col"]) = some (.bool c) := by
  rw [← h]
  exact in_tup (ns := ["row", "col"]) hk (fun y hy => by
    rcases List.mem_cons.mp hy with rfl | hy
    · decide +kernel
    · rcases List.mem_cons.mp hy with rfl | hy
      · decide +kernel
      · cases hy)
theorem knd_rc {n : Nat} (b : Bx (n + 1)) : (∃ c : Bool, inD (.str (kndS b)) (.tuple [.str "row", .str "col"]) = some (.bool true) ∧ eqD (.str (kndS b)) (.str "col") = some (.bool c) ∧ ∀ o, mayO b false o = [(o, axS c)]) ∨ (inD (.str (kndS b)) (.tuple [.str "row", .str "col"]) = some (.bool false) ∧ ∀ o, mayO b false o = []) := by
  match (b : BxF (Bx n)) with
  | .leaf _ _ _ => exact .inr ⟨in_rc (k := "leaf") (by decide +kernel) (by decide +kernel), fun o => rfl⟩
  | .line c _ _ _ =>
    cases c
    · exact .inl ⟨false, in_rc (k := "row") (by decide +kernel) (by decide +kernel), ek_row_col, fun o => rfl⟩
    · exact .inl ⟨true, in_rc (k := "col") (by decide +kernel) (by decide +kernel), ek_col_col, fun o => rfl⟩
  | .pile _ _ => exact .inr ⟨in_rc (k := "pile") (by decide +kernel) (by decide +kernel), fun o => rfl⟩
  | .rim _ _ _ _ _ _ => exact .inr ⟨in_rc (k := "rim") (by decide +kernel) (by decide +kernel), fun o => rfl⟩
/-! a leaf changed: again, back, two of them, turned -/
def LfX (hi : Bool) : (n : Nat) → Str → Spn → Bx n → Prop
  | 0, _, _, b => nomatch b
  | n + 1, nm, s, b => (match (b : BxF (Bx n)) with
    | .leaf nm' w' h' => nm' = nm → (if hi = true then h' else w') = s
    | _ => True) ∧ ∀ p ∈ inB b, LfX hi n nm s p
theorem lfx_not : ∀ (hi : Bool) (n : Nat) (nm : Str) (s : Spn) (b : Bx n), nm ∉ nmsV n b → LfX hi n nm s b
  | _, 0, _, _, b, _ => nomatch b
  | hi, n + 1, nm, s, b, h => by
    rw [nmsV] at h
    have h1 : bxN (n + 1) b ≠ nm := fun e => h (e ▸ List.mem_cons_self)
    have h2 : ∀ p ∈ inB b, nm ∉ nmsV n p := fun p hp q => h (List.mem_cons_of_mem _ (List.mem_flatMap.mpr ⟨p, hp, q⟩))
    refine ⟨?_, fun p hp => lfx_not hi n nm s p (h2 p hp)⟩
    match (b : BxF (Bx n)), h1 with
    | .leaf nm' w' h', h1 => exact fun e => absurd e h1
    | .line _ _ _ _, _ => exact trivial
    | .pile _ _, _ => exact trivial
    | .rim _ _ _ _ _ _, _ => exact trivial
theorem wl_same : ∀ (n : Nat) (nm : Str) (w h : Spn) (b : Bx n), LfX false n nm w b → LfX true n nm h b → wlV n nm w h b = b
  | 0, _, _, _, b, _, _ => nomatch b
  | n + 1, nm, w, h, b, h1, h2 => by
    have mm : ∀ ps : List (Bx n), (∀ p ∈ ps, LfX false n nm w p) → (∀ p ∈ ps, LfX true n nm h p) → ps.map (wlV n nm w h) = ps := fun ps q1 q2 => by
      conv => rhs; rw [← List.map_id ps]
      exact List.map_congr_left fun p hp => wl_same n nm w h p (q1 p hp) (q2 p hp)
    match (b : BxF (Bx n)), h1, h2 with
    | .leaf nm' w' h', h1, h2 =>
      show (BxF.leaf nm' (if (nm' == nm) = true then w else w') (if (nm' == nm) = true then h else h') : BxF (Bx n)) = _
      cases hc : (nm' == nm) with
      | false => rfl
      | true =>
        have e := st_eq.mp hc
        have e1 : w' = w := h1.1 e
        have e2 : h' = h := h2.1 e
        rw [e1, e2]; rfl
    | .line c nm' g ps, h1, h2 =>
      show (BxF.line c nm' g (ps.map (wlV n nm w h)) : BxF (Bx n)) = _
      rw [mm ps h1.2 h2.2]
    | .pile nm' ps, h1, h2 =>
      show (BxF.pile nm' (ps.map (wlV n nm w h)) : BxF (Bx n)) = _
      rw [mm ps h1.2 h2.2]
    | .rim nm' a b c d p, h1, h2 =>
      show (BxF.rim nm' a b c d (wlV n nm w h p) : BxF (Bx n)) = _
      rw [wl_same n nm w h p (h1.2 p (List.mem_singleton.mpr rfl)) (h2.2 p (List.mem_singleton.mpr rfl))]
theorem wl_not {n : Nat} {nm : Str} {w h : Spn} {b : Bx n} (hn : nm ∉ nmsV n b) : wlV n nm w h b = b := wl_same n nm w h b (lfx_not _ _ _ _ _ hn) (lfx_not _ _ _ _ _ hn)
theorem wl_wl : ∀ (n : Nat) (nm : Str) (w h w1 h1 : Spn) (b : Bx n), wlV n nm w h (wlV n nm w1 h1 b) = wlV n nm w h b
  | 0, _, _, _, _, _, b => nomatch b
  | n + 1, nm, w, h, w1, h1, b => by
    have mm : ∀ ps : List (Bx n), (ps.map (wlV n nm w1 h1)).map (wlV n nm w h) = ps.map (wlV n nm w h) := fun ps => by
      rw [List.map_map]
      exact List.map_congr_left fun p _ => wl_wl n nm w h w1 h1 p
    match (b : BxF (Bx n)) with
    | .leaf nm' w' h' =>
      show (BxF.leaf nm' (if (nm' == nm) = true then w else (if (nm' == nm) = true then w1 else w')) (if (nm' == nm) = true then h else (if (nm' == nm) = true then h1 else h')) : BxF (Bx n)) = (BxF.leaf nm' (if (nm' == nm) = true then w else w') (if (nm' == nm) = true then h else h') : BxF (Bx n))
      cases (nm' == nm) <;> rfl
    | .line c nm' g ps =>
      show (BxF.line c nm' g ((ps.map (wlV n nm w1 h1)).map (wlV n nm w h)) : BxF (Bx n)) = (BxF.line c nm' g (ps.map (wlV n nm w h)) : BxF (Bx n))
      rw [mm]
    | .pile nm' ps =>
      show (BxF.pile nm' ((ps.map (wlV n nm w1 h1)).map (wlV n nm w h)) : BxF (Bx n)) = (BxF.pile nm' (ps.map (wlV n nm w h)) : BxF (Bx n))
      rw [mm]
    | .rim nm' a b c d p =>
      show (BxF.rim nm' a b c d (wlV n nm w h (wlV n nm w1 h1 p)) : BxF (Bx n)) = (BxF.rim nm' a b c d (wlV n nm w h p) : BxF (Bx n))
      rw [wl_wl n nm w h w1 h1 p]
theorem wl_comm : ∀ (n : Nat) (nm nm2 : Str) (w h w1 h1 : Spn) (b : Bx n), nm ≠ nm2 → wlV n nm w h (wlV n nm2 w1 h1 b) = wlV n nm2 w1 h1 (wlV n nm w h b)
  | 0, _, _, _, _, _, _, b, _ => nomatch b
  | n + 1, nm, nm2, w, h, w1, h1, b, ne => by
    have mm : ∀ ps : List (Bx n), (ps.map (wlV n nm2 w1 h1)).map (wlV n nm w h) = (ps.map (wlV n nm w h)).map (wlV n nm2 w1 h1) := fun ps => by
      rw [List.map_map, List.map_map]
      exact List.map_congr_left fun p _ => wl_comm n nm nm2 w h w1 h1 p ne
    match (b : BxF (Bx n)) with
    | .leaf nm' w' h' =>
      show (BxF.leaf nm' (if (nm' == nm) = true then w else (if (nm' == nm2) = true then w1 else w')) (if (nm' == nm) = true then h else (if (nm' == nm2) = true then h1 else h')) : BxF (Bx n)) = (BxF.leaf nm' (if (nm' == nm2) = true then w1 else (if (nm' == nm) = true then w else w')) (if (nm' == nm2) = true then h1 else (if (nm' == nm) = true then h else h')) : BxF (Bx n))
      cases c1 : (nm' == nm) <;> cases c2 : (nm' == nm2) <;> first | rfl | exact absurd ((st_eq.mp c1).symm.trans (st_eq.mp c2)) ne
    | .line c nm' g ps =>
      show (BxF.line c nm' g ((ps.map (wlV n nm2 w1 h1)).map (wlV n nm w h)) : BxF (Bx n)) = (BxF.line c nm' g ((ps.map (wlV n nm w h)).map (wlV n nm2 w1 h1)) : BxF (Bx n))
      rw [mm]
    | .pile nm' ps =>
      show (BxF.pile nm' ((ps.map (wlV n nm2 w1 h1)).map (wlV n nm w h)) : BxF (Bx n)) = (BxF.pile nm' ((ps.map (wlV n nm w h)).map (wlV n nm2 w1 h1)) : BxF (Bx n))
      rw [mm]
    | .rim nm' a b c d p =>
      show (BxF.rim nm' a b c d (wlV n nm w h (wlV n nm2 w1 h1 p)) : BxF (Bx n)) = (BxF.rim nm' a b c d (wlV n nm2 w1 h1 (wlV n nm w h p)) : BxF (Bx n))
      rw [wl_comm n nm nm2 w h w1 h1 p ne]
theorem trn_wl : ∀ (n : Nat) (nm : Str) (w h : Spn) (b : Bx n), trnV n (wlV n nm w h b) = wlV n nm h w (trnV n b)
  | 0, _, _, _, b => nomatch b
  | n + 1, nm, w, h, b => by
    have mm : ∀ ps : List (Bx n), (ps.map (wlV n nm w h)).map (trnV n) = (ps.map (trnV n)).map (wlV n nm h w) := fun ps => by
      rw [List.map_map, List.map_map]
      exact List.map_congr_left fun p _ => trn_wl n nm w h p
    match (b : BxF (Bx n)) with
    | .leaf nm' w' h' => rfl
    | .line c nm' g ps =>
      show (BxF.line (!c) nm' g ((ps.map (wlV n nm w h)).map (trnV n)) : BxF (Bx n)) = (BxF.line (!c) nm' g ((ps.map (trnV n)).map (wlV n nm h w)) : BxF (Bx n))
      rw [mm]
    | .pile nm' ps =>
      show (BxF.pile nm' ((ps.map (wlV n nm w h)).map (trnV n)) : BxF (Bx n)) = (BxF.pile nm' ((ps.map (trnV n)).map (wlV n nm h w)) : BxF (Bx n))
      rw [mm]
    | .rim nm' a b c d p =>
      show (BxF.rim nm' b a d c (trnV n (wlV n nm w h p)) : BxF (Bx n)) = (BxF.rim nm' b a d c (wlV n nm h w (trnV n p)) : BxF (Bx n))
      rw [trn_wl n nm w h p]
/-! one way alone -/
theorem wl_spn : ∀ (hi : Bool) (n : Nat) (nm : Str) (w h : Spn) (b : Bx n), LfX hi n nm (if hi = true then h else w) b → spnV n hi (wlV n nm w h b) = spnV n hi b
  | _, 0, _, _, _, b, _ => nomatch b
  | hi, n + 1, nm, w, h, b, hx => by
    have mm : ∀ ps : List (Bx n), (∀ p ∈ ps, LfX hi n nm (if hi = true then h else w) p) → (ps.map (wlV n nm w h)).map (spnV n hi) = ps.map (spnV n hi) := fun ps q => by
      rw [List.map_map]
      exact List.map_congr_left fun p hp => wl_spn hi n nm w h p (q p hp)
    match (b : BxF (Bx n)), hx with
    | .leaf nm' w' h', hx =>
      show (if hi = true then (if (nm' == nm) = true then h else h') else (if (nm' == nm) = true then w else w')) = (if hi = true then h' else w')
      cases hc : (nm' == nm) with
      | false => rfl
      | true =>
        have e : (if hi = true then h' else w') = (if hi = true then h else w) := hx.1 (st_eq.mp hc)
        rw [e]; rfl
    | .line c nm' g ps, hx =>
      show (if c = hi then jnV true (g * (((ps.map (wlV n nm w h)).length : Int) - 1)) ((ps.map (wlV n nm w h)).map (spnV n hi)) else jnV false 0 ((ps.map (wlV n nm w h)).map (spnV n hi))) = (if c = hi then jnV true (g * ((ps.length : Int) - 1)) (ps.map (spnV n hi)) else jnV false 0 (ps.map (spnV n hi)))
      rw [mm ps hx.2, List.length_map]
    | .pile nm' ps, hx =>
      show jnV false 0 ((ps.map (wlV n nm w h)).map (spnV n hi)) = jnV false 0 (ps.map (spnV n hi))
      rw [mm ps hx.2]
    | .rim nm' a b c d p, hx =>
      show moreV (spnV n hi (wlV n nm w h p)) (if hi = true then b + d else a + c) = moreV (spnV n hi p) (if hi = true then b + d else a + c)
      rw [wl_spn hi n nm w h p (hx.2 p (List.mem_singleton.mpr rfl))]
theorem wl_line {hi : Bool} {n : Nat} {nm : Str} {w h : Spn} {b : Bx (n + 1)} (hx : LfX hi (n + 1) nm (if hi = true then h else w) b) (beg len : Int) : lineV hi (wlV (n + 1) nm w h b) beg len = lineV hi b beg len := by
  have mm : ∀ ps : List (Bx n), (∀ p ∈ ps, LfX hi n nm (if hi = true then h else w) p) → (ps.map (wlV n nm w h)).map (spnV n hi) = ps.map (spnV n hi) := fun ps q => by
    rw [List.map_map]
    exact List.map_congr_left fun p hp => wl_spn hi n nm w h p (q p hp)
  have m2 : ∀ ps : List (Bx n), (∀ p ∈ ps, LfX hi n nm (if hi = true then h else w) p) → ((ps.map (wlV n nm w h)).map fun p => (beg, takV (spnV n hi p) len)) = ps.map fun p => (beg, takV (spnV n hi p) len) := fun ps q => by
    rw [List.map_map]
    exact List.map_congr_left fun p hp => by show (beg, takV (spnV n hi (wlV n nm w h p)) len) = _; rw [wl_spn hi n nm w h p (q p hp)]
  match (b : BxF (Bx n)), hx with
  | .leaf _ _ _, _ => rfl
  | .line c nm' g ps, hx =>
    show (if c = hi then begs g beg (lenS ((ps.map (wlV n nm w h)).map (spnV n hi)) g len) else (ps.map (wlV n nm w h)).map fun p => (beg, takV (spnV n hi p) len)) = (if c = hi then begs g beg (lenS (ps.map (spnV n hi)) g len) else ps.map fun p => (beg, takV (spnV n hi p) len))
    rw [mm ps hx.2, m2 ps hx.2]
  | .pile nm' ps, hx => exact m2 ps hx.2
  | .rim nm' a b c d p, hx =>
    show [(beg + (if hi = true then b else a), takV (spnV n hi (wlV n nm w h p)) (max 0 (len - (if hi = true then b + d else a + c))))] = _
    rw [wl_spn hi n nm w h p (hx.2 p (List.mem_singleton.mpr rfl))]
    rfl
/-- the places one way -/
noncomputable def axP (hi : Bool) : (n : Nat) → Bx n → Int → Int → List (Int × Int)
  | 0, b, _, _ => nomatch b
  | n + 1, b, beg, len => (beg, len) :: ((inB b).zip (lineV hi b beg len)).flatMap fun x => axP hi n x.1 x.2.1 x.2.2
def axR (hi : Bool) (r : Row) : Int × Int := if hi = true then (r.2.2.1, r.2.2.2.2) else (r.2.1, r.2.2.2.1)
theorem zip3l {α β γ δ : Type} (f : α → β → List δ) : ∀ (xs : List α) (ys : List β) (zs : List γ), ys.length = zs.length → ((xs.zip (ys.zip zs)).flatMap fun x => f x.1 x.2.1) = (xs.zip ys).flatMap fun x => f x.1 x.2
  | [], _, _, _ => by simp
  | _ :: _, [], zs, _ => by simp
  | _ :: _, _ :: _, [], h => by simp at h
  | x :: xs, y :: ys, z :: zs, h => by
    simp only [List.zip_cons_cons, List.flatMap_cons]
    rw [zip3l f xs ys zs (by simpa using h)]
theorem zip3r {α β γ δ : Type} (f : α → γ → List δ) : ∀ (xs : List α) (ys : List β) (zs : List γ), ys.length = zs.length → ((xs.zip (ys.zip zs)).flatMap fun x => f x.1 x.2.2) = (xs.zip zs).flatMap fun x => f x.1 x.2
  | [], _, _, _ => by simp
  | _ :: _, [], [], _ => by simp
  | _ :: _, [], _ :: _, h => by simp at h
  | _ :: _, _ :: _, [], h => by simp at h
  | x :: xs, y :: ys, z :: zs, h => by
    simp only [List.zip_cons_cons, List.flatMap_cons]
    rw [zip3r f xs ys zs (by simpa using h)]
theorem plc_axF : ∀ (n : Nat) (b : Bx n) (l u w h : Int), (plcV n b l u w h).map (axR false) = axP false n b l w
  | 0, b, _, _, _, _ => nomatch b
  | n + 1, b, l, u, w, h => by
    rw [plcV, axP, List.map_cons, List.map_flatMap]
    congr 1
    rw [← zip3l (fun p y => axP false n p y.1 y.2) (inB b) (lineV false b l w) (lineV true b u h) (by rw [lineV_len, lineV_len])]
    exact flatMap_congr' fun x _ => plc_axF n x.1 _ _ _ _
theorem plc_axT : ∀ (n : Nat) (b : Bx n) (l u w h : Int), (plcV n b l u w h).map (axR true) = axP true n b u h
  | 0, b, _, _, _, _ => nomatch b
  | n + 1, b, l, u, w, h => by
    rw [plcV, axP, List.map_cons, List.map_flatMap]
    congr 1
    rw [← zip3r (fun p y => axP true n p y.1 y.2) (inB b) (lineV false b l w) (lineV true b u h) (by rw [lineV_len, lineV_len])]
    exact flatMap_congr' fun x _ => plc_axT n x.1 _ _ _ _
theorem plc_ax (hi : Bool) (n : Nat) (b : Bx n) (l u w h : Int) : (plcV n b l u w h).map (axR hi) = axP hi n b (if hi = true then u else l) (if hi = true then h else w) := by
  cases hi
  · exact plc_axF n b l u w h
  · exact plc_axT n b l u w h
theorem wl_axP : ∀ (hi : Bool) (n : Nat) (nm : Str) (w h : Spn) (b : Bx n) (beg len : Int), LfX hi n nm (if hi = true then h else w) b → axP hi n (wlV n nm w h b) beg len = axP hi n b beg len
  | _, 0, _, _, _, b, _, _, _ => nomatch b
  | hi, n + 1, nm, w, h, b, beg, len, hx => by
    rw [axP, axP, wl_line hx, wl_in, zip_mapl, List.flatMap_map]
    congr 1
    exact flatMap_congr' fun x hx' => wl_axP hi n nm w h x.1 _ _ (hx.2 x.1 (List.of_mem_zip hx').1)
theorem zip_eqs {α β γ : Type} {f : α → γ} {g : β → γ} : ∀ (xs : List α) (ys : List β), xs.map f = ys.map g → ∀ z ∈ xs.zip ys, f z.1 = g z.2
  | [], _, _, z, hz => by simp at hz
  | _ :: _, [], _, z, hz => by simp at hz
  | x :: xs, y :: ys, h, z, hz => by
    rw [List.map_cons, List.map_cons, List.cons.injEq] at h
    rw [List.zip_cons_cons] at hz
    rcases List.mem_cons.mp hz with rfl | hz
    · exact h.1
    · exact zip_eqs xs ys h.2 z hz
/-! what changes -/
theorem axR_F {r s : Row} : (r.2.1 = s.2.1 ∧ r.2.2.2.1 = s.2.2.2.1) ↔ axR false r = axR false s := by
  show _ ↔ (r.2.1, r.2.2.2.1) = (s.2.1, s.2.2.2.1)
  rw [Prod.mk.injEq]
theorem axR_T {r s : Row} : (r.2.2.1 = s.2.2.1 ∧ r.2.2.2.2 = s.2.2.2.2) ↔ axR true r = axR true s := by
  show _ ↔ (r.2.2.1, r.2.2.2.2) = (s.2.2.1, s.2.2.2.2)
  rw [Prod.mk.injEq]
theorem mem_chR {r s : Row} {p : Str × Str} : p ∈ chR r s ↔ ∃ hi : Bool, p = (r.1, axS hi) ∧ axR hi r ≠ axR hi s := by
  unfold chR
  constructor
  · intro h
    rcases List.mem_append.mp h with h | h
    · split at h
      · cases h
      · rename_i c
        exact ⟨false, List.mem_singleton.mp h, fun e => c (axR_F.mpr e)⟩
    · split at h
      · cases h
      · rename_i c
        exact ⟨true, List.mem_singleton.mp h, fun e => c (axR_T.mpr e)⟩
  · rintro ⟨hi, rfl, c⟩
    cases hi
    · refine List.mem_append_left _ ?_
      rw [if_neg (fun e => c (axR_F.mp e))]
      exact List.mem_singleton.mpr rfl
    · refine List.mem_append_right _ ?_
      rw [if_neg (fun e => c (axR_T.mp e))]
      exact List.mem_singleton.mpr rfl
theorem mem_chgL {rs ss : List Row} {p : Str × Str} : p ∈ chgL rs ss ↔ ∃ z ∈ rs.zip ss, ∃ hi : Bool, p = (z.1.1, axS hi) ∧ axR hi z.1 ≠ axR hi z.2 := by
  unfold chgL
  rw [List.mem_flatMap]
  constructor
  · rintro ⟨z, hz, h⟩
    exact ⟨z, hz, mem_chR.mp h⟩
  · rintro ⟨z, hz, h⟩
    exact ⟨z, hz, mem_chR.mpr h⟩
theorem chg_self : ∀ rs : List Row, chgL rs rs = []
  | [] => rfl
  | r :: rs => by
    have ih := chg_self rs
    unfold chgL at ih ⊢
    rw [List.zip_cons_cons, List.flatMap_cons, ih]
    show chR r r ++ [] = []
    unfold chR
    rw [if_pos ⟨rfl, rfl⟩, if_pos ⟨rfl, rfl⟩]
    rfl
theorem chg_sym : ∀ rs ss : List Row, rs.map (fun r => r.1) = ss.map (fun r => r.1) → chgL rs ss = chgL ss rs
  | [], ss, _ => by unfold chgL; cases ss <;> rfl
  | _ :: _, [], _ => rfl
  | r :: rs, s :: ss, h => by
    rw [List.map_cons, List.map_cons, List.cons.injEq] at h
    have ih := chg_sym rs ss h.2
    unfold chgL at ih ⊢
    rw [List.zip_cons_cons, List.flatMap_cons, List.zip_cons_cons, List.flatMap_cons, ih]
    congr 1
    show chR r s = chR s r
    unfold chR
    rw [h.1]
    by_cases c1 : r.2.1 = s.2.1 ∧ r.2.2.2.1 = s.2.2.2.1 <;> by_cases c2 : r.2.2.1 = s.2.2.1 ∧ r.2.2.2.2 = s.2.2.2.2
    · rw [if_pos c1, if_pos c2, if_pos ⟨c1.1.symm, c1.2.symm⟩, if_pos ⟨c2.1.symm, c2.2.symm⟩]
    · rw [if_pos c1, if_neg c2, if_pos ⟨c1.1.symm, c1.2.symm⟩, if_neg (fun q => c2 ⟨q.1.symm, q.2.symm⟩)]
    · rw [if_neg c1, if_pos c2, if_neg (fun q => c1 ⟨q.1.symm, q.2.symm⟩), if_pos ⟨c2.1.symm, c2.2.symm⟩]
    · rw [if_neg c1, if_neg c2, if_neg (fun q => c1 ⟨q.1.symm, q.2.symm⟩), if_neg (fun q => c2 ⟨q.1.symm, q.2.symm⟩)]
theorem chg_tri : ∀ rs ss ts : List Row, rs.map (fun r => r.1) = ss.map (fun r => r.1) → ∀ p ∈ chgL rs ts, p ∈ chgL rs ss ∨ p ∈ chgL ss ts
  | [], ss, ts, _, p, hp => by simp [chgL] at hp
  | _ :: _, [], ts, h, p, hp => by simp at h
  | _ :: _, _ :: _, [], _, p, hp => by simp [chgL] at hp
  | r :: rs, s :: ss, t :: ts, h, p, hp => by
    rw [List.map_cons, List.map_cons, List.cons.injEq] at h
    obtain ⟨z, hz, hi, e, c⟩ := mem_chgL.mp hp
    rw [List.zip_cons_cons] at hz
    rcases List.mem_cons.mp hz with rfl | hz
    · by_cases c1 : axR hi r = axR hi s
      · refine .inr (mem_chgL.mpr ⟨(s, t), List.mem_cons_self, hi, ?_, fun q => c (c1.trans q)⟩)
        rw [e]
        show (r.1, axS hi) = (s.1, axS hi)
        rw [h.1]
      · exact .inl (mem_chgL.mpr ⟨(r, s), List.mem_cons_self, hi, e, c1⟩)
    · rcases chg_tri rs ss ts h.2 p (mem_chgL.mpr ⟨z, hz, hi, e, c⟩) with q | q
      · obtain ⟨y, hy, q⟩ := mem_chgL.mp q
        exact .inl (mem_chgL.mpr ⟨y, List.mem_cons_of_mem _ hy, q⟩)
      · obtain ⟨y, hy, q⟩ := mem_chgL.mp q
        exact .inr (mem_chgL.mpr ⟨y, List.mem_cons_of_mem _ hy, q⟩)
/-- a leaf changed one way changes nothing the other way -/
theorem chg_one {n : Nat} {nm : Str} {w h : Spn} {b : Bx n} {hi : Bool} (hx : LfX hi n nm (if hi = true then h else w) b) {l u W H : Int} : ∀ p ∈ chgL (plcV n b l u W H) (plcV n (wlV n nm w h b) l u W H), ∃ x, p = (x, axS (!hi)) := by
  intro p hp
  obtain ⟨z, hz, h2, e, c⟩ := mem_chgL.mp hp
  by_cases q : h2 = hi
  · subst q
    refine absurd (zip_eqs (f := axR h2) (g := axR h2) _ _ ?_ z hz) c
    rw [plc_ax, plc_ax, wl_axP h2 n nm w h b _ _ hx]
  · refine ⟨z.1.1, ?_⟩
    rw [e]
    cases h2 <;> cases hi <;> first | rfl | exact absurd rfl q
/-! changes lie among those that may be -/
theorem zip_flat {α β γ δ : Type} {f : α → List γ} {g : β → List δ} : ∀ (xs : List α) (ys : List β), (∀ z ∈ xs.zip ys, (f z.1).length = (g z.2).length) → xs.length = ys.length → (xs.flatMap f).zip (ys.flatMap g) = (xs.zip ys).flatMap fun z => (f z.1).zip (g z.2)
  | [], [], _, _ => rfl
  | [], _ :: _, _, h => by simp at h
  | _ :: _, [], _, h => by simp at h
  | x :: xs, y :: ys, h, hl => by
    rw [List.flatMap_cons, List.flatMap_cons, List.zip_cons_cons, List.flatMap_cons, List.zip_append (h (x, y) List.mem_cons_self), zip_flat xs ys (fun z hz => h z (List.mem_cons_of_mem _ hz)) (by simpa using hl)]
theorem plc_nlen (n : Nat) (b : Bx n) (l u w h : Int) : (plcV n b l u w h).length = (nmsV n b).length := by
  rw [← plc_names n b l u w h, List.length_map]
theorem in_names {nm : Str} {ns : List Str} : inSeq (.str nm) (ns.map PyData.str) = true ↔ nm ∈ ns := by
  unfold inSeq
  rw [List.any_eq_true]
  constructor
  · rintro ⟨x, hx, h⟩
    obtain ⟨y, hy, rfl⟩ := List.mem_map.mp hx
    have : (y == nm) = true := h
    rw [← st_eq.mp this]
    exact hy
  · intro h
    exact ⟨.str nm, List.mem_map.mpr ⟨nm, h, rfl⟩, st_eq.mpr rfl⟩
theorem mem_mayP {nm : Str} {mw mh : Bool} {ns : List Str} {o : Str} {hi : Bool} (ho : o ∈ ns) (h : nm ∈ ns ∨ (if hi = true then mh else mw) = true) : (o, axS hi) ∈ mayP nm mw mh ns := by
  unfold mayP
  cases hi
  · refine List.mem_append_left _ ?_
    rw [if_pos (by rw [Bool.or_eq_true]; exact h.imp in_names.mpr id)]
    exact List.mem_map.mpr ⟨o, ho, rfl⟩
  · refine List.mem_append_right _ ?_
    rw [if_pos (by rw [Bool.or_eq_true]; exact h.imp in_names.mpr id)]
    exact List.mem_map.mpr ⟨o, ho, rfl⟩
theorem line_at {n : Nat} {hi : Bool} {b : Bx (n + 1)} {nm : Str} {w h : Spn} (beg len : Int) (hm : mnW b hi = false) {i : Nat} {p : Bx n} (hp : (inB b)[i]? = some p) (hs : spnV n hi (wlV n nm w h p) = spnV n hi p) : (lineV hi (wlV (n + 1) nm w h b) beg len)[i]? = (lineV hi b beg len)[i]? := by
  have mm : ∀ ps : List (Bx n), ps[i]? = some p → ((ps.map (wlV n nm w h)).map fun p => (beg, takV (spnV n hi p) len))[i]? = (ps.map fun p => (beg, takV (spnV n hi p) len))[i]? := fun ps q => by
    rw [List.getElem?_map, List.getElem?_map, List.getElem?_map, q]
    show some (beg, takV (spnV n hi (wlV n nm w h p)) len) = some (beg, takV (spnV n hi p) len)
    rw [hs]
  match (b : BxF (Bx n)), hm, hp with
  | .leaf _ _ _, _, _ => rfl
  | .line c nm' g ps, hm, hp =>
    have hc : ¬ c = hi := of_decide_eq_false hm
    show (if c = hi then begs g beg (lenS ((ps.map (wlV n nm w h)).map (spnV n hi)) g len) else (ps.map (wlV n nm w h)).map fun p => (beg, takV (spnV n hi p) len))[i]? = (if c = hi then begs g beg (lenS (ps.map (spnV n hi)) g len) else ps.map fun p => (beg, takV (spnV n hi p) len))[i]?
    rw [if_neg hc, if_neg hc]
    exact mm ps hp
  | .pile nm' ps, _, hp => exact mm ps hp
  | .rim nm' a b c d q, _, hp =>
    have hp : [q][i]? = some p := hp
    have hq : q = p := by
      cases i with
      | zero => exact Option.some.inj hp
      | succ i => cases hp
    subst hq
    show ([(beg + (if hi = true then b else a), takV (spnV n hi (wlV n nm w h q)) (max 0 (len - (if hi = true then b + d else a + c))))] : List (Int × Int))[i]? = _
    rw [hs]
    rfl
theorem chg_may {n : Nat} {nm : Str} {w h : Spn} {b : Bx (n + 1)} {l u W H : Int} : ∀ p ∈ chgL (plcV (n + 1) b l u W H) (plcV (n + 1) (wlV (n + 1) nm w h b) l u W H), p ∈ mayL b nm := by
  intro q hq
  obtain ⟨z, hz, hi, e, c⟩ := mem_chgL.mp hq
  rw [plcV, plcV, List.zip_cons_cons] at hz
  rcases List.mem_cons.mp hz with rfl | hz
  · refine absurd ?_ c
    cases hi <;> rfl
  have hL : ∀ x : Bx (n + 1), ((inB x).zip ((lineV false x l W).zip (lineV true x u H))).length = (inB x).length := fun x => by
    rw [List.length_zip, List.length_zip, lineV_len, lineV_len]
    omega
  have gt : ∀ (x : Bx (n + 1)) (i : Nat) (y : Bx n × (Int × Int) × Int × Int), ((inB x).zip ((lineV false x l W).zip (lineV true x u H)))[i]? = some y → (inB x)[i]? = some y.1 ∧ (lineV false x l W)[i]? = some y.2.1 ∧ (lineV true x u H)[i]? = some y.2.2 := fun x i y hy => by
    rw [List.getElem?_zip_eq_some] at hy
    have h2 := hy.2
    rw [List.getElem?_zip_eq_some] at h2
    exact ⟨hy.1, h2⟩
  have at_ : ∀ x ∈ ((inB b).zip ((lineV false b l W).zip (lineV true b u H))).zip ((inB (wlV (n + 1) nm w h b)).zip ((lineV false (wlV (n + 1) nm w h b) l W).zip (lineV true (wlV (n + 1) nm w h b) u H))), ∃ i : Nat, ((inB b)[i]? = some x.1.1 ∧ (lineV false b l W)[i]? = some x.1.2.1 ∧ (lineV true b u H)[i]? = some x.1.2.2) ∧ ((inB (wlV (n + 1) nm w h b))[i]? = some x.2.1 ∧ (lineV false (wlV (n + 1) nm w h b) l W)[i]? = some x.2.2.1 ∧ (lineV true (wlV (n + 1) nm w h b) u H)[i]? = some x.2.2.2) ∧ x.2.1 = wlV n nm w h x.1.1 := fun x hx => by
    obtain ⟨i, hi⟩ := List.getElem?_of_mem hx
    rw [List.getElem?_zip_eq_some] at hi
    have h1 := gt _ i _ hi.1
    have h2 := gt _ i _ hi.2
    refine ⟨i, h1, h2, ?_⟩
    have h3 := h2.1
    rw [wl_in, List.getElem?_map, h1.1] at h3
    exact (Option.some.inj h3).symm
  rw [zip_flat _ _ (fun x hx => by
    obtain ⟨i, h1, h2, h3⟩ := at_ x hx
    rw [plc_nlen, plc_nlen, h3, wl_names]) (by rw [hL, hL, wl_in, List.length_map])] at hz
  obtain ⟨x, hx, hz⟩ := List.mem_flatMap.mp hz
  obtain ⟨i, h1, h2, h3⟩ := at_ x hx
  have pin : x.1.1 ∈ inB b := List.mem_of_getElem? h1.1
  have oin : z.1.1 ∈ nmsV n x.1.1 := by
    rw [← plc_names n x.1.1 x.1.2.1.1 x.1.2.2.1 x.1.2.1.2 x.1.2.2.2]
    exact List.mem_map.mpr ⟨z.1, (List.of_mem_zip hz).1, rfl⟩
  unfold mayL
  rw [e]
  refine List.mem_flatMap.mpr ⟨x.1.1, pin, mem_mayP oin ?_⟩
  by_cases hn : nm ∈ nmsV n x.1.1
  · exact .inl hn
  · refine .inr ?_
    rw [wl_not hn] at h3
    cases hm : mnW b hi with
    | true => cases hi <;> exact hm
    | false =>
      refine absurd (zip_eqs (f := axR hi) (g := axR hi) _ _ ?_ z hz) c
      rw [plc_ax, plc_ax, h3]
      cases hi with
      | false =>
        have := line_at (nm := nm) (w := w) (h := h) l W hm h1.1 (by rw [wl_not hn])
        rw [h1.2.1, h2.2.1] at this
        rw [Option.some.inj this]
        rfl
      | true =>
        have := line_at (nm := nm) (w := w) (h := h) u H hm h1.1 (by rw [wl_not hn])
        rw [h1.2.2, h2.2.2] at this
        rw [Option.some.inj this]
        rfl
/-! turned -/
def axO (s : Str × Str) : Str × Str := (s.1, if (s.2 == axW) = true then axH else axW)
theorem trn_mn {n : Nat} (b : Bx (n + 1)) (hi : Bool) : mnW (trnV (n + 1) b) hi = mnW b (!hi) := by
  match (b : BxF (Bx n)) with
  | .leaf _ _ _ => rfl
  | .line c _ _ _ => cases c <;> cases hi <;> rfl
  | .pile _ _ => rfl
  | .rim _ _ _ _ _ _ => rfl
theorem mayP_sw (nm : Str) (mw mh : Bool) (ns : List Str) : (mayP nm mh mw ns).Perm ((mayP nm mw mh ns).map axO) := by
  have a1 : ∀ o : Str, axO (o, axW) = (o, axH) := fun o => rfl
  have a2 : ∀ o : Str, axO (o, axH) = (o, axW) := fun o => rfl
  unfold mayP
  rw [List.map_append]
  refine List.perm_append_comm.trans ?_
  cases (inSeq (.str nm) (ns.map PyData.str) || mw) <;> cases (inSeq (.str nm) (ns.map PyData.str) || mh) <;> simp only [Bool.false_eq_true, if_true, if_false, List.map_map, List.map_nil, Function.comp_def, a1, a2] <;> exact .refl _
theorem fl_map {α β γ : Type} (f : β → γ) (g : α → List β) (xs : List α) : (xs.flatMap g).map f = xs.flatMap fun x => (g x).map f := List.map_flatMap
theorem mayL_trn {n : Nat} (b : Bx (n + 1)) (nm : Str) : (mayL (trnV (n + 1) b) nm).Perm ((mayL b nm).map axO) := by
  unfold mayL
  rw [trn_in, trn_mn, trn_mn, Bool.not_false, Bool.not_true, fl_map, List.flatMap_map]
  refine flat_perm (inB b) fun p _ => ?_
  rw [trn_names]
  exact mayP_sw nm (mnW b false) (mnW b true) (nmsV n p)
/-! names of made boxes are all different -/
theorem made_pre : ∀ (n : Nat) (nm : Str) (b : Bx n), Made n nm b → ∀ x ∈ nmsV n b, ∃ t : List Nat, x.cps.toList = nm.cps.toList ++ t
  | 0, _, b, _ => nomatch b
  | n + 1, nm, b, h => by
    have mem : ∀ {ps : List (Bx n)}, (∀ k p, ps[k]? = some p → Made n (nm ++ chS k) p) → ∀ x ∈ ps.flatMap (nmsV n), ∃ t : List Nat, x.cps.toList = nm.cps.toList ++ t := fun {ps} hp x hx => by
      obtain ⟨p, hm, hx⟩ := List.mem_flatMap.mp hx
      obtain ⟨k, hk⟩ := List.getElem?_of_mem hm
      obtain ⟨t, ht⟩ := made_pre n _ p (hp k p hk) x hx
      refine ⟨[97 + k] ++ t, ?_⟩
      rw [ht]
      show (nm.cps ++ #[97 + k]).toList ++ t = _
      rw [Array.toList_append, List.append_assoc]
    intro x hx
    rw [nmsV] at hx
    match (b : BxF (Bx n)), h, hx with
    | .leaf nm' w h', h, hx =>
      rcases List.mem_cons.mp hx with rfl | hx
      · exact ⟨[], by have e := h.1; rw [List.append_nil]; exact congrArg (fun s : Str => s.cps.toList) e⟩
      · exact absurd hx (by simp [inB])
    | .line _ nm' g ps, h, hx =>
      rcases List.mem_cons.mp hx with rfl | hx
      · exact ⟨[], by have e := h.1; rw [List.append_nil]; exact congrArg (fun s : Str => s.cps.toList) e⟩
      · exact mem h.2.2.2.2.2 x hx
    | .pile nm' ps, h, hx =>
      rcases List.mem_cons.mp hx with rfl | hx
      · exact ⟨[], by have e := h.1; rw [List.append_nil]; exact congrArg (fun s : Str => s.cps.toList) e⟩
      · exact mem h.2.2.2 x hx
    | .rim nm' a b c d p, h, hx =>
      rcases List.mem_cons.mp hx with rfl | hx
      · exact ⟨[], by have e := h.1; rw [List.append_nil]; exact congrArg (fun s : Str => s.cps.toList) e⟩
      · refine mem (ps := [p]) (fun k q hk => ?_) x hx
        cases k with
        | zero => cases hk; exact h.2.2.2.2.2
        | succ k => cases hk
theorem made_parts {n : Nat} {nm : Str} {b : Bx (n + 1)} (h : Made (n + 1) nm b) : bxN (n + 1) b = nm ∧ ∀ k p, (inB b)[k]? = some p → Made n (nm ++ chS k) p := by
  match (b : BxF (Bx n)), h with
  | .leaf nm' w h', h => exact ⟨h.1, fun k p hk => absurd hk (by simp [inB])⟩
  | .line _ nm' g ps, h => exact ⟨h.1, h.2.2.2.2.2⟩
  | .pile nm' ps, h => exact ⟨h.1, h.2.2.2⟩
  | .rim nm' a b c d p, h => exact ⟨h.1, fun k q hk => by
      have hk : [p][k]? = some q := hk
      cases k with
      | zero => cases hk; exact h.2.2.2.2.2
      | succ k => cases hk⟩
theorem made_apart {n : Nat} {nm : Str} {b : Bx (n + 1)} (h : Made (n + 1) nm b) : (inB b).Pairwise fun p q => ∀ x ∈ nmsV n p, ∀ y ∈ nmsV n q, x ≠ y := by
  obtain ⟨_, h2⟩ := made_parts h
  rw [List.pairwise_iff_getElem]
  intro i j hi hj hij x hx y hy e
  obtain ⟨t, ht⟩ := made_pre n _ _ (h2 i _ (List.getElem?_eq_getElem hi)) x hx
  obtain ⟨t', ht'⟩ := made_pre n _ _ (h2 j _ (List.getElem?_eq_getElem hj)) y hy
  rw [e, ht'] at ht
  have ht : (nm.cps ++ #[97 + j]).toList ++ t' = (nm.cps ++ #[97 + i]).toList ++ t := ht
  rw [Array.toList_append, Array.toList_append, List.append_assoc, List.append_assoc] at ht
  have := List.append_cancel_left ht
  have : 97 + j = 97 + i := (List.cons.inj this).1
  omega
theorem made_nodup : ∀ (n : Nat) (nm : Str) (b : Bx n), Made n nm b → (nmsV n b).Nodup
  | 0, _, b, _ => nomatch b
  | n + 1, nm, b, h => by
    obtain ⟨h1, h2⟩ := made_parts h
    rw [nmsV, List.nodup_cons]
    constructor
    · intro hx
      obtain ⟨p, hp, hx⟩ := List.mem_flatMap.mp hx
      obtain ⟨k, hk⟩ := List.getElem?_of_mem hp
      obtain ⟨t, ht⟩ := made_pre n _ p (h2 k p hk) _ hx
      rw [h1] at ht
      have ht : nm.cps.toList = (nm.cps ++ #[97 + k]).toList ++ t := ht
      rw [Array.toList_append] at ht
      have := congrArg List.length ht
      simp at this
    · refine List.pairwise_flatMap.mpr ⟨fun p hp => ?_, made_apart h⟩
      obtain ⟨k, hk⟩ := List.getElem?_of_mem hp
      exact made_nodup n _ p (h2 k p hk)
/-! the leaf of a name -/
def lfV : (n : Nat) → Str → Bx n → Option (Spn × Spn)
  | 0, _, b => nomatch b
  | n + 1, nm, b => match (b : BxF (Bx n)) with
    | .leaf nm' w h => if (nm' == nm) = true then some (w, h) else none
    | .line _ _ _ ps => ps.findSome? (lfV n nm)
    | .pile _ ps => ps.findSome? (lfV n nm)
    | .rim _ _ _ _ _ p => [p].findSome? (lfV n nm)
theorem lfv_in {n : Nat} {nm : Str} {b : Bx (n + 1)} (h : isLf b = false) : lfV (n + 1) nm b = (inB b).findSome? (lfV n nm) := by
  match (b : BxF (Bx n)), h with
  | .leaf _ _ _, h => cases h
  | .line _ _ _ _, _ => rfl
  | .pile _ _, _ => rfl
  | .rim _ _ _ _ _ _, _ => rfl
theorem lf_ex : ∀ (n : Nat) (nm : Str) (b : Bx n), nm ∈ lvsV n b → ∃ s, lfV n nm b = some s
  | 0, _, b, _ => nomatch b
  | n + 1, nm, b, h => by
    have mm : ∀ ps : List (Bx n), nm ∈ ps.flatMap (lvsV n) → ∃ s, ps.findSome? (lfV n nm) = some s := fun ps hp => by
      obtain ⟨p, hp, hx⟩ := List.mem_flatMap.mp hp
      obtain ⟨s, hs⟩ := lf_ex n nm p hx
      have : (ps.findSome? (lfV n nm)).isSome = true := List.findSome?_isSome_iff.mpr ⟨p, hp, by rw [hs]; rfl⟩
      exact Option.isSome_iff_exists.mp this
    match (b : BxF (Bx n)), h with
    | .leaf nm' w h', h =>
      have e : nm = nm' := by simpa [lvsV] using h
      exact ⟨(w, h'), if_pos (st_eq.mpr e.symm)⟩
    | .line _ _ _ ps, h => exact mm ps h
    | .pile _ ps, h => exact mm ps h
    | .rim _ _ _ _ _ p, h => exact mm [p] (List.mem_flatMap.mpr ⟨p, List.mem_singleton.mpr rfl, h⟩)
theorem lf_name : ∀ (n : Nat) (nm : Str) (b : Bx n) (s : Spn × Spn), lfV n nm b = some s → nm ∈ nmsV n b
  | 0, _, b, _, _ => nomatch b
  | n + 1, nm, b, s, h => by
    rw [nmsV]
    have mm : (inB b).findSome? (lfV n nm) = some s → nm ∈ (inB b).flatMap (nmsV n) := fun q => by
      obtain ⟨p, hp, q⟩ := List.exists_of_findSome?_eq_some q
      exact List.mem_flatMap.mpr ⟨p, hp, lf_name n nm p s q⟩
    match (b : BxF (Bx n)), h, mm with
    | .leaf nm' w h', h, _ =>
      have h : (if (nm' == nm) = true then some (w, h') else none) = some s := h
      split at h
      · rename_i c
        have : bxN (n + 1) (BxF.leaf nm' w h' : BxF (Bx n)) = nm := st_eq.mp c
        rw [this]
        exact List.mem_cons_self
      · cases h
    | .line _ _ _ ps, h, mm => exact List.mem_cons_of_mem _ (mm h)
    | .pile _ ps, h, mm => exact List.mem_cons_of_mem _ (mm h)
    | .rim _ _ _ _ _ p, h, mm => exact List.mem_cons_of_mem _ (mm h)
theorem lf_lfx : ∀ (hi : Bool) (n : Nat) (nm : Str) (b : Bx n) (s : Spn × Spn), (nmsV n b).Nodup → lfV n nm b = some s → LfX hi n nm (if hi = true then s.2 else s.1) b
  | _, 0, _, b, _, _, _ => nomatch b
  | hi, n + 1, nm, b, s, hd, h => by
    rw [nmsV, List.nodup_cons] at hd
    have hp := List.pairwise_flatMap.mp hd.2
    have mm : (inB b).findSome? (lfV n nm) = some s → ∀ p ∈ inB b, LfX hi n nm (if hi = true then s.2 else s.1) p := fun q p hpi => by
      obtain ⟨p0, hp0, q0⟩ := List.exists_of_findSome?_eq_some q
      by_cases hn : nm ∈ nmsV n p
      · have n0 := lf_name n nm p0 s q0
        obtain ⟨i, hi'⟩ := List.getElem?_of_mem hpi
        obtain ⟨j, hj⟩ := List.getElem?_of_mem hp0
        obtain ⟨il, hi'⟩ := List.getElem?_eq_some_iff.mp hi'
        obtain ⟨jl, hj⟩ := List.getElem?_eq_some_iff.mp hj
        have pw := List.pairwise_iff_getElem.mp hp.2
        have e : i = j := by
          rcases Nat.lt_trichotomy i j with c | c | c
          · exact absurd rfl (pw i j il jl c nm (hi' ▸ hn) nm (hj ▸ n0))
          · exact c
          · exact absurd rfl (pw j i jl il c nm (hj ▸ n0) nm (hi' ▸ hn))
        subst e
        have e : p = p0 := hi'.symm.trans hj
        subst e
        exact lf_lfx hi n nm p s (hp.1 p hpi) q0
      · exact lfx_not hi n nm _ p hn
    match (b : BxF (Bx n)), h, mm with
    | .leaf nm' w h', h, _ =>
      refine ⟨fun e => ?_, fun p hp => absurd hp (by simp [inB])⟩
      have h : (if (nm' == nm) = true then some (w, h') else none) = some s := h
      rw [if_pos (st_eq.mpr e)] at h
      cases h
      rfl
    | .line _ _ _ ps, h, mm => exact ⟨trivial, mm h⟩
    | .pile _ ps, h, mm => exact ⟨trivial, mm h⟩
    | .rim _ _ _ _ _ p, h, mm => exact ⟨trivial, mm h⟩
theorem lf_lv : ∀ (n : Nat) (nm : Str) (w h : Spn) (b : Bx n) (s : Spn × Spn), lfV n nm (wlV n nm w h b) = some s → nm ∈ lvsV n b
  | 0, _, _, _, b, _, _ => nomatch b
  | n + 1, nm, w, h, b, s, hs => by
    have mm : ∀ ps : List (Bx n), (ps.map (wlV n nm w h)).findSome? (lfV n nm) = some s → nm ∈ ps.flatMap (lvsV n) := fun ps q => by
      obtain ⟨p, hp, q⟩ := List.exists_of_findSome?_eq_some q
      obtain ⟨p', hp', rfl⟩ := List.mem_map.mp hp
      exact List.mem_flatMap.mpr ⟨p', hp', lf_lv n nm w h p' s q⟩
    match (b : BxF (Bx n)), hs with
    | .leaf nm' w' h', hs =>
      have hs : (if (nm' == nm) = true then some ((if (nm' == nm) = true then w else w'), (if (nm' == nm) = true then h else h')) else none) = some s := hs
      split at hs
      · rename_i c
        rw [st_eq.mp c]
        exact List.mem_singleton.mpr rfl
      · cases hs
    | .line _ _ _ ps, hs => exact mm ps hs
    | .pile _ ps, hs => exact mm ps hs
    | .rim _ _ _ _ _ p, hs =>
      obtain ⟨q, hq, hx⟩ := List.mem_flatMap.mp (mm [p] hs)
      rw [List.mem_singleton.mp hq] at hx
      exact hx
theorem lf_wl : ∀ (n : Nat) (nm : Str) (w h : Spn) (b : Bx n), nm ∈ lvsV n b → lfV n nm (wlV n nm w h b) = some (w, h)
  | 0, _, _, _, b, _ => nomatch b
  | n + 1, nm, w, h, b, hn => by
    have oth : ∀ (p : Bx n), nm ∉ lvsV n p → lfV n nm (wlV n nm w h p) = none := fun p hp => by
      cases hc : lfV n nm (wlV n nm w h p) with
      | none => rfl
      | some s => exact absurd (lf_lv n nm w h p s hc) hp
    have mm : ∀ ps : List (Bx n), nm ∈ ps.flatMap (lvsV n) → (ps.map (wlV n nm w h)).findSome? (lfV n nm) = some (w, h) := fun ps hp => by
      induction ps with
      | nil => cases hp
      | cons p ps ih =>
        rw [List.map_cons, List.findSome?_cons]
        by_cases c : nm ∈ lvsV n p
        · rw [lf_wl n nm w h p c]
        · rw [oth p c]
          rw [List.flatMap_cons, List.mem_append] at hp
          exact ih (hp.resolve_left c)
    match (b : BxF (Bx n)), hn with
    | .leaf nm' w' h', hn =>
      have e : nm = nm' := by simpa [lvsV] using hn
      subst e
      show (if (nm == nm) = true then some ((if (nm == nm) = true then w else w'), (if (nm == nm) = true then h else h')) else none) = some (w, h)
      rw [if_pos (st_eq.mpr rfl), if_pos (st_eq.mpr rfl), if_pos (st_eq.mpr rfl)]
    | .line _ _ _ ps, hn => exact mm ps hn
    | .pile _ ps, hn => exact mm ps hn
    | .rim _ _ _ _ _ p, hn => exact mm [p] (List.mem_flatMap.mpr ⟨p, List.mem_singleton.mpr rfl, hn⟩)

theorem lf_gd : ∀ (n : Nat) (nm : Str) (b : Bx n) (s : Spn × Spn), Gd n b → lfV n nm b = some s → (s.1.Ok ∧ s.1.Sm) ∧ (s.2.Ok ∧ s.2.Sm)
  | 0, _, b, _, _, _ => nomatch b
  | n + 1, nm, b, s, hg, h => by
    have mm : (inB b).findSome? (lfV n nm) = some s → (s.1.Ok ∧ s.1.Sm) ∧ (s.2.Ok ∧ s.2.Sm) := fun q => by
      obtain ⟨p, hp, q⟩ := List.exists_of_findSome?_eq_some q
      exact lf_gd n nm p s (gd_in hg p hp) q
    match (b : BxF (Bx n)), hg, h, mm with
    | .leaf nm' w h', hg, h, _ =>
      have h : (if (nm' == nm) = true then some (w, h') else none) = some s := h
      split at h
      · cases h
        exact hg
      · cases h
    | .line _ _ _ ps, _, h, mm => exact mm h
    | .pile _ ps, _, h, mm => exact mm h
    | .rim _ _ _ _ _ p, _, h, mm => exact mm h
theorem ninT_ok {n m : Nat} {x : D} {xs : List D} (hx : shp n x = true) (hxs : ∀ y ∈ xs, shp m y = true) (hn : n ≤ 62 := by decide) : ninD x (.tuple xs) = some (.bool (!inSeq x xs)) := if_pos (okIn_of hx hxs hn)
theorem shp_pr {p : Str × Str} (h : PyData.strOk p.1 = true ∧ PyData.strOk p.2 = true) : shp 1 (p2D p) = true := by
  show [PyData.str p.1, .str p.2].all (shp 0) = true
  rw [List.all_cons, List.all_cons, List.all_nil, Bool.and_true, Bool.and_eq_true]
  exact h
theorem shp_prs {ps : List (Str × Str)} (h : ∀ p ∈ ps, PyData.strOk p.1 = true ∧ PyData.strOk p.2 = true) : shp 2 (.tuple (ps.map p2D)) = true := by
  show (ps.map p2D).all (shp 1) = true
  rw [List.all_eq_true]
  intro x hx
  obtain ⟨r, hr, rfl⟩ := List.mem_map.mp hx
  exact shp_pr (h r hr)
theorem ok_ax (hi : Bool) : PyData.strOk (axS hi) = true := by cases hi <;> decide +kernel
theorem chg_ok {rs ss : List Row} (h : ∀ r ∈ rs, PyData.strOk r.1 = true) : ∀ p ∈ srtP (chgL rs ss), PyData.strOk p.1 = true ∧ PyData.strOk p.2 = true := by
  intro p hp
  obtain ⟨z, hz, hi, e, _⟩ := mem_chgL.mp ((srtP_perm _).mem_iff.mp hp)
  rw [e]
  exact ⟨h z.1 (List.of_mem_zip hz).1, ok_ax hi⟩
theorem may_ok {n : Nat} {b : Bx (n + 1)} {nm : Str} (hok : ∀ x ∈ nmsV (n + 1) b, PyData.strOk x = true) : ∀ p ∈ srtP (mayL b nm), PyData.strOk p.1 = true ∧ PyData.strOk p.2 = true := by
  intro p hp
  have hp := (srtP_perm _).mem_iff.mp hp
  unfold mayL at hp
  obtain ⟨z, hz, hq⟩ := List.mem_flatMap.mp hp
  have hn : ∀ x ∈ nmsV n z, PyData.strOk x = true := fun x hx => hok x (by
    rw [nmsV]
    exact List.mem_cons_of_mem _ (List.mem_flatMap.mpr ⟨z, hz, hx⟩))
  unfold mayP at hq
  rcases List.mem_append.mp hq with hq | hq
  · split at hq
    · obtain ⟨o, ho, rfl⟩ := List.mem_map.mp hq
      exact ⟨hn o ho, ok_ax false⟩
    · cases hq
  · split at hq
    · obtain ⟨o, ho, rfl⟩ := List.mem_map.mp hq
      exact ⟨hn o ho, ok_ax true⟩
    · cases hq
theorem fil_no {α : Type} : ∀ xs : List α, xs.filter (fun _ => false) = []
  | [] => rfl
  | x :: xs => by rw [List.filter_cons]; exact fil_no xs
/-- one of the leaves -/
theorem pick_lf {n : Nat} {b : Bx n} (hg : Gd n b) (m2 : Int) : ∃ (i : Nat) (nm : Str), modD (.int m2) (.int ((lvsV n b).length : Int)) = some (.int i) ∧ atI ((lvsV n b).map PyData.str) (i : Int) = some (.str nm) ∧ nm ∈ lvsV n b := by
  have lp := lvs_pos n b hg
  have ll : 0 < (lvsV n b).length := List.length_pos_iff.mpr lp
  obtain ⟨i, hi⟩ : ∃ i : Nat, m2 % ((lvsV n b).length : Int) = (i : Int) := ⟨(m2 % ((lvsV n b).length : Int)).toNat, by
    have := Int.emod_nonneg m2 (b := ((lvsV n b).length : Int)) (by omega)
    omega⟩
  have il : i < (lvsV n b).length := by
    have := Int.emod_lt_of_pos m2 (b := ((lvsV n b).length : Int)) (by omega)
    omega
  have md := mod_ok (a := m2) (b := ((lvsV n b).length : Int)) (by omega)
  rw [hi] at md
  refine ⟨i, (lvsV n b)[i], md, atI_of ?_, List.getElem_mem il⟩
  rw [List.getElem?_map, List.getElem?_eq_getElem il]
  rfl

/-! plain data: no dicts; bools if b; no longer than L, no deeper than n -/
def pl (b : Bool) (L : Nat) : Nat → D → Bool
  | _, .none => true
  | _, .bool _ => b
  | _, .int i => decide (i.natAbs ≤ 1000 * L)
  | _, .str x => PyData.strOk x && decide (x.length ≤ 1000)
  | n + 1, .list xs => decide (xs.length ≤ L) && xs.all (pl b L n)
  | n + 1, .tuple xs => decide (xs.length ≤ L) && xs.all (pl b L n)
  | _, _ => false
theorem pl_shp {b : Bool} {L : Nat} : ∀ (n : Nat) (d : D), pl b L n d = true → shp n d = true
  | 0, .none, _ => rfl
  | _ + 1, .none, _ => rfl
  | 0, .bool _, _ => rfl
  | _ + 1, .bool _, _ => rfl
  | 0, .int _, _ => rfl
  | _ + 1, .int _, _ => rfl
  | 0, .str x, h => (Bool.and_eq_true _ _ ▸ h : PyData.strOk x = true ∧ _).1
  | _ + 1, .str x, h => (Bool.and_eq_true _ _ ▸ h : PyData.strOk x = true ∧ _).1
  | n + 1, .list xs, h => by
    have h' : (decide (xs.length ≤ L) && xs.all (pl b L n)) = true := h
    rw [Bool.and_eq_true] at h'
    exact List.all_eq_true.mpr fun x hx => pl_shp n x (List.all_eq_true.mp h'.2 x hx)
  | n + 1, .tuple xs, h => by
    have h' : (decide (xs.length ≤ L) && xs.all (pl b L n)) = true := h
    rw [Bool.and_eq_true] at h'
    exact List.all_eq_true.mpr fun x hx => pl_shp n x (List.all_eq_true.mp h'.2 x hx)
  | 0, .list _, h => by cases h
  | 0, .tuple _, h => by cases h
  | 0, .dict _, h => by cases h
  | _ + 1, .dict _, h => by cases h
theorem pl_tup {b : Bool} {L n : Nat} {xs : List D} : pl b L (n + 1) (.tuple xs) = true ↔ xs.length ≤ L ∧ ∀ x ∈ xs, pl b L n x = true := by
  show (decide (xs.length ≤ L) && xs.all (pl b L n)) = true ↔ _
  rw [Bool.and_eq_true, decide_eq_true_eq, List.all_eq_true]
theorem pl_lst {b : Bool} {L n : Nat} {xs : List D} : pl b L (n + 1) (.list xs) = true ↔ xs.length ≤ L ∧ ∀ x ∈ xs, pl b L n x = true := by
  show (decide (xs.length ≤ L) && xs.all (pl b L n)) = true ↔ _
  rw [Bool.and_eq_true, decide_eq_true_eq, List.all_eq_true]
theorem pl_int {b : Bool} {L n : Nat} {i : Int} : pl b L n (.int i) = true ↔ i.natAbs ≤ 1000 * L := by
  cases n <;> exact decide_eq_true_iff
theorem pl_str {b : Bool} {L n : Nat} {x : Str} : pl b L n (.str x) = true ↔ PyData.strOk x = true ∧ x.length ≤ 1000 := by
  have h : pl b L n (.str x) = (PyData.strOk x && decide (x.length ≤ 1000)) := by cases n <;> rfl
  rw [h, Bool.and_eq_true, decide_eq_true_eq]
theorem pl_mono {b c : Bool} {L M : Nat} (hb : b = true → c = true) (hL : L ≤ M) : ∀ (n m : Nat) (d : D), n ≤ m → pl b L n d = true → pl c M m d = true
  | _, m, .none, _, _ => by cases m <;> rfl
  | n, m, .bool _, _, h => by
    have h' : b = true := by cases n <;> exact h
    cases m <;> exact hb h'
  | n, m, .int _, _, h => pl_int.mpr (Nat.le_trans (pl_int.mp h) (Nat.mul_le_mul_left 1000 hL))
  | n, m, .str _, _, h => pl_str.mpr (pl_str.mp h)
  | n + 1, m + 1, .list xs, hn, h => by
    obtain ⟨h1, h2⟩ := pl_lst.mp h
    exact pl_lst.mpr ⟨Nat.le_trans h1 hL, fun x hx => pl_mono hb hL n m x (by omega) (h2 x hx)⟩
  | n + 1, m + 1, .tuple xs, hn, h => by
    obtain ⟨h1, h2⟩ := pl_tup.mp h
    exact pl_tup.mpr ⟨Nat.le_trans h1 hL, fun x hx => pl_mono hb hL n m x (by omega) (h2 x hx)⟩
  | n + 1, 0, .list xs, hn, h => by omega
  | n + 1, 0, .tuple xs, hn, h => by omega
  | 0, _, .list _, _, h => by cases h
  | 0, _, .tuple _, _, h => by cases h
  | 0, _, .dict _, _, h => by cases h
  | _ + 1, _, .dict _, _, h => by cases h
theorem atI_mem {α : Type} {xs : List α} {r : Int} (h0 : 0 ≤ r) (h1 : r < xs.length) : ∃ x ∈ xs, atI xs r = some x := by
  obtain ⟨k, rfl⟩ : ∃ k : Nat, r = (k : Int) := ⟨r.toNat, by omega⟩
  have hk : k < xs.length := by omega
  exact ⟨xs[k], List.getElem_mem hk, atI_of (List.getElem?_eq_getElem hk)⟩
theorem strOk_of (s : String) : PyData.strOk (Str.ofString s) = true := by
  unfold PyData.strOk
  rw [Str.ofString_eq_toList, Array.all_eq_true']
  intro n hn
  simp only [List.mem_toArray, List.mem_map] at hn
  obtain ⟨c, _, rfl⟩ := hn
  have := c.valid
  simp only [decide_eq_true_eq]
  show c.val.toNat < 1114112
  rcases this with h | h
  · omega
  · exact h.2
theorem pl_notDict {b : Bool} {L n : Nat} {d : D} (h : pl b L n d = true) (T : Ty) : ∃ c, isiD T d = some (.bool c) := by
  cases d with
  | dict _ => cases n <;> cases h
  | _ => cases T <;> exact ⟨_, rfl⟩

/-! a thing spoilt -/
def someL : List D := [.none, .bool true, .int 0, .int 9, .int 10, .int 999, .int 1000, .int (-1), .str "", .str "a", .str "abcde", .str "A", .str "row", .str "pile", .str "rim", .str "leaf", .tuple [], .tuple [.str "a"], .list [],
  .tuple [.int 0, .int 0, .int 0, .int 0, .int 0], .tuple [.int 1, .int 0, .int 2, .int 0, .int 0], .tuple [.int 0, .int 1, .none, .int 9, .int 9], .tuple [.int 0, .int 3, .int 2, .int 1, .int 1], .tuple [.int 0, .int 0, .int 1000, .int 1, .int 1],
  .tuple [.int 0, .int 0, .int 0, .int 10, .int 0], .tuple [.str "leaf", .str "a", .tuple [.int 0, .int 0, .int 0, .int 0, .int 0], .tuple [.int 0, .int 0, .int 0, .int 0, .int 0]], .tuple [.str "pile", .str "b", .tuple []]]
theorem someL_pl : ∀ d ∈ someL, pl true 5 2 d = true := by
  have : someL.all (pl true 5 2) = true := by decide +kernel
  exact List.all_eq_true.mp this
theorem mem6 {α : Type} {P : α → Prop} {a b c d e f : α} (h1 : P a) (h2 : P b) (h3 : P c) (h4 : P d) (h5 : P e) (h6 : P f) : ∀ x ∈ [a, b, c, d, e, f], P x := by
  intro x hx
  simp only [List.mem_cons, List.not_mem_nil, or_false] at hx
  rcases hx with rfl | rfl | rfl | rfl | rfl | rfl <;> assumption
theorem cutL_sub {α : Type} (xs : List α) (lo hi : Option Int) : (cutL xs lo hi).length ≤ xs.length ∧ ∀ x ∈ cutL xs lo hi, x ∈ xs := by
  unfold cutL
  constructor
  · rw [List.length_take, List.length_drop]; omega
  · intro x hx
    exact List.mem_of_mem_drop (List.mem_of_mem_take hx)
theorem mul2_ok {xs : List D} (h : xs.length ≤ 1000) (h0 : xs ≠ []) : mulD (.tuple xs) (.int 2) = some (.tuple (xs ++ xs)) := by
  have : (List.replicate (2 : Int).toNat xs).flatten = xs ++ xs := by simp [List.replicate]
  rw [← this]
  exact if_pos ⟨h0, by decide, by decide, h⟩
theorem str_ok {i : Int} (h : i.natAbs ≤ 10 ^ 12) : strD (.int i) = some (.str (toString i)) := by
  have h2 : i.natAbs < 2 ^ 1000 := Nat.lt_of_le_of_lt h (by decide +kernel)
  exact if_pos h2
theorem str_short {i : Int} (h : i.natAbs ≤ 10 ^ 12) : ((toString i : String) : Str).length ≤ 1000 := by
  have hl : ∀ s : String, (Str.ofString s).length = s.toList.length := fun s => by
    show (Str.ofString s).cps.size = _
    rw [Str.ofString_eq_toList]
    simp
  have hn : ∀ m : Nat, m ≤ 10 ^ 12 → (Nat.toDigits 10 m).length ≤ 20 := fun m hm => (Nat.length_toDigits_le_iff (by decide) (by decide)).mpr (by omega)
  show (Str.ofString (toString i)).length ≤ 1000
  rw [hl]
  cases i with
  | ofNat m =>
    have e : (toString (Int.ofNat m)) = m.repr := rfl
    rw [e, Nat.toList_repr]
    have := hn m (by have e2 : (Int.ofNat m).natAbs = m := rfl; omega)
    omega
  | negSucc m =>
    have e : (toString (Int.negSucc m)) = "-" ++ (m + 1).repr := rfl
    rw [e, String.toList_append, List.length_append, Nat.toList_repr]
    have := hn (m + 1) (by have e2 : (Int.negSucc m).natAbs = m + 1 := rfl; omega)
    have h1 : ("-" : String).toList.length = 1 := by decide
    omega
/-! is_span of plain data -/
def whB (d : D) (lo hi : Int) : Bool := match d with
  | .int i => decide (lo ≤ i) && decide (i ≤ hi)
  | _ => false
def moB (c : D) (b : Int) : Bool := match c with
  | .none => true
  | c => whB c b 999
def spanB (d : D) : Bool := match d with
  | .tuple [.int a, .int b, c, e, f] => whB (.int a) 0 999 && whB (.int b) a 999 && whB e 0 9 && whB f 0 9 && moB c b
  | _ => false
theorem whole_body {b : Bool} {L n : Nat} {d : D} {lo hi : Int} (h : pl b L n d = true) : runF 3 (sRet (andV (c1 (isiD .int) (vr 0)) (andV (notV (c1 (isiD .bool) (vr 0))) (chD leD leD (vr 1) (vr 0) (vr 2))))) [d, .int lo, .int hi] = some (.bool (whB d lo hi)) := by
  cases d with
  | dict _ => cases n <;> cases h
  | int i =>
    by_cases h1 : lo ≤ i
    · simp -implicitDefEqProofs [startE, isiD, whB, h1]
    · simp -implicitDefEqProofs [startE, isiD, whB, h1]
  | _ => simp -implicitDefEqProofs [startE, isiD, whB]

theorem Pwhole_eq {b : Bool} {L n : Nat} {d : D} {lo hi : Int} (h : pl b L n d = true) : M_is_whole [d, .int lo, .int hi] = some (.bool (whB d lo hi)) := whole_body h
theorem Pisspan_eq {b : Bool} {L n : Nat} {d : D} (h : pl b L n d = true) (hL : L ≤ 10000) : M_is_span [d] = some (.bool (spanB d)) := by
  cases d with
  | dict _ => cases n <;> cases h
  | tuple xs =>
    cases n with
    | zero => cases h
    | succ n =>
      obtain ⟨hl, hx⟩ := pl_tup.mp h
      by_cases h5 : xs.length = 5
      · match xs, h5 with
        | [a, b', c, e, f], _ =>
          have pa := hx a (by simp)
          have pb := hx b' (by simp)
          have pc := hx c (by simp)
          have pe := hx e (by simp)
          have pf := hx f (by simp)
          have i0 : atI [a, b', c, e, f] 0 = some a := rfl
          have i1 : atI [a, b', c, e, f] 1 = some b' := rfl
          have i2 : atI [a, b', c, e, f] 2 = some c := rfl
          have fa := Pwhole_eq (lo := 0) (hi := 999) pa
          have fb := Pwhole_eq (lo := 0) (hi := 999) pb
          have fe := Pwhole_eq (lo := 0) (hi := 9) pe
          have ff := Pwhole_eq (lo := 0) (hi := 9) pf
          have k1 : cutL [a, b', c, e, f] none (some 2) = [a, b'] := rfl
          have k2 : cutL [a, b', c, e, f] (some 3) none = [e, f] := rfl
          have s2 : sml 2 = true := rfl
          have g1 : ∀ env : DEnv, env.length = 2 → lcGo (bNm 1) yesT (cA M_is_whole (consA (vr 1) (consA (cst (.int 0)) (consA (cst (.int 999)) nilA)))) env [a, b'] = some [.bool (whB a 0 999), .bool (whB b' 0 999)] := fun env he => by
            have h1 : 1 < env.length := by omega
            simp -implicitDefEqProofs [lcGo, h1, fa, fb]
          have g2 : ∀ env : DEnv, env.length = 2 → lcGo (bNm 1) yesT (cA M_is_whole (consA (vr 1) (consA (cst (.int 0)) (consA (cst (.int 9)) nilA)))) env [e, f] = some [.bool (whB e 0 9), .bool (whB f 0 9)] := fun env he => by
            have h1 : 1 < env.length := by omega
            simp -implicitDefEqProofs [lcGo, h1, fe, ff]
          cases a with
          | int a =>
            cases b' with
            | int b' =>
              have fc := Pwhole_eq (lo := b') (hi := 999) pc
              have hc : ∃ cn, isND c = some (.bool cn) ∧ moB c b' = (cn || whB c b' 999) := by
                cases c <;> exact ⟨_, rfl, by simp [moB]⟩
              obtain ⟨cn, hcn, hce⟩ := hc
              have hab : (whB (.int a) 0 999 && whB (.int b') a 999) = (whB (.int a) 0 999 && whB (.int b') 0 999 && decide (a ≤ b')) := by
                simp only [whB]
                rw [Bool.eq_iff_iff]
                simp
                omega
              have hspan : spanB (.tuple [.int a, .int b', c, e, f]) = (whB (.int a) 0 999 && whB (.int b') 0 999 && decide (a ≤ b') && whB e 0 9 && whB f 0 9 && (cn || whB c b' 999)) := by
                show (whB (.int a) 0 999 && whB (.int b') a 999 && whB e 0 9 && whB f 0 9 && moB c b') = _
                rw [hab, hce]
              rw [hspan]
              cases h1 : whB (.int a) 0 999 <;> cases h2 : whB (.int b') 0 999 <;> simp only [h1, h2] at g1
              · simp -implicitDefEqProofs [M_is_span, D_is_span, startE, isiD, k1, s2, g1]
              · simp -implicitDefEqProofs [M_is_span, D_is_span, startE, isiD, k1, s2, g1]
              · simp -implicitDefEqProofs [M_is_span, D_is_span, startE, isiD, k1, s2, g1]
              · by_cases hle : a ≤ b'
                · have hlt : ¬ b' < a := by omega
                  cases h3 : whB c b' 999 <;> cases cn <;> cases h4 : whB e 0 9 <;> cases h5 : whB f 0 9 <;> simp only [h3, h4, h5] at fc g2 <;>
                    simp -implicitDefEqProofs [M_is_span, D_is_span, startE, isiD, k1, k2, s2, g1, g2, i0, i1, i2, hle, hlt, hcn, fc]
                · have hlt : b' < a := by omega
                  simp -implicitDefEqProofs [M_is_span, D_is_span, startE, isiD, k1, k2, s2, g1, g2, i0, i1, i2, hle, hlt]
            | _ =>
              cases h1 : whB (.int a) 0 999 <;> simp only [h1] at g1 <;> simp -implicitDefEqProofs [M_is_span, D_is_span, startE, isiD, k1, s2, g1, whB, spanB]
          | _ => simp -implicitDefEqProofs [M_is_span, D_is_span, startE, isiD, k1, s2, g1, whB, spanB]
      · have h5' : ¬ (xs.length : Int) = 5 := by omega
        have hs : spanB (.tuple xs) = false := by
          unfold spanB
          split
          · rename_i heq; cases heq; simp at h5
          · rfl
        rw [hs]
        simp -implicitDefEqProofs [M_is_span, D_is_span, startE, isiD, h5', h5]
  | _ => simp -implicitDefEqProofs [M_is_span, D_is_span, startE, isiD, spanB]

/-! names -/
def lwB (c : Nat) : Bool := decide (97 ≤ c ∧ c ≤ 122)
def nameB : D → Bool
  | .str x => decide (1 ≤ x.length ∧ x.length ≤ 4) && x.cps.toList.all lwB
  | _ => false
theorem in_abc (c : Nat) : inStr ⟨#[c]⟩ "abcdefghijklmnopqrstuvwxyz" = lwB c := by
  have h := PySem.StrLaws.found_one "abcdefghijklmnopqrstuvwxyz" c
  unfold inStr
  rw [h]
  unfold lwB
  have e : (Str.ofString "abcdefghijklmnopqrstuvwxyz").cps.toList = List.range' 97 26 := by decide +kernel
  rw [e]
  congr 1
  rw [List.mem_range'_1]
  exact propext ⟨fun q => by omega, fun q => by omega⟩
theorem le_a (c : Nat) : leD (.str "a") (.str ⟨#[c]⟩) = some (.bool (decide (97 ≤ c))) := by
  have e : ("a" : Str).cps.toList = [97] := by decide +kernel
  show some (PyData.bool (!decide ([c] < ("a" : Str).cps.toList))) = _
  rw [e]
  congr 2
  by_cases h : 97 ≤ c
  · have : ¬ ([c] < [97]) := by simp [List.cons_lt_cons_iff]; omega
    simp [h, this]
  · have : [c] < [97] := by simp [List.cons_lt_cons_iff]; omega
    simp [h, this]
theorem le_z (c : Nat) : leD (.str ⟨#[c]⟩) (.str "z") = some (.bool (decide (c ≤ 122))) := by
  have e : ("z" : Str).cps.toList = [122] := by decide +kernel
  show some (PyData.bool (!decide (("z" : Str).cps.toList < [c]))) = _
  rw [e]
  congr 2
  by_cases h : c ≤ 122
  · have : ¬ ([122] < [c]) := by simp [List.cons_lt_cons_iff]; omega
    simp [h, this]
  · have : [122] < [c] := by simp [List.cons_lt_cons_iff]; omega
    simp [h, this]
theorem eq_nilL {n : Nat} {xs : List D} (h : ∀ x ∈ xs, shp n x = true) (hn : n ≤ 62) : eqD (.list xs) (.list []) = some (.bool xs.isEmpty) := by
  rw [eq_ok (n := n + 1) (m := 1) (a := .list xs) (b := .list []) (List.all_eq_true.mpr h) rfl (by omega) (by omega)]
  cases xs <;> rfl
theorem ne_nilL {n : Nat} {xs : List D} (h : ∀ x ∈ xs, shp n x = true) (hn : n ≤ 62) : neD (.list xs) (.list []) = some (.bool (!xs.isEmpty)) := by
  rw [ne_ok (n := n + 1) (m := 1) (a := .list xs) (b := .list []) (List.all_eq_true.mpr h) rfl (by omega) (by omega)]
  cases xs <;> rfl
theorem filter_none {α : Type} (p : α → Bool) : ∀ xs : List α, (xs.filter fun x => !p x).isEmpty = xs.all p
  | [] => rfl
  | x :: xs => by
    rw [List.filter_cons, List.all_cons, ← filter_none p xs]
    cases h : p x <;> simp
theorem Pname_eq {b : Bool} {L n : Nat} {d : D} (h : pl b L n d = true) : M_is_name [d] = some (.bool (nameB d)) := by
  cases d with
  | dict _ => cases n <;> cases h
  | str x =>
    have it : itemsD (.str x) = some (x.cps.toList.map fun c => PyData.str ⟨#[c]⟩) := rfl
    have h1 := (pl_str.mp h).2
    · have hs : sml x.length = true := sml_of (by omega)
      have hl : lenD (.str x) = some (.int x.length) := if_pos hs
      have hs' : sml x.cps.size = true := hs
      have g : ∀ env : DEnv, env.length = 2 → lcGo (bNm 1) yesT (c2 inD (vr 1) (cst (.str "abcdefghijklmnopqrstuvwxyz"))) env (x.cps.toList.map fun c => PyData.str ⟨#[c]⟩) = some (x.cps.toList.map fun c => PyData.bool (lwB c)) := fun env he => by
        refine lcGo_map (fun c => PyData.str ⟨#[c]⟩) (fun c => PyData.bool (lwB c)) _ fun c hc => ⟨_, rfl, ?_⟩
        have h1 : 1 < env.length := by omega
        have hin : inD (.str ⟨#[c]⟩) (.str "abcdefghijklmnopqrstuvwxyz") = some (.bool (lwB c)) := by rw [← in_abc]; rfl
        simp -implicitDefEqProofs [h1, hin]
      by_cases h2 : (1 : Int) ≤ (x.length : Int)
      · by_cases h3 : (x.length : Int) ≤ 4
        · have e : decide (1 ≤ x.length ∧ x.length ≤ 4) = true := decide_eq_true ⟨by omega, by omega⟩
          simp -implicitDefEqProofs [M_is_name, D_is_name, startE, isiD, hl, h2, h3, it, g, nameB, hs', e]
          try rfl
        · have e : decide (1 ≤ x.length ∧ x.length ≤ 4) = false := decide_eq_false (by omega)
          simp -implicitDefEqProofs [M_is_name, D_is_name, startE, isiD, hl, h2, h3, nameB, e]
      · have e : decide (1 ≤ x.length ∧ x.length ≤ 4) = false := decide_eq_false (by omega)
        simp -implicitDefEqProofs [M_is_name, D_is_name, startE, isiD, hl, h2, nameB, e]
  | _ => simp -implicitDefEqProofs [M_is_name, D_is_name, startE, isiD, nameB]
/-! boxes by shape: of plain data -/
def bsB (f : D → Bool) (many : Nat) : D → Bool
  | .tuple xs => decide (1 ≤ xs.length ∧ xs.length ≤ many) && xs.all f
  | _ => false
def leR : List D → Bool
  | [a, b] => spanB a && spanB b
  | _ => false
def liR (f : D → Bool) : List D → Bool
  | [g, bs] => whB g 0 999 && bsB f 4 bs
  | _ => false
def piR (f : D → Bool) : List D → Bool
  | [bs] => bsB f 3 bs
  | _ => false
def riR (f : D → Bool) : List D → Bool
  | [a, b, c, d, x] => (whB a 0 999 && whB b 0 999 && whB c 0 999 && whB d 0 999) && f x
  | _ => false
def shR (f : D → Bool) (w : Str) (r : List D) : Bool :=
  if w = "leaf" then leR r else if w = "row" ∨ w = "col" then liR f r else if w = "pile" then piR f r else if w = "rim" then riR f r else false
def shS (f : D → Bool) : D → Bool
  | .tuple (.str w :: nm :: r) => nameB nm && shR f w r
  | _ => false
def shB : Nat → D → Bool
  | 0, _ => false
  | n + 1, d => shS (shB n) d
theorem shR_nil (f : D → Bool) (w : Str) : shR f w [] = false := by
  unfold shR
  repeat' split
  all_goals rfl
theorem eqW {w : Str} (hw : PyData.strOk w = true) {z : Str} (hz : PyData.strOk z = true) : eqD (.str w) (.str z) = some (.bool (decide (w = z))) := eq_strs hw hz (by by_cases h : w = z <;> simp [h])
theorem neW {w : Str} (hw : PyData.strOk w = true) {z : Str} (hz : PyData.strOk z = true) : neD (.str w) (.str z) = some (.bool (!decide (w = z))) := ne_strs hw hz (by by_cases h : w = z <;> simp [h])
theorem inW2 {w : Str} (hw : PyData.strOk w = true) : inD (.str w) (.tuple [.str "row", .str "col"]) = some (.bool (decide (w = "row") || decide (w = "col"))) := by
  have h : okIn (.str w) [.str "row", .str "col"] = true := rfl
  show (if okIn (.str w) [.str "row", .str "col"] = true then some (PyData.bool (inSeq (.str w) [.str "row", .str "col"])) else none) = _
  rw [if_pos h]
  congr 2
  show (("row" : Str) == w || (("col" : Str) == w || false)) = _
  rw [Bool.or_false]
  congr 1
  · by_cases h : w = "row"
    · simp [h]
    · have h' : ¬ ("row" : Str) = w := fun q => h q.symm
      simp [h, h']
  · by_cases h : w = "col"
    · simp [h]
    · have h' : ¬ ("col" : Str) = w := fun q => h q.symm
      simp [h, h']
theorem ok_leaf : PyData.strOk "leaf" = true := by decide +kernel
theorem ok_row : PyData.strOk "row" = true := by decide +kernel
theorem ok_col : PyData.strOk "col" = true := by decide +kernel
theorem ok_pile : PyData.strOk "pile" = true := by decide +kernel
theorem ok_rim : PyData.strOk "rim" = true := by decide +kernel
/-- boxes in a tuple, the program's -/
theorem Pare_step {R1 R2 : List D → Option D} {b : Bool} {L N : Nat} (f : D → Bool) (many : Nat) (k : Int) (hL : L ≤ 10000) (hR : ∀ n d, n ≤ N → pl b L n d = true → R2 [d, .int k] = some (.bool (f d))) {n : Nat} {d : D} (hn : n ≤ N) (h : pl b L n d = true) :
    runF 4 (D_are_boxes R1 R2) [d, .int many, .int k] = some (.bool (bsB f many d)) := by
  cases d with
  | dict _ => cases n <;> cases h
  | tuple xs =>
    cases n with
    | zero => cases h
    | succ n =>
      obtain ⟨hl, hx⟩ := pl_tup.mp h
      have hs : sml xs.length = true := sml_of (by omega)
      have g : ∀ env : DEnv, env.length = 4 → env[2]? = some (some (.sh (.int k))) → lcGo (bNm 3) yesT (C_are_boxes_1 R1 R2) env xs = some (xs.map fun x => PyData.bool (f x)) := fun env he h2 => by
        have := lcGo_map (b := bNm 3) (el := C_are_boxes_1 R1 R2) (e := env) (fun x : D => x) (fun x => PyData.bool (f x)) xs fun x hm => ⟨_, rfl, by
          have h3 : 3 < env.length := by omega
          have r := hR n x (by omega) (hx x hm)
          simp -implicitDefEqProofs [C_are_boxes_1, h3, h2, r]⟩
        rwa [List.map_id'] at this
      by_cases h1 : (1 : Int) ≤ (xs.length : Int)
      · by_cases h2 : (xs.length : Int) ≤ (many : Int)
        · have e : decide (1 ≤ xs.length ∧ xs.length ≤ many) = true := decide_eq_true ⟨by omega, by omega⟩
          simp -implicitDefEqProofs [D_are_boxes, startE, isiD, h1, h2, hs, g, bsB, e]
          try rfl
        · have e : decide (1 ≤ xs.length ∧ xs.length ≤ many) = false := decide_eq_false (by omega)
          simp -implicitDefEqProofs [D_are_boxes, startE, isiD, h1, h2, bsB, e]
      · have e : decide (1 ≤ xs.length ∧ xs.length ≤ many) = false := decide_eq_false (by omega)
        simp -implicitDefEqProofs [D_are_boxes, startE, isiD, h1, bsB, e]
  | _ => simp -implicitDefEqProofs [D_are_boxes, startE, isiD, bsB]
theorem Pbox_step {R1 R2 : List D → Option D} {b : Bool} {L N : Nat} (f : D → Bool) (k : Nat) (hL : L ≤ 10000)
    (hR1 : ∀ (many n : Nat) d, n ≤ N → pl b L n d = true → R1 [d, .int many, .int k] = some (.bool (bsB f many d))) (hR2 : ∀ n d, n ≤ N → pl b L n d = true → R2 [d, .int k] = some (.bool (f d))) {n : Nat} {d : D} (hn : n ≤ N) (h : pl b L n d = true) :
    runF 4 (D_is_box_to R1 R2) [d, .int ((k : Int) + 1)] = some (.bool (shS f d)) := by
  have h0 : ¬ ((k : Int) + 1 = 0) := by omega
  cases d with
  | dict _ => cases n <;> cases h
  | tuple xs =>
    cases n with
    | zero => cases h
    | succ n =>
      obtain ⟨hl, hx⟩ := pl_tup.mp h
      match xs, hl, hx with
      | [], _, _ => simp -implicitDefEqProofs [D_is_box_to, startE, isiD, h0, shS]
      | [a], _, _ => simp -implicitDefEqProofs [D_is_box_to, startE, isiD, h0, shS]
      | [a, nm], _, _ =>
        have : shS f (.tuple [a, nm]) = false := by
          cases a <;> simp [shS, shR_nil]
        rw [this]
        simp -implicitDefEqProofs [D_is_box_to, startE, isiD, h0]
      | a :: nm :: c :: r, hl, hx =>
        have h3 : ¬ (((a :: nm :: c :: r).length : Int) < 3) := by simp only [List.length_cons]; omega
        have i0 : atI (a :: nm :: c :: r) 0 = some a := by rw [atI_pos (by decide)]; rfl
        have i1 : atI (a :: nm :: c :: r) 1 = some nm := by rw [atI_pos (by decide)]; rfl
        have i2 : atI (a :: nm :: c :: r) 2 = some c := by rw [atI_pos (by decide)]; rfl
        have pa := hx a (by simp)
        have pnm := Pname_eq (hx nm (by simp))
        have pc := hx c (by simp)
        cases a with
        | str w =>
          have hw := (pl_str.mp pa).1
          have e1 := eqW hw ok_leaf
          have e2 := inW2 hw
          have e3 := eqW hw ok_pile
          have e4 := neW hw ok_rim
          have ew := Pwhole_eq (lo := 0) (hi := 999) pc
          have es := Pisspan_eq pc hL
          have hln : ((((PyData.str w) :: nm :: c :: r).length : Nat) : Int) = ((r.length : Nat) : Int) + 3 := by simp only [List.length_cons]; omega
          show _ = some (PyData.bool (nameB nm && shR f w (c :: r)))
          cases hnm : nameB nm with
          | false =>
            rw [hnm] at pnm
            generalize hXS : (PyData.str w) :: nm :: c :: r = XS at *
            simp -implicitDefEqProofs [D_is_box_to, startE, isiD, h0, h3, i0, i1, pnm]
          | true =>
            rw [hnm] at pnm
            have cut : cutL ((PyData.str w) :: nm :: c :: r) (some 2) (some 6) = (c :: r).take 4 := by
              unfold cutL
              have : HT.sIx ((PyData.str w) :: nm :: c :: r).length 0 (some 2) = 2 := by
                have := HT.sIx_nat ((PyData.str w) :: nm :: c :: r).length 0 2
                rw [show ((2 : Nat) : Int) = 2 from rfl] at this
                rw [this]
                simp only [List.length_cons]
                omega
              rw [this]
              have h6 := HT.sIx_nat ((PyData.str w) :: nm :: c :: r).length ((PyData.str w) :: nm :: c :: r).length 6
              rw [show ((6 : Nat) : Int) = 6 from rfl] at h6
              rw [h6]
              show (c :: r).take _ = _
              simp only [List.length_cons]
              by_cases hr : r.length ≤ 3
              · rw [List.take_of_length_le (by simp; omega), List.take_of_length_le (by simp; omega)]
              · congr 1
                omega
            by_cases w1 : w = "leaf"
            · have d1 : shR f w (c :: r) = leR (c :: r) := if_pos w1
              rw [d1]
              simp only [w1, decide_true] at e1
              match r, hl, hx with
              | [x], hl, hx =>
                have i3 : atI [PyData.str w, nm, c, x] 3 = some x := rfl
                have ex := Pisspan_eq (hx x (by simp)) hL
                subst w1
                generalize hXS : [PyData.str "leaf", nm, c, x] = XS at *
                cases hc : spanB c <;> cases hxx : spanB x <;> simp only [hc, hxx] at es ex <;> simp -implicitDefEqProofs [D_is_box_to, startE, isiD, h0, h3, hln, i0, i1, i2, i3, pnm, e1, es, ex, leR, hc, hxx]
              | [], hl, hx =>
                subst w1
                generalize hXS : [PyData.str "leaf", nm, c] = XS at *
                simp -implicitDefEqProofs [D_is_box_to, startE, isiD, h0, h3, hln, i0, i1, pnm, e1, leR]
              | x :: y :: r, hl, hx =>
                subst w1
                have h4 : ¬ (((PyData.str "leaf" :: nm :: c :: x :: y :: r).length : Int) = 4) := by simp only [List.length_cons]; omega
                have h4' : ¬ ((PyData.str "leaf" :: nm :: c :: x :: y :: r).length = 4) := by simp only [List.length_cons]; omega
                generalize hXS : PyData.str "leaf" :: nm :: c :: x :: y :: r = XS at *
                simp -implicitDefEqProofs [D_is_box_to, startE, isiD, h0, h3, h4, h4', i0, i1, pnm, e1, leR]
            · simp only [w1, decide_false] at e1
              by_cases w2 : w = "row" ∨ w = "col"
              · have d1 : shR f w (c :: r) = liR f (c :: r) := by unfold shR; rw [if_neg w1, if_pos w2]
                rw [d1]
                have w2' : (decide (w = "row") || decide (w = "col")) = true := by simpa using w2
                rw [w2'] at e2
                match r, hl, hx with
                | [x], hl, hx =>
                  have i3 : atI [PyData.str w, nm, c, x] 3 = some x := rfl
                  have ex := hR1 4 n x (by omega) (hx x (by simp))
                  rw [show ((4 : Nat) : Int) = 4 from rfl] at ex
                  generalize hXS : [PyData.str w, nm, c, x] = XS at *
                  cases hc : whB c 0 999 <;> simp only [hc] at ew <;> simp -implicitDefEqProofs [D_is_box_to, startE, isiD, h0, h3, hln, i0, i1, i2, i3, pnm, e1, e2, ew, ex, liR, hc]
                | [], hl, hx =>
                  generalize hXS : [PyData.str w, nm, c] = XS at *
                  simp -implicitDefEqProofs [D_is_box_to, startE, isiD, h0, h3, hln, i0, i1, pnm, e1, e2, liR]
                | x :: y :: r, hl, hx =>
                  have h4 : ¬ (((PyData.str w :: nm :: c :: x :: y :: r).length : Int) = 4) := by simp only [List.length_cons]; omega
                  have h4' : ¬ ((PyData.str w :: nm :: c :: x :: y :: r).length = 4) := by simp only [List.length_cons]; omega
                  generalize hXS : PyData.str w :: nm :: c :: x :: y :: r = XS at *
                  simp -implicitDefEqProofs [D_is_box_to, startE, isiD, h0, h3, h4, h4', i0, i1, pnm, e1, e2, liR]
              · have w2' : (decide (w = "row") || decide (w = "col")) = false := by simpa using w2
                rw [w2'] at e2
                by_cases w3 : w = "pile"
                · have d1 : shR f w (c :: r) = piR f (c :: r) := by unfold shR; rw [if_neg w1, if_neg w2, if_pos w3]
                  rw [d1]
                  simp only [w3, decide_true] at e3
                  match r, hl, hx with
                  | [], hl, hx =>
                    have ex := hR1 3 n c (by omega) (hx c (by simp))
                    rw [show ((3 : Nat) : Int) = 3 from rfl] at ex
                    subst w3
                    generalize hXS : [PyData.str "pile", nm, c] = XS at *
                    simp -implicitDefEqProofs [D_is_box_to, startE, isiD, h0, h3, hln, i0, i1, i2, pnm, e1, e2, e3, ex, piR]
                  | x :: r, hl, hx =>
                    subst w3
                    have h4 : ¬ (((PyData.str "pile" :: nm :: c :: x :: r).length : Int) = 3) := by simp only [List.length_cons]; omega
                    have h4' : ¬ ((PyData.str "pile" :: nm :: c :: x :: r).length = 3) := by simp only [List.length_cons]; omega
                    generalize hXS : PyData.str "pile" :: nm :: c :: x :: r = XS at *
                    simp -implicitDefEqProofs [D_is_box_to, startE, isiD, h0, h3, h4, h4', i0, i1, pnm, e1, e2, e3, piR]
                · simp only [w3, decide_false] at e3
                  by_cases w4 : w = "rim"
                  · have d1 : shR f w (c :: r) = riR f (c :: r) := by unfold shR; rw [if_neg w1, if_neg w2, if_neg w3, if_pos w4]
                    rw [d1]
                    simp only [w4, decide_true] at e4
                    match r, hl, hx, cut with
                    | [x, y, z, u], hl, hx, cut =>
                      have i6 : atI [PyData.str w, nm, c, x, y, z, u] 6 = some u := rfl
                      have fx := Pwhole_eq (lo := 0) (hi := 999) (hx x (by simp))
                      have fy := Pwhole_eq (lo := 0) (hi := 999) (hx y (by simp))
                      have fz := Pwhole_eq (lo := 0) (hi := 999) (hx z (by simp))
                      have fu := hR2 n u (by omega) (hx u (by simp))
                      have g1 : ∀ env : DEnv, env.length = 4 → lcGo (bNm 3) yesT (C_is_box_to_1 R1 R2) env [c, x, y, z] = some [.bool (whB c 0 999), .bool (whB x 0 999), .bool (whB y 0 999), .bool (whB z 0 999)] := fun env he => by
                        have h1 : 3 < env.length := by omega
                        simp -implicitDefEqProofs [lcGo, C_is_box_to_1, h1, ew, fx, fy, fz]
                      have s4 : sml 4 = true := rfl
                      have cut' : cutL [PyData.str w, nm, c, x, y, z, u] (some 2) (some 6) = [c, x, y, z] := cut
                      subst w4
                      generalize hXS : [PyData.str "rim", nm, c, x, y, z, u] = XS at *
                      cases h1 : whB c 0 999 <;> cases h2 : whB x 0 999 <;> cases h3' : whB y 0 999 <;> cases h4 : whB z 0 999 <;> simp only [h1, h2, h3', h4] at g1 <;> simp -implicitDefEqProofs [D_is_box_to, startE, isiD, h0, h3, hln, i0, i1, i6, pnm, e1, e2, e3, e4, cut', s4, g1, fu, riR, h1, h2, h3', h4]
                    | [], hl, hx, _ =>
                      subst w4
                      generalize hXS : [PyData.str "rim", nm, c] = XS at *
                      simp -implicitDefEqProofs [D_is_box_to, startE, isiD, h0, h3, hln, i0, i1, pnm, e1, e2, e3, e4, riR]
                    | [x], hl, hx, _ =>
                      subst w4
                      generalize hXS : [PyData.str "rim", nm, c, x] = XS at *
                      simp -implicitDefEqProofs [D_is_box_to, startE, isiD, h0, h3, hln, i0, i1, pnm, e1, e2, e3, e4, riR]
                    | [x, y], hl, hx, _ =>
                      subst w4
                      generalize hXS : [PyData.str "rim", nm, c, x, y] = XS at *
                      simp -implicitDefEqProofs [D_is_box_to, startE, isiD, h0, h3, hln, i0, i1, pnm, e1, e2, e3, e4, riR]
                    | [x, y, z], hl, hx, _ =>
                      subst w4
                      generalize hXS : [PyData.str "rim", nm, c, x, y, z] = XS at *
                      simp -implicitDefEqProofs [D_is_box_to, startE, isiD, h0, h3, hln, i0, i1, pnm, e1, e2, e3, e4, riR]
                    | x :: y :: z :: u :: v :: r, hl, hx, _ =>
                      subst w4
                      have h4 : ¬ (((PyData.str "rim" :: nm :: c :: x :: y :: z :: u :: v :: r).length : Int) = 7) := by simp only [List.length_cons]; omega
                      have h4' : ¬ ((PyData.str "rim" :: nm :: c :: x :: y :: z :: u :: v :: r).length = 7) := by simp only [List.length_cons]; omega
                      generalize hXS : PyData.str "rim" :: nm :: c :: x :: y :: z :: u :: v :: r = XS at *
                      simp -implicitDefEqProofs [D_is_box_to, startE, isiD, h0, h3, h4, h4', i0, i1, pnm, e1, e2, e3, e4, riR]
                  · have d1 : shR f w (c :: r) = false := by unfold shR; rw [if_neg w1, if_neg w2, if_neg w3, if_neg w4]
                    rw [d1]
                    simp only [w4, decide_false] at e4
                    generalize hXS : PyData.str w :: nm :: c :: r = XS at *
                    simp -implicitDefEqProofs [D_is_box_to, startE, isiD, h0, h3, i0, i1, pnm, e1, e2, e3, e4]
        | dict _ => cases n <;> cases pa
        | _ =>
          show _ = some (PyData.bool false)
          generalize hXS : _ :: nm :: c :: r = XS at *
          simp -implicitDefEqProofs [D_is_box_to, startE, isiD, h0, h3, i0]
  | _ => simp -implicitDefEqProofs [D_is_box_to, startE, isiD, h0, shS]

theorem Pbox_eq {b : Bool} {L N : Nat} (hL : L ≤ 10000) : ∀ (k m n : Nat) (d : D), 2 * k + 1 ≤ m → n ≤ N → pl b L n d = true → M_is_box_to m [d, .int (k : Int)] = some (.bool (shB k d)) := by
  intro k
  induction k with
  | zero =>
    intro m n d hm hn h
    obtain ⟨m, rfl⟩ : ∃ j, m = j + 1 := ⟨m - 1, by omega⟩
    have e : M_is_box_to (m + 1) = runF 4 (D_is_box_to (M_are_boxes m) (M_is_box_to m)) := rfl
    rw [e]
    show _ = some (PyData.bool false)
    simp -implicitDefEqProofs [D_is_box_to, startE]
  | succ k ih =>
    intro m n d hm hn h
    obtain ⟨m, rfl⟩ : ∃ j, m = j + 2 := ⟨m - 2, by omega⟩
    have e : M_is_box_to (m + 2) = runF 4 (D_is_box_to (M_are_boxes (m + 1)) (M_is_box_to (m + 1))) := rfl
    rw [e]
    refine Pbox_step (N := N) (shB k) k hL (fun many n' d' hn' h' => ?_) (fun n' d' hn' h' => ih (m + 1) n' d' (by omega) hn' h') hn h
    have e2 : M_are_boxes (m + 1) = runF 4 (D_are_boxes (M_are_boxes m) (M_is_box_to m)) := rfl
    rw [e2]
    exact Pare_step (N := N) (shB k) many k hL (fun n'' d'' hn'' h'' => ih m n'' d'' (by omega) hn'' h'') hn' h'
/-! the law's -/
def szD : List (D × D) := [(.str "leaf", .int 4), (.str "row", .int 4), (.str "col", .int 4), (.str "pile", .int 3), (.str "rim", .int 7)]
theorem sz_eq : mergeKD [] [(.inr "leaf", .int 4), (.inr "row", .int 4), (.inr "col", .int 4), (.inr "pile", .int 3), (.inr "rim", .int 7)] = szD := by
  rfl
theorem look_sz {w : Str} (h1 : ¬ w = "leaf") (h2 : ¬ w = "row") (h3 : ¬ w = "col") (h4 : ¬ w = "pile") (h5 : ¬ w = "rim") : lookK szD (.inr w) = none := by
  have q : ∀ z : Str, ¬ w = z → decide (asKey (.str z) = some (Sum.inr w)) = false := fun z h => by
    refine decide_eq_false fun e => ?_
    have e' : (some (Sum.inr z) : Option Key) = some (Sum.inr w) := e
    cases e'
    exact h rfl
  unfold lookK szD
  simp only [List.find?_cons, q _ h1, q _ h2, q _ h3, q _ h4, q _ h5, List.find?_nil]
  rfl
/-! names of what is a box by shape -/
def insD : D → List D
  | .tuple [.str w, _, a] => match a with
    | .tuple xs => xs
    | _ => []
  | .tuple [.str w, _, _, a] => if w = "leaf" then [] else match a with
    | .tuple xs => xs
    | _ => []
  | .tuple [_, _, _, _, _, _, a] => [a]
  | _ => []
def nmOf : D → Str
  | .tuple (_ :: .str x :: _) => x
  | _ => ""
def nmD : Nat → D → List Str
  | 0, _ => []
  | n + 1, d => nmOf d :: (insD d).flatMap (nmD n)
theorem name_str {d : D} (h : nameB d = true) : ∃ x : Str, d = .str x := by
  cases d with
  | str x => exact ⟨x, rfl⟩
  | _ => cases h
theorem bsB_tup {f : D → Bool} {m : Nat} {d : D} (h : bsB f m d = true) : ∃ xs : List D, d = .tuple xs ∧ 1 ≤ xs.length ∧ xs.length ≤ m ∧ ∀ y ∈ xs, f y = true := by
  cases d with
  | tuple xs =>
    have h' : (decide (1 ≤ xs.length ∧ xs.length ≤ m) && xs.all f) = true := h
    rw [Bool.and_eq_true, decide_eq_true_eq, List.all_eq_true] at h'
    exact ⟨xs, rfl, h'.1.1, h'.1.2, h'.2⟩
  | _ => cases h
theorem shS_cases {f : D → Bool} {d : D} (h : shS f d = true) : ∃ x : Str, nameB (.str x) = true ∧ ((∃ a b, d = .tuple [.str "leaf", .str x, a, b]) ∨ (∃ c g xs, d = .tuple [.str (kindS c), .str x, g, .tuple xs] ∧ xs.length ≤ 4 ∧ ∀ y ∈ xs, f y = true)
    ∨ (∃ xs, d = .tuple [.str "pile", .str x, .tuple xs] ∧ xs.length ≤ 4 ∧ ∀ y ∈ xs, f y = true) ∨ (∃ a b c e y, d = .tuple [.str "rim", .str x, a, b, c, e, y] ∧ f y = true)) := by
  unfold shS at h
  split at h
  · rename_i w nm r
    rw [Bool.and_eq_true] at h
    obtain ⟨h1, h2⟩ := h
    obtain ⟨x, rfl⟩ := name_str h1
    refine ⟨x, h1, ?_⟩
    unfold shR at h2
    split at h2
    · rename_i hw
      subst hw
      unfold leR at h2
      split at h2
      · exact .inl ⟨_, _, rfl⟩
      · cases h2
    · split at h2
      · rename_i hw
        unfold liR at h2
        split at h2
        · rename_i g bs
          rw [Bool.and_eq_true] at h2
          obtain ⟨xs, rfl, _, h4, h5⟩ := bsB_tup h2.2
          refine .inr (.inl ?_)
          rcases hw with rfl | rfl
          · exact ⟨false, g, xs, rfl, h4, h5⟩
          · exact ⟨true, g, xs, rfl, h4, h5⟩
        · cases h2
      · split at h2
        · rename_i hw
          subst hw
          unfold piR at h2
          split at h2
          · obtain ⟨xs, rfl, _, h4, h5⟩ := bsB_tup h2
            exact .inr (.inr (.inl ⟨xs, rfl, by omega, h5⟩))
          · cases h2
        · split at h2
          · rename_i hw
            subst hw
            unfold riR at h2
            split at h2
            · rw [Bool.and_eq_true] at h2
              exact .inr (.inr (.inr ⟨_, _, _, _, _, rfl, h2.2⟩))
            · cases h2
          · cases h2
  · cases h
/-- what is in it, and its name -/
theorem shS_parts {f : D → Bool} {d : D} (h : shS f d = true) : M_boxes_in [d] = some (.tuple (insD d)) ∧ M_Lin [d] = some (.tuple (insD d)) ∧ ixD d (.int 1) = some (.str (nmOf d)) ∧ nameB (.str (nmOf d)) = true ∧ (insD d).length ≤ 4 ∧ ∀ y ∈ insD d, f y = true := by
  obtain ⟨x, hx, h⟩ := shS_cases h
  rcases h with ⟨a, b, rfl⟩ | ⟨c, g, xs, rfl, hl, hf⟩ | ⟨xs, rfl, hl, hf⟩ | ⟨a, b, c, e, y, rfl, hf⟩
  · have i0 : atI [PyData.str "leaf", .str x, a, b] 0 = some (.str "leaf") := rfl
    have e0 : insD (.tuple [.str "leaf", .str x, a, b]) = [] := by simp [insD]
    rw [e0]
    refine ⟨?_, ?_, rfl, hx, by simp, fun y hy => by cases hy⟩
    · simp -implicitDefEqProofs [M_boxes_in, D_boxes_in, startE, i0]
    · simp -implicitDefEqProofs [M_Lin, D_Lin, startE, i0]
  · have i0 : atI [PyData.str (kindS c), .str x, g, .tuple xs] 0 = some (.str (kindS c)) := rfl
    have i3 : atI [PyData.str (kindS c), .str x, g, .tuple xs] (-1) = some (.tuple xs) := rfl
    have i3' : atI [PyData.str (kindS c), .str x, g, .tuple xs] 3 = some (.tuple xs) := rfl
    have hk : ¬ kindS c = "leaf" := by cases c <;> decide +kernel
    have e0 : insD (.tuple [.str (kindS c), .str x, g, .tuple xs]) = xs := if_neg hk
    have e1 : eqD (.str (kindS c)) (.str "leaf") = some (.bool false) := by cases c <;> simp [kindS]
    have e2 : eqD (.str (kindS c)) (.str "rim") = some (.bool false) := by cases c <;> simp [kindS]
    rw [e0]
    refine ⟨?_, ?_, rfl, hx, hl, hf⟩
    · simp -implicitDefEqProofs [M_boxes_in, D_boxes_in, startE, i0, e1, e2, i3]
    · have z0 : ∀ q : D, atI [PyData.tuple xs, q] 0 = some (.tuple xs) := fun _ => rfl
      simp -implicitDefEqProofs [M_Lin, D_Lin, startE, i0, e1, e2, i3', z0]
  · have i0 : atI [PyData.str "pile", .str x, .tuple xs] 0 = some (.str "pile") := rfl
    have i3 : atI [PyData.str "pile", .str x, .tuple xs] (-1) = some (.tuple xs) := rfl
    have i3' : atI [PyData.str "pile", .str x, .tuple xs] 2 = some (.tuple xs) := rfl
    have e0 : insD (.tuple [.str "pile", .str x, .tuple xs]) = xs := rfl
    rw [e0]
    refine ⟨?_, ?_, rfl, hx, hl, hf⟩
    · simp -implicitDefEqProofs [M_boxes_in, D_boxes_in, startE, i0, i3]
    · have z0 : ∀ q : D, atI [PyData.tuple xs, q] 0 = some (.tuple xs) := fun _ => rfl
      simp -implicitDefEqProofs [M_Lin, D_Lin, startE, i0, i3', z0]
  · have i0 : atI [PyData.str "rim", .str x, a, b, c, e, y] 0 = some (.str "rim") := rfl
    have i6 : atI [PyData.str "rim", .str x, a, b, c, e, y] 6 = some y := rfl
    have c6 : cutL [PyData.str "rim", .str x, a, b, c, e, y] (some 6) none = [y] := rfl
    have e0 : insD (.tuple [.str "rim", .str x, a, b, c, e, y]) = [y] := rfl
    rw [e0]
    refine ⟨?_, ?_, rfl, hx, by simp, fun z hz => ?_⟩
    · simp -implicitDefEqProofs [M_boxes_in, D_boxes_in, startE, i0, i6]
    · have z0 : ∀ q : D, atI [q, PyData.tuple [y]] 1 = some (.tuple [y]) := fun _ => rfl
      simp -implicitDefEqProofs [M_Lin, D_Lin, startE, i0, i6, c6, z0]
    · rw [List.mem_singleton.mp hz]; exact hf
def cpD : Nat → Nat
  | 0 => 0
  | n + 1 => 1 + 4 * cpD n
theorem cpD_le {n : Nat} (h : n ≤ 5) : cpD n ≤ 400 := by
  match n, h with
  | 0, _ => decide
  | 1, _ => decide
  | 2, _ => decide
  | 3, _ => decide
  | 4, _ => decide
  | 5, _ => decide
theorem flat_leD {α β : Type} {k : Nat} {f : α → List β} : ∀ (xs : List α), (∀ x ∈ xs, (f x).length ≤ k) → (xs.flatMap f).length ≤ k * xs.length
  | [], _ => by simp
  | x :: xs, h => by
    have h1 := h x List.mem_cons_self
    have h2 := flat_leD xs fun y hy => h y (List.mem_cons_of_mem _ hy)
    rw [List.flatMap_cons, List.length_append, List.length_cons, Nat.mul_succ]
    omega
theorem nmD_ok : ∀ (n : Nat) (d : D), shB n d = true → (nmD n d).length ≤ cpD n ∧ ∀ x ∈ nmD n d, nameB (.str x) = true
  | 0, d, h => by cases h
  | n + 1, d, h => by
    obtain ⟨_, _, _, h3, h4, h5⟩ := shS_parts (f := shB n) h
    have q := fun y hy => nmD_ok n y (h5 y hy)
    constructor
    · show ((nmOf d :: (insD d).flatMap (nmD n)).length) ≤ 1 + 4 * cpD n
      rw [List.length_cons]
      have h1 := flat_leD (k := cpD n) (insD d) fun x hx => (q x hx).1
      have h2 : cpD n * (insD d).length ≤ cpD n * 4 := Nat.mul_le_mul_left _ h4
      omega
    · intro x hx
      have hx' : x ∈ nmOf d :: (insD d).flatMap (nmD n) := hx
      rcases List.mem_cons.mp hx' with rfl | hx'
      · exact h3
      · obtain ⟨y, hy, hx'⟩ := List.mem_flatMap.mp hx'
        exact (q y hy).2 x hx'
theorem namesD1 {n : Nat} {B : FS} (R : List D → Option D) (hB : B = sAsg 1 (c2 addD (vr 1) (cA R (consA (vr 2) nilA)))) {s0 : Option Sl} {k : Nat} (P : D → Prop) (hR : ∀ p, P p → R [p] = some (.tuple ((nmD n p).map PyData.str)) ∧ (nmD n p).length ≤ k) :
    ∀ (ps : List D) (acc : List Str) (x : Option Sl), (∀ p ∈ ps, P p) → acc.length + k * ps.length ≤ 100000 → ∃ x', forD (bNm 2) B ps [s0, some (.sh (.tuple (acc.map PyData.str))), x] = some (.nx [s0, some (.sh (.tuple ((acc ++ ps.flatMap (nmD n)).map PyData.str))), x'])
  | [], acc, x, _, _ => ⟨x, by rw [forD_n, List.flatMap_nil, List.append_nil]⟩
  | p :: ps, acc, x, h, hl => by
    obtain ⟨r, hk⟩ := hR p (h p List.mem_cons_self)
    rw [List.length_cons, Nat.mul_succ] at hl
    obtain ⟨x', hh⟩ := namesD1 R hB (s0 := s0) (k := k) P hR ps (acc ++ nmD n p) (some (.sh p)) (fun y q => h y (List.mem_cons_of_mem _ q)) (by rw [List.length_append]; omega)
    refine ⟨x', ?_⟩
    rw [List.flatMap_cons, ← List.append_assoc, ← hh, forD_c]
    have a : addD (.tuple (acc.map PyData.str)) (.tuple ((nmD n p).map PyData.str)) = some (.tuple ((acc ++ nmD n p).map PyData.str)) := by
      rw [List.map_append]
      exact add_t (by rw [List.length_map, List.length_map]; omega)
    generalize (acc ++ nmD n p).map PyData.str = AW at *
    generalize (nmD n p).map PyData.str = WP at *
    generalize acc.map PyData.str = AC at *
    subst hB
    simp -implicitDefEqProofs [r, a]
theorem Pnames_eq : ∀ (n m : Nat) (d : D), n ≤ m → n ≤ 5 → shB n d = true → M_names_in m [d] = some (.tuple ((nmD n d).map PyData.str)) := by
  intro n
  induction n with
  | zero => intro m d _ _ h; cases h
  | succ n ih =>
    intro m d hm hn h
    obtain ⟨m, rfl⟩ : ∃ j, m = j + 1 := ⟨m - 1, by omega⟩
    have hM : M_names_in (m + 1) = runF 3 (D_names_in (M_names_in m)) := rfl
    rw [hM]
    obtain ⟨bi, _, i1, _, h4, h5⟩ := shS_parts (f := shB n) h
    have cp := cpD_le (show n ≤ 5 by omega)
    have hl : cpD n * (insD d).length ≤ cpD n * 4 := Nat.mul_le_mul_left _ h4
    obtain ⟨x', lp⟩ := namesD1 (n := n) (B := B_names_in_1 (M_names_in m)) (M_names_in m) rfl (s0 := some (.sh d)) (k := cpD n) (fun p => shB n p = true) (fun p hp => ⟨ih m p (by omega) (by omega) hp, (nmD_ok n p hp).1⟩) (insD d) [nmOf d] none h5 (by simp; omega)
    rw [List.singleton_append] at lp
    have e : nmD (n + 1) d = nmOf d :: (insD d).flatMap (nmD n) := rfl
    have l1 : [nmOf d].map PyData.str = [.str (nmOf d)] := rfl
    rw [e]
    rw [l1] at lp
    generalize (nmOf d :: (insD d).flatMap (nmD n)).map PyData.str = W at *
    generalize insD d = PB at *
    generalize nmOf d = nd at *
    simp -implicitDefEqProofs [D_names_in, startE, i1, bi, lp]
def boxB (d : D) : Bool := shB 4 d && ((TX.metT (nmD 4 d)).length == (nmD 4 d).length)
theorem len_strs (ys : List Str) : lenD (.tuple (ys.map PyData.str)) = some (.int (ys.length : Int)) := by
  rw [e_lenT, List.length_map]
theorem Pisbox_eq {b : Bool} {L n : Nat} {d : D} (hL : L ≤ 10000) (h : pl b L n d = true) : M_is_box [d] = some (.bool (boxB d)) := by
  have h1 := Pbox_eq (N := n) hL 4 12 n d (by decide) (Nat.le_refl _) h
  rw [show ((4 : Nat) : Int) = 4 from rfl] at h1
  unfold boxB
  cases hs : shB 4 d with
  | false =>
    rw [hs] at h1
    simp -implicitDefEqProofs [M_is_box, D_is_box, startE, h1]
  | true =>
    rw [hs] at h1
    have h2 := Pnames_eq 4 12 d (by decide) (by decide) hs
    have h3 := e_lensetT (ys := nmD 4 d) (by have := (nmD_ok 4 d hs).1; have := cpD_le (n := 4) (by decide); omega)
    have h4 := len_strs (nmD 4 d)
    generalize (nmD 4 d).map PyData.str = NS at *
    generalize (nmD 4 d).length = a at *
    generalize (TX.metT (nmD 4 d)).length = c at *
    have hc : ((c : Int) == (a : Int)) = (c == a) := by
      by_cases q : c = a
      · subst q; rw [beq_self_eq_true, beq_self_eq_true]
      · have : ¬ (c : Int) = (a : Int) := by omega
        rw [beq_eq_false_iff_ne.mpr this, beq_eq_false_iff_ne.mpr q]
    simp -implicitDefEqProofs [M_is_box, D_is_box, startE, h1, h2, h3, h4, hc, -e_lenT]
/-! made boxes -/
theorem span_sp {s : Spn} (h : s.Ok) (h2 : s.Sm) : spanB (spD s) = true := by
  have a := h.lo0
  have b := h.low
  have c := h2.wi
  have d := h.gr0
  have e := h.sh0
  have f := h2.gr
  have g := h2.sh
  show (whB (.int s.lo) 0 999 && whB (.int s.wi) s.lo 999 && whB (.int s.gr) 0 9 && whB (.int s.sh) 0 9 && moB (optD s.mo) s.wi) = true
  have w : ∀ i lo hi : Int, lo ≤ i → i ≤ hi → whB (.int i) lo hi = true := fun i lo hi h1 h2 => by
    show (decide (lo ≤ i) && decide (i ≤ hi)) = true
    rw [decide_eq_true h1, decide_eq_true h2]; rfl
  have m : moB (optD s.mo) s.wi = true := by
    cases hm : s.mo with
    | none => rfl
    | some m => exact w m s.wi 999 (h.top m hm) (h2.mo m hm)
  rw [w _ _ _ a (by omega), w _ _ _ b c, w _ _ _ d f, w _ _ _ e g, m]
  rfl
theorem wh_int {i : Int} (h0 : 0 ≤ i) (h1 : i ≤ 999) : whB (.int i) 0 999 = true := by
  show (decide (0 ≤ i) && decide (i ≤ 999)) = true
  rw [decide_eq_true h0, decide_eq_true h1]; rfl
def lowS (nm : Str) : Bool := nm.cps.toList.all lwB
theorem low_ch {nm : Str} {k : Nat} (h : lowS nm = true) (hk : k < 4) : lowS (nm ++ chS k) = true := by
  show ((nm.cps ++ #[97 + k]).toList.all lwB) = true
  rw [Array.toList_append, List.all_append]
  have h1 : nm.cps.toList.all lwB = true := h
  rw [h1]
  have : lwB (97 + k) = true := decide_eq_true ⟨by omega, by omega⟩
  simp [this]
theorem name_low {nm : Str} (h : lowS nm = true) (h1 : 1 ≤ nm.length) (h2 : nm.length ≤ 4) : nameB (.str nm) = true := by
  show (decide (1 ≤ nm.length ∧ nm.length ≤ 4) && nm.cps.toList.all lwB) = true
  rw [decide_eq_true ⟨h1, h2⟩]
  exact h
theorem bs_of {f : D → Bool} {m : Nat} {xs : List D} (h1 : 1 ≤ xs.length) (h2 : xs.length ≤ m) (h3 : ∀ x ∈ xs, f x = true) : bsB f m (.tuple xs) = true := by
  show (decide (1 ≤ xs.length ∧ xs.length ≤ m) && xs.all f) = true
  rw [decide_eq_true ⟨h1, h2⟩, List.all_eq_true.mpr h3]
  rfl
theorem made_sh : ∀ (n : Nat) (nm : Str) (b : Bx n), Made n nm b → lowS nm = true → 1 ≤ nm.length → nm.length + n ≤ 5 → shB n (bxD n b) = true
  | 0, _, b, _, _, _, _ => nomatch b
  | n + 1, nm, b, h, hlow, h1, h2 => by
    have hnm := name_low hlow h1 (by omega)
    have mem : ∀ {ps : List (Bx n)}, ps.length ≤ 4 → (∀ k p, ps[k]? = some p → Made n (nm ++ chS k) p) → ∀ x ∈ ps.map (bxD n), shB n x = true := fun {ps} hl hp x hx => by
      obtain ⟨p, hm, rfl⟩ := List.mem_map.mp hx
      obtain ⟨k, hk⟩ := List.getElem?_of_mem hm
      have : k < ps.length := (List.getElem?_eq_some_iff.mp hk).1
      exact made_sh n _ p (hp k p hk) (low_ch hlow (by omega)) (by rw [len_ch]; omega) (by rw [len_ch]; omega)
    show shS (shB n) (bxD (n + 1) b) = true
    match (b : BxF (Bx n)), h with
    | .leaf nm' w h', h =>
      obtain ⟨rfl, a, b, c, d⟩ := h
      show (nameB (.str nm') && shR (shB n) "leaf" [spD w, spD h']) = true
      rw [hnm]
      have : shR (shB n) "leaf" [spD w, spD h'] = (spanB (spD w) && spanB (spD h')) := if_pos rfl
      rw [this, span_sp a b, span_sp c d]
      rfl
    | .line c nm' g ps, h =>
      obtain ⟨rfl, a1, a2, a3, a4, a5⟩ := h
      show (nameB (.str nm') && shR (shB n) (kindS c) [.int g, .tuple (ps.map (bxD n))]) = true
      rw [hnm]
      have k1 : ¬ kindS c = "leaf" := by cases c <;> decide +kernel
      have k2 : kindS c = "row" ∨ kindS c = "col" := by cases c
                                                        · exact .inl rfl
                                                        · exact .inr rfl
      have : shR (shB n) (kindS c) [.int g, .tuple (ps.map (bxD n))] = (whB (.int g) 0 999 && bsB (shB n) 4 (.tuple (ps.map (bxD n)))) := by
        unfold shR
        rw [if_neg k1, if_pos k2]
        rfl
      rw [this, wh_int a1 (by omega), bs_of (by simpa using a3) (by simpa using a4) (mem a4 a5)]
      rfl
    | .pile nm' ps, h =>
      obtain ⟨rfl, a3, a4, a5⟩ := h
      show (nameB (.str nm') && shR (shB n) "pile" [.tuple (ps.map (bxD n))]) = true
      rw [hnm]
      have : shR (shB n) "pile" [.tuple (ps.map (bxD n))] = bsB (shB n) 3 (.tuple (ps.map (bxD n))) := by
        unfold shR
        rw [if_neg (by decide +kernel), if_neg (by decide +kernel), if_pos rfl]
        rfl
      rw [this, bs_of (by simpa using a3) (by simpa using a4) (mem (by omega) a5)]
      rfl
    | .rim nm' a b c d p, h =>
      obtain ⟨rfl, h3, h4, h5, h6, h7⟩ := h
      show (nameB (.str nm') && shR (shB n) "rim" [.int a, .int b, .int c, .int d, bxD n p]) = true
      rw [hnm]
      have : shR (shB n) "rim" [.int a, .int b, .int c, .int d, bxD n p] = ((whB (.int a) 0 999 && whB (.int b) 0 999 && whB (.int c) 0 999 && whB (.int d) 0 999) && shB n (bxD n p)) := by
        unfold shR
        rw [if_neg (by decide +kernel), if_neg (by decide +kernel), if_neg (by decide +kernel), if_pos rfl]
        rfl
      rw [this, wh_int h3.1 (by omega), wh_int h4.1 (by omega), wh_int h5.1 (by omega), wh_int h6.1 (by omega), made_sh n _ p h7 (low_ch hlow (by decide)) (by rw [len_ch]; omega) (by rw [len_ch]; omega)]
      rfl
theorem strOk_chD {nm : Str} {k : Nat} (h : PyData.strOk nm = true) (hk : k < 4) : PyData.strOk (nm ++ chS k) = true := by
  show (nm.cps ++ #[97 + k]).all (· < 0x110000) = true
  rw [Array.all_append]
  have h1 : nm.cps.all (· < 0x110000) = true := h
  rw [h1]
  have : 97 + k < 0x110000 := by omega
  simp [this]
theorem pl_sp {s : Spn} (h : s.Ok) (h2 : s.Sm) : pl false 5 1 (spD s) = true := by
  have a := h.lo0
  have b := h.low
  have c := h2.wi
  have d := h.gr0
  have e := h.sh0
  have f := h2.gr
  have g := h2.sh
  refine pl_tup.mpr ⟨by simp, fun x hx => ?_⟩
  simp only [List.mem_cons, List.not_mem_nil, or_false] at hx
  rcases hx with rfl | rfl | rfl | rfl | rfl
  · exact pl_int.mpr (by omega)
  · exact pl_int.mpr (by omega)
  · cases hm : s.mo with
    | none => rfl
    | some m =>
      have h3 := h2.mo m hm
      have h4 := h.top m hm
      exact pl_int.mpr (by omega)
  · exact pl_int.mpr (by omega)
  · exact pl_int.mpr (by omega)
theorem made_pl : ∀ (n : Nat) (nm : Str) (b : Bx n), Made n nm b → PyData.strOk nm = true → nm.length + n ≤ 1000 → pl false 7 (2 * n) (bxD n b) = true
  | 0, _, b, _, _, _ => nomatch b
  | n + 1, nm, b, h, hok, h2 => by
    have mem : ∀ {ps : List (Bx n)}, ps.length ≤ 4 → (∀ k p, ps[k]? = some p → Made n (nm ++ chS k) p) → pl false 7 (2 * n + 1) (.tuple (ps.map (bxD n))) = true := fun {ps} hl hp => by
      refine pl_tup.mpr ⟨by rw [List.length_map]; omega, fun x hx => ?_⟩
      obtain ⟨p, hm, rfl⟩ := List.mem_map.mp hx
      obtain ⟨k, hk⟩ := List.getElem?_of_mem hm
      have : k < ps.length := (List.getElem?_eq_some_iff.mp hk).1
      exact made_pl n _ p (hp k p hk) (strOk_chD hok (by omega)) (by rw [len_ch]; omega)
    have hst : ∀ {z : Str}, PyData.strOk z = true → z.length ≤ 1000 → pl false 7 (2 * n + 1) (.str z) = true := fun h h' => pl_str.mpr ⟨h, h'⟩
    have hint : ∀ {i : Int}, 0 ≤ i → i ≤ 999 → pl false 7 (2 * n + 1) (.int i) = true := fun h h' => pl_int.mpr (by omega)
    have k2 : 2 * (n + 1) = 2 * n + 1 + 1 := by omega
    rw [k2]
    match (b : BxF (Bx n)), h with
    | .leaf nm' w h', h =>
      obtain ⟨rfl, a, b, c, d⟩ := h
      refine pl_tup.mpr ⟨by simp, fun x hx => ?_⟩
      simp only [List.mem_cons, List.not_mem_nil, or_false] at hx
      rcases hx with rfl | rfl | rfl | rfl
      · exact hst ok_leaf (by decide +kernel)
      · exact hst hok (by omega)
      · exact pl_mono (fun h => h) (by omega) 1 _ _ (by omega) (pl_sp a b)
      · exact pl_mono (fun h => h) (by omega) 1 _ _ (by omega) (pl_sp c d)
    | .line c nm' g ps, h =>
      obtain ⟨rfl, a1, a2, a3, a4, a5⟩ := h
      refine pl_tup.mpr ⟨by simp, fun x hx => ?_⟩
      simp only [List.mem_cons, List.not_mem_nil, or_false] at hx
      rcases hx with rfl | rfl | rfl | rfl
      · cases c
        · exact hst ok_row (by decide +kernel)
        · exact hst ok_col (by decide +kernel)
      · exact hst hok (by omega)
      · exact hint a1 (by omega)
      · exact mem a4 a5
    | .pile nm' ps, h =>
      obtain ⟨rfl, a3, a4, a5⟩ := h
      refine pl_tup.mpr ⟨by simp, fun x hx => ?_⟩
      simp only [List.mem_cons, List.not_mem_nil, or_false] at hx
      rcases hx with rfl | rfl | rfl
      · exact hst ok_pile (by decide +kernel)
      · exact hst hok (by omega)
      · exact mem (by omega) a5
    | .rim nm' a b c d p, h =>
      obtain ⟨rfl, h3, h4, h5, h6, h7⟩ := h
      refine pl_tup.mpr ⟨by simp, fun x hx => ?_⟩
      simp only [List.mem_cons, List.not_mem_nil, or_false] at hx
      rcases hx with rfl | rfl | rfl | rfl | rfl | rfl | rfl
      · exact hst ok_rim (by decide +kernel)
      · exact hst hok (by omega)
      · exact hint h3.1 (by omega)
      · exact hint h4.1 (by omega)
      · exact hint h5.1 (by omega)
      · exact hint h6.1 (by omega)
      · exact pl_mono (fun h => h) (by omega) (2 * n) _ _ (by omega) (made_pl n _ p h7 (strOk_chD hok (by decide)) (by rw [len_ch]; omega))

/-! which box each is in -/
def dcL (L : List (Str × D)) : List (D × D) := L.map fun p => (PyData.str p.1, p.2)
def upL : (n : Nat) → Bx n → D → List (Str × D)
  | 0, b, _ => nomatch b
  | n + 1, b, up => (bxN (n + 1) b, up) :: (inB b).flatMap fun p => upL n p (.str (bxN (n + 1) b))
theorem upL_names : ∀ (n : Nat) (b : Bx n) (up : D), (upL n b up).map (·.1) = nmsV n b
  | 0, b, _ => nomatch b
  | n + 1, b, up => by
    rw [upL, nmsV, List.map_cons, List.map_flatMap]
    congr 1
    exact flatMap_congr' fun x _ => upL_names n x _
theorem kvs_dc : ∀ L : List (Str × D), kvsOf (dcL L) = some (L.map fun p => (Sum.inr p.1, p.2))
  | [] => rfl
  | p :: L => by
    show (asKey (.str p.1)).bind (fun kk => (kvsOf (dcL L)).map ((kk, p.2) :: ·)) = _
    rw [kvs_dc L]
    rfl
theorem put_new {L : List (Str × D)} {x : Str} {d : D} (h : x ∉ L.map (·.1)) : putKD (dcL L) (.inr x) d = dcL (L ++ [(x, d)]) := by
  unfold putKD
  have : ((dcL L).any fun p => decide (asKey p.1 = some (Sum.inr x))) = false := by
    rw [List.any_eq_false]
    intro p hp q
    obtain ⟨y, hy, rfl⟩ := List.mem_map.mp hp
    have q' := of_decide_eq_true q
    have q2 : (some (Sum.inr y.1) : Option Key) = some (Sum.inr x) := q'
    cases q2
    exact h (List.mem_map.mpr ⟨y, hy, rfl⟩)
  rw [this]
  simp only [Bool.false_eq_true, if_false]
  unfold dcL
  rw [List.map_append]
  rfl
theorem merge_new : ∀ (M L : List (Str × D)), ((L ++ M).map (·.1)).Nodup → mergeKD (dcL L) (M.map fun p => (Sum.inr p.1, p.2)) = dcL (L ++ M)
  | [], L, _ => by rw [List.append_nil]; rfl
  | p :: M, L, h => by
    show mergeKD (putKD (dcL L) (.inr p.1) p.2) (M.map fun p => (Sum.inr p.1, p.2)) = _
    have hn : p.1 ∉ L.map (·.1) := by
      rw [List.map_append, List.map_cons] at h
      have := (List.nodup_append.mp h).2.2
      intro q
      exact this _ q _ List.mem_cons_self rfl
    rw [put_new hn]
    have e : L ++ p :: M = (L ++ [p]) ++ M := by simp
    rw [e]
    exact merge_new M (L ++ [p]) (by rw [← e]; exact h)
theorem look_dc {L : List (Str × D)} {x : Str} {d : D} (h : (L.map (·.1)).Nodup) (hm : (x, d) ∈ L) : lookK (dcL L) (.inr x) = some d := by
  induction L with
  | nil => cases hm
  | cons p L ih =>
    rw [List.map_cons, List.nodup_cons] at h
    unfold lookK dcL at *
    rw [List.map_cons, List.find?_cons]
    rcases List.mem_cons.mp hm with e | e
    · subst e
      have : decide (asKey (PyData.str x) = some (Sum.inr x)) = true := decide_eq_true rfl
      simp only [this]
      rfl
    · have hne : ¬ asKey (PyData.str p.1) = some (Sum.inr x) := fun q => by
        have q2 : (some (Sum.inr p.1) : Option Key) = some (Sum.inr x) := q
        cases q2
        exact h.1 (List.mem_map.mpr ⟨_, e, rfl⟩)
      simp only [hne, decide_false]
      exact ih h.2 e
/-- where all fits, a box that holds the point is in one that does -/
theorem up_holds {x y : Int} : ∀ (n : Nat) (b : Bx n) (up : D) (l u w h : Int), Gd n b → winV n false b l w = true → winV n true b u h = true → ∀ r ∈ plcV n b l u w h, holds x y r = true →
    ∃ d, (r.1, d) ∈ upL n b up ∧ ((d = up ∧ r = (bxN n b, l, u, w, h)) ∨ ∃ r' ∈ plcV n b l u w h, d = .str r'.1 ∧ holds x y r' = true)
  | 0, b, _, _, _, _, _, _, _, _ => nomatch b
  | n + 1, b, up, l, u, w, h, hg, w1, w2 => by
    intro r hr hh
    have hpl : plcV (n + 1) b l u w h = (bxN (n + 1) b, l, u, w, h) :: ((inB b).zip ((lineV false b l w).zip (lineV true b u h))).flatMap fun x => plcV n x.1 x.2.1.1 x.2.2.1 x.2.1.2 x.2.2.2 := by rw [plcV]
    rw [hpl] at hr
    rcases List.mem_cons.mp hr with rfl | hr
    · exact ⟨up, by rw [upL]; exact List.mem_cons_self, .inl ⟨rfl, rfl⟩⟩
    · obtain ⟨z, hz, hr⟩ := List.mem_flatMap.mp hr
      have z1 := (List.of_mem_zip hz).1
      have zw1 : (z.1, z.2.1) ∈ (inB b).zip (lineV false b l w) := by
        have e : (inB b).zip (lineV false b l w) = ((inB b).zip ((lineV false b l w).zip (lineV true b u h))).map fun z => (z.1, z.2.1) := by
          have q : ((lineV false b l w).zip (lineV true b u h)).map Prod.fst = lineV false b l w := List.map_fst_zip (by rw [lineV_len, lineV_len]; omega)
          conv => lhs; rw [← q]
          rw [List.zip_map_right]
          rfl
        rw [e]
        exact List.mem_map.mpr ⟨z, hz, rfl⟩
      have zw2 : (z.1, z.2.2) ∈ (inB b).zip (lineV true b u h) := by
        have e : (inB b).zip (lineV true b u h) = ((inB b).zip ((lineV false b l w).zip (lineV true b u h))).map fun z => (z.1, z.2.2) := by
          have q : ((lineV false b l w).zip (lineV true b u h)).map Prod.snd = lineV true b u h := List.map_snd_zip (by rw [lineV_len, lineV_len]; omega)
          conv => lhs; rw [← q]
          rw [List.zip_map_right]
          rfl
        rw [e]
        exact List.mem_map.mpr ⟨z, hz, rfl⟩
      have rm0 : ∀ hi : Bool, 0 ≤ (rmsV hi b).1 ∧ 0 ≤ (rmsV hi b).2 := fun hi => by
        match (b : BxF (Bx n)), hg with
        | .leaf _ _ _, _ => exact ⟨Int.le_refl _, Int.le_refl _⟩
        | .line _ _ _ _, _ => exact ⟨Int.le_refl _, Int.le_refl _⟩
        | .pile _ _, _ => exact ⟨Int.le_refl _, Int.le_refl _⟩
        | .rim _ a b' c d _, hg =>
          obtain ⟨h1, h2, h3, h4, _⟩ := hg
          cases hi
          · exact ⟨h1.1, h3.1⟩
          · exact ⟨h2.1, h4.1⟩
      rw [winV, List.all_eq_true] at w1 w2
      have a1 := w1 _ zw1
      have a2 := w2 _ zw2
      rw [Bool.and_eq_true, Bool.and_eq_true, decide_eq_true_eq, decide_eq_true_eq] at a1 a2
      simp only at a1 a2
      have r1 := rm0 false
      have r2 := rm0 true
      obtain ⟨d, hd, hc⟩ := up_holds (x := x) (y := y) n z.1 (.str (bxN (n + 1) b)) _ _ _ _ (gd_in hg _ z1) a1.2.2 a2.2.2 r hr hh
      refine ⟨d, by rw [upL]; exact List.mem_cons_of_mem _ (List.mem_flatMap.mpr ⟨_, z1, hd⟩), .inr ?_⟩
      rcases hc with ⟨e1, e2⟩ | ⟨r', hr', e1, e2⟩
      · refine ⟨(bxN (n + 1) b, l, u, w, h), by rw [hpl]; exact List.mem_cons_self, e1, ?_⟩
        rw [e2] at hh
        unfold holds at hh ⊢
        simp only [Bool.and_eq_true, decide_eq_true_eq] at hh ⊢
        omega
      · exact ⟨r', by rw [hpl]; exact List.mem_cons_of_mem _ (List.mem_flatMap.mpr ⟨z, hz, hr'⟩), e1, e2⟩

/-! boxes by other names -/
def rnV (ρ : Str → Str) : (n : Nat) → Bx n → Bx n
  | 0, b => nomatch b
  | n + 1, b => match (b : BxF (Bx n)) with
    | .leaf nm w h => (BxF.leaf (ρ nm) w h : BxF (Bx n))
    | .line c nm g ps => (BxF.line c (ρ nm) g (ps.map (rnV ρ n)) : BxF (Bx n))
    | .pile nm ps => (BxF.pile (ρ nm) (ps.map (rnV ρ n)) : BxF (Bx n))
    | .rim nm a b c d p => (BxF.rim (ρ nm) a b c d (rnV ρ n p) : BxF (Bx n))
section
variable {ρ : Str → Str}
theorem rn_in {n : Nat} (b : Bx (n + 1)) : inB (rnV ρ (n + 1) b) = (inB b).map (rnV ρ n) := by
  match (b : BxF (Bx n)) with
  | .leaf _ _ _ => rfl
  | .line _ _ _ _ => rfl
  | .pile _ _ => rfl
  | .rim _ _ _ _ _ _ => rfl
theorem rn_nm {n : Nat} (b : Bx (n + 1)) : bxN (n + 1) (rnV ρ (n + 1) b) = ρ (bxN (n + 1) b) := by
  match (b : BxF (Bx n)) with
  | .leaf _ _ _ => rfl
  | .line _ _ _ _ => rfl
  | .pile _ _ => rfl
  | .rim _ _ _ _ _ _ => rfl
theorem rn_gd : ∀ (n : Nat) (b : Bx n), Gd n b → Gd n (rnV ρ n b)
  | 0, b, _ => nomatch b
  | n + 1, b, h => by
    have mm : ∀ ps : List (Bx n), (∀ p ∈ ps, Gd n p) → ∀ p ∈ ps.map (rnV ρ n), Gd n p := fun ps hp p q => by
      obtain ⟨p', h1, rfl⟩ := List.mem_map.mp q
      exact rn_gd n p' (hp p' h1)
    match (b : BxF (Bx n)), h with
    | .leaf _ _ _, h => exact h
    | .line c nm g ps, h => exact ⟨h.1, h.2.1, by rw [List.length_map]; exact h.2.2.1, by rw [List.length_map]; exact h.2.2.2.1, mm ps h.2.2.2.2⟩
    | .pile nm ps, h => exact ⟨by rw [List.length_map]; exact h.1, by rw [List.length_map]; exact h.2.1, mm ps h.2.2⟩
    | .rim nm a b c d p, h => exact ⟨h.1, h.2.1, h.2.2.1, h.2.2.2.1, rn_gd n p h.2.2.2.2⟩
theorem rn_spn : ∀ (n : Nat) (hi : Bool) (b : Bx n), spnV n hi (rnV ρ n b) = spnV n hi b
  | 0, _, b => nomatch b
  | n + 1, hi, b => by
    have mm : ∀ ps : List (Bx n), (ps.map (rnV ρ n)).map (spnV n hi) = ps.map (spnV n hi) := fun ps => by
      rw [List.map_map]
      exact List.map_congr_left fun p _ => rn_spn n hi p
    match (b : BxF (Bx n)) with
    | .leaf _ _ _ => rfl
    | .line c nm g ps =>
      show (if c = hi then jnV true (g * (((ps.map (rnV ρ n)).length : Int) - 1)) ((ps.map (rnV ρ n)).map (spnV n hi)) else jnV false 0 ((ps.map (rnV ρ n)).map (spnV n hi))) = (if c = hi then jnV true (g * ((ps.length : Int) - 1)) (ps.map (spnV n hi)) else jnV false 0 (ps.map (spnV n hi)))
      rw [mm, List.length_map]
    | .pile nm ps =>
      show jnV false 0 ((ps.map (rnV ρ n)).map (spnV n hi)) = jnV false 0 (ps.map (spnV n hi))
      rw [mm]
    | .rim nm a b c d p =>
      show moreV (spnV n hi (rnV ρ n p)) (if hi = true then b + d else a + c) = moreV (spnV n hi p) (if hi = true then b + d else a + c)
      rw [rn_spn n hi p]
theorem rn_line {n : Nat} (hi : Bool) (b : Bx (n + 1)) (beg len : Int) : lineV hi (rnV ρ (n + 1) b) beg len = lineV hi b beg len := by
  have mm : ∀ ps : List (Bx n), (ps.map (rnV ρ n)).map (spnV n hi) = ps.map (spnV n hi) := fun ps => by
    rw [List.map_map]
    exact List.map_congr_left fun p _ => rn_spn n hi p
  have m2 : ∀ ps : List (Bx n), ((ps.map (rnV ρ n)).map fun p => (beg, takV (spnV n hi p) len)) = ps.map fun p => (beg, takV (spnV n hi p) len) := fun ps => by
    rw [List.map_map]
    exact List.map_congr_left fun p _ => by show (beg, takV (spnV n hi (rnV ρ n p)) len) = _; rw [rn_spn n hi p]
  match (b : BxF (Bx n)) with
  | .leaf _ _ _ => rfl
  | .line c nm g ps =>
    show (if c = hi then begs g beg (lenS ((ps.map (rnV ρ n)).map (spnV n hi)) g len) else (ps.map (rnV ρ n)).map fun p => (beg, takV (spnV n hi p) len)) = (if c = hi then begs g beg (lenS (ps.map (spnV n hi)) g len) else ps.map fun p => (beg, takV (spnV n hi p) len))
    rw [mm, m2]
  | .pile nm ps => exact m2 ps
  | .rim nm a b c d p =>
    show [(beg + (if hi = true then b else a), takV (spnV n hi (rnV ρ n p)) (max 0 (len - (if hi = true then b + d else a + c))))] = [(beg + (if hi = true then b else a), takV (spnV n hi p) (max 0 (len - (if hi = true then b + d else a + c))))]
    rw [rn_spn n hi p]
def rnR (ρ : Str → Str) (r : Row) : Row := (ρ r.1, r.2)
theorem rn_plc : ∀ (n : Nat) (b : Bx n) (l u w h : Int), plcV n (rnV ρ n b) l u w h = (plcV n b l u w h).map (rnR ρ)
  | 0, b, _, _, _, _ => nomatch b
  | n + 1, b, l, u, w, h => by
    rw [plcV, plcV, rn_nm, rn_in, rn_line, rn_line, List.map_cons, List.map_flatMap, zip_mapl, List.flatMap_map]
    congr 1
    exact flatMap_congr' fun x _ => rn_plc n x.1 _ _ _ _
theorem rn_rms {n : Nat} (hi : Bool) (b : Bx (n + 1)) : rmsV hi (rnV ρ (n + 1) b) = rmsV hi b := by
  match (b : BxF (Bx n)) with
  | .leaf _ _ _ => rfl
  | .line _ _ _ _ => rfl
  | .pile _ _ => rfl
  | .rim _ _ _ _ _ _ => rfl
theorem rn_win : ∀ (n : Nat) (hi : Bool) (b : Bx n) (beg len : Int), winV n hi (rnV ρ n b) beg len = winV n hi b beg len
  | 0, _, b, _, _ => nomatch b
  | n + 1, hi, b, beg, len => by
    rw [winV, winV, rn_in, rn_line, rn_rms, zip_mapl, List.all_map]
    congr 1
    funext x
    simp only [Function.comp]
    rw [rn_win n hi x.1]
theorem rn_names : ∀ (n : Nat) (b : Bx n), nmsV n (rnV ρ n b) = (nmsV n b).map ρ
  | 0, b => nomatch b
  | n + 1, b => by
    rw [nmsV, nmsV, rn_nm, rn_in, List.flatMap_map, List.map_cons, List.map_flatMap]
    congr 1
    exact flatMap_congr' fun x _ => rn_names n x
theorem rn_tou (rs : List Row) (x y : Int) : touV (rs.map (rnR ρ)) x y = (touV rs x y).map ρ := by
  unfold touV
  rw [List.filter_map, List.map_map, List.map_map]
  have : (holds x y ∘ rnR ρ) = holds x y := funext fun r => rfl
  rw [this]
  rfl
theorem rn_trn : ∀ (n : Nat) (b : Bx n), trnV n (rnV ρ n b) = rnV ρ n (trnV n b)
  | 0, b => nomatch b
  | n + 1, b => by
    have mm : ∀ ps : List (Bx n), (ps.map (rnV ρ n)).map (trnV n) = (ps.map (trnV n)).map (rnV ρ n) := fun ps => by
      rw [List.map_map, List.map_map]
      exact List.map_congr_left fun p _ => rn_trn n p
    match (b : BxF (Bx n)) with
    | .leaf _ _ _ => rfl
    | .line c nm g ps =>
      show (BxF.line (!c) (ρ nm) g ((ps.map (rnV ρ n)).map (trnV n)) : BxF (Bx n)) = (BxF.line (!c) (ρ nm) g ((ps.map (trnV n)).map (rnV ρ n)) : BxF (Bx n))
      rw [mm]
    | .pile nm ps =>
      show (BxF.pile (ρ nm) ((ps.map (rnV ρ n)).map (trnV n)) : BxF (Bx n)) = (BxF.pile (ρ nm) ((ps.map (trnV n)).map (rnV ρ n)) : BxF (Bx n))
      rw [mm]
    | .rim nm a b c d p =>
      show (BxF.rim (ρ nm) b a d c (trnV n (rnV ρ n p)) : BxF (Bx n)) = (BxF.rim (ρ nm) b a d c (rnV ρ n (trnV n p)) : BxF (Bx n))
      rw [rn_trn n p]
theorem rn_wl {nm : Str} {w h : Spn} : ∀ (n : Nat) (b : Bx n), (∀ x ∈ nmsV n b, ρ x = ρ nm → x = nm) → wlV n (ρ nm) w h (rnV ρ n b) = rnV ρ n (wlV n nm w h b)
  | 0, b, _ => nomatch b
  | n + 1, b, hi => by
    have hp : ∀ p ∈ inB b, wlV n (ρ nm) w h (rnV ρ n p) = rnV ρ n (wlV n nm w h p) := fun p hp => rn_wl n p fun x hx => hi x (by rw [nmsV]; exact List.mem_cons_of_mem _ (List.mem_flatMap.mpr ⟨p, hp, hx⟩))
    have mm : ∀ ps : List (Bx n), (∀ p ∈ ps, p ∈ inB b) → (ps.map (rnV ρ n)).map (wlV n (ρ nm) w h) = (ps.map (wlV n nm w h)).map (rnV ρ n) := fun ps hs => by
      rw [List.map_map, List.map_map]
      exact List.map_congr_left fun p q => hp p (hs p q)
    have h0 := hi (bxN (n + 1) b) (by rw [nmsV]; exact List.mem_cons_self)
    match (b : BxF (Bx n)), hp, mm, h0 with
    | .leaf nm' w' h', _, _, h0 =>
      have e : (ρ nm' == ρ nm) = (nm' == nm) := by
        by_cases q : nm' = nm
        · subst q; rw [beq_self_eq_true, beq_self_eq_true]
        · have q2 : ¬ ρ nm' = ρ nm := fun z => q (h0 z)
          rw [beq_eq_false_iff_ne.mpr q, beq_eq_false_iff_ne.mpr q2]
      show (BxF.leaf (ρ nm') (if (ρ nm' == ρ nm) = true then w else w') (if (ρ nm' == ρ nm) = true then h else h') : BxF (Bx n)) = (BxF.leaf (ρ nm') (if (nm' == nm) = true then w else w') (if (nm' == nm) = true then h else h') : BxF (Bx n))
      rw [e]
    | .line c nm' g ps, _, mm, _ =>
      show (BxF.line c (ρ nm') g ((ps.map (rnV ρ n)).map (wlV n (ρ nm) w h)) : BxF (Bx n)) = (BxF.line c (ρ nm') g ((ps.map (wlV n nm w h)).map (rnV ρ n)) : BxF (Bx n))
      rw [mm ps fun p q => q]
    | .pile nm' ps, _, mm, _ =>
      show (BxF.pile (ρ nm') ((ps.map (rnV ρ n)).map (wlV n (ρ nm) w h)) : BxF (Bx n)) = (BxF.pile (ρ nm') ((ps.map (wlV n nm w h)).map (rnV ρ n)) : BxF (Bx n))
      rw [mm ps fun p q => q]
    | .rim nm' a b c d p, hp, _, _ =>
      show (BxF.rim (ρ nm') a b c d (wlV n (ρ nm) w h (rnV ρ n p)) : BxF (Bx n)) = (BxF.rim (ρ nm') a b c d (rnV ρ n (wlV n nm w h p)) : BxF (Bx n))
      rw [hp p (by simp [inB])]
def rnP (ρ : Str → Str) (p : Str × Str) : Str × Str := (ρ p.1, p.2)
theorem rn_chg (rs ss : List Row) : chgL (rs.map (rnR ρ)) (ss.map (rnR ρ)) = (chgL rs ss).map (rnP ρ) := by
  unfold chgL
  rw [List.zip_map, List.flatMap_map, List.map_flatMap]
  refine flatMap_congr' fun x _ => ?_
  show chR (rnR ρ x.1) (rnR ρ x.2) = (chR x.1 x.2).map (rnP ρ)
  unfold chR
  rw [List.map_append]
  congr 1
  · show (if x.1.2.1 = x.2.2.1 ∧ x.1.2.2.2.1 = x.2.2.2.2.1 then [] else [(ρ x.1.1, axW)]) = _
    split <;> rfl
  · show (if x.1.2.2.1 = x.2.2.2.1 ∧ x.1.2.2.2.2 = x.2.2.2.2.2 then [] else [(ρ x.1.1, axH)]) = _
    split <;> rfl
theorem inSeq_str (x : Str) (ns : List Str) : inSeq (.str x) (ns.map PyData.str) = decide (x ∈ ns) := by
  unfold inSeq
  rw [List.any_map]
  have e : ∀ y : Str, ((fun y => PyData.eqv y (.str x)) ∘ PyData.str) y = (y == x) := fun _ => rfl
  rw [Bool.eq_iff_iff, List.any_eq_true, decide_eq_true_eq]
  constructor
  · rintro ⟨y, hy, q⟩
    rw [e, beq_iff_eq] at q
    rw [← q]; exact hy
  · intro h
    exact ⟨x, h, by rw [e, beq_iff_eq]⟩
theorem rn_mnW {n : Nat} (b : Bx (n + 1)) (hi : Bool) : mnW (rnV ρ (n + 1) b) hi = mnW b hi := by
  match (b : BxF (Bx n)) with
  | .leaf _ _ _ => rfl
  | .line _ _ _ _ => rfl
  | .pile _ _ => rfl
  | .rim _ _ _ _ _ _ => rfl
theorem rn_may {n : Nat} {b : Bx (n + 1)} {nm : Str} (hi : ∀ x ∈ nmsV (n + 1) b, ρ x = ρ nm → x = nm) : mayL (rnV ρ (n + 1) b) (ρ nm) = (mayL b nm).map (rnP ρ) := by
  unfold mayL
  rw [rn_in, List.flatMap_map, List.map_flatMap, rn_mnW, rn_mnW]
  refine flatMap_congr' fun p hp => ?_
  rw [rn_names]
  unfold mayP
  have e : inSeq (.str (ρ nm)) (((nmsV n p).map ρ).map PyData.str) = inSeq (.str nm) ((nmsV n p).map PyData.str) := by
    rw [inSeq_str, inSeq_str]
    congr 1
    refine propext ⟨fun h => ?_, fun h => List.mem_map.mpr ⟨nm, h, rfl⟩⟩
    obtain ⟨x, hx, q⟩ := List.mem_map.mp h
    have := hi x (by rw [nmsV]; exact List.mem_cons_of_mem _ (List.mem_flatMap.mpr ⟨p, hp, hx⟩)) q
    rw [← this]; exact hx
  rw [e, List.map_append]
  congr 1
  · split
    · rw [List.map_map, List.map_map]; rfl
    · rfl
  · split
    · rw [List.map_map, List.map_map]; rfl
    · rfl
theorem rn_srt (ps : List (Str × Str)) : srtP ((srtP ps).map (rnP ρ)) = srtP (ps.map (rnP ρ)) := srtP_congr ((srtP_perm ps).map _)
end
/-! texts met once -/
theorem met_any : ∀ (n : Nat) (xs : List Str) (k : Str), xs.length = n → (TX.metT xs).any (· == k) = decide (k ∈ xs)
  | 0, xs, k, h => by
    have : xs = [] := List.length_eq_zero_iff.mp h
    subst this
    simp [TX.metT]
  | n + 1, xs, k, h => by
    have hne : xs ≠ [] := by intro e; subst e; cases h
    rw [← List.dropLast_concat_getLast hne, TX.metT_snoc, TX.addT_any, met_any n xs.dropLast k (by rw [List.length_dropLast]; omega)]
    rw [Bool.eq_iff_iff]
    simp [List.mem_append]
theorem met_len : ∀ (n : Nat) (xs : List Str), xs.length = n → xs.Nodup → (TX.metT xs).length = xs.length
  | 0, xs, h, _ => by
    have : xs = [] := List.length_eq_zero_iff.mp h
    subst this
    rfl
  | n + 1, xs, h, hd => by
    have hne : xs ≠ [] := by intro e; subst e; cases h
    obtain ⟨ys, y, rfl⟩ : ∃ ys y, xs = ys ++ [y] := ⟨xs.dropLast, xs.getLast hne, (List.dropLast_concat_getLast hne).symm⟩
    have hn := List.nodup_append.mp hd
    have hl : ys.length = n := by rw [List.length_append] at h; simpa using h
    have hy : ¬ y ∈ ys := fun q => hn.2.2 y q y (by simp) rfl
    rw [TX.metT_snoc, TX.addT_len, met_any n ys y hl, decide_eq_false hy, met_len n ys hl hn.1]
    simp

/-! the law's other names -/
theorem led_eq {ρ : Str → Str} {ND : D} : ∀ (n m : Nat) (b : Bx n), n ≤ m → n ≤ 7 → Gd n b → (∀ x ∈ nmsV n b, dixD ND (.str x) = some (.str (ρ x))) → M_Lled m [bxD n b, ND] = some (bxD n (rnV ρ n b)) := by
  intro n
  induction n with
  | zero => intro m b; exact nomatch b
  | succ n ih =>
    intro m b hm hn hg hN
    obtain ⟨m, rfl⟩ : ∃ j, m = j + 1 := ⟨m - 1, by omega⟩
    have hM : M_Lled (m + 1) = runF 4 (D_Lled (M_Lled m)) := rfl
    rw [hM]
    have bi := Lin_eq b
    have gin := gd_in hg
    have i4 := inB_le hg
    have h0 : dixD ND (.str (bxN (n + 1) b)) = some (.str (ρ (bxN (n + 1) b))) := hN _ (by rw [nmsV]; exact List.mem_cons_self)
    have hp : ∀ p ∈ inB b, M_Lled m [bxD n p, ND] = some (bxD n (rnV ρ n p)) := fun p hp => ih m p (by omega) (by omega) (gin p hp) fun x hx => hN x (by rw [nmsV]; exact List.mem_cons_of_mem _ (List.mem_flatMap.mpr ⟨p, hp, hx⟩))
    have parts : ∀ (ps : List (Bx n)), (∀ p ∈ ps, p ∈ inB b) → ∀ e : DEnv, e.length = 4 → e[1]? = some (some (.sh ND)) → lcGo (bNm 3) yesT (C_Lled_1 (M_Lled m)) e (ps.map (bxD n)) = some ((ps.map (rnV ρ n)).map (bxD n)) := fun ps hps e he h1 => by
      rw [List.map_map]
      refine lcGo_map (bxD n) (bxD n ∘ rnV ρ n) ps fun p hp' => ⟨_, rfl, ?_⟩
      have h4 : 3 < e.length := by omega
      have := hp p (hps p hp')
      show C_Lled_1 (M_Lled m) _ = some (bxD n (rnV ρ n p))
      generalize bxD n (rnV ρ n p) = B2 at *
      generalize bxD n p = B1 at *
      simp -implicitDefEqProofs [C_Lled_1, h4, h1, this]
    have ad : ∀ xs ys : List D, xs.length + ys.length ≤ 50 → addD (.tuple xs) (.tuple ys) = some (.tuple (xs ++ ys)) := fun xs ys h => add_t (by omega)
    match (b : BxF (Bx n)), hg, bi, i4, h0, parts with
    | .leaf nm' w' h', hg, bi, i4, h0, parts =>
      have e : bxD (n + 1) (BxF.leaf nm' w' h' : BxF (Bx n)) = .tuple [.str "leaf", .str nm', spD w', spD h'] := rfl
      have e2 : bxD (n + 1) (rnV ρ (n + 1) (BxF.leaf nm' w' h' : BxF (Bx n))) = .tuple [.str "leaf", .str (ρ nm'), spD w', spD h'] := rfl
      have i0 : ixD (.tuple [PyData.str "leaf", .str nm', spD w', spD h']) (.int 0) = some (.str "leaf") := rfl
      have i1 : ixD (.tuple [PyData.str "leaf", .str nm', spD w', spD h']) (.int 1) = some (.str nm') := rfl
      have cu : cutD (.tuple [PyData.str "leaf", .str nm', spD w', spD h']) (some 2) none = some (.tuple [spD w', spD h']) := rfl
      have h0' : dixD ND (.str nm') = some (.str (ρ nm')) := h0
      rw [e, e2]
      generalize hB : PyData.tuple [.str "leaf", .str nm', spD w', spD h'] = B at *
      generalize spD w' = W at *
      generalize spD h' = HH at *
      simp -implicitDefEqProofs [D_Lled, startE, i0, i1, h0', cu, ad]
    | .line c nm' g ps, hg, bi, i4, h0, parts =>
      have e : bxD (n + 1) (BxF.line c nm' g ps : BxF (Bx n)) = .tuple [.str (kindS c), .str nm', .int g, .tuple (ps.map (bxD n))] := rfl
      have e2 : bxD (n + 1) (rnV ρ (n + 1) (BxF.line c nm' g ps : BxF (Bx n))) = .tuple [.str (kindS c), .str (ρ nm'), .int g, .tuple ((ps.map (rnV ρ n)).map (bxD n))] := rfl
      have bi' : M_Lin [.tuple [.str (kindS c), .str nm', .int g, .tuple (ps.map (bxD n))]] = some (.tuple (ps.map (bxD n))) := bi
      have i0 : ixD (.tuple [PyData.str (kindS c), .str nm', .int g, .tuple (ps.map (bxD n))]) (.int 0) = some (.str (kindS c)) := rfl
      have i1 : ixD (.tuple [PyData.str (kindS c), .str nm', .int g, .tuple (ps.map (bxD n))]) (.int 1) = some (.str nm') := rfl
      have ln : lenD (.tuple [PyData.str (kindS c), .str nm', .int g, .tuple (ps.map (bxD n))]) = some (.int 4) := rfl
      have cu : cutD (.tuple [PyData.str (kindS c), .str nm', .int g, .tuple (ps.map (bxD n))]) (some 2) (some 3) = some (.tuple [.int g]) := rfl
      have kl : eqD (.str (kindS c)) (.str "leaf") = some (.bool false) := by cases c <;> simp only [kindS, if_true, Bool.false_eq_true, if_false] <;> simp -implicitDefEqProofs
      have kr : eqD (.str (kindS c)) (.str "rim") = some (.bool false) := by cases c <;> simp only [kindS, if_true, Bool.false_eq_true, if_false] <;> simp -implicitDefEqProofs
      have hs : sml (ps.map (bxD n)).length = true := sml_of (by have : ps.length ≤ 4 := i4; rw [List.length_map]; omega)
      have pp := parts ps fun p hp => hp
      have h0' : dixD ND (.str nm') = some (.str (ρ nm')) := h0
      rw [e, e2]
      generalize (ps.map (rnV ρ n)).map (bxD n) = QS at *
      generalize hB : PyData.tuple [.str (kindS c), .str nm', .int g, .tuple (ps.map (bxD n))] = B at *
      generalize ps.map (bxD n) = PS at *
      simp -implicitDefEqProofs [D_Lled, startE, i0, i1, kl, kr, bi', hs, pp, h0', ln, cu, ad]
    | .pile nm' ps, hg, bi, i4, h0, parts =>
      have e : bxD (n + 1) (BxF.pile nm' ps : BxF (Bx n)) = .tuple [.str "pile", .str nm', .tuple (ps.map (bxD n))] := rfl
      have e2 : bxD (n + 1) (rnV ρ (n + 1) (BxF.pile nm' ps : BxF (Bx n))) = .tuple [.str "pile", .str (ρ nm'), .tuple ((ps.map (rnV ρ n)).map (bxD n))] := rfl
      have bi' : M_Lin [.tuple [.str "pile", .str nm', .tuple (ps.map (bxD n))]] = some (.tuple (ps.map (bxD n))) := bi
      have i0 : ixD (.tuple [PyData.str "pile", .str nm', .tuple (ps.map (bxD n))]) (.int 0) = some (.str "pile") := rfl
      have i1 : ixD (.tuple [PyData.str "pile", .str nm', .tuple (ps.map (bxD n))]) (.int 1) = some (.str nm') := rfl
      have ln : lenD (.tuple [PyData.str "pile", .str nm', .tuple (ps.map (bxD n))]) = some (.int 3) := rfl
      have cu : cutD (.tuple [PyData.str "pile", .str nm', .tuple (ps.map (bxD n))]) (some 2) (some 2) = some (.tuple []) := rfl
      have hs : sml (ps.map (bxD n)).length = true := sml_of (by have : ps.length ≤ 4 := i4; rw [List.length_map]; omega)
      have pp := parts ps fun p hp => hp
      have h0' : dixD ND (.str nm') = some (.str (ρ nm')) := h0
      rw [e, e2]
      generalize (ps.map (rnV ρ n)).map (bxD n) = QS at *
      generalize hB : PyData.tuple [.str "pile", .str nm', .tuple (ps.map (bxD n))] = B at *
      generalize ps.map (bxD n) = PS at *
      simp -implicitDefEqProofs [D_Lled, startE, i0, i1, bi', hs, pp, h0', ln, cu, ad]
    | .rim nm' a b' c d p, hg, bi, i4, h0, parts =>
      have e : bxD (n + 1) (BxF.rim nm' a b' c d p : BxF (Bx n)) = .tuple [.str "rim", .str nm', .int a, .int b', .int c, .int d, bxD n p] := rfl
      have e2 : bxD (n + 1) (rnV ρ (n + 1) (BxF.rim nm' a b' c d p : BxF (Bx n))) = .tuple [.str "rim", .str (ρ nm'), .int a, .int b', .int c, .int d, bxD n (rnV ρ n p)] := rfl
      have bi' : M_Lin [.tuple [.str "rim", .str nm', .int a, .int b', .int c, .int d, bxD n p]] = some (.tuple [bxD n p]) := bi
      have i0 : ixD (.tuple [PyData.str "rim", .str nm', .int a, .int b', .int c, .int d, bxD n p]) (.int 0) = some (.str "rim") := rfl
      have i1 : ixD (.tuple [PyData.str "rim", .str nm', .int a, .int b', .int c, .int d, bxD n p]) (.int 1) = some (.str nm') := rfl
      have cu : cutD (.tuple [PyData.str "rim", .str nm', .int a, .int b', .int c, .int d, bxD n p]) (some 2) (some 6) = some (.tuple [.int a, .int b', .int c, .int d]) := rfl
      have hs : sml 1 = true := rfl
      have pp := parts [p] fun q hq => by rw [List.mem_singleton.mp hq]; simp [inB]
      simp only [List.map_cons, List.map_nil] at pp
      have h0' : dixD ND (.str nm') = some (.str (ρ nm')) := h0
      rw [e, e2]
      generalize bxD n (rnV ρ n p) = B2 at *
      generalize hB : PyData.tuple [.str "rim", .str nm', .int a, .int b', .int c, .int d, bxD n p] = B at *
      generalize bxD n p = B1 at *
      simp -implicitDefEqProofs [D_Lled, startE, i0, i1, bi', hs, pp, h0', cu, ad]

def sgS (k : Nat) : Str := ⟨#[122 - k]⟩
theorem signs_ix {k : Nat} (h : k < 26) : ixD (.str "zyxwvutsrqponmlkjihgfedcba") (.int (k : Int)) = some (.str (sgS k)) := by
  have e1 : ("zyxwvutsrqponmlkjihgfedcba" : Str).cps.toList = (List.range 26).map fun k => 122 - k := by decide +kernel
  have e2 : sml ("zyxwvutsrqponmlkjihgfedcba" : Str).length = true := by decide +kernel
  show (if sml ("zyxwvutsrqponmlkjihgfedcba" : Str).length = true then (atI ("zyxwvutsrqponmlkjihgfedcba" : Str).cps.toList (k : Int)).map fun c => PyData.str ⟨#[c]⟩ else none) = _
  rw [e1, if_pos e2, atI_of (n := k) (x := 122 - k) (by rw [List.getElem?_map, List.getElem?_range h]; rfl)]
  rfl
theorem sg_name {k : Nat} (h : k < 26) : nameB (.str (sgS k)) = true := by
  show (decide (1 ≤ 1 ∧ 1 ≤ 4) && [122 - k].all lwB) = true
  have : lwB (122 - k) = true := decide_eq_true ⟨by omega, by omega⟩
  simp [this]
theorem sg_inj {i j : Nat} (hi : i < 26) (hj : j < 26) (h : sgS i = sgS j) : i = j := by
  have h2 : (#[122 - i] : Array Nat) = #[122 - j] := congrArg Str.cps h
  have h3 : 122 - i = 122 - j := by simpa using h2
  omega
def rnL : Nat → List Str → List (Str × D)
  | _, [] => []
  | k, x :: xs => (x, .str (sgS k)) :: rnL (k + 1) xs
theorem rnL_fst : ∀ (k : Nat) (xs : List Str), (rnL k xs).map (·.1) = xs
  | _, [] => rfl
  | k, x :: xs => by rw [rnL, List.map_cons, rnL_fst (k + 1) xs]
theorem rnL_mem : ∀ (k : Nat) (xs : List Str) (x : Str), x ∈ xs → (x, PyData.str (sgS (k + xs.idxOf x))) ∈ rnL k xs
  | k, y :: xs, x, h => by
    rw [rnL]
    by_cases e : y = x
    · subst e
      rw [List.idxOf_cons_self]
      exact List.mem_cons_self
    · have h' : x ∈ xs := by
        rcases List.mem_cons.mp h with q | q
        · exact absurd q.symm e
        · exact q
      have ei : (y :: xs).idxOf x = xs.idxOf x + 1 := by rw [List.idxOf_cons, beq_eq_false_iff_ne.mpr e]; rfl
      rw [ei]
      have := rnL_mem (k + 1) xs x h'
      rw [show k + (xs.idxOf x + 1) = k + 1 + xs.idxOf x by omega]
      exact List.mem_cons_of_mem _ this
theorem ren1 {s0 s1 s4 s5 s6 s7 s8 t1 t2 t3 t4 t5 t6 t7 t8 t9 : Option Sl} : ∀ (xs : List Str) (k : Nat) (acc : List (Str × D)) (e9 e10 : Option Sl), k + xs.length ≤ 26 → (acc.map (·.1) ++ xs).Nodup → acc.length + xs.length ≤ 1000 →
    ∃ e9' e10', forD (bTp [(bNm 9), (bNm 10)]) B_law_1 (enL k (xs.map PyData.str)) [s0, s1, some (.sh (.str "zyxwvutsrqponmlkjihgfedcba")), some (.od (dcL acc)), s4, s5, s6, s7, s8, e9, e10, t1, t2, t3, t4, t5, t6, t7, t8, t9] = some (.nx [s0, s1, some (.sh (.str "zyxwvutsrqponmlkjihgfedcba")), some (.od (dcL (acc ++ rnL k xs))), s4, s5, s6, s7, s8, e9', e10', t1, t2, t3, t4, t5, t6, t7, t8, t9])
  | [], k, acc, e9, e10, _, _, _ => ⟨e9, e10, by rw [rnL, List.append_nil]; rfl⟩
  | x :: xs, k, acc, e9, e10, hk, hd, hl => by
    rw [List.length_cons] at hk hl
    have e1 : acc.map (·.1) ++ x :: xs = (acc ++ [(x, PyData.str (sgS k))]).map (·.1) ++ xs := by simp
    obtain ⟨e9', e10', ih⟩ := ren1 (s0 := s0) (s1 := s1) (s4 := s4) (s5 := s5) (s6 := s6) (s7 := s7) (s8 := s8) (t1 := t1) (t2 := t2) (t3 := t3) (t4 := t4) (t5 := t5) (t6 := t6) (t7 := t7) (t8 := t8) (t9 := t9) xs (k + 1) (acc ++ [(x, PyData.str (sgS k))]) (some (.sh (.int (k : Int)))) (some (.sh (.str x))) (by omega) (by rw [← e1]; exact hd) (by simp; omega)
    refine ⟨e9', e10', ?_⟩
    have e2 : acc ++ rnL k (x :: xs) = acc ++ [(x, PyData.str (sgS k))] ++ rnL (k + 1) xs := by rw [rnL]; simp
    rw [e2, ← ih]
    have hx : x ∉ acc.map (·.1) := fun q => (List.nodup_append.mp hd).2.2 x q x List.mem_cons_self rfl
    have pn := put_new (d := .str (sgS k)) hx
    have six := signs_ix (k := k) (by omega)
    have md : modD (.int (k : Int)) (.int 26) = some (.int (k : Int)) := by rw [mod_ok (by decide)]; congr 2; omega
    have fd : fdivD (.int (k : Int)) (.int 26) = some (.int 0) := by rw [fdiv_ok (by decide) (by decide)]; congr 2; omega
    have hs : sml ((dcL acc).length + 1) = true := sml_of (by unfold dcL; rw [List.length_map]; omega)
    have en : enL k ((x :: xs).map PyData.str) = .tuple [.int (k : Int), .str x] :: enL (k + 1) (xs.map PyData.str) := rfl
    rw [en, forD_c]
    generalize enL (k + 1) (xs.map PyData.str) = EN at *
    generalize dcL (acc ++ [(x, PyData.str (sgS k))]) = DA at *
    generalize dcL acc = DC at *
    generalize hSG : PyData.str (sgS k) = SG at *
    have ml : mulSD SG (.int 1) = some SG := by rw [← hSG]; exact mulS1
    simp -implicitDefEqProofs [B_law_1, md, fd, six, ml, hs, pn]
theorem made_rn_sh {ρ : Str → Str} : ∀ (n k : Nat) (nm : Str) (b : Bx n), n ≤ k → Made n nm b → (∀ x ∈ nmsV n b, nameB (.str (ρ x)) = true) → shB k (bxD n (rnV ρ n b)) = true
  | 0, _, _, b, _, _, _ => nomatch b
  | n + 1, k, nm, b, hk, h, hN => by
    obtain ⟨k, rfl⟩ : ∃ j, k = j + 1 := ⟨k - 1, by omega⟩
    have h0 : nameB (.str (ρ (bxN (n + 1) b))) = true := hN _ (by rw [nmsV]; exact List.mem_cons_self)
    have sub : ∀ p ∈ inB b, ∀ x ∈ nmsV n p, nameB (.str (ρ x)) = true := fun p hp x hx => hN x (by rw [nmsV]; exact List.mem_cons_of_mem _ (List.mem_flatMap.mpr ⟨p, hp, hx⟩))
    have mem : ∀ (ps : List (Bx n)), (∀ p ∈ ps, p ∈ inB b) → (∀ k p, ps[k]? = some p → Made n (nm ++ chS k) p) → ∀ x ∈ (ps.map (rnV ρ n)).map (bxD n), shB k x = true := fun ps hi hp x hx => by
      obtain ⟨q, hq, rfl⟩ := List.mem_map.mp hx
      obtain ⟨p, hm, rfl⟩ := List.mem_map.mp hq
      obtain ⟨j, hj⟩ := List.getElem?_of_mem hm
      exact made_rn_sh n k _ p (by omega) (hp j p hj) (sub p (hi p hm))
    show shS (shB k) (bxD (n + 1) (rnV ρ (n + 1) b)) = true
    match (b : BxF (Bx n)), h, h0, sub, mem with
    | .leaf nm' w h', h, h0, _, _ =>
      obtain ⟨rfl, a, b, c, d⟩ := h
      show (nameB (.str (ρ nm')) && shR (shB k) "leaf" [spD w, spD h']) = true
      have h0' : nameB (.str (ρ nm')) = true := h0
      rw [h0']
      have : shR (shB k) "leaf" [spD w, spD h'] = (spanB (spD w) && spanB (spD h')) := if_pos rfl
      rw [this, span_sp a b, span_sp c d]
      rfl
    | .line c nm' g ps, h, h0, _, mem =>
      obtain ⟨rfl, a1, a2, a3, a4, a5⟩ := h
      show (nameB (.str (ρ nm')) && shR (shB k) (kindS c) [.int g, .tuple ((ps.map (rnV ρ n)).map (bxD n))]) = true
      have h0' : nameB (.str (ρ nm')) = true := h0
      rw [h0']
      have k1 : ¬ kindS c = "leaf" := by cases c <;> decide +kernel
      have k2 : kindS c = "row" ∨ kindS c = "col" := by cases c
                                                        · exact .inl rfl
                                                        · exact .inr rfl
      have : shR (shB k) (kindS c) [.int g, .tuple ((ps.map (rnV ρ n)).map (bxD n))] = (whB (.int g) 0 999 && bsB (shB k) 4 (.tuple ((ps.map (rnV ρ n)).map (bxD n)))) := by
        unfold shR
        rw [if_neg k1, if_pos k2]
        rfl
      rw [this, wh_int a1 (by omega), bs_of (by simpa using a3) (by simpa using a4) (mem ps (fun p q => q) a5)]
      rfl
    | .pile nm' ps, h, h0, _, mem =>
      obtain ⟨rfl, a3, a4, a5⟩ := h
      show (nameB (.str (ρ nm')) && shR (shB k) "pile" [.tuple ((ps.map (rnV ρ n)).map (bxD n))]) = true
      have h0' : nameB (.str (ρ nm')) = true := h0
      rw [h0']
      have : shR (shB k) "pile" [.tuple ((ps.map (rnV ρ n)).map (bxD n))] = bsB (shB k) 3 (.tuple ((ps.map (rnV ρ n)).map (bxD n))) := by
        unfold shR
        rw [if_neg (by decide +kernel), if_neg (by decide +kernel), if_pos rfl]
        rfl
      rw [this, bs_of (by simpa using a3) (by simpa using a4) (mem ps (fun p q => q) a5)]
      rfl
    | .rim nm' a b c d p, h, h0, sub, _ =>
      obtain ⟨rfl, h3, h4, h5, h6, h7⟩ := h
      show (nameB (.str (ρ nm')) && shR (shB k) "rim" [.int a, .int b, .int c, .int d, bxD n (rnV ρ n p)]) = true
      have h0' : nameB (.str (ρ nm')) = true := h0
      rw [h0']
      have : shR (shB k) "rim" [.int a, .int b, .int c, .int d, bxD n (rnV ρ n p)] = ((whB (.int a) 0 999 && whB (.int b) 0 999 && whB (.int c) 0 999 && whB (.int d) 0 999) && shB k (bxD n (rnV ρ n p))) := by
        unfold shR
        rw [if_neg (by decide +kernel), if_neg (by decide +kernel), if_neg (by decide +kernel), if_pos rfl]
        rfl
      rw [this, wh_int h3.1 (by omega), wh_int h4.1 (by omega), wh_int h5.1 (by omega), wh_int h6.1 (by omega), made_rn_sh n k _ p (by omega) h7 (sub p (by simp [inB]))]
      rfl
theorem gd_pl : ∀ (n : Nat) (b : Bx n), Gd n b → (∀ x ∈ nmsV n b, PyData.strOk x = true ∧ x.length ≤ 1000) → pl false 7 (2 * n) (bxD n b) = true
  | 0, b, _, _ => nomatch b
  | n + 1, b, h, hN => by
    have h0 := hN (bxN (n + 1) b) (by rw [nmsV]; exact List.mem_cons_self)
    have sub : ∀ p ∈ inB b, ∀ x ∈ nmsV n p, PyData.strOk x = true ∧ x.length ≤ 1000 := fun p hp x hx => hN x (by rw [nmsV]; exact List.mem_cons_of_mem _ (List.mem_flatMap.mpr ⟨p, hp, hx⟩))
    have mem : ∀ (ps : List (Bx n)), ps.length ≤ 4 → (∀ p ∈ ps, p ∈ inB b ∧ Gd n p) → pl false 7 (2 * n + 1) (.tuple (ps.map (bxD n))) = true := fun ps hl hp => by
      refine pl_tup.mpr ⟨by rw [List.length_map]; omega, fun x hx => ?_⟩
      obtain ⟨p, hm, rfl⟩ := List.mem_map.mp hx
      exact gd_pl n p (hp p hm).2 (sub p (hp p hm).1)
    have hst : ∀ {z : Str}, PyData.strOk z = true ∧ z.length ≤ 1000 → pl false 7 (2 * n + 1) (.str z) = true := fun h => pl_str.mpr h
    have hint : ∀ {i : Int}, 0 ≤ i → i ≤ 999 → pl false 7 (2 * n + 1) (.int i) = true := fun h h' => pl_int.mpr (by omega)
    have k2 : 2 * (n + 1) = 2 * n + 1 + 1 := by omega
    rw [k2]
    match (b : BxF (Bx n)), h, h0, sub, mem with
    | .leaf nm' w h', h, h0, _, _ =>
      obtain ⟨⟨a, b⟩, c, d⟩ := h
      refine pl_tup.mpr ⟨by simp, fun x hx => ?_⟩
      simp only [List.mem_cons, List.not_mem_nil, or_false] at hx
      rcases hx with rfl | rfl | rfl | rfl
      · exact hst ⟨ok_leaf, by decide +kernel⟩
      · exact hst h0
      · exact pl_mono (fun h => h) (by omega) 1 _ _ (by omega) (pl_sp a b)
      · exact pl_mono (fun h => h) (by omega) 1 _ _ (by omega) (pl_sp c d)
    | .line c nm' g ps, h, h0, _, mem =>
      obtain ⟨a1, a2, a3, a4, a5⟩ := h
      refine pl_tup.mpr ⟨by simp, fun x hx => ?_⟩
      simp only [List.mem_cons, List.not_mem_nil, or_false] at hx
      rcases hx with rfl | rfl | rfl | rfl
      · cases c
        · exact hst ⟨ok_row, by decide +kernel⟩
        · exact hst ⟨ok_col, by decide +kernel⟩
      · exact hst h0
      · exact hint a1 (by omega)
      · exact mem ps a4 fun p q => ⟨q, a5 p q⟩
    | .pile nm' ps, h, h0, _, mem =>
      obtain ⟨a3, a4, a5⟩ := h
      refine pl_tup.mpr ⟨by simp, fun x hx => ?_⟩
      simp only [List.mem_cons, List.not_mem_nil, or_false] at hx
      rcases hx with rfl | rfl | rfl
      · exact hst ⟨ok_pile, by decide +kernel⟩
      · exact hst h0
      · exact mem ps a4 fun p q => ⟨q, a5 p q⟩
    | .rim nm' a b c d p, h, h0, sub, _ =>
      obtain ⟨h3, h4, h5, h6, h7⟩ := h
      refine pl_tup.mpr ⟨by simp, fun x hx => ?_⟩
      simp only [List.mem_cons, List.not_mem_nil, or_false] at hx
      rcases hx with rfl | rfl | rfl | rfl | rfl | rfl | rfl
      · exact hst ⟨ok_rim, by decide +kernel⟩
      · exact hst h0
      · exact hint h3.1 (by omega)
      · exact hint h4.1 (by omega)
      · exact hint h5.1 (by omega)
      · exact hint h6.1 (by omega)
      · exact pl_mono (fun h => h) (by omega) (2 * n) _ _ (by omega) (gd_pl n p h7 (sub p (by simp [inB])))
theorem map_str_inj : ∀ {xs ys : List Str}, xs.map PyData.str = ys.map PyData.str → xs = ys
  | [], [], _ => rfl
  | [], _ :: _, h => by cases h
  | _ :: _, [], h => by cases h
  | x :: xs, y :: ys, h => by
    rw [List.map_cons, List.map_cons] at h
    injection h with h1 h2
    injection h1 with h1
    rw [h1, map_str_inj h2]
theorem shp_strsD {xs : List Str} (h : ∀ x ∈ xs, PyData.strOk x = true) : shp 1 (.tuple (xs.map PyData.str)) = true := by
  show (xs.map PyData.str).all (shp 0) = true
  rw [List.all_eq_true]
  intro x hx
  obtain ⟨r, hr, rfl⟩ := List.mem_map.mp hx
  exact h r hr
theorem ok_nameD {x : Str} (h : nameB (.str x) = true) : PyData.strOk x = true ∧ x.length ≤ 1000 := by
  have h' : (decide (1 ≤ x.length ∧ x.length ≤ 4) && x.cps.toList.all lwB) = true := h
  rw [Bool.and_eq_true, decide_eq_true_eq] at h'
  refine ⟨?_, by omega⟩
  show x.cps.all (· < 0x110000) = true
  rw [Array.all_eq_true']
  intro c hc
  have := List.all_eq_true.mp h'.2 c (by simpa using hc)
  have := of_decide_eq_true this
  simp only [decide_eq_true_eq]
  omega
theorem shp_prlD {ps : List (Str × Str)} (h : ∀ p ∈ ps, PyData.strOk p.1 = true ∧ PyData.strOk p.2 = true) : shp 2 (.list (ps.map p2D)) = true := by
  show (ps.map p2D).all (shp 1) = true
  rw [List.all_eq_true]
  intro x hx
  obtain ⟨r, hr, rfl⟩ := List.mem_map.mp hx
  exact shp_pr (h r hr)
theorem cm_names {ND : D} {ρ : Str → Str} {N : List Str} (hN : ∀ x ∈ N, dixD ND (.str x) = some (.str (ρ x))) {C : FE} (hC : C = c2 dixD (vr 3) (vr 10)) : ∀ (xs : List Str), (∀ x ∈ xs, x ∈ N) → ∀ E : DEnv, E.length = 20 → E[3]? = some (some (.sh ND)) → lcGo (bNm 10) yesT C E (xs.map PyData.str) = some ((xs.map ρ).map PyData.str) := fun xs hx E hE h3 => by
  rw [List.map_map]
  refine lcGo_map PyData.str (PyData.str ∘ ρ) xs fun x hm => ⟨_, rfl, ?_⟩
  have h10 : 10 < E.length := by omega
  have := hN x (hx x hm)
  subst hC
  show c2 dixD (vr 3) (vr 10) _ = some (PyData.str (ρ x))
  simp -implicitDefEqProofs [h10, h3, this]
theorem cm_pairs {ND : D} {ρ : Str → Str} {N : List Str} (hN : ∀ x ∈ N, dixD ND (.str x) = some (.str (ρ x))) {C : FE} (hC : C = tup (consA (c2 dixD (vr 3) (vr 10)) (consA (vr 5) nilA))) : ∀ (ps : List (Str × Str)), (∀ p ∈ ps, p.1 ∈ N) → ∀ E : DEnv, E.length = 20 → E[3]? = some (some (.sh ND)) → lcGo (bTp [(bNm 10), (bNm 5)]) yesT C E (ps.map p2D) = some ((ps.map (rnP ρ)).map p2D) := fun ps hp E hE h3 => by
  rw [List.map_map]
  refine lcGo_map p2D (p2D ∘ rnP ρ) ps fun p hm => ⟨(E.set 10 (some (.sh (.str p.1)))).set 5 (some (.sh (.str p.2))), ?_, ?_⟩
  · have h10 : 10 < E.length := by omega
    show bTp [(bNm 10), (bNm 5)] (.tuple [.str p.1, .str p.2]) E = _
    simp -implicitDefEqProofs
  · have h10 : 10 < E.length := by omega
    have h5 : 5 < E.length := by omega
    have := hN p.1 (hp p hm)
    subst hC
    show tup (consA (c2 dixD (vr 3) (vr 10)) (consA (vr 5) nilA)) _ = some (PyData.tuple [.str (ρ p.1), .str p.2])
    simp -implicitDefEqProofs [h10, h5, h3, this]
theorem hM (ns : List Int) (hl : ns.length ≤ 63) : M_law [.list (ns.map PyData.int)] = some (.bool true) := by
  obtain ⟨m, hm, m0, _⟩ := mixed_ex ns 0 (by decide)
  obtain ⟨m1, hm1, m10, _⟩ := mixed_ex ns 1 (by decide)
  obtain ⟨m2, hm2, m20, _⟩ := mixed_ex ns 2 (by decide)
  obtain ⟨m3, hm3, m30, _⟩ := mixed_ex ns 3 (by decide)
  obtain ⟨m4, hm4, m40, _⟩ := mixed_ex ns 4 (by decide)
  obtain ⟨m5, hm5, m50, _⟩ := mixed_ex ns 5 (by decide)
  obtain ⟨m6, hm6, m60, _⟩ := mixed_ex ns 6 (by decide)
  have z0 : ((0 : Nat) : Int) = 0 := rfl
  have z1 : ((1 : Nat) : Int) = 1 := rfl
  have z2 : ((2 : Nat) : Int) = 2 := rfl
  have z3 : ((3 : Nat) : Int) = 3 := rfl
  have z4 : ((4 : Nat) : Int) = 4 := rfl
  have z5 : ((5 : Nat) : Int) = 5 := rfl
  have z6 : ((6 : Nat) : Int) = 6 := rfl
  rw [z0] at hm
  rw [z1] at hm1
  rw [z2] at hm2
  rw [z3] at hm3
  rw [z4] at hm4
  rw [z5] at hm5
  rw [z6] at hm6
  obtain ⟨b, hb, mb⟩ := box_ex 2 11 (by omega) m "x" m0 (by have := nm_x; omega)
  have e3 : ((2 : Nat) : Int) + 1 = 3 := rfl
  rw [e3] at hb
  have hg := made_gd _ _ _ mb
  have hw := gd_wf _ _ hg
  have hok := made_ok _ _ _ mb (by decide +kernel)
  have hnd := made_nodup _ _ _ mb
  have nme := names_eq (2 + 1) 12 b (by decide) (by decide) hg
  have nln : (nmsV (2 + 1) b).length ≤ 21 := nms_len (2 + 1) b hg
  -- the other names
  obtain ⟨ρ, hρ⟩ : ∃ ρ : Str → Str, ρ = fun x => sgS ((nmsV (2 + 1) b).idxOf x) := ⟨_, rfl⟩
  have ixl : ∀ x ∈ nmsV (2 + 1) b, (nmsV (2 + 1) b).idxOf x < 26 := fun x hx => by
    have := List.idxOf_lt_length_iff.mpr hx
    omega
  have rname : ∀ x ∈ nmsV (2 + 1) b, nameB (.str (ρ x)) = true := fun x hx => by rw [hρ]; exact sg_name (ixl x hx)
  have rok : ∀ x ∈ nmsV (2 + 1) b, PyData.strOk (ρ x) = true ∧ (ρ x).length ≤ 1000 := fun x hx => ok_nameD (rname x hx)
  have rinj : ∀ x ∈ nmsV (2 + 1) b, ∀ y ∈ nmsV (2 + 1) b, ρ x = ρ y → x = y := fun x hx y hy h => by
    rw [hρ] at h
    have e := sg_inj (ixl x hx) (ixl y hy) h
    have q1 := List.getElem_idxOf (List.idxOf_lt_length_iff.mpr hx)
    have q2 := List.getElem_idxOf (List.idxOf_lt_length_iff.mpr hy)
    rw [← q1, ← q2]
    simp only [e]
  obtain ⟨e9, e10, lp⟩ := ren1 (s0 := some (.sh (.list (ns.map PyData.int)))) (s1 := some (.sh (bxD (2 + 1) b))) (s4 := none) (s5 := none) (s6 := none) (s7 := none) (s8 := none) (t1 := none) (t2 := none) (t3 := none) (t4 := none) (t5 := none) (t6 := none) (t7 := none) (t8 := none) (t9 := none) (nmsV (2 + 1) b) 0 [] none none (by omega) (by rw [List.map_nil, List.nil_append]; exact hnd) (by rw [List.length_nil]; omega)
  rw [List.nil_append] at lp
  have dc0 : dcL [] = [] := rfl
  rw [dc0] at lp
  obtain ⟨ND, hND⟩ : ∃ ND, PyData.dict (dcL (rnL 0 (nmsV (2 + 1) b))) = ND := ⟨_, rfl⟩
  have hN : ∀ x ∈ nmsV (2 + 1) b, dixD ND (.str x) = some (.str (ρ x)) := fun x hx => by
    rw [← hND, e_dixD, e_asKeyS, Option.bind_some]
    have := rnL_mem 0 (nmsV (2 + 1) b) x hx
    rw [Nat.zero_add] at this
    rw [look_dc (by rw [rnL_fst]; exact hnd) this, hρ]
  have lnm : ∀ xs : List Str, (∀ x ∈ xs, x ∈ nmsV (2 + 1) b) → xs.length ≤ 100000 → sml (xs.map PyData.str).length = true := fun xs _ h => sml_of (by rw [List.length_map]; exact h)
  -- far
  have led := led_eq (ρ := ρ) (ND := ND) (2 + 1) 12 b (by decide) (by decide) hg hN
  have hgf := rn_gd (ρ := ρ) _ _ hg
  have hokf : ∀ x ∈ nmsV (2 + 1) (rnV ρ (2 + 1) b), PyData.strOk x = true ∧ x.length ≤ 1000 := by
    rw [rn_names]
    intro x hx
    obtain ⟨y, hy, rfl⟩ := List.mem_map.mp hx
    exact rok y hy
  have hokf1 := fun x hx => (hokf x hx).1
  have plf := gd_pl _ _ hgf hokf
  have isb := Pisbox_eq (by decide) plf
  have nmf := names_eq (2 + 1) 12 (rnV ρ (2 + 1) b) (by decide) (by decide) hgf
  have shf : shB 4 (bxD (2 + 1) (rnV ρ (2 + 1) b)) = true := made_rn_sh (2 + 1) 4 _ b (by decide) mb rname
  have bxt : boxB (bxD (2 + 1) (rnV ρ (2 + 1) b)) = true := by
    have q := Pnames_eq 4 12 _ (by decide) (by decide) shf
    rw [nmf] at q
    have q2 : nmD 4 (bxD (2 + 1) (rnV ρ (2 + 1) b)) = nmsV (2 + 1) (rnV ρ (2 + 1) b) := by
      injection q with q
      injection q with q
      exact (map_str_inj q).symm
    unfold boxB
    rw [shf, q2, rn_names, met_len _ _ rfl ?_]
    · simp
    · refine List.Pairwise.map ρ (R := fun x y => x ≠ y ∧ x ∈ nmsV (2 + 1) b ∧ y ∈ nmsV (2 + 1) b) (fun x y h e => h.1 (rinj x h.2.1 y h.2.2 e)) ?_
      exact List.Pairwise.imp_of_mem (fun hx hy h => ⟨h, hx, hy⟩) hnd
  rw [bxt] at isb
  rw [rn_names] at nmf
  have lc1 := cm_names hN (C := C_law_1) rfl (nmsV (2 + 1) b) (fun x h => h)
  have ls1 := lnm (nmsV (2 + 1) b) (fun x h => h) (by omega)
  have n1 := ne_self (shp_strsD (xs := (nmsV (2 + 1) b).map ρ) (fun x hx => by
    obtain ⟨y, hy, rfl⟩ := List.mem_map.mp hx
    exact (rok y hy).1))
  obtain ⟨w, h, hs, w0, h0⟩ := sizes_ex (n := m1) (B := bxD (2 + 1) b) m10
  have c7 : (2 : Nat) + 1 ≤ 7 := by decide
  have p1 := places_eq (w := w) (h := h) c7 hg (by omega) (by omega)
  have p2 := places_eq (w := w) (h := h) c7 hgf (by omega) (by omega)
  rw [rn_plc] at p2
  have pln := plc_len (2 + 1) b 0 0 w h hg
  have pin : ∀ r ∈ plcV (2 + 1) b 0 0 w h, r.1 ∈ nmsV (2 + 1) b := fun r hr => by
    rw [← plc_names (2 + 1) b 0 0 w h]
    exact List.mem_map.mpr ⟨r, hr, rfl⟩
  have cp := capN_le c7
  have ls2 : sml ((plcV (2 + 1) b 0 0 w h).map rowD).length = true := sml_of (by rw [List.length_map]; omega)
  have lc2 : ∀ E : DEnv, E.length = 20 → E[3]? = some (some (.sh ND)) → lcGo (bNm 19) yesT C_law_2 E ((plcV (2 + 1) b 0 0 w h).map rowD) = some (((plcV (2 + 1) b 0 0 w h).map (rnR ρ)).map rowD) := fun E hE h3 => by
    rw [List.map_map]
    refine lcGo_map rowD (rowD ∘ rnR ρ) _ fun r hr => ⟨_, rfl, ?_⟩
    have h19 : 19 < E.length := by omega
    have r0 : ixD (rowD r) (.int 0) = some (.str r.1) := rfl
    have r1 : cutD (rowD r) (some 1) none = some (.tuple [.int r.2.1, .int r.2.2.1, .int r.2.2.2.1, .int r.2.2.2.2]) := rfl
    have hx := hN r.1 (pin r hr)
    have a1 : addD (.tuple [.str (ρ r.1)]) (.tuple [.int r.2.1, .int r.2.2.1, .int r.2.2.2.1, .int r.2.2.2.2]) = some ((rowD ∘ rnR ρ) r) := add_t (by simp)
    generalize (rowD ∘ rnR ρ) r = RR at *
    generalize rowD r = RD at *
    simp -implicitDefEqProofs [C_law_2, h19, h3, r0, r1, hx, a1]
  have n2 := ne_self (shp_rows (rs := (plcV (2 + 1) b 0 0 w h).map (rnR ρ)) (fun r hr => by
    obtain ⟨q, hq, rfl⟩ := List.mem_map.mp hr
    exact (rok q.1 (pin q hq)).1))
  -- the point
  obtain ⟨x, hx⟩ : ∃ x, m2 % (w + 1) = x := ⟨_, rfl⟩
  obtain ⟨y, hy⟩ : ∃ y, m3 % (h + 1) = y := ⟨_, rfl⟩
  have q1 : modD (.int m2) (.int (w + 1)) = some (.int x) := by rw [← hx]; exact mod_ok (by omega)
  have q2 : modD (.int m3) (.int (h + 1)) = some (.int y) := by rw [← hy]; exact mod_ok (by omega)
  have to := touched_eq (w := w) (h := h) (x := x) (y := y) c7 hg (by omega) (by omega)
  have tof := touched_eq (w := w) (h := h) (x := x) (y := y) c7 hgf (by omega) (by omega)
  rw [rn_plc, rn_tou] at tof
  have tin : ∀ z ∈ touV (plcV (2 + 1) b 0 0 w h) x y, z ∈ nmsV (2 + 1) b := fun z hz => by
    obtain ⟨r, hr, rfl⟩ := List.mem_map.mp hz
    exact pin r (List.mem_filter.mp hr).1
  have lc3 := cm_names hN (C := C_law_3) rfl (touV (plcV (2 + 1) b 0 0 w h) x y) tin
  have ls3 := lnm (touV (plcV (2 + 1) b 0 0 w h) x y) tin (by
    unfold touV
    rw [List.length_map]
    have := List.length_filter_le (holds x y) (plcV (2 + 1) b 0 0 w h)
    omega)
  have n3 := ne_self (shp_strsD (xs := (touV (plcV (2 + 1) b 0 0 w h) x y).map ρ) (fun z hz => by
    obtain ⟨u, hu, rfl⟩ := List.mem_map.mp hz
    exact (rok u (tin u hu)).1))
  -- needs, fits, spans
  have nd1 := needs_eq (show 2 + 1 ≤ 12 by decide) hw
  have nd2 := needs_eq (show 2 + 1 ≤ 12 by decide) (gd_wf _ _ hgf)
  rw [rn_spn, rn_spn] at nd2
  have n4 : neD (.tuple [.int (loV (spnV (2 + 1) false b)), .int (loV (spnV (2 + 1) true b))]) (.tuple [.int (loV (spnV (2 + 1) false b)), .int (loV (spnV (2 + 1) true b))]) = some (.bool false) := ne_self (n := 1) rfl
  have ft1 := fits_eq (w := w) (h := h) c7 hg (by omega) (by omega)
  have ft2 := fits_eq (w := w) (h := h) c7 hgf (by omega) (by omega)
  rw [rn_win, rn_win] at ft2
  have n5 : ∀ c : Bool, neD (.bool c) (.bool c) = some (.bool false) := fun c => ne_self (n := 0) rfl
  have n5 := n5 (winV (2 + 1) false b 0 w && winV (2 + 1) true b 0 h)
  have so1 := spanof_eq (2 + 1) 12 false b (by decide) hw
  have so2 := spanof_eq (2 + 1) 12 true b (by decide) hw
  have so3 := spanof_eq (2 + 1) 12 false (rnV ρ (2 + 1) b) (by decide) (gd_wf _ _ hgf)
  have so4 := spanof_eq (2 + 1) 12 true (rnV ρ (2 + 1) b) (by decide) (gd_wf _ _ hgf)
  rw [rn_spn] at so3 so4
  have axf : axS false = "wide" := rfl
  have axt : axS true = "high" := rfl
  rw [axf] at so1 so3
  rw [axt] at so2 so4
  have n6 := ne_self (shp_sp (spnV (2 + 1) false b))
  have n7 := ne_self (shp_sp (spnV (2 + 1) true b))
  -- a leaf
  have lv := Lleaves_eq (2 + 1) 12 b (by decide) (by decide) hg
  obtain ⟨i, nm, md, ix, nml⟩ := pick_lf hg m4
  have nin := lvs_sub _ _ nm nml
  have nok := hok nm nin
  have nok2 := (rok nm nin).1
  have hNm := hN nm nin
  have ix : ixD (.list ((lvsV (2 + 1) b).map PyData.str)) (.int i) = some (.str nm) := ix
  have lnl : lenD (.list ((lvsV (2 + 1) b).map PyData.str)) = some (.int (lvsV (2 + 1) b).length) := by simp -implicitDefEqProofs
  obtain ⟨t0, ht0, t01, t02⟩ := span_ex m50
  obtain ⟨t1, ht1, t11, t12⟩ := span_ex m60
  have wl1 := withleaf_eq (2 + 1) 12 nm t0 t1 b (by decide) hg nok hok
  have hg1 := wl_gd (2 + 1) nm t0 t1 b ⟨t01, t02⟩ ⟨t11, t12⟩ hg
  have hok1 : ∀ x ∈ nmsV (2 + 1) (wlV (2 + 1) nm t0 t1 b), PyData.strOk x = true := by rw [wl_names]; exact hok
  have wl2 := withleaf_eq (2 + 1) 12 (ρ nm) t0 t1 (rnV ρ (2 + 1) b) (by decide) hgf nok2 hokf1
  rw [rn_wl (ρ := ρ) (2 + 1) b (fun x hx e => rinj x hx nm nin e)] at wl2
  have led1 := led_eq (ρ := ρ) (ND := ND) (2 + 1) 12 (wlV (2 + 1) nm t0 t1 b) (by decide) (by decide) hg1 (by rw [wl_names]; exact hN)
  have hg2 := rn_gd (ρ := ρ) _ _ hg1
  have hok2 : ∀ x ∈ nmsV (2 + 1) (rnV ρ (2 + 1) (wlV (2 + 1) nm t0 t1 b)), PyData.strOk x = true := by
    rw [rn_names, wl_names]
    intro x hx
    obtain ⟨y, hy, rfl⟩ := List.mem_map.mp hx
    exact (rok y hy).1
  have n8 := ne_self (shp_mono (shp_bx _ _ hok2) (show 2 * (2 + 1) + 1 ≤ 20 by decide))
  have tu1 := turned_eq (2 + 1) 12 b (by decide) hg
  have hgt := trn_gd _ _ hg
  have tu2 := turned_eq (2 + 1) 12 (rnV ρ (2 + 1) b) (by decide) hgf
  rw [rn_trn] at tu2
  have led2 := led_eq (ρ := ρ) (ND := ND) (2 + 1) 12 (trnV (2 + 1) b) (by decide) (by decide) hgt (by rw [trn_names]; exact hN)
  have n9 := ne_self (shp_mono (shp_bx _ (rnV ρ (2 + 1) (trnV (2 + 1) b)) (by
    rw [rn_names, trn_names]
    intro x hx
    obtain ⟨y, hy, rfl⟩ := List.mem_map.mp hx
    exact (rok y hy).1)) (show 2 * (2 + 1) + 1 ≤ 20 by decide))
  -- what changes
  have ch1 := changed_eq (w := w) (h := h) c7 c7 hg hg1 (by omega) (by omega)
  have ch2 := changed_eq (w := w) (h := h) c7 c7 hgf hg2 (by omega) (by omega)
  rw [rn_plc, rn_plc, rn_chg] at ch2
  obtain ⟨L, hL⟩ : ∃ L, chgL (plcV (2 + 1) b 0 0 w h) (plcV (2 + 1) (wlV (2 + 1) nm t0 t1 b) 0 0 w h) = L := ⟨_, rfl⟩
  have cok := chg_ok (rs := plcV (2 + 1) b 0 0 w h) (ss := plcV (2 + 1) (wlV (2 + 1) nm t0 t1 b) 0 0 w h) (plc_ok hok)
  have cin : ∀ p ∈ srtP (chgL (plcV (2 + 1) b 0 0 w h) (plcV (2 + 1) (wlV (2 + 1) nm t0 t1 b) 0 0 w h)), p.1 ∈ nmsV (2 + 1) b := fun p hp => by
    have hp := (srtP_perm _).mem_iff.mp hp
    unfold chgL at hp
    obtain ⟨z, hz, hq⟩ := List.mem_flatMap.mp hp
    have hz1 := pin z.1 (List.of_mem_zip hz).1
    unfold chR at hq
    rcases List.mem_append.mp hq with hq | hq
    · split at hq
      · cases hq
      · rw [List.mem_singleton.mp hq]; exact hz1
    · split at hq
      · cases hq
      · rw [List.mem_singleton.mp hq]; exact hz1
  have cln : (chgL (plcV (2 + 1) b 0 0 w h) (plcV (2 + 1) (wlV (2 + 1) nm t0 t1 b) 0 0 w h)).length ≤ 20000 := by
    have := chgL_len (plcV (2 + 1) b 0 0 w h) (plcV (2 + 1) (wlV (2 + 1) nm t0 t1 b) 0 0 w h)
    omega
  rw [hL] at ch1 ch2 cok cin cln
  have lc4 := cm_pairs hN (C := C_law_4) rfl (srtP L) cin
  have ls4 : sml ((srtP L).map p2D).length = true := sml_of (by rw [List.length_map, (srtP_perm L).length_eq]; omega)
  have sd1 := srtD_ok (ps := (srtP L).map (rnP ρ)) (by rw [List.length_map, (srtP_perm L).length_eq]; omega)
  rw [rn_srt] at sd1
  have n10 := ne_self (shp_prlD (ps := srtP (L.map (rnP ρ))) (fun p hp => by
    have hp := (srtP_perm _).mem_iff.mp hp
    obtain ⟨q, hq, rfl⟩ := List.mem_map.mp hp
    have hq' := (srtP_perm L).mem_iff.mpr hq
    exact ⟨(rok q.1 (cin q hq')).1, (cok q hq').2⟩))
  -- what may
  have my1 := may_eq (nm := nm) (show 2 ≤ 6 by decide) hg nok hok
  have my2 := may_eq (nm := ρ nm) (show 2 ≤ 6 by decide) hgf nok2 hokf1
  rw [rn_may (ρ := ρ) (fun x hx e => rinj x hx nm nin e)] at my2
  have mok := may_ok (nm := nm) hok
  have mln : (mayL b nm).length ≤ 60000 := by
    unfold mayL
    have i4 := inB_le hg
    have := flat_le (k := 12000) (inB b) (f := fun p => mayP nm (mnW b false) (mnW b true) (nmsV 2 p)) fun p hp => by
      have nl := nms_len 2 p (gd_in hg p hp)
      have cp := capN_le (show 2 ≤ 7 by decide)
      unfold mayP
      rw [List.length_append]
      split <;> split <;> simp <;> omega
    omega
  have min : ∀ p ∈ srtP (mayL b nm), p.1 ∈ nmsV (2 + 1) b := fun p hp => by
    have hp := (srtP_perm _).mem_iff.mp hp
    unfold mayL at hp
    obtain ⟨z, hz, hq⟩ := List.mem_flatMap.mp hp
    have sub : ∀ o ∈ nmsV 2 z, o ∈ nmsV (2 + 1) b := fun o ho => by rw [nmsV]; exact List.mem_cons_of_mem _ (List.mem_flatMap.mpr ⟨z, hz, ho⟩)
    unfold mayP at hq
    rcases List.mem_append.mp hq with hq | hq
    · split at hq
      · obtain ⟨o, ho, rfl⟩ := List.mem_map.mp hq
        exact sub o ho
      · cases hq
    · split at hq
      · obtain ⟨o, ho, rfl⟩ := List.mem_map.mp hq
        exact sub o ho
      · cases hq
  generalize mayL b nm = ML at *
  have lc5 := cm_pairs hN (C := C_law_5) rfl (srtP ML) min
  have ls5 : sml ((srtP ML).map p2D).length = true := sml_of (by rw [List.length_map, (srtP_perm ML).length_eq]; omega)
  have sd2 := srtD_ok (ps := (srtP ML).map (rnP ρ)) (by rw [List.length_map, (srtP_perm ML).length_eq]; omega)
  rw [rn_srt] at sd2
  have e11 := DL.eq_self (shp_prlD (ps := srtP (ML.map (rnP ρ))) (fun p hp => by
    have hp := (srtP_perm _).mem_iff.mp hp
    obtain ⟨q, hq, rfl⟩ := List.mem_map.mp hp
    have hq' := (srtP_perm ML).mem_iff.mpr hq
    exact ⟨(rok q.1 (min q hq')).1, (mok q hq').2⟩))
  have sq1 : ∀ xs : List D, seqOf (.tuple xs) = some xs := fun xs => rfl
  clear hN rname rok rinj hokf hokf1 cin cok min mok pin tin lnm ixl
  generalize dcL (rnL 0 (nmsV (2 + 1) b)) = DD at *
  subst hND
  generalize (srtP (ML.map (rnP ρ))).map p2D = X1 at *
  generalize ((srtP ML).map (rnP ρ)).map p2D = X2 at *
  generalize (srtP ML).map p2D = X3 at *
  generalize (srtP (L.map (rnP ρ))).map p2D = X4 at *
  generalize ((srtP L).map (rnP ρ)).map p2D = X5 at *
  generalize (srtP L).map p2D = X6 at *
  generalize ((touV (plcV (2 + 1) b 0 0 w h) x y).map ρ).map PyData.str = X7 at *
  generalize (touV (plcV (2 + 1) b 0 0 w h) x y).map PyData.str = X8 at *
  generalize ((plcV (2 + 1) b 0 0 w h).map (rnR ρ)).map rowD = X9 at *
  generalize (plcV (2 + 1) b 0 0 w h).map rowD = XA at *
  generalize ((nmsV (2 + 1) b).map ρ).map PyData.str = XB at *
  generalize (nmsV (2 + 1) b).map PyData.str = XC at *
  generalize (lvsV (2 + 1) b).length = LL at *
  generalize (lvsV (2 + 1) b).map PyData.str = LV at *
  generalize loV (spnV (2 + 1) false b) = l1 at *
  generalize loV (spnV (2 + 1) true b) = l2 at *
  generalize spD (spnV (2 + 1) false b) = S1 at *
  generalize spD (spnV (2 + 1) true b) = S2 at *
  generalize (winV (2 + 1) false b 0 w && winV (2 + 1) true b 0 h) = WW at *
  generalize bxD (2 + 1) (rnV ρ (2 + 1) (wlV (2 + 1) nm t0 t1 b)) = B1 at *
  generalize bxD (2 + 1) (wlV (2 + 1) nm t0 t1 b) = B2 at *
  generalize bxD (2 + 1) (rnV ρ (2 + 1) (trnV (2 + 1) b)) = B3 at *
  generalize bxD (2 + 1) (trnV (2 + 1) b) = B4 at *
  generalize bxD (2 + 1) (rnV ρ (2 + 1) b) = B5 at *
  generalize bxD (2 + 1) b = B at *
  generalize ρ nm = rn at *
  simp -implicitDefEqProofs [M_law, D_law, startE, hm, hm1, hm2, hm3, hm4, hm5, hm6, hb, nme, lp, led, isb, nmf, ls1, lc1, n1, hs, p1, p2, ls2, lc2, n2, q1, q2, to, tof, ls3, lc3, n3, nd1, nd2, n4, ft1, ft2, n5, forD_c, forD_n, B_law_2, so1, so2, so3, so4, n6, n7, lv, lnl, md, ix, ht0, ht1, wl1, hNm, wl2, led1, n8, tu1, tu2, led2, n9, ch1, ch2, ls4, lc4, sd1, sq1, n10, my1, my2, ls5, lc5, sd2, e11, -e_lenL, -e_ixT, -e_ixL, -e_dixD]

end W

theorem PySem.Challenge.cw_growbox_k43_whole_other_names_holds : PySem.Challenge.rw_growbox_k43_whole_other_names.Holds :=
  W.finish W.hM

