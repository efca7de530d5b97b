import PyProof.Rows.All
import Wide.All
import OpenK.AllK
import Wide.FinOn
import HandS.ForMost
import HandS.Flow
import HandS.Style
import HandS.IsInst
import HandS.SortInts
import HandS.TupAny
import HandS.TupMul
import HandS.Zip
import HandS.Walk
import HandS.EndTab
import HandS.Ends
import HandS.Star
import HandS.DictComp
import HandS.Strs
import KE.DataMinMax
import PyProof.Rows.SumGenD
import PyProof.TupleOfSeq
import PyProof.ListMulRoad
import PyProof.FactsAll.tuple_2
import HandS.RevTup
import KE.GoesMore
import HandS.Deep
import HandS.SetFor
import KE.SortData
import HandS.Conv
import KE.KRevSl
import HandS.GenList
import HandS.GenYield
import PySem.Challenge.RW_claimshares_k03_years_and_costs
set_option Elab.async false
set_option linter.all false
set_option maxRecDepth 100000
/-! Z1: data, what stands for data in a heap, worlds, steps between worlds, slots -/
namespace Z
open PySem PySem.Spec PyProof.Rows L2

inductive D where
  | non | bl (b : Bool) | int (i : Int) | str (x : Str)
  | tup (xs : List D) | lst (xs : List D)
  | dct (ks : List Int) (ds : List D)
  | scr (ns : List Int) | obj (i : Nat) | con (i : Nat)

abbrev MS := List (List D)

mutual
inductive Rep (K : PySem.W.Frag) (bs : List Addr) (F : Hp) : V → D → Prop
  | non : Rep K bs F .non .non
  | bl (b : Bool) : Rep K bs F (.bl b) (.bl b)
  | int (i : Int) : Rep K bs F (.int i) (.int i)
  | str (x : Str) : Rep K bs F (.str x) (.str x)
  | tup {a : Addr} {vs : List V} {ds : List D} (h : F a = some (.tup vs)) (r : Reps K bs F vs ds) : Rep K bs F (.ref a) (.tup ds)
  | lst {a : Addr} {vs : List V} {ds : List D} (h : F a = some (.lst vs)) (r : Reps K bs F vs ds) : Rep K bs F (.ref a) (.lst ds)
  | dct {a : Addr} {kvs : List (Key × V)} {ks : List Int} {ds : List D} (h : F a = some (.dK kvs)) (hk : kvs.map (·.1) = ks.map Sum.inl) (r : Reps K bs F (kvs.map (·.2)) ds) : Rep K bs F (.ref a) (.dct ks ds)
  | scr {a : Addr} {ns : List Int} (h : SqL K F a (ns.map V.int)) : Rep K bs F (.ref a) (.scr ns)
  | obj {i : Nat} {b : Addr} (h : bs[i]? = some b) : Rep K bs F (.ref b) (.obj i)
  | con {a C dx b : Addr} {i : Nat} (hC : PySem.W.nsIn K mainGlobals "Contract" = some (some (.ref C))) (h : F a = some (.ins C dx [(("states" : Str), .ref b)])) (hb : bs[i]? = some b) : Rep K bs F (.ref a) (.con i)
inductive Reps (K : PySem.W.Frag) (bs : List Addr) (F : Hp) : List V → List D → Prop
  | nil : Reps K bs F [] []
  | cons {v : V} {d : D} {vs : List V} {ds : List D} (r : Rep K bs F v d) (t : Reps K bs F vs ds) : Reps K bs F (v :: vs) (d :: ds)
end

section
variable {K : PySem.W.Frag} {bs bs' : List Addr} {F F' H H' : Hp}
theorem getElem?_pre {α : Type} {l more : List α} {i : Nat} {a : α} (h : l[i]? = some a) : (l ++ more)[i]? = some a := by
  obtain ⟨hl, e⟩ := List.getElem?_eq_some_iff.mp h
  rw [List.getElem?_append_left hl]
  exact h
mutual
theorem Rep.mono {more : List Addr} (s : Same F F') : ∀ {v : V} {d : D}, Rep K bs F v d → Rep K (bs ++ more) F' v d
  | _, _, .non => .non
  | _, _, .bl b => .bl b
  | _, _, .int i => .int i
  | _, _, .str x => .str x
  | _, _, .tup h r => .tup (s _ _ h) (Reps.mono s r)
  | _, _, .lst h r => .lst (s _ _ h) (Reps.mono s r)
  | _, _, .dct h hk r => .dct (s _ _ h) hk (Reps.mono s r)
  | _, _, .scr h => .scr (s.seq h)
  | _, _, .obj h => .obj (getElem?_pre h)
  | _, _, .con hC h hb => .con hC (s _ _ h) (getElem?_pre hb)
theorem Reps.mono {more : List Addr} (s : Same F F') : ∀ {vs : List V} {ds : List D}, Reps K bs F vs ds → Reps K (bs ++ more) F' vs ds
  | _, _, .nil => .nil
  | _, _, .cons r t => .cons (Rep.mono s r) (Reps.mono s t)
end
theorem Reps.length : ∀ {vs : List V} {ds : List D}, Reps K bs F vs ds → vs.length = ds.length
  | _, _, .nil => rfl
  | _, _, .cons _ t => congrArg (· + 1) (Reps.length t)
theorem Reps.get : ∀ {vs : List V} {ds : List D} {i : Nat} {d : D}, Reps K bs F vs ds → ds[i]? = some d → ∃ v, vs[i]? = some v ∧ Rep K bs F v d
  | _, _, _, _, .nil, e => by simp at e
  | _, _, 0, _, .cons r _, e => by
    simp at e
    subst e
    exact ⟨_, rfl, r⟩
  | _, _, i + 1, d, .cons _ t, e => by
    obtain ⟨u, h1, h2⟩ := Reps.get (i := i) (d := d) t (by simpa using e)
    exact ⟨u, by simpa using h1, h2⟩
theorem Reps.append : ∀ {vs ws : List V} {ds es : List D}, Reps K bs F vs ds → Reps K bs F ws es → Reps K bs F (vs ++ ws) (ds ++ es)
  | _, _, _, _, .nil, s => s
  | _, _, _, _, .cons r t, s => .cons r (Reps.append t s)
theorem Reps.take : ∀ {vs : List V} {ds : List D} (n : Nat), Reps K bs F vs ds → Reps K bs F (vs.take n) (ds.take n)
  | _, _, 0, _ => .nil
  | _, _, _ + 1, .nil => .nil
  | _, _, n + 1, .cons r t => .cons r (Reps.take n t)
theorem Reps.drop : ∀ {vs : List V} {ds : List D} (n : Nat), Reps K bs F vs ds → Reps K bs F (vs.drop n) (ds.drop n)
  | _, _, 0, r => r
  | _, _, _ + 1, .nil => .nil
  | _, _, n + 1, .cons _ t => Reps.drop n t
theorem Reps.reverse : ∀ {vs : List V} {ds : List D}, Reps K bs F vs ds → Reps K bs F vs.reverse ds.reverse
  | _, _, .nil => .nil
  | _, _, .cons r t => by
    rw [List.reverse_cons, List.reverse_cons]
    exact Reps.append (Reps.reverse t) (.cons r .nil)
theorem Reps.set {v : V} {d : D} (r : Rep K bs F v d) : ∀ {vs : List V} {ds : List D} (n : Nat), Reps K bs F vs ds → Reps K bs F (vs.set n v) (ds.set n d)
  | _, _, _, .nil => .nil
  | _, _, 0, .cons _ t => .cons r t
  | _, _, n + 1, .cons q t => .cons q (Reps.set r n t)
theorem Reps.ints : ∀ {vs : List V} {ns : List Int}, Reps K bs F vs (ns.map D.int) → vs = ns.map V.int
  | vs, [], h => by
    cases h
    rfl
  | vs, n :: ns, h => by
    cases h with
    | cons r t =>
      cases r
      rw [Reps.ints t]
      rfl
theorem Reps.of_ints : ∀ (ns : List Int), Reps K bs F (ns.map V.int) (ns.map D.int)
  | [] => .nil
  | n :: ns => .cons (.int n) (Reps.of_ints ns)
theorem Reps.nil_inv {vs : List V} (h : Reps K bs F vs []) : vs = [] := by
  cases h
  rfl
theorem Reps.one {vs : List V} {d : D} (h : Reps K bs F vs [d]) : ∃ v, vs = [v] ∧ Rep K bs F v d := by
  cases h with
  | cons r t =>
    cases t
    exact ⟨_, rfl, r⟩
theorem Reps.two {vs : List V} {d e : D} (h : Reps K bs F vs [d, e]) : ∃ v w, vs = [v, w] ∧ Rep K bs F v d ∧ Rep K bs F w e := by
  cases h with
  | cons r t =>
    cases t with
    | cons r' t' =>
      cases t'
      exact ⟨_, _, rfl, r, r'⟩

/-- the tables of code objects that lambdas are made with -/
class Tbs where
  tb : List (Addr × Str)
instance (priority := 10) noTbs : Tbs := ⟨[]⟩
variable [Tbs]
/-- worlds: the mutable lists at bs hold M; F, a part of H, is never changed -/
structure Wd (K : PySem.W.Frag) (bs : List Addr) (M : MS) (F H : Hp) : Prop where
  sub : Same F H
  nd : bs.Nodup
  len : bs.length = M.length
  objs : ∀ (i : Nat) (b : Addr) (ds : List D), bs[i]? = some b → M[i]? = some ds → F b = none ∧ ∃ vs, H b = some (.lst vs) ∧ Reps K bs F vs ds
  tab : LamX.Tabs Tbs.tb H
  tabF : ∀ p ∈ Tbs.tb, F p.1 = none
theorem tabF_upd {p : Addr} {o : HO} (h : ∀ x ∈ (Tbs.tb : List (Addr × Str)), F x.1 = none) (t : LamX.Tabs Tbs.tb H) (n : ∀ ps, H p ≠ some (.tbl ps)) : ∀ x ∈ (Tbs.tb : List (Addr × Str)), upd F p o x.1 = none := fun x hx => by
  obtain ⟨ps, e1, _⟩ := t x hx
  rw [upd_ne (fun z => n ps (by rw [← z]; exact e1))]
  exact h x hx
/-- tables stand where what is written is none of theirs -/
theorem tabs_upd {T : List (Addr × Str)} {p : Addr} {o : HO} (h : LamX.Tabs T H) (n1 : ∀ ps, H p ≠ some (.tbl ps)) (n2 : ∀ q, H p ≠ some (LamX.CodeO p q)) : LamX.Tabs T (upd H p o) := fun x hx => by
  obtain ⟨ps, e1, e2, e3⟩ := h x hx
  refine ⟨ps, by rw [upd_ne (fun z => n1 ps (by rw [← z]; exact e1))]; exact e1, e2, fun pos cv hc => ?_⟩
  obtain ⟨c, f1, f2⟩ := e3 pos cv hc
  exact ⟨c, f1, by rw [upd_ne (fun z => n2 x.2 (by rw [← z]; exact f2))]; exact f2⟩
theorem tabs_new {T : List (Addr × Str)} {p : Addr} {o : HO} (h : LamX.Tabs T H) (hp : H p = none) : LamX.Tabs T (upd H p o) := tabs_upd h (fun _ e => by rw [hp] at e; cases e) fun _ e => by rw [hp] at e; cases e
theorem tabs_lst {T : List (Addr × Str)} {p : Addr} {o : HO} {vs : List V} (h : LamX.Tabs T H) (hp : H p = some (.lst vs)) : LamX.Tabs T (upd H p o) := tabs_upd h (fun _ e => by rw [hp] at e; cases e) fun _ e => by rw [hp] at e; cases e
theorem tabs_dK {T : List (Addr × Str)} {p : Addr} {o : HO} {kvs : List (Key × V)} (h : LamX.Tabs T H) (hp : H p = some (.dK kvs)) : LamX.Tabs T (upd H p o) := tabs_upd h (fun _ e => by rw [hp] at e; cases e) fun _ e => by rw [hp] at e; cases e

structure Tr (bs : List Addr) (F H : Hp) (bs' : List Addr) (F' H' : Hp) : Prop where
  pre : ∃ more, bs' = bs ++ more ∧ ∀ b ∈ more, H b = none
  fm : Same F F'
  new : ∀ a o, F' a = some o → F a = some o ∨ H a = none
  keep0 : ∀ a o, H a = some o → a ∉ bs → (∀ ps, o ≠ .tbl ps) → H' a = some o
  dom : ∀ a, H a ≠ none → H' a ≠ none

theorem Tr.keep (t : Tr bs F H bs' F' H') (a : Addr) (o : HO) (h : H a = some o) (n : a ∉ bs) (nt : ∀ ps, o ≠ .tbl ps := by intro _ q; cases q) : H' a = some o := t.keep0 a o h n nt
theorem Tr.refl (bs : List Addr) (F H : Hp) : Tr bs F H bs F H := ⟨⟨[], by simp, by simp⟩, Same.refl _, fun _ _ h => .inl h, fun _ _ h _ _ => h, fun _ h => h⟩
theorem Tr.trans {bs'' : List Addr} {F'' H'' : Hp} (a : Tr bs F H bs' F' H') (b : Tr bs' F' H' bs'' F'' H'') : Tr bs F H bs'' F'' H'' := by
  obtain ⟨m1, e1, n1⟩ := a.pre
  obtain ⟨m2, e2, n2⟩ := b.pre
  have back : ∀ x, H' x = none → H x = none := fun x h => by
    cases q : H x with
    | none => rfl
    | some o => exact absurd h (a.dom x (by rw [q]; simp))
  refine ⟨⟨m1 ++ m2, by rw [e2, e1, List.append_assoc], fun x hx => ?_⟩, a.fm.trans b.fm, fun x o h => ?_, fun x o h hx nt => ?_, fun x h => b.dom x (a.dom x h)⟩
  · rcases List.mem_append.mp hx with z | z
    · exact n1 x z
    · exact back x (n2 x z)
  · rcases b.new x o h with z | z
    · exact a.new x o z
    · exact .inr (back x z)
  · refine b.keep0 x o (a.keep0 x o h hx nt) (fun z => ?_) nt
    rw [e1] at z
    rcases List.mem_append.mp z with z | z
    · exact hx z
    · rw [n1 x z] at h
      cases h
theorem Rep.tr {v : V} {d : D} (r : Rep K bs F v d) (t : Tr bs F H bs' F' H') : Rep K bs' F' v d := by
  obtain ⟨m, rfl, _⟩ := t.pre
  exact r.mono t.fm
theorem Reps.tr {v : List V} {d : List D} (r : Reps K bs F v d) (t : Tr bs F H bs' F' H') : Reps K bs' F' v d := by
  obtain ⟨m, rfl, _⟩ := t.pre
  exact r.mono t.fm
theorem Wd.fnone {M : MS} (w : Wd K bs M F H) {p : Addr} (h : H p = none) : F p = none := w.sub.free h
theorem Wd.notin {M : MS} (w : Wd K bs M F H) {p : Addr} (h : H p = none) : p ∉ bs := fun z => by
  obtain ⟨i, hi, e⟩ := List.mem_iff_getElem.mp z
  have e1 : bs[i]? = some p := List.getElem?_eq_some_iff.mpr ⟨hi, e⟩
  have h2 : i < M.length := by rw [← w.len]; exact hi
  obtain ⟨_, vs, e3, _⟩ := w.objs i p _ e1 (List.getElem?_eq_getElem h2)
  rw [h] at e3
  cases e3
/-- a new object that is never changed -/
theorem Wd.laid {M : MS} (w : Wd K bs M F H) {p : Addr} (o : HO) (h : H p = none) : Wd K bs M (upd F p o) (upd H p o) ∧ Tr bs F H bs (upd F p o) (upd H p o) := by
  have fp := w.fnone h
  have sF : Same F (upd F p o) := fun b u e => by rw [upd_ne (ne_of_none e fp)]; exact e
  refine ⟨⟨fun b u e => ?_, w.nd, w.len, fun i b ds e1 e2 => ?_, tabs_new w.tab h, tabF_upd w.tabF w.tab fun _ e => by rw [h] at e; cases e⟩, ⟨[], by simp, by simp⟩, sF, fun a u e => ?_, fun a u e _ _ => ?_, fun a e => ?_⟩
  · by_cases q : b = p
    · subst q
      rw [upd_same] at e ⊢
      exact e
    · rw [upd_ne q] at e ⊢
      exact w.sub b u e
  · obtain ⟨n1, vs, e3, r⟩ := w.objs i b ds e1 e2
    have q : b ≠ p := ne_of_none e3 h
    refine ⟨by rw [upd_ne q]; exact n1, vs, by rw [upd_ne q]; exact e3, ?_⟩
    have := r.mono (more := []) sF
    rwa [List.append_nil] at this
  · by_cases q : a = p
    · subst q
      exact .inr h
    · rw [upd_ne q] at e
      exact .inl e
  · rw [upd_ne (ne_of_none e h)]
    exact e
  · by_cases q : a = p
    · subst q
      exact absurd h e
    · rw [upd_ne q]
      exact e
/-- a new object that is dropped at once, or not handed on -/
theorem Wd.lost {M : MS} (w : Wd K bs M F H) {p : Addr} (o : HO) (h : H p = none) : Wd K bs M F (upd H p o) ∧ Tr bs F H bs F (upd H p o) := by
  refine ⟨⟨fun b u e => ?_, w.nd, w.len, fun i b ds e1 e2 => ?_, tabs_new w.tab h, w.tabF⟩, ⟨[], by simp, by simp⟩, Same.refl _, fun a u e => .inl e, fun a u e _ _ => ?_, fun a e => ?_⟩
  · rw [upd_ne (ne_of_none (w.sub b u e) h)]
    exact w.sub b u e
  · obtain ⟨n1, vs, e3, r⟩ := w.objs i b ds e1 e2
    exact ⟨n1, vs, by rw [upd_ne (ne_of_none e3 h)]; exact e3, r⟩
  · rw [upd_ne (ne_of_none e h)]
    exact e
  · by_cases q : a = p
    · subst q
      exact absurd h e
    · rw [upd_ne q]
      exact e
/-- a new mutable list -/
theorem Wd.newobj {M : MS} (w : Wd K bs M F H) {p : Addr} {vs : List V} {ds : List D} (r : Reps K bs F vs ds) (h : H p = none) : Wd K (bs ++ [p]) (M ++ [ds]) F (upd H p (.lst vs)) ∧ Tr bs F H (bs ++ [p]) F (upd H p (.lst vs)) := by
  have np := w.notin h
  refine ⟨⟨fun b u e => ?_, ?_, ?_, fun i b es e1 e2 => ?_, tabs_new w.tab h, w.tabF⟩, ⟨[p], rfl, fun b hb => ?_⟩, Same.refl _, fun a u e => .inl e, fun a u e _ _ => ?_, fun a e => ?_⟩
  · rw [upd_ne (ne_of_none (w.sub b u e) h)]
    exact w.sub b u e
  · rw [List.nodup_append]
    refine ⟨w.nd, List.nodup_cons.mpr ⟨by simp, List.nodup_nil⟩, fun a ha b hb e => ?_⟩
    have : b = p := by simpa using hb
    subst this
    exact np (e ▸ ha)
  · rw [List.length_append, List.length_append, w.len]
    rfl
  · by_cases hi : i < bs.length
    · rw [List.getElem?_append_left hi] at e1
      rw [List.getElem?_append_left (by rw [← w.len]; exact hi)] at e2
      obtain ⟨n1, ws, e3, q⟩ := w.objs i b es e1 e2
      exact ⟨n1, ws, by rw [upd_ne (ne_of_none e3 h)]; exact e3, q.mono (Same.refl _)⟩
    · rw [List.getElem?_append_right (by omega)] at e1
      rw [List.getElem?_append_right (by rw [← w.len]; omega), ← w.len] at e2
      have hz : i - bs.length = 0 := by
        cases q : i - bs.length with
        | zero => rfl
        | succ n =>
          rw [q] at e1
          simp at e1
      rw [hz] at e1 e2
      simp at e1 e2
      subst e1 e2
      exact ⟨w.fnone h, vs, upd_same, r.mono (Same.refl _)⟩
  · have : b = p := by simpa using hb
    subst this
    exact h
  · rw [upd_ne (ne_of_none e h)]
    exact e
  · by_cases q : a = p
    · subst q
      exact absurd h e
    · rw [upd_ne q]
      exact e
/-- a mutable list is changed -/
theorem Wd.write {M : MS} (w : Wd K bs M F H) {i : Nat} {b : Addr} {vs : List V} {ds : List D} (hb : bs[i]? = some b) (r : Reps K bs F vs ds) : Wd K bs (M.set i ds) F (upd H b (.lst vs)) ∧ Tr bs F H bs F (upd H b (.lst vs)) := by
  have hi : i < bs.length := (List.getElem?_eq_some_iff.mp hb).1
  have hm : i < M.length := by rw [← w.len]; exact hi
  obtain ⟨fb, ws, e0, _⟩ := w.objs i b _ hb (List.getElem?_eq_getElem hm)
  refine ⟨⟨fun c u e => ?_, w.nd, by rw [List.length_set]; exact w.len, fun j c es e1 e2 => ?_, tabs_lst w.tab e0, w.tabF⟩, ⟨[], by simp, by simp⟩, Same.refl _, fun a u e => .inl e, fun a u e ha _ => ?_, fun a e => ?_⟩
  · have q : c ≠ b := ne_of_none e fb
    rw [upd_ne q]
    exact w.sub c u e
  · by_cases q : j = i
    · subst q
      rw [hb] at e1
      cases e1
      rw [List.getElem?_set_self hm] at e2
      cases e2
      exact ⟨fb, vs, upd_same, r⟩
    · rw [List.getElem?_set_ne (Ne.symm q)] at e2
      obtain ⟨n1, us, e3, q3⟩ := w.objs j c es e1 e2
      have ne : c ≠ b := fun z => by
        subst z
        obtain ⟨h1, x1⟩ := List.getElem?_eq_some_iff.mp e1
        obtain ⟨h2, x2⟩ := List.getElem?_eq_some_iff.mp hb
        exact q ((List.getElem_inj w.nd).mp (x1.trans x2.symm))
      exact ⟨n1, us, by rw [upd_ne ne]; exact e3, q3⟩
  · rw [upd_ne (fun z => ha (by rw [z]; exact List.mem_of_getElem? hb))]
    exact e
  · by_cases q : a = b
    · subst q
      rw [upd_same]
      simp
    · rw [upd_ne q]
      exact e

/-! ### a frame's slots -/
inductive Sl where
  | no | v (d : D) | own (ds : List D) | ownD (ks : List Int) (ds : List D)

/-- os: the objects that the frame alone holds -/
inductive Slots (K : PySem.W.Frag) (bs : List Addr) (F H : Hp) : L2.St → List Sl → List Addr → Prop
  | nil : Slots K bs F H [] [] []
  | no {x : Option V} {σ : L2.St} {e : List Sl} {os : List Addr} (t : Slots K bs F H σ e os) : Slots K bs F H (x :: σ) (.no :: e) os
  | v {x : V} {d : D} {σ : L2.St} {e : List Sl} {os : List Addr} (r : Rep K bs F x d) (t : Slots K bs F H σ e os) : Slots K bs F H (some x :: σ) (.v d :: e) os
  | own {a : Addr} {vs : List V} {ds : List D} {σ : L2.St} {e : List Sl} {os : List Addr} (h : H a = some (.lst vs)) (hf : F a = none) (hb : a ∉ bs) (ho : a ∉ os) (r : Reps K bs F vs ds) (t : Slots K bs F H σ e os) : Slots K bs F H (some (.ref a) :: σ) (.own ds :: e) (a :: os)
  | ownD {a : Addr} {kvs : List (Key × V)} {ks : List Int} {ds : List D} {σ : L2.St} {e : List Sl} {os : List Addr} (h : H a = some (.dK kvs)) (hf : F a = none) (hb : a ∉ bs) (ho : a ∉ os) (hk : kvs.map (·.1) = ks.map Sum.inl) (r : Reps K bs F (kvs.map (·.2)) ds) (t : Slots K bs F H σ e os) : Slots K bs F H (some (.ref a) :: σ) (.ownD ks ds :: e) (a :: os)

theorem Tr.free (t : Tr bs F H bs' F' H') {a : Addr} {o : HO} (h : H a = some o) (hf : F a = none) : F' a = none := by
  cases q : F' a with
  | none => rfl
  | some u =>
    rcases t.new a u q with z | z
    · rw [hf] at z
      cases z
    · rw [h] at z
      cases z
theorem Tr.notin (t : Tr bs F H bs' F' H') {a : Addr} {o : HO} (h : H a = some o) (hb : a ∉ bs) : a ∉ bs' := by
  obtain ⟨m, rfl, hm⟩ := t.pre
  intro z
  rcases List.mem_append.mp z with z | z
  · exact hb z
  · rw [hm a z] at h
    cases h
theorem Slots.tr (t : Tr bs F H bs' F' H') : ∀ {σ : L2.St} {e : List Sl} {os : List Addr}, Slots K bs F H σ e os → Slots K bs' F' H' σ e os
  | _, _, _, .nil => .nil
  | _, _, _, .no s => .no (Slots.tr t s)
  | _, _, _, .v r s => .v (r.tr t) (Slots.tr t s)
  | _, _, _, .own h hf hb ho r s => .own (t.keep _ _ h hb) (t.free h hf) (t.notin h hb) ho (r.tr t) (Slots.tr t s)
  | _, _, _, .ownD h hf hb ho hk r s => .ownD (t.keep _ _ h hb) (t.free h hf) (t.notin h hb) ho hk (r.tr t) (Slots.tr t s)
theorem Slots.length : ∀ {σ : L2.St} {e : List Sl} {os : List Addr}, Slots K bs F H σ e os → σ.length = e.length
  | _, _, _, .nil => rfl
  | _, _, _, .no s => congrArg (· + 1) (Slots.length s)
  | _, _, _, .v r s => congrArg (· + 1) (Slots.length s)
  | _, _, _, .own h hf hb ho r s => congrArg (· + 1) (Slots.length s)
  | _, _, _, .ownD h hf hb ho hk r s => congrArg (· + 1) (Slots.length s)
theorem Slots.get : ∀ {σ : L2.St} {e : List Sl} {os : List Addr} {i : Nat} {d : D}, Slots K bs F H σ e os → e[i]? = some (.v d) → ∃ x, σ[i]? = some (some x) ∧ Rep K bs F x d
  | _, _, _, _, _, .nil, h => by simp at h
  | _, _, _, 0, _, .no s, h => by simp at h
  | _, _, _, 0, _, .v r s, h => by
    simp at h
    subst h
    exact ⟨_, rfl, r⟩
  | _, _, _, 0, _, .own _ _ _ _ _ s, h => by simp at h
  | _, _, _, 0, _, .ownD _ _ _ _ _ _ s, h => by simp at h
  | _, _, _, i + 1, d, .no s, h => by simpa using Slots.get (i := i) s (by simpa using h)
  | _, _, _, i + 1, d, .v r s, h => by simpa using Slots.get (i := i) s (by simpa using h)
  | _, _, _, i + 1, d, .own _ _ _ _ _ s, h => by simpa using Slots.get (i := i) s (by simpa using h)
  | _, _, _, i + 1, d, .ownD _ _ _ _ _ _ s, h => by simpa using Slots.get (i := i) s (by simpa using h)
theorem Slots.getOwn : ∀ {σ : L2.St} {e : List Sl} {os : List Addr} {i : Nat} {ds : List D}, Slots K bs F H σ e os → e[i]? = some (.own ds) → ∃ a vs, σ[i]? = some (some (.ref a)) ∧ H a = some (.lst vs) ∧ F a = none ∧ a ∉ bs ∧ a ∈ os ∧ Reps K bs F vs ds
  | _, _, _, _, _, .nil, h => by simp at h
  | _, _, _, 0, _, .no s, h => by simp at h
  | _, _, _, 0, _, .v r s, h => by simp at h
  | _, _, _, 0, _, .own h1 h2 h3 h4 r s, h => by
    simp at h
    subst h
    exact ⟨_, _, rfl, h1, h2, h3, List.mem_cons_self, r⟩
  | _, _, _, 0, _, .ownD _ _ _ _ _ _ s, h => by simp at h
  | _, _, _, i + 1, d, .no s, h => by simpa using Slots.getOwn (i := i) s (by simpa using h)
  | _, _, _, i + 1, d, .v r s, h => by simpa using Slots.getOwn (i := i) s (by simpa using h)
  | _, _, _, i + 1, d, .own _ _ _ _ _ s, h => by
    obtain ⟨a, vs, q1, q2, q3, q4, q5, q6⟩ := Slots.getOwn (i := i) s (by simpa using h)
    exact ⟨a, vs, by simpa using q1, q2, q3, q4, List.mem_cons_of_mem _ q5, q6⟩
  | _, _, _, i + 1, d, .ownD _ _ _ _ _ _ s, h => by
    obtain ⟨a, vs, q1, q2, q3, q4, q5, q6⟩ := Slots.getOwn (i := i) s (by simpa using h)
    exact ⟨a, vs, by simpa using q1, q2, q3, q4, List.mem_cons_of_mem _ q5, q6⟩
theorem Slots.getOwnD : ∀ {σ : L2.St} {e : List Sl} {os : List Addr} {i : Nat} {ks : List Int} {ds : List D}, Slots K bs F H σ e os → e[i]? = some (.ownD ks ds) → ∃ a kvs, σ[i]? = some (some (.ref a)) ∧ H a = some (.dK kvs) ∧ F a = none ∧ a ∉ bs ∧ a ∈ os ∧ kvs.map (·.1) = ks.map Sum.inl ∧ Reps K bs F (kvs.map (·.2)) ds
  | _, _, _, _, _, _, .nil, h => by simp at h
  | _, _, _, 0, _, _, .no s, h => by simp at h
  | _, _, _, 0, _, _, .v r s, h => by simp at h
  | _, _, _, 0, _, _, .own _ _ _ _ _ s, h => by simp at h
  | _, _, _, 0, _, _, .ownD h1 h2 h3 h4 hk r s, h => by
    simp at h
    obtain ⟨rfl, rfl⟩ := h
    exact ⟨_, _, rfl, h1, h2, h3, List.mem_cons_self, hk, r⟩
  | _, _, _, i + 1, _, d, .no s, h => by simpa using Slots.getOwnD (i := i) s (by simpa using h)
  | _, _, _, i + 1, _, d, .v r s, h => by simpa using Slots.getOwnD (i := i) s (by simpa using h)
  | _, _, _, i + 1, _, d, .own _ _ _ _ _ s, h => by
    obtain ⟨a, vs, q1, q2, q3, q4, q5, q6⟩ := Slots.getOwnD (i := i) s (by simpa using h)
    exact ⟨a, vs, by simpa using q1, q2, q3, q4, List.mem_cons_of_mem _ q5, q6⟩
  | _, _, _, i + 1, _, d, .ownD _ _ _ _ _ _ s, h => by
    obtain ⟨a, vs, q1, q2, q3, q4, q5, q6⟩ := Slots.getOwnD (i := i) s (by simpa using h)
    exact ⟨a, vs, by simpa using q1, q2, q3, q4, List.mem_cons_of_mem _ q5, q6⟩
/-- a slot gets a value (or is forgotten) -/
theorem Slots.setv {x : V} {d : D} (r : Rep K bs F x d) : ∀ {σ : L2.St} {e : List Sl} {os : List Addr} (i : Nat), Slots K bs F H σ e os → ∃ os', Slots K bs F H (σ.set i (some x)) (e.set i (.v d)) os' ∧ ∀ a ∈ os', a ∈ os
  | _, _, _, _, .nil => ⟨[], .nil, fun _ h => h⟩
  | _, _, _, 0, .no s => ⟨_, .v r s, fun _ h => h⟩
  | _, _, _, 0, .v _ s => ⟨_, .v r s, fun _ h => h⟩
  | _, _, _, 0, .own _ _ _ _ _ s => ⟨_, .v r s, fun _ h => List.mem_cons_of_mem _ h⟩
  | _, _, _, 0, .ownD _ _ _ _ _ _ s => ⟨_, .v r s, fun _ h => List.mem_cons_of_mem _ h⟩
  | _, _, _, i + 1, .no s => let ⟨os', q, h⟩ := Slots.setv r i s; ⟨os', .no q, h⟩
  | _, _, _, i + 1, .v z s => let ⟨os', q, h⟩ := Slots.setv r i s; ⟨os', .v z q, h⟩
  | _, _, _, i + 1, .own h1 h2 h3 h4 z s => let ⟨os', q, h⟩ := Slots.setv r i s; ⟨_ :: os', .own h1 h2 h3 (fun k => h4 (h _ k)) z q, fun a ha => (List.mem_cons.mp ha).elim (fun k => by rw [k]; exact List.mem_cons_self) fun k => List.mem_cons_of_mem _ (h _ k)⟩
  | _, _, _, i + 1, .ownD h1 h2 h3 h4 hk z s => let ⟨os', q, h⟩ := Slots.setv r i s; ⟨_ :: os', .ownD h1 h2 h3 (fun k => h4 (h _ k)) hk z q, fun a ha => (List.mem_cons.mp ha).elim (fun k => by rw [k]; exact List.mem_cons_self) fun k => List.mem_cons_of_mem _ (h _ k)⟩
theorem Slots.setno {x : Option V} : ∀ {σ : L2.St} {e : List Sl} {os : List Addr} (i : Nat), Slots K bs F H σ e os → ∃ os', Slots K bs F H (σ.set i x) (e.set i .no) os' ∧ ∀ a ∈ os', a ∈ os
  | _, _, _, _, .nil => ⟨[], .nil, fun _ h => h⟩
  | _, _, _, 0, .no s => ⟨_, .no s, fun _ h => h⟩
  | _, _, _, 0, .v _ s => ⟨_, .no s, fun _ h => h⟩
  | _, _, _, 0, .own _ _ _ _ _ s => ⟨_, .no s, fun _ h => List.mem_cons_of_mem _ h⟩
  | _, _, _, 0, .ownD _ _ _ _ _ _ s => ⟨_, .no s, fun _ h => List.mem_cons_of_mem _ h⟩
  | _, _, _, i + 1, .no s => let ⟨os', q, h⟩ := Slots.setno i s; ⟨os', .no q, h⟩
  | _, _, _, i + 1, .v z s => let ⟨os', q, h⟩ := Slots.setno i s; ⟨os', .v z q, h⟩
  | _, _, _, i + 1, .own h1 h2 h3 h4 z s => let ⟨os', q, h⟩ := Slots.setno i s; ⟨_ :: os', .own h1 h2 h3 (fun k => h4 (h _ k)) z q, fun a ha => (List.mem_cons.mp ha).elim (fun k => by rw [k]; exact List.mem_cons_self) fun k => List.mem_cons_of_mem _ (h _ k)⟩
  | _, _, _, i + 1, .ownD h1 h2 h3 h4 hk z s => let ⟨os', q, h⟩ := Slots.setno i s; ⟨_ :: os', .ownD h1 h2 h3 (fun k => h4 (h _ k)) hk z q, fun a ha => (List.mem_cons.mp ha).elim (fun k => by rw [k]; exact List.mem_cons_self) fun k => List.mem_cons_of_mem _ (h _ k)⟩
/-- a slot gets a new list of its own -/
theorem Slots.setown {a : Addr} {vs : List V} {ds : List D} (h : H a = some (.lst vs)) (hf : F a = none) (hb : a ∉ bs) (r : Reps K bs F vs ds) : ∀ {σ : L2.St} {e : List Sl} {os : List Addr} (i : Nat), a ∉ os → i < e.length → Slots K bs F H σ e os → ∃ os', Slots K bs F H (σ.set i (some (.ref a))) (e.set i (.own ds)) os' ∧ ∀ c ∈ os', c = a ∨ c ∈ os
  | _, _, _, _, _, hi, .nil => by simp at hi
  | _, _, _, 0, ho, _, .no s => ⟨_, .own h hf hb ho r s, fun c k => List.mem_cons.mp k⟩
  | _, _, _, 0, ho, _, .v _ s => ⟨_, .own h hf hb ho r s, fun c k => List.mem_cons.mp k⟩
  | _, _, _, 0, ho, _, .own _ _ _ _ _ s => ⟨_, .own h hf hb (fun k => ho (List.mem_cons_of_mem _ k)) r s, fun c k => (List.mem_cons.mp k).imp id (List.mem_cons_of_mem _)⟩
  | _, _, _, 0, ho, _, .ownD _ _ _ _ _ _ s => ⟨_, .own h hf hb (fun k => ho (List.mem_cons_of_mem _ k)) r s, fun c k => (List.mem_cons.mp k).imp id (List.mem_cons_of_mem _)⟩
  | _, _, _, i + 1, ho, hi, .no s => let ⟨os', q, z⟩ := Slots.setown h hf hb r i ho (by simpa using hi) s; ⟨os', .no q, z⟩
  | _, _, _, i + 1, ho, hi, .v y s => let ⟨os', q, z⟩ := Slots.setown h hf hb r i ho (by simpa using hi) s; ⟨os', .v y q, z⟩
  | _, _, _, i + 1, ho, hi, .own h1 h2 h3 h4 y s =>
    let ⟨os', q, z⟩ := Slots.setown h hf hb r i (fun k => ho (List.mem_cons_of_mem _ k)) (by simpa using hi) s
    ⟨_ :: os', .own h1 h2 h3 (fun k => (z _ k).elim (fun k => ho (by rw [← k]; exact List.mem_cons_self)) h4) y q, fun c k => (List.mem_cons.mp k).elim (fun k => .inr (by rw [k]; exact List.mem_cons_self)) fun k => (z c k).imp id (List.mem_cons_of_mem _)⟩
  | _, _, _, i + 1, ho, hi, .ownD h1 h2 h3 h4 hk y s =>
    let ⟨os', q, z⟩ := Slots.setown h hf hb r i (fun k => ho (List.mem_cons_of_mem _ k)) (by simpa using hi) s
    ⟨_ :: os', .ownD h1 h2 h3 (fun k => (z _ k).elim (fun k => ho (by rw [← k]; exact List.mem_cons_self)) h4) hk y q, fun c k => (List.mem_cons.mp k).elim (fun k => .inr (by rw [k]; exact List.mem_cons_self)) fun k => (z c k).imp id (List.mem_cons_of_mem _)⟩
theorem Slots.setownD {a : Addr} {kvs : List (Key × V)} {ks : List Int} {ds : List D} (h : H a = some (.dK kvs)) (hf : F a = none) (hb : a ∉ bs) (hk0 : kvs.map (·.1) = ks.map Sum.inl) (r : Reps K bs F (kvs.map (·.2)) ds) : ∀ {σ : L2.St} {e : List Sl} {os : List Addr} (i : Nat), a ∉ os → i < e.length → Slots K bs F H σ e os → ∃ os', Slots K bs F H (σ.set i (some (.ref a))) (e.set i (.ownD ks ds)) os' ∧ ∀ c ∈ os', c = a ∨ c ∈ os
  | _, _, _, _, _, hi, .nil => by simp at hi
  | _, _, _, 0, ho, _, .no s => ⟨_, .ownD h hf hb ho hk0 r s, fun c k => List.mem_cons.mp k⟩
  | _, _, _, 0, ho, _, .v _ s => ⟨_, .ownD h hf hb ho hk0 r s, fun c k => List.mem_cons.mp k⟩
  | _, _, _, 0, ho, _, .own _ _ _ _ _ s => ⟨_, .ownD h hf hb (fun k => ho (List.mem_cons_of_mem _ k)) hk0 r s, fun c k => (List.mem_cons.mp k).imp id (List.mem_cons_of_mem _)⟩
  | _, _, _, 0, ho, _, .ownD _ _ _ _ _ _ s => ⟨_, .ownD h hf hb (fun k => ho (List.mem_cons_of_mem _ k)) hk0 r s, fun c k => (List.mem_cons.mp k).imp id (List.mem_cons_of_mem _)⟩
  | _, _, _, i + 1, ho, hi, .no s => let ⟨os', q, z⟩ := Slots.setownD h hf hb hk0 r i ho (by simpa using hi) s; ⟨os', .no q, z⟩
  | _, _, _, i + 1, ho, hi, .v y s => let ⟨os', q, z⟩ := Slots.setownD h hf hb hk0 r i ho (by simpa using hi) s; ⟨os', .v y q, z⟩
  | _, _, _, i + 1, ho, hi, .own h1 h2 h3 h4 y s =>
    let ⟨os', q, z⟩ := Slots.setownD h hf hb hk0 r i (fun k => ho (List.mem_cons_of_mem _ k)) (by simpa using hi) s
    ⟨_ :: os', .own h1 h2 h3 (fun k => (z _ k).elim (fun k => ho (by rw [← k]; exact List.mem_cons_self)) h4) y q, fun c k => (List.mem_cons.mp k).elim (fun k => .inr (by rw [k]; exact List.mem_cons_self)) fun k => (z c k).imp id (List.mem_cons_of_mem _)⟩
  | _, _, _, i + 1, ho, hi, .ownD h1 h2 h3 h4 hk y s =>
    let ⟨os', q, z⟩ := Slots.setownD h hf hb hk0 r i (fun k => ho (List.mem_cons_of_mem _ k)) (by simpa using hi) s
    ⟨_ :: os', .ownD h1 h2 h3 (fun k => (z _ k).elim (fun k => ho (by rw [← k]; exact List.mem_cons_self)) h4) hk y q, fun c k => (List.mem_cons.mp k).elim (fun k => .inr (by rw [k]; exact List.mem_cons_self)) fun k => (z c k).imp id (List.mem_cons_of_mem _)⟩
end
end Z

/-! Z2: what code computes (denotations), expressions -/
namespace Z
open PySem PySem.Spec PyProof.Rows L2
variable [Tbs]

inductive Rs (α : Type) where
  | ok (a : α) | err (c : Str)
abbrev Mo (α : Type) := MS → Option (Rs α × MS)
def ret {α : Type} (a : α) : Mo α := fun M => some (.ok a, M)
def stuck {α : Type} : Mo α := fun _ => none
def bnd {α β : Type} (m : Mo α) (f : α → Mo β) : Mo β := fun M => match m M with
  | none => none
  | some (.ok a, M') => f a M'
  | some (.err c, M') => some (.err c, M')
def lft {α : Type} (o : Option α) : Mo α := fun M => match o with
  | none => none
  | some a => some (.ok a, M)
abbrev Ev := List Sl
abbrev DE := Ev → Mo D
abbrev DT := Ev → Mo Bool
abbrev DA := Ev → Mo (List D)
abbrev Wi := Str → L2.St → Hp → Prop
abbrev W0 : Wi := fun _ _ _ => False
abbrev QT (α : Type) := α → List Addr → MS → Hp → Hp → Prop

def Run {α : Type} (K : PySem.W.Frag) (W : Wi) (bs : List Addr) (F H : Hp) (σ : L2.St) (r : Option (Rs α × MS)) (q : QT α) : Prop := match r with
  | none => False
  | some (.ok a, M') => ∀ bs' F' H', Tr bs F H bs' F' H' → Wd K bs' M' F' H' → q a bs' M' F' H'
  | some (.err c, M') => ∀ bs' F' H', Tr bs F H bs' F' H' → Wd K bs' M' F' H' → W c σ H'
def At (K : PySem.W.Frag) (bs : List Addr) (M : MS) (F H : Hp) (σ : L2.St) (e : Ev) : Prop := Wd K bs M F H ∧ ∃ os, Slots K bs F H σ e os
def Lf {α : Type} (K : PySem.W.Frag) (W : Wi) (f : Ev → Mo α) (q : QT α) (σ : L2.St) (H : Hp) : Prop := ∃ bs M F e, At K bs M F H σ e ∧ Run K W bs F H σ (f e M) q
def qE (K : PySem.W.Frag) (Q : VK) : QT D := fun d bs _ F H => ∀ v, Rep K bs F v d → Q v H
def qT (Q : Bool → Hp → Prop) : QT Bool := fun b _ _ _ H => Q b H
def qA (K : PySem.W.Frag) (Q : List V → Hp → Prop) : QT (List D) := fun ds bs _ F H => ∀ vs, Reps K bs F vs ds → Q vs H
def liftE (K : PySem.W.Frag) (W : Wi) (f : DE) : TE := fun σ H Q => Lf K W f (qE K Q) σ H
def liftT (K : PySem.W.Frag) (W : Wi) (f : DT) : TT := fun σ H Q => Lf K W f (qT Q) σ H
def liftA (K : PySem.W.Frag) (W : Wi) (f : DA) : TA := fun σ H Q => Lf K W f (qA K Q) σ H
abbrev ZE (X : Cx) (W : Wi) (e : Expr) (f : DE) : Prop := PE X e (liftE X.K W f)
abbrev ZT (X : Cx) (W : Wi) (e : Expr) (f : DT) : Prop := PT X e (liftT X.K W f)
abbrev ZW (X : Cx) (W : Wi) (e : Expr) (f : DT) : Prop := PW X e (liftT X.K W f)
abbrev ZA (X : Cx) (W : Wi) (es : List Expr) (f : DA) : Prop := PA X es (liftA X.K W f)

section
variable {α β : Type} {K : PySem.W.Frag} {W : Wi} {bs bs' : List Addr} {M M' : MS} {F F' H H' : Hp} {σ : L2.St} {e : Ev}
theorem Run.imp {r : Option (Rs α × MS)} {q q' : QT α} (h : Run K W bs F H σ r q) (f : ∀ a bs' M' F' H', Tr bs F H bs' F' H' → Wd K bs' M' F' H' → q a bs' M' F' H' → q' a bs' M' F' H') : Run K W bs F H σ r q' := by
  match r, h with
  | some (.ok a, M'), h => exact fun bs' F' H' t w => f a bs' M' F' H' t w (h bs' F' H' t w)
  | some (.err c, M'), h => exact h
theorem Run.bind {m : Mo α} {f : α → Mo β} {q : QT β} (h : Run K W bs F H σ (bnd m f M) q) : Run K W bs F H σ (m M) (fun a bs1 M1 F1 H1 => Run K W bs1 F1 H1 σ (f a M1) q) := by
  unfold bnd at h
  cases e1 : m M with
  | none =>
    rw [e1] at h
    exact h
  | some p =>
    obtain ⟨r, M1⟩ := p
    rw [e1] at h
    cases r with
    | err c => exact h
    | ok a =>
      intro bs1 F1 H1 t1 w1
      simp only at h
      cases e2 : f a M1 with
      | none =>
        rw [e2] at h
        exact h
      | some p2 =>
        obtain ⟨r2, M2⟩ := p2
        rw [e2] at h
        cases r2 with
        | err c => exact fun bs2 F2 H2 t2 w2 => h bs2 F2 H2 (t1.trans t2) w2
        | ok b => exact fun bs2 F2 H2 t2 w2 => h bs2 F2 H2 (t1.trans t2) w2
theorem Run.here {a : α} {q : QT α} (w : Wd K bs M F H) (h : Run K W bs F H σ (some (.ok a, M)) q) : q a bs M F H := h bs F H (Tr.refl _ _ _) w
theorem Run.ok {a : α} {q : QT α} (h : Run K W bs F H σ (some (.ok a, M)) q) : ∀ bs' F' H', Tr bs F H bs' F' H' → Wd K bs' M F' H' → q a bs' M F' H' := h
theorem At.tr (a : At K bs M F H σ e) (t : Tr bs F H bs' F' H') (w : Wd K bs' M' F' H') : At K bs' M' F' H' σ e := ⟨w, a.2.imp fun _ s => s.tr t⟩
theorem Run.of_lft {o : Option α} {q : QT α} (h : Run K W bs F H σ (lft o M) q) : ∃ a, o = some a ∧ ∀ bs' F' H', Tr bs F H bs' F' H' → Wd K bs' M F' H' → q a bs' M F' H' := by
  cases o with
  | none => exact h.elim
  | some a => exact ⟨a, rfl, h⟩
end

/-! ### names, constants -/
def dVar (i : Nat) : DE := fun e M => match e[i]? with
  | some (.v d) => some (.ok d, M)
  | _ => none
def dC (d : D) : DE := fun _ => ret d
section
variable {X : Cx} {W : Wi}
theorem ze_ofVar {e : Expr} {i : Nat} (h : PE X e (tVar i)) : ZE X W e (dVar i) := ⟨fun pins s σ H Q I q => by
  obtain ⟨bs, M, F, ev, ⟨w, os, sl⟩, run⟩ := q
  unfold dVar at run
  cases e1 : ev[i]? with
  | none =>
    rw [e1] at run
    exact run.elim
  | some x =>
    rw [e1] at run
    cases x with
    | v d =>
      obtain ⟨v, e2, r⟩ := sl.get e1
      exact h.run pins s σ H Q I ⟨v, e2, Run.here w run v r⟩
    | no => exact run.elim
    | own _ => exact run.elim
    | ownD _ _ => exact run.elim⟩
theorem ze_ofC {e : Expr} {v : V} {d : D} (h : PE X e (tC v)) (r : ∀ bs F, Rep X.K bs F v d) : ZE X W e (dC d) := ⟨fun pins s σ H Q I q => by
  obtain ⟨bs, M, F, ev, a, run⟩ := q
  exact h.run pins s σ H Q I (Run.here a.1 run v (r _ _))⟩
theorem zv (i : Nat) {x : Str} {pos : Pos} (hN : X.N[i]? = some x := by rfl) (hv : Vis X.env.scope x := by first | exact Or.inl rfl | exact Or.inr (Or.inl rfl) | exact Or.inr (Or.inr rfl)) (hd : (x == ("__debug__" : Str)) = false := by decide)
    (hcd : (x == ("__classdict__" : Str)) = false := by decide) : ZE X W (.Name x pos) (dVar i) := ze_ofVar (pe_var hN hv hd hcd)
theorem z_int {i : Int} {j : Nat} {pos : Pos} : ZE X W (.Constant (.int i) j pos) (dC (.int i)) := ze_ofC pe_int fun _ _ => .int i
theorem z_bl {b : Bool} {j : Nat} {pos : Pos} : ZE X W (.Constant (.bool b) j pos) (dC (.bl b)) := ze_ofC pe_bl fun _ _ => .bl b
theorem z_non {j : Nat} {pos : Pos} : ZE X W (.Constant .none j pos) (dC .non) := ze_ofC pe_non fun _ _ => .non
theorem z_str {x : Str} {j : Nat} {pos : Pos} : ZE X W (.Constant (.str x) j pos) (dC (.str x)) := ze_ofC pe_str fun _ _ => .str x
/-- a whole number of the module -/
theorem z_glob {x : Str} {i : Int} {t : Tok} {pos : Pos} (hg : Gl X x) (hm : X.mg x = some (.int i t)) (hd : (x == ("__debug__" : Str)) = false := by decide) : ZE X W (.Name x pos) (dC (.int i)) := ze_ofC (pe_glob (v := .int i) hg hm ⟨t, rfl⟩ hd) fun _ _ => .int i
end

/-! ### two values -/
abbrev F2 := D → D → MS → Option D
def dOp (fo : F2) (fa fb : DE) : DE := fun e => bnd (fa e) fun x => bnd (fb e) fun y => fun M => lft (fo x y M) M
def OpZ (K : PySem.W.Frag) (r : R2) (fo : F2) : Prop :=
  ∀ (bs : List Addr) (M : MS) (F H : Hp) (x y : V) (c d z : D) (Q : VK), Wd K bs M F H → Rep K bs F x c → Rep K bs F y d → fo c d M = some z →
    (∀ v bs' F' H', Tr bs F H bs' F' H' → Wd K bs' M F' H' → Rep K bs' F' v z → Q v H') → r x y H Q
section
variable {X : Cx} {W : Wi} {K : PySem.W.Frag} {a b c : Expr} {fa fb fc : DE} {pos : Pos}
theorem op_lift {r : R2} {fo : F2} (hz : OpZ K r fo) {σ : L2.St} {H : Hp} {Q : VK} (h : liftE K W (dOp fo fa fb) σ H Q) : tOp r (liftE K W fa) (liftE K W fb) σ H Q := by
  obtain ⟨bs, M, F, e, at0, run⟩ := h
  refine ⟨bs, M, F, e, at0, run.bind.imp fun x bs1 M1 F1 H1 t1 w1 run1 v1 r1 => ?_⟩
  refine ⟨bs1, M1, F1, e, at0.tr t1 w1, run1.bind.imp fun y bs2 M2 F2 H2 t2 w2 run2 v2 r2 => ?_⟩
  obtain ⟨z, ez, k⟩ := run2.of_lft
  exact hz bs2 M2 F2 H2 v1 v2 x y z Q w2 (r1.tr t2) r2 ez fun v bs' F' H' t w r => k bs' F' H' t w v r
theorem ze_op {op : Operator} {r : R2} {fo : F2} (ho : OpR X (binaryOp op) r) (hz : OpZ X.K r fo) (ha : ZE X W a fa) (hb : ZE X W b fb) : ZE X W (.BinOp a op b pos) (dOp fo fa fb) :=
  ⟨fun pins s σ H Q I h => (pe_op ho ha hb).run pins s σ H Q I (op_lift hz h)⟩
theorem ze_cmp {op : CmpOp} {r : R2} {fo : F2} (ho : OpR X (compareOp op) r) (hz : OpZ X.K r fo) (ha : ZE X W a fa) (hb : ZE X W b fb) (hm : behindInMarks op b = false := by first | exact nomark _ | with_unfolding_all rfl) : ZE X W (.Compare a [op] [b] pos) (dOp fo fa fb) :=
  ⟨fun pins s σ H Q I h => (pe_cmpR ho ha hb hm).run pins s σ H Q I (op_lift hz h)⟩
theorem ze_ix {r : R2} {fo : F2} (hr : IxR X r) (hz : OpZ X.K r fo) (ha : ZE X W a fa) (hb : ZE X W b fb) (hs : PlainIx b := by exact fun _ _ => rfl) : ZE X W (.Subscript a b pos) (dOp fo fa fb) :=
  ⟨fun pins s σ H Q I h => (pe_ix hr ha hb hs).run pins s σ H Q I (op_lift hz h)⟩
theorem OpZ.or {r r' : R2} {fo fo' : F2} (h : OpZ K r fo) (h' : OpZ K r' fo') : OpZ K (fun x y H Q => r x y H Q ∨ r' x y H Q) (fun c d M => match fo c d M with | some z => some z | none => fo' c d M) := by
  intro bs M F H x y c d z Q w r1 r2 ez q
  simp only at ez
  cases e : fo c d M with
  | some z' =>
    rw [e] at ez
    cases ez
    exact .inl (h bs M F H x y c d _ Q w r1 r2 e q)
  | none =>
    rw [e] at ez
    exact .inr (h' bs M F H x y c d z Q w r1 r2 ez q)
theorem OpZ.imp {r : R2} {fo fo' : F2} (h : OpZ K r fo) (hf : ∀ c d M z, fo' c d M = some z → fo c d M = some z) : OpZ K r fo' :=
  fun bs M F H x y c d z Q w r1 r2 ez q => h bs M F H x y c d z Q w r1 r2 (hf _ _ _ _ ez) q

/-- a value that is True or False as a test -/
def asB : D → Mo Bool
  | .bl b => ret b
  | _ => stuck
def dTest (f : DE) : DT := fun e => bnd (f e) asB
theorem test_lift {f : DE} {σ : L2.St} {H : Hp} {Q : Bool → Hp → Prop} (h : liftT K W (dTest f) σ H Q) : liftE K W f σ H fun x H1 => ∃ k, x = .bl k ∧ Q k H1 := by
  obtain ⟨bs, M, F, e, at0, run⟩ := h
  refine ⟨bs, M, F, e, at0, run.bind.imp fun x bs1 M1 F1 H1 t1 w1 run1 v1 r1 => ?_⟩
  cases x with
  | bl k =>
    cases r1
    exact ⟨k, rfl, Run.here w1 run1⟩
  | _ => exact run1.elim
theorem zt_val {e : Expr} {f : DE} (h : ZE X W e f) (he : ∀ whole, isTrue e X.env whole = (do let v ← whole; standAt e.pos; holding [v] (truthy v)) := by intro _; rfl) : ZT X W e (dTest f) :=
  ⟨fun pins s σ H Q I q => (pt_val h he).run pins s σ H Q I (test_lift q)⟩
theorem zt_cmp {op : CmpOp} {r : R2} {fo : F2} (ho : OpR X (compareOp op) r) (hz : OpZ X.K r fo) (ha : ZE X W a fa) (hb : ZE X W b fb) (hm : behindInMarks op b = false := by first | exact nomark _ | with_unfolding_all rfl) : ZT X W (.Compare a [op] [b] pos) (dTest (dOp fo fa fb)) :=
  ⟨fun pins s σ H Q I q => (pt_cmpR ho ha hb hm).run pins s σ H Q I (op_lift hz (test_lift q))⟩
/-- a op b op' c -/
def dChain (fo fo' : F2) (fa fb fc : DE) : DE := fun e => bnd (fa e) fun x => bnd (fb e) fun y => bnd (fun M => lft (fo x y M) M) fun z => bnd (asB z) fun k => if k = true then bnd (fc e) fun w => fun M => lft (fo' y w M) M else ret (.bl false)
theorem chain_lift {r r' : R2} {fo fo' : F2} (hz : OpZ K r fo) (hz' : OpZ K r' fo') {σ : L2.St} {H : Hp} {Q : VK} (h : liftE K W (dChain fo fo' fa fb fc) σ H Q) : tChain r r' (liftE K W fa) (liftE K W fb) (liftE K W fc) σ H Q := by
  obtain ⟨bs, M, F, e, at0, run⟩ := h
  refine ⟨bs, M, F, e, at0, run.bind.imp fun x bs1 M1 F1 H1 t1 w1 run1 v1 r1 => ?_⟩
  refine ⟨bs1, M1, F1, e, at0.tr t1 w1, run1.bind.imp fun y bs2 M2 F2 H2 t2 w2 run2 v2 r2 => ?_⟩
  obtain ⟨z, ez, k⟩ := run2.bind.of_lft
  refine hz bs2 M2 F2 H2 v1 v2 x y z _ w2 (r1.tr t2) r2 ez fun v bs3 F3 H3 t3 w3 r3 => ?_
  have run3 := (k bs3 F3 H3 t3 w3)
  cases z with
  | bl b =>
    cases r3
    refine ⟨b, rfl, ?_⟩
    have run4 := Run.here w3 run3.bind
    cases b with
    | true =>
      rw [if_pos rfl] at run4 ⊢
      refine ⟨bs3, M2, F3, e, (at0.tr t1 w1).tr (t2.trans t3) w3, run4.bind.imp fun u bs4 M4 F4 H4 t4 w4 run5 v4 r4 => ?_⟩
      obtain ⟨z', ez', k'⟩ := run5.of_lft
      exact hz' bs4 M4 F4 H4 v2 v4 y u z' Q w4 (r2.tr (t3.trans t4)) r4 ez' fun v bs' F' H' t w r => k' bs' F' H' t w v r
    | false =>
      rw [if_neg Bool.false_ne_true] at run4 ⊢
      exact Run.here w3 run4 _ (.bl false)
  | _ => exact run3.elim
theorem ze_chain {op op' : CmpOp} {r r' : R2} {fo fo' : F2} (ho : OpR X (compareOp op) r) (ho' : OpR X (compareOp op') r') (hz : OpZ X.K r fo) (hz' : OpZ X.K r' fo') (ha : ZE X W a fa) (hb : ZE X W b fb) (hc : ZE X W c fc)
    (hm : lastMarks [op, op'] [b, c] = false := by with_unfolding_all rfl) : ZE X W (.Compare a [op, op'] [b, c] pos) (dChain fo fo' fa fb fc) :=
  ⟨fun pins s σ H Q I h => (pe_chain ho ho' ha hb hc hm).run pins s σ H Q I (chain_lift hz hz' h)⟩
theorem zt_chain {op op' : CmpOp} {r r' : R2} {fo fo' : F2} (ho : OpR X (compareOp op) r) (ho' : OpR X (compareOp op') r') (hz : OpZ X.K r fo) (hz' : OpZ X.K r' fo') (ha : ZE X W a fa) (hb : ZE X W b fb) (hc : ZE X W c fc)
    (hm : lastMarks [op, op'] [b, c] = false := by with_unfolding_all rfl) : ZT X W (.Compare a [op, op'] [b, c] pos) (dTest (dChain fo fo' fa fb fc)) :=
  ⟨fun pins s σ H Q I h => (pt_chain ho ho' ha hb hc hm).run pins s σ H Q I (chain_lift hz hz' (test_lift h))⟩
end

/-! ### and, or, not, if -/
def dAnd (fa fb : DE) : DE := fun e => bnd (dTest fa e) fun k => if k = true then fb e else ret (.bl false)
def dOr (fa fb : DE) : DE := fun e => bnd (dTest fa e) fun k => if k = true then ret (.bl true) else fb e
def dNot (fa : DE) : DE := fun e => bnd (dTest fa e) fun k => ret (.bl (!k))
def dAndT (fa fb : DT) : DT := fun e => bnd (fa e) fun k => if k = true then fb e else ret false
def dOrT (fa fb : DT) : DT := fun e => bnd (fa e) fun k => if k = true then ret true else fb e
def dNotT (fa : DT) : DT := fun e => bnd (fa e) fun k => ret (!k)
def dIf (ft : DT) (fa fb : DE) : DE := fun e => bnd (ft e) fun k => if k = true then fa e else fb e
section
variable {X : Cx} {W : Wi} {K : PySem.W.Frag} {a b c : Expr} {fa fb fc : DE} {pos : Pos} {rest : List Expr} {ga gb : DT}
theorem ze_one {op} (h : ZE X W a fa) : ZE X W (.BoolOp op [a] pos) fa := pe_one h
theorem ze_and (ha : ZE X W a fa) (hb : ZE X W (.BoolOp .And (b :: rest) pos) fb) : ZE X W (.BoolOp .And (a :: b :: rest) pos) (dAnd fa fb) :=
  ⟨fun pins s σ H Q I h => (pe_and ha hb).run pins s σ H Q I (by
    obtain ⟨bs, M, F, e, at0, run⟩ := h
    have q := test_lift (Q := fun k H1 => if k = true then liftE X.K W fb σ H1 Q else Q (.bl false) H1) (f := fa) (K := X.K) (W := W) (σ := σ) (H := H) ⟨bs, M, F, e, at0, run.bind.imp fun k bs1 M1 F1 H1 t1 w1 run1 => by
      cases k with
      | true =>
        rw [if_pos rfl] at run1
        simp only [qT, if_true]
        exact ⟨bs1, M1, F1, e, at0.tr t1 w1, run1⟩
      | false =>
        rw [if_neg Bool.false_ne_true] at run1
        simp only [qT, Bool.false_eq_true, if_false]
        exact (Run.here w1 run1 _ (.bl false))⟩
    exact q)⟩
theorem ze_or (ha : ZE X W a fa) (hb : ZE X W (.BoolOp .Or (b :: rest) pos) fb) : ZE X W (.BoolOp .Or (a :: b :: rest) pos) (dOr fa fb) :=
  ⟨fun pins s σ H Q I h => (pe_or ha hb).run pins s σ H Q I (by
    obtain ⟨bs, M, F, e, at0, run⟩ := h
    have q := test_lift (Q := fun k H1 => if k = true then Q (.bl true) H1 else liftE X.K W fb σ H1 Q) (f := fa) (K := X.K) (W := W) (σ := σ) (H := H) ⟨bs, M, F, e, at0, run.bind.imp fun k bs1 M1 F1 H1 t1 w1 run1 => by
      cases k with
      | true =>
        rw [if_pos rfl] at run1
        simp only [qT, if_true]
        exact (Run.here w1 run1 _ (.bl true))
      | false =>
        rw [if_neg Bool.false_ne_true] at run1
        simp only [qT, Bool.false_eq_true, if_false]
        exact ⟨bs1, M1, F1, e, at0.tr t1 w1, run1⟩⟩
    exact q)⟩
theorem ze_not (ha : ZE X W a fa) : ZE X W (.UnaryOp .Not a pos) (dNot fa) :=
  ⟨fun pins s σ H Q I h => (pe_not ha).run pins s σ H Q I (by
    obtain ⟨bs, M, F, e, at0, run⟩ := h
    exact test_lift (Q := fun k H1 => Q (.bl (!k)) H1) (f := fa) (K := X.K) (W := W) (σ := σ) (H := H) ⟨bs, M, F, e, at0, run.bind.imp fun k bs1 M1 F1 H1 t1 w1 run1 => Run.here w1 run1 _ (.bl _)⟩)⟩
theorem zw_and1 (ha : ZT X W a ga) : ZW X W (.BoolOp .And [a] pos) ga := pw_and1 ha
theorem zw_or1 (ha : ZT X W a ga) : ZW X W (.BoolOp .Or [a] pos) ga := pw_or1 ha
theorem zw_and (ha : ZT X W a ga) (hb : ZW X W (.BoolOp .And (b :: rest) pos) gb) : ZW X W (.BoolOp .And (a :: b :: rest) pos) (dAndT ga gb) :=
  ⟨fun wh pins s σ H Q I h => (pw_and ha hb).run wh pins s σ H Q I (by
    obtain ⟨bs, M, F, e, at0, run⟩ := h
    refine ⟨bs, M, F, e, at0, run.bind.imp fun k bs1 M1 F1 H1 t1 w1 run1 => ?_⟩
    cases k with
    | true =>
      rw [if_pos rfl] at run1
      simp only [qT, if_true]
      exact ⟨bs1, M1, F1, e, at0.tr t1 w1, run1⟩
    | false =>
      rw [if_neg Bool.false_ne_true] at run1
      simp only [qT, Bool.false_eq_true, if_false]
      exact (Run.here w1 run1))⟩
theorem zw_or (ha : ZT X W a ga) (hb : ZW X W (.BoolOp .Or (b :: rest) pos) gb) : ZW X W (.BoolOp .Or (a :: b :: rest) pos) (dOrT ga gb) :=
  ⟨fun wh pins s σ H Q I h => (pw_or ha hb).run wh pins s σ H Q I (by
    obtain ⟨bs, M, F, e, at0, run⟩ := h
    refine ⟨bs, M, F, e, at0, run.bind.imp fun k bs1 M1 F1 H1 t1 w1 run1 => ?_⟩
    cases k with
    | true =>
      rw [if_pos rfl] at run1
      simp only [qT, if_true]
      exact (Run.here w1 run1)
    | false =>
      rw [if_neg Bool.false_ne_true] at run1
      simp only [qT, Bool.false_eq_true, if_false]
      exact ⟨bs1, M1, F1, e, at0.tr t1 w1, run1⟩)⟩
theorem zt_not (ha : ZT X W a ga) : ZT X W (.UnaryOp .Not a pos) (dNotT ga) :=
  ⟨fun pins s σ H Q I h => (pt_not ha).run pins s σ H Q I (by
    obtain ⟨bs, M, F, e, at0, run⟩ := h
    refine ⟨bs, M, F, e, at0, run.bind.imp fun k bs1 M1 F1 H1 t1 w1 run1 => ?_⟩
    have z : qT Q (!k) bs1 M1 F1 H1 := Run.here w1 run1
    exact z)⟩
theorem ze_if (hc : ZT X W c ga) (ha : ZE X W a fa) (hb : ZE X W b fb) : ZE X W (.IfExp c a b pos) (dIf ga fa fb) :=
  ⟨fun pins s σ H Q I h => (pe_ifExp hc ha hb).run pins s σ H Q I (by
    obtain ⟨bs, M, F, e, at0, run⟩ := h
    refine ⟨bs, M, F, e, at0, run.bind.imp fun k bs1 M1 F1 H1 t1 w1 run1 => ?_⟩
    cases k with
    | true =>
      rw [if_pos rfl] at run1
      simp only [qT, if_true]
      exact ⟨bs1, M1, F1, e, at0.tr t1 w1, run1⟩
    | false =>
      rw [if_neg Bool.false_ne_true] at run1
      simp only [qT, Bool.false_eq_true, if_false]
      exact ⟨bs1, M1, F1, e, at0.tr t1 w1, run1⟩)⟩
end

/-! ### argument lists, displays, calls -/
def dNil : DA := fun _ => ret []
def dCons (f : DE) (g : DA) : DA := fun e => bnd (f e) fun x => bnd (g e) fun xs => ret (x :: xs)
def dTup (g : DA) : DE := fun e => bnd (g e) fun xs => if xs.length ≤ 100000 then ret (.tup xs) else stuck
def dLst (g : DA) : DE := fun e => bnd (g e) fun xs => if xs.length ≤ 100000 then ret (.lst xs) else stuck
/-- a new list that will be changed -/
def dObj (g : DA) : DE := fun e => bnd (g e) fun xs => if xs.length ≤ 100000 then (fun M => some (.ok (.obj M.length), M ++ [xs])) else stuck
abbrev F1 := List D → MS → Option D
def dB (fo : F1) (g : DA) : DE := fun e => bnd (g e) fun xs => fun M => lft (fo xs M) M
theorem small_ok {n : Nat} (h : n ≤ 100000) : n ≤ sizeLine := by rw [sizeLine_eq]; omega
def CallZ (K : PySem.W.Frag) (r : List V → Hp → VK → Prop) (fo : F1) : Prop :=
  ∀ (bs : List Addr) (M : MS) (F H : Hp) (xs : List V) (ds : List D) (z : D) (Q : VK), Wd K bs M F H → Reps K bs F xs ds → fo ds M = some z →
    (∀ v bs' F' H', Tr bs F H bs' F' H' → Wd K bs' M F' H' → Rep K bs' F' v z → Q v H') → r xs H Q
section
variable {X : Cx} {W : Wi} {K : PySem.W.Frag} {e : Expr} {es : List Expr} {f : DE} {g : DA} {pos p : Pos}
theorem za_nil : ZA X W [] dNil := ⟨fun pos pins s σ H Q I h => pa_nil.run pos pins s σ H Q I (by
  obtain ⟨bs, M, F, e, at0, run⟩ := h
  exact Run.here at0.1 run [] .nil)⟩
theorem za_cons (hf : ZE X W e f) (hg : ZA X W es g) (hs : starEach (e :: es) X.env = (false, eval e X.env) :: starEach es X.env := by rfl) : ZA X W (e :: es) (dCons f g) := ⟨fun pos pins s σ H Q I h => (pa_cons hf hg hs).run pos pins s σ H Q I (by
  obtain ⟨bs, M, F, e, at0, run⟩ := h
  refine ⟨bs, M, F, e, at0, run.bind.imp fun x bs1 M1 F1 H1 t1 w1 run1 v1 r1 => ?_⟩
  refine ⟨bs1, M1, F1, e, at0.tr t1 w1, run1.bind.imp fun xs bs2 M2 F2 H2 t2 w2 run2 vs r2 => ?_⟩
  exact Run.here w2 run2 _ (.cons (r1.tr t2) r2))⟩
theorem ze_tup {x1} (hg : ZA X W es g) : ZE X W (.Tuple es x1 pos) (dTup g) := ⟨fun pins s σ H Q I h => (pe_tup hg).run pins s σ H Q I (by
  obtain ⟨bs, M, F, e, at0, run⟩ := h
  refine ⟨bs, M, F, e, at0, run.bind.imp fun xs bs1 M1 F1 H1 t1 w1 run1 vs r1 => ?_⟩
  by_cases hl : xs.length ≤ 100000
  · rw [if_pos hl] at run1
    refine ⟨by rw [r1.length]; exact small_ok hl, fun q hq => ?_⟩
    obtain ⟨w2, t2⟩ := w1.laid (.tup vs) hq
    exact run1.ok _ _ _ t2 w2 _ (.tup upd_same (r1.tr t2))
  · rw [if_neg hl] at run1
    exact run1.elim)⟩
theorem ze_lst (hg : ZA X W es g) : ZE X W (.List es pos) (dLst g) := ⟨fun pins s σ H Q I h => (pe_lst hg).run pins s σ H Q I (by
  obtain ⟨bs, M, F, e, at0, run⟩ := h
  refine ⟨bs, M, F, e, at0, run.bind.imp fun xs bs1 M1 F1 H1 t1 w1 run1 vs r1 => ?_⟩
  by_cases hl : xs.length ≤ 100000
  · rw [if_pos hl] at run1
    refine ⟨by rw [r1.length]; exact small_ok hl, fun q hq => ?_⟩
    obtain ⟨w2, t2⟩ := w1.laid (.lst vs) hq
    exact run1.ok _ _ _ t2 w2 _ (.lst upd_same (r1.tr t2))
  · rw [if_neg hl] at run1
    exact run1.elim)⟩
theorem ze_obj (hg : ZA X W es g) : ZE X W (.List es pos) (dObj g) := ⟨fun pins s σ H Q I h => (pe_lst hg).run pins s σ H Q I (by
  obtain ⟨bs, M, F, e, at0, run⟩ := h
  refine ⟨bs, M, F, e, at0, run.bind.imp fun xs bs1 M1 F1 H1 t1 w1 run1 vs r1 => ?_⟩
  by_cases hl : xs.length ≤ 100000
  · rw [if_pos hl] at run1
    refine ⟨by rw [r1.length]; exact small_ok hl, fun q hq => ?_⟩
    obtain ⟨w2, t2⟩ := w1.newobj r1 hq
    refine run1.ok _ _ _ t2 w2 _ (.obj ?_)
    rw [List.getElem?_append_right (by rw [w1.len]; exact Nat.le_refl _), ← w1.len, Nat.sub_self]
    rfl
  · rw [if_neg hl] at run1
    exact run1.elim)⟩
theorem cb_lift {r : List V → Hp → VK → Prop} {fo : F1} (hz : CallZ K r fo) {σ : L2.St} {H : Hp} {Q : VK} (h : liftE K W (dB fo g) σ H Q) : tCB r (liftA K W g) σ H Q := by
  obtain ⟨bs, M, F, e, at0, run⟩ := h
  refine ⟨bs, M, F, e, at0, run.bind.imp fun xs bs1 M1 F1 H1 t1 w1 run1 vs r1 => ?_⟩
  obtain ⟨z, ez, k⟩ := run1.of_lft
  exact hz bs1 M1 F1 H1 vs xs z Q w1 r1 ez fun v bs' F' H' t w r => k bs' F' H' t w v r
theorem ze_callB {id : String} {x : Str} {r : List V → Hp → VK → Prop} {fo : F1} (hc : CallR X (.builtin id) r) (hz : CallZ X.K r fo) (hg : Gl X x) (hm : X.mg x = none) (hv : bootBuiltins x = some (.builtin id)) (ha : ZA X W (e :: es) g) (hn : x ≠ "__name__" := by decide) (hdb : (x == ("__debug__" : Str)) = false := by decide)
    (he : starEach (e :: es) X.env = (false, eval e X.env) :: starEach es X.env := by rfl) (hpl : (backTo pos (starEach es X.env)).any (·.1) = false := by rfl) : ZE X W (.Call (.Name x p) (e :: es) [] pos) (dB fo g) :=
  ⟨fun pins s σ H Q I h => (pe_callB hc hg hm hv ha hn hdb he hpl).run pins s σ H Q I (cb_lift hz h)⟩
theorem ze_callTy {T : String} {x : Str} {r : List V → Hp → VK → Prop} {fo : F1} (hc : CallR X (.type T) r) (hz : CallZ X.K r fo) (hg : Gl X x) (hm : X.mg x = none) (hv : bootBuiltins x = some (.type T)) (ha : ZA X W (e :: es) g) (hn : x ≠ "__name__" := by decide) (hdb : (x == ("__debug__" : Str)) = false := by decide)
    (he : starEach (e :: es) X.env = (false, eval e X.env) :: starEach es X.env := by rfl) (hpl : (backTo pos (starEach es X.env)).any (·.1) = false := by rfl) : ZE X W (.Call (.Name x p) (e :: es) [] pos) (dB fo g) :=
  ⟨fun pins s σ H Q I h => (pe_callTy hc hg hm hv ha hn hdb he hpl).run pins s σ H Q I (cb_lift hz h)⟩
end

/-! ### what a def promises -/
abbrev DF := List D → Mo D
/-- what a def's error means to its caller -/
abbrev WishF := XK → Str → Hp → Prop
def wf0 : WishF := fun _ _ _ => False
def wfX (mg : Str → Option Value) : WishF := fun E c H => ∀ u, mg c = some u → E u none H
def spZ (K : PySem.W.Frag) (wf : WishF) (n : Nat) (df : DF) : Sp := fun vs H Q E => ∃ bs M F ds, Wd K bs M F H ∧ Reps K bs F vs ds ∧ ds.length = n ∧ Run K (fun c _ H' => wf E c H') bs F H [] (df ds M) (qE K Q)
/-- the number of arguments -/
def LenA (g : DA) (n : Nat) : Prop := ∀ e M ds M', g e M = some (.ok ds, M') → ds.length = n
theorem lenA0 : LenA dNil 0 := fun e M ds M' h => by
  cases h
  rfl
theorem lenA1 {f : DE} {g : DA} {n : Nat} (h : LenA g n) : LenA (dCons f g) (n + 1) := fun e M ds M' q => by
  unfold dCons bnd at q
  cases e1 : f e M with
  | none =>
    rw [e1] at q
    cases q
  | some p =>
    obtain ⟨r, M1⟩ := p
    rw [e1] at q
    cases r with
    | err c => cases q
    | ok x =>
      simp only at q
      cases e2 : g e M1 with
      | none =>
        rw [e2] at q
        cases q
      | some p2 =>
        obtain ⟨r2, M2⟩ := p2
        rw [e2] at q
        cases r2 with
        | err c => cases q
        | ok xs =>
          cases q
          exact congrArg (· + 1) (h _ _ _ _ e2)
def dCall (df : DF) (g : DA) : DE := fun e => bnd (g e) df
section
variable {X : Cx} {W : Wi} {K : PySem.W.Frag} {CX : CXT} {k : Nat} {f : Addr} {fd : FuncData} {ps : List Str} {df : DF} {x : Str} {p pos : Pos} {e : Expr} {es : List Expr} {g : DA}
theorem Run.wish {α : Type} {W' : Wi} {bs : List Addr} {F H : Hp} {σ σ' : L2.St} {r : Option (Rs α × MS)} {q : QT α} (h : Run K W bs F H σ r q) (hw : ∀ c H', W c σ H' → W' c σ' H') : Run K W' bs F H σ' r q := by
  match r, h with
  | some (.ok a, M'), h => exact h
  | some (.err c, M'), h => exact fun bs' F' H' t w => hw c H' (h bs' F' H' t w)
/-- a call of a def that lets nothing out -/
theorem ze_call {n : Nat} (G : FnOk X.prog X.w X.K X.mg X.base CX0 k f fd ps (spZ X.K wf0 n df)) (hr : Room k X.A) (hg : Gl X x) (hm : X.mg x = some (.ref f)) (hk : PySem.W.keepIn X.K (.ref f) = true) (hb : Binds X.K fd ps [])
    (ha : ZA X W0 (e :: es) g) (hn : LenA g n) (hdb : (x == ("__debug__" : Str)) = false := by decide) (he : starEach (e :: es) X.env = (false, eval e X.env) :: starEach es X.env := by rfl) (hpl : (backTo pos (starEach es X.env)).any (·.1) = false := by rfl) :
    ZE X W0 (.Call (.Name x p) (e :: es) [] pos) (dCall df g) :=
  ⟨fun pins s σ H Q I h => (pe_call (E := E0) G hr hg hm hk hb .nil pass0 ha hdb he hpl).run pins s σ H Q I (by
    obtain ⟨bs, M, F, ev, at0, run⟩ := h
    have rb := run.bind
    refine ⟨bs, M, F, ev, at0, ?_⟩
    match e1 : g ev M, rb with
    | some (.ok ds, M1), rb =>
      intro bs1 F1 H1 t1 w1 vs r1
      rw [List.append_nil]
      exact ⟨bs1, M1, F1, ds, w1, r1, hn _ _ _ _ e1, (rb bs1 F1 H1 t1 w1).wish fun c H' z => z.elim⟩
    | some (.err c, M1), rb => exact rb)⟩
end
end Z

/-! Z3: operators, comparisons, subscripts, slices, built-ins by values -/
namespace Z
open PySem PySem.Spec PyProof.Rows L2
variable [Tbs]

/-! ### equality of data -/
def okN : Nat → D → Bool
  | _, .non => true
  | _, .bl _ => true
  | _, .int _ => true
  | _, .str x => PyData.strOk x
  | n + 1, .tup xs => xs.all (okN n)
  | n + 1, .lst xs => xs.all (okN n)
  | _, _ => false
def eqL (f : D → D → Bool) : List D → List D → Bool
  | [], [] => true
  | x :: xs, y :: ys => f x y && eqL f xs ys
  | _, _ => false
def eqN : Nat → D → D → Bool
  | _, .non, .non => true
  | _, .bl a, .bl b => a == b
  | _, .bl a, .int j => (if a then 1 else 0) == j
  | _, .int i, .bl b => i == (if b then 1 else 0)
  | _, .int i, .int j => i == j
  | _, .str x, .str y => x == y
  | n + 1, .lst xs, .lst ys => eqL (eqN n) xs ys
  | n + 1, .tup xs, .tup ys => eqL (eqN n) xs ys
  | _, _, _ => false
mutual
def toP : D → PyData
  | .non => .none
  | .bl b => .bool b
  | .int i => .int i
  | .str x => .str x
  | .tup xs => .tuple (toPs xs)
  | .lst xs => .list (toPs xs)
  | .dct _ _ => .none
  | .scr _ => .none
  | .obj _ => .none
  | .con _ => .none
def toPs : List D → List PyData
  | [] => []
  | x :: xs => toP x :: toPs xs
end
theorem depthAll_le {n : Nat} : ∀ {xs : List D}, (∀ x ∈ xs, (toP x).depth ≤ n) → PyData.depthAll (toPs xs) ≤ n
  | [], _ => by simp [toPs, PyData.depthAll]
  | x :: xs, h => by
    have h1 := h x (by simp)
    have h2 := depthAll_le (xs := xs) fun y hy => h y (by simp [hy])
    simp only [toPs, PyData.depthAll]
    omega
theorem canLayAll_of : ∀ {xs : List D}, (∀ x ∈ xs, (toP x).canLay0 = true) → PyData.canLayAll0 (toPs xs) = true
  | [], _ => by simp [toPs, PyData.canLayAll0]
  | x :: xs, h => by
    simp only [toPs, PyData.canLayAll0, h x (by simp), canLayAll_of (xs := xs) fun y hy => h y (by simp [hy]), Bool.and_self]
theorem okN_lay : ∀ (n : Nat) (d : D), okN n d = true → (toP d).canLay0 = true ∧ (toP d).depth ≤ n
  | n, .non, _ => by simp [toP, PyData.canLay0, PyData.depth]
  | n, .bl b, _ => by simp [toP, PyData.canLay0, PyData.depth]
  | n, .int i, _ => by simp [toP, PyData.canLay0, PyData.depth]
  | n, .str x, h => by
    have h' : PyData.strOk x = true := by
      cases n <;> simpa [okN] using h
    simp [toP, PyData.canLay0, PyData.depth, h']
  | 0, .tup xs, h => by simp [okN] at h
  | 0, .lst xs, h => by simp [okN] at h
  | n + 1, .tup xs, h => by
    have h' : ∀ x ∈ xs, okN n x = true := by simpa [okN, List.all_eq_true] using h
    have q : ∀ x ∈ xs, (toP x).canLay0 = true ∧ (toP x).depth ≤ n := fun x hx => okN_lay n x (h' x hx)
    have c := canLayAll_of fun x hx => (q x hx).1
    have d := depthAll_le fun x hx => (q x hx).2
    simp only [toP, PyData.canLay0, PyData.depth]
    exact ⟨c, by omega⟩
  | n + 1, .lst xs, h => by
    have h' : ∀ x ∈ xs, okN n x = true := by simpa [okN, List.all_eq_true] using h
    have q : ∀ x ∈ xs, (toP x).canLay0 = true ∧ (toP x).depth ≤ n := fun x hx => okN_lay n x (h' x hx)
    have c := canLayAll_of fun x hx => (q x hx).1
    have d := depthAll_le fun x hx => (q x hx).2
    simp only [toP, PyData.canLay0, PyData.depth]
    exact ⟨c, by omega⟩
  | n, .dct _ _, h => by cases n <;> simp [okN] at h
  | n, .scr _, h => by cases n <;> simp [okN] at h
  | n, .obj _, h => by cases n <;> simp [okN] at h
  | n, .con _, h => by cases n <;> simp [okN] at h
theorem eqL_eqv {n : Nat} (ih : ∀ a b, okN n a = true → okN n b = true → PyData.eqv (toP a) (toP b) = eqN n a b) : ∀ (xs ys : List D), (∀ x ∈ xs, okN n x = true) → (∀ y ∈ ys, okN n y = true) → PyData.eqvAll (toPs xs) (toPs ys) = eqL (eqN n) xs ys
  | [], [], _, _ => by simp [toPs, PyData.eqvAll, eqL]
  | [], y :: ys, _, _ => by simp [toPs, PyData.eqvAll, eqL]
  | x :: xs, [], _, _ => by simp [toPs, PyData.eqvAll, eqL]
  | x :: xs, y :: ys, h1, h2 => by
    simp only [toPs, PyData.eqvAll, eqL, ih x y (h1 x (by simp)) (h2 y (by simp)), eqL_eqv ih xs ys (fun z hz => h1 z (by simp [hz])) fun z hz => h2 z (by simp [hz])]
theorem okN_all {n : Nat} {xs : List D} (h : okN (n + 1) (.tup xs) = true ∨ okN (n + 1) (.lst xs) = true) : ∀ x ∈ xs, okN n x = true := by
  rcases h with h | h <;> simpa [okN, List.all_eq_true] using h
theorem okN_bad {n : Nat} : (∀ ks ds, okN n (.dct ks ds) = false) ∧ (∀ ns, okN n (.scr ns) = false) ∧ (∀ i, okN n (.obj i) = false) ∧ (∀ i, okN n (.con i) = false) := by
  cases n <;> exact ⟨fun _ _ => by simp [okN], fun _ => by simp [okN], fun _ => by simp [okN], fun _ => by simp [okN]⟩
theorem eqN_eqv : ∀ (n : Nat) (a b : D), okN n a = true → okN n b = true → PyData.eqv (toP a) (toP b) = eqN n a b := by
  intro n
  induction n with
  | zero =>
    intro a b h1 h2
    cases a <;> cases b <;> first | (simp [okN] at h1; done) | (simp [okN] at h2; done) | simp [toP, PyData.eqv, eqN]
  | succ n ih =>
    intro a b h1 h2
    cases a <;> cases b <;> first
      | (simp [okN] at h1; done)
      | (simp [okN] at h2; done)
      | (simp only [toP, PyData.eqv, eqN]; exact eqL_eqv ih _ _ (okN_all (.inl h1)) (okN_all (.inl h2)))
      | (simp only [toP, PyData.eqv, eqN]; exact eqL_eqv ih _ _ (okN_all (.inr h1)) (okN_all (.inr h2)))
      | simp [toP, PyData.eqv, eqN]
section
variable {K : PySem.W.Frag} {bs : List Addr} {F H : Hp}
theorem Rep.sub_tup {a : Addr} {xs : List V} (s : Same F H) (h : F a = some (.tup xs)) : SqT K H a xs := .inl (.inl (s _ _ h))
mutual
theorem Rep.dp {n : Nat} (s : Same F H) : ∀ {v : V} {d : D}, Rep K bs F v d → okN n d = true → Dp K H v (toP d)
  | _, _, .non, _ => by simp only [toP]; exact .non
  | _, _, .bl b, _ => by simp only [toP]; exact .bl b
  | _, _, .int i, _ => by simp only [toP]; exact .int i
  | _, _, .str x, _ => by simp only [toP]; exact .str x
  | _, _, .tup h r, k => by
    cases n with
    | zero => simp [okN] at k
    | succ n =>
      simp only [toP]
      exact .tup (.inl (.inl (s _ _ h))) (Reps.dp s r (okN_all (.inl k)))
  | _, _, .lst h r, k => by
    cases n with
    | zero => simp [okN] at k
    | succ n =>
      simp only [toP]
      exact .lst (.inl (.inl (s _ _ h))) (Reps.dp s r (okN_all (.inr k)))
  | _, _, .dct _ _ _, k => by rw [okN_bad.1] at k; cases k
  | _, _, .scr _, k => by rw [okN_bad.2.1] at k; cases k
  | _, _, .obj _, k => by rw [okN_bad.2.2.1] at k; cases k
  | _, _, .con _ _ _, k => by rw [okN_bad.2.2.2] at k; cases k
theorem Reps.dp {n : Nat} (s : Same F H) : ∀ {vs : List V} {ds : List D}, Reps K bs F vs ds → (∀ x ∈ ds, okN n x = true) → DpAll K H vs (toPs ds)
  | _, _, .nil, _ => by simp only [toPs]; exact .nil
  | _, _, .cons r t, k => by
    simp only [toPs]
    exact .cons (Rep.dp s r (k _ (by simp))) (Reps.dp s t fun x hx => k x (by simp [hx]))
end
end
def eqD : F2 := fun c d _ => if (okN 8 c && okN 8 d) = true then some (.bl (eqN 8 c d)) else none
def neD : F2 := fun c d _ => if (okN 8 c && okN 8 d) = true then some (.bl (!eqN 8 c d)) else none
section
variable {K : PySem.W.Frag} {X : Cx}
theorem shaped_of {d : D} (h : okN 8 d = true) : SeqAt.shaped (toP d) = true := by
  obtain ⟨h1, h2⟩ := okN_lay 8 d h
  unfold SeqAt.shaped
  rw [h1, Bool.true_and]
  exact decide_eq_true (by omega)
theorem z_eqD : OpZ K (rEqD K) eqD := by
  intro bs M F H x y c d z Q w r1 r2 ez q
  unfold eqD at ez
  split at ez
  · rename_i h
    obtain ⟨h1, h2⟩ := Bool.and_eq_true_iff.mp h
    cases ez
    exact ⟨toP c, toP d, r1.dp w.sub h1, r2.dp w.sub h2, shaped_of h1, shaped_of h2, by rw [eqN_eqv 8 c d h1 h2]; exact q _ bs F H (Tr.refl _ _ _) w (.bl _)⟩
  · cases ez
theorem z_neD : OpZ K (rNeD K) neD := by
  intro bs M F H x y c d z Q w r1 r2 ez q
  unfold neD at ez
  split at ez
  · rename_i h
    obtain ⟨h1, h2⟩ := Bool.and_eq_true_iff.mp h
    cases ez
    exact ⟨toP c, toP d, r1.dp w.sub h1, r2.dp w.sub h2, shaped_of h1, shaped_of h2, by rw [eqN_eqv 8 c d h1 h2]; exact q _ bs F H (Tr.refl _ _ _) w (.bl _)⟩
  · cases ez
end

/-! ### whole numbers -/
def i2 (C : Int → Int → Bool) (g : Int → Int → D) : F2 := fun c d _ => match c, d with
  | .int i, .int j => if C i j = true then some (g i j) else none
  | _, _ => none
section
variable {K : PySem.W.Frag} {X : Cx}
theorem z_i2 {C : Int → Int → Prop} {Cb : Int → Int → Bool} {g : Int → Int → V} {g' : Int → Int → D} (hc : ∀ i j, Cb i j = true → C i j) (hg : ∀ i j bs F, Rep K bs F (g i j) (g' i j)) : OpZ K (rI C g) (i2 Cb g') := by
  intro bs M F H x y c d z Q w r1 r2 ez q
  unfold i2 at ez
  split at ez
  · rename_i i j
    split at ez
    · rename_i hcb
      cases ez
      cases r1
      cases r2
      exact ⟨i, j, rfl, rfl, hc _ _ hcb, q _ bs F H (Tr.refl _ _ _) w (hg _ _ _ _)⟩
    · cases ez
  · cases ez
theorem z_i20 {g : Int → Int → V} {g' : Int → Int → D} (hg : ∀ i j bs F, Rep K bs F (g i j) (g' i j)) : OpZ K (rI0 g) (i2 (fun _ _ => true) g') := by
  intro bs M F H x y c d z Q w r1 r2 ez q
  unfold i2 at ez
  split at ez
  · rename_i i j
    simp only [if_true] at ez
    cases ez
    cases r1
    cases r2
    exact ⟨i, j, rfl, rfl, q _ bs F H (Tr.refl _ _ _) w (hg _ _ _ _)⟩
  · cases ez
abbrev subD : F2 := i2 (fun _ _ => true) fun i j => .int (i - j)
abbrev ltD : F2 := i2 (fun _ _ => true) fun i j => .bl (decide (i < j))
abbrev leD : F2 := i2 (fun _ _ => true) fun i j => .bl (decide (i ≤ j))
abbrev gtD : F2 := i2 (fun _ _ => true) fun i j => .bl (decide (j < i))
abbrev geD : F2 := i2 (fun _ _ => true) fun i j => .bl (decide (j ≤ i))
abbrev divD : F2 := i2 (fun _ j => decide (0 < j) && decide (j < 1073741824)) fun i j => .int (i / j)
abbrev modD : F2 := i2 (fun _ j => decide (0 < j)) fun i j => .int (i % j)
abbrev powD : F2 := i2 (fun i j => decide (0 ≤ j) && decide (j ≤ 1000000) && decide (i.natAbs < 18446744073709551616)) fun i j => .int (i ^ j.toNat)
theorem z_sub : OpZ K (rI0 fun i j => .int (i - j)) subD := z_i20 fun _ _ _ _ => .int _
theorem z_lt : OpZ K (rI0 fun i j => .bl (decide (i < j))) ltD := z_i20 fun _ _ _ _ => .bl _
theorem z_le : OpZ K (rI0 fun i j => .bl (decide (i ≤ j))) leD := z_i20 fun _ _ _ _ => .bl _
theorem z_gt : OpZ K (rI0 fun i j => .bl (decide (j < i))) gtD := z_i20 fun _ _ _ _ => .bl _
theorem z_ge : OpZ K (rI0 fun i j => .bl (decide (j ≤ i))) geD := z_i20 fun _ _ _ _ => .bl _
theorem z_div : OpZ K (rI CDiv fun i j => .int (i / j)) divD := z_i2 (fun i j h => by
  simp only [Bool.and_eq_true, decide_eq_true_eq] at h
  exact h) fun _ _ _ _ => .int _
theorem z_mod : OpZ K (rI (fun _ j => 0 < j) fun i j => .int (i % j)) modD := z_i2 (fun i j h => of_decide_eq_true h) fun _ _ _ _ => .int _
theorem z_pow : OpZ K (rI CPow fun i j => .int (i ^ j.toNat)) powD := z_i2 (fun i j h => by
  simp only [Bool.and_eq_true, decide_eq_true_eq] at h
  exact ⟨h.1.1, h.1.2, by have := h.2; omega⟩) fun _ _ _ _ => .int _

/-! ### + and * -/
def catT : F2 := fun c d _ => match c, d with
  | .tup xs, .tup ys => if xs.length + ys.length ≤ 100000 then some (.tup (xs ++ ys)) else none
  | _, _ => none
def catL : F2 := fun c d _ => match c, d with
  | .lst xs, .lst ys => if xs.length + ys.length ≤ 100000 then some (.lst (xs ++ ys)) else none
  | _, _ => none
theorem z_catT : OpZ K (rCatA K) catT := by
  intro bs M F H x y c d z Q w r1 r2 ez q
  unfold catT at ez
  split at ez
  · rename_i xs ys
    split at ez
    · rename_i hl
      cases ez
      cases r1 with
      | @tup a vs _ h1 s1 =>
        cases r2 with
        | @tup b us _ h2 s2 =>
          refine ⟨a, b, vs, us, rfl, rfl, .inl (.inl (w.sub _ _ h1)), .inl (.inl (w.sub _ _ h2)), by rw [s1.length, s2.length]; exact small_ok hl, fun e => ?_, fun _ e => ?_, fun _ _ p hp => ?_⟩
          · subst e
            cases s1
            exact q _ bs F H (Tr.refl _ _ _) w (.tup h2 s2)
          · subst e
            cases s2
            rw [List.append_nil] at q
            exact q _ bs F H (Tr.refl _ _ _) w (.tup h1 s1)
          · obtain ⟨w2, t2⟩ := w.laid (.tup (vs ++ us)) hp
            exact q _ _ _ _ t2 w2 (.tup upd_same ((s1.append s2).tr t2))
    · cases ez
  · cases ez
theorem z_catL : OpZ K rCat catL := by
  intro bs M F H x y c d z Q w r1 r2 ez q
  unfold catL at ez
  split at ez
  · rename_i xs ys
    split at ez
    · rename_i hl
      cases ez
      cases r1 with
      | @lst a vs _ h1 s1 =>
        cases r2 with
        | @lst b us _ h2 s2 =>
          refine ⟨a, b, vs, us, rfl, rfl, w.sub _ _ h1, w.sub _ _ h2, by rw [s1.length, s2.length]; exact small_ok hl, fun p hp => ?_⟩
          obtain ⟨w2, t2⟩ := w.laid (.lst (vs ++ us)) hp
          exact q _ _ _ _ t2 w2 (.lst upd_same ((s1.append s2).tr t2))
    · cases ez
  · cases ez
def addD : F2 := fun c d _ => match c, d with
  | .int i, .int j => some (.int (i + j))
  | .tup xs, .tup ys => if xs.length + ys.length ≤ 100000 then some (.tup (xs ++ ys)) else none
  | .lst xs, .lst ys => if xs.length + ys.length ≤ 100000 then some (.lst (xs ++ ys)) else none
  | _, _ => none
theorem z_add : OpZ K (fun x y H Q => rI0 (fun i j => .int (i + j)) x y H Q ∨ (rCatA K x y H Q ∨ rCat x y H Q)) addD :=
  ((z_i20 (g' := fun i j => D.int (i + j)) fun _ _ _ _ => .int _).or (z_catT.or z_catL)).imp fun c d M z h => by
    unfold addD at h
    unfold i2 catT catL
    split at h
    · simpa using h
    · simp only
      rw [h]
    · simp only
      exact h
    · cases h
theorem op_addZ : OpR X (binaryOp .Add) (fun x y H Q => rI0 (fun i j => .int (i + j)) x y H Q ∨ (rCatA X.K x y H Q ∨ rCat x y H Q)) := op_add.or (op_catA.or op_cat)
def rep (k : Nat) (xs : List D) : List D := (List.replicate k xs).flatten
theorem Reps.rep {bs : List Addr} {F : Hp} {vs : List V} {ds : List D} (r : Reps K bs F vs ds) : ∀ k : Nat, Reps K bs F (List.replicate k vs).flatten (Z.rep k ds)
  | 0 => .nil
  | k + 1 => by
    unfold Z.rep
    rw [List.replicate_succ, List.replicate_succ, List.flatten_cons, List.flatten_cons]
    exact r.append (Reps.rep r k)
def mulI : F2 := i2 (fun i j => decide (-18446744073709551616 < i) && decide (i < 18446744073709551616) || decide (-18446744073709551616 < j) && decide (j < 18446744073709551616)) fun i j => .int (i * j)
def mulL : F2 := fun c d _ => match c, d with
  | .lst xs, .int k => if (decide (-1000 ≤ k) && decide (k ≤ 1000) && decide (xs.length ≤ 1000)) = true then some (.lst (rep k.toNat xs)) else none
  | _, _ => none
theorem z_mulI : OpZ K (rI CMul fun i j => .int (i * j)) mulI := z_i2 (fun i j h => by
  simp only [Bool.and_eq_true, Bool.or_eq_true, decide_eq_true_eq] at h
  unfold CMul
  omega) fun _ _ _ _ => .int _
theorem z_mulL : OpZ K rRep mulL := by
  intro bs M F H x y c d z Q w r1 r2 ez q
  unfold mulL at ez
  split at ez
  · rename_i xs k
    split at ez
    · rename_i hl
      simp only [Bool.and_eq_true, decide_eq_true_eq] at hl
      cases ez
      cases r1 with
      | @lst a vs _ h1 s1 =>
        cases r2
        refine ⟨a, k, vs, rfl, rfl, w.sub _ _ h1, by omega, by omega, ?_, fun p hp => ?_⟩
        · rw [s1.length, sizeLine_eq]
          have : xs.length * k.toNat ≤ 1000 * 1000 := Nat.mul_le_mul hl.2 (by omega)
          omega
        · obtain ⟨w2, t2⟩ := w.laid (.lst (List.replicate k.toNat vs).flatten) hp
          exact q _ _ _ _ t2 w2 (.lst upd_same ((s1.rep _).tr t2))
    · cases ez
  · cases ez
def mulD : F2 := fun c d M => match mulI c d M with
  | some z => some z
  | none => mulL c d M
theorem z_mul : OpZ K (fun x y H Q => rI CMul (fun i j => .int (i * j)) x y H Q ∨ rRep x y H Q) mulD := z_mulI.or z_mulL
theorem op_mulZ : OpR X (binaryOp .Mult) (fun x y H Q => rI CMul (fun i j => .int (i * j)) x y H Q ∨ rRep x y H Q) := op_mul.or op_rep
end

/-! ### is, in, subscripts -/
def isNone : D → Bool
  | .non => true
  | _ => false
def isD : F2 := fun c d _ => match d with
  | .non => some (.bl (isNone c))
  | _ => none
def isnD : F2 := fun c d _ => match d with
  | .non => some (.bl (!isNone c))
  | _ => none
def isbD : F2 := fun c d _ => match c, d with
  | .bl a, .bl b => some (.bl (a == b))
  | _, _ => none
def isnbD : F2 := fun c d _ => match c, d with
  | .bl a, .bl b => some (.bl (!(a == b)))
  | _, _ => none
def flatD : D → Bool
  | .non => true
  | .bl _ => true
  | .int _ => true
  | .str _ => true
  | _ => false
def seqD : D → Option (List D)
  | .lst xs => some xs
  | .tup xs => some xs
  | _ => none
def inL (c : D) (xs : List D) : Bool := xs.any fun y => eqN 1 y c
def inD (neg : Bool) : F2 := fun c d _ => match seqD d with
  | some xs => if (flatD c && xs.all flatD) = true then some (.bl (if neg then !inL c xs else inL c xs)) else none
  | none => none
def atD (xs : List D) (i : Int) : Option D := atI xs i
def ixD : F2 := fun c d M => match c, d with
  | .lst xs, .int i => atI xs i
  | .tup xs, .int i => atI xs i
  | .obj k, .int i => match M[k]? with
    | some xs => atI xs i
    | none => none
  | _, _ => none
section
variable {K : PySem.W.Frag} {X : Cx} {bs : List Addr} {F H : Hp}
theorem Rep.isNone {v : V} {d : D} (r : Rep K bs F v d) : decide (v = V.non) = Z.isNone d := by
  cases r <;> first | rfl | exact decide_eq_false (fun z => by cases z)
theorem z_isN : OpZ K (fun x y H Q => y = .non ∧ Q (.bl (decide (x = .non))) H) isD := by
  intro bs M F H x y c d z Q w r1 r2 ez q
  unfold isD at ez
  split at ez
  · cases ez
    cases r2
    exact ⟨rfl, by rw [r1.isNone]; exact q _ bs F H (Tr.refl _ _ _) w (.bl _)⟩
  · cases ez
theorem z_notN : OpZ K (fun x y H Q => y = .non ∧ Q (.bl (!decide (x = .non))) H) isnD := by
  intro bs M F H x y c d z Q w r1 r2 ez q
  unfold isnD at ez
  split at ez
  · cases ez
    cases r2
    exact ⟨rfl, by rw [r1.isNone]; exact q _ bs F H (Tr.refl _ _ _) w (.bl _)⟩
  · cases ez
theorem z_isB : OpZ K rIsB isbD := by
  intro bs M F H x y c d z Q w r1 r2 ez q
  unfold isbD at ez
  split at ez
  · cases ez
    cases r1
    cases r2
    exact ⟨_, _, rfl, rfl, by rw [← Bool.beq_eq_decide_eq]; exact q _ bs F H (Tr.refl _ _ _) w (.bl _)⟩
  · cases ez
theorem z_notB : OpZ K rNotB isnbD := by
  intro bs M F H x y c d z Q w r1 r2 ez q
  unfold isnbD at ez
  split at ez
  · cases ez
    cases r1
    cases r2
    exact ⟨_, _, rfl, rfl, by rw [← Bool.beq_eq_decide_eq]; exact q _ bs F H (Tr.refl _ _ _) w (.bl _)⟩
  · cases ez
theorem Rep.flat {v : V} {d : D} (r : Rep K bs F v d) (h : flatD d = true) : flatV v = true := by
  cases r <;> first | rfl | (simp [flatD] at h; done)
theorem Reps.flat : ∀ {vs : List V} {ds : List D}, Reps K bs F vs ds → ds.all flatD = true → vs.all flatV = true
  | _, _, .nil, _ => rfl
  | _, _, .cons r t, h => by
    rw [List.all_cons, Bool.and_eq_true] at h ⊢
    exact ⟨r.flat h.1, t.flat h.2⟩
theorem Rep.eqV {v w : V} {d e : D} (r : Rep K bs F v d) (s : Rep K bs F w e) (h : flatD d = true) (k : flatD e = true) : L2.eqV v w = eqN 1 d e := by
  cases r <;> cases s <;> first | (simp [flatD] at h; done) | (simp [flatD] at k; done) | simp [L2.eqV, eqN]
theorem Reps.inV {x : V} {c : D} (r : Rep K bs F x c) (h : flatD c = true) : ∀ {vs : List V} {ds : List D}, Reps K bs F vs ds → ds.all flatD = true → L2.inV x vs = inL c ds
  | _, _, .nil, _ => rfl
  | _, _, .cons s t, k => by
    rw [List.all_cons, Bool.and_eq_true] at k
    have ih := Reps.inV r h t k.2
    unfold L2.inV inL at *
    rw [List.any_cons, List.any_cons, ih, s.eqV r k.1 h]
theorem z_in {neg : Bool} : OpZ K (rIn K neg) (inD neg) := by
  intro bs M F H x y c d z Q w r1 r2 ez q
  unfold inD at ez
  cases e : seqD d with
  | none =>
    rw [e] at ez
    cases ez
  | some xs =>
    rw [e] at ez
    simp only at ez
    split at ez
    · rename_i hf
      obtain ⟨h1, h2⟩ := Bool.and_eq_true_iff.mp hf
      cases ez
      have fin : ∀ {a : Addr} {vs : List V}, y = .ref a → (SqL K H a vs ∨ SqT K H a vs) → Reps K bs F vs xs → rIn K neg x y H Q := fun {a vs} ey hs s => by
        refine ⟨a, vs, ey, hs, r1.flat h1, s.flat h2, ?_⟩
        rw [Reps.inV r1 h1 s h2]
        exact q _ bs F H (Tr.refl _ _ _) w (.bl _)
      cases r2 with
      | lst h s =>
        cases e
        exact fin rfl (.inl (.inl (.inl (w.sub _ _ h)))) s
      | tup h s =>
        cases e
        exact fin rfl (.inr (.inl (.inl (w.sub _ _ h)))) s
      | _ => cases e
    · cases ez
theorem atI_rep {vs : List V} {ds : List D} (s : Reps K bs F vs ds) {i : Int} {z : D} (h : atI ds i = some z) : ∃ v, atI vs i = some v ∧ Rep K bs F v z := by
  unfold atI at h ⊢
  rw [s.length]
  cases e : ixN ds.length i with
  | none =>
    rw [e] at h
    cases h
  | some j =>
    rw [e] at h
    exact s.get (i := j) h
theorem z_ix : OpZ K (rIx K) ixD := by
  intro bs M F H x y c d z Q w r1 r2 ez q
  unfold ixD at ez
  split at ez
  · cases r1 with
    | lst h s =>
      cases r2
      obtain ⟨v, e, r⟩ := atI_rep s ez
      exact .inl ⟨_, _, _, v, rfl, rfl, .inl (.inl (w.sub _ _ h)), e, q _ bs F H (Tr.refl _ _ _) w r⟩
  · cases r1 with
    | tup h s =>
      cases r2
      obtain ⟨v, e, r⟩ := atI_rep s ez
      exact .inr (.inl ⟨_, _, _, v, rfl, rfl, .inl (.inl (w.sub _ _ h)), e, q _ bs F H (Tr.refl _ _ _) w r⟩)
  · rename_i k i
    cases r1 with
    | @obj _ b h =>
      cases r2
      cases e : M[k]? with
      | none =>
        rw [e] at ez
        cases ez
      | some xs =>
        rw [e] at ez
        obtain ⟨_, vs, e3, s⟩ := w.objs _ _ _ h e
        obtain ⟨v, e4, r⟩ := atI_rep s ez
        exact .inl ⟨_, _, _, v, rfl, rfl, .inl (.inl e3), e4, q _ bs F H (Tr.refl _ _ _) w r⟩
  · cases ez
end

/-! ### slices -/
abbrev DO := Ev → Mo (Option Int)
def dNoPart : DO := fun _ => ret none
def dPart (f : DE) : DO := fun e => bnd (f e) fun x => match x with
  | .int i => ret (some i)
  | _ => stuck
def qO (Q : Option Int → Hp → Prop) : QT (Option Int) := fun o _ _ _ H => Q o H
def liftO (K : PySem.W.Frag) (W : Wi) (f : DO) : TO := fun σ H Q => Lf K W f (qO Q) σ H
abbrev ZO (X : Cx) (W : Wi) (e : Option Expr) (f : DO) : Prop := PO X e (liftO X.K W f)
abbrev F3 := D → Option Int → Option Int → MS → Option D
def dSl (fo : F3) (f : DE) (gl gh : DO) : DE := fun e => bnd (f e) fun x => bnd (gl e) fun l => bnd (gh e) fun h => fun M => lft (fo x l h M) M
def SlZ (K : PySem.W.Frag) (r : V → Option Int → Option Int → Hp → VK → Prop) (fo : F3) : Prop :=
  ∀ (bs : List Addr) (M : MS) (F H : Hp) (x : V) (c : D) (lo hi : Option Int) (z : D) (Q : VK), Wd K bs M F H → Rep K bs F x c → fo c lo hi M = some z →
    (∀ v bs' F' H', Tr bs F H bs' F' H' → Wd K bs' M F' H' → Rep K bs' F' v z → Q v H') → r x lo hi H Q
def cutD (xs : List D) (lo hi : Option Int) : List D := (xs.drop (HT.sIx xs.length 0 lo)).take (HT.sIx xs.length xs.length hi - HT.sIx xs.length 0 lo)
def slD : F3 := fun c lo hi _ => match c with
  | .lst xs => some (.lst (cutD xs lo hi))
  | .tup xs => some (.tup (cutD xs lo hi))
  | .scr ns => some (.lst (cutD (ns.map .int) lo hi))
  | _ => none
section
variable {X : Cx} {W : Wi} {K : PySem.W.Frag} {bs : List Addr} {F H : Hp} {e : Expr} {f : DE} {pos p2 : Pos}
theorem zo_none : ZO X W none dNoPart := ⟨fun pins s σ H Q I h => po_none.run pins s σ H Q I (by
  obtain ⟨bs, M, F, e, at0, run⟩ := h
  have z : qO Q none bs M F H := Run.here at0.1 run
  exact z)⟩
theorem zo_some (h : ZE X W e f) : ZO X W (some e) (dPart f) := ⟨fun pins s σ H Q I q => (po_some h).run pins s σ H Q I (by
  obtain ⟨bs, M, F, e, at0, run⟩ := q
  refine ⟨bs, M, F, e, at0, run.bind.imp fun x bs1 M1 F1 H1 t1 w1 run1 v1 r1 => ?_⟩
  cases x with
  | int i =>
    cases r1
    have z : qO Q (some i) bs1 M1 F1 H1 := Run.here w1 run1
    exact ⟨i, rfl, z⟩
  | _ => exact run1.elim)⟩
theorem Reps.cut {vs : List V} {ds : List D} (s : Reps K bs F vs ds) (lo hi : Option Int) : Reps K bs F (cutV vs lo hi) (cutD ds lo hi) := by
  unfold cutV cutD
  rw [s.length]
  exact (s.drop _).take _
theorem cutD_whole {xs : List D} {lo hi : Option Int} (h : HT.sIx xs.length 0 lo = 0 ∧ HT.sIx xs.length xs.length hi = xs.length) : cutD xs lo hi = xs := by
  unfold cutD
  rw [h.1, h.2, List.drop_zero, Nat.sub_zero, List.take_length]
theorem z_sl : SlZ K (fun x lo hi H Q => rSlL K x lo hi H Q ∨ rSlA K x lo hi H Q) slD := by
  intro bs M F H x c lo hi z Q w r1 ez q
  unfold slD at ez
  split at ez
  · cases ez
    cases r1 with
    | @lst a vs _ h s =>
      refine .inl ⟨a, vs, rfl, .inl (.inl (w.sub _ _ h)), fun p hp => ?_⟩
      obtain ⟨w2, t2⟩ := w.laid (.lst (cutV vs lo hi)) hp
      exact q _ _ _ _ t2 w2 (.lst upd_same ((s.cut lo hi).tr t2))
  · cases ez
    cases r1 with
    | @tup a vs _ h s =>
      refine .inr ⟨a, vs, rfl, .inl (.inl (w.sub _ _ h)), fun e => ?_, fun _ p hp => ?_⟩
      · rw [s.length] at e
        rw [cutD_whole e] at q
        exact q _ bs F H (Tr.refl _ _ _) w (.tup h s)
      · obtain ⟨w2, t2⟩ := w.laid (.tup (cutV vs lo hi)) hp
        exact q _ _ _ _ t2 w2 (.tup upd_same ((s.cut lo hi).tr t2))
  · rename_i ns
    cases ez
    cases r1 with
    | @scr a _ h =>
      refine .inl ⟨a, _, rfl, w.sub.seq h, fun p hp => ?_⟩
      obtain ⟨w2, t2⟩ := w.laid (.lst (cutV (ns.map V.int) lo hi)) hp
      exact q _ _ _ _ t2 w2 (.lst upd_same (((Reps.of_ints ns).cut lo hi).tr t2))
  · cases ez
theorem sl_Z : SlR X (fun x lo hi H Q => rSlL X.K x lo hi H Q ∨ rSlA X.K x lo hi H Q) := sl_list.or sl_tupA
theorem ze_slice {lo hi : Option Expr} {gl gh : DO} (hf : ZE X W e f) (hl : ZO X W lo gl) (hh : ZO X W hi gh) : ZE X W (.Subscript e (.Slice lo hi none p2) pos) (dSl slD f gl gh) :=
  ⟨fun pins s σ H Q I h => (pe_slice sl_Z hf hl hh).run pins s σ H Q I (by
    obtain ⟨bs, M, F, e, at0, run⟩ := h
    refine ⟨bs, M, F, e, at0, run.bind.imp fun x bs1 M1 F1 H1 t1 w1 run1 v1 r1 => ?_⟩
    refine ⟨bs1, M1, F1, e, at0.tr t1 w1, run1.bind.imp fun l bs2 M2 F2 H2 t2 w2 run2 => ?_⟩
    refine ⟨bs2, M2, F2, e, (at0.tr t1 w1).tr t2 w2, run2.bind.imp fun u bs3 M3 F3 H3 t3 w3 run3 => ?_⟩
    obtain ⟨z, ez, k⟩ := run3.of_lft
    exact z_sl bs3 M3 F3 H3 v1 x l u z Q w3 (r1.tr (t2.trans t3)) ez fun v bs' F' H' t w r => k bs' F' H' t w v r)⟩
/-- xs[::-1] of a list -/
def dRevL (f : DE) : DE := fun e => bnd (f e) fun x => match x with
  | .lst xs => ret (.lst xs.reverse)
  | _ => stuck
theorem ze_revL {k : Nat} {p1 p2 p3 pos : Pos} (hf : ZE X W e f) : ZE X W (.Subscript e (.Slice none none (some (.UnaryOp .USub (.Constant (.int 1) k p1) p2)) p3) pos) (dRevL f) :=
  ⟨fun pins s σ H Q I h => (pe_revL hf).run pins s σ H Q I (by
    obtain ⟨bs, M, F, e, at0, run⟩ := h
    refine ⟨bs, M, F, e, at0, run.bind.imp fun x bs1 M1 F1 H1 t1 w1 run1 v1 r1 => ?_⟩
    cases x with
    | lst xs =>
      cases r1 with
      | @lst a vs _ h s =>
        refine ⟨a, vs, rfl, .inl (.inl (w1.sub _ _ h)), fun p hp => ?_⟩
        obtain ⟨w2, t2⟩ := w1.laid (.lst vs.reverse) hp
        exact run1.ok _ _ _ t2 w2 _ (.lst upd_same (s.reverse.tr t2))
    | _ => exact run1.elim)⟩
end

/-! ### built-ins -/
def len1 : F1 := fun ds M => match ds with
  | [.lst xs] => some (.int xs.length)
  | [.tup xs] => some (.int xs.length)
  | [.obj i] => M[i]?.map fun xs => .int xs.length
  | _ => none
def max2 : F1 := fun ds _ => match ds with
  | [.int i, .int j] => some (.int (if j > i then j else i))
  | _ => none
def min2 : F1 := fun ds _ => match ds with
  | [.int i, .int j] => some (.int (if j < i then j else i))
  | _ => none
def intsOf : List D → Option (List Int)
  | [] => some []
  | .int i :: r => (intsOf r).map (i :: ·)
  | _ => none
def blsOf : List D → Option (List Bool)
  | [] => some []
  | .bl b :: r => (blsOf r).map (b :: ·)
  | _ => none
theorem intsOf_map {ds : List D} {ns : List Int} (h : intsOf ds = some ns) : ds = ns.map D.int := by
  induction ds generalizing ns with
  | nil =>
    cases h
    rfl
  | cons d r ih =>
    cases d with
    | int i =>
      unfold intsOf at h
      cases e : intsOf r with
      | none =>
        rw [e] at h
        cases h
      | some ms =>
        rw [e] at h
        cases h
        rw [ih e]
        rfl
    | _ => cases h
theorem intsOf_ints (ns : List Int) : intsOf (ns.map D.int) = some ns := by
  induction ns with
  | nil => rfl
  | cons n r ih =>
    show (intsOf (r.map D.int)).map (n :: ·) = some (n :: r)
    rw [ih]
    rfl
theorem blsOf_map {ds : List D} {ns : List Bool} (h : blsOf ds = some ns) : ds = ns.map D.bl := by
  induction ds generalizing ns with
  | nil =>
    cases h
    rfl
  | cons d r ih =>
    cases d with
    | bl i =>
      unfold blsOf at h
      cases e : blsOf r with
      | none =>
        rw [e] at h
        cases h
      | some ms =>
        rw [e] at h
        cases h
        rw [ih e]
        rfl
    | _ => cases h
theorem blsOf_bls (ns : List Bool) : blsOf (ns.map D.bl) = some ns := by
  induction ns with
  | nil => rfl
  | cons n r ih =>
    show (blsOf (r.map D.bl)).map (n :: ·) = some (n :: r)
    rw [ih]
    rfl
theorem Reps.bls {K : PySem.W.Frag} {bs : List Addr} {F : Hp} : ∀ {vs : List V} {ns : List Bool}, Reps K bs F vs (ns.map D.bl) → vs = ns.map V.bl
  | vs, [], h => by
    cases h
    rfl
  | vs, n :: ns, h => by
    cases h with
    | cons r t =>
      cases r
      rw [Reps.bls t]
      rfl
def sum1 : F1 := fun ds _ => match ds with
  | [.lst xs] => (intsOf xs).map fun ns => .int ns.sum
  | _ => none
def sumT1 : F1 := fun ds _ => match ds with
  | [.tup xs] => (intsOf xs).map fun ns => .int ns.sum
  | _ => none
def all1 : F1 := fun ds _ => match ds with
  | [.lst xs] => (blsOf xs).map fun ns => .bl (ns.all id)
  | _ => none
def maxL : List Int → Option Int
  | [] => none
  | [x] => some x
  | x :: r => (maxL r).map fun m => if m > x then m else x
def minL : List Int → Option Int
  | [] => none
  | [x] => some x
  | x :: r => (minL r).map fun m => if m < x then m else x
def maxL1 : F1 := fun ds _ => match ds with
  | [.lst xs] => ((intsOf xs).bind maxL).map .int
  | _ => none
def minL1 : F1 := fun ds _ => match ds with
  | [.lst xs] => ((intsOf xs).bind minL).map .int
  | _ => none
theorem maxL_spec : ∀ {l : List Int} {m : Int}, maxL l = some m → m ∈ l ∧ ∀ y ∈ l, y ≤ m
  | [], _, h => by cases h
  | [x], m, h => by
    cases h
    simp
  | x :: y :: r, m, h => by
    unfold maxL at h
    cases e : maxL (y :: r) with
    | none =>
      rw [e] at h
      cases h
    | some k =>
      rw [e] at h
      obtain ⟨h1, h2⟩ := maxL_spec e
      simp only [Option.map_some, Option.some.injEq] at h
      subst h
      split
      · refine ⟨List.mem_cons_of_mem _ h1, fun z hz => ?_⟩
        rcases List.mem_cons.mp hz with q | q
        · omega
        · exact h2 z q
      · refine ⟨List.mem_cons_self, fun z hz => ?_⟩
        rcases List.mem_cons.mp hz with q | q
        · omega
        · have := h2 z q
          omega
theorem minL_spec : ∀ {l : List Int} {m : Int}, minL l = some m → m ∈ l ∧ ∀ y ∈ l, m ≤ y
  | [], _, h => by cases h
  | [x], m, h => by
    cases h
    simp
  | x :: y :: r, m, h => by
    unfold minL at h
    cases e : minL (y :: r) with
    | none =>
      rw [e] at h
      cases h
    | some k =>
      rw [e] at h
      obtain ⟨h1, h2⟩ := minL_spec e
      simp only [Option.map_some, Option.some.injEq] at h
      subst h
      split
      · refine ⟨List.mem_cons_of_mem _ h1, fun z hz => ?_⟩
        rcases List.mem_cons.mp hz with q | q
        · omega
        · exact h2 z q
      · refine ⟨List.mem_cons_self, fun z hz => ?_⟩
        rcases List.mem_cons.mp hz with q | q
        · omega
        · have := h2 z q
          omega
def insI (x : Int) : List Int → List Int
  | [] => [x]
  | y :: r => if x ≤ y then x :: y :: r else y :: insI x r
def sortI : List Int → List Int
  | [] => []
  | x :: r => insI x (sortI r)
theorem insI_perm (x : Int) : ∀ l, (insI x l).Perm (x :: l)
  | [] => .refl _
  | y :: r => by
    unfold insI
    split
    · exact .refl _
    · exact ((insI_perm x r).cons y).trans (List.Perm.swap x y r)
theorem sortI_perm : ∀ l, (sortI l).Perm l
  | [] => .refl _
  | x :: r => (insI_perm x _).trans ((sortI_perm r).cons x)
theorem insI_pw (x : Int) : ∀ l, l.Pairwise (· ≤ ·) → (insI x l).Pairwise (· ≤ ·)
  | [], _ => by
    unfold insI
    exact List.pairwise_singleton _ _
  | y :: r, h => by
    unfold insI
    obtain ⟨h1, h2⟩ := List.pairwise_cons.mp h
    split
    · rename_i q
      refine List.pairwise_cons.mpr ⟨fun z hz => ?_, h⟩
      rcases List.mem_cons.mp hz with e | e
      · omega
      · have := h1 z e
        omega
    · rename_i q
      refine List.pairwise_cons.mpr ⟨fun z hz => ?_, insI_pw x r h2⟩
      rcases List.mem_cons.mp ((insI_perm x r).mem_iff.mp hz) with e | e
      · omega
      · exact h1 z e
theorem sortI_pw : ∀ l, (sortI l).Pairwise (· ≤ ·)
  | [] => .nil
  | x :: r => insI_pw x _ (sortI_pw r)
theorem pw_eq : ∀ {l m : List Int}, l.Perm m → l.Pairwise (· ≤ ·) → m.Pairwise (· ≤ ·) → l = m
  | [], m, p, _, _ => by simpa using p.symm.eq_nil.symm
  | x :: l, [], p, _, _ => by simpa using p.eq_nil
  | x :: l, y :: m, p, h1, h2 => by
    obtain ⟨a1, a2⟩ := List.pairwise_cons.mp h1
    obtain ⟨b1, b2⟩ := List.pairwise_cons.mp h2
    have e : x = y := by
      have q1 : x ∈ y :: m := p.mem_iff.mp List.mem_cons_self
      have q2 : y ∈ x :: l := p.mem_iff.mpr List.mem_cons_self
      rcases List.mem_cons.mp q1 with z1 | z1
      · exact z1
      · rcases List.mem_cons.mp q2 with z2 | z2
        · exact z2.symm
        · have := a1 y z2
          have := b1 x z1
          omega
    subst e
    rw [pw_eq ((List.perm_cons x).mp p) a2 b2]
def sorted1 : F1 := fun ds _ => match ds with
  | [.lst xs] => (intsOf xs).bind fun ns => if ns.length ≤ 100000 then some (.lst ((sortI ns).map .int)) else none
  | _ => none
def list1 : F1 := fun ds _ => match ds with
  | [.lst xs] => some (.lst xs)
  | [.tup xs] => some (.lst xs)
  | _ => none
def tuple1 : F1 := fun ds _ => match ds with
  | [.lst xs] => some (.tup xs)
  | [.tup xs] => some (.tup xs)
  | _ => none
section
variable {K : PySem.W.Frag} {X : Cx}
theorem z_len : CallZ K (fun xs H Q => ∃ p ys, xs = [.ref p] ∧ (SqL K H p ys ∨ SqT K H p ys) ∧ Q (.int ys.length) H) len1 := by
  intro bs M F H xs ds z Q w r ez q
  unfold len1 at ez
  split at ez
  · cases ez
    obtain ⟨v, rfl, rr⟩ := r.one
    cases rr with
    | lst h s => exact ⟨_, _, rfl, .inl (.inl (.inl (w.sub _ _ h))), by rw [s.length]; exact q _ bs F H (Tr.refl _ _ _) w (.int _)⟩
  · cases ez
    obtain ⟨v, rfl, rr⟩ := r.one
    cases rr with
    | tup h s => exact ⟨_, _, rfl, .inr (.inl (.inl (w.sub _ _ h))), by rw [s.length]; exact q _ bs F H (Tr.refl _ _ _) w (.int _)⟩
  · rename_i i
    obtain ⟨v, rfl, rr⟩ := r.one
    cases rr with
    | obj hb =>
      cases em : M[i]? with
      | none =>
        rw [em] at ez
        cases ez
      | some ys =>
        rw [em] at ez
        cases ez
        obtain ⟨_, vs, e3, s⟩ := w.objs i _ ys hb em
        exact ⟨_, _, rfl, .inl (.inl (.inl e3)), by rw [s.length]; exact q _ bs F H (Tr.refl _ _ _) w (.int _)⟩
  · cases ez
theorem z_max2 : CallZ K (fun xs H Q => ∃ i j, xs = [.int i, .int j] ∧ Q (.int (if j > i then j else i)) H) max2 := by
  intro bs M F H xs ds z Q w r ez q
  unfold max2 at ez
  split at ez
  · cases ez
    obtain ⟨v, u, rfl, r1, r2⟩ := r.two
    cases r1
    cases r2
    exact ⟨_, _, rfl, q _ bs F H (Tr.refl _ _ _) w (.int _)⟩
  · cases ez
theorem z_min2 : CallZ K (fun xs H Q => ∃ i j, xs = [.int i, .int j] ∧ Q (.int (if j < i then j else i)) H) min2 := by
  intro bs M F H xs ds z Q w r ez q
  unfold min2 at ez
  split at ez
  · cases ez
    obtain ⟨v, u, rfl, r1, r2⟩ := r.two
    cases r1
    cases r2
    exact ⟨_, _, rfl, q _ bs F H (Tr.refl _ _ _) w (.int _)⟩
  · cases ez
theorem one_lst {bs : List Addr} {F H : Hp} {M : MS} {xs : List V} {es : List D} (w : Wd K bs M F H) (r : Reps K bs F xs [.lst es]) : ∃ a vs, xs = [.ref a] ∧ SqL K H a vs ∧ Reps K bs F vs es := by
  obtain ⟨v, rfl, rr⟩ := r.one
  cases rr with
  | lst h s => exact ⟨_, _, rfl, .inl (.inl (w.sub _ _ h)), s⟩
theorem z_sum : CallZ K (rSum K) sum1 := by
  intro bs M F H xs ds z Q w r ez q
  unfold sum1 at ez
  split at ez
  · rename_i es
    cases e : intsOf es with
    | none =>
      rw [e] at ez
      cases ez
    | some ns =>
      rw [e] at ez
      cases ez
      obtain ⟨a, vs, rfl, hs, s⟩ := one_lst w r
      rw [intsOf_map e] at s
      rw [s.ints] at hs
      exact ⟨a, ns, rfl, hs, q _ bs F H (Tr.refl _ _ _) w (.int _)⟩
  · cases ez
theorem z_all : CallZ K (rAll K) all1 := by
  intro bs M F H xs ds z Q w r ez q
  unfold all1 at ez
  split at ez
  · rename_i es
    cases e : blsOf es with
    | none =>
      rw [e] at ez
      cases ez
    | some ns =>
      rw [e] at ez
      cases ez
      obtain ⟨a, vs, rfl, hs, s⟩ := one_lst w r
      rw [blsOf_map e] at s
      rw [s.bls] at hs
      exact ⟨a, ns, rfl, hs, q _ bs F H (Tr.refl _ _ _) w (.bl _)⟩
  · cases ez
theorem z_maxL : CallZ K (rMax K) maxL1 := by
  intro bs M F H xs ds z Q w r ez q
  unfold maxL1 at ez
  split at ez
  · rename_i es
    cases e : intsOf es with
    | none =>
      rw [e] at ez
      cases ez
    | some ns =>
      rw [e] at ez
      cases e2 : maxL ns with
      | none =>
        rw [Option.bind_some, e2] at ez
        cases ez
      | some k =>
        rw [Option.bind_some, e2] at ez
        cases ez
        obtain ⟨h1, h2⟩ := maxL_spec e2
        obtain ⟨a, vs, rfl, hs, s⟩ := one_lst w r
        rw [intsOf_map e] at s
        rw [s.ints] at hs
        refine ⟨a, ns, rfl, hs, List.length_pos_of_mem h1, fun m hm hk => ?_⟩
        have e3 : m = k := by
          have := h2 m hm
          have := hk k h1
          omega
        rw [e3]
        exact q _ bs F H (Tr.refl _ _ _) w (.int _)
  · cases ez
theorem z_minL : CallZ K (rMin K) minL1 := by
  intro bs M F H xs ds z Q w r ez q
  unfold minL1 at ez
  split at ez
  · rename_i es
    cases e : intsOf es with
    | none =>
      rw [e] at ez
      cases ez
    | some ns =>
      rw [e] at ez
      cases e2 : minL ns with
      | none =>
        rw [Option.bind_some, e2] at ez
        cases ez
      | some k =>
        rw [Option.bind_some, e2] at ez
        cases ez
        obtain ⟨h1, h2⟩ := minL_spec e2
        obtain ⟨a, vs, rfl, hs, s⟩ := one_lst w r
        rw [intsOf_map e] at s
        rw [s.ints] at hs
        refine ⟨a, ns, rfl, hs, List.length_pos_of_mem h1, fun m hm hk => ?_⟩
        have e3 : m = k := by
          have := h2 m hm
          have := hk k h1
          omega
        rw [e3]
        exact q _ bs F H (Tr.refl _ _ _) w (.int _)
  · cases ez
theorem z_list : CallZ K (fun xs H Q => ∃ p ys, xs = [.ref p] ∧ (SqL K H p ys ∨ SqT K H p ys) ∧ ∀ l, H l = none → Q (.ref l) (upd H l (.lst ys))) list1 := by
  intro bs M F H xs ds z Q w r ez q
  have fin : ∀ {a : Addr} {vs : List V} {es : List D}, xs = [.ref a] → (SqL K H a vs ∨ SqT K H a vs) → Reps K bs F vs es → z = .lst es → ∃ p ys, xs = [.ref p] ∧ (SqL K H p ys ∨ SqT K H p ys) ∧ ∀ l, H l = none → Q (.ref l) (upd H l (.lst ys)) := by
    intro a vs es e h s e2
    refine ⟨a, vs, e, h, fun p hp => ?_⟩
    obtain ⟨w2, t2⟩ := w.laid (.lst vs) hp
    subst e2
    exact q _ _ _ _ t2 w2 (.lst upd_same (s.tr t2))
  unfold list1 at ez
  split at ez
  · cases ez
    obtain ⟨v, rfl, rr⟩ := r.one
    cases rr with
    | lst h s => exact fin rfl (.inl (.inl (.inl (w.sub _ _ h)))) s rfl
  · cases ez
    obtain ⟨v, rfl, rr⟩ := r.one
    cases rr with
    | tup h s => exact fin rfl (.inr (.inl (.inl (w.sub _ _ h)))) s rfl
  · cases ez
theorem z_tuple : CallZ K (fun xs H Q => ∃ p ys, xs = [.ref p] ∧ ((SqL K H p ys ∧ ∀ l, H l = none → Q (.ref l) (upd H l (.tup ys))) ∨ (SqT K H p ys ∧ Q (.ref p) H))) tuple1 := by
  intro bs M F H xs ds z Q w r ez q
  unfold tuple1 at ez
  split at ez
  · cases ez
    obtain ⟨v, rfl, rr⟩ := r.one
    cases rr with
    | @lst a vs _ h s =>
      refine ⟨a, vs, rfl, .inl ⟨.inl (.inl (w.sub _ _ h)), fun p hp => ?_⟩⟩
      obtain ⟨w2, t2⟩ := w.laid (.tup vs) hp
      exact q _ _ _ _ t2 w2 (.tup upd_same (s.tr t2))
  · cases ez
    obtain ⟨v, rfl, rr⟩ := r.one
    cases rr with
    | @tup a vs _ h s => exact ⟨a, vs, rfl, .inr ⟨.inl (.inl (w.sub _ _ h)), q _ bs F H (Tr.refl _ _ _) w (.tup h s)⟩⟩
  · cases ez
end

/-! ### isinstance -/
def tyName : D → Option String
  | .non => some "NoneType"
  | .bl _ => some "bool"
  | .int _ => some "int"
  | .str _ => some "str"
  | .tup _ => some "tuple"
  | .lst _ => some "list"
  | _ => none
end Z

/-! Z4: isinstance, sorted, index; statements, loops, comprehensions, defs -/
namespace Z
open PySem PySem.Spec PyProof.Rows L2
variable [Tbs]

inductive Ty where
  | int | bool | tuple | list | str
def Ty.name : Ty → String
  | .int => "int" | .bool => "bool" | .tuple => "tuple" | .list => "list" | .str => "str"
def isTy : Ty → D → Option Bool
  | T, .non => some false
  | T, .bl _ => some (match T with | .int => true | .bool => true | _ => false)
  | T, .int _ => some (match T with | .int => true | _ => false)
  | T, .str _ => some (match T with | .str => true | _ => false)
  | T, .tup _ => some (match T with | .tuple => true | _ => false)
  | T, .lst _ => some (match T with | .list => true | _ => false)
  | _, _ => none
def dIs (T : Ty) (f : DE) : DE := fun e => bnd (f e) fun x => lft ((isTy T x).map D.bl)
def isAny (x : D) : List Ty → Option Bool
  | [] => some false
  | T :: Ts => match isTy T x with
    | some true => some true
    | some false => isAny x Ts
    | none => none
def dIsT (Ts : List Ty) (f : DE) : DE := fun e => bnd (f e) fun x => lft ((isAny x Ts).map D.bl)
section
variable {X : Cx} {W : Wi} {K : PySem.W.Frag} {bs : List Addr} {F H : Hp}
theorem isTy_kit {x : V} {d : D} {T : Ty} {b : Bool} (s : Same F H) (r : Rep K bs F x d) (h : isTy T d = some b) : ∃ t, TyX K H x t ∧ PySem.W.kitOne K t (.type T.name) = some b := by
  cases r with
  | non => cases h; exact ⟨_, .base .non, by cases T <;> exact kit_ty (by decide +kernel)⟩
  | bl v => cases h; exact ⟨_, .base (.bl v), by cases T <;> exact kit_ty (by decide +kernel)⟩
  | int v => cases h; exact ⟨_, .base (.int v), by cases T <;> exact kit_ty (by decide +kernel)⟩
  | str v => cases h; exact ⟨_, .base (.str v), by cases T <;> exact kit_ty (by decide +kernel)⟩
  | tup q _ => cases h; exact ⟨_, .base (.tup (s _ _ q)), by cases T <;> exact kit_ty (by decide +kernel)⟩
  | lst q _ => cases h; exact ⟨_, .base (.lst (s _ _ q)), by cases T <;> exact kit_ty (by decide +kernel)⟩
  | _ => cases h
theorem tyX_of {x : V} {d : D} {T : Ty} {b : Bool} (s : Same F H) (r : Rep K bs F x d) (h : isTy T d = some b) : ∃ t, TyX K H x t ∧ ∀ T' b', isTy T' d = some b' → PySem.W.kitOne K t (.type T'.name) = some b' := by
  cases r with
  | non => exact ⟨_, .base .non, fun T' b' h => by cases h; cases T' <;> exact kit_ty (by decide +kernel)⟩
  | bl v => exact ⟨_, .base (.bl v), fun T' b' h => by cases h; cases T' <;> exact kit_ty (by decide +kernel)⟩
  | int v => exact ⟨_, .base (.int v), fun T' b' h => by cases h; cases T' <;> exact kit_ty (by decide +kernel)⟩
  | str v => exact ⟨_, .base (.str v), fun T' b' h => by cases h; cases T' <;> exact kit_ty (by decide +kernel)⟩
  | tup q _ => exact ⟨_, .base (.tup (s _ _ q)), fun T' b' h => by cases h; cases T' <;> exact kit_ty (by decide +kernel)⟩
  | lst q _ => exact ⟨_, .base (.lst (s _ _ q)), fun T' b' h => by cases h; cases T' <;> exact kit_ty (by decide +kernel)⟩
  | _ => cases h
/-- a built-in class's name -/
structure TyNm (X : Cx) (T : Ty) (x : Str) : Prop where
  g : Gl X x
  m : X.mg x = none
  v : bootBuiltins x = some (.type T.name)
theorem TyNm.pe {T : Ty} {x : Str} {pos : Pos} (h : TyNm X T x) (hn : x ≠ "__name__" := by decide) (hd : (x == ("__debug__" : Str)) = false := by decide) : PE X (.Name x pos) (tC (.ty T.name)) := pe_bltn h.g h.m h.v rfl hn hd
theorem ze_isi {e : Expr} {f : DE} {T : Ty} {x : Str} {p q pos : Pos} (hf : ZE X W e f) (hT : PE X (.Name x q) (tC (.ty T.name))) (hg : Gl X "isinstance") (hm : X.mg "isinstance" = none) (hs : starEach [e, .Name x q] X.env = (false, eval e X.env) :: starEach [.Name x q] X.env := by rfl) (hs2 : starEach [.Name x q] X.env = (false, eval (.Name x q) X.env) :: starEach [] X.env := by rfl)
    (hpl : (backTo pos (starEach [.Name x q] X.env)).any (·.1) = false := by rfl) : ZE X W (.Call (.Name "isinstance" p) [e, .Name x q] [] pos) (dIs T f) :=
  ⟨fun pins s σ H Q I h => (pe_callB call_isi hg hm (by decide +kernel) (pa_cons hf (pa_cons hT pa_nil hs2) hs) (by decide) (by decide) hs hpl).run pins s σ H Q I (by
    obtain ⟨bs, M, F, e, at0, run⟩ := h
    refine ⟨bs, M, F, e, at0, run.bind.imp fun x bs1 M1 F1 H1 t1 w1 run1 v1 r1 => ?_⟩
    obtain ⟨z, ez, k⟩ := run1.of_lft
    cases e1 : isTy T x with
    | none =>
      rw [e1] at ez
      cases ez
    | some b =>
      rw [e1] at ez
      cases ez
      obtain ⟨t, ty, kt⟩ := isTy_kit w1.sub r1 e1
      exact ⟨v1, .ty T.name, t, .type T.name, b, rfl, .ty _, ty, kt, k bs1 F1 H1 (Tr.refl _ _ _) w1 _ (.bl b)⟩)⟩
/-- the classes of a written tuple -/
inductive TyPA (X : Cx) : List Expr → List Ty → Prop where
  | nil : TyPA X [] []
  | cons {x : Str} {q : Pos} {es : List Expr} {T : Ty} {Ts : List Ty} (h : PE X (.Name x q) (tC (.ty T.name))) (t : TyPA X es Ts) (hs : starEach (.Name x q :: es) X.env = (false, eval (.Name x q) X.env) :: starEach es X.env) : TyPA X (.Name x q :: es) (T :: Ts)
def tTys (Ts : List Ty) : TA := fun _ H Q => Q (Ts.map fun T => V.ty T.name) H
theorem TyPA.pa : ∀ {es : List Expr} {Ts : List Ty}, TyPA X es Ts → PA X es (tTys Ts)
  | _, _, .nil => pa_nil
  | _, _, .cons h t hs => ⟨fun pos pins s σ H Q I q => (pa_cons h t.pa hs).run pos pins s σ H Q I q⟩
theorem isAny_kit {x : V} {d : D} {t : Value} (kt : ∀ T' b', isTy T' d = some b' → PySem.W.kitOne K t (.type T'.name) = some b') : ∀ {Ts : List Ty} {b : Bool}, isAny d Ts = some b → PySem.W.kitAny K t (Ts.map fun T => Value.type T.name) = some b
  | [], b, h => by
    cases h
    exact kitAny_nil
  | T :: Ts, b, h => by
    unfold isAny at h
    split at h
    · rename_i e
      cases h
      exact kitAny_cons (kt _ _ e) (fun z => by cases z) fun _ => rfl
    · rename_i e
      exact kitAny_cons (kt _ _ e) (fun _ => isAny_kit (x := x) kt h) fun z => by cases z
    · cases h
theorem ze_isiT {e : Expr} {es : List Expr} {f : DE} {T : Ty} {Ts : List Ty} {n : Nat} {p q pos : Pos} (hf : ZE X W e f) (hT : TyPA X es (T :: Ts)) (hg : Gl X "isinstance") (hm : X.mg "isinstance" = none) (hl : (T :: Ts).length ≤ 10) (hs : starEach [e, .Tuple es n q] X.env = (false, eval e X.env) :: starEach [.Tuple es n q] X.env := by rfl) (hs2 : starEach [.Tuple es n q] X.env = (false, eval (.Tuple es n q) X.env) :: starEach [] X.env := by rfl)
    (hpl : (backTo pos (starEach [.Tuple es n q] X.env)).any (·.1) = false := by rfl) : ZE X W (.Call (.Name "isinstance" p) [e, .Tuple es n q] [] pos) (dIsT (T :: Ts) f) :=
  ⟨fun pins s σ H Q I h => (pe_callB call_isiT hg hm (by decide +kernel) (pa_cons hf (pa_cons (pe_tup hT.pa) pa_nil hs2) hs) (by decide) (by decide) hs hpl).run pins s σ H Q I (by
    obtain ⟨bs, M, F, e, at0, run⟩ := h
    refine ⟨bs, M, F, e, at0, run.bind.imp fun x bs1 M1 F1 H1 t1 w1 run1 v1 r1 => ?_⟩
    obtain ⟨z, ez, k⟩ := run1.of_lft
    refine ⟨by rw [List.length_map]; exact small_ok (by omega), fun p hp => ?_⟩
    obtain ⟨w2, t2⟩ := w1.lost (.tup ((T :: Ts).map fun T => V.ty T.name)) hp
    cases e1 : isAny x (T :: Ts) with
    | none =>
      rw [e1] at ez
      cases ez
    | some b =>
      rw [e1] at ez
      cases ez
      have e2 : ∃ b0, isTy T x = some b0 := by
        unfold isAny at e1
        split at e1
        · exact ⟨_, by assumption⟩
        · exact ⟨_, by assumption⟩
        · cases e1
      obtain ⟨b0, e2⟩ := e2
      obtain ⟨t, ty, kt⟩ := tyX_of w2.sub r1 e2
      refine ⟨v1, p, _, t, (T :: Ts).map fun T => Value.type T.name, b, rfl, upd_same, ?_, ty, isAny_kit (x := v1) kt e1, k bs1 F1 _ t2 w2 _ (.bl b)⟩
      generalize (T :: Ts) = l
      induction l with
      | nil => exact .nil
      | cons a r ih => exact .cons (.ty _) ih)⟩
theorem z_sorted : CallZ K (rSortedI K) sorted1 := by
  intro bs M F H xs ds z Q w r ez q
  unfold sorted1 at ez
  split at ez
  · rename_i es
    cases e : intsOf es with
    | none =>
      rw [e] at ez
      cases ez
    | some ns =>
      rw [e, Option.bind_some] at ez
      split at ez
      · cases ez
        obtain ⟨a, vs, rfl, hs, s⟩ := one_lst w r
        rw [intsOf_map e] at s
        rw [s.ints] at hs
        refine ⟨a, ns, rfl, hs, fun ns' p h1 h2 hp => ?_⟩
        rw [pw_eq (h1.trans (sortI_perm ns).symm) h2 (sortI_pw ns)]
        obtain ⟨w2, t2⟩ := w.laid (.lst ((sortI ns).map V.int)) hp
        exact q _ _ _ _ t2 w2 (.lst upd_same ((Reps.of_ints (K := K) (bs := bs) (F := F) (sortI ns)).tr t2))
      · cases ez
  · cases ez
/-- sorted of a tuple of whole numbers is asked of the library below -/
def dIndex : F1 := fun ds _ => match ds with
  | [.lst xs, .int i] => (intsOf xs).bind fun ns => if i ∈ ns then some (.int (ns.idxOf i)) else none
  | _ => none
end

/-! ### statements -/
inductive Oc where
  | nx (e : Ev) | rt (d : D) | bk (e : Ev) | ct (e : Ev)
abbrev DS := Ev → Mo Oc
/-- a statement's state over the def's entry (bs0, F0, H0) -/
def AtS (K : PySem.W.Frag) (bs0 : List Addr) (F0 H0 : Hp) (bs : List Addr) (M : MS) (F H : Hp) (σ : L2.St) (e : Ev) : Prop :=
  Tr bs0 F0 H0 bs F H ∧ Wd K bs M F H ∧ ∃ os, Slots K bs F H σ e os ∧ ∀ a ∈ os, H0 a = none
def RunS (K : PySem.W.Frag) (W : Wi) (bs0 : List Addr) (F0 H0 : Hp) (r : Option (Rs Oc × MS)) (Dn : Ends) : Prop := match r with
  | none => False
  | some (.ok (.nx e), M') => ∀ bs F H σ, AtS K bs0 F0 H0 bs M' F H σ e → Dn.nx σ H
  | some (.ok (.bk e), M') => ∀ bs F H σ, AtS K bs0 F0 H0 bs M' F H σ e → Dn.bk σ H
  | some (.ok (.ct e), M') => ∀ bs F H σ, AtS K bs0 F0 H0 bs M' F H σ e → Dn.ct σ H
  | some (.ok (.rt d), M') => ∀ bs F H v, Tr bs0 F0 H0 bs F H → Wd K bs M' F H → Rep K bs F v d → Dn.rt v H
  | some (.err c, M') => ∀ bs F H σ, Tr bs0 F0 H0 bs F H → Wd K bs M' F H → W c σ H
def liftS (K : PySem.W.Frag) (W : Wi) (f : DS) : TS := fun Dn σ H => ∃ bs0 F0 H0 bs M F e, AtS K bs0 F0 H0 bs M F H σ e ∧ RunS K W bs0 F0 H0 (f e M) Dn
abbrev ZS (X : Cx) (W : Wi) (st : Stmt) (f : DS) : Prop := PS X st (liftS X.K W f)
abbrev ZSs (X : Cx) (W : Wi) (sts : List Stmt) (f : DS) : Prop := PSs X sts (liftS X.K W f)
section
variable {K : PySem.W.Frag} {W : Wi} {bs0 bs bs' : List Addr} {M M' : MS} {F0 H0 F H F' H' : Hp} {σ : L2.St} {e : Ev}
theorem AtS.at (a : AtS K bs0 F0 H0 bs M F H σ e) : At K bs M F H σ e := ⟨a.2.1, let ⟨os, s, _⟩ := a.2.2; ⟨os, s⟩⟩
theorem AtS.tr (a : AtS K bs0 F0 H0 bs M F H σ e) (t : Tr bs F H bs' F' H') (w : Wd K bs' M' F' H') : AtS K bs0 F0 H0 bs' M' F' H' σ e := by
  obtain ⟨t0, _, os, s, n⟩ := a
  exact ⟨t0.trans t, w, os, s.tr t, n⟩
/-- from what an expression does to what the statement does with its value -/
theorem RunS.bind {α : Type} {m : Mo α} {f : α → Mo Oc} {Dn : Ends} (h : RunS K W bs0 F0 H0 (bnd m f M) Dn) (a : AtS K bs0 F0 H0 bs M F H σ e) : Run K W bs F H σ (m M) (fun x bs1 M1 F1 H1 => AtS K bs0 F0 H0 bs1 M1 F1 H1 σ e ∧ RunS K W bs0 F0 H0 (f x M1) Dn) := by
  unfold bnd at h
  cases e1 : m M with
  | none =>
    rw [e1] at h
    exact h
  | some p =>
    obtain ⟨r, M1⟩ := p
    rw [e1] at h
    cases r with
    | err c => exact fun bs1 F1 H1 t1 w1 => h bs1 F1 H1 σ (a.1.trans t1) w1
    | ok x => exact fun bs1 F1 H1 t1 w1 => ⟨a.tr t1 w1, h⟩
theorem AtS.setv {i : Nat} {x : V} {d : D} (a : AtS K bs0 F0 H0 bs M F H σ e) (r : Rep K bs F x d) : AtS K bs0 F0 H0 bs M F H (σ.set i (some x)) (e.set i (.v d)) := by
  obtain ⟨t, w, os, s, n⟩ := a
  obtain ⟨os', s', h⟩ := s.setv r i
  exact ⟨t, w, os', s', fun b hb => n b (h b hb)⟩
theorem Slots.dom : ∀ {σ : L2.St} {e : Ev} {os : List Addr}, Slots K bs F H σ e os → ∀ a ∈ os, H a ≠ none
  | _, _, _, .nil, _, h => by simp at h
  | _, _, _, .no s, a, h => Slots.dom s a h
  | _, _, _, .v _ s, a, h => Slots.dom s a h
  | _, _, _, .own h1 _ _ _ _ s, a, h => by
    rcases List.mem_cons.mp h with q | q
    · rw [q, h1]
      simp
    · exact Slots.dom s a q
  | _, _, _, .ownD h1 _ _ _ _ _ s, a, h => by
    rcases List.mem_cons.mp h with q | q
    · rw [q, h1]
      simp
    · exact Slots.dom s a q
theorem AtS.none0 (a : AtS K bs0 F0 H0 bs M F H σ e) {p : Addr} (hp : H p = none) : H0 p = none := by
  cases q : H0 p with
  | none => rfl
  | some o => exact absurd hp (a.1.dom p (by rw [q]; simp))
/-- a new list of the frame's own -/
theorem AtS.newown {i : Nat} {p : Addr} {vs : List V} {ds : List D} (a : AtS K bs0 F0 H0 bs M F H σ e) (hi : i < e.length) (hp : H p = none) (r : Reps K bs F vs ds) : AtS K bs0 F0 H0 bs M F (upd H p (.lst vs)) (σ.set i (some (.ref p))) (e.set i (.own ds)) := by
  have h0 := a.none0 hp
  obtain ⟨t, w, os, s, n⟩ := a
  obtain ⟨w2, t2⟩ := w.lost (.lst vs) hp
  obtain ⟨os', s', k⟩ := (s.tr t2).setown upd_same (w.fnone hp) (w.notin hp) r i (fun z => s.dom p z hp) hi
  exact ⟨t.trans t2, w2, os', s', fun b hb => (k b hb).elim (fun z => by rw [z]; exact h0) (n b)⟩
theorem AtS.newownD {i : Nat} {p : Addr} (a : AtS K bs0 F0 H0 bs M F H σ e) (hi : i < e.length) (hp : H p = none) : AtS K bs0 F0 H0 bs M F (upd H p (.dK [])) (σ.set i (some (.ref p))) (e.set i (.ownD [] [])) := by
  have h0 := a.none0 hp
  obtain ⟨t, w, os, s, n⟩ := a
  obtain ⟨w2, t2⟩ := w.lost (.dK []) hp
  obtain ⟨os', s', k⟩ := (s.tr t2).setownD (kvs := []) (ks := []) (ds := []) upd_same (w.fnone hp) (w.notin hp) rfl .nil i (fun z => s.dom p z hp) hi
  exact ⟨t.trans t2, w2, os', s', fun b hb => (k b hb).elim (fun z => by rw [z]; exact h0) (n b)⟩
end
def dNil' : DS := fun e => ret (.nx e)
def dSeq (f g : DS) : DS := fun e => bnd (f e) fun o => match o with
  | .nx e' => g e'
  | o => ret o
def dSet (i : Nat) (f : DE) : DS := fun e => bnd (f e) fun d => ret (.nx (e.set i (.v d)))
def dRet (f : DE) : DS := fun e => bnd (f e) fun d => ret (.rt d)
def dDrop (f : DE) : DS := fun e => bnd (f e) fun _ => ret (.nx e)
def dIfS (c : DT) (f g : DS) : DS := fun e => bnd (c e) fun k => if k = true then f e else g e
def dBrk : DS := fun e => ret (.bk e)
def dCnt : DS := fun e => ret (.ct e)
def dNever : DS := fun _ => stuck
section
variable {X : Cx} {W : Wi} {st : Stmt} {rest sts : List Stmt} {f g : DS} {fe : DE} {ex : Expr} {pos : Pos}
theorem zs_nil : ZSs X W [] dNil' := ⟨fun pins s σ H Dn I h => pss_nil.run pins s σ H Dn I (by
  obtain ⟨bs0, F0, H0, bs, M, F, e, a, run⟩ := h
  exact run _ _ _ _ a)⟩
theorem zs_cons (h1 : ZS X W st f) (h2 : ZSs X W rest g) : ZSs X W (st :: rest) (dSeq f g) := ⟨fun pins s σ H Dn I h => (pss_cons h1 h2).run pins s σ H Dn I (by
  obtain ⟨bs0, F0, H0, bs, M, F, e, a, run⟩ := h
  refine ⟨bs0, F0, H0, bs, M, F, e, a, ?_⟩
  unfold dSeq bnd at run
  cases e1 : f e M with
  | none =>
    rw [e1] at run
    exact run
  | some p =>
    obtain ⟨r, M1⟩ := p
    rw [e1] at run
    cases r with
    | err c => exact run
    | ok o =>
      cases o with
      | nx e' => exact fun bs1 F1 H1 σ1 a1 => ⟨bs0, F0, H0, bs1, M1, F1, e', a1, run⟩
      | rt d => exact run
      | bk e' => exact run
      | ct e' => exact run)⟩
theorem zs_one (h1 : ZS X W st f) : ZSs X W [st] f := ⟨fun pins s σ H Dn I h => (pss_one h1).run pins s σ H Dn I h⟩
theorem zs_set {i : Nat} {x : Str} {pos' : Pos} (hN : X.N.Nodup) (hi : X.N[i]? = some x) (hx : Loc X.env.scope x) (he : ZE X W ex fe) (hs : swapsWith ex (some (.Name x pos')) pos.line X.env = pure false := by rfl) (hf : X.fn x = true ∨ X.env.scope.names.lookup x = some .local := by first | exact .inl rfl | exact .inr rfl | assumption) :
    ZS X W (.Assign [.Name x pos'] ex pos) (dSet i fe) := ⟨fun pins s σ H Dn I h => (ps_set hN hi hx he hs hf).run pins s σ H Dn I (by
  obtain ⟨bs0, F0, H0, bs, M, F, e, a, run⟩ := h
  refine ⟨bs, M, F, e, a.at, (run.bind a).imp fun d bs1 M1 F1 H1 t1 w1 q v r => ?_⟩
  exact q.2 _ _ _ _ (q.1.setv r))⟩
/-- a new list that this def alone will hold -/
def dSetOwn (i : Nat) (g : DA) : DS := fun e => bnd (g e) fun ds => if ds.length ≤ 100000 ∧ i < e.length then ret (.nx (e.set i (.own ds))) else stuck
theorem zs_setOwn {i : Nat} {x : Str} {es : List Expr} {g : DA} {pos' p2 : Pos} (hN : X.N.Nodup) (hi : X.N[i]? = some x) (hx : Loc X.env.scope x) (he : ZA X W es g) (hs : swapsWith (.List es p2) (some (.Name x pos')) pos.line X.env = pure false := by rfl) (hf : X.fn x = true ∨ X.env.scope.names.lookup x = some .local := by first | exact .inl rfl | exact .inr rfl | assumption) :
    ZS X W (.Assign [.Name x pos'] (.List es p2) pos) (dSetOwn i g) := ⟨fun pins s σ H Dn I h => (ps_set hN hi hx (pe_lst he) hs hf).run pins s σ H Dn I (by
  obtain ⟨bs0, F0, H0, bs, M, F, e, a, run⟩ := h
  refine ⟨bs, M, F, e, a.at, (run.bind a).imp fun ds bs1 M1 F1 H1 t1 w1 q vs r => ?_⟩
  obtain ⟨a1, run1⟩ := q
  by_cases hl : ds.length ≤ 100000 ∧ i < e.length
  · rw [if_pos hl] at run1
    refine ⟨by rw [r.length]; exact small_ok hl.1, fun p hp => ?_⟩
    exact run1 _ _ _ _ (a1.newown hl.2 hp r)
  · rw [if_neg hl] at run1
    exact run1.elim)⟩
end
end Z

/-! Z5: more statements, loops, comprehensions, defs -/
namespace Z
open PySem PySem.Spec PyProof.Rows L2
variable [Tbs]

section
variable {K : PySem.W.Frag} {W : Wi} {bs0 bs bs' bs1 : List Addr} {M M' M1 : MS} {F0 H0 F H F' H' F1 H1 : Hp} {σ : L2.St} {e : Ev}
theorem Tr.rebase (a : Tr bs0 F0 H0 bs1 F1 H1) : Tr bs1 F1 H0 bs1 F1 H1 := by
  obtain ⟨m, e, _⟩ := a.pre
  refine ⟨⟨[], by simp, by simp⟩, Same.refl _, fun _ _ h => .inl h, fun x o h hx nt => a.keep0 x o h (fun z => hx (by rw [e]; exact List.mem_append_left _ z)) nt, a.dom⟩
theorem Tr.unbase (a : Tr bs0 F0 H0 bs1 F1 H1) (b : Tr bs1 F1 H0 bs F H) : Tr bs0 F0 H0 bs F H := by
  obtain ⟨m1, e1, n1⟩ := a.pre
  obtain ⟨m2, e2, n2⟩ := b.pre
  refine ⟨⟨m1 ++ m2, by rw [e2, e1, List.append_assoc], fun x hx => (List.mem_append.mp hx).elim (n1 x) (n2 x)⟩, a.fm.trans b.fm, fun x o h => ?_, fun x o h hx nt => b.keep0 x o h (fun z => ?_) nt, b.dom⟩
  · rcases b.new x o h with z | z
    · exact a.new x o z
    · exact .inr z
  · rw [e1] at z
    rcases List.mem_append.mp z with z | z
    · exact hx z
    · rw [n1 x z] at h
      cases h
theorem AtS.rebase (a : AtS K bs0 F0 H0 bs M F H σ e) : AtS K bs F H0 bs M F H σ e := ⟨a.1.rebase, a.2.1, a.2.2⟩
theorem AtS.unbase {bs2 : List Addr} {F2 H2 : Hp} {σ2 : L2.St} {e2 : Ev} {M2 : MS} (a : Tr bs0 F0 H0 bs1 F1 H1) (b : AtS K bs1 F1 H0 bs2 M2 F2 H2 σ2 e2) : AtS K bs0 F0 H0 bs2 M2 F2 H2 σ2 e2 := ⟨a.unbase b.1, b.2.1, b.2.2⟩
theorem RunS.rebase {r : Option (Rs Oc × MS)} {Dn : Ends} (a : Tr bs0 F0 H0 bs1 F1 H1) (h : RunS K W bs0 F0 H0 r Dn) : RunS K W bs1 F1 H0 r Dn := by
  match r, h with
  | some (.ok (.nx e), M'), h => exact fun bs F H σ b => h bs F H σ (b.unbase a)
  | some (.ok (.bk e), M'), h => exact fun bs F H σ b => h bs F H σ (b.unbase a)
  | some (.ok (.ct e), M'), h => exact fun bs F H σ b => h bs F H σ (b.unbase a)
  | some (.ok (.rt d), M'), h => exact fun bs F H v t w r => h bs F H v (a.unbase t) w r
  | some (.err c, M'), h => exact fun bs F H σ t w => h bs F H σ (a.unbase t) w
end

/-! ### small statements -/
section
variable {X : Cx} {W : Wi} {st : Stmt} {rest sts : List Stmt} {f g : DS} {fe : DE} {ex c : Expr} {ft : DT} {pos : Pos} {a b : List Stmt}
theorem zs_ret (he : ZE X W ex fe) : ZS X W (.Return (some ex) pos) (dRet fe) := ⟨fun pins s σ H Dn I h => (ps_ret he).run pins s σ H Dn I (by
  obtain ⟨bs0, F0, H0, bs, M, F, e, a, run⟩ := h
  exact ⟨bs, M, F, e, a.at, (run.bind a).imp fun d bs1 M1 F1 H1 t1 w1 q v r => q.2 _ _ _ _ q.1.1 w1 r⟩)⟩
theorem zs_expr (he : ZE X W ex fe) (hs : swapsWith ex none pos.line X.env = pure false := by rfl) : ZS X W (.Expr ex pos) (dDrop fe) := ⟨fun pins s σ H Dn I h => (ps_expr he hs).run pins s σ H Dn I (by
  obtain ⟨bs0, F0, H0, bs, M, F, e, a, run⟩ := h
  exact ⟨bs, M, F, e, a.at, (run.bind a).imp fun d bs1 M1 F1 H1 t1 w1 q v r => q.2 _ _ _ _ q.1⟩)⟩
theorem zs_if (hc : ZT X W c ft) (ha : ZSs X W a f) (hb : ZSs X W b g) : ZS X W (.If c a b pos) (dIfS ft f g) := ⟨fun pins s σ H Dn I h => (ps_if hc ha hb).run pins s σ H Dn I (by
  obtain ⟨bs0, F0, H0, bs, M, F, e, a, run⟩ := h
  refine ⟨bs, M, F, e, a.at, (run.bind a).imp fun k bs1 M1 F1 H1 t1 w1 q => ?_⟩
  cases k with
  | true =>
    simp only [qT, if_true] at q ⊢
    exact ⟨bs0, F0, H0, bs1, M1, F1, e, q.1, q.2⟩
  | false =>
    simp only [qT, Bool.false_eq_true, if_false] at q ⊢
    exact ⟨bs0, F0, H0, bs1, M1, F1, e, q.1, q.2⟩)⟩
theorem zs_brk : ZS X W (.Break pos) dBrk := ⟨fun pins s σ H Dn I h => ps_break.run pins s σ H Dn I (by
  obtain ⟨bs0, F0, H0, bs, M, F, e, a, run⟩ := h
  exact run _ _ _ _ a)⟩
theorem zs_never : ZS X W st dNever := ⟨fun pins s σ H Dn I h => by
  obtain ⟨bs0, F0, H0, bs, M, F, e, a, run⟩ := h
  exact run.elim⟩
theorem zss_never : ZSs X W sts dNever := ⟨fun pins s σ H Dn I h => by
  obtain ⟨bs0, F0, H0, bs, M, F, e, a, run⟩ := h
  exact run.elim⟩
/-- a, b = x, y -/
def dPar (i j : Nat) (g : DA) : DS := fun e => bnd (g e) fun ds => match ds with
  | [c, d] => ret (.nx ((e.set i (.v c)).set j (.v d)))
  | _ => stuck
theorem zs_par {i j : Nat} {x y : Str} {a b : Expr} {g : DA} {px py pt : Pos} {kt k2 pt2} (hc : X.calm = true) (hN : X.N.Nodup) (hi : X.N[i]? = some x) (hj : X.N[j]? = some y) (hij : i ≠ j)
    (hx : X.env.scope.names.lookup x = some .local) (hy : X.env.scope.names.lookup y = some .local) (ha : ZA X W [a, b] g)
    (hw : swappedStores [.Tuple [.Name x px, .Name y py] kt pt] (.Tuple [a, b] k2 pt2) X.env = pure (some [x, y]))
    (hs : swapsWithSole [.Tuple [.Name x px, .Name y py] kt pt] (.Tuple [a, b] k2 pt2) pos.line X.env = pure false := by rfl) :
    ZS X W (.Assign [.Tuple [.Name x px, .Name y py] kt pt] (.Tuple [a, b] k2 pt2) pos) (dPar i j g) := ⟨fun pins s σ H Dn I h => (ps_par hc hN hi hj hij hx hy ha hw hs).run pins s σ H Dn I (by
  obtain ⟨bs0, F0, H0, bs, M, F, e, a, run⟩ := h
  refine ⟨bs, M, F, e, a.at, (run.bind a).imp fun ds bs1 M1 F1 H1 t1 w1 q vs r => ?_⟩
  obtain ⟨a1, run1⟩ := q
  match ds, run1, r with
  | [c, d], run1, r =>
    obtain ⟨v, w, rfl, rv, rw'⟩ := r.two
    exact ⟨v, w, rfl, run1 _ _ _ _ ((a1.setv rv).setv rw')⟩
  | [], run1, _ => exact run1.elim
  | [_], run1, _ => exact run1.elim
  | _ :: _ :: _ :: _, run1, _ => exact run1.elim)⟩
def dPar3 (i j l : Nat) (g : DA) : DS := fun e => bnd (g e) fun ds => match ds with
  | [c, d, u] => ret (.nx (((e.set i (.v c)).set j (.v d)).set l (.v u)))
  | _ => stuck
theorem zs_par3 {i j l : Nat} {x y z : Str} {a b c : Expr} {g : DA} {px py pz pt : Pos} {kt k2 pt2} (hc : X.calm = true) (hN : X.N.Nodup) (hi : X.N[i]? = some x) (hj : X.N[j]? = some y) (hl : X.N[l]? = some z) (hij : i ≠ j) (hil : i ≠ l) (hjl : j ≠ l)
    (hx : X.env.scope.names.lookup x = some .local) (hy : X.env.scope.names.lookup y = some .local) (hz : X.env.scope.names.lookup z = some .local) (ha : ZA X W [a, b, c] g)
    (hw : swappedStores [.Tuple [.Name x px, .Name y py, .Name z pz] kt pt] (.Tuple [a, b, c] k2 pt2) X.env = pure (some [x, y, z]))
    (hs : swapsWithSole [.Tuple [.Name x px, .Name y py, .Name z pz] kt pt] (.Tuple [a, b, c] k2 pt2) pos.line X.env = pure false := by rfl) :
    ZS X W (.Assign [.Tuple [.Name x px, .Name y py, .Name z pz] kt pt] (.Tuple [a, b, c] k2 pt2) pos) (dPar3 i j l g) := ⟨fun pins s σ H Dn I h => (ps_par3 hc hN hi hj hl hij hil hjl hx hy hz ha hw hs).run pins s σ H Dn I (by
  obtain ⟨bs0, F0, H0, bs, M, F, e, a, run⟩ := h
  refine ⟨bs, M, F, e, a.at, (run.bind a).imp fun ds bs1 M1 F1 H1 t1 w1 q vs r => ?_⟩
  obtain ⟨a1, run1⟩ := q
  match ds, run1, r with
  | [c, d, u], run1, r =>
    cases r with
    | cons r1 r =>
      obtain ⟨v, w, rfl, rv, rw'⟩ := r.two
      exact ⟨_, v, w, rfl, run1 _ _ _ _ (((a1.setv r1).setv rv).setv rw')⟩
  | [], run1, _ => exact run1.elim
  | [_], run1, _ => exact run1.elim
  | [_, _], run1, _ => exact run1.elim
  | _ :: _ :: _ :: _ :: _, run1, _ => exact run1.elim)⟩
end

/-! ### targets -/
inductive Tg where
  | nm (i : Nat) | tp (is : List Nat)
def gNames : List Nat → TGs
  | [] => gNil
  | i :: is => gCons (gName i) (gNames is)
def gOf (K : PySem.W.Frag) : Tg → TG
  | .nm i => gName i
  | .tp is => gTup K is.length (gNames is)
def asgs : List Nat → List D → Ev → Option Ev
  | [], [], e => some e
  | i :: is, d :: ds, e => asgs is ds (e.set i (.v d))
  | _, _, _ => none
def asg : Tg → D → Ev → Option Ev
  | .nm i, d, e => some (e.set i (.v d))
  | .tp is, .tup ds, e => asgs is ds e
  | .tp _, _, _ => none
def Tg.within (vs : List Nat) : Tg → Prop
  | .nm i => i ∈ vs
  | .tp is => ∀ i ∈ is, i ∈ vs
theorem wipe_set {i : Nat} {x : Option V} : ∀ {vs : List Nat} {σ : L2.St}, i ∈ vs → wipe (σ.set i x) vs = wipe σ vs
  | [], _, h => by simp at h
  | v :: vs, σ, h => by
    unfold wipe
    by_cases hi : i ∈ vs
    · rw [wipe_set hi]
    · have e : v = i := by
        rcases List.mem_cons.mp h with q | q
        · exact q.symm
        · exact absurd q hi
      subst e
      have comm : ∀ (us : List Nat) (σ : L2.St), v ∉ us → wipe (σ.set v x) us = (wipe σ us).set v x := by
        intro us
        induction us with
        | nil => intro σ _; rfl
        | cons u us ih =>
          intro σ hu
          unfold wipe
          rw [ih σ (fun z => hu (List.mem_cons_of_mem _ z)), List.set_comm]
          exact fun z => hu (by rw [z]; exact List.mem_cons_self)
      rw [comm vs σ hi, List.set_set]
theorem asgs_step {K : PySem.W.Frag} {bs0 bs : List Addr} {M : MS} {F0 H0 F H : Hp} {Q : L2.St → Hp → Prop} {e' : Ev} : ∀ {is : List Nat} {ds : List D} {vs : List V} {σ : L2.St} {e : Ev}, AtS K bs0 F0 H0 bs M F H σ e → Reps K bs F vs ds → asgs is ds e = some e' →
    (∀ σ', AtS K bs0 F0 H0 bs M F H σ' e' → (∀ ws, (∀ i ∈ is, i ∈ ws) → wipe σ' ws = wipe σ ws) → Q σ' H) → gNames is vs σ H Q
  | [], [], vs, σ, e, a, r, h, q => by
    cases r
    cases h
    exact ⟨rfl, q σ a fun _ _ => rfl⟩
  | i :: is, d :: ds, vs, σ, e, a, r, h, q => by
    cases r with
    | cons r t =>
      refine ⟨_, _, rfl, ?_⟩
      exact asgs_step (a.setv r) t h fun σ' a' hw => q σ' a' fun ws hi => (hw ws fun j hj => hi j (List.mem_cons_of_mem _ hj)).trans (wipe_set (hi i List.mem_cons_self))
  | [], _ :: _, _, _, _, _, _, h, _ => by cases h
  | _ :: _, [], _, _, _, _, _, h, _ => by cases h
theorem asgs_len : ∀ {is : List Nat} {ds : List D} {e e' : Ev}, asgs is ds e = some e' → ds.length = is.length
  | [], [], _, _, _ => rfl
  | i :: is, d :: ds, e, e', h => congrArg (· + 1) (asgs_len (is := is) h)
  | [], _ :: _, _, _, h => by cases h
  | _ :: _, [], _, _, h => by cases h
theorem asg_step {K : PySem.W.Frag} {bs0 bs : List Addr} {M : MS} {F0 H0 F H : Hp} {Q : L2.St → Hp → Prop} {e e' : Ev} {t : Tg} {d : D} {v : V} {σ : L2.St} (a : AtS K bs0 F0 H0 bs M F H σ e) (r : Rep K bs F v d) (h : asg t d e = some e')
    (q : ∀ σ', AtS K bs0 F0 H0 bs M F H σ' e' → (∀ ws, t.within ws → wipe σ' ws = wipe σ ws) → Q σ' H) : gOf K t v σ H Q := by
  cases t with
  | nm i =>
    cases h
    exact q _ (a.setv r) fun ws hi => wipe_set hi
  | tp is =>
    cases d with
    | tup ds =>
      cases r with
      | @tup p vs _ hp s =>
        refine ⟨p, vs, rfl, .inl (.inl (a.2.1.sub _ _ hp)), by rw [s.length]; exact asgs_len h, ?_⟩
        exact asgs_step a s h q
    | _ => cases h
abbrev ZG (X : Cx) (tg : Expr) (t : Tg) : Prop := PG X tg (gOf X.K t)
/-- target = e, the target a tuple of names -/
def dUnp (t : Tg) (f : DE) : DS := fun e => bnd (f e) fun d => bnd (lft (asg t d e)) fun e' => ret (.nx e')
theorem zs_unp {X : Cx} {W : Wi} {tg ex : Expr} {t : Tg} {fe : DE} {pos : Pos} (he : ZE X W ex fe) (hg : ZG X tg t) (hs : swapsWithSole [tg] ex pos.line X.env = pure false := by rfl) (hw : swappedStores [tg] ex X.env = pure none := by rfl)
    (h1 : (assignEach [tg] X.env).map (·.2) = [assign tg X.env] := by rfl) : ZS X W (.Assign [tg] ex pos) (dUnp t fe) := ⟨fun pins s σ H Dn I h => (ps_asg he hg hs hw h1).run pins s σ H Dn I (by
  obtain ⟨bs0, F0, H0, bs, M, F, e, a, run⟩ := h
  refine ⟨bs, M, F, e, a.at, (run.bind a).imp fun d bs1 M1 F1 H1 t1 w1 q v r => ?_⟩
  obtain ⟨a1, run1⟩ := q
  cases e1 : asg t d e with
  | none =>
    rw [e1] at run1
    exact run1.elim
  | some e' =>
    rw [e1] at run1
    exact asg_step a1 r e1 fun σ' a' _ => run1 _ _ _ _ a')⟩

/-! ### what is walked -/
structure IterOk (K : PySem.W.Frag) (J : It) (bs : List Addr) (F : Hp) (items : List D) : Prop where
  go : ∀ F' H', Same F F' → Same F' H' → ∀ i, i < items.length → J.go i H'
  stop : ∀ F' H', Same F F' → Same F' H' → J.stop items.length H'
  yld : ∀ (more : List Addr) (F' H' : Hp) (M' : MS), Same F F' → Wd K (bs ++ more) M' F' H' → ∀ i x H'' d, items[i]? = some d → J.yld i H' x H'' → ∃ F'', Tr (bs ++ more) F' H' (bs ++ more) F'' H'' ∧ Wd K (bs ++ more) M' F'' H'' ∧ Rep K (bs ++ more) F'' x d
def qI (K : PySem.W.Frag) (R : It → Hp → Prop) : QT (List D) := fun items bs _ F H => ∀ J, IterOk K J bs F items → R J H
def liftI (K : PySem.W.Frag) (W : Wi) (f : DA) : TI := fun σ H R => Lf K W f (qI K R) σ H
abbrev ZI (X : Cx) (W : Wi) (tg it : Expr) (f : DA) : Prop := PI X tg it (liftI X.K W f)
def dItems (f : DE) : DA := fun e => bnd (f e) fun x => match x with
  | .lst xs => ret xs
  | .tup xs => ret xs
  | _ => stuck
section
variable {X : Cx} {W : Wi} {K : PySem.W.Frag} {bs : List Addr} {F : Hp} {tg ex : Expr} {fe : DE}
theorem iter_lst {a : Addr} {vs : List V} {ds : List D} (h : F a = some (.lst vs)) (s : Reps K bs F vs ds) : IterOk K (Itl K a) bs F ds where
  go := fun F' H' s1 s2 i hi => ⟨vs, vs[i]'(by rw [s.length]; exact hi), .inl (.inl (s2 _ _ (s1 _ _ h))), by simp [s.length, hi]⟩
  stop := fun F' H' s1 s2 => ⟨vs, .inl (.inl (s2 _ _ (s1 _ _ h))), by rw [s.length]; exact Nat.le_refl _⟩
  yld := fun more F' H' M' s1 w i x H'' d hd y => by
    obtain ⟨rfl, y⟩ := y
    obtain ⟨v, e, r⟩ := s.get hd
    have e2 := y vs (.inl (.inl (w.sub _ _ (s1 _ _ h))))
    rw [e] at e2
    cases e2
    exact ⟨F', Tr.refl _ _ _, w, r.mono s1⟩
theorem iter_tup {a : Addr} {vs : List V} {ds : List D} (h : F a = some (.tup vs)) (s : Reps K bs F vs ds) : IterOk K (Itt K a) bs F ds where
  go := fun F' H' s1 s2 i hi => ⟨vs, vs[i]'(by rw [s.length]; exact hi), .inl (.inl (s2 _ _ (s1 _ _ h))), by simp [s.length, hi]⟩
  stop := fun F' H' s1 s2 => ⟨vs, .inl (.inl (s2 _ _ (s1 _ _ h))), by rw [s.length]; exact Nat.le_refl _⟩
  yld := fun more F' H' M' s1 w i x H'' d hd y => by
    obtain ⟨rfl, y⟩ := y
    obtain ⟨v, e, r⟩ := s.get hd
    have e2 := y vs (.inl (.inl (w.sub _ _ (s1 _ _ h))))
    rw [e] at e2
    cases e2
    exact ⟨F', Tr.refl _ _ _, w, r.mono s1⟩
theorem zi_seq (hf : ZE X W ex fe) : ZI X W tg ex (dItems fe) := ⟨fun pins s σ H R I h => by
  obtain ⟨bs, M, F, e, at0, run⟩ := h
  have rb := run.bind
  cases e1 : fe e M with
  | none =>
    rw [e1] at rb
    exact rb.elim
  | some p =>
    obtain ⟨r, M1⟩ := p
    cases r with
    | err c =>
      refine (pi_list hf).run pins s σ H R I ⟨bs, M, F, e, at0, ?_⟩
      rw [e1] at rb ⊢
      exact rb
    | ok d =>
      rw [e1] at rb
      cases d with
      | lst ds =>
        refine (pi_list hf).run pins s σ H R I ⟨bs, M, F, e, at0, ?_⟩
        rw [e1]
        intro bs1 F1 H1 t1 w1 v r
        cases r with
        | @lst a vs _ hp s => exact ⟨a, rfl, ⟨vs, .inl (.inl (w1.sub _ _ hp))⟩, Run.here w1 (rb bs1 F1 H1 t1 w1) _ (iter_lst hp s)⟩
      | tup ds =>
        refine (pi_tup hf).run pins s σ H R I ⟨bs, M, F, e, at0, ?_⟩
        rw [e1]
        intro bs1 F1 H1 t1 w1 v r
        cases r with
        | @tup a vs _ hp s => exact ⟨a, rfl, ⟨vs, .inl (.inl (w1.sub _ _ hp))⟩, Run.here w1 (rb bs1 F1 H1 t1 w1) _ (iter_tup hp s)⟩
      | _ =>
        refine (pi_list hf).run pins s σ H R I ⟨bs, M, F, e, at0, ?_⟩
        rw [e1]
        exact fun bs1 F1 H1 t1 w1 => (rb bs1 F1 H1 t1 w1).elim⟩
/-- ranges -/
def rngD (lo : Int) (n : Nat) : List D := (List.range n).map fun i : Nat => .int (lo + (i : Int))
theorem iter_rng {lo : Int} {n : Nat} : IterOk K (Itr lo n) bs F (rngD lo n) where
  go := fun F' H' s1 s2 i hi => by
    unfold rngD at hi
    rw [List.length_map, List.length_range] at hi
    exact hi
  stop := fun F' H' s1 s2 => by
    unfold rngD
    rw [List.length_map, List.length_range]
    exact Nat.le_refl _
  yld := fun more F' H' M' s1 w i x H'' d hd y => by
    obtain ⟨rfl, rfl⟩ := y
    unfold rngD at hd
    rw [List.getElem?_map] at hd
    cases e : (List.range n)[i]? with
    | none =>
      rw [e] at hd
      cases hd
    | some k =>
      rw [e] at hd
      obtain ⟨h1, h2⟩ := List.getElem?_eq_some_iff.mp e
      rw [List.getElem_range] at h2
      subst h2
      cases hd
      exact ⟨F', Tr.refl _ _ _, w, .int _⟩
def int1 : List D → Option Int
  | [.int j] => some j
  | _ => none
def int2 : List D → Option (Int × Int)
  | [.int i, .int j] => some (i, j)
  | _ => none
theorem int1_rep {ds : List D} {j : Int} {vs : List V} (h : int1 ds = some j) (r : Reps K bs F vs ds) : vs = [.int j] := by
  unfold int1 at h
  split at h
  · cases h
    obtain ⟨v, rfl, q⟩ := r.one
    cases q
    rfl
  · cases h
theorem int2_rep {ds : List D} {p : Int × Int} {vs : List V} (h : int2 ds = some p) (r : Reps K bs F vs ds) : vs = [.int p.1, .int p.2] := by
  unfold int2 at h
  split at h
  · cases h
    obtain ⟨v, u, rfl, q, q'⟩ := r.two
    cases q
    cases q'
    rfl
  · cases h
def b62 (i : Int) : Bool := decide (-4611686018427387904 ≤ i) && decide (i < 4611686018427387904)
theorem b62_of {i : Int} (h : b62 i = true) : -(2 ^ 62) ≤ i ∧ i < 2 ^ 62 := by
  unfold b62 at h
  simp only [Bool.and_eq_true, decide_eq_true_eq] at h
  omega
def dRng1 (g : DA) : DA := fun e => bnd (g e) fun ds => bnd (lft (int1 ds)) fun j => if b62 j = true then ret (rngD 0 j.toNat) else stuck
def dRng2 (g : DA) : DA := fun e => bnd (g e) fun ds => bnd (lft (int2 ds)) fun p => if (b62 p.1 && b62 p.2) = true then ret (rngD p.1 (p.2 - p.1).toNat) else stuck
theorem zi_rng1 {g : DA} {p pos : Pos} (hg : Gl X "range") (hm : X.mg "range" = none) (ha : ZA X W [ex] g) (hs : starEach [ex] X.env = [(false, eval ex X.env)] := by rfl) : ZI X W tg (.Call (.Name "range" p) [ex] [] pos) (dRng1 g) := ⟨fun pins s σ H R I h => (pi_range1 hg hm ha hs).run pins s σ H R I (by
  obtain ⟨bs, M, F, e, at0, run⟩ := h
  refine ⟨bs, M, F, e, at0, run.bind.imp fun ds bs1 M1 F1 H1 t1 w1 run1 vs r => ?_⟩
  cases e1 : int1 ds with
  | none =>
    rw [e1] at run1
    exact run1.elim
  | some j =>
    rw [e1] at run1
    have run2 := Run.here w1 run1.bind
    by_cases hj : b62 j = true
    · simp only [hj, if_true] at run2
      exact ⟨j, int1_rep e1 r, (b62_of hj).1, (b62_of hj).2, Run.here w1 run2 _ iter_rng⟩
    · simp only [hj, if_false] at run2
      exact run2.elim)⟩
theorem zi_rng2 {a b : Expr} {g : DA} {p pos : Pos} (hg : Gl X "range") (hm : X.mg "range" = none) (ha : ZA X W [a, b] g) (hs : starEach [a, b] X.env = [(false, eval a X.env), (false, eval b X.env)] := by rfl) (hs2 : starEach [b] X.env = [(false, eval b X.env)] := by rfl) : ZI X W tg (.Call (.Name "range" p) [a, b] [] pos) (dRng2 g) := ⟨fun pins s σ H R I h => (pi_range2 hg hm ha hs hs2).run pins s σ H R I (by
  obtain ⟨bs, M, F, e, at0, run⟩ := h
  refine ⟨bs, M, F, e, at0, run.bind.imp fun ds bs1 M1 F1 H1 t1 w1 run1 vs r => ?_⟩
  cases e1 : int2 ds with
  | none =>
    rw [e1] at run1
    exact run1.elim
  | some j =>
    rw [e1] at run1
    have run2 := Run.here w1 run1.bind
    by_cases hj : (b62 j.1 && b62 j.2) = true
    · simp only [hj, if_true] at run2
      rw [Bool.and_eq_true] at hj
      exact ⟨j.1, j.2, int2_rep e1 r, ⟨(b62_of hj.1).1, (b62_of hj.1).2, (b62_of hj.2).1, (b62_of hj.2).2⟩, Run.here w1 run2 _ iter_rng⟩
    · simp only [hj, if_false] at run2
      exact run2.elim)⟩
/-- enumerate of a list -/
def enmD : Nat → List D → List D
  | _, [] => []
  | k, x :: xs => .tup [.int k, x] :: enmD (k + 1) xs
theorem enmD_len : ∀ (k : Nat) (xs : List D), (enmD k xs).length = xs.length
  | _, [] => rfl
  | k, x :: xs => congrArg (· + 1) (enmD_len (k + 1) xs)
theorem enmD_get : ∀ (k : Nat) (xs : List D) (i : Nat) (d : D), (enmD k xs)[i]? = some d → ∃ x, xs[i]? = some x ∧ d = .tup [.int ((k + i : Nat) : Int), x]
  | _, [], _, _, h => by simp [enmD] at h
  | k, x :: xs, 0, d, h => by
    simp [enmD] at h
    exact ⟨x, rfl, h.symm⟩
  | k, x :: xs, i + 1, d, h => by
    obtain ⟨y, h1, h2⟩ := enmD_get (k + 1) xs i d (by simpa [enmD] using h)
    refine ⟨y, by simpa using h1, ?_⟩
    rw [h2, show k + 1 + i = k + (i + 1) by omega]
theorem iter_enm {a : Addr} {vs : List V} {ds : List D} (h : F a = some (.lst vs)) (s : Reps K bs F vs ds) : IterOk K (Ite K a) bs F (enmD 0 ds) where
  go := fun F' H' s1 s2 i hi => by
    rw [enmD_len] at hi
    exact ⟨vs, vs[i]'(by rw [s.length]; exact hi), .inl (.inl (s2 _ _ (s1 _ _ h))), by simp [s.length, hi]⟩
  stop := fun F' H' s1 s2 => ⟨vs, .inl (.inl (s2 _ _ (s1 _ _ h))), by rw [s.length, enmD_len]; exact Nat.le_refl _⟩
  yld := fun more F' H' M' s1 w i x H'' d hd y => by
    obtain ⟨T, z, rfl, hT, rfl, y⟩ := y
    obtain ⟨d', e1, rfl⟩ := enmD_get 0 ds i d hd
    obtain ⟨v, e, r⟩ := s.get e1
    have e2 := y vs (.inl (.inl (w.sub _ _ (s1 _ _ h))))
    rw [e] at e2
    cases e2
    obtain ⟨w2, t2⟩ := w.laid (.tup [.int (i : Nat), z]) hT
    refine ⟨_, t2, w2, .tup upd_same (.cons ?_ (.cons ((r.mono s1).tr t2) .nil))⟩
    rw [Nat.zero_add]
    exact .int _
def lst1 : List D → Option (List D)
  | [.lst xs] => some xs
  | _ => none
theorem lst1_rep {ds es : List D} {vs : List V} (h : lst1 ds = some es) (r : Reps K bs F vs ds) : ∃ a us, vs = [.ref a] ∧ F a = some (.lst us) ∧ Reps K bs F us es := by
  unfold lst1 at h
  split at h
  · cases h
    obtain ⟨v, rfl, q⟩ := r.one
    cases q with
    | lst hp s => exact ⟨_, _, rfl, hp, s⟩
  · cases h
def dEnm (g : DA) : DA := fun e => bnd (g e) fun ds => bnd (lft (lst1 ds)) fun xs => ret (enmD 0 xs)
theorem zi_enm {elts : List Expr} {kk : Nat} {g : DA} {p pos tpos : Pos} (hg : Gl X "enumerate") (hm : X.mg "enumerate" = none) (ha : ZA X W [ex] g) (hs : starEach [ex] X.env = [(false, eval ex X.env)] := by rfl) : ZI X W (.Tuple elts kk tpos) (.Call (.Name "enumerate" p) [ex] [] pos) (dEnm g) := ⟨fun pins s σ H R I h => (pi_enum hg hm ha hs).run pins s σ H R I (by
  obtain ⟨bs, M, F, e, at0, run⟩ := h
  refine ⟨bs, M, F, e, at0, run.bind.imp fun ds bs1 M1 F1 H1 t1 w1 run1 vs r => ?_⟩
  cases e1 : lst1 ds with
  | none =>
    rw [e1] at run1
    exact run1.elim
  | some xs =>
    rw [e1] at run1
    have run2 := Run.here w1 run1.bind
    obtain ⟨a, us, rfl, hp, s⟩ := lst1_rep e1 r
    exact ⟨a, us, rfl, .inl (.inl (w1.sub _ _ hp)), Run.here w1 run2 _ (iter_enm hp s)⟩)⟩
/-- zip -/
def zipD : List D → List D → List D
  | x :: xs, y :: ys => .tup [x, y] :: zipD xs ys
  | _, _ => []
theorem zipD_len : ∀ (xs ys : List D), (zipD xs ys).length = min xs.length ys.length
  | [], _ => by simp [zipD]
  | _ :: _, [] => by simp [zipD]
  | x :: xs, y :: ys => by
    simp only [zipD, List.length_cons, zipD_len xs ys]
    omega
theorem zipD_get : ∀ (xs ys : List D) (i : Nat) (d : D), (zipD xs ys)[i]? = some d → ∃ x y, xs[i]? = some x ∧ ys[i]? = some y ∧ d = .tup [x, y]
  | [], _, _, _, h => by simp [zipD] at h
  | _ :: _, [], _, _, h => by simp [zipD] at h
  | x :: xs, y :: ys, 0, d, h => by
    simp [zipD] at h
    exact ⟨x, y, rfl, rfl, h.symm⟩
  | x :: xs, y :: ys, i + 1, d, h => by
    obtain ⟨a, b, h1, h2, h3⟩ := zipD_get xs ys i d (by simpa [zipD] using h)
    exact ⟨a, b, by simpa using h1, by simpa using h2, h3⟩
theorem iter_zipL {a b : Addr} {vs us : List V} {ds es : List D} (h : F a = some (.lst vs)) (s : Reps K bs F vs ds) (h' : F b = some (.lst us)) (s' : Reps K bs F us es) : IterOk K (Itz K a b) bs F (zipD ds es) where
  go := fun F' H' s1 s2 i hi => by
    rw [zipD_len] at hi
    exact ⟨vs, us, vs[i]'(by rw [s.length]; omega), us[i]'(by rw [s'.length]; omega), .inl (.inl (s2 _ _ (s1 _ _ h))), .inl (.inl (s2 _ _ (s1 _ _ h'))), by simp, by simp⟩
  stop := fun F' H' s1 s2 => ⟨vs, us, .inl (.inl (s2 _ _ (s1 _ _ h))), .inl (.inl (s2 _ _ (s1 _ _ h'))), by rw [s.length, s'.length, zipD_len]; omega⟩
  yld := fun more F' H' M' s1 w i x H'' d hd y => by
    obtain ⟨T, p, q, rfl, hT, rfl, y1, y2⟩ := y
    obtain ⟨c, c', e1, e1', rfl⟩ := zipD_get ds es i d hd
    obtain ⟨v, e, r⟩ := s.get e1
    obtain ⟨v', e', r'⟩ := s'.get e1'
    have e2 := y1 vs (.inl (.inl (w.sub _ _ (s1 _ _ h))))
    have e2' := y2 us (.inl (.inl (w.sub _ _ (s1 _ _ h'))))
    rw [e] at e2
    rw [e'] at e2'
    cases e2
    cases e2'
    obtain ⟨w2, t2⟩ := w.laid (.tup [p, q]) hT
    exact ⟨_, t2, w2, .tup upd_same (.cons ((r.mono s1).tr t2) (.cons ((r'.mono s1).tr t2) .nil))⟩
theorem iter_zipT {a b : Addr} {vs us : List V} {ds es : List D} (h : F a = some (.tup vs)) (s : Reps K bs F vs ds) (h' : F b = some (.tup us)) (s' : Reps K bs F us es) : IterOk K (RZ.ItzT K a b) bs F (zipD ds es) where
  go := fun F' H' s1 s2 i hi => by
    rw [zipD_len] at hi
    exact ⟨vs, us, vs[i]'(by rw [s.length]; omega), us[i]'(by rw [s'.length]; omega), .inl (.inl (s2 _ _ (s1 _ _ h))), .inl (.inl (s2 _ _ (s1 _ _ h'))), by simp, by simp⟩
  stop := fun F' H' s1 s2 => ⟨vs, us, .inl (.inl (s2 _ _ (s1 _ _ h))), .inl (.inl (s2 _ _ (s1 _ _ h'))), by rw [s.length, s'.length, zipD_len]; omega⟩
  yld := fun more F' H' M' s1 w i x H'' d hd y => by
    obtain ⟨T, p, q, rfl, hT, rfl, y1, y2⟩ := y
    obtain ⟨c, c', e1, e1', rfl⟩ := zipD_get ds es i d hd
    obtain ⟨v, e, r⟩ := s.get e1
    obtain ⟨v', e', r'⟩ := s'.get e1'
    have e2 := y1 vs (.inl (.inl (w.sub _ _ (s1 _ _ h))))
    have e2' := y2 us (.inl (.inl (w.sub _ _ (s1 _ _ h'))))
    rw [e] at e2
    rw [e'] at e2'
    cases e2
    cases e2'
    obtain ⟨w2, t2⟩ := w.laid (.tup [p, q]) hT
    exact ⟨_, t2, w2, .tup upd_same (.cons ((r.mono s1).tr t2) (.cons ((r'.mono s1).tr t2) .nil))⟩
def zip2 : List D → Option (List D)
  | [.lst xs, .lst ys] => some (zipD xs ys)
  | [.tup xs, .tup ys] => some (zipD xs ys)
  | _ => none
def dZip (g : DA) : DA := fun e => bnd (g e) fun ds => lft (zip2 ds)
theorem zi_zip {a b : Expr} {elts : List Expr} {kk : Nat} {g : DA} {p pos tpos : Pos} (hg : Gl X "zip") (hm : X.mg "zip" = none) (ha : ZA X W [a, b] g) (hs : starEach [a, b] X.env = (false, eval a X.env) :: starEach [b] X.env := by rfl) (hpl : (backTo pos (starEach [b] X.env)).any (·.1) = false := by rfl) : ZI X W (.Tuple elts kk tpos) (.Call (.Name "zip" p) [a, b] [] pos) (dZip g) := ⟨fun pins s σ H R I h => (RZ.pi_zipA hg hm ha hs hpl).run pins s σ H R I (by
  obtain ⟨bs, M, F, e, at0, run⟩ := h
  refine ⟨bs, M, F, e, at0, run.bind.imp fun ds bs1 M1 F1 H1 t1 w1 run1 vs r => ?_⟩
  obtain ⟨z, ez, k⟩ := run1.of_lft
  have k2 := k bs1 F1 H1 (Tr.refl _ _ _) w1
  unfold zip2 at ez
  split at ez
  · cases ez
    obtain ⟨v, u, rfl, r1, r2⟩ := r.two
    cases r1 with
    | lst h1 s1 =>
      cases r2 with
      | lst h2 s2 => exact ⟨_, _, _, _, rfl, .inl ⟨.inl (.inl (w1.sub _ _ h1)), .inl (.inl (w1.sub _ _ h2)), k2 _ (iter_zipL h1 s1 h2 s2)⟩⟩
  · cases ez
    obtain ⟨v, u, rfl, r1, r2⟩ := r.two
    cases r1 with
    | tup h1 s1 =>
      cases r2 with
      | tup h2 s2 => exact ⟨_, _, _, _, rfl, .inr ⟨.inl (.inl (w1.sub _ _ h1)), .inl (.inl (w1.sub _ _ h2)), k2 _ (iter_zipT h1 s1 h2 s2)⟩⟩
  · cases ez)⟩
end

/-! ### for -/
def dLoop (t : Tg) (body : DS) : List D → DS
  | [], e => ret (.nx e)
  | x :: xs, e => bnd (lft (asg t x e)) fun e1 => bnd (body e1) fun o => match o with
    | .nx e2 => dLoop t body xs e2
    | .ct e2 => dLoop t body xs e2
    | .bk e2 => ret (.nx e2)
    | .rt d => ret (.rt d)
def dFor (fi : DA) (t : Tg) (body : DS) : DS := fun e => bnd (fi e) fun items => dLoop t body items e
theorem zs_for {X : Cx} {W : Wi} {tg iter : Expr} {body : List Stmt} {fi : DA} {t : Tg} {fb : DS} {pos : Pos} (hp : PassesOwn (model X.prog X.w) X.A X.env X.xe) (hc : X.calm = true) (hi : ZI X W tg iter fi) (hg : ZG X tg t) (hb : ZSs X W body fb)
    (hs : ∀ x, foldedSetIterable iter X.env x = pure x := by intro _; rfl) : ZS X W (.For tg iter body [] pos) (dFor fi t fb) := ⟨fun pins s σ H Dn I h => (ps_for hp hc hi hg hb hs).run pins s σ H Dn I (by
  obtain ⟨bs0, F0, H0, bs, M, F, e, a, run⟩ := h
  refine ⟨bs, M, F, e, a.at, (run.bind a).imp fun items bs1 M1 F1 H1 t1 w1 q J it => ?_⟩
  obtain ⟨a1, run1⟩ := q
  have run2 := run1.rebase a1.1
  refine ⟨fun i m σ H => m = items.length - i ∧ i ≤ items.length ∧ ∃ bs M F e, AtS X.K bs1 F1 H0 bs M F H σ e ∧ RunS X.K W bs1 F1 H0 (dLoop t fb (items.drop i) e M) Dn, ⟨_, rfl, Nat.zero_le _, bs1, M1, F1, e, a1.rebase, run2⟩, ?_⟩
  rintro i m σ2 H2 ⟨rfl, hi2, bs2, M2, F2, e2, a2, r2⟩
  obtain ⟨more, eb, _⟩ := a2.1.pre
  by_cases hlt : i < items.length
  · have ed : items.drop i = items[i] :: items.drop (i + 1) := List.drop_eq_getElem_cons hlt
    rw [ed] at r2
    refine .inr ⟨it.go F2 H2 a2.1.fm a2.2.1.sub i hlt, fun σ' H' => ∃ bs M F e, AtS X.K bs1 F1 H0 bs M F H' σ' e ∧ RunS X.K W bs1 F1 H0 (dLoop t fb (items.drop (i + 1)) e M) Dn, fun σ' H' n => ⟨_, by omega, rfl, hlt, n⟩, fun x H3 y => ?_⟩
    obtain ⟨F3, t3, w3, r3⟩ := it.yld more F2 H2 M2 a2.1.fm (eb ▸ a2.2.1) i x H3 items[i] (List.getElem?_eq_getElem hlt) y
    rw [← eb] at t3 w3 r3
    have a3 := a2.tr t3 w3
    unfold dLoop at r2
    cases e1 : asg t items[i] e2 with
    | none =>
      rw [e1] at r2
      exact r2.elim
    | some e4 =>
      rw [e1] at r2
      refine asg_step a3 r3 e1 fun σ4 a4 _ => ⟨bs1, F1, H0, bs2, M2, F3, e4, a4, ?_⟩
      unfold bnd lft at r2
      simp only at r2
      cases e5 : fb e4 M2 with
      | none =>
        rw [e5] at r2
        exact r2
      | some p =>
        obtain ⟨r, M5⟩ := p
        rw [e5] at r2
        cases r with
        | err c => exact r2
        | ok o =>
          cases o with
          | nx e6 => exact fun bs F H σ a => ⟨bs, M5, F, e6, a, r2⟩
          | ct e6 => exact fun bs F H σ a => ⟨bs, M5, F, e6, a, r2⟩
          | bk e6 => exact fun bs F H σ a => r2 bs F H σ a
          | rt d => exact r2
  · have e0 : i = items.length := by omega
    refine .inl ⟨by rw [e0]; exact it.stop F2 H2 a2.1.fm a2.2.1.sub, ?_⟩
    rw [e0, List.drop_length] at r2
    exact r2 _ _ _ _ a2)⟩

/-! ### while -/
def dWh (c : DT) (body : DS) : Nat → DS
  | 0, _ => stuck
  | n + 1, e => bnd (c e) fun k => if k = true then (bnd (body e) fun o => match o with
    | .nx e2 => dWh c body n e2
    | .ct e2 => dWh c body n e2
    | .bk e2 => ret (.nx e2)
    | .rt d => ret (.rt d)) else ret (.nx e)
theorem zs_while {X : Cx} {W : Wi} {c : Expr} {body : List Stmt} {ft : DT} {fb : DS} {pos : Pos} (n : Nat) (hp : PassesOwn (model X.prog X.w) X.A X.env X.xe) (hc : ZT X W c ft) (hb : ZSs X W body fb) : ZS X W (.While c body [] pos) (dWh ft fb n) := ⟨fun pins s σ H Dn I h => (ps_while hp hc hb).run pins s σ H Dn I (by
  obtain ⟨bs0, F0, H0, bs, M, F, e, a, run⟩ := h
  refine ⟨fun m σ H => ∃ bs M F e, AtS X.K bs0 F0 H0 bs M F H σ e ∧ RunS X.K W bs0 F0 H0 (dWh ft fb m e M) Dn, ⟨n, bs, M, F, e, a, run⟩, ?_⟩
  rintro m σ2 H2 ⟨bs2, M2, F2, e2, a2, r2⟩
  cases m with
  | zero => exact r2.elim
  | succ m =>
    unfold dWh at r2
    refine ⟨bs2, M2, F2, e2, a2.at, (r2.bind a2).imp fun k bs3 M3 F3 H3 t3 w3 q => ?_⟩
    obtain ⟨a3, r3⟩ := q
    cases k with
    | false =>
      simp only [qT, Bool.false_eq_true, if_false] at r3 ⊢
      exact r3 _ _ _ _ a3
    | true =>
      simp only [qT, if_true] at r3 ⊢
      refine ⟨fun σ' H' => ∃ bs M F e, AtS X.K bs0 F0 H0 bs M F H' σ' e ∧ RunS X.K W bs0 F0 H0 (dWh ft fb m e M) Dn, fun σ' H' q => ⟨m, Nat.lt_succ_self m, q⟩, bs0, F0, H0, bs3, M3, F3, e2, a3, ?_⟩
      unfold bnd at r3
      cases e5 : fb e2 M3 with
      | none =>
        rw [e5] at r3
        exact r3
      | some p =>
        obtain ⟨r, M5⟩ := p
        rw [e5] at r3
        cases r with
        | err c => exact r3
        | ok o =>
          cases o with
          | nx e6 => exact fun bs F H σ a => ⟨bs, M5, F, e6, a, r3⟩
          | ct e6 => exact fun bs F H σ a => ⟨bs, M5, F, e6, a, r3⟩
          | bk e6 => exact fun bs F H σ a => r3 bs F H σ a
          | rt d => exact r3)⟩
end Z

/-! Z6: comprehensions, lists of the def's own, objects, defs, calls -/
namespace Z
open PySem PySem.Spec PyProof.Rows L2
variable [Tbs]

/-! ### comprehensions -/
def wipeE (e : Ev) : List Nat → Ev
  | [] => e
  | u :: vs => (wipeE e vs).set u .no
theorem Slots.wipe {K : PySem.W.Frag} {bs : List Addr} {F H : Hp} {σ : L2.St} {e : Ev} {os : List Addr} (s : Slots K bs F H σ e os) : ∀ vs : List Nat, ∃ os', Slots K bs F H (L2.wipe σ vs) (wipeE e vs) os' ∧ ∀ a ∈ os', a ∈ os
  | [] => ⟨os, s, fun _ h => h⟩
  | u :: vs => by
    obtain ⟨os1, s1, h1⟩ := Slots.wipe s vs
    obtain ⟨os2, s2, h2⟩ := s1.setno (x := none) u
    exact ⟨os2, s2, fun a ha => h1 a (h2 a ha)⟩
theorem wipe_wipe (σ : L2.St) (vs : List Nat) : L2.wipe (L2.wipe σ vs) vs = L2.wipe σ vs := by
  have key : ∀ (us : List Nat), (∀ u ∈ us, u ∈ vs) → L2.wipe (L2.wipe σ vs) us = L2.wipe σ vs := by
    intro us
    induction us with
    | nil => intro _; rfl
    | cons u us ih =>
      intro h
      show (L2.wipe (L2.wipe σ vs) us).set u none = _
      rw [ih fun w hw => h w (List.mem_cons_of_mem _ hw)]
      have q : ∀ (ws : List Nat), u ∈ ws → (L2.wipe σ ws).set u none = L2.wipe σ ws := by
        intro ws
        induction ws with
        | nil => intro hz; simp at hz
        | cons w ws ih2 =>
          intro hz
          show ((L2.wipe σ ws).set w none).set u none = (L2.wipe σ ws).set w none
          by_cases e : w = u
          · rw [e, List.set_set]
          · rw [List.set_comm _ _ e, ih2 ((List.mem_cons.mp hz).elim (fun z => absurd z.symm e) id)]
      exact q vs (h u List.mem_cons_self)
  exact key vs fun _ h => h
theorem bnd_assoc {α β γ : Type} {m : Mo α} {f : α → Mo β} {g : β → Mo γ} : bnd (bnd m f) g = bnd m fun a => bnd (f a) g := by
  funext M
  unfold bnd
  cases e : m M with
  | none => rfl
  | some p =>
    obtain ⟨r, M'⟩ := p
    cases r <;> rfl
abbrev DTs := Ev → Mo Bool
def liftTs (K : PySem.W.Frag) (W : Wi) (f : DTs) : TT := liftT K W f
abbrev ZTs (X : Cx) (W : Wi) (ifs : List Expr) (f : DT) : Prop := PTs X ifs (liftT X.K W f)
def dYes : DT := fun _ => ret true
theorem zts_nil {X : Cx} {W : Wi} : ZTs X W [] dYes := ⟨fun pins s σ H Q I h => pts_nil.run pins s σ H Q I (by
  obtain ⟨bs, M, F, e, at0, run⟩ := h
  have z : qT Q true bs M F H := Run.here at0.1 run
  exact z)⟩
theorem zts_one {X : Cx} {W : Wi} {c : Expr} {f : DT} (h : ZT X W c f) : ZTs X W [c] f := pts_one h
/-- no error leaves -/
def noErr {α : Type} (m : Mo α) : Mo α := fun M => match m M with
  | some (.ok a, M') => some (.ok a, M')
  | _ => none
def dLcLoop (t : Tg) (ft : DT) (fe : DE) (e0 : Ev) : List D → List D → Mo (List D)
  | [], acc => ret acc
  | x :: xs, acc => bnd (lft (asg t x e0)) fun e1 => bnd (noErr (ft e1)) fun k => if k = true then bnd (noErr (fe e1)) fun y => if acc.length < 100000 then dLcLoop t ft fe e0 xs (acc ++ [y]) else stuck else dLcLoop t ft fe e0 xs acc
def dLc (fi : DA) (t : Tg) (ft : DT) (fe : DE) (vs : List Nat) : DE := fun e => bnd (fi e) fun items => bnd (dLcLoop t ft fe (wipeE e vs) items []) fun ys => ret (.lst ys)
section
variable {X : Cx} {W : Wi} {K : PySem.W.Frag}
theorem Run.noErr {α : Type} {bs : List Addr} {M : MS} {F H : Hp} {σ σ' : L2.St} {m : Mo α} {q : QT α} (h : Run K W bs F H σ (noErr m M) q) : Run K W0 bs F H σ' (m M) q := by
  unfold Z.noErr at h
  cases e : m M with
  | none =>
    rw [e] at h
    exact h
  | some p =>
    obtain ⟨r, M'⟩ := p
    rw [e] at h
    cases r with
    | ok a => exact h
    | err c => exact h.elim
theorem Run.bindB {α β : Type} {bs1 bs : List Addr} {M : MS} {F1 H1 F H : Hp} {σ : L2.St} {m : Mo α} {f : α → Mo β} {q : QT β} (h : Run K W bs1 F1 H1 σ (bnd m f M) q) (t : Tr bs1 F1 H1 bs F H) : Run K W bs F H σ (m M) (fun a _ M' _ _ => Run K W bs1 F1 H1 σ (f a M') q) := by
  unfold bnd at h
  cases e1 : m M with
  | none =>
    rw [e1] at h
    exact h
  | some p =>
    obtain ⟨r, M1⟩ := p
    rw [e1] at h
    cases r with
    | err c => exact fun bs' F' H' t' w' => h bs' F' H' (t.trans t') w'
    | ok a => exact fun bs' F' H' t' w' => h
/-- the new list is frozen -/
theorem freeze_ok {bs1 bs : List Addr} {M : MS} {F1 H1 F H : Hp} {D : Addr} {vs : List V} {acc : List Z.D} (hD : H1 D = none) (t : Tr bs1 F1 H1 bs F H) (w : Wd K bs M F H) (hd : H D = some (.lst vs)) (fd : F D = none) (nb : D ∉ bs) (rp : Reps K bs F vs acc) :
    Tr bs1 F1 H1 bs (upd F D (.lst vs)) H ∧ Wd K bs M (upd F D (.lst vs)) H ∧ Rep K bs (upd F D (.lst vs)) (.ref D) (.lst acc) := by
  have sF : Same F (upd F D (.lst vs)) := fun b u e => by rw [upd_ne (ne_of_none e fd)]; exact e
  refine ⟨⟨t.pre, t.fm.trans sF, fun a o h => ?_, t.keep0, t.dom⟩, ⟨fun b u e => ?_, w.nd, w.len, fun i b ds e1 e2 => ?_, w.tab, tabF_upd w.tabF w.tab fun _ e => by rw [hd] at e; cases e⟩, .lst upd_same ?_⟩
  · by_cases z : a = D
    · exact .inr (by rw [z]; exact hD)
    · rw [upd_ne z] at h
      exact t.new a o h
  · by_cases z : b = D
    · subst z
      rw [upd_same] at e
      rw [hd]
      exact e
    · rw [upd_ne z] at e
      exact w.sub b u e
  · obtain ⟨n1, us, e3, r⟩ := w.objs i b ds e1 e2
    have z : b ≠ D := fun z => nb (by rw [← z]; exact List.mem_of_getElem? e1)
    refine ⟨by rw [upd_ne z]; exact n1, us, e3, ?_⟩
    have := r.mono (more := []) sF
    rwa [List.append_nil] at this
  · have := rp.mono (more := []) sF
    rwa [List.append_nil] at this
/-- a list of one's own is changed -/
theorem wr_ok {bs1 bs : List Addr} {M : MS} {F1 H1 F H : Hp} {D : Addr} {o : HO} {vs : List V} (hD : H1 D = none) (t : Tr bs1 F1 H1 bs F H) (w : Wd K bs M F H) (fd : F D = none) (nb : D ∉ bs) (hs : (∃ us, H D = some (.lst us)) ∨ ∃ kvs, H D = some (.dK kvs)) : Tr bs1 F1 H1 bs F (upd H D o) ∧ Wd K bs M F (upd H D o) := by
  refine ⟨⟨t.pre, t.fm, t.new, fun a u e hx nt => ?_, fun a e => ?_⟩, ⟨fun b u e => ?_, w.nd, w.len, fun i b ds e1 e2 => ?_, hs.elim (fun ⟨_, q⟩ => tabs_lst w.tab q) fun ⟨_, q⟩ => tabs_dK w.tab q, w.tabF⟩⟩
  · rw [upd_ne (ne_of_none e hD)]
    exact t.keep0 a u e hx nt
  · by_cases z : a = D
    · subst z
      rw [upd_same]
      simp
    · rw [upd_ne z]
      exact t.dom a e
  · rw [upd_ne (ne_of_none e fd)]
    exact w.sub b u e
  · obtain ⟨n1, us, e3, r⟩ := w.objs i b ds e1 e2
    have z : b ≠ D := fun z => nb (by rw [← z]; exact List.mem_of_getElem? e1)
    exact ⟨n1, us, by rw [upd_ne z]; exact e3, r⟩
/-- the invariant of a comprehension -/
def LcI (K : PySem.W.Frag) (W : Wi) (bs1 : List Addr) (F1 H1 : Hp) (σ : L2.St) (D : Addr) (r : List Z.D → Mo (List Z.D)) (Q : VK) (H : Hp) : Prop :=
  ∃ bs M F vs acc, Tr bs1 F1 H1 bs F H ∧ Wd K bs M F H ∧ H D = some (.lst vs) ∧ F D = none ∧ D ∉ bs ∧ Reps K bs F vs acc ∧ Run K W bs1 F1 H1 σ (bnd (r acc) (fun ys => ret (Z.D.lst ys)) M) (qE K Q)
theorem lc_lift {wi : DA} {t : Tg} {ft : DT} {fe : DE} {vs : List Nat} {σ : L2.St} {H : Hp} {Q : VK} (hw : t.within vs) (h : liftE K W (dLc wi t ft fe vs) σ H Q) : tLc (liftI K W wi) (gOf K t) (liftT K W0 ft) (liftE K W0 fe) vs σ H Q := by
  obtain ⟨bs, M, F, e, at0, run⟩ := h
  refine ⟨bs, M, F, e, at0, run.bind.imp fun items bs1 M1 F1 H1 t1 w1 run1 J it D hD => ?_⟩
  have at1 := at0.tr t1 w1
  obtain ⟨w1', os1, sl1⟩ := at1
  obtain ⟨os0, sl0, _⟩ := sl1.wipe vs
  refine ⟨fun i m H => m = items.length - i ∧ i ≤ items.length ∧ LcI K W bs1 F1 H1 σ D (dLcLoop t ft fe (wipeE e vs) (items.drop i)) Q H, ⟨_, rfl, Nat.zero_le _, ?_⟩, ?_⟩
  · obtain ⟨w2, t2⟩ := w1.lost (.lst []) hD
    exact ⟨bs1, M1, F1, [], [], t2, w2, upd_same, w1.fnone hD, w1.notin hD, .nil, run1⟩
  · rintro i m H2 ⟨rfl, hi2, bs2, M2, F2, us, acc, t2, w2, hd, fd, nb, rp, r2⟩
    obtain ⟨more, eb, _⟩ := t2.pre
    by_cases hlt : i < items.length
    · have ed : items.drop i = items[i] :: items.drop (i + 1) := List.drop_eq_getElem_cons hlt
      rw [ed] at r2
      refine .inr ⟨it.go F2 H2 t2.fm w2.sub i hlt, LcI K W bs1 F1 H1 σ D (dLcLoop t ft fe (wipeE e vs) (items.drop (i + 1))) Q, fun H' n => ⟨_, by omega, rfl, hlt, n⟩, fun x H3 y => ?_⟩
      obtain ⟨F3, t3, w3, r3⟩ := it.yld more F2 H2 M2 t2.fm (eb ▸ w2) i x H3 items[i] (List.getElem?_eq_getElem hlt) y
      rw [← eb] at t3 w3 r3
      have t03 := t2.trans t3
      have a3 : AtS K bs1 F1 H1 bs2 M2 F3 H3 (L2.wipe σ vs) (wipeE e vs) ∨ True := .inr trivial
      have s3 := sl0.tr t03
      unfold dLcLoop at r2
      cases e1 : asg t items[i] (wipeE e vs) with
      | none =>
        rw [e1] at r2
        exact r2.elim
      | some e4 =>
        rw [e1] at r2
        have as3 : AtS K bs2 F3 (fun _ => none) bs2 M2 F3 H3 (L2.wipe σ vs) (wipeE e vs) := ⟨⟨⟨[], by simp, by simp⟩, Same.refl _, fun _ _ h => .inl h, fun _ _ h _ _ => (by cases h), fun _ h => absurd rfl h⟩, w3, _, s3, fun _ _ => rfl⟩
        refine asg_step as3 r3 e1 fun σ4 a4 hw4 => ⟨by rw [hw4 vs hw]; exact wipe_wipe σ vs, ?_⟩
        have r2' : Run K W bs1 F1 H1 σ (bnd (bnd (noErr (ft e4)) fun k => if k = true then bnd (noErr (fe e4)) fun y => if acc.length < 100000 then dLcLoop t ft fe (wipeE e vs) (items.drop (i + 1)) (acc ++ [y]) else stuck else dLcLoop t ft fe (wipeE e vs) (items.drop (i + 1)) acc) (fun ys => ret (Z.D.lst ys)) M2) (qE K Q) := r2
        have r5 := (bnd_assoc ▸ r2').bindB t03
        refine ⟨bs2, M2, F3, e4, a4.at, r5.noErr.imp fun k bs6 M6 F6 H6 t6 w6 r6 => ?_⟩
        have t06 := t03.trans t6
        have hd6 := t6.keep _ _ (t3.keep _ _ hd nb) nb
        have fd6 := t6.free (t3.keep _ _ hd nb) (t3.free hd fd)
        have nb6 := t6.notin (t3.keep _ _ hd nb) nb
        cases k with
        | false =>
          simp only [qT, Bool.false_eq_true, if_false] at r6 ⊢
          exact ⟨bs6, M6, F6, us, acc, t06, w6, hd6, fd6, nb6, (rp.tr t3).tr t6, r6⟩
        | true =>
          simp only [qT, if_true] at r6 ⊢
          have r7 := (bnd_assoc ▸ r6).bindB t06
          refine ⟨bs6, M6, F6, e4, a4.at.tr t6 w6, r7.noErr.imp fun y bs8 M8 F8 H8 t8 w8 r8 v8 rv8 => ?_⟩
          by_cases hl : acc.length < 100000
          · rw [if_pos hl] at r8
            have t08 := t06.trans t8
            have hd8 := t8.keep _ _ hd6 nb6
            have fd8 := t8.free hd6 fd6
            have nb8 := t8.notin hd6 nb6
            have rp8 := ((rp.tr t3).tr t6).tr t8
            obtain ⟨t9, w9⟩ := wr_ok (o := .lst (us ++ [v8])) (vs := us) hD t08 w8 fd8 nb8 (.inl ⟨_, hd8⟩)
            exact ⟨us, hd8, by rw [rp8.length, sizeLine_eq]; omega, bs8, M8, F8, us ++ [v8], acc ++ [y], t9, w9, upd_same, fd8, nb8, rp8.append (.cons rv8 .nil), r8⟩
          · rw [if_neg hl] at r8
            exact r8.elim
    · have e0 : i = items.length := by omega
      refine .inl ⟨by rw [e0]; exact it.stop F2 H2 t2.fm w2.sub, ?_⟩
      rw [e0, List.drop_length] at r2
      obtain ⟨t9, w9, rr⟩ := freeze_ok hD t2 w2 hd fd nb rp
      exact r2 _ _ _ t9 w9 _ rr
theorem ze_lc {elt tg iter : Expr} {ifs : List Expr} {scope : Scope} {own : List (Str × Nat)} {pos : Pos} {fi : DA} {t : Tg} {ft : DT} {fe : DE} (hw : t.within (own.map (·.2))) (hc : X.calm = true) (hN : X.N.Nodup) (hi : ZI X W tg iter fi) (ok : BlkOk X.N X.env.scope scope own)
    (hg : ∀ (s : Shared) (H : Hp) (C : Addr) (cl : List (Str × Addr)) (fp : List Addr), ZG (X.blk s H scope (compEnvC scope cl C X.env) fp) tg t) (ht : ∀ (s : Shared) (H : Hp) (C : Addr) (cl : List (Str × Addr)) (fp : List Addr), ZTs (X.blk s H scope (compEnvC scope cl C X.env) fp) W0 ifs ft)
    (he : ∀ (s : Shared) (H : Hp) (C : Addr) (cl : List (Str × Addr)) (fp : List Addr), ZE (X.blk s H scope (compEnvC scope cl C X.env) fp) W0 elt fe) (hs : ∀ x, foldedSetIterable iter X.env x = pure x := by intro _; rfl) :
    ZE X W (.ListComp elt [⟨tg, iter, ifs, 0⟩] scope pos) (dLc fi t ft fe (own.map (·.2))) :=
  ⟨fun pins s σ H Q I h => (pe_lc hc hN hi ok hg ht he hs).run pins s σ H Q I (lc_lift hw h)⟩
/-- x = [.. for ..], on one line -/
theorem zs_setLc {i : Nat} {y : Str} {py : Pos} {elt tg iter : Expr} {ifs : List Expr} {scope : Scope} {own : List (Str × Nat)} {pos spos : Pos} {fi : DA} {t : Tg} {ft : DT} {fe : DE} (hw : t.within (own.map (·.2))) (hc : X.calm = true) (hN : X.N.Nodup) (hy : X.N[i]? = some y) (hyl : X.env.scope.names.lookup y = some .local)
    (hsw : swapsWith (.ListComp elt [⟨tg, iter, ifs, 0⟩] scope pos) (some (.Name y py)) spos.line X.env = pure true) (hi : ZI X W tg iter fi) (ok : BlkOk X.N X.env.scope scope own)
    (hg : ∀ (s : Shared) (H : Hp) (C : Addr) (cl : List (Str × Addr)) (fp : List Addr), ZG (X.blk s H scope (compEnvC scope cl C X.env) fp) tg t) (ht : ∀ (s : Shared) (H : Hp) (C : Addr) (cl : List (Str × Addr)) (fp : List Addr), ZTs (X.blk s H scope (compEnvC scope cl C X.env) fp) W0 ifs ft)
    (he : ∀ (s : Shared) (H : Hp) (C : Addr) (cl : List (Str × Addr)) (fp : List Addr), ZE (X.blk s H scope (compEnvC scope cl C X.env) fp) W0 elt fe) (hs : ∀ x, foldedSetIterable iter X.env x = pure x := by intro _; rfl) :
    ZS X W (.Assign [.Name y py] (.ListComp elt [⟨tg, iter, ifs, 0⟩] scope pos) spos) (dSet i (dLc fi t ft fe (own.map (·.2)))) :=
  ⟨fun pins s σ H Dn I h => (ps_setLc hc hN hy hyl hsw hi ok hg ht he hs).run pins s σ H Dn I (by
    obtain ⟨bs0, F0, H0, bs, M, F, e, a, run⟩ := h
    exact lc_lift hw ⟨bs, M, F, e, a.at, (run.bind a).imp fun d bs1 M1 F1 H1 t1 w1 q v r => q.2 _ _ _ _ (q.1.setv r)⟩)⟩
end
end Z

/-! Z7: lists of the def's own, mutable lists, defs, the law's end -/
namespace Z
open PySem PySem.Spec PyProof.Rows L2
variable [Tbs]

/-! ### a list of one's own becomes a value -/
def frz (j : Nat) (e : Ev) : Ev := match e[j]? with
  | some (.own ds) => e.set j (.v (.lst ds))
  | some (.ownD ks ds) => e.set j (.v (.dct ks ds))
  | _ => e
theorem frz_succ (x : Sl) (e : Ev) (j : Nat) : frz (j + 1) (x :: e) = x :: frz j e := by
  unfold frz
  rw [List.getElem?_cons_succ]
  cases e[j]? with
  | none => rfl
  | some s => cases s <;> rfl
def dFrz (j : Nat) (g : DS) : DS := fun e => g (frz j e)
section
variable {K : PySem.W.Frag} {W : Wi} {bs0 bs : List Addr} {M : MS} {F0 H0 F H : Hp} {σ : L2.St} {e : Ev}
theorem Slots.other {a : Addr} {o : HO} (fa : F a = none) : ∀ {σ : L2.St} {e : Ev} {os : List Addr}, a ∉ os → Slots K bs F H σ e os → Slots K bs (upd F a o) H σ e os := by
  have sF : Same F (upd F a o) := fun b u q => by rw [upd_ne (ne_of_none q fa)]; exact q
  have mono : ∀ {v : V} {d : Z.D}, Rep K bs F v d → Rep K bs (upd F a o) v d := fun r => by
    have := r.mono (more := []) sF
    rwa [List.append_nil] at this
  have monos : ∀ {v : List V} {d : List Z.D}, Reps K bs F v d → Reps K bs (upd F a o) v d := fun r => by
    have := r.mono (more := []) sF
    rwa [List.append_nil] at this
  intro σ e os ha s
  induction s with
  | nil => exact .nil
  | no t ih => exact .no (ih ha)
  | v r t ih => exact .v (mono r) (ih ha)
  | own h hf hb ho r t ih => exact .own h (by rw [upd_ne (fun z => ha (by rw [z]; exact List.mem_cons_self))]; exact hf) hb ho (monos r) (ih fun z => ha (List.mem_cons_of_mem _ z))
  | ownD h hf hb ho hk r t ih => exact .ownD h (by rw [upd_ne (fun z => ha (by rw [z]; exact List.mem_cons_self))]; exact hf) hb ho hk (monos r) (ih fun z => ha (List.mem_cons_of_mem _ z))
theorem Slots.frz : ∀ {σ : L2.St} {e : Ev} {os : List Addr} (j : Nat), Slots K bs F H σ e os → ∃ F' os', Slots K bs F' H σ (Z.frz j e) os' ∧ (∀ a ∈ os', a ∈ os) ∧ (F' = F ∨ ∃ a o, a ∈ os ∧ F a = none ∧ a ∉ bs ∧ H a = some o ∧ F' = upd F a o ∧ ∀ ps, o ≠ .tbl ps) := by
  intro σ e os j s
  have key : ∀ {σ : L2.St} {e : Ev} {os : List Addr} (j : Nat), Slots K bs F H σ e os → (∃ ds, e[j]? = some (.own ds)) ∨ (∃ ks ds, e[j]? = some (.ownD ks ds)) → ∃ F' os', Slots K bs F' H σ (Z.frz j e) os' ∧ (∀ a ∈ os', a ∈ os) ∧ (∃ a o, a ∈ os ∧ F a = none ∧ a ∉ bs ∧ H a = some o ∧ F' = upd F a o ∧ ∀ ps, o ≠ .tbl ps) := by
    intro σ e os j s
    induction s generalizing j with
    | nil => intro h; rcases h with ⟨_, h⟩ | ⟨_, _, h⟩ <;> simp at h
    | no t ih =>
      intro h
      cases j with
      | zero => rcases h with ⟨_, h⟩ | ⟨_, _, h⟩ <;> simp at h
      | succ j =>
        obtain ⟨F', os', q1, q2, q3⟩ := ih j (by simpa using h)
        refine ⟨F', os', ?_, q2, q3⟩
        rw [frz_succ]
        exact .no q1
    | v r t ih =>
      intro h
      cases j with
      | zero => rcases h with ⟨_, h⟩ | ⟨_, _, h⟩ <;> simp at h
      | succ j =>
        obtain ⟨F', os', q1, q2, q3⟩ := ih j (by simpa using h)
        refine ⟨F', os', ?_, q2, q3⟩
        obtain ⟨a, o, _, fa, _, _, rfl, _⟩ := q3
        have sF : Same F (upd F a o) := fun b u q => by rw [upd_ne (ne_of_none q fa)]; exact q
        have r' := r.mono (more := []) sF
        rw [List.append_nil] at r'
        rw [frz_succ]
        exact .v r' q1
    | @own a vs ds σ e os h1 hf hb ho r t ih =>
      intro h
      cases j with
      | zero =>
        have sF : Same F (upd F a (.lst vs)) := fun b u q => by rw [upd_ne (ne_of_none q hf)]; exact q
        have r' := r.mono (more := []) sF
        rw [List.append_nil] at r'
        exact ⟨upd F a (.lst vs), os, .v (.lst upd_same r') (t.other hf ho), fun b hb => List.mem_cons_of_mem _ hb, a, _, List.mem_cons_self, hf, hb, h1, rfl, fun _ z => by cases z⟩
      | succ j =>
        obtain ⟨F', os', q1, q2, a2, o, m2, fa, nb, h2, rfl, hto⟩ := ih j (by simpa using h)
        have sF : Same F (upd F a2 o) := fun b u q => by rw [upd_ne (ne_of_none q fa)]; exact q
        have r' := r.mono (more := []) sF
        rw [List.append_nil] at r'
        have ne : a ≠ a2 := fun z => ho (by rw [z]; exact m2)
        refine ⟨_, a :: os', ?_, fun b hb => (List.mem_cons.mp hb).elim (fun z => by rw [z]; exact List.mem_cons_self) fun z => List.mem_cons_of_mem _ (q2 b z), a2, o, List.mem_cons_of_mem _ m2, fa, nb, h2, rfl, hto⟩
        rw [frz_succ]
        exact .own h1 (by rw [upd_ne ne]; exact hf) hb (fun z => ho (q2 _ z)) r' q1
    | @ownD a kvs ks ds σ e os h1 hf hb ho hk r t ih =>
      intro h
      cases j with
      | zero =>
        have sF : Same F (upd F a (.dK kvs)) := fun b u q => by rw [upd_ne (ne_of_none q hf)]; exact q
        have r' := r.mono (more := []) sF
        rw [List.append_nil] at r'
        exact ⟨upd F a (.dK kvs), os, .v (.dct upd_same hk r') (t.other hf ho), fun b hb => List.mem_cons_of_mem _ hb, a, _, List.mem_cons_self, hf, hb, h1, rfl, fun _ z => by cases z⟩
      | succ j =>
        obtain ⟨F', os', q1, q2, a2, o, m2, fa, nb, h2, rfl, hto⟩ := ih j (by simpa using h)
        have sF : Same F (upd F a2 o) := fun b u q => by rw [upd_ne (ne_of_none q fa)]; exact q
        have r' := r.mono (more := []) sF
        rw [List.append_nil] at r'
        have ne : a ≠ a2 := fun z => ho (by rw [z]; exact m2)
        refine ⟨_, a :: os', ?_, fun b hb => (List.mem_cons.mp hb).elim (fun z => by rw [z]; exact List.mem_cons_self) fun z => List.mem_cons_of_mem _ (q2 b z), a2, o, List.mem_cons_of_mem _ m2, fa, nb, h2, rfl, hto⟩
        rw [frz_succ]
        exact .ownD h1 (by rw [upd_ne ne]; exact hf) hb (fun z => ho (q2 _ z)) hk r' q1
  by_cases h : (∃ ds, e[j]? = some (.own ds)) ∨ (∃ ks ds, e[j]? = some (.ownD ks ds))
  · obtain ⟨F', os', q1, q2, q3⟩ := key j s h
    exact ⟨F', os', q1, q2, .inr q3⟩
  · refine ⟨F, os, ?_, fun _ h => h, .inl rfl⟩
    unfold Z.frz
    split
    · rename_i ds q
      exact absurd (.inl ⟨ds, q⟩) h
    · rename_i ks ds q
      exact absurd (.inr ⟨ks, ds, q⟩) h
    · exact s
theorem Wd.frz (w : Wd K bs M F H) {a : Addr} {o : HO} (fa : F a = none) (nb : a ∉ bs) (ha : H a = some o) (ho : ∀ ps, o ≠ .tbl ps) : Wd K bs M (upd F a o) H := by
  have sF : Same F (upd F a o) := fun b u e => by rw [upd_ne (ne_of_none e fa)]; exact e
  refine ⟨fun b u e => ?_, w.nd, w.len, fun i b ds e1 e2 => ?_, w.tab, tabF_upd w.tabF w.tab fun ps e => ho ps (by rw [ha] at e; exact Option.some.inj e)⟩
  · by_cases z : b = a
    · subst z
      rw [upd_same] at e
      rw [ha]
      exact e
    · rw [upd_ne z] at e
      exact w.sub b u e
  · obtain ⟨n1, us, e3, r⟩ := w.objs i b ds e1 e2
    have z : b ≠ a := fun z => nb (by rw [← z]; exact List.mem_of_getElem? e1)
    refine ⟨by rw [upd_ne z]; exact n1, us, e3, ?_⟩
    have := r.mono (more := []) sF
    rwa [List.append_nil] at this
theorem AtS.frz (j : Nat) (a : AtS K bs0 F0 H0 bs M F H σ e) : ∃ F', AtS K bs0 F0 H0 bs M F' H σ (Z.frz j e) := by
  obtain ⟨t, w, os, s, n⟩ := a
  obtain ⟨F', os', s', m, q⟩ := s.frz j
  rcases q with rfl | ⟨p, o, mp, fp, nb, hp, rfl, ho⟩
  · exact ⟨_, t, w, os', s', fun b hb => n b (m b hb)⟩
  · have sF : Same F (upd F p o) := fun b u e => by rw [upd_ne (ne_of_none e fp)]; exact e
    refine ⟨_, ⟨t.pre, t.fm.trans sF, fun b u h => ?_, t.keep0, t.dom⟩, w.frz fp nb hp ho, os', s', fun b hb => n b (m b hb)⟩
    by_cases z : b = p
    · exact .inr (by rw [z]; exact n p mp)
    · rw [upd_ne z] at h
      exact t.new b u h
end
theorem zss_frz {X : Cx} {W : Wi} {sts : List Stmt} {g : DS} (j : Nat) (h : ZSs X W sts g) : ZSs X W sts (dFrz j g) := ⟨fun pins s σ H Dn I q => h.run pins s σ H Dn I (by
  obtain ⟨bs0, F0, H0, bs, M, F, e, a, run⟩ := q
  obtain ⟨F', a'⟩ := a.frz j
  exact ⟨bs0, F0, H0, bs, M, F', _, a', run⟩)⟩

/-! ### append to a list of one's own, its items -/
def dApp (i : Nat) (fe : DE) : DS := fun e => match e[i]? with
  | some (.own ds) => bnd (fe e) fun d => if ds.length < 100000 then ret (.nx (e.set i (.own (ds ++ [d])))) else stuck
  | _ => stuck
def dIxOwn (i : Nat) (fb : DE) : DE := fun e => match e[i]? with
  | some (.own ds) => bnd (fb e) fun y => fun M => lft (ixD (.lst ds) y M) M
  | some (.v d) => bnd (fb e) fun y => fun M => lft (ixD d y M) M
  | _ => stuck
def dLenOwn (i : Nat) : DE := fun e => match e[i]? with
  | some (.own ds) => ret (.int ds.length)
  | _ => stuck
section
variable {K : PySem.W.Frag} {W : Wi} {bs0 bs : List Addr} {M : MS} {F0 H0 F H : Hp} {σ : L2.St} {e : Ev}
/-- the list in a slot is changed -/
theorem Slots.put {a : Addr} {us : List V} {es : List Z.D} (o : HO) (ho' : o = .lst us) (rr : Reps K bs F us es) : ∀ {σ : L2.St} {e : Ev} {os : List Addr} (i : Nat), Slots K bs F H σ e os → σ[i]? = some (some (.ref a)) → (∃ ds, e[i]? = some (.own ds)) → Slots K bs F (upd H a o) σ (e.set i (.own es)) os := by
  subst ho'
  intro σ e os i s h1 h2
  have keep : ∀ {σ : L2.St} {e : Ev} {os : List Addr}, a ∉ os → Slots K bs F H σ e os → Slots K bs F (upd H a (.lst us)) σ e os := by
    intro σ e os ha s
    induction s with
    | nil => exact .nil
    | no t ih => exact .no (ih ha)
    | v r t ih => exact .v r (ih ha)
    | own h hf hb ho r t ih => exact .own (by rw [upd_ne (fun z => ha (by rw [z]; exact List.mem_cons_self))]; exact h) hf hb ho r (ih fun z => ha (List.mem_cons_of_mem _ z))
    | ownD h hf hb ho hk r t ih => exact .ownD (by rw [upd_ne (fun z => ha (by rw [z]; exact List.mem_cons_self))]; exact h) hf hb ho hk r (ih fun z => ha (List.mem_cons_of_mem _ z))
  induction s generalizing i with
  | nil => simp at h1
  | no t ih =>
    cases i with
    | zero =>
      obtain ⟨ds, h2⟩ := h2
      simp at h2
    | succ i => exact .no (ih i (by simpa using h1) (by simpa using h2))
  | v r t ih =>
    cases i with
    | zero =>
      obtain ⟨ds, h2⟩ := h2
      simp at h2
    | succ i => exact .v r (ih i (by simpa using h1) (by simpa using h2))
  | @own b vs ds σ e os h hf hb ho r t ih =>
    cases i with
    | zero =>
      simp at h1
      subst h1
      exact .own upd_same hf hb ho rr (keep ho t)
    | succ i =>
      have t' := ih i (by simpa using h1) (by simpa using h2)
      have ma : a ∈ os := by
        obtain ⟨ds', h2⟩ := h2
        obtain ⟨a', vs', q1, _, _, _, q5, _⟩ := t.getOwn (i := i) (by simpa using h2)
        have h1' : σ[i]? = some (some (V.ref a)) := by simpa using h1
        rw [h1'] at q1
        cases q1
        exact q5
      exact .own (by rw [upd_ne (fun z => ho (by rw [z]; exact ma))]; exact h) hf hb ho r t'
  | @ownD b kvs ks ds σ e os h hf hb ho hk r t ih =>
    cases i with
    | zero =>
      obtain ⟨ds, h2⟩ := h2
      simp at h2
    | succ i =>
      have t' := ih i (by simpa using h1) (by simpa using h2)
      have ma : a ∈ os := by
        obtain ⟨ds', h2⟩ := h2
        obtain ⟨a', vs', q1, _, _, _, q5, _⟩ := t.getOwn (i := i) (by simpa using h2)
        have h1' : σ[i]? = some (some (V.ref a)) := by simpa using h1
        rw [h1'] at q1
        cases q1
        exact q5
      exact .ownD (by rw [upd_ne (fun z => ho (by rw [z]; exact ma))]; exact h) hf hb ho hk r t'
theorem AtS.put {i : Nat} {a : Addr} {us : List V} {ds es : List Z.D} (at0 : AtS K bs0 F0 H0 bs M F H σ e) (h1 : σ[i]? = some (some (.ref a))) (h2 : e[i]? = some (.own ds)) (rr : Reps K bs F us es) : AtS K bs0 F0 H0 bs M F (upd H a (.lst us)) σ (e.set i (.own es)) := by
  obtain ⟨t, w, os, s, n⟩ := at0
  obtain ⟨a', vs', q1, q2, q3, q4, q5, _⟩ := s.getOwn h2
  rw [h1] at q1
  cases q1
  obtain ⟨t', w'⟩ := wr_ok (o := .lst us) (vs := us) (n a q5) t w q3 q4 (.inl ⟨_, q2⟩)
  exact ⟨t', w', os, s.put _ rfl rr i h1 ⟨ds, h2⟩, n⟩
end
section
variable {X : Cx} {W : Wi} {ex b : Expr} {fe fb : DE} {pos pos' p p2 : Pos} {x : Str}
theorem zs_app {i : Nat} (hx : PE X (.Name x p) (tVar i)) (he : ZE X W ex fe) (hs : swapsWith (.Call (.Attribute (.Name x p) "append" p2) [ex] [] pos') none pos.line X.env = pure false := by rfl)
    (hb : attributeBase (.Name x p) "append" X.env (eval (.Name x p) X.env) = eval (.Name x p) X.env := by rfl) (he1 : starEach [ex] X.env = (false, eval ex X.env) :: starEach [] X.env := by rfl) (hline : (p2.endLine == pos'.line) = true := by rfl)
    (hfew : ((backTo pos' (starEach (ex :: []) X.env)).all (fun x => !x.1) && (backToKw pos' (keywordEach [] X.env)).all (fun x => x.1.isSome)
      && decide ((ex :: []).length + ([] : List Keyword).length + (if ([] : List Keyword).isEmpty then 0 else 1) < 30)) = true := by rfl) :
    ZS X W (.Expr (.Call (.Attribute (.Name x p) "append" p2) [ex] [] pos') pos) (dApp i fe) := ⟨fun pins s σ H Dn I h => (ps_expr (pe_bm PySem.F.plainAttrs_list PySem.F.slot_list_append PySem.F.type_list_append mt_append hx (pa_cons he pa_nil he1) (hline := hline) (hfew := hfew) (hs := he1)) hs).run pins s σ H Dn I (by
  obtain ⟨bs0, F0, H0, bs, M, F, e, a, run⟩ := h
  unfold dApp at run
  cases e1 : e[i]? with
  | none =>
    rw [e1] at run
    exact run.elim
  | some sl0 =>
    rw [e1] at run
    cases sl0 with
    | own ds =>
      obtain ⟨_, _, os, sl, _⟩ := id a
      obtain ⟨p, vs, q1, q2, q3, q4, q5, q6⟩ := sl.getOwn e1
      refine ⟨.ref p, q1, .inl ⟨rfl, vs, .inl (.inl q2)⟩, bs, M, F, e, a.at, (run.bind a).imp fun d bs1 M1 F1 H1 t1 w1 q v r => ?_⟩
      obtain ⟨a1, run1⟩ := q
      by_cases hl : ds.length < 100000
      · rw [if_pos hl] at run1
        have k2 := t1.keep _ _ q2 q4
        have rr := (q6.tr t1).append (.cons r .nil)
        exact ⟨p, vs, v, rfl, rfl, k2, by rw [q6.length, sizeLine_eq]; omega, run1 _ _ _ _ (a1.put q1 e1 rr)⟩
      · rw [if_neg hl] at run1
        exact run1.elim
    | _ => exact run.elim)⟩
theorem ze_ixOwn {i : Nat} (hx : PE X (.Name x p) (tVar i)) (hb : ZE X W b fb) (hs : PlainIx b := by exact fun _ _ => rfl) : ZE X W (.Subscript (.Name x p) b pos) (dIxOwn i fb) := ⟨fun pins s σ H Q I h => (pe_ix ix_seq hx hb hs).run pins s σ H Q I (by
  obtain ⟨bs, M, F, e, ⟨w, os, sl⟩, run⟩ := h
  unfold dIxOwn at run
  cases e1 : e[i]? with
  | none =>
    rw [e1] at run
    exact run.elim
  | some sl0 =>
    rw [e1] at run
    cases sl0 with
    | own ds =>
      obtain ⟨p, vs, q1, q2, q3, q4, q5, q6⟩ := sl.getOwn e1
      refine ⟨.ref p, q1, bs, M, F, e, ⟨w, os, sl⟩, run.bind.imp fun y bs1 M1 F1 H1 t1 w1 run1 v r => ?_⟩
      obtain ⟨z, ez, k⟩ := run1.of_lft
      have k2 := t1.keep _ _ q2 q4
      cases y with
      | int j =>
        cases r
        obtain ⟨u, e3, r3⟩ := atI_rep (q6.tr t1) (show atI ds j = some z from ez)
        exact .inl ⟨p, vs, j, u, rfl, rfl, .inl (.inl k2), e3, k _ _ _ (Tr.refl _ _ _) w1 _ r3⟩
      | _ => cases ez
    | v d =>
      obtain ⟨v0, q1, r0⟩ := sl.get e1
      refine ⟨v0, q1, bs, M, F, e, ⟨w, os, sl⟩, run.bind.imp fun y bs1 M1 F1 H1 t1 w1 run1 v r => ?_⟩
      obtain ⟨z, ez, k⟩ := run1.of_lft
      exact z_ix bs1 M1 F1 H1 _ _ _ _ z Q w1 (r0.tr t1) r ez fun v bs' F' H' t w r => k bs' F' H' t w v r
    | _ => exact run.elim)⟩
/-- a mutable list's item is stored -/
def dPut (fo fi fe : DE) : DS := fun e => bnd (fe e) fun d => bnd (fo e) fun o => bnd (fi e) fun k => fun M => match o, k with
  | .obj n, .int j => match M[n]? with
    | some xs => match ixN xs.length j with
      | some q => some (.ok (.nx e), M.set n (xs.set q d))
      | none => none
    | none => none
  | _, _ => none
theorem zs_put {o i : Expr} {fo fi : DE} (he : ZE X W ex fe) (ho : ZE X W o fo) (hi : ZE X W i fi) (ha : ∀ v, assign (.Subscript o i p) X.env v = (do
      let ov ← holding [v] (eval o X.env)
      let iv ← holding [v, ov] (eval i X.env)
      standAt p
      holding [v, ov, iv] (setItem ov iv v)
      release [v, ov, iv] []) := by intro _; rfl) (hs : swapsWithSole [.Subscript o i p] ex pos.line X.env = pure false := by rfl) (hw : swappedStores [.Subscript o i p] ex X.env = pure none := by rfl)
    (h1 : (assignEach [.Subscript o i p] X.env).map (·.2) = [assign (.Subscript o i p) X.env] := by rfl) : ZS X W (.Assign [.Subscript o i p] ex pos) (dPut fo fi fe) := ⟨fun pins s σ H Dn I h => (ps_asg he (pg_sub ho hi set_list ha) hs hw h1).run pins s σ H Dn I (by
  obtain ⟨bs0, F0, H0, bs, M, F, e, a, run⟩ := h
  refine ⟨bs, M, F, e, a.at, (run.bind a).imp fun d bs1 M1 F1 H1 t1 w1 q v r => ?_⟩
  obtain ⟨a1, run1⟩ := q
  refine ⟨bs1, M1, F1, e, a1.at, (run1.bind a1).imp fun o bs2 M2 F2 H2 t2 w2 q2 v2 r2 => ?_⟩
  obtain ⟨a2, run2⟩ := q2
  refine ⟨bs2, M2, F2, e, a2.at, (run2.bind a2).imp fun k bs3 M3 F3 H3 t3 w3 q3 v3 r3 => ?_⟩
  obtain ⟨a3, run3⟩ := q3
  have r1' := (r.tr t2).tr t3
  have r2' := r2.tr t3
  cases o with
  | obj n =>
    cases k with
    | int j =>
      simp only at run3
      cases r2' with
      | @obj _ b hb =>
        cases r3
        cases e1 : M3[n]? with
        | none =>
          rw [e1] at run3
          exact run3.elim
        | some xs =>
          rw [e1] at run3
          simp only at run3
          cases e2 : ixN xs.length j with
          | none =>
            rw [e2] at run3
            exact run3.elim
          | some q =>
            rw [e2] at run3
            obtain ⟨_, vs, e3, s3⟩ := w3.objs n b xs hb e1
            obtain ⟨w4, t4⟩ := w3.write hb (s3.set r1' q)
            refine ⟨b, vs, j, q, rfl, rfl, e3, by rw [s3.length]; exact e2, ?_⟩
            exact run3 _ _ _ _ (a3.tr t4 w4)
    | _ => exact run3.elim
  | _ => exact run3.elim)⟩
end

/-! ### defs -/
def mkDF (n : Nat) (f : DS) : DF := fun ds M => match f (ds.map Sl.v ++ List.replicate (n - ds.length) .no) M with
  | some (.ok (.nx _), M') => some (.ok .non, M')
  | some (.ok (.rt d), M') => some (.ok d, M')
  | some (.err c, M') => some (.err c, M')
  | _ => none
theorem slots_no {K : PySem.W.Frag} {bs : List Addr} {F H : Hp} : ∀ n : Nat, Slots K bs F H (List.replicate n none) (List.replicate n .no) []
  | 0 => .nil
  | n + 1 => .no (slots_no n)
theorem slots_start {K : PySem.W.Frag} {bs : List Addr} {F H : Hp} {N : List Str} : ∀ {vs : List V} {ds : List Z.D} (n : Nat), Reps K bs F vs ds → Slots K bs F H (vs.map some ++ List.replicate n none) (ds.map Sl.v ++ List.replicate n .no) []
  | _, _, n, .nil => slots_no n
  | _, _, n, .cons r t => .v r (slots_start (N := N) n t)
section
variable {P : Program} {w : World} {K : PySem.W.Frag} {mg : Str → Option Value} {base : Heap}
theorem def_lift {N : List Str} {W : Wi} {wf : WishF} {f : DS} {n : Nat} {vs : List V} {H : Hp} {Q : VK} {E : XK} (hW : ∀ c σ H, wf E c H → W c σ H) (h : spZ K wf n (mkDF N.length f) vs H Q E) : liftS K W f { nx := fun _ H' => Q .non H', rt := Q } (L2.start N vs) H := by
  obtain ⟨bs, M, F, ds, wd, r, hn, run⟩ := h
  refine ⟨bs, F, H, bs, M, F, ds.map Sl.v ++ List.replicate (N.length - ds.length) .no, ⟨Tr.refl _ _ _, wd, [], ?_, by simp⟩, ?_⟩
  · unfold L2.start
    rw [r.length]
    exact slots_start (N := N) _ r
  · unfold mkDF at run
    split at run
    · rename_i o M' e1
      rw [e1]
      exact fun bs' F' H' σ' a => run bs' F' H' a.1 a.2.1 _ .non
    · rename_i d M' e1
      rw [e1]
      exact fun bs' F' H' v t w r => run bs' F' H' t w v r
    · rename_i c M' e1
      rw [e1]
      exact fun bs' F' H' σ' t w => hW _ _ _ (run bs' F' H' t w)
    · exact run.elim
theorem spZ_len {wf : WishF} {n : Nat} {df : DF} {vs : List V} {H : Hp} {Q : VK} {E : XK} (q : spZ K wf n df vs H Q E) : vs.length = n := by
  obtain ⟨bs, M, F, ds, wd, r, hn, run⟩ := q
  rw [r.length]
  exact hn
/-- a def that lets nothing out -/
theorem defZ {x qual : Str} {st : Stmt} {f : Addr} {fd : FuncData} {N ps : List Str} {k : Nat} {fb : DS} (G : Fun K x qual st f fd) (S : FnScope N ps (defScope st))
    (h : ∀ (cdv : Value) (A : Around) (outer : List Env) (s : Shared) (H : Hp) (E : XK), Room k (A.deeper (envOfC qual (defScope st) s.heap.objs.size f cdv)) → ZSs (cxOf CX0 P w K mg base N qual (defScope st) f cdv A outer s H E).nox W0 (defBody st) fb) :
    FnOk P w K mg base CX0 (k + 1) f fd ps (spZ K wf0 ps.length (mkDF N.length fb)) :=
  G.ok S (fun vs H Q E q => spZ_len q) fun cdv A outer s H vs Q E hr q => ⟨_, h cdv A outer s H E hr, def_lift (fun _ _ _ z => z) q⟩
/-- the law's promise -/
def spLaw (K : PySem.W.Frag) : Sp := fun vs H Q _ => ∃ (a : Addr) (ns : List Int), vs = [.ref a] ∧ SqL K H a (ns.map V.int) ∧ ns.length ≤ 63 ∧ LamX.Tabs Tbs.tb H ∧ ∀ H', Q (.bl true) H'
/-- all but the tables -/
def noTab (H : Hp) : Hp := fun a => match H a with
  | some (.tbl _) => none
  | x => x
theorem noTab_same {H : Hp} : Same (noTab H) H := fun a o e => by
  unfold noTab at e
  split at e
  · cases e
  · exact e
theorem noTab_of {H : Hp} {a : Addr} {o : HO} (e : H a = some o) (n : ∀ ps, o ≠ .tbl ps) : noTab H a = some o := by
  unfold noTab
  rw [e]
  cases o <;> first | rfl | exact absurd rfl (n _)
theorem noTab_seq {H : Hp} {a : Addr} {xs : List V} (h : SqL K H a xs) : SqL K (noTab H) a xs := by
  rcases h with (h | ⟨o, h⟩) | h
  · exact .inl (.inl (noTab_of h fun _ z => by cases z))
  · exact .inl (.inr ⟨o, noTab_of h fun _ z => by cases z⟩)
  · exact .inr h
theorem lawZ {CX : CXT} {k : Nat} {f : Addr} {fd : FuncData} {ps : List Str} {wf : WishF} {df : DF} (G : FnOk P w K mg base CX k f fd ps (spZ K wf 1 df)) (h : ∀ ns : List Int, ns.length ≤ 63 → ∃ M', df [.scr ns] [] = some (.ok (.bl true), M')) : FnOk P w K mg base CX k f fd ps (spLaw K) := G.imp fun vs H Q E q => by
  obtain ⟨a, ns, rfl, hS, hl, hT, q⟩ := q
  obtain ⟨M', e⟩ := h ns hl
  refine ⟨[], [], noTab H, [.scr ns], ⟨noTab_same, List.nodup_nil, rfl, fun i b ds e1 _ => by simp at e1, hT, fun p hp => by
    obtain ⟨ps, e1, _⟩ := hT p hp
    unfold noTab
    rw [e1]⟩, .cons (.scr (noTab_seq hS)) .nil, rfl, ?_⟩
  rw [e]
  exact fun bs' F' H' t w v r => by
    cases r
    exact q H'
end
end Z

/-! Z8: more rules -/
namespace Z
open PySem PySem.Spec PyProof.Rows L2
variable [Tbs]

def dNeg (f : DE) : DE := fun e => bnd (f e) fun x => match x with
  | .int i => ret (.int (-i))
  | _ => stuck
def dParOwn0 (i j : Nat) (fb : DE) : DS := fun e => bnd (fb e) fun d => if i < e.length then ret (.nx ((e.set i (.own [])).set j (.v d))) else stuck
def dParOwn1 (i j : Nat) (fa : DE) : DS := fun e => bnd (fa e) fun d => if j < e.length then ret (.nx ((e.set i (.v d)).set j (.own []))) else stuck
section
variable {X : Cx} {W : Wi} {a b : Expr} {fa fb : DE} {pos : Pos}
theorem ze_neg (h : ZE X W a fa) : ZE X W (.UnaryOp .USub a pos) (dNeg fa) := ⟨fun pins s σ H Q I q => (pe_un un_neg h).run pins s σ H Q I (by
  obtain ⟨bs, M, F, e, at0, run⟩ := q
  refine ⟨bs, M, F, e, at0, run.bind.imp fun x bs1 M1 F1 H1 t1 w1 run1 v1 r1 => ?_⟩
  cases x with
  | int i =>
    cases r1
    exact ⟨i, rfl, Run.here w1 run1 _ (.int _)⟩
  | _ => exact run1.elim)⟩
section
variable {K : PySem.W.Frag} {bs0 bs bs' : List Addr} {M M' : MS} {F0 H0 F H F' H' : Hp} {σ : L2.St} {e : Ev}
/-- a list made ahead of another expression goes to its slot behind it -/
theorem AtS.lateown {i : Nat} {p : Addr} (a : AtS K bs0 F0 H0 bs M F H σ e) (hp : H p = none) (t : Tr bs F (upd H p (.lst [])) bs' F' H') (w' : Wd K bs' M' F' H') (hi : i < e.length) : AtS K bs0 F0 H0 bs' M' F' H' (σ.set i (some (.ref p))) (e.set i (.own [])) := by
  have h0 := a.none0 hp
  obtain ⟨t0, w, os, s, n⟩ := a
  obtain ⟨w2, t2⟩ := w.lost (.lst []) hp
  have s' := (s.tr t2).tr t
  have k := t.keep p _ upd_same (w.notin hp)
  obtain ⟨os', s2, h2⟩ := s'.setown k (t.free upd_same (w.fnone hp)) (t.notin upd_same (w.notin hp)) .nil i (fun z => s.dom p z hp) hi
  exact ⟨t0.trans (t2.trans t), w', os', s2, fun b hb => (h2 b hb).elim (fun z => by rw [z]; exact h0) (n b)⟩
end
theorem zs_parOwn0 {i j : Nat} {x y : Str} {px py pt pl : Pos} {kt k2 pt2} (hc : X.calm = true) (hN : X.N.Nodup) (hi : X.N[i]? = some x) (hj : X.N[j]? = some y) (hij : i ≠ j)
    (hx : X.env.scope.names.lookup x = some .local) (hy : X.env.scope.names.lookup y = some .local) (hb : ZE X W b fb)
    (hw : swappedStores [.Tuple [.Name x px, .Name y py] kt pt] (.Tuple [.List [] pl, b] k2 pt2) X.env = pure (some [x, y]))
    (hs : swapsWithSole [.Tuple [.Name x px, .Name y py] kt pt] (.Tuple [.List [] pl, b] k2 pt2) pos.line X.env = pure false := by rfl) (h1 : starEach [.List [] pl, b] X.env = (false, eval (.List [] pl) X.env) :: starEach [b] X.env := by rfl) (h2 : starEach [b] X.env = (false, eval b X.env) :: starEach [] X.env := by rfl) :
    ZS X W (.Assign [.Tuple [.Name x px, .Name y py] kt pt] (.Tuple [.List [] pl, b] k2 pt2) pos) (dParOwn0 i j fb) := ⟨fun pins s σ H Dn I h => (ps_par hc hN hi hj hij hx hy (pa_cons (pe_lst pa_nil) (pa_cons hb pa_nil h2) h1) hw hs).run pins s σ H Dn I (by
  obtain ⟨bs0, F0, H0, bs, M, F, e, a, run⟩ := h
  refine ⟨Nat.zero_le _, fun p hp => ?_⟩
  obtain ⟨w2, t2⟩ := a.2.1.lost (.lst []) hp
  have a2 := a.tr t2 w2
  refine ⟨bs, M, F, e, a2.at, (run.bind a2).imp fun d bs1 M1 F1 H1 t1 w1 q v r => ?_⟩
  obtain ⟨a1, run1⟩ := q
  by_cases hl : i < e.length
  · rw [if_pos hl] at run1
    exact ⟨_, _, rfl, run1 _ _ _ _ ((a.lateown hp t1 w1 hl).setv r)⟩
  · rw [if_neg hl] at run1
    exact run1.elim)⟩
theorem zs_parOwn1 {i j : Nat} {x y : Str} {px py pt pl : Pos} {kt k2 pt2} (hc : X.calm = true) (hN : X.N.Nodup) (hi : X.N[i]? = some x) (hj : X.N[j]? = some y) (hij : i ≠ j)
    (hx : X.env.scope.names.lookup x = some .local) (hy : X.env.scope.names.lookup y = some .local) (ha : ZE X W a fa)
    (hw : swappedStores [.Tuple [.Name x px, .Name y py] kt pt] (.Tuple [a, .List [] pl] k2 pt2) X.env = pure (some [x, y]))
    (hs : swapsWithSole [.Tuple [.Name x px, .Name y py] kt pt] (.Tuple [a, .List [] pl] k2 pt2) pos.line X.env = pure false := by rfl) (h1 : starEach [a, .List [] pl] X.env = (false, eval a X.env) :: starEach [.List [] pl] X.env := by rfl) (h2 : starEach [.List [] pl] X.env = (false, eval (.List [] pl) X.env) :: starEach [] X.env := by rfl) :
    ZS X W (.Assign [.Tuple [.Name x px, .Name y py] kt pt] (.Tuple [a, .List [] pl] k2 pt2) pos) (dParOwn1 i j fa) := ⟨fun pins s σ H Dn I h => (ps_par hc hN hi hj hij hx hy (pa_cons ha (pa_cons (pe_lst pa_nil) pa_nil h2) h1) hw hs).run pins s σ H Dn I (by
  obtain ⟨bs0, F0, H0, bs, M, F, e, a, run⟩ := h
  refine ⟨bs, M, F, e, a.at, (run.bind a).imp fun d bs1 M1 F1 H1 t1 w1 q v r => ?_⟩
  obtain ⟨a1, run1⟩ := q
  by_cases hl : j < e.length
  · rw [if_pos hl] at run1
    refine ⟨Nat.zero_le _, fun p hp => ?_⟩
    exact ⟨_, _, rfl, run1 _ _ _ _ ((a1.setv r).newown (by rw [List.length_set]; exact hl) hp .nil)⟩
  · rw [if_neg hl] at run1
    exact run1.elim)⟩
end

/-! ### defs with *args -/
/-- what such a def promises: n parameters, then the rest as a tuple -/
def spS (K : PySem.W.Frag) (wf : WishF) (n : Nat) (df : DF) : Sp := fun vs H Q E => ∃ bs M F ds es, Wd K bs M F H ∧ Reps K bs F vs (ds ++ es) ∧ ds.length = n ∧ es.length ≤ 100000 ∧ Run K (fun c _ H' => wf E c H') bs F H [] (df (ds ++ [.tup es]) M) (qE K Q)
def dCallS (n : Nat) (df : DF) (g : DA) : DE := fun e => bnd (g e) fun xs => if n ≤ xs.length ∧ xs.length ≤ 1000 then df (xs.take n ++ [.tup (xs.drop n)]) else stuck
theorem Reps.split {K : PySem.W.Frag} {bs : List Addr} {F : Hp} : ∀ {ds : List Z.D} {vs : List V} {es : List Z.D}, Reps K bs F vs (ds ++ es) → ∃ v1 v2, vs = v1 ++ v2 ∧ Reps K bs F v1 ds ∧ Reps K bs F v2 es
  | [], vs, es, h => ⟨[], vs, rfl, .nil, h⟩
  | d :: ds, vs, es, h => by
    cases h with
    | cons r t =>
      obtain ⟨v1, v2, rfl, h1, h2⟩ := Reps.split (ds := ds) t
      exact ⟨_ :: v1, v2, rfl, .cons r h1, h2⟩
theorem Run.late {α : Type} {K : PySem.W.Frag} {W : Wi} {bs bs' : List Addr} {F H F' H' : Hp} {σ : L2.St} {r : Option (Rs α × MS)} {q : QT α} (h : Run K W bs F H σ r q) (t : Tr bs F H bs' F' H') : Run K W bs' F' H' σ r q := by
  match r, h with
  | some (.ok a, M'), h => exact fun bs2 F2 H2 t2 w => h bs2 F2 H2 (t.trans t2) w
  | some (.err c, M'), h => exact fun bs2 F2 H2 t2 w => h bs2 F2 H2 (t.trans t2) w
theorem pe_callR {X : Cx} {CX : CXT} {k : Nat} {f : Addr} {sp : Sp} {E : XK} {x : Str} {p pos : Pos} {e : Expr} {es : List Expr} {t : TA} (F : FnR X.prog X.w X.K X.mg X.base CX k f sp) (hr : Room k X.A) (hg : Gl X x) (hm : X.mg x = some (.ref f)) (hk : PySem.W.keepIn X.K (.ref f) = true) (hx : Passes CX X E)
    (ha : PA X (e :: es) t) (hdb : (x == ("__debug__" : Str)) = false := by decide) (he : starEach (e :: es) X.env = (false, eval e X.env) :: starEach es X.env := by rfl) (hpl : (backTo pos (starEach es X.env)).any (·.1) = false := by rfl) :
    PE X (.Call (.Name x p) (e :: es) [] pos) (fun σ H Q => t σ H fun vs H1 => sp vs H1 Q E) := by
  refine ⟨fun pins s σ H Q I h => ?_⟩
  refine wpAny_Call_Name_kw (ld_glob I hg hm ?_ hdb)
  refine PySem.W.callWith_K (h₀ := X.base) I.ok.mod.kin hk (thn (ha.run pos pins s σ H _ I h) fun us s1 ⟨vs, H1, I1, r, q⟩ => ⟨I1.kIn, ?_⟩) he hpl
  exact wpAny_call (run_fnR F hr hx I1 r q)
section
variable {P : Program} {w : World} {K : PySem.W.Frag} {mg : Str → Option Value} {base : Heap}
theorem defS {x qual pv : Str} {st : Stmt} {f : Addr} {fd : FuncData} {N ps : List Str} {k : Nat} {fb : DS} (G : Fun K x qual st f fd) (S : FnScope N (ps ++ [pv]) (defScope st))
    (hb : ∀ (kV doc pm : Value) (an : Option Addr) (cdv ct : Value) (us rest : List Value), us.length = ps.length → bindArgs (PySem.W.fnOf x qual (defArgs st) (defBody st) (defScope st) .none kV doc pm an cdv ct) ⟨us ++ rest, []⟩ = (newTuple rest >>= fun t => pure (ps.zip us ++ [(pv, t)])))
    (h : ∀ (cdv : Value) (A : Around) (outer : List Env) (s : Shared) (H : Hp) (E : XK), Room k (A.deeper (envOfC qual (defScope st) s.heap.objs.size f cdv)) → ZSs (cxOf CX0 P w K mg base N qual (defScope st) f cdv A outer s H E).nox W0 (defBody st) fb) :
    FnR P w K mg base CX0 (k + 1) f (spS K wf0 ps.length (mkDF N.length fb)) := by
  obtain ⟨oc, od, kV, doc, pm, an, cdv, ct, osl, rfl, lk, hcd⟩ := G.ex
  have z := StX.fn_star (P := P) (w := w) (mg := mg) (base := base) (k := k) (sp := spZ K wf0 (ps.length + 1) (mkDF N.length fb)) lk hcd S StX.cxUp_none (hb kV doc pm an cdv ct) fun A outer s H vs Q E hr q => ⟨_, (h cdv A outer s H E hr).nox, def_lift (fun _ _ _ z => z) q⟩
  refine fun A outer s H us vs Q E hr e0 r q => z A outer s H us vs Q E hr e0 r ?_
  obtain ⟨bs, M, F, ds, es, wd, rr, hn, hm, run⟩ := q
  obtain ⟨v1, v2, rfl, r1, r2⟩ := rr.split
  refine ⟨v1, v2, rfl, by rw [r1.length]; exact hn, by rw [r2.length]; exact small_ok hm, fun p hp => ?_⟩
  obtain ⟨w2, t2⟩ := wd.laid (.tup v2) hp
  refine ⟨bs, M, upd F p (.tup v2), ds ++ [.tup es], w2, (r1.tr t2).append (.cons (.tup upd_same (r2.tr t2)) .nil), by rw [List.length_append, hn]; rfl, ?_⟩
  exact run.late t2
end
section
variable {X : Cx} {W : Wi} {k : Nat} {f : Addr} {df : DF} {x : Str} {p pos : Pos} {e : Expr} {es : List Expr} {g : DA}
theorem ze_callS (n : Nat) {m : Nat} (G : FnR X.prog X.w X.K X.mg X.base CX0 k f (spS X.K wf0 n df)) (hr : Room k X.A) (hg : Gl X x) (hm : X.mg x = some (.ref f)) (hk : PySem.W.keepIn X.K (.ref f) = true)
    (ha : ZA X W0 (e :: es) g) (hn : LenA g m) (hdb : (x == ("__debug__" : Str)) = false := by decide) (he : starEach (e :: es) X.env = (false, eval e X.env) :: starEach es X.env := by rfl) (hpl : (backTo pos (starEach es X.env)).any (·.1) = false := by rfl) :
    ZE X W0 (.Call (.Name x p) (e :: es) [] pos) (dCallS n df g) :=
  ⟨fun pins s σ H Q I h => (pe_callR (E := E0) G hr hg hm hk pass0 ha hdb he hpl).run pins s σ H Q I (by
    obtain ⟨bs, M, F, ev, at0, run⟩ := h
    have rb := run.bind
    refine ⟨bs, M, F, ev, at0, ?_⟩
    match e1 : g ev M, rb with
    | some (.ok ds, M1), rb =>
      intro bs1 F1 H1 t1 w1 vs r1
      have rb2 := rb bs1 F1 H1 t1 w1
      by_cases hl : n ≤ ds.length ∧ ds.length ≤ 1000
      · simp only [hl, and_self, if_true] at rb2
        exact ⟨bs1, M1, F1, ds.take n, ds.drop n, w1, by rw [List.take_append_drop]; exact r1, by rw [List.length_take]; omega, by rw [List.length_drop]; omega, rb2.wish fun c H' z => z.elim⟩
      · simp only [hl, if_false] at rb2
        exact rb2.elim
    | some (.err c, M1), rb => exact rb)⟩
end
end Z

/-! ZA: built-ins over tuples -/
namespace Z
open PySem PySem.Spec PyProof.Rows L2
variable [Tbs]
section
variable {prog : Program} {w : World} {A : Around} {E : Value → Shared → Prop} {s : Shared}
theorem ints_at {vs : List Value} {ns : List Int} (h : IntsAre vs ns) : ∀ {i : Nat} {v : Value}, vs.toArray[i]? = some v → ∃ t, v = .int (ns.getD i 0) t := by
  induction h with
  | nil => intro i v e; simp at e
  | cons n t h ih =>
    intro i v e
    cases i with
    | zero =>
      simp at e
      exact ⟨t, e.symm⟩
    | succ i =>
      simp at e
      exact ih (i := i) (by simpa using e)
theorem sumT_raw {l : Addr} {its : List Value} {ns : List Int} {Q : Value → Shared → Prop} (hh : A.handled = none) (hl : IsTup s.heap l its.toArray) (hi : IntsAre its ns)
    (h : ∀ h' tk t', (∀ b o, s.heap.get? b = some o → h'.get? b = some o) → Q (.int ns.sum t') { s with heap := h', toks := tk }) : wpAny (model prog w) A (call (.builtin "sum") [.ref l]) Q E s := by
  refine PySem.call_sum_walkAnyS (PySem.W.iter_tupleW (A := A.in1) hh hl fun s₂ e W st hfp h1 h2 => ⟨_, _, _, _, _, _, _, fun i => ns.getD i 0, rfl, W, st, hfp, fun i v hv => ints_at hi hv, fun s' t' m => ?_⟩)
  obtain ⟨h', tk, rfl, hk⟩ := PySem.W.moved_old e rfl m
  have hp : preSum (fun i => ns.getD i 0) its.toArray.size = ns.sum := by
    rw [preSum_getD, List.take_of_length_le (by rw [List.size_toArray, hi.length]; omega)]
  rw [hp]
  exact h h' tk t' hk
theorem sortedT_raw {t : Addr} {its : List Value} {ns : List Int} {Q : Value → Shared → Prop} (ht : IsTup s.heap t its.toArray) (hi : IntsAre its ns) (hz : its.length ≤ sizeLine)
    (h : ∀ (D : Addr) (h1 h' : Heap) (out : List Value) (ms : List Int) (n : Nat), h1.objs.size ≤ D → (∀ b o, s.heap.get? b = some o → h1.get? b = some o) → (∀ b o, h1.get? b = some o → h'.get? b = some o) → h'.get? D = some (seqObj "list" out.toArray n) → IntsAre out ms → ms.Perm ns → ms.Pairwise (· ≤ ·) →
      Q (.ref D) { s with heap := h' }) : wpAny (model prog w) A (call (.builtin "sorted") [.ref t]) Q E s := by
  obtain ⟨⟨cls, dd, data, sl⟩, ho, hc, n, hd⟩ := id ht
  refine Calls.call_function_entry kind_sorted plain_sorted entry_sorted (args_sorted1 _) (?_ : wpAny _ _ (Builtin.«sorted» _) _ _ _)
  unfold Builtin.«sorted»
  refine wpAny_bind (m := checkCount "sorted" 1 1 _) (wpAny_pure (wpAny_bind (wpAny_collect_seq t (.inr rfl) ho hc hd (fun h1 k1 => wpAny_bind (wpAny_newList ?_ hz)) (by rw [List.size_toArray]; exact hz))))
  have hoL : (h1.push (seqObj "list" its.toArray 0)).get? h1.objs.size = some (seqObj "list" its.toArray 0) := Heap.get?_push_size _ rfl
  refine wpAny_bind (wpAny_holding (wpAny_call_entry slot_list_sort ⟨_, hoL, rfl⟩ entry_list_sort (SrtO.list_sort_ord SrtO.swo_int hoL hz (fun h2 => SrtO.ints_sortable hi h2) fun out q1 q2 => ⟨_, rfl, wpAny_pure ⟨_, rfl, ?_⟩⟩) (args_list_sort _)))
  obtain ⟨p1, p2, p3⟩ := SrtO.ints_out hi q1 q2
  obtain ⟨ep, he⟩ := sortedHeap_at (vs := its) (out := out.toArray) hoL
  refine h _ h1 _ out _ ep (Nat.le_refl _) k1 (fun b o q => ?_) he p1 p2 p3
  have hb := Heap.lt_size q
  rw [sortedHeap_old (Nat.ne_of_lt hb) (by rw [size_push']; exact Nat.lt_succ_of_lt hb), Heap.get?_push_ne _ _ _ (Nat.ne_of_lt hb)]
  exact q
end
section
variable {X : Cx} {K : PySem.W.Frag} {bs : List Addr} {F H : Hp} {M : MS}
def rSumT (K : PySem.W.Frag) : List V → Hp → VK → Prop := fun vs H Q => ∃ (a : Addr) (ns : List Int), vs = [V.ref a] ∧ SqT K H a (ns.map V.int) ∧ Q (.int ns.sum) H
theorem cr_sumT (hc : X.calm = true) : CallR X (.builtin "sum") (rSumT X.K) := by
  intro pins s σ H vs us Q I r h
  obtain ⟨a, ns, rfl, hs, q⟩ := h
  obtain ⟨its, rv, hl, _⟩ := I.tuple hs
  rw [Vals.ref1 r]
  exact sumT_raw (I.ok.hd hc) hl rv.ints fun h' tk t' hk => ⟨.int _, H, I.kept hk, ⟨_, rfl⟩, q⟩
theorem one_tup {xs : List V} {es : List D} (w : Wd K bs M F H) (r : Reps K bs F xs [.tup es]) : ∃ a vs, xs = [.ref a] ∧ SqT K H a vs ∧ Reps K bs F vs es := by
  obtain ⟨v, rfl, rr⟩ := r.one
  cases rr with
  | tup h s => exact ⟨_, _, rfl, .inl (.inl (w.sub _ _ h)), s⟩
theorem z_sumT : CallZ K (rSumT K) sumT1 := by
  intro bs M F H xs ds z Q w r ez q
  unfold sumT1 at ez
  split at ez
  · rename_i es
    cases e : intsOf es with
    | none =>
      rw [e] at ez
      cases ez
    | some ns =>
      rw [e] at ez
      cases ez
      obtain ⟨a, vs, rfl, hs, s⟩ := one_tup w r
      rw [intsOf_map e] at s
      rw [s.ints] at hs
      exact ⟨a, ns, rfl, hs, q _ bs F H (Tr.refl _ _ _) w (.int _)⟩
  · cases ez
def rSortT (K : PySem.W.Frag) : List V → Hp → VK → Prop := fun vs H Q => ∃ (a : Addr) (ns : List Int), vs = [V.ref a] ∧ SqT K H a (ns.map V.int) ∧ ∀ (ms : List Int) (p : Addr), ms.Perm ns → ms.Pairwise (· ≤ ·) → H p = none → Q (.ref p) (upd H p (.lst (ms.map V.int)))
theorem cr_sortT : CallR X (.builtin "sorted") (rSortT X.K) := by
  intro pins s σ H vs us Q I r h
  obtain ⟨a, ns, rfl, hs, q⟩ := h
  obtain ⟨its, rv, hl, hz⟩ := I.tuple hs
  rw [Vals.ref1 r]
  refine sortedT_raw hl rv.ints (by rw [← rv.length]; exact hz) fun D h1 h' out ms n le k1 k hD p1 p2 p3 => ?_
  have hlen : (ms.map V.int).length ≤ sizeLine := by
    rw [List.length_map] at hz ⊢
    rw [p2.length_eq]
    exact hz
  exact ⟨.ref D, upd H D (.lst (ms.map V.int)), (I.kept (t' := s.toks) k1).laid (t' := s.toks) k le ⟨hlen, out, n, vals_of_ints p1, hD⟩, rfl, q ms D p2 p3 ((I.hok.kept k1).fresh le)⟩
def sortedT1 : F1 := fun ds _ => match ds with
  | [.tup xs] => (intsOf xs).bind fun ns => if ns.length ≤ 100000 then some (.lst ((sortI ns).map .int)) else none
  | _ => none
theorem z_sortT : CallZ K (rSortT K) sortedT1 := by
  intro bs M F H xs ds z Q w r ez q
  unfold sortedT1 at ez
  split at ez
  · rename_i es
    cases e : intsOf es with
    | none =>
      rw [e] at ez
      cases ez
    | some ns =>
      rw [e, Option.bind_some] at ez
      split at ez
      · cases ez
        obtain ⟨a, vs, rfl, hs, s⟩ := one_tup w r
        rw [intsOf_map e] at s
        rw [s.ints] at hs
        refine ⟨a, ns, rfl, hs, fun ms p h1 h2 hp => ?_⟩
        rw [pw_eq (h1.trans (sortI_perm ns).symm) h2 (sortI_pw ns)]
        obtain ⟨w2, t2⟩ := w.laid (.lst ((sortI ns).map V.int)) hp
        exact q _ _ _ _ t2 w2 (.lst upd_same ((Reps.of_ints (K := K) (bs := bs) (F := F) (sortI ns)).tr t2))
      · cases ez
  · cases ez
end
end Z

/-! Z9: reckoning with denotations -/
namespace Z
open PySem PySem.Spec PyProof.Rows L2

section
variable {α β γ : Type}
@[simp] theorem bnd_ret {a : α} {f : α → Mo β} : bnd (ret a) f = f a := rfl
@[simp] theorem bnd_stuck {f : α → Mo β} : bnd stuck f = stuck := rfl
@[simp] theorem lft_some {a : α} : lft (some a) = ret a := rfl
@[simp] theorem lft_none : lft (none : Option α) = stuck := rfl
@[simp] theorem lft_ite {c : Prop} [Decidable c] {a b : Option α} : lft (if c then a else b) = if c then lft a else lft b := by split <;> rfl
@[simp] theorem bnd_ite {c : Prop} [Decidable c] {a b : Mo α} {f : α → Mo β} : bnd (if c then a else b) f = if c then bnd a f else bnd b f := by split <;> rfl
theorem ite_app {c : Prop} [Decidable c] {a b : Mo α} {M : MS} : (if c then a else b) M = if c then a M else b M := by split <;> rfl
@[simp] theorem ret_eta {a : α} : (fun M => ret a M) = ret a := rfl
theorem bnd_ext {m : Mo α} {f g : α → Mo β} (h : ∀ a, f a = g a) : bnd m f = bnd m g := by rw [funext h]
@[simp] theorem noErr_ret {a : α} : noErr (ret a) = ret a := rfl
@[simp] theorem noErr_ite {c : Prop} [Decidable c] {a b : Mo α} : noErr (if c then a else b) = if c then noErr a else noErr b := by split <;> rfl
end
/-- what a def's body hands back -/
def fin : Oc → Mo D
  | .nx _ => ret .non
  | .rt d => ret d
  | _ => stuck
@[simp] theorem fin_nx {e : Ev} : fin (.nx e) = ret .non := rfl
@[simp] theorem fin_rt {d : D} : fin (.rt d) = ret d := rfl
@[simp] theorem mkDF_eq {n : Nat} {f : DS} {ds : List D} : mkDF n f ds = bnd (f (ds.map Sl.v ++ List.replicate (n - ds.length) .no)) fin := by
  funext M
  unfold mkDF bnd
  cases f (ds.map Sl.v ++ List.replicate (n - ds.length) .no) M with
  | none => rfl
  | some p =>
    obtain ⟨r, M'⟩ := p
    cases r with
    | err c => rfl
    | ok o => cases o <;> rfl
/-- what comes behind a statement -/
def seqK (g : DS) : Oc → Mo Oc
  | .nx e => g e
  | o => ret o
@[simp] theorem dSeq_eq {f g : DS} {e : Ev} : dSeq f g e = bnd (f e) (seqK g) := by
  unfold dSeq
  exact congrArg (bnd (f e)) (funext fun o => by cases o <;> rfl)
@[simp] theorem seqK_nx {g : DS} {e : Ev} : seqK g (.nx e) = g e := rfl
@[simp] theorem seqK_rt {g : DS} {d : D} : seqK g (.rt d) = ret (.rt d) := rfl
@[simp] theorem seqK_bk {g : DS} {e : Ev} : seqK g (.bk e) = ret (.bk e) := rfl
@[simp] theorem seqK_ct {g : DS} {e : Ev} : seqK g (.ct e) = ret (.ct e) := rfl
def varK : Option Sl → Mo D
  | some (.v d) => ret d
  | _ => stuck
@[simp] theorem dVar_eq {i : Nat} {e : Ev} : dVar i e = varK e[i]? := by
  unfold dVar varK
  funext M
  cases e[i]? with
  | none => rfl
  | some s => cases s <;> rfl
@[simp] theorem varK_v {d : D} : varK (some (.v d)) = ret d := rfl
@[simp] theorem asB_bl {b : Bool} : asB (.bl b) = ret b := rfl
@[simp] theorem asB_ite {c : Prop} [Decidable c] {a b : D} : asB (if c then a else b) = if c then asB a else asB b := by split <;> rfl
/-! operators -/
@[simp] theorem i2_int {C : Int → Int → Bool} {g : Int → Int → D} {i j : Int} {M : MS} : i2 C g (.int i) (.int j) M = if C i j = true then some (g i j) else none := rfl
@[simp] theorem addD_int {i j : Int} {M : MS} : addD (.int i) (.int j) M = some (.int (i + j)) := rfl
@[simp] theorem addD_tup {xs ys : List D} {M : MS} : addD (.tup xs) (.tup ys) M = if xs.length + ys.length ≤ 100000 then some (.tup (xs ++ ys)) else none := rfl
@[simp] theorem addD_lst {xs ys : List D} {M : MS} : addD (.lst xs) (.lst ys) M = if xs.length + ys.length ≤ 100000 then some (.lst (xs ++ ys)) else none := rfl
theorem mulD_int {i j : Int} {M : MS} (h : -18446744073709551616 < i ∧ i < 18446744073709551616 ∨ -18446744073709551616 < j ∧ j < 18446744073709551616) : mulD (.int i) (.int j) M = some (.int (i * j)) := by
  unfold mulD mulI
  rw [i2_int, if_pos]
  simpa using h
@[simp] theorem isD_non {c : D} {M : MS} : isD c .non M = some (.bl (isNone c)) := rfl
@[simp] theorem isnD_non {c : D} {M : MS} : isnD c .non M = some (.bl (!isNone c)) := rfl
@[simp] theorem isbD_bl {a b : Bool} {M : MS} : isbD (.bl a) (.bl b) M = some (.bl (a == b)) := rfl
@[simp] theorem isnbD_bl {a b : Bool} {M : MS} : isnbD (.bl a) (.bl b) M = some (.bl (!(a == b))) := rfl
@[simp] theorem isNone_non : isNone .non = true := rfl
@[simp] theorem isNone_int {i : Int} : isNone (.int i) = false := rfl
@[simp] theorem isNone_bl {i : Bool} : isNone (.bl i) = false := rfl
@[simp] theorem isNone_str {i : Str} : isNone (.str i) = false := rfl
@[simp] theorem isNone_tup {i : List D} : isNone (.tup i) = false := rfl
@[simp] theorem isNone_lst {i : List D} : isNone (.lst i) = false := rfl
@[simp] theorem okN_non {n : Nat} : okN n .non = true := by cases n <;> rfl
@[simp] theorem okN_bl {n : Nat} {b : Bool} : okN n (.bl b) = true := by cases n <;> rfl
@[simp] theorem okN_int {n : Nat} {b : Int} : okN n (.int b) = true := by cases n <;> rfl
@[simp] theorem okN_tup {n : Nat} {xs : List D} : okN (n + 1) (.tup xs) = xs.all (okN n) := rfl
@[simp] theorem okN_lst {n : Nat} {xs : List D} : okN (n + 1) (.lst xs) = xs.all (okN n) := rfl
@[simp] theorem eqN_int {n : Nat} {i j : Int} : eqN n (.int i) (.int j) = (i == j) := by cases n <;> rfl
@[simp] theorem eqN_bl {n : Nat} {i j : Bool} : eqN n (.bl i) (.bl j) = (i == j) := by cases n <;> rfl
@[simp] theorem eqN_nn {n : Nat} : eqN n .non .non = true := by cases n <;> rfl
@[simp] theorem eqN_ni {n : Nat} {i : Int} : eqN n .non (.int i) = false := by cases n <;> rfl
@[simp] theorem eqN_in {n : Nat} {i : Int} : eqN n (.int i) .non = false := by cases n <;> rfl
@[simp] theorem eqN_nt {n : Nat} {i : List D} : eqN n .non (.tup i) = false := by cases n <;> rfl
@[simp] theorem eqN_tn {n : Nat} {i : List D} : eqN n (.tup i) .non = false := by cases n <;> rfl
@[simp] theorem eqN_nb {n : Nat} {i : Bool} : eqN n .non (.bl i) = false := by cases n <;> rfl
@[simp] theorem eqN_bn {n : Nat} {i : Bool} : eqN n (.bl i) .non = false := by cases n <;> rfl
@[simp] theorem eqN_tup {n : Nat} {xs ys : List D} : eqN (n + 1) (.tup xs) (.tup ys) = eqL (eqN n) xs ys := rfl
@[simp] theorem eqN_lst {n : Nat} {xs ys : List D} : eqN (n + 1) (.lst xs) (.lst ys) = eqL (eqN n) xs ys := rfl
@[simp] theorem eqL_nil {f : D → D → Bool} : eqL f [] [] = true := rfl
@[simp] theorem eqL_cons {f : D → D → Bool} {x y : D} {xs ys : List D} : eqL f (x :: xs) (y :: ys) = (f x y && eqL f xs ys) := rfl
@[simp] theorem eqL_nc {f : D → D → Bool} {y : D} {ys : List D} : eqL f [] (y :: ys) = false := rfl
@[simp] theorem eqL_cn {f : D → D → Bool} {y : D} {ys : List D} : eqL f (y :: ys) [] = false := rfl
theorem eqD_eq {c d : D} {M : MS} (h1 : okN 8 c = true) (h2 : okN 8 d = true) : eqD c d M = some (.bl (eqN 8 c d)) := by
  unfold eqD
  rw [h1, h2]
  rfl
theorem neD_eq {c d : D} {M : MS} (h1 : okN 8 c = true) (h2 : okN 8 d = true) : neD c d M = some (.bl (!eqN 8 c d)) := by
  unfold neD
  rw [h1, h2]
  rfl
@[simp] theorem eqD_int {i j : Int} {M : MS} : eqD (.int i) (.int j) M = some (.bl (i == j)) := eqD_eq okN_int okN_int
@[simp] theorem neD_int {i j : Int} {M : MS} : neD (.int i) (.int j) M = some (.bl (!(i == j))) := neD_eq okN_int okN_int
@[simp] theorem eqD_bl {i j : Bool} {M : MS} : eqD (.bl i) (.bl j) M = some (.bl (i == j)) := eqD_eq okN_bl okN_bl
@[simp] theorem neD_bl {i j : Bool} {M : MS} : neD (.bl i) (.bl j) M = some (.bl (!(i == j))) := neD_eq okN_bl okN_bl
@[simp] theorem ixD_lst {xs : List D} {i : Int} {M : MS} : ixD (.lst xs) (.int i) M = atI xs i := rfl
@[simp] theorem ixD_tup {xs : List D} {i : Int} {M : MS} : ixD (.tup xs) (.int i) M = atI xs i := rfl
@[simp] theorem atI_0 {α : Type} {x : α} {xs : List α} : atI (x :: xs) 0 = some x := atI_nat (j := 0) rfl
@[simp] theorem atI_1 {α : Type} {x y : α} {xs : List α} : atI (x :: y :: xs) 1 = some y := atI_nat (j := 1) rfl
@[simp] theorem atI_2 {α : Type} {x y z : α} {xs : List α} : atI (x :: y :: z :: xs) 2 = some z := atI_nat (j := 2) rfl
@[simp] theorem atI_3 {α : Type} {x y z w : α} {xs : List α} : atI (x :: y :: z :: w :: xs) 3 = some w := atI_nat (j := 3) rfl
@[simp] theorem isTy_non {T : Ty} : isTy T .non = some false := by cases T <;> rfl
@[simp] theorem isTy_ii {i : Int} : isTy .int (.int i) = some true := rfl
@[simp] theorem isTy_ib {i : Bool} : isTy .int (.bl i) = some true := rfl
@[simp] theorem isTy_it {i : List D} : isTy .int (.tup i) = some false := rfl
@[simp] theorem isTy_il {i : List D} : isTy .int (.lst i) = some false := rfl
@[simp] theorem isTy_is {i : Str} : isTy .int (.str i) = some false := rfl
@[simp] theorem isTy_bi {i : Int} : isTy .bool (.int i) = some false := rfl
@[simp] theorem isTy_bb {i : Bool} : isTy .bool (.bl i) = some true := rfl
@[simp] theorem isTy_bt {i : List D} : isTy .bool (.tup i) = some false := rfl
@[simp] theorem isTy_bL {i : List D} : isTy .bool (.lst i) = some false := rfl
@[simp] theorem isTy_bs {i : Str} : isTy .bool (.str i) = some false := rfl
@[simp] theorem isTy_ti {i : Int} : isTy .tuple (.int i) = some false := rfl
@[simp] theorem isTy_tb {i : Bool} : isTy .tuple (.bl i) = some false := rfl
@[simp] theorem isTy_tt {i : List D} : isTy .tuple (.tup i) = some true := rfl
@[simp] theorem isTy_tl {i : List D} : isTy .tuple (.lst i) = some false := rfl
@[simp] theorem isTy_ts {i : Str} : isTy .tuple (.str i) = some false := rfl
@[simp] theorem isTy_li {i : Int} : isTy .list (.int i) = some false := rfl
@[simp] theorem isTy_lb {i : Bool} : isTy .list (.bl i) = some false := rfl
@[simp] theorem isTy_lt {i : List D} : isTy .list (.tup i) = some false := rfl
@[simp] theorem isTy_ll {i : List D} : isTy .list (.lst i) = some true := rfl
@[simp] theorem isTy_ls {i : Str} : isTy .list (.str i) = some false := rfl
@[simp] theorem isTy_si {i : Int} : isTy .str (.int i) = some false := rfl
@[simp] theorem isTy_sb {i : Bool} : isTy .str (.bl i) = some false := rfl
@[simp] theorem isTy_st {i : List D} : isTy .str (.tup i) = some false := rfl
@[simp] theorem isTy_sl {i : List D} : isTy .str (.lst i) = some false := rfl
@[simp] theorem isTy_ss {i : Str} : isTy .str (.str i) = some true := rfl
@[simp] theorem max2_eq {i j : Int} {M : MS} : max2 [.int i, .int j] M = some (.int (max i j)) := by
  unfold max2
  simp only [Option.some.injEq, D.int.injEq]
  split <;> omega
@[simp] theorem min2_eq {i j : Int} {M : MS} : min2 [.int i, .int j] M = some (.int (min i j)) := by
  unfold min2
  simp only [Option.some.injEq, D.int.injEq]
  split <;> omega
@[simp] theorem len1_tup {xs : List D} {M : MS} : len1 [.tup xs] M = some (.int xs.length) := rfl
@[simp] theorem len1_lst {xs : List D} {M : MS} : len1 [.lst xs] M = some (.int xs.length) := rfl
/-- lists of whole numbers, of truth values -/
def iL (ns : List Int) : List D := ns.map D.int
def bL (ns : List Bool) : List D := ns.map D.bl
@[simp] theorem iL_length {ns : List Int} : (iL ns).length = ns.length := by simp [iL]
@[simp] theorem bL_length {ns : List Bool} : (bL ns).length = ns.length := by simp [bL]
@[simp] theorem iL_nil : iL [] = [] := rfl
theorem iL_cons {n : Int} {ns : List Int} : iL (n :: ns) = .int n :: iL ns := rfl
theorem iL_append {a b : List Int} : iL (a ++ b) = iL a ++ iL b := by simp [iL]
theorem iL_get {ns : List Int} {i : Nat} {d : D} (h : (iL ns)[i]? = some d) : ∃ n, ns[i]? = some n ∧ d = .int n := by
  unfold iL at h
  rw [List.getElem?_map] at h
  cases e : ns[i]? with
  | none =>
    rw [e] at h
    cases h
  | some n =>
    rw [e] at h
    cases h
    exact ⟨n, rfl, rfl⟩
@[simp] theorem sum1_iL {ns : List Int} {M : MS} : sum1 [.lst (iL ns)] M = some (.int ns.sum) := by
  unfold sum1 iL
  simp only [intsOf_ints]
  rfl
@[simp] theorem sumT1_iL {ns : List Int} {M : MS} : sumT1 [.tup (iL ns)] M = some (.int ns.sum) := by
  unfold sumT1 iL
  simp only [intsOf_ints]
  rfl
@[simp] theorem all1_bL {ns : List Bool} {M : MS} : all1 [.lst (bL ns)] M = some (.bl (ns.all id)) := by
  unfold all1 bL
  simp only [blsOf_bls]
  rfl
@[simp] theorem okN_iL {n : Nat} {ns : List Int} : (iL ns).all (okN n) = true := by
  unfold iL
  induction ns with
  | nil => rfl
  | cons a r ih => simp only [List.map_cons, List.all_cons, okN_int, ih, Bool.and_self]
@[simp] theorem sum1_eq {ns : List Int} {M : MS} : sum1 [.lst (ns.map D.int)] M = some (.int ns.sum) := by
  unfold sum1
  simp only [intsOf_ints]
  rfl
@[simp] theorem sumT1_eq {ns : List Int} {M : MS} : sumT1 [.tup (ns.map D.int)] M = some (.int ns.sum) := by
  unfold sumT1
  simp only [intsOf_ints]
  rfl
@[simp] theorem all1_eq {ns : List Bool} {M : MS} : all1 [.lst (ns.map D.bl)] M = some (.bl (ns.all id)) := by
  unfold all1
  simp only [blsOf_bls]
  rfl
/-! targets -/
@[simp] theorem asg_nm {i : Nat} {d : D} {e : Ev} : asg (.nm i) d e = some (e.set i (.v d)) := rfl
@[simp] theorem asg_tp {is : List Nat} {ds : List D} {e : Ev} : asg (.tp is) (.tup ds) e = asgs is ds e := rfl
@[simp] theorem asgs_nil {e : Ev} : asgs [] [] e = some e := rfl
@[simp] theorem asgs_cons {i : Nat} {is : List Nat} {d : D} {ds : List D} {e : Ev} : asgs (i :: is) (d :: ds) e = asgs is ds (e.set i (.v d)) := rfl
/-! what the pieces are -/
@[simp] theorem dOp_eq {fo : F2} {fa fb : DE} {e : Ev} : dOp fo fa fb e = bnd (fa e) fun x => bnd (fb e) fun y => fun M => lft (fo x y M) M := rfl
@[simp] theorem dTest_eq {f : DE} {e : Ev} : dTest f e = bnd (f e) asB := rfl
@[simp] theorem dC_eq {d : D} {e : Ev} : dC d e = ret d := rfl
@[simp] theorem dChain_eq {fo fo' : F2} {fa fb fc : DE} {e : Ev} : dChain fo fo' fa fb fc e = bnd (fa e) fun x => bnd (fb e) fun y => bnd (fun M => lft (fo x y M) M) fun z => bnd (asB z) fun k => if k = true then bnd (fc e) fun w => fun M => lft (fo' y w M) M else ret (.bl false) := rfl
@[simp] theorem dAnd_eq {fa fb : DE} {e : Ev} : dAnd fa fb e = bnd (dTest fa e) fun k => if k = true then fb e else ret (.bl false) := rfl
@[simp] theorem dOr_eq {fa fb : DE} {e : Ev} : dOr fa fb e = bnd (dTest fa e) fun k => if k = true then ret (.bl true) else fb e := rfl
@[simp] theorem dNot_eq {fa : DE} {e : Ev} : dNot fa e = bnd (dTest fa e) fun k => ret (.bl (!k)) := rfl
@[simp] theorem dAndT_eq {fa fb : DT} {e : Ev} : dAndT fa fb e = bnd (fa e) fun k => if k = true then fb e else ret false := rfl
@[simp] theorem dOrT_eq {fa fb : DT} {e : Ev} : dOrT fa fb e = bnd (fa e) fun k => if k = true then ret true else fb e := rfl
@[simp] theorem dNotT_eq {fa : DT} {e : Ev} : dNotT fa e = bnd (fa e) fun k => ret (!k) := rfl
@[simp] theorem dIf_eq {ft : DT} {fa fb : DE} {e : Ev} : dIf ft fa fb e = bnd (ft e) fun k => if k = true then fa e else fb e := rfl
@[simp] theorem dNil_eq {e : Ev} : dNil e = ret [] := rfl
@[simp] theorem dCons_eq {f : DE} {g : DA} {e : Ev} : dCons f g e = bnd (f e) fun x => bnd (g e) fun xs => ret (x :: xs) := rfl
@[simp] theorem dTup_eq {g : DA} {e : Ev} : dTup g e = bnd (g e) fun xs => if xs.length ≤ 100000 then ret (.tup xs) else stuck := rfl
@[simp] theorem dLst_eq {g : DA} {e : Ev} : dLst g e = bnd (g e) fun xs => if xs.length ≤ 100000 then ret (.lst xs) else stuck := rfl
@[simp] theorem dB_eq {fo : F1} {g : DA} {e : Ev} : dB fo g e = bnd (g e) fun xs => fun M => lft (fo xs M) M := rfl
@[simp] theorem dCall_eq {df : DF} {g : DA} {e : Ev} : dCall df g e = bnd (g e) df := rfl
@[simp] theorem dCallS_eq {n : Nat} {df : DF} {g : DA} {e : Ev} : dCallS n df g e = bnd (g e) fun xs => if n ≤ xs.length ∧ xs.length ≤ 1000 then df (xs.take n ++ [.tup (xs.drop n)]) else stuck := rfl
@[simp] theorem dNoPart_eq {e : Ev} : dNoPart e = ret none := rfl
def partK : D → Mo (Option Int)
  | .int i => ret (some i)
  | _ => stuck
@[simp] theorem dPart_eq {f : DE} {e : Ev} : dPart f e = bnd (f e) partK := by
  exact congrArg (bnd (f e)) (funext fun x => by cases x <;> rfl)
@[simp] theorem partK_int {i : Int} : partK (.int i) = ret (some i) := rfl
@[simp] theorem dSl_eq {fo : F3} {f : DE} {gl gh : DO} {e : Ev} : dSl fo f gl gh e = bnd (f e) fun x => bnd (gl e) fun l => bnd (gh e) fun h => fun M => lft (fo x l h M) M := rfl
def revK : D → Mo D
  | .lst xs => ret (.lst xs.reverse)
  | _ => stuck
@[simp] theorem dRevL_eq {f : DE} {e : Ev} : dRevL f e = bnd (f e) revK := by
  exact congrArg (bnd (f e)) (funext fun x => by cases x <;> rfl)
@[simp] theorem revK_lst {xs : List D} : revK (.lst xs) = ret (.lst xs.reverse) := rfl
def negK : D → Mo D
  | .int i => ret (.int (-i))
  | _ => stuck
@[simp] theorem dNeg_eq {f : DE} {e : Ev} : dNeg f e = bnd (f e) negK := by
  exact congrArg (bnd (f e)) (funext fun x => by cases x <;> rfl)
@[simp] theorem negK_int {i : Int} : negK (.int i) = ret (.int (-i)) := rfl
@[simp] theorem dIs_eq {T : Ty} {f : DE} {e : Ev} : dIs T f e = bnd (f e) fun x => lft ((isTy T x).map D.bl) := rfl
@[simp] theorem dIsT_eq {Ts : List Ty} {f : DE} {e : Ev} : dIsT Ts f e = bnd (f e) fun x => lft ((isAny x Ts).map D.bl) := rfl
@[simp] theorem isAny_nil {x : D} : isAny x [] = some false := rfl
@[simp] theorem isAny_cons {x : D} {T : Ty} {Ts : List Ty} : isAny x (T :: Ts) = match isTy T x with
  | some true => some true
  | some false => isAny x Ts
  | none => none := rfl
@[simp] theorem dNil'_eq {e : Ev} : dNil' e = ret (.nx e) := rfl
@[simp] theorem dSet_eq {i : Nat} {f : DE} {e : Ev} : dSet i f e = bnd (f e) fun d => ret (.nx (e.set i (.v d))) := rfl
@[simp] theorem dRet_eq {f : DE} {e : Ev} : dRet f e = bnd (f e) fun d => ret (.rt d) := rfl
@[simp] theorem dDrop_eq {f : DE} {e : Ev} : dDrop f e = bnd (f e) fun _ => ret (.nx e) := rfl
@[simp] theorem dIfS_eq {c : DT} {f g : DS} {e : Ev} : dIfS c f g e = bnd (c e) fun k => if k = true then f e else g e := rfl
@[simp] theorem dBrk_eq {e : Ev} : dBrk e = ret (.bk e) := rfl
@[simp] theorem dNever_eq {e : Ev} : dNever e = stuck := rfl
@[simp] theorem dFrz_eq {i : Nat} {f : DS} {e : Ev} : dFrz i f e = f (frz i e) := rfl
@[simp] theorem dSetOwn_eq {i : Nat} {g : DA} {e : Ev} : dSetOwn i g e = bnd (g e) fun ds => if ds.length ≤ 100000 ∧ i < e.length then ret (.nx (e.set i (.own ds))) else stuck := rfl
def parK (i j : Nat) (e : Ev) : List D → Mo Oc
  | [c, d] => ret (.nx ((e.set i (.v c)).set j (.v d)))
  | _ => stuck
@[simp] theorem dPar_eq {i j : Nat} {g : DA} {e : Ev} : dPar i j g e = bnd (g e) (parK i j e) := by
  exact congrArg (bnd (g e)) (funext fun x => match x with
    | [] => rfl
    | [_] => rfl
    | [_, _] => rfl
    | _ :: _ :: _ :: _ => rfl)
@[simp] theorem parK_2 {i j : Nat} {e : Ev} {c d : D} : parK i j e [c, d] = ret (.nx ((e.set i (.v c)).set j (.v d))) := rfl
def par3K (i j l : Nat) (e : Ev) : List D → Mo Oc
  | [c, d, u] => ret (.nx (((e.set i (.v c)).set j (.v d)).set l (.v u)))
  | _ => stuck
@[simp] theorem dPar3_eq {i j l : Nat} {g : DA} {e : Ev} : dPar3 i j l g e = bnd (g e) (par3K i j l e) := by
  exact congrArg (bnd (g e)) (funext fun x => match x with
    | [] => rfl
    | [_] => rfl
    | [_, _] => rfl
    | [_, _, _] => rfl
    | _ :: _ :: _ :: _ :: _ => rfl)
@[simp] theorem par3K_3 {i j l : Nat} {e : Ev} {c d u : D} : par3K i j l e [c, d, u] = ret (.nx (((e.set i (.v c)).set j (.v d)).set l (.v u))) := rfl
@[simp] theorem dParOwn0_eq {i j : Nat} {f : DE} {e : Ev} : dParOwn0 i j f e = bnd (f e) fun d => if i < e.length then ret (.nx ((e.set i (.own [])).set j (.v d))) else stuck := rfl
@[simp] theorem dParOwn1_eq {i j : Nat} {f : DE} {e : Ev} : dParOwn1 i j f e = bnd (f e) fun d => if j < e.length then ret (.nx ((e.set i (.v d)).set j (.own []))) else stuck := rfl
@[simp] theorem dUnp_eq {t : Tg} {f : DE} {e : Ev} : dUnp t f e = bnd (f e) fun d => bnd (lft (asg t d e)) fun e' => ret (.nx e') := rfl
def itemsK : D → Mo (List D)
  | .lst xs => ret xs
  | .tup xs => ret xs
  | _ => stuck
@[simp] theorem dItems_eq {f : DE} {e : Ev} : dItems f e = bnd (f e) itemsK := by
  exact congrArg (bnd (f e)) (funext fun x => by cases x <;> rfl)
@[simp] theorem itemsK_lst {xs : List D} : itemsK (.lst xs) = ret xs := rfl
@[simp] theorem itemsK_tup {xs : List D} : itemsK (.tup xs) = ret xs := rfl
@[simp] theorem dRng1_eq {g : DA} {e : Ev} : dRng1 g e = bnd (g e) fun ds => bnd (lft (int1 ds)) fun j => if b62 j = true then ret (rngD 0 j.toNat) else stuck := rfl
@[simp] theorem dRng2_eq {g : DA} {e : Ev} : dRng2 g e = bnd (g e) fun ds => bnd (lft (int2 ds)) fun p => if (b62 p.1 && b62 p.2) = true then ret (rngD p.1 (p.2 - p.1).toNat) else stuck := rfl
@[simp] theorem int1_int {i : Int} : int1 [.int i] = some i := rfl
@[simp] theorem int2_int {i j : Int} : int2 [.int i, .int j] = some (i, j) := rfl
theorem b62_ok {i : Int} (h : -4611686018427387904 ≤ i) (h' : i < 4611686018427387904) : b62 i = true := by
  unfold b62
  simp [h, h']
@[simp] theorem dEnm_eq {g : DA} {e : Ev} : dEnm g e = bnd (g e) fun ds => bnd (lft (lst1 ds)) fun xs => ret (enmD 0 xs) := rfl
@[simp] theorem lst1_lst {xs : List D} : lst1 [.lst xs] = some xs := rfl
@[simp] theorem dZip_eq {g : DA} {e : Ev} : dZip g e = bnd (g e) fun ds => lft (zip2 ds) := rfl
@[simp] theorem zip2_l {xs ys : List D} : zip2 [.lst xs, .lst ys] = some (zipD xs ys) := rfl
@[simp] theorem zip2_t {xs ys : List D} : zip2 [.tup xs, .tup ys] = some (zipD xs ys) := rfl
@[simp] theorem dFor_eq {fi : DA} {t : Tg} {body : DS} {e : Ev} : dFor fi t body e = bnd (fi e) fun items => dLoop t body items e := rfl
@[simp] theorem dLoop_nil {t : Tg} {body : DS} {e : Ev} : dLoop t body [] e = ret (.nx e) := rfl
/-- what comes behind a turn -/
def loopK (t : Tg) (body : DS) (xs : List D) : Oc → Mo Oc
  | .nx e2 => dLoop t body xs e2
  | .ct e2 => dLoop t body xs e2
  | .bk e2 => ret (.nx e2)
  | .rt d => ret (.rt d)
theorem dLoop_cons {t : Tg} {body : DS} {x : D} {xs : List D} {e : Ev} : dLoop t body (x :: xs) e = bnd (lft (asg t x e)) fun e1 => bnd (body e1) (loopK t body xs) := by
  unfold dLoop
  exact congrArg (bnd (lft (asg t x e))) (funext fun e1 => congrArg (bnd (body e1)) (funext fun o => by cases o <;> rfl))
@[simp] theorem loopK_nx {t : Tg} {body : DS} {xs : List D} {e : Ev} : loopK t body xs (.nx e) = dLoop t body xs e := rfl
@[simp] theorem loopK_rt {t : Tg} {body : DS} {xs : List D} {d : D} : loopK t body xs (.rt d) = ret (.rt d) := rfl
@[simp] theorem loopK_bk {t : Tg} {body : DS} {xs : List D} {e : Ev} : loopK t body xs (.bk e) = ret (.nx e) := rfl
@[simp] theorem dLc_eq {fi : DA} {t : Tg} {ft : DT} {fe : DE} {vs : List Nat} {e : Ev} : dLc fi t ft fe vs e = bnd (fi e) fun items => bnd (dLcLoop t ft fe (wipeE e vs) items []) fun ys => ret (.lst ys) := rfl
@[simp] theorem wipeE_nil {e : Ev} : wipeE e [] = e := rfl
@[simp] theorem wipeE_cons {e : Ev} {u : Nat} {vs : List Nat} : wipeE e (u :: vs) = (wipeE e vs).set u .no := rfl
@[simp] theorem ite_retb {P : Prop} [Decidable P] {a b : Bool} : (if P then ret a else ret b) = ret (if P then a else b) := by split <;> rfl
@[simp] theorem ite_retD {P : Prop} [Decidable P] {a b : D} : (if P then ret a else ret b) = ret (if P then a else b) := by split <;> rfl
@[simp] theorem ite_Dbl {P : Prop} [Decidable P] {a b : Bool} : (if P then D.bl a else D.bl b) = D.bl (if P then a else b) := by split <;> rfl
@[simp] theorem ite_Dint {P : Prop} [Decidable P] {a b : Int} : (if P then D.int a else D.int b) = D.int (if P then a else b) := by split <;> rfl
/-- comprehensions over pure elements -/
theorem lc_pure {t : Tg} {ft : DT} {fe : DE} {e0 : Ev} {p : D → Bool} {h : D → D} : ∀ {items acc : List D}, (∀ x ∈ items, ∃ e1, asg t x e0 = some e1 ∧ ft e1 = ret (p x) ∧ (p x = true → fe e1 = ret (h x))) → acc.length + items.length ≤ 100000 →
    dLcLoop t ft fe e0 items acc = ret (acc ++ (items.filter p).map h)
  | [], acc, _, _ => by simp [dLcLoop]
  | x :: xs, acc, H, hl => by
    obtain ⟨e1, h1, h2, h3⟩ := H x (by simp)
    have ih := fun acc hl => lc_pure (t := t) (ft := ft) (fe := fe) (e0 := e0) (p := p) (h := h) (items := xs) (acc := acc) (fun y hy => H y (by simp [hy])) hl
    rw [List.length_cons] at hl
    unfold dLcLoop
    rw [h1, lft_some, bnd_ret, h2, noErr_ret, bnd_ret]
    by_cases hp : p x = true
    · rw [if_pos hp, h3 hp, noErr_ret, bnd_ret, if_pos (by omega), ih _ (by rw [List.length_append]; simp; omega), List.filter_cons_of_pos hp]
      simp
    · rw [if_neg hp, ih _ (by omega), List.filter_cons_of_neg hp]
theorem lc_map {t : Tg} {fe : DE} {e0 : Ev} {h : D → D} {items : List D} (H : ∀ x ∈ items, ∃ e1, asg t x e0 = some e1 ∧ fe e1 = ret (h x)) (hl : items.length ≤ 100000) : dLcLoop t dYes fe e0 items [] = ret (items.map h) := by
  rw [lc_pure (ft := dYes) (p := fun _ => true) (h := h) (fun x hx => let ⟨e1, h1, h2⟩ := H x hx; ⟨e1, h1, rfl, fun _ => h2⟩) (by simpa using hl), List.filter_eq_self.mpr (fun _ _ => rfl)]
  rfl
/-! ### runs with draws: m takes at most c draws of the bag k -/
def PR : Int := 2305843009213693951
def BagAt (M : MS) (k n : Nat) : Prop := ∃ a b c : Int, M[k]? = some [.int a, .int b, .int c] ∧ 0 ≤ b ∧ b < 2305843009213693951 ∧ 0 ≤ c ∧ c + n ≤ 1099511627776
def Oth (k : Nat) (M M' : MS) : Prop := ∀ j, j ≠ k → M'[j]? = M[j]?
theorem Oth.refl (k : Nat) (M : MS) : Oth k M M := fun _ _ => rfl
theorem Oth.trans {k : Nat} {M M' M'' : MS} (a : Oth k M M') (b : Oth k M' M'') : Oth k M M'' := fun j h => (b j h).trans (a j h)
theorem BagAt.mono {M : MS} {k n m : Nat} (b : BagAt M k n) (h : m ≤ n) : BagAt M k m := by
  obtain ⟨x, y, z, h1, h2, h3, h4, h5⟩ := b
  exact ⟨x, y, z, h1, h2, h3, h4, by omega⟩
def Tk {α : Type} (k c : Nat) (m : Mo α) (post : α → Prop) : Prop := ∀ n M, BagAt M k (n + c) → ∃ a M', m M = some (.ok a, M') ∧ BagAt M' k n ∧ Oth k M M' ∧ post a
section
variable {α β : Type} {k c c1 c2 : Nat}
theorem Tk.ret {a : α} {post : α → Prop} (h : post a) : Tk k c (Z.ret a) post := fun n M b => ⟨a, M, rfl, b.mono (by omega), Oth.refl _ _, h⟩
theorem Tk.bind {m : Mo α} {f : α → Mo β} {p : α → Prop} {post : β → Prop} (h1 : Tk k c1 m p) (h2 : ∀ a, p a → Tk k c2 (f a) post) : Tk k (c1 + c2) (bnd m f) post := fun n M b => by
  obtain ⟨a, M1, e1, b1, o1, pa⟩ := h1 (n + c2) M (b.mono (by omega))
  obtain ⟨z, M2, e2, b2, o2, pz⟩ := h2 a pa n M1 b1
  exact ⟨z, M2, by unfold bnd; rw [e1]; exact e2, b2, o1.trans o2, pz⟩
theorem Tk.mono {m : Mo α} {p post : α → Prop} (h : Tk k c1 m p) (hc : c1 ≤ c) (hp : ∀ a, p a → post a) : Tk k c m post := fun n M b => by
  obtain ⟨a, M1, e1, b1, o1, pa⟩ := h (n + (c - c1)) M (b.mono (by omega))
  exact ⟨a, M1, e1, b1.mono (by omega), o1, hp a pa⟩
theorem Tk.ite {P : Prop} [Decidable P] {m m' : Mo α} {post : α → Prop} (h1 : P → Tk k c m post) (h2 : ¬ P → Tk k c m' post) : Tk k c (if P then m else m') post := by
  split
  · exact h1 (by assumption)
  · exact h2 (by assumption)
end
end Z

/-! ZB: tuple * int of any size, enumerate of a tuple, a tuple backwards -/
namespace Z
open PySem PySem.Spec PyProof.Rows L2
variable [Tbs]

/-! ### tuple * int -/
section
open AutoSeq1 (wpAny_loadPart')
set_option maxHeartbeats 4000000
/-- no times, or fewer -/
theorem mulT_none (l : Addr) (items : Array Value) (n : Nat) (dd : Option Addr) (sl : Array (Option Value)) (x : Int) (u : Tok) (c0 : (decide (x < -(2 ^ 63)) || decide (x ≥ 2 ^ 63)) = false) (c1 : (items.isEmpty || x == 1) = false) (c2 : (decide (x ≤ 0) || items.isEmpty) = true) :
    Meets (Builtin.«tuple.__mul__» ⟨[.ref l, .int x u], []⟩) (fun _ R s => s.heap.get? l = some { cls := .type "tuple", dict := dd, data := .seq items n, slots := sl } ∧
      R (.ok (.ret (Value.ref s.heap.objs.size))) { s with heap := s.heap.push { cls := Value.type "tuple", data := Data.seq #[] }, toks := s.toks }) :=
  .of_wp fun prog w A R s h => by
    obtain ⟨hp, g, d, tk, os⟩ := s
    obtain ⟨hl, h⟩ := h
    have f1 := AutoSeq1.idx_int
    wp_walk using wpAny_loadPart' hl
    repeat (first
      | (refine wpAny_ite_false (decide_eq_false (by rw [c0]; exact Bool.false_ne_true)) ?_; wp_walk using wpAny_loadPart' hl)
      | (refine wpAny_ite_false (decide_eq_false (by rw [c1]; exact Bool.false_ne_true)) ?_; wp_walk using wpAny_loadPart' hl)
      | (refine wpAny_ite_true (decide_eq_true (by rw [c2])) ?_; wp_walk using wpAny_loadPart' hl))
    exact ⟨_, rfl, h⟩
/-- once: the tuple itself -/
theorem mulT_once (l : Addr) (items : Array Value) (n : Nat) (dd : Option Addr) (sl : Array (Option Value)) (x : Int) (u : Tok) (c0 : (decide (x < -(2 ^ 63)) || decide (x ≥ 2 ^ 63)) = false) (c1 : (items.isEmpty || x == 1) = true) :
    Meets (Builtin.«tuple.__mul__» ⟨[.ref l, .int x u], []⟩) (fun _ R s => s.heap.get? l = some { cls := .type "tuple", dict := dd, data := .seq items n, slots := sl } ∧
      R (.ok (.ret (Value.ref l))) s) :=
  .of_wp fun prog w A R s h => by
    obtain ⟨hp, g, d, tk, os⟩ := s
    obtain ⟨hl, h⟩ := h
    have f1 := AutoSeq1.idx_int
    wp_walk using wpAny_loadPart' hl
    repeat (first
      | (refine wpAny_ite_false (decide_eq_false (by rw [c0]; exact Bool.false_ne_true)) ?_; wp_walk using wpAny_loadPart' hl)
      | (refine wpAny_ite_true (decide_eq_true (by rw [c1])) ?_; wp_walk using wpAny_loadPart' hl))
    exact ⟨_, rfl, h⟩
end
section
variable {prog : Program} {w : World} {A : Around} {E : Value → Shared → Prop} {s : Shared}
theorem mulT_op {l : Addr} {k : Int} {t : Tok} {its : Array Value} {n : Nat} {dd : Option Addr} {sl : Array (Option Value)} {Q : Value → Shared → Prop} (ho : s.heap.get? l = some { cls := .type "tuple", dict := dd, data := .seq its n, slots := sl })
    (h : wpAny (model prog w) A (call (.builtin "tuple.__mul__") [.ref l, .int k t]) Q E s) : wpAny (model prog w) A (binaryOp .Mult (.ref l) (.int k t)) Q E s :=
  wpAny_binaryOp_repeat_ref (T := "tuple") (U := "int") (by decide) ⟨_, ho, rfl⟩ (fun s' => typeIs_int s' k t) noFill_tuple_mul F.fills_int_mul F.slot_int_rmul repeat_tuple F.slot_int_index.lookup
    (call_meets F.slot_int_rmul (typeIs_int s k t) F.entry_int_rmul (F.args_int_rmul_2 _ _) (int_rmul_tuple k t l its n dd sl) ⟨ho, rfl, ⟨_, ho, rfl⟩, h⟩)
end
def rMulT (K : PySem.W.Frag) : R2 := fun x y H Q => ∃ (l : Addr) (k : Int) (xs : List V), x = .ref l ∧ y = .int k ∧ SqT K H l xs ∧ xs ≠ [] ∧ xs.length ≤ 100 ∧ -100000 ≤ k ∧ k ≤ 100000 ∧
  (k = 1 → Q (.ref l) H) ∧ (k ≠ 1 → ∀ p, H p = none → Q (.ref p) (upd H p (.tup (List.replicate k.toNat xs).flatten)))
theorem len_repl {α : Type} (xs : List α) : ∀ m : Nat, (List.replicate m xs).flatten.length = m * xs.length
  | 0 => by simp
  | m + 1 => by rw [List.replicate_succ, List.flatten_cons, List.length_append, len_repl xs m, Nat.add_mul, Nat.one_mul, Nat.add_comm]
theorem op_mulTZ {X : Cx} : OpR X (binaryOp .Mult) (rMulT X.K) := by
  intro pins s σ H x y v u Q I rx ry h
  obtain ⟨l, k, xs, rfl, rfl, hT, hne, hz, k1, k2, q1, q2⟩ := h
  cases rx
  obtain ⟨t, rfl⟩ := ry
  obtain ⟨its, r, ⟨⟨cls, dd, data, sl⟩, ho, hc, n, hd⟩, hs⟩ := I.tuple hT
  simp only at hc hd
  subst hc hd
  have hle : its.length = xs.length := r.length.symm
  have hi : its.toArray.isEmpty = false := by
    cases its with
    | nil => exact absurd (List.eq_nil_of_length_eq_zero hle.symm) hne
    | cons a b => rfl
  have c0 : (decide (k < -(2 ^ 63)) || decide (k ≥ 2 ^ 63)) = false := by
    rw [decide_eq_false (by omega), decide_eq_false (by omega)] <;> rfl
  refine mulT_op ho ?_
  by_cases e1 : k = 1
  · refine call_meets F.slot_tuple_mul ⟨_, ho, rfl⟩ F.entry_tuple_mul (F.args_tuple_mul_2 _ _) (mulT_once l its.toArray n dd sl k t c0 (by rw [hi, e1]; rfl)) ⟨ho, ?_⟩
    exact ⟨.ref l, H, I, rfl, q1 e1⟩
  · have c1 : (its.toArray.isEmpty || k == 1) = false := by
      rw [hi, Bool.false_or]
      exact beq_eq_false_iff_ne.mpr e1
    have q := q2 e1 _ (I.hok.fresh (Nat.le_refl _))
    by_cases e2 : k ≤ 0
    · refine call_meets F.slot_tuple_mul ⟨_, ho, rfl⟩ F.entry_tuple_mul (F.args_tuple_mul_2 _ _) (mulT_none l its.toArray n dd sl k t c0 c1 (by rw [decide_eq_true e2]; rfl)) ⟨ho, ?_⟩
      rw [show k.toNat = 0 by omega] at q
      refine ⟨.ref s.heap.objs.size, _, I.laid (t' := s.toks) (o := .tup []) (fun b ob z => Heap.get?_push_of_some _ z) (Nat.le_refl _) ?_, rfl, q⟩
      exact ⟨Nat.zero_le _, [], .nil, IsTup.new _ _⟩
    · have hsz0 : its.toArray.size = xs.length := by rw [List.size_toArray, hle]
      have a1 : k.toNat * xs.length ≤ 100000 * 100 := Nat.mul_le_mul (by omega) hz
      have hm : ((its.toArray.size : Nat) : Int) * k ≤ 10000000 := by
        rw [hsz0]
        have z : ((k.toNat * xs.length : Nat) : Int) ≤ 10000000 := by omega
        rw [Int.natCast_mul, Int.toNat_of_nonneg (by omega), Int.mul_comm] at z
        exact z
      have c2 : (decide (k ≤ 0) || its.toArray.isEmpty) = false := by
        rw [hi, Bool.or_false]
        exact decide_eq_false e2
      have c4 : Builtin.Tuple.tupleTooMany (((its.toArray.size : Nat) : Int) * k) = false := by
        unfold Builtin.Tuple.tupleTooMany
        rw [sizeLine_eq]
        exact decide_eq_false (by omega)
      have flen : (List.replicate k.toNat its).flatten.length ≤ sizeLine := by
        rw [len_repl, hle, sizeLine_eq]
        omega
      refine call_meets F.slot_tuple_mul ⟨_, ho, rfl⟩ F.entry_tuple_mul (F.args_tuple_mul_2 _ _) (tuple_mulW l its.toArray n dd sl k t c0 c1 c2 (by omega) c4 (by rw [size_rep, List.size_toArray]; exact flen)) ⟨ho, ?_⟩
      rw [size_rep]
      refine ⟨.ref s.heap.objs.size, _, I.laid (t' := s.toks) (o := .tup (List.replicate k.toNat xs).flatten) (fun b ob z => Heap.get?_push_of_some _ z) (Nat.le_refl _) ?_, rfl, q⟩
      exact ⟨by rw [len_repl, sizeLine_eq]; omega, _, r.rep k.toNat, IsTup.new _ _⟩
def mulTD : F2 := fun c d _ => match c, d with
  | .tup xs, .int k => if (!xs.isEmpty && decide (xs.length ≤ 100) && decide (-100000 ≤ k) && decide (k ≤ 100000)) = true then some (.tup (rep k.toNat xs)) else none
  | _, _ => none
theorem z_mulT {K : PySem.W.Frag} : OpZ K (rMulT K) mulTD := by
  intro bs M F H x y c d z Q w r1 r2 ez q
  unfold mulTD at ez
  split at ez
  · rename_i xs k
    split at ez
    · rename_i hl
      simp only [Bool.and_eq_true, Bool.not_eq_true', decide_eq_true_eq] at hl
      obtain ⟨⟨⟨h0, h1⟩, h2⟩, h3⟩ := hl
      cases ez
      cases r1 with
      | @tup a vs _ hp s1 =>
        cases r2
        have hl := s1.length
        refine ⟨a, k, vs, rfl, rfl, .inl (.inl (w.sub _ _ hp)), fun e => ?_, by omega, h2, h3, fun e => ?_, fun _ p hq => ?_⟩
        · subst e
          cases s1
          cases h0
        · subst e
          have e2 : rep (1 : Int).toNat xs = xs := by
            show (List.replicate 1 xs).flatten = xs
            simp
          rw [e2] at q
          exact q _ bs F H (Tr.refl _ _ _) w (.tup hp s1)
        · obtain ⟨w2, t2⟩ := w.laid (.tup (List.replicate k.toNat vs).flatten) hq
          exact q _ _ _ _ t2 w2 (.tup upd_same ((s1.rep _).tr t2))
    · cases ez
  · cases ez
theorem mulTD_tup {xs : List D} {k : Int} {M : MS} (h0 : xs.isEmpty = false) (h1 : xs.length ≤ 100) (h2 : -100000 ≤ k) (h3 : k ≤ 100000) : mulTD (.tup xs) (.int k) M = some (.tup (rep k.toNat xs)) := by
  show (if (!xs.isEmpty && decide (xs.length ≤ 100) && decide (-100000 ≤ k) && decide (k ≤ 100000)) = true then some (D.tup (rep k.toNat xs)) else none) = _
  rw [h0, decide_eq_true h1, decide_eq_true h2, decide_eq_true h3]
  rfl

/-! ### enumerate of a tuple -/
section
variable {prog : Program} {w : World} {A : Around} {E : Value → Shared → Prop} {s : Shared}
set_option maxHeartbeats 1000000 in
theorem meets_enumB {v : Value} {o : Obj} {G : Heap → Prop} (B : Begins v o G) :
    Meets (Builtin.«enumerate.__new__» ⟨[.type "enumerate", v], []⟩) (fun _ R s => G s.heap ∧
      R (.ok (.ret (.ref (s.heap.push o).objs.size))) { s with heap := (s.heap.push o).push { cls := .type "enumerate", data := .fields #[.none, .bool false, .ref s.heap.objs.size, rawInt 0, .none, .none] } }) :=
  .of_wp fun prog w A R s h => by
    obtain ⟨hp, g, d, tk, os⟩ := s
    obtain ⟨h1, h⟩ := h
    have hsub := sub_enumerate
    have q1 : ∀ {A' : Around} {E : Value → Shared → Prop} {Q : Value → Shared → Prop}, Q (.ref hp.objs.size) ⟨hp.push o, g, d, tk, os⟩ → wpAny (model prog w) A' (pyIter v) Q E ⟨hp, g, d, tk, os⟩ :=
      fun q => B.iter prog w _ _ ⟨hp, g, d, tk, os⟩ _ h1 q
    wp_walk
    refine wpAny_stack_any fun st => wpAny_pure ?_
    split
    · rename_i c _ _ _ _ _
      cases (c == Value.type "enumerate")
      · wp_walk using q1
        exact ⟨_, rfl, h⟩
      · wp_walk using q1
        exact ⟨_, rfl, h⟩
    · wp_walk using q1
      exact ⟨_, rfl, h⟩
theorem call_enumB {v : Value} {o : Obj} {G : Heap → Prop} {Q : Value → Shared → Prop} (B : Begins v o G) (hG : G s.heap)
    (h : ∀ h', IsEnum h' (s.heap.objs.size + 1) s.heap.objs.size 0 .none → h'.get? s.heap.objs.size = some o → h'.objs.size = s.heap.objs.size + 2 →
      (∀ b u, s.heap.get? b = some u → h'.get? b = some u) → Q (.ref (s.heap.objs.size + 1)) { s with heap := h' }) : wpAny (model prog w) A (call (.type "enumerate") [v]) Q E s := by
  refine callType_new F.called_enumerate (by decide) (F.typeCall_enumerate_1 _) (F.newCall_enumerate_1 _) (fun obj => F.args_object_init_2 obj _) F.entry_enumerate_new (meets_enumB B) ⟨hG, ?_⟩
  have hz : (s.heap.push o).objs.size = s.heap.objs.size + 1 := Heap.size_push ..
  show _ ∧ _
  rw [hz]
  have he : IsEnum ((s.heap.push o).push { cls := .type "enumerate", data := .fields #[.none, .bool false, .ref s.heap.objs.size, rawInt 0, .none, .none] }) (s.heap.objs.size + 1) s.heap.objs.size 0 .none := by
    have z := Heap.get?_push_size (s.heap.push o) (o := { cls := .type "enumerate", data := .fields #[.none, .bool false, .ref s.heap.objs.size, rawInt 0, .none, .none] }) rfl
    rw [hz] at z
    exact z
  exact ⟨⟨_, he, rfl⟩, h _ he (Heap.get?_push_of_some _ (Heap.get?_push_size _ B.free)) (by rw [Heap.size_push, hz]) fun b u z => Heap.get?_push_of_some _ (Heap.get?_push_of_some _ z)⟩
end
def ItT (K : PySem.W.Frag) (a : Addr) : It :=
  ⟨fun i H => ∃ (xs : List V) (x : V), SqT K H a xs ∧ xs[i]? = some x, fun i H v H' => ∃ T x, v = .ref T ∧ H T = none ∧ H' = upd H T (.tup [.int (i : Nat), x]) ∧ ∀ xs, SqT K H a xs → xs[i]? = some x, fun i H => ∃ xs : List V, SqT K H a xs ∧ xs.length = i⟩
theorem cls_ne {h : Heap} {a b : Addr} {o u : Obj} (e : h.get? a = some o) (f : h.get? b = some u) (n : o.cls ≠ u.cls) : a ≠ b := fun z => by
  rw [z, f] at e
  cases e
  exact n rfl
theorem turn_enumT {P : Program} {w : World} {K : PySem.W.Frag} {elts : List Expr} {kk : Nat} {tpos : Pos} (a e it : Addr) :
    Turn P w K (.Tuple elts kk tpos) (ItT K a) [e, it] e (fun i h => (∃ old, IsEnum h e it ((i : Nat) : Int) old) ∧ h.IsTupleIter it a i ∧ e ≠ it) where
  mem := by simp
  obj := fun i h st b hb => by
    obtain ⟨⟨old, he⟩, ⟨o, ho, hc, hd⟩, _⟩ := st
    rcases List.mem_cons.mp hb with z | z
    · rw [z]
      exact ⟨_, he, fun v q => nomatch q⟩
    · rw [List.mem_singleton.mp z]
      exact ⟨o, ho, fun v q => by rw [hd] at q; cases q⟩
  keep := fun i h h' st k => let ⟨⟨old, he⟩, hi, hne⟩ := st; ⟨⟨old, k e (by simp) _ he⟩, hi.at fun o q => k it (by simp) o q, hne⟩
  item := by
    intro X hP hw hK hc i pins s σ H E I hf st hg
    subst hP hw hK
    obtain ⟨⟨old, he⟩, hit, hne⟩ := st
    obtain ⟨xs, x, hq, hx⟩ := hg
    obtain ⟨its, rv, p, hz⟩ := I.tuple hq
    obtain ⟨u, hu, ru⟩ := rv.get hx
    have hu' : its.toArray[i]? = some u := by simpa using hu
    have hlt : i < its.toArray.size := (Array.getElem?_eq_some_iff.mp hu').1
    have hel : e < s.heap.objs.size := Heap.lt_size he
    have hil : it < s.heap.objs.size := by obtain ⟨_, q, _⟩ := hit; exact Heap.lt_size q
    have nai : a ≠ it := by
      obtain ⟨o1, z1, z2, _⟩ := id p
      obtain ⟨o2, z3, z4, _⟩ := id hit
      exact cls_ne z1 z3 (by rw [z2, z4]; decide)
    have nae : e ≠ a := by
      obtain ⟨o1, z1, z2, _⟩ := id p
      exact cls_ne he z1 (by rw [z2]; show Value.type "enumerate" ≠ Value.type "tuple"; decide)
    have D := Draws.tuple (prog := X.prog) (w := X.w) (A := X.A.in1) (show X.A.in1.handled = none from I.ok.hd hc) it a nai its.toArray
    refine wpAny_pyNext_enum_itemD D he ⟨hit, p⟩ hlt hne (by simp [hne, nae]) fun x2 h' tk hP ho hs hT hsz hk => ?_
    obtain rfl : x2 = u := Option.some.inj (hP.symm.trans hu')
    refine ⟨_, rfl, wpAny_letOwnedTupleGo_enum (s := { s with heap := h', toks := tk + 1 }) ho fun h'' he' sb => ?_⟩
    have hT2 : h''.get? s.heap.objs.size = some { cls := .type "tuple", data := .seq #[.int i tk, x2] } := (sb.2 _ (Nat.ne_of_gt hel)).trans hT
    have new : ObjOk X.prog X.w (upd H s.heap.objs.size (.tup [.int (i : Nat), x])) h'' s.heap.objs.size (.tup [.int (i : Nat), x]) :=
      ⟨by show 2 ≤ sizeLine; decide, [.int i tk, x2], .cons ⟨_, rfl⟩ (.cons ru .nil), ⟨_, hT2, rfl, _, rfl⟩⟩
    have I1 : Inv X pins σ (upd H s.heap.objs.size (.tup [.int (i : Nat), x])) { s with heap := h'', toks := tk + 1 } :=
      I.turnedNew (ch := [e, it]) (fun b ob hb q => (sb.2 b (fun z => hb (by simp [z]))).trans (hk b ob (fun z => hb (by simp [z])) (fun z => hb (by simp [z])) q)) hf (Nat.le_refl _) new
    refine ⟨.ref s.heap.objs.size, _, I1, rfl, ⟨_, x, rfl, I.hok.fresh (Nat.le_refl _), rfl, fun ys hy => by rw [I.tuple_inj hy hq]; exact hx⟩, ⟨⟨x2, ?_⟩, hs.1.at fun o q => (sb.2 it (Ne.symm hne)).trans q, hne⟩, fun b hb => ?_⟩
    · have e1 : ((i + 1 : Nat) : Int) = (i : Int) + 1 := by omega
      rw [e1]
      exact he'
    · have hb' : b < s.heap.objs.size := by
        rcases List.mem_cons.mp hb with z | z
        · rw [z]
          exact hel
        · rw [List.mem_singleton.mp z]
          exact hil
      rw [upd_ne (Nat.ne_of_lt hb')]
      exact (hf b hb).1
  done := by
    intro X hP hw hK hc i pins s σ H E I hf st hg
    subst hP hw hK
    obtain ⟨⟨old, he⟩, hit, hne⟩ := st
    obtain ⟨xs, hq, hx⟩ := hg
    obtain ⟨its, rv, p, hz⟩ := I.tuple hq
    obtain ⟨f0, f1, f2, f3, f4, f5⟩ := hf it (by simp)
    have hl := rv.length
    have nai : a ≠ it := by
      obtain ⟨o1, z1, z2, _⟩ := id p
      obtain ⟨o2, z3, z4, _⟩ := id hit
      exact cls_ne z1 z3 (by rw [z2, z4]; decide)
    have D := Draws.tuple (prog := X.prog) (w := X.w) (A := X.A.in1) (show X.A.in1.handled = none from I.ok.hd hc) it a nai its.toArray
    have e0 : its.toArray.size = i := by rw [List.size_toArray]; omega
    refine wpAny_pyNext_enum_endD D he ⟨by rw [e0]; exact hit, p⟩ fun h' eb => ⟨rfl, ?_⟩
    exact I.turned (t' := s.toks) (fun b o hb q => eb b o hb q) f0 f1 f3 f4 f5
  self := fun A i s Q E st h => let ⟨⟨_, he⟩, _⟩ := st; wpAny_pyIter_enum he h
def iEnmT (K : PySem.W.Frag) (ta : TA) : TI := fun σ H R => ta σ H fun vs H1 => ∃ a xs, vs = [.ref a] ∧ SqT K H1 a xs ∧ R (ItT K a) H1
section
variable {X : Cx} {W : Wi} {K : PySem.W.Frag} {bs : List Addr} {F : Hp} {ex : Expr}
theorem pi_enmT {e : Expr} {ta : TA} {p pos tpos : Pos} {elts : List Expr} {kk : Nat} (hg : Gl X "enumerate") (hm : X.mg "enumerate" = none) (ha : PA X [e] ta) (hs : starEach [e] X.env = [(false, eval e X.env)] := by rfl) :
    PI X (.Tuple elts kk tpos) (.Call (.Name "enumerate" p) [e] [] pos) (iEnmT X.K ta) := by
  refine ⟨fun pins s σ H R I h => ?_⟩
  refine Call_ (ld_blt I hg hm boot_enumerate (PyProof.Rows.callWith_type1 (thn (ha.run pos pins s σ H _ I h) fun us s1 ⟨vs, H1, I1, r1, q1⟩ => ?_) hs rfl))
  obtain ⟨a, xs, rfl, hq, q⟩ := q1
  rw [Vals.ref1 r1]
  obtain ⟨its, rv, p', hz⟩ := I1.tuple hq
  refine call_enumB (begins_tuple a its.toArray) p' fun h' he hit hsz hk => wpAny_pyIter_enum he ?_
  have I2 : Inv X pins σ H1 { s1 with heap := h' } := I1.kept (t' := s1.toks) hk
  refine ⟨s1.heap.objs.size + 1, [s1.heap.objs.size + 1, s1.heap.objs.size], _, _, H1, rfl, I2, turn_enumT a (s1.heap.objs.size + 1) s1.heap.objs.size, ⟨⟨.none, he⟩, ⟨_, hit, rfl, rfl⟩, Nat.succ_ne_self _⟩, fun b hb => ?_, q⟩
  have hle : s1.heap.objs.size ≤ b := by
    rcases List.mem_cons.mp hb with z | z
    · rw [z]
      exact Nat.le_succ _
    · rw [List.mem_singleton.mp z]
      exact Nat.le_refl _
  exact I1.fpOk hle (I1.hok.fresh hle)
theorem iter_enmT {a : Addr} {vs : List V} {ds : List D} (h : F a = some (.tup vs)) (s : Reps K bs F vs ds) : IterOk K (ItT K a) bs F (enmD 0 ds) where
  go := fun F' H' s1 s2 i hi => by
    rw [enmD_len] at hi
    exact ⟨vs, vs[i]'(by rw [s.length]; exact hi), .inl (.inl (s2 _ _ (s1 _ _ h))), by simp [s.length, hi]⟩
  stop := fun F' H' s1 s2 => ⟨vs, .inl (.inl (s2 _ _ (s1 _ _ h))), by rw [s.length, enmD_len]⟩
  yld := fun more F' H' M' s1 w i x H'' d hd y => by
    obtain ⟨T, z, rfl, hT, rfl, y⟩ := y
    obtain ⟨d', e1, rfl⟩ := enmD_get 0 ds i d hd
    obtain ⟨v, e, r⟩ := s.get e1
    have e2 := y vs (.inl (.inl (w.sub _ _ (s1 _ _ h))))
    rw [e] at e2
    cases e2
    obtain ⟨w2, t2⟩ := w.laid (.tup [.int (i : Nat), z]) hT
    refine ⟨_, t2, w2, .tup upd_same (.cons ?_ (.cons ((r.mono s1).tr t2) .nil))⟩
    rw [Nat.zero_add]
    exact .int _
def tup1 : List D → Option (List D)
  | [.tup xs] => some xs
  | _ => none
theorem tup1_rep {ds es : List D} {vs : List V} (h : tup1 ds = some es) (r : Reps K bs F vs ds) : ∃ a us, vs = [.ref a] ∧ F a = some (.tup us) ∧ Reps K bs F us es := by
  unfold tup1 at h
  split at h
  · cases h
    obtain ⟨v, rfl, q⟩ := r.one
    cases q with
    | tup hp s => exact ⟨_, _, rfl, hp, s⟩
  · cases h
def dEnmT (g : DA) : DA := fun e => bnd (g e) fun ds => bnd (lft (tup1 ds)) fun xs => ret (enmD 0 xs)
theorem zi_enmT {elts : List Expr} {kk : Nat} {g : DA} {p pos tpos : Pos} (hg : Gl X "enumerate") (hm : X.mg "enumerate" = none) (ha : ZA X W [ex] g) (hs : starEach [ex] X.env = [(false, eval ex X.env)] := by rfl) : ZI X W (.Tuple elts kk tpos) (.Call (.Name "enumerate" p) [ex] [] pos) (dEnmT g) := ⟨fun pins s σ H R I h => (pi_enmT hg hm ha hs).run pins s σ H R I (by
  obtain ⟨bs, M, F, e, at0, run⟩ := h
  refine ⟨bs, M, F, e, at0, run.bind.imp fun ds bs1 M1 F1 H1 t1 w1 run1 vs r => ?_⟩
  cases e1 : tup1 ds with
  | none =>
    rw [e1] at run1
    exact run1.elim
  | some xs =>
    rw [e1] at run1
    have run2 := Run.here w1 run1.bind
    obtain ⟨a, us, rfl, hp, s⟩ := tup1_rep e1 r
    exact ⟨a, us, rfl, .inl (.inl (w1.sub _ _ hp)), Run.here w1 run2 _ (iter_enmT hp s)⟩)⟩
end
end Z

/-! ZC: min of a list of data, list.index, sorted(set(list)), calls whose list is kept as one's own -/
namespace Z
open PySem PySem.Spec PyProof.Rows L2
variable [Tbs]

theorem hu65 {k : Nat} {A : Around} (hr : Room k A) : A.units + 65 < cLine := by
  have := hr.un
  omega
/-! ### data are told apart by what they are read as -/
theorem toP_inj : ∀ (n : Nat) (c d : D), okN n c = true → okN n d = true → toP c = toP d → c = d := by
  have all : ∀ (n : Nat), (∀ c d, okN n c = true → okN n d = true → toP c = toP d → c = d) → ∀ xs ys : List D, (∀ x ∈ xs, okN n x = true) → (∀ y ∈ ys, okN n y = true) → toPs xs = toPs ys → xs = ys := by
    intro n ih xs
    induction xs with
    | nil =>
      intro ys h1 h2 e
      cases ys with
      | nil => rfl
      | cons y ys => simp [toPs] at e
    | cons x xs ihl =>
      intro ys h1 h2 e
      cases ys with
      | nil => simp [toPs] at e
      | cons y ys =>
        simp only [toPs, List.cons.injEq] at e
        rw [ih x y (h1 x (by simp)) (h2 y (by simp)) e.1, ihl ys (fun z hz => h1 z (by simp [hz])) (fun z hz => h2 z (by simp [hz])) e.2]
  intro n
  induction n with
  | zero =>
    intro c d h1 h2 e
    cases c <;> cases d <;> first
      | (simp [okN] at h1; done)
      | (simp [okN] at h2; done)
      | (simp [toP] at e; done)
      | rfl
      | (simp [toP] at e; rw [e])
  | succ n ih =>
    intro c d h1 h2 e
    cases c <;> cases d <;> first
      | (simp [okN] at h1; done)
      | (simp [okN] at h2; done)
      | (simp [toP] at e; done)
      | rfl
      | (simp only [toP, PyData.tuple.injEq] at e; rw [all n ih _ _ (okN_all (.inl h1)) (okN_all (.inl h2)) e])
      | (simp only [toP, PyData.list.injEq] at e; rw [all n ih _ _ (okN_all (.inr h1)) (okN_all (.inr h2)) e])
      | (simp [toP] at e; rw [e])
theorem toPs_map : ∀ xs : List D, toPs xs = xs.map toP
  | [] => by simp [toPs]
  | x :: xs => by simp [toPs, toPs_map xs]

/-! ### min of a list of data -/
section
variable {K : PySem.W.Frag} {X : Cx}
theorem minD_mem (d : PyData) : ∀ ds : List PyData, PySem.W.minD d ds ∈ d :: ds := by
  intro ds
  unfold PySem.W.minD
  induction ds generalizing d with
  | nil => simp
  | cons e r ih =>
    rw [List.foldl_cons]
    have z := ih (if PySem.W.dataLt e d = true then e else d)
    rcases List.mem_cons.mp z with q | q
    · rw [q]
      split <;> simp
    · exact List.mem_cons_of_mem _ (List.mem_cons_of_mem _ q)
theorem Vals.back : ∀ {xs : List V} {us : List Value} {i : Nat} {u : Value}, Vals xs us → us[i]? = some u → ∃ x, xs[i]? = some x ∧ RelV x u
  | _, _, _, _, .nil, e => by simp at e
  | _, _, 0, _, .cons r _, e => by
    simp at e
    subst e
    exact ⟨_, rfl, r⟩
  | _, _, i + 1, u, .cons _ t, e => by
    obtain ⟨x, h1, h2⟩ := Vals.back (i := i) (u := u) t (by simpa using e)
    exact ⟨x, by simpa using h1, h2⟩
def rMinD (K : PySem.W.Frag) : List V → Hp → VK → Prop := fun vs H Q => ∃ (a : Addr) (xs : List V) (d : PyData) (ds : List PyData), vs = [.ref a] ∧ SqL K H a xs ∧ DpAll K H xs (d :: ds) ∧ PySem.W.AlikeAll (d :: ds) ∧ PyData.depthAll (d :: ds) ≤ 60 ∧
  ∀ (i : Nat) (x : V), xs[i]? = some x → (d :: ds)[i]? = some (PySem.W.minD d ds) → Q x H
theorem cr_minD (hc : X.calm = true) (hu : X.A.units + 64 < cLine) : CallR X (.builtin "min") (rMinD X.K) := by
  intro pins s σ H vs us Q I r h
  obtain ⟨a, xs, d, ds, rfl, hs, hd, ha, hp, q⟩ := h
  obtain ⟨its, rv, pl, hz⟩ := I.list hs
  rw [Vals.ref1 r]
  obtain ⟨as, h4⟩ := Dp.readsAll I (d :: ds) xs its hd rv
  refine PySem.W.min_list_data (vs := its.toArray) (I.ok.hd hc) pl.isList h4 ha (by omega) fun i v h' tk bs hv hr hk => ?_
  have hv' : its[i]? = some v := by simpa using hv
  obtain ⟨x, hx, rx⟩ := Vals.back rv hv'
  obtain ⟨bs2, r2, hlt, hmem, _⟩ := PySem.W.readsAll_at h4 i v hv'
  have e : (d :: ds).getD i .none = PySem.W.minD d ds := PySem.W.alike_unique _ _ v _ _ (ha.1 _ hmem _ (minD_mem d ds)) (Reads.keeps hk r2) hr
  refine ⟨x, H, I.kept hk, rx, q i x hx ?_⟩
  rw [List.getD_eq_getElem?_getD, List.getElem?_eq_getElem hlt] at e
  rw [List.getElem?_eq_getElem hlt, ← e]
  rfl
/-- the first of the least -/
def minBy (d : D) (ds : List D) : D := ds.foldl (fun a y => if PySem.W.dataLt (toP y) (toP a) = true then y else a) d
theorem minBy_toP (d : D) (ds : List D) : toP (minBy d ds) = PySem.W.minD (toP d) (ds.map toP) := by
  unfold minBy PySem.W.minD
  induction ds generalizing d with
  | nil => rfl
  | cons e r ih =>
    rw [List.foldl_cons, List.map_cons, List.foldl_cons, ih]
    congr 1
    split <;> rfl
theorem minBy_mem (d : D) : ∀ ds : List D, minBy d ds ∈ d :: ds := by
  intro ds
  unfold minBy
  induction ds generalizing d with
  | nil => simp
  | cons e r ih =>
    rw [List.foldl_cons]
    have z := ih (if PySem.W.dataLt (toP e) (toP d) = true then e else d)
    rcases List.mem_cons.mp z with q | q
    · rw [q]
      split <;> simp
    · exact List.mem_cons_of_mem _ (List.mem_cons_of_mem _ q)
def alikeD (xs : List D) : Bool := xs.all fun x => !isNone x && xs.all fun y => PySem.W.alike (toP x) (toP y)
def minD1 : F1 := fun ds _ => match ds with
  | [.lst (x :: xs)] => if ((x :: xs).all (okN 8) && alikeD (x :: xs)) = true then some (minBy x xs) else none
  | _ => none
theorem toP_non {n : Nat} {d : D} (h : okN n d = true) (e : toP d = .none) : d = .non := toP_inj n d .non h (by cases n <;> rfl) (by rw [e]; simp [toP])
theorem z_minD : CallZ K (rMinD K) minD1 := by
  intro bs M F H xs ds z Q w r ez q
  unfold minD1 at ez
  split at ez
  · rename_i x l
    split at ez
    · rename_i hc
      rw [Bool.and_eq_true] at hc
      obtain ⟨h1, h2⟩ := hc
      have h1' : ∀ y ∈ x :: l, okN 8 y = true := List.all_eq_true.mp h1
      have h2' := List.all_eq_true.mp h2
      cases ez
      obtain ⟨v, rfl, rr⟩ := r.one
      cases rr with
      | @lst a vs _ hp s =>
        have dp := Reps.dp w.sub s h1'
        rw [toPs_map, List.map_cons] at dp
        refine ⟨a, vs, toP x, l.map toP, rfl, .inl (.inl (w.sub _ _ hp)), dp, ⟨fun y hy u hu => ?_, fun y hy e => ?_⟩, ?_, fun i y hi hm => ?_⟩
        · rw [← List.map_cons] at hy hu
          obtain ⟨y', hy', rfl⟩ := List.mem_map.mp hy
          obtain ⟨u', hu', rfl⟩ := List.mem_map.mp hu
          have k := h2' y' hy'
          rw [Bool.and_eq_true] at k
          exact List.all_eq_true.mp k.2 u' hu'
        · rw [← List.map_cons] at hy
          obtain ⟨y', hy', rfl⟩ := List.mem_map.mp hy
          have k := h2' y' hy'
          rw [toP_non (h1' y' hy') e] at k
          simp at k
        · rw [← List.map_cons, ← toPs_map]
          have := depthAll_le (n := 8) (xs := x :: l) fun y hy => (okN_lay 8 y (h1' y hy)).2
          omega
        · have e1 : (x :: l)[i]? = some (minBy x l) := by
            rw [← List.map_cons, List.getElem?_map] at hm
            cases e : (x :: l)[i]? with
            | none =>
              rw [e] at hm
              cases hm
            | some c =>
              rw [e] at hm
              have em : toP c = toP (minBy x l) := by
                rw [minBy_toP]
                exact Option.some.inj hm
              rw [toP_inj 8 c (minBy x l) (h1' c (List.mem_of_getElem? e)) (h1' _ (minBy_mem x l)) em]
          obtain ⟨v', e2, r2⟩ := s.get e1
          rw [hi] at e2
          cases e2
          exact q _ bs F H (Tr.refl _ _ _) w r2
    · cases ez
  · cases ez
end

/-! ### list.index -/
/-- the first place of an equal one -/
def idxOf (y : D) : List D → Option Nat
  | [] => none
  | x :: xs => if eqN 8 x y = true then some 0 else (idxOf y xs).map (· + 1)
theorem idxOf_spec {y : D} : ∀ {xs : List D} {j : Nat}, idxOf y xs = some j → (∃ z, xs[j]? = some z ∧ eqN 8 z y = true) ∧ ∀ m z, m < j → xs[m]? = some z → eqN 8 z y = false
  | [], _, h => by cases h
  | x :: xs, j, h => by
    unfold idxOf at h
    split at h
    · rename_i e
      cases h
      exact ⟨⟨x, rfl, e⟩, fun m z hm => absurd hm (Nat.not_lt_zero _)⟩
    · rename_i e
      cases q : idxOf y xs with
      | none =>
        rw [q] at h
        cases h
      | some i =>
        rw [q] at h
        cases h
        obtain ⟨⟨z, h1, h2⟩, h3⟩ := idxOf_spec q
        refine ⟨⟨z, h1, h2⟩, fun m u hm hu => ?_⟩
        cases m with
        | zero =>
          simp at hu
          rw [← hu]
          simpa using e
        | succ m => exact h3 m u (Nat.lt_of_succ_lt_succ hm) (by simpa using hu)
def dIdx (fa fb : DE) : DE := fun e => bnd (fa e) fun x => match x with
  | .lst xs => bnd (fb e) fun y => if (xs.all (okN 7) && xs.all (okN 8) && okN 8 y) = true then lft ((idxOf y xs).map fun j => D.int (j : Int)) else stuck
  | _ => stuck
section
variable {X : Cx} {W : Wi} {o ex : Expr} {fa fb : DE} {apos cpos : Pos}
theorem ze_index (hu : X.A.units + 65 < cLine) (ho : ZE X W o fa) (he : ZE X W ex fb) (hb : attributeBase o "index" X.env (eval o X.env) = eval o X.env := by rfl) (he1 : starEach [ex] X.env = (false, eval ex X.env) :: starEach [] X.env := by rfl) (hline : (apos.endLine == cpos.line) = true := by rfl)
    (hfew : ((backTo cpos (starEach (ex :: []) X.env)).all (fun x => !x.1) && (backToKw cpos (keywordEach [] X.env)).all (fun x => x.1.isSome)
      && decide ((ex :: []).length + ([] : List Keyword).length + (if ([] : List Keyword).isEmpty then 0 else 1) < 30)) = true := by rfl) :
    ZE X W (.Call (.Attribute o "index" apos) [ex] [] cpos) (dIdx fa fb) := ⟨fun pins s σ H Q I h => (pe_bm PySem.F.plainAttrs_list PySem.F.slot_list_index PySem.F.type_list_index (mt_indexD hu) ho (pa_cons he pa_nil he1) (hbase := hb) (hline := hline) (hfew := hfew) (hs := he1)).run pins s σ H Q I (by
  obtain ⟨bs, M, F, e, at0, run⟩ := h
  refine ⟨bs, M, F, e, at0, run.bind.imp fun x bs1 M1 F1 H1 t1 w1 run1 v1 r1 => ?_⟩
  cases x with
  | lst xs =>
    cases r1 with
    | @lst a vs _ hp s =>
      refine ⟨.inl ⟨rfl, _, .inl (.inl (w1.sub _ _ hp))⟩, bs1, M1, F1, e, at0.tr t1 w1, run1.bind.imp fun y bs2 M2 F2 H2 t2 w2 run2 v2 r2 => ?_⟩
      by_cases hc : (xs.all (okN 7) && xs.all (okN 8) && okN 8 y) = true
      · rw [if_pos hc] at run2
        rw [Bool.and_eq_true, Bool.and_eq_true] at hc
        obtain ⟨⟨c1, c2⟩, c3⟩ := hc
        obtain ⟨z, ez, k⟩ := run2.of_lft
        cases ej : idxOf y xs with
        | none =>
          rw [ej] at ez
          cases ez
        | some j =>
          rw [ej] at ez
          cases ez
          obtain ⟨⟨z, h1, h2⟩, h3⟩ := idxOf_spec ej
          have rl : Rep X.K bs2 F2 (.ref a) (.lst xs) := (Rep.lst hp s).tr t2
          have d1 := Rep.dp (n := 8) w2.sub rl (show okN 8 (.lst xs) = true from c1)
          have s1 := shaped_of (d := .lst xs) (show okN 8 (.lst xs) = true from c1)
          simp only [toP] at d1 s1
          have at_ : ∀ (m : Nat) (u : D), xs[m]? = some u → (toPs xs)[m]? = some (toP u) := fun m u e => by rw [toPs_map, List.getElem?_map, e]; rfl
          have ok_ : ∀ (m : Nat) (u : D), xs[m]? = some u → okN 8 u = true := fun m u e => List.all_eq_true.mp c2 u (List.mem_of_getElem? e)
          refine ⟨a, v2, toP y, toPs xs, j, toP z, rfl, rfl, d1, r2.dp w2.sub c3, s1, shaped_of c3, at_ j z h1, by rw [eqN_eqv 8 z y (ok_ j z h1) c3]; exact h2, fun m u hm hu => ?_, k _ _ _ (Tr.refl _ _ _) w2 _ (.int _)⟩
          rw [toPs_map, List.getElem?_map] at hu
          cases e : xs[m]? with
          | none =>
            rw [e] at hu
            cases hu
          | some u' =>
            rw [e] at hu
            cases hu
            rw [eqN_eqv 8 u' y (ok_ m u' e) c3]
            exact h3 m u' hm e
      · rw [if_neg hc] at run2
        exact run2.elim
  | _ => exact run1.elim)⟩
end

/-! ### a call's new list is kept as one's own -/
/-- data without lists -/
def noL : Nat → D → Bool
  | _, .non => true
  | _, .bl _ => true
  | _, .int _ => true
  | _, .str _ => true
  | _, .obj _ => true
  | n + 1, .tup xs => xs.all (noL n)
  | _, _ => false
def dropL (F : Hp) : Hp := fun a => match F a with
  | some (.lst _) => none
  | o => o
theorem dropL_sub {F : Hp} {a : Addr} {o : HO} (h : dropL F a = some o) : F a = some o := by
  unfold dropL at h
  split at h
  · cases h
  · exact h
theorem dropL_tup {F : Hp} {a : Addr} {vs : List V} (h : F a = some (.tup vs)) : dropL F a = some (.tup vs) := by
  unfold dropL
  rw [h]
theorem dropL_lst {F : Hp} {a : Addr} {vs : List V} : dropL F a ≠ some (.lst vs) := fun h => by
  have q := dropL_sub h
  unfold dropL at h
  rw [q] at h
  cases h
theorem dropL_none {F : Hp} {a : Addr} (h : F a = none) : dropL F a = none := by
  unfold dropL
  rw [h]
def flatM (M : MS) : Bool := M.all fun ds => ds.all flatD
section
variable {K : PySem.W.Frag} {bs bs' : List Addr} {F F' H H' : Hp}
mutual
theorem Rep.bare {n : Nat} : ∀ {v : V} {d : D}, Rep K bs F v d → noL n d = true → Rep K bs (dropL F) v d
  | _, _, .non, _ => .non
  | _, _, .bl b, _ => .bl b
  | _, _, .int i, _ => .int i
  | _, _, .str x, _ => .str x
  | _, _, .tup h r, k => by
    cases n with
    | zero => simp [noL] at k
    | succ n => exact .tup (dropL_tup h) (Reps.bare r (show _ from k))
  | _, _, .lst _ _, k => by cases n <;> simp [noL] at k
  | _, _, .dct _ _ _, k => by cases n <;> simp [noL] at k
  | _, _, .scr _, k => by cases n <;> simp [noL] at k
  | _, _, .obj h, _ => .obj h
  | _, _, .con _ _ _, k => by cases n <;> simp [noL] at k
theorem Reps.bare {n : Nat} : ∀ {vs : List V} {ds : List D}, Reps K bs F vs ds → ds.all (noL n) = true → Reps K bs (dropL F) vs ds
  | _, _, .nil, _ => .nil
  | _, _, .cons r t, k => by
    rw [List.all_cons, Bool.and_eq_true] at k
    exact .cons (Rep.bare r k.1) (Reps.bare t k.2)
end
theorem Rep.flatAny {v : V} {d : D} (r : Rep K bs F v d) (h : flatD d = true) : Rep K bs' F' v d := by
  cases r <;> first | exact .non | exact .bl _ | exact .int _ | exact .str _ | (simp [flatD] at h; done)
theorem Reps.flatAny : ∀ {vs : List V} {ds : List D}, Reps K bs F vs ds → ds.all flatD = true → Reps K bs' F' vs ds
  | _, _, .nil, _ => .nil
  | _, _, .cons r t, k => by
    rw [List.all_cons, Bool.and_eq_true] at k
    exact .cons (r.flatAny k.1) (t.flatAny k.2)
theorem flatM_at {M : MS} {i : Nat} {ds : List D} (h : flatM M = true) (e : M[i]? = some ds) : ds.all flatD = true := List.all_eq_true.mp h ds (List.mem_of_getElem? e)
theorem Wd.bare {M : MS} (w : Wd K bs M F H) (hM : flatM M = true) : Wd K bs M (dropL F) H :=
  ⟨fun b u e => w.sub b u (dropL_sub e), w.nd, w.len, fun i b ds e1 e2 => let ⟨n1, vs, e3, r⟩ := w.objs i b ds e1 e2; ⟨dropL_none n1, vs, e3, r.flatAny (flatM_at hM e2)⟩, w.tab, fun p hp => dropL_none (w.tabF p hp)⟩
def clean (e : Ev) : Ev := e.map fun s => match s with
  | .v d => if noL 6 d = true then .v d else .no
  | .own ds => if ds.all (noL 6) = true then .own ds else .no
  | _ => .no
theorem Slots.bare : ∀ {σ : L2.St} {e : Ev} {os : List Addr}, Slots K bs F H σ e os → ∃ os', Slots K bs (dropL F) H σ (clean e) os' ∧ ∀ a ∈ os', a ∈ os
  | _, _, _, .nil => ⟨[], .nil, fun _ h => h⟩
  | _, _, _, .no s => let ⟨os', q, h⟩ := Slots.bare s; ⟨os', .no q, h⟩
  | _, _, _, .v (d := d) r s => by
    obtain ⟨os', q, h⟩ := Slots.bare s
    by_cases hc : noL 6 d = true
    · refine ⟨os', ?_, h⟩
      show Slots K bs (dropL F) H _ ((if noL 6 d = true then Sl.v d else .no) :: clean _) os'
      rw [if_pos hc]
      exact .v (r.bare hc) q
    · refine ⟨os', ?_, h⟩
      show Slots K bs (dropL F) H _ ((if noL 6 d = true then Sl.v d else .no) :: clean _) os'
      rw [if_neg hc]
      exact .no q
  | _, _, _, .own (ds := ds) h1 h2 h3 h4 r s => by
    obtain ⟨os', q, h⟩ := Slots.bare s
    by_cases hc : ds.all (noL 6) = true
    · refine ⟨_ :: os', ?_, fun b hb => (List.mem_cons.mp hb).elim (fun z => by rw [z]; exact List.mem_cons_self) fun z => List.mem_cons_of_mem _ (h b z)⟩
      show Slots K bs (dropL F) H _ ((if ds.all (noL 6) = true then Sl.own ds else .no) :: clean _) _
      rw [if_pos hc]
      exact .own h1 (dropL_none h2) h3 (fun z => h4 (h _ z)) (r.bare hc) q
    · refine ⟨os', ?_, fun b hb => List.mem_cons_of_mem _ (h b hb)⟩
      show Slots K bs (dropL F) H _ ((if ds.all (noL 6) = true then Sl.own ds else .no) :: clean _) os'
      rw [if_neg hc]
      exact .no q
  | _, _, _, .ownD h1 h2 h3 h4 hk r s => by
    obtain ⟨os', q, h⟩ := Slots.bare s
    exact ⟨os', .no q, fun b hb => List.mem_cons_of_mem _ (h b hb)⟩
/-- what was laid meanwhile is forgotten -/
theorem back_tr {F1 F2 : Hp} {M M' : MS} (w : Wd K bs M F H) (h1 : ∀ a ps, F a = some (.tbl ps) → F1 a = some (.tbl ps)) (t : Tr bs F1 H bs' F2 H') (w' : Wd K bs' M' F2 H') (hM : flatM M' = true) : Tr bs F H bs' F H' ∧ Wd K bs' M' F H' := by
  have notin : ∀ a o, F a = some o → a ∉ bs' := fun a o e z => by
    obtain ⟨more, eb, hm⟩ := t.pre
    have hH := w.sub _ _ e
    rw [eb] at z
    rcases List.mem_append.mp z with z | z
    · obtain ⟨i, hi, ei⟩ := List.mem_iff_getElem.mp z
      have e1 : bs[i]? = some a := List.getElem?_eq_some_iff.mpr ⟨hi, ei⟩
      have hi2 : i < M.length := by rw [← w.len]; exact hi
      obtain ⟨n1, _⟩ := w.objs i a _ e1 (List.getElem?_eq_getElem hi2)
      rw [n1] at e
      cases e
    · rw [hm a z] at hH
      cases hH
  have notin0 : ∀ a o, F a = some o → a ∉ bs := fun a o e z => by
    obtain ⟨more, eb, _⟩ := t.pre
    exact notin a o e (by rw [eb]; exact List.mem_append_left _ z)
  refine ⟨⟨t.pre, Same.refl _, fun a o e => .inl e, t.keep0, t.dom⟩, ⟨fun a o e => ?_, w'.nd, w'.len, fun i b ds e1 e2 => ?_, w'.tab, w.tabF⟩⟩
  · cases o with
    | tbl ps => exact w'.sub _ _ (t.fm _ _ (h1 _ _ e))
    | _ => exact t.keep a _ (w.sub _ _ e) (notin0 a _ e)
  obtain ⟨_, vs, e3, r⟩ := w'.objs i b ds e1 e2
  refine ⟨?_, vs, e3, r.flatAny (flatM_at hM e2)⟩
  cases q : F b with
  | none => rfl
  | some o => exact absurd (List.mem_of_getElem? e1) (notin b o q)
end
def dSetOwnC (i : Nat) (fe : DE) : DS := fun e M => if flatM M = true then match fe (clean e) M with
    | some (.ok (.lst ds), M') => if (flatM M' = true ∧ ds.all flatD = true) ∧ i < e.length then some (.ok (.nx (e.set i (.own ds))), M') else none
    | some (.err c, M') => if flatM M' = true then some (.err c, M') else none
    | _ => none
  else none
section
variable {X : Cx} {W : Wi} {ex : Expr} {fe : DE} {pos : Pos}
theorem zs_setOwnC {i : Nat} {x : Str} {pos' : Pos} (hN : X.N.Nodup) (hi : X.N[i]? = some x) (hx : Loc X.env.scope x) (he : ZE X W ex fe) (hs : swapsWith ex (some (.Name x pos')) pos.line X.env = pure false := by rfl) (hf : X.fn x = true ∨ X.env.scope.names.lookup x = some .local := by first | exact .inl rfl | exact .inr rfl | assumption) :
    ZS X W (.Assign [.Name x pos'] ex pos) (dSetOwnC i fe) := ⟨fun pins s σ H Dn I h => (ps_set hN hi hx he hs hf).run pins s σ H Dn I (by
  obtain ⟨bs0, F0, H0, bs, M, F, e, a, run⟩ := h
  obtain ⟨t0, w, os, sl, no⟩ := id a
  unfold dSetOwnC at run
  by_cases hM : flatM M = true
  · rw [if_pos hM] at run
    obtain ⟨os1, sl1, _⟩ := sl.bare
    refine ⟨bs, M, dropL F, clean e, ⟨w.bare hM, os1, sl1⟩, ?_⟩
    match ef : fe (clean e) M, run with
    | some (.ok d, M'), run =>
      intro bs' F' H' t w' v r
      cases d with
      | lst ds =>
        simp only at run
        by_cases hc : (flatM M' = true ∧ ds.all flatD = true) ∧ i < e.length
        · rw [if_pos hc] at run
          obtain ⟨⟨hM', hd⟩, hi'⟩ := hc
          cases r with
          | @lst p vs _ hp s =>
            have hn : H p = none := by
              rcases t.new p _ hp with z | z
              · exact absurd z dropL_lst
              · exact z
            obtain ⟨t2, w2⟩ := back_tr (F1 := dropL F) w (fun a ps e => by unfold dropL; rw [e]) t w' hM'
            have nb : p ∉ bs' := fun z => by
              obtain ⟨j, hj, ej⟩ := List.mem_iff_getElem.mp z
              have e1 : bs'[j]? = some p := List.getElem?_eq_some_iff.mpr ⟨hj, ej⟩
              have hj2 : j < M'.length := by rw [← w'.len]; exact hj
              obtain ⟨n1, _⟩ := w'.objs j p _ e1 (List.getElem?_eq_getElem hj2)
              rw [n1] at hp
              cases hp
            obtain ⟨os2, s2, k2⟩ := (sl.tr t2).setown (w'.sub _ _ hp) (w.fnone hn) nb (s.flatAny hd) i (fun z => sl.dom p z hn) hi'
            exact run bs' F H' _ ⟨t0.trans t2, w2, os2, s2, fun b hb => (k2 b hb).elim (fun z => by rw [z]; exact a.none0 hn) (no b)⟩
        · rw [if_neg hc] at run
          exact run.elim
      | _ => exact run.elim
    | some (.err c, M'), run =>
      intro bs' F' H' t w'
      simp only at run
      by_cases hM' : flatM M' = true
      · rw [if_pos hM'] at run
        obtain ⟨t2, w2⟩ := back_tr (F1 := dropL F) w (fun a ps e => by unfold dropL; rw [e]) t w' hM'
        exact run bs' F H' _ (t0.trans t2) w2
      · rw [if_neg hM'] at run
        exact run.elim
    | none, run => exact run.elim
  · rw [if_neg hM] at run
    exact run.elim)⟩
/-- a list of one's own is read for a test and stays one's own -/
def dTmp (j : Nat) (f : DT) : DT := fun e M => match f (frz j e) M with
  | some (.ok b, M') => if flatM M' = true then some (.ok b, M') else none
  | some (.err c, M') => if flatM M' = true then some (.err c, M') else none
  | none => none
theorem zt_tmp {c : Expr} {f : DT} (j : Nat) (h : ZT X W c f) : ZT X W c (dTmp j f) := ⟨fun pins s σ H Q I q => h.run pins s σ H Q I (by
  obtain ⟨bs, M, F, e, ⟨w, os, sl⟩, run⟩ := q
  obtain ⟨F1, os1, sl1, _, hF⟩ := sl.frz j
  have w1 : Wd X.K bs M F1 H := by
    rcases hF with rfl | ⟨p, o, _, fp, nb, hp, rfl, ho⟩
    · exact w
    · exact w.frz fp nb hp ho
  have sF : Same F F1 := by
    rcases hF with rfl | ⟨p, o, _, fp, nb, hp, rfl, _⟩
    · exact Same.refl _
    · exact fun b u q => by rw [upd_ne (ne_of_none q fp)]; exact q
  refine ⟨bs, M, F1, frz j e, ⟨w1, os1, sl1⟩, ?_⟩
  unfold dTmp at run
  match ef : f (frz j e) M, run with
  | some (.ok b, M'), run =>
    intro bs' F' H' t w'
    simp only at run
    by_cases hM' : flatM M' = true
    · rw [if_pos hM'] at run
      obtain ⟨t2, w2⟩ := back_tr w (fun a ps e => sF _ _ e) t w' hM'
      exact run bs' F H' t2 w2
    · rw [if_neg hM'] at run
      exact run.elim
  | some (.err c, M'), run =>
    intro bs' F' H' t w'
    simp only at run
    by_cases hM' : flatM M' = true
    · rw [if_pos hM'] at run
      obtain ⟨t2, w2⟩ := back_tr w (fun a ps e => sF _ _ e) t w' hM'
      exact run bs' F H' t2 w2
    · rw [if_neg hM'] at run
      exact run.elim
  | none, run => exact run.elim)⟩
end
end Z

/-! ZD: sorted(set(list of whole numbers)) -/
namespace Z
open PySem PySem.Spec PyProof.Rows L2
variable [Tbs]
section
variable {P : Program} {w : World} {A : Around} {E : Value → Shared → Prop} {s : Shared}
/-- a new, empty set -/
abbrev set0 (w : World) : Obj := { cls := .type "set", dict := none, data := .set #[] 0 (.fresh 0 0 (!w.params.followText "set-order")) }
theorem int_of {items : Array Value} {ns : List Int} (h : IntsAre items.toList ns) (i : Nat) (v : Value) (hv : items[i]? = some v) : ∃ k t, ns[i]? = some k ∧ v = .int k t := by
  have z := IntsAre.length h
  rw [Array.length_toList] at z
  have hi : i < ns.length := by
    rw [← z]
    exact (Array.getElem?_eq_some_iff.mp hv).1
  obtain ⟨t, e⟩ := PyProof.Rows.IntsAre.int_at h i v (by rw [Array.getElem?_toList]; exact hv)
  refine ⟨ns[i], t, List.getElem?_eq_getElem hi, ?_⟩
  rw [e, List.getD_eq_getElem?_getD, List.getElem?_eq_getElem hi]
  rfl
set_option maxHeartbeats 3200000 in
/-- the new set at S takes a list's numbers -/
theorem init_setL {l S : Addr} {items : Array Value} (ns : List Int) {Q : Value → Shared → Prop} (hh : A.handled = none) (hS : s.heap.get? S = some (set0 w)) (hl : s.heap.IsList l items) (hit : IntsAre items.toList ns) (hb : ns.length + 1 < scanBound) (hlS : l ≠ S)
    (h : ∀ (h' : Heap) (tk c : Nat), SetR w h' S (fun j => decide (j ∈ ns)) c → c ≤ ns.length → (∀ b o, b ≠ S → s.heap.get? b = some o → h'.get? b = some o) → Q .none { s with heap := h', toks := tk }) :
    wpAny (model P w) A.in1 (Builtin.«set.__init__» ⟨[.ref S, .ref l], []⟩) (fun fin s' => ∃ v, fin = .done (.ret v) ∧ Q v s') E s := by
  have hz := IntsAre.length hit
  rw [Array.length_toList] at hz
  obtain ⟨⟨ocls, odict, odata, oslots⟩, hol, hcl, nl, hdl⟩ := id hl
  simp only at hcl hdl
  subst hcl hdl
  have hT : s.TypeIs (.ref S) "set" := ⟨_, hS, rfl⟩
  have hsub := F.called_set.sub
  have n1 := F.sub_list_set
  have n2 := F.sub_list_frozenset
  have n3 : (Value.type "list" == Value.type "dict") = false := by decide
  have hSsz : S < s.heap.objs.size := Heap.lt_size hS
  have hlsz : l < s.heap.objs.size := Heap.lt_size hol
  unfold Builtin.«set.__init__» noKeywords Builtin.Frozenset.updateFrom
  generalize hPI : pyIter = PI
  wp_walk
  subst hPI
  refine wpAny_pyIter_list hl ?_
  refine wpAny_bind (wpAny_runValue ?_)
  have neI : l ≠ s.heap.objs.size := Nat.ne_of_lt hlsz
  have nSf : S ∉ [s.heap.objs.size, l] := fun z => by
    rcases List.mem_cons.mp z with z | z
    · exact Nat.ne_of_lt hSsz z
    · exact hlS (List.mem_singleton.mp z).symm
  refine set_update_ints ((Walks.list (show A.in1.in1.handled = none from hh) _ l neI items).toS) S nSf ns hz hb (int_of hit) (items.size - 0) 0 _ (by omega) (Nat.zero_le _) ⟨⟨_, Heap.get?_push_size _ rfl, rfl, rfl⟩, hl.push _⟩ ⟨0, Nat.le_refl 0, setR_new_at (Heap.get?_push_of_some _ hS)⟩ fun s' c hm hc hR => ?_
  obtain ⟨h', g2, d', tk', os'⟩ := s'
  have eg : g2 = s.gens := hm.gens
  have ed : d' = s.drawn := hm.drawn
  have eo : os' = s.os := hm.os
  subst eg ed eo
  rw [hz] at hc
  refine wpAny_pure (wpAny_pure ⟨_, rfl, h h' tk' c hR hc fun b o hbS e => ?_⟩)
  refine hm.heap b o (fun z => ?_) (Heap.get?_push_of_some _ e)
  rcases List.mem_cons.mp z with z | z
  · exact hbS z
  · exact Nat.ne_of_lt (Heap.lt_size e) (List.mem_singleton.mp z)
set_option maxHeartbeats 3200000 in
/-- set(l) -/
theorem call_setL {l : Addr} {items : Array Value} (ns : List Int) {Q : Value → Shared → Prop} (hh : A.handled = none) (hl : s.heap.IsList l items) (hit : IntsAre items.toList ns) (hb : ns.length + 1 < scanBound)
    (h : ∀ (h' : Heap) (tk c : Nat), SetR w h' s.heap.objs.size (fun j => decide (j ∈ ns)) c → c ≤ ns.length → (∀ b o, s.heap.get? b = some o → h'.get? b = some o) → Q (.ref s.heap.objs.size) { s with heap := h', toks := tk }) :
    wpAny (model P w) A (call (.type "set") [.ref l]) Q E s := by
  obtain ⟨c, tl, hmro⟩ := F.called_set.mro
  have q1 := F.called_set.made
  have q2 := F.called_set.sub
  have q3 := F.called_set.notType
  have q4 := F.called_set.canCreate
  have q5 := F.typeCall_set_1 (.ref l)
  have hlS : l ≠ s.heap.objs.size := by
    obtain ⟨o, ho, _⟩ := id hl
    exact Nat.ne_of_lt (Heap.lt_size ho)
  have hS : (s.heap.push (set0 w)).get? s.heap.objs.size = some (set0 w) := Heap.get?_push_size _ rfl
  refine wpAny_call (codeAny_of_tree ?_)
  show wpAny _ _ (callAny (.type "set") _) _ _ _
  refine wpAny_pure ⟨Code.quiet_builtin _ (by decide +kernel), codeAny_builtin F.entry_type_call ?_⟩
  rw [Around.under_plain (weight_type_call_type "set" [.ref l] []) rfl]
  repeat (any_goals (first | assumption | wp_step))
  refine codeAny_mono (code_set_led1 (.ref l) (E := E) (Q₁ := fun obj s₁ => obj = .ref s.heap.objs.size ∧ s₁ = { s with heap := s.heap.push (set0 w) }) ⟨rfl, rfl⟩) fun r s₁ hr => ?_
  match r, hr with
  | .error e, hr => exact hr
  | .ok (.ret obj), hr =>
    obtain ⟨rfl, rfl⟩ := hr
    have hT : Shared.TypeIs { s with heap := s.heap.push (set0 w) } (.ref s.heap.objs.size) "set" := ⟨_, hS, rfl⟩
    have q6 := F.called_set.init.lookup
    have q7 := F.called_set.init.bind (.ref s.heap.objs.size)
    repeat (any_goals (first | assumption | wp_step))
    refine codeAny_mono (codeAny_call_builtin (R := wants (fun r s₂ => r = .none ∧ ∃ h' tk c, s₂ = { s with heap := h', toks := tk } ∧ SetR w h' s.heap.objs.size (fun j => decide (j ∈ ns)) c ∧ c ≤ ns.length ∧ (∀ b o, s.heap.get? b = some o → h'.get? b = some o)) E) F.called_set.init.plain F.entry_set_init (check_set_init_1 hT ?_)) fun r₂ s₂ hr₂ => ?_
    · refine wpAny_mono (init_setL (A := A.in1) (s := { s with heap := s.heap.push (set0 w) }) (Q := fun r s₂ => r = .none ∧ ∃ h' tk c, s₂ = { s with heap := h', toks := tk } ∧ SetR w h' s.heap.objs.size (fun j => decide (j ∈ ns)) c ∧ c ≤ ns.length ∧ (∀ b o, s.heap.get? b = some o → h'.get? b = some o)) ns hh hS (hl.push _) hit hb hlS
        fun h' tk c R hc hk => ⟨rfl, h', tk, c, rfl, R, hc, fun b o e => hk b o (Nat.ne_of_lt (Heap.lt_size e)) (Heap.get?_push_of_some _ e)⟩) (fun fin s' q => ?_) fun _ _ q => q
      obtain ⟨v, rfl, q⟩ := q
      exact q
    · match r₂, hr₂ with
      | .error e, hr₂ => exact hr₂
      | .ok (.ret r), hr₂ =>
        obtain ⟨rfl, h', tk, c', rfl, R, hc, hk⟩ := hr₂
        repeat (any_goals (first | assumption | wp_step))
        exact h _ _ _ R hc hk
      | .ok .next, hr₂ => exact hr₂.elim
      | .ok .brk, hr₂ => exact hr₂.elim
      | .ok .cont, hr₂ => exact hr₂.elim
  | .ok .next, hr => exact hr.elim
  | .ok .brk, hr => exact hr.elim
  | .ok .cont, hr => exact hr.elim
/-- sorted of a set of any size -/
theorem sorted_setN {a : Addr} {S : Int → Bool} {n : Nat} {Q : Value → Shared → Prop} (R : SetR w s.heap a S n) (hh : A.handled = none) (hn : n ≤ 4096)
    (hQ : ∀ s' p (out : List Value) (c : Nat) (ns : List Int), (∀ b o, s.heap.get? b = some o → s'.heap.get? b = some o) → s'.gens = s.gens → s'.os = s.os → s.heap.objs.size ≤ p →
      s'.heap.get? p = some (seqObj "list" out.toArray c) → IntsAre out ns → ns.Pairwise (· < ·) → (∀ k, k ∈ ns ↔ S k = true) → ns.length = n → Q (.ref p) s') :
    wpAny (model P w) A (call (.builtin "sorted") [.ref a]) Q E s := by
  obtain ⟨o, es, ep, t, ho, hex, hd, g, nd, hm, hb, hf, hn2, hr, hl⟩ := R
  refine Calls.call_function_entry kind_sorted plain_sorted entry_sorted (args_sorted1 _) (?_ : wpAny _ _ (Builtin.«sorted» _) _ _ _)
  unfold Builtin.«sorted»
  refine wpAny_bind (m := checkCount "sorted" 1 1 _) (wpAny_pure (wpAny_bind (collect_set (A := A.in1) hh ⟨o, ho, hex.1, hd⟩ hf hb hr hl fun s1 vs k1 hz g1 o1 pm => ?_)))
  have hvl : vs.length = n := by rw [pm.length_eq, List.length_map, Array.length_toList]; exact hn2
  have hI : IntsAre vs (vs.map Builtin.Re.reRawOf) := ints_of vs fun v hv => by
    obtain ⟨e, he, q⟩ := List.mem_map.mp (pm.mem_iff.mp hv)
    obtain ⟨k, tk, h1, _⟩ := g e he
    exact ⟨k, tk, by rw [← q]; exact h1⟩
  have pk : (vs.map Builtin.Re.reRawOf).Perm (es.toList.map keyOf) := by
    have q := pm.map Builtin.Re.reRawOf
    rw [List.map_map] at q
    exact q
  have hz2 : vs.length ≤ sizeLine := by rw [hvl, sizeLine_eq]; omega
  refine wpAny_bind (wpAny_newList ?_ hz2)
  have hoL : (s1.heap.push (seqObj "list" vs.toArray 0)).get? s1.heap.objs.size = some (seqObj "list" vs.toArray 0) := Heap.get?_push_size _ rfl
  refine wpAny_bind (wpAny_holding (wpAny_call_entry slot_list_sort ⟨_, hoL, rfl⟩ entry_list_sort (SrtO.list_sort_ord SrtO.swo_int hoL hz2 (fun h2 => SrtO.ints_sortable hI h2) fun out a1 a2 => ⟨_, rfl, wpAny_pure ⟨_, rfl, ?_⟩⟩) (args_list_sort _)))
  obtain ⟨p1, p2, p3⟩ := SrtO.ints_out hI a1 a2
  obtain ⟨c, hc⟩ := sortedHeap_at (vs := vs) (out := out.toArray) hoL
  have pn := p2.trans pk
  refine hQ _ s1.heap.objs.size out c _ (fun b u e => ?_) g1 o1 hz hc p1 (lt_of_le_nodup _ p3 (pn.nodup_iff.mpr nd)) (fun k => by rw [pn.mem_iff, ← hm k]) (by rw [pn.length_eq, List.length_map, Array.length_toList]; exact hn2)
  have q := k1 b u e
  have hlt := Heap.lt_size q
  show (sortedHeap (s1.heap.push (seqObj "list" vs.toArray 0)) s1.heap.objs.size vs out.toArray).get? b = some u
  rw [sortedHeap_old (Nat.ne_of_lt hlt) (by rw [size_push']; exact Nat.lt_succ_of_lt hlt)]
  exact Heap.get?_push_of_some _ q
end

/-! ### strictly ascending, each once -/
def insU (x : Int) : List Int → List Int
  | [] => [x]
  | y :: r => if x < y then x :: y :: r else if x = y then y :: r else y :: insU x r
def sortU : List Int → List Int
  | [] => []
  | x :: r => insU x (sortU r)
theorem mem_insU {x z : Int} : ∀ {l : List Int}, z ∈ insU x l ↔ z = x ∨ z ∈ l
  | [] => by simp [insU]
  | y :: r => by
    unfold insU
    split
    · simp
    · split
      · rename_i e
        subst e
        simp
      · rw [List.mem_cons, mem_insU, List.mem_cons]
        constructor
        · rintro (h | h | h)
          · exact .inr (.inl h)
          · exact .inl h
          · exact .inr (.inr h)
        · rintro (h | h | h)
          · exact .inr (.inl h)
          · exact .inl h
          · exact .inr (.inr h)
theorem mem_sortU {z : Int} : ∀ {l : List Int}, z ∈ sortU l ↔ z ∈ l
  | [] => by simp [sortU]
  | x :: r => by
    unfold sortU
    rw [mem_insU, mem_sortU, List.mem_cons]
theorem insU_pw (x : Int) : ∀ {l : List Int}, l.Pairwise (· < ·) → (insU x l).Pairwise (· < ·)
  | [], _ => List.pairwise_singleton _ _
  | y :: r, h => by
    obtain ⟨h1, h2⟩ := List.pairwise_cons.mp h
    unfold insU
    split
    · rename_i q
      refine List.pairwise_cons.mpr ⟨fun z hz => ?_, h⟩
      rcases List.mem_cons.mp hz with e | e
      · omega
      · have := h1 z e
        omega
    · split
      · exact h
      · rename_i q1 q2
        refine List.pairwise_cons.mpr ⟨fun z hz => ?_, insU_pw x h2⟩
        rcases mem_insU.mp hz with e | e
        · omega
        · exact h1 z e
theorem sortU_pw : ∀ l : List Int, (sortU l).Pairwise (· < ·)
  | [] => .nil
  | x :: r => insU_pw x (sortU_pw r)
theorem pwlt_eq : ∀ {l m : List Int}, (∀ k, k ∈ l ↔ k ∈ m) → l.Pairwise (· < ·) → m.Pairwise (· < ·) → l = m
  | [], [], _, _, _ => rfl
  | [], y :: m, h, _, _ => absurd ((h y).mpr List.mem_cons_self) (by simp)
  | x :: l, [], h, _, _ => absurd ((h x).mp List.mem_cons_self) (by simp)
  | x :: l, y :: m, h, h1, h2 => by
    obtain ⟨a1, a2⟩ := List.pairwise_cons.mp h1
    obtain ⟨b1, b2⟩ := List.pairwise_cons.mp h2
    have e : x = y := by
      have q1 := (h x).mp List.mem_cons_self
      have q2 := (h y).mpr List.mem_cons_self
      rcases List.mem_cons.mp q1 with z1 | z1
      · exact z1
      · rcases List.mem_cons.mp q2 with z2 | z2
        · exact z2.symm
        · have := a1 y z2
          have := b1 x z1
          omega
    subst e
    congr 1
    refine pwlt_eq (fun k => ?_) a2 b2
    have q := h k
    rw [List.mem_cons, List.mem_cons] at q
    constructor
    · intro z
      rcases q.mp (.inr z) with e | e
      · have := a1 k z
        omega
      · exact e
    · intro z
      rcases q.mpr (.inr z) with e | e
      · have := b1 k z
        omega
      · exact e

/-! ### the rule -/
section
variable {X : Cx} {K : PySem.W.Frag} {W : Wi}
def rSetL (K : PySem.W.Frag) (w : World) : List V → Hp → VK → Prop := fun vs H Q => ∃ (a : Addr) (ns : List Int), vs = [V.ref a] ∧ SqL K H a (ns.map V.int) ∧ ns.length ≤ 4000 ∧
  ∀ (p : Addr) (c : Nat), H p = none → c ≤ ns.length → Q (.ref p) (upd H p (SetO w p (fun j => decide (j ∈ ns)) c))
theorem cr_setL (hc : X.calm = true) : CallR X (.type "set") (rSetL X.K X.w) := by
  intro pins s σ H vs us Q I r h
  obtain ⟨a, ns, rfl, hs, hn, q⟩ := h
  obtain ⟨its, rv, pl, hz⟩ := I.list hs
  rw [Vals.ref1 r]
  refine call_setL (items := its.toArray) ns (I.ok.hd hc) pl.isList (ints_of_vals rv) (by show ns.length + 1 < 4096; omega) fun h' tk c R hc' hk => ?_
  exact ⟨.ref s.heap.objs.size, _, I.laid (t' := tk) hk (Nat.le_refl _) (setO_new R), rfl, q _ c (I.hok.fresh (Nat.le_refl _)) hc'⟩
def rSortN (w : World) : List V → Hp → VK → Prop := fun vs H Q => ∃ (a : Addr) (S : Int → Bool) (n : Nat), vs = [V.ref a] ∧ H a = some (SetO w a S n) ∧ n ≤ 4096 ∧
  ∀ (ns : List Int) (p : Addr), ns.Pairwise (· < ·) → (∀ k : Int, k ∈ ns ↔ S k = true) → ns.length = n → H p = none → Q (.ref p) (upd H p (.lst (ns.map V.int)))
theorem cr_sortN (hc : X.calm = true) : CallR X (.builtin "sorted") (rSortN X.w) := by
  intro pins s σ H vs us Q I r h
  obtain ⟨a, S, n, rfl, ha, hn, q⟩ := h
  have R := setO_get I ha
  rw [Vals.ref1 r]
  refine sorted_setN R (I.ok.hd hc) hn fun s' p out c ns k g o hp hg hi hs hm hl => ?_
  have hlen : (ns.map V.int).length ≤ sizeLine := by rw [List.length_map, hl, sizeLine_eq]; omega
  have hf : H p = none := I.hok.fresh hp
  have J : Inv X pins σ (upd H p (.lst (ns.map V.int))) { s with heap := s'.heap, gens := s'.gens, drawn := s'.drawn, toks := s'.toks } :=
    I.call (ch := []) (Un.laid k hp hf) (I.hok.laid k hp ⟨hlen, out, c, vals_of_ints hi, hg⟩) (by rw [g]; exact I.bare) (fun _ z => nomatch z)
  have e : s' = { s with heap := s'.heap, gens := s'.gens, drawn := s'.drawn, toks := s'.toks } := by
    cases s'
    cases s
    cases o
    rfl
  rw [e]
  exact ⟨.ref p, _, J, rfl, q ns p hs hm hl hf⟩
def ssetK : D → Mo D
  | .lst xs => match intsOf xs with
    | some ns => if ns.length ≤ 4000 then ret (.lst ((sortU ns).map .int)) else stuck
    | none => stuck
  | _ => stuck
theorem ssetK_lst {xs : List D} : ssetK (.lst xs) = match intsOf xs with
    | some ns => if ns.length ≤ 4000 then ret (.lst ((sortU ns).map .int)) else stuck
    | none => stuck := rfl
theorem ssetK_ints {ns : List Int} (h : ns.length ≤ 4000) : ssetK (.lst (ns.map D.int)) = ret (.lst ((sortU ns).map .int)) := by
  rw [ssetK_lst, intsOf_ints]
  exact if_pos h
def dSortedSet (f : DE) : DE := fun e => bnd (f e) ssetK
theorem ze_sortedset {e : Expr} {f : DE} {p1 p2 q1 q2 : Pos} (hf : ZE X W e f) (hc : X.calm = true) (hg : Gl X "sorted") (hm : X.mg "sorted" = none) (hg2 : Gl X "set") (hm2 : X.mg "set" = none)
    (he : starEach [e] X.env = (false, eval e X.env) :: starEach [] X.env := by rfl) (he2 : starEach [.Call (.Name "set" p2) [e] [] q2] X.env = (false, eval (.Call (.Name "set" p2) [e] [] q2) X.env) :: starEach [] X.env := by rfl) :
    ZE X W (.Call (.Name "sorted" p1) [.Call (.Name "set" p2) [e] [] q2] [] q1) (dSortedSet f) :=
  ⟨fun pins s σ H Q I h => (pe_callB (cr_sortN hc) hg hm (by decide +kernel) (pa_cons (pe_callTy (cr_setL hc) hg2 hm2 (by decide +kernel) (pa_cons hf pa_nil he) (by decide) (by decide) he) pa_nil he2) (by decide) (by decide) he2).run pins s σ H Q I (by
    obtain ⟨bs, M, F, ev, at0, run⟩ := h
    refine ⟨bs, M, F, ev, at0, run.bind.imp fun x bs1 M1 F1 H1 t1 w1 run1 v1 r1 => ?_⟩
    cases x with
    | lst xs =>
      rw [ssetK_lst] at run1
      cases ei : intsOf xs with
      | none =>
        rw [ei] at run1
        exact run1.elim
      | some ns =>
        rw [ei] at run1
        simp only at run1
        by_cases hl : ns.length ≤ 4000
        · rw [if_pos hl] at run1
          cases r1 with
          | @lst a vs _ hp s =>
            rw [intsOf_map ei] at s
            have ev := s.ints
            subst ev
            refine ⟨a, ns, rfl, .inl (.inl (w1.sub _ _ hp)), hl, fun p c hn hcl => ?_⟩
            obtain ⟨w2, t2⟩ := w1.lost (SetO X.w p (fun j => decide (j ∈ ns)) c) hn
            refine ⟨p, fun j => decide (j ∈ ns), c, rfl, upd_same, by omega, fun ms q h1 h2 h3 hq => ?_⟩
            have e : ms = sortU ns := pwlt_eq (fun k => by rw [h2, mem_sortU, decide_eq_true_eq]) h1 (sortU_pw ns)
            subst e
            obtain ⟨w3, t3⟩ := w2.laid (.lst ((sortU ns).map V.int)) hq
            exact run1.ok _ _ _ (t2.trans t3) w3 _ (.lst upd_same (Reps.of_ints (sortU ns)))
        · rw [if_neg hl] at run1
          exact run1.elim
    | _ => exact run1.elim)⟩
end
end Z

/-! ZE: list(range(a, b)), range(a, b) with expressions of its own -/
namespace Z
open PySem PySem.Spec PyProof.Rows L2
variable [Tbs]
def rngK : D → D → Mo D
  | .int i, .int j => if (b62 i && b62 j && decide ((j - i).toNat ≤ 100000)) = true then ret (.lst (rngD i (j - i).toNat)) else stuck
  | _, _ => stuck
theorem rngK_int {i j : Int} : rngK (.int i) (.int j) = if (b62 i && b62 j && decide ((j - i).toNat ≤ 100000)) = true then ret (.lst (rngD i (j - i).toNat)) else stuck := rfl
/-- list(range(a, b)) -/
def dLstR2 (fa fb : DE) : DE := fun e => bnd (fa e) fun x => bnd (fb e) fun y => rngK x y
section
variable {X : Cx} {W : Wi} {a b : Expr} {fa fb : DE} {p p2 pos pos2 : Pos} {K : PySem.W.Frag} {bs : List Addr} {F : Hp}
theorem rgV_ints {i j : Int} : rgV i j = ((List.range (j - i).toNat).map fun k : Nat => i + (k : Int)).map V.int := by
  unfold rgV
  rw [List.map_map]
  rfl
theorem rngD_ints {i : Int} {n : Nat} : rngD i n = ((List.range n).map fun k : Nat => i + (k : Int)).map D.int := by
  unfold rngD
  rw [List.map_map]
  rfl
theorem ze_listrng (hc : X.calm = true) (hg : Gl X "list") (hm : X.mg "list" = none) (hg2 : Gl X "range") (hm2 : X.mg "range" = none) (ha : ZE X W a fa) (hb : ZE X W b fb)
    (na : starEach [a, b] X.env = (false, eval a X.env) :: starEach [b] X.env := by rfl) (nb : starEach [b] X.env = (false, eval b X.env) :: starEach [] X.env := by rfl)
    (ne : starEach [.Call (.Name "range" p2) [a, b] [] pos2] X.env = (false, eval (.Call (.Name "range" p2) [a, b] [] pos2) X.env) :: starEach [] X.env := by rfl)
    (hp : (backTo pos2 (starEach [b] X.env)).any (·.1) = false := by rfl) :
    ZE X W (.Call (.Name "list" p) [.Call (.Name "range" p2) [a, b] [] pos2] [] pos) (dLstR2 fa fb) := ⟨fun pins s σ H Q I h => (pe_listRg hc hg hm (prg_2 hg2 hm2 ha hb na nb hp) ne).run pins s σ H Q I (by
  obtain ⟨bs, M, F, e, at0, run⟩ := h
  refine ⟨bs, M, F, e, at0, run.bind.imp fun x bs1 M1 F1 H1 t1 w1 run1 v1 r1 => ?_⟩
  refine ⟨bs1, M1, F1, e, at0.tr t1 w1, run1.bind.imp fun y bs2 M2 F2 H2 t2 w2 run2 v2 r2 => ?_⟩
  cases x with
  | int i =>
    cases y with
    | int j =>
      cases r1 with
      | int =>
        cases r2 with
        | int =>
          rw [rngK_int] at run2
          by_cases hj : (b62 i && b62 j && decide ((j - i).toNat ≤ 100000)) = true
          · rw [if_pos hj] at run2
            rw [Bool.and_eq_true, Bool.and_eq_true, decide_eq_true_eq] at hj
            obtain ⟨⟨h1, h2⟩, h3⟩ := hj
            refine ⟨i, j, rfl, rfl, ⟨(b62_of h1).1, (b62_of h1).2, (b62_of h2).1, (b62_of h2).2, by omega⟩, fun q hq => ?_⟩
            obtain ⟨w3, t3⟩ := w2.laid (.lst (rgV i j)) hq
            refine run2.ok _ _ _ t3 w3 _ (.lst upd_same ?_)
            rw [rgV_ints, rngD_ints]
            exact Reps.of_ints _
          · rw [if_neg hj] at run2
            exact run2.elim
    | _ => exact run2.elim
  | _ => exact run2.elim)⟩
end
end Z

/-! ZF: dicts with whole numbers for keys -/
namespace Z
open PySem PySem.Spec PyProof.Rows L2
variable [Tbs]
theorem hu1 {k : Nat} {A : Around} (hr : Room k A) : A.units + 1 < cLine := by
  have := hu65 hr
  omega
/-! ### reading -/
def lookD : List Int → List D → Int → Option D
  | k :: ks, d :: ds, j => if k = j then some d else lookD ks ds j
  | _, _, _ => none
section
variable {K : PySem.W.Frag} {bs : List Addr} {F : Hp}
theorem lookD_rep : ∀ {kvs : List (Key × V)} {ks : List Int} {ds : List D} {j : Int} {d : D}, kvs.map (·.1) = ks.map Sum.inl → Reps K bs F (kvs.map (·.2)) ds → lookD ks ds j = some d → ∃ v, valV kvs (Sum.inl j : Key) = some v ∧ Rep K bs F v d
  | [], [], ds, j, d, _, _, h => by cases ds <;> cases h
  | [], k :: ks, ds, j, d, hk, _, _ => by cases hk
  | p :: kvs, [], ds, j, d, hk, _, _ => by cases hk
  | p :: kvs, k :: ks, [], j, d, hk, _, h => by cases h
  | p :: kvs, k :: ks, d0 :: ds, j, d, hk, r, h => by
    rw [List.map_cons, List.map_cons] at hk
    obtain ⟨h1, h2⟩ := List.cons.inj hk
    rw [List.map_cons] at r
    cases r with
    | cons r1 r2 =>
      unfold lookD at h
      by_cases e : k = j
      · rw [if_pos e] at h
        cases h
        exact ⟨p.2, valV_pos (by rw [h1, e]), r1⟩
      · rw [if_neg e] at h
        obtain ⟨v, e1, rv⟩ := lookD_rep h2 r2 h
        refine ⟨v, ?_, rv⟩
        rw [valV_neg (fun z => e ?_)]
        · exact e1
        · rw [h1] at z
          exact Sum.inl.inj z
theorem valV_no : ∀ {kvs : List (Key × V)} {ks : List Int} {j : Int}, kvs.map (·.1) = ks.map Sum.inl → j ∉ ks → valV kvs (Sum.inl j : Key) = none
  | [], _, _, _, _ => rfl
  | p :: kvs, [], j, hk, _ => by cases hk
  | p :: kvs, k :: ks, j, hk, h => by
    rw [List.map_cons, List.map_cons] at hk
    obtain ⟨h1, h2⟩ := List.cons.inj hk
    rw [valV_neg (fun z => h ?_)]
    · exact valV_no h2 fun z => h (List.mem_cons_of_mem _ z)
    · rw [h1] at z
      rw [Sum.inl.inj z]
      exact List.mem_cons_self
end
def dgetK : D → D → Mo D
  | .dct ks ds, .int j => lft (lookD ks ds j)
  | _, _ => stuck
theorem dgetK_int {ks : List Int} {ds : List D} {j : Int} : dgetK (.dct ks ds) (.int j) = lft (lookD ks ds j) := rfl
def dDget (fd fi : DE) : DE := fun e => bnd (fd e) fun x => bnd (fi e) fun y => dgetK x y
section
variable {X : Cx} {W : Wi} {o i : Expr} {fd fi : DE} {pos : Pos}
theorem ze_dget (hu : X.A.units + 1 < cLine) (ho : ZE X W o fd) (hi : ZE X W i fi) (hs : NoSl i := by exact fun _ _ => rfl) : ZE X W (.Subscript o i pos) (dDget fd fi) := ⟨fun pins s σ H Q I h => (pe_dget hu ho hi hs).run pins s σ H Q I (by
  obtain ⟨bs, M, F, e, at0, run⟩ := h
  refine ⟨bs, M, F, e, at0, run.bind.imp fun x bs1 M1 F1 H1 t1 w1 run1 v1 r1 => ?_⟩
  refine ⟨bs1, M1, F1, e, at0.tr t1 w1, run1.bind.imp fun y bs2 M2 F2 H2 t2 w2 run2 v2 r2 => ?_⟩
  cases x with
  | dct ks ds =>
    cases y with
    | int j =>
      rw [dgetK_int] at run2
      obtain ⟨z, ez, k⟩ := run2.of_lft
      have r := r1.tr t2
      cases r2 with
      | int =>
        cases r with
        | @dct a kvs _ _ hp hk rr =>
          obtain ⟨v, e1, rv⟩ := lookD_rep hk rr ez
          exact ⟨a, v, rfl, by rw [← e1]; exact DGet.k (k := (Sum.inl j : Key)) (w2.sub _ _ hp), k _ _ _ (Tr.refl _ _ _) w2 _ rv⟩
    | _ => exact run2.elim
  | _ => exact run2.elim)⟩
end
/-! ### a dict of one's own -/
def dSetOwnD (i : Nat) : DS := fun e => if i < e.length then ret (.nx (e.set i (.ownD [] []))) else stuck
section
variable {X : Cx} {W : Wi} {pos : Pos}
theorem zs_setOwnD {i : Nat} {x : Str} {pos' p2 : Pos} (hN : X.N.Nodup) (hi : X.N[i]? = some x) (hx : Loc X.env.scope x) (hs : swapsWith (.Dict [] [] p2) (some (.Name x pos')) pos.line X.env = pure false := by rfl) (hf : X.fn x = true ∨ X.env.scope.names.lookup x = some .local := by first | exact .inl rfl | exact .inr rfl | assumption) :
    ZS X W (.Assign [.Name x pos'] (.Dict [] [] p2) pos) (dSetOwnD i) := ⟨fun pins s σ H Dn I h => (ps_set hN hi hx pe_dnewK hs hf).run pins s σ H Dn I (by
  obtain ⟨bs0, F0, H0, bs, M, F, e, a, run⟩ := h
  unfold dSetOwnD at run
  by_cases hl : i < e.length
  · rw [if_pos hl] at run
    exact fun p hp => run _ _ _ _ (a.newownD hl hp)
  · rw [if_neg hl] at run
    exact run.elim)⟩
end
def putKD (i : Nat) (e : Ev) (ks : List Int) (ds : List D) (d : D) : D → Mo Oc
  | .int j => if ks.length < 1000 ∧ j ∉ ks then ret (.nx (e.set i (.ownD (ks ++ [j]) (ds ++ [d])))) else stuck
  | _ => stuck
theorem putKD_int {i : Nat} {e : Ev} {ks : List Int} {ds : List D} {d : D} {j : Int} : putKD i e ks ds d (.int j) = if ks.length < 1000 ∧ j ∉ ks then ret (.nx (e.set i (.ownD (ks ++ [j]) (ds ++ [d])))) else stuck := rfl
def dputS (i : Nat) (fk fv : DE) (e : Ev) : Option Sl → Mo Oc
  | some (.ownD ks ds) => bnd (fv e) fun d => bnd (fk e) fun k => putKD i e ks ds d k
  | _ => stuck
def dDput (i : Nat) (fk fv : DE) : DS := fun e => dputS i fk fv e e[i]?
section
variable {K : PySem.W.Frag} {W : Wi} {bs0 bs : List Addr} {M : MS} {F0 H0 F H : Hp} {σ : L2.St} {e : Ev}
theorem Slots.putD {a : Addr} {kvs' : List (Key × V)} {ks' : List Int} {ds' : List Z.D} (o : HO) (ho' : o = .dK kvs') (hk' : kvs'.map (·.1) = ks'.map Sum.inl) (rr : Reps K bs F (kvs'.map (·.2)) ds') : ∀ {σ : L2.St} {e : Ev} {os : List Addr} (i : Nat), Slots K bs F H σ e os → σ[i]? = some (some (.ref a)) → (∃ ks ds, e[i]? = some (.ownD ks ds)) → Slots K bs F (upd H a o) σ (e.set i (.ownD ks' ds')) os := by
  subst ho'
  intro σ e os i s h1 h2
  have keep : ∀ {σ : L2.St} {e : Ev} {os : List Addr}, a ∉ os → Slots K bs F H σ e os → Slots K bs F (upd H a (.dK kvs')) σ e os := by
    intro σ e os ha s
    induction s with
    | nil => exact .nil
    | no t ih => exact .no (ih ha)
    | v r t ih => exact .v r (ih ha)
    | own h hf hb ho r t ih => exact .own (by rw [upd_ne (fun z => ha (by rw [z]; exact List.mem_cons_self))]; exact h) hf hb ho r (ih fun z => ha (List.mem_cons_of_mem _ z))
    | ownD h hf hb ho hk r t ih => exact .ownD (by rw [upd_ne (fun z => ha (by rw [z]; exact List.mem_cons_self))]; exact h) hf hb ho hk r (ih fun z => ha (List.mem_cons_of_mem _ z))
  induction s generalizing i with
  | nil => simp at h1
  | no t ih =>
    cases i with
    | zero =>
      obtain ⟨ks, ds, h2⟩ := h2
      simp at h2
    | succ i => exact .no (ih i (by simpa using h1) (by simpa using h2))
  | v r t ih =>
    cases i with
    | zero =>
      obtain ⟨ks, ds, h2⟩ := h2
      simp at h2
    | succ i => exact .v r (ih i (by simpa using h1) (by simpa using h2))
  | @own b vs ds σ e os h hf hb ho r t ih =>
    cases i with
    | zero =>
      obtain ⟨ks, ds, h2⟩ := h2
      simp at h2
    | succ i =>
      have t' := ih i (by simpa using h1) (by simpa using h2)
      have ma : a ∈ os := by
        obtain ⟨ks', ds', h2⟩ := h2
        obtain ⟨a', vs', q1, _, _, _, q5, _⟩ := t.getOwnD (i := i) (by simpa using h2)
        have h1' : σ[i]? = some (some (V.ref a)) := by simpa using h1
        rw [h1'] at q1
        cases q1
        exact q5
      exact .own (by rw [upd_ne (fun z => ho (by rw [z]; exact ma))]; exact h) hf hb ho r t'
  | @ownD b kvs ks ds σ e os h hf hb ho hk r t ih =>
    cases i with
    | zero =>
      simp at h1
      subst h1
      exact .ownD upd_same hf hb ho hk' rr (keep ho t)
    | succ i =>
      have t' := ih i (by simpa using h1) (by simpa using h2)
      have ma : a ∈ os := by
        obtain ⟨ks', ds', h2⟩ := h2
        obtain ⟨a', vs', q1, _, _, _, q5, _⟩ := t.getOwnD (i := i) (by simpa using h2)
        have h1' : σ[i]? = some (some (V.ref a)) := by simpa using h1
        rw [h1'] at q1
        cases q1
        exact q5
      exact .ownD (by rw [upd_ne (fun z => ho (by rw [z]; exact ma))]; exact h) hf hb ho hk r t'
theorem AtS.putD {i : Nat} {a : Addr} {kvs' : List (Key × V)} {ks ks' : List Int} {ds ds' : List Z.D} (at0 : AtS K bs0 F0 H0 bs M F H σ e) (h1 : σ[i]? = some (some (.ref a))) (h2 : e[i]? = some (.ownD ks ds)) (hk' : kvs'.map (·.1) = ks'.map Sum.inl) (rr : Reps K bs F (kvs'.map (·.2)) ds') : AtS K bs0 F0 H0 bs M F (upd H a (.dK kvs')) σ (e.set i (.ownD ks' ds')) := by
  obtain ⟨t, w, os, s, n⟩ := at0
  obtain ⟨a', vs', q1, q2, q3, q4, q5, _⟩ := s.getOwnD h2
  rw [h1] at q1
  cases q1
  obtain ⟨t', w'⟩ := wr_ok (o := .dK kvs') (vs := []) (n a q5) t w q3 q4 (.inr ⟨_, q2⟩)
  exact ⟨t', w', os, s.putD _ rfl hk' rr i h1 ⟨ks, ds, h2⟩, n⟩
end
section
variable {X : Cx} {W : Wi} {k ex : Expr} {fk fe : DE} {pos pos' p : Pos} {x : Str}
theorem zs_dput {i : Nat} (hu : X.A.units + 1 < cLine) (hx : PE X (.Name x p) (tVar i)) (hk : ZE X W k fk) (he : ZE X W ex fe) (hs : swapsWith ex (some (.Subscript (.Name x p) k pos')) pos.line X.env = pure false := by rfl) :
    ZS X W (.Assign [.Subscript (.Name x p) k pos'] ex pos) (dDput i fk fe) := ⟨fun pins s σ H Dn I h => (ps_dput hu hx hk he hs).run pins s σ H Dn I (by
  obtain ⟨bs0, F0, H0, bs, M, F, e, a, run⟩ := h
  unfold dDput at run
  cases e1 : e[i]? with
  | none =>
    rw [e1] at run
    exact run.elim
  | some sl0 =>
    rw [e1] at run
    cases sl0 with
    | ownD ks ds =>
      obtain ⟨_, _, os, sl, _⟩ := id a
      obtain ⟨q, kvs, q1, q2, q3, q4, q5, q6, q7⟩ := sl.getOwnD e1
      refine ⟨bs, M, F, e, a.at, (run.bind a).imp fun d bs1 M1 F1 H1 t1 w1 q v r => ?_⟩
      obtain ⟨a1, run1⟩ := q
      refine ⟨.ref _, q1, bs1, M1, F1, e, a1.at, (run1.bind a1).imp fun y bs2 M2 F2 H2 t2 w2 q v2 r2 => ?_⟩
      obtain ⟨a2, run2⟩ := q
      cases y with
      | int j =>
        rw [putKD_int] at run2
        by_cases hl : ks.length < 1000 ∧ j ∉ ks
        · rw [if_pos hl] at run2
          cases r2 with
          | int =>
            have t12 := t1.trans t2
            have k2 := t12.keep _ _ q2 q4
            have no := valV_no q6 hl.2
            have len : kvs.length = ks.length := by
              have := congrArg List.length q6
              rw [List.length_map, List.length_map] at this
              exact this
            refine ⟨_, _, rfl, DPut.k (k := (Sum.inl j : Key)) k2 (by rw [len, sizeLine_eq]; omega), ?_⟩
            rw [putK_new v no]
            refine run2 _ _ _ _ (a2.putD q1 e1 ?_ ?_)
            · rw [List.map_append, q6, List.map_append]
              rfl
            · rw [List.map_append]
              exact (q7.tr t12).append (.cons (r.tr t2) .nil)
        · rw [if_neg hl] at run2
          exact run2.elim
      | _ => exact run2.elim
    | _ => exact run.elim)⟩
end
/-! ### dict comprehensions -/
def dDcLoop (t : Tg) (fk fv : DE) (e0 : Ev) : List D → List Int → List D → Mo D
  | [], ks, ds => ret (.dct ks ds)
  | x :: xs, ks, ds => bnd (lft (asg t x e0)) fun e1 => bnd (noErr (fk e1)) fun k => bnd (noErr (fv e1)) fun v => match k with
    | .int j => if ks.length < 1000 ∧ j ∉ ks then dDcLoop t fk fv e0 xs (ks ++ [j]) (ds ++ [v]) else stuck
    | _ => stuck
def dDc (fi : DA) (t : Tg) (fk fv : DE) (vs : List Nat) : DE := fun e => bnd (fi e) fun items => dDcLoop t fk fv (wipeE e vs) items [] []
section
variable {X : Cx} {W : Wi} {K : PySem.W.Frag}
theorem freeze_okD {bs1 bs : List Addr} {M : MS} {F1 H1 F H : Hp} {D : Addr} {kvs : List (Key × V)} {ks : List Int} {acc : List Z.D} (hD : H1 D = none) (t : Tr bs1 F1 H1 bs F H) (w : Wd K bs M F H) (hd : H D = some (.dK kvs)) (fd : F D = none) (nb : D ∉ bs) (hk : kvs.map (·.1) = ks.map Sum.inl) (rp : Reps K bs F (kvs.map (·.2)) acc) :
    Tr bs1 F1 H1 bs (upd F D (.dK kvs)) H ∧ Wd K bs M (upd F D (.dK kvs)) H ∧ Rep K bs (upd F D (.dK kvs)) (.ref D) (.dct ks acc) := by
  have sF : Same F (upd F D (.dK kvs)) := fun b u e => by rw [upd_ne (ne_of_none e fd)]; exact e
  refine ⟨⟨t.pre, t.fm.trans sF, fun a o h => ?_, t.keep0, t.dom⟩, ⟨fun b u e => ?_, w.nd, w.len, fun i b ds e1 e2 => ?_, w.tab, tabF_upd w.tabF w.tab fun _ e => by rw [hd] at e; cases e⟩, .dct upd_same hk ?_⟩
  · by_cases z : a = D
    · exact .inr (by rw [z]; exact hD)
    · rw [upd_ne z] at h
      exact t.new a o h
  · by_cases z : b = D
    · subst z
      rw [upd_same] at e
      rw [hd]
      exact e
    · rw [upd_ne z] at e
      exact w.sub b u e
  · obtain ⟨n1, us, e3, r⟩ := w.objs i b ds e1 e2
    have z : b ≠ D := fun z => nb (by rw [← z]; exact List.mem_of_getElem? e1)
    refine ⟨by rw [upd_ne z]; exact n1, us, e3, ?_⟩
    have := r.mono (more := []) sF
    rwa [List.append_nil] at this
  · have := rp.mono (more := []) sF
    rwa [List.append_nil] at this
def DcI (K : PySem.W.Frag) (W : Wi) (bs1 : List Addr) (F1 H1 : Hp) (σ : L2.St) (D : Addr) (r : List Int → List Z.D → Mo Z.D) (Q : VK) (H : Hp) : Prop :=
  ∃ bs M F kvs ks acc, Tr bs1 F1 H1 bs F H ∧ Wd K bs M F H ∧ H D = some (.dK kvs) ∧ F D = none ∧ D ∉ bs ∧ kvs.map (·.1) = ks.map Sum.inl ∧ Reps K bs F (kvs.map (·.2)) acc ∧ Run K W bs1 F1 H1 σ (r ks acc M) (qE K Q)
theorem dc_lift {wi : DA} {t : Tg} {fk fe : DE} {vs : List Nat} {σ : L2.St} {H : Hp} {Q : VK} (hw : t.within vs) (h : liftE K W (dDc wi t fk fe vs) σ H Q) : tDc (liftI K W wi) (gOf K t) (liftT K W0 dYes) (liftE K W0 fk) (liftE K W0 fe) vs σ H Q := by
  obtain ⟨bs, M, F, e, at0, run⟩ := h
  refine ⟨bs, M, F, e, at0, run.bind.imp fun items bs1 M1 F1 H1 t1 w1 run1 J it D hD => ?_⟩
  have at1 := at0.tr t1 w1
  obtain ⟨w1', os1, sl1⟩ := at1
  obtain ⟨os0, sl0, _⟩ := sl1.wipe vs
  refine ⟨fun i m H => m = items.length - i ∧ i ≤ items.length ∧ DcI K W bs1 F1 H1 σ D (dDcLoop t fk fe (wipeE e vs) (items.drop i)) Q H, ⟨_, rfl, Nat.zero_le _, ?_⟩, ?_⟩
  · obtain ⟨w2, t2⟩ := w1.lost (.dK []) hD
    exact ⟨bs1, M1, F1, [], [], [], t2, w2, upd_same, w1.fnone hD, w1.notin hD, rfl, .nil, run1⟩
  · rintro i m H2 ⟨rfl, hi2, bs2, M2, F2, kvs, ks, acc, t2, w2, hd, fd, nb, hk, rp, r2⟩
    obtain ⟨more, eb, _⟩ := t2.pre
    by_cases hlt : i < items.length
    · have ed : items.drop i = items[i] :: items.drop (i + 1) := List.drop_eq_getElem_cons hlt
      rw [ed] at r2
      refine .inr ⟨it.go F2 H2 t2.fm w2.sub i hlt, DcI K W bs1 F1 H1 σ D (dDcLoop t fk fe (wipeE e vs) (items.drop (i + 1))) Q, fun H' n => ⟨_, by omega, rfl, hlt, n⟩, fun x H3 y => ?_⟩
      obtain ⟨F3, t3, w3, r3⟩ := it.yld more F2 H2 M2 t2.fm (eb ▸ w2) i x H3 items[i] (List.getElem?_eq_getElem hlt) y
      rw [← eb] at t3 w3 r3
      have t03 := t2.trans t3
      have s3 := sl0.tr t03
      unfold dDcLoop at r2
      cases e1 : asg t items[i] (wipeE e vs) with
      | none =>
        rw [e1] at r2
        exact r2.elim
      | some e4 =>
        rw [e1] at r2
        have as3 : AtS K bs2 F3 (fun _ => none) bs2 M2 F3 H3 (L2.wipe σ vs) (wipeE e vs) := ⟨⟨⟨[], by simp, by simp⟩, Same.refl _, fun _ _ h => .inl h, fun _ _ h _ _ => (by cases h), fun _ h => absurd rfl h⟩, w3, _, s3, fun _ _ => rfl⟩
        refine asg_step as3 r3 e1 fun σ4 a4 hw4 => ⟨by rw [hw4 vs hw]; exact wipe_wipe σ vs, ?_⟩
        refine ⟨bs2, M2, F3, e4, a4.at, fun bs6 F6 H6 t6 w6 => ?_⟩
        have t06 := t03.trans t6
        have hd6 := t6.keep _ _ (t3.keep _ _ hd nb) nb
        have fd6 := t6.free (t3.keep _ _ hd nb) (t3.free hd fd)
        have nb6 := t6.notin (t3.keep _ _ hd nb) nb
        simp only [qT, if_true]
        have r7 : Run K W bs1 F1 H1 σ (bnd (noErr (fk e4)) (fun k => bnd (noErr (fe e4)) fun v => match k with
          | .int j => if ks.length < 1000 ∧ j ∉ ks then dDcLoop t fk fe (wipeE e vs) (items.drop (i + 1)) (ks ++ [j]) (acc ++ [v]) else stuck
          | _ => stuck) M2) (qE K Q) := r2
        have r7 := r7.bindB t06
        refine ⟨bs6, M2, F6, e4, a4.at.tr t6 w6, r7.noErr.imp fun y bs8 M8 F8 H8 t8 w8 r8 v8 rv8 => ?_⟩
        have t08 := t06.trans t8
        have hd8 := t8.keep _ _ hd6 nb6
        have fd8 := t8.free hd6 fd6
        have nb8 := t8.notin hd6 nb6
        have r9 := r8.bindB t08
        refine ⟨bs8, M8, F8, e4, (a4.at.tr t6 w6).tr t8 w8, r9.noErr.imp fun z bs10 M10 F10 H10 t10 w10 r10 v10 rv10 => ?_⟩
        have t010 := t08.trans t10
        have hd10 := t10.keep _ _ hd8 nb8
        have fd10 := t10.free hd8 fd8
        have nb10 := t10.notin hd8 nb8
        cases y with
        | int j =>
          simp only at r10
          by_cases hl : ks.length < 1000 ∧ j ∉ ks
          · rw [if_pos hl] at r10
            cases rv8 with
            | int =>
              have no := valV_no hk hl.2
              have len : kvs.length = ks.length := by
                have := congrArg List.length hk
                rw [List.length_map, List.length_map] at this
                exact this
              refine ⟨kvs, (Sum.inl j : Key), rfl, hd10, by rw [len, sizeLine_eq]; omega, ?_⟩
              rw [putK_new v10 no]
              obtain ⟨t9, w9⟩ := wr_ok (o := .dK (kvs ++ [((Sum.inl j : Key), v10)])) (vs := []) hD t010 w10 fd10 nb10 (.inr ⟨_, hd10⟩)
              refine ⟨bs10, M10, F10, _, ks ++ [j], acc ++ [z], t9, w9, upd_same, fd10, nb10, ?_, ?_, r10⟩
              · rw [List.map_append, hk, List.map_append]
                rfl
              · rw [List.map_append]
                exact ((((rp.tr t3).tr t6).tr t8).tr t10).append (.cons rv10 .nil)
          · rw [if_neg hl] at r10
            exact r10.elim
        | _ => exact r10.elim
    · have e0 : i = items.length := by omega
      refine .inl ⟨by rw [e0]; exact it.stop F2 H2 t2.fm w2.sub, ?_⟩
      rw [e0, List.drop_length] at r2
      obtain ⟨t9, w9, rr⟩ := freeze_okD hD t2 w2 hd fd nb hk rp
      exact r2 _ _ _ t9 w9 _ rr
theorem ze_dc {kx vx tg iter : Expr} {scope : Scope} {own : List (Str × Nat)} {pos : Pos} {fi : DA} {t : Tg} {fk fe : DE} (hw : t.within (own.map (·.2))) (hc : X.calm = true) (hN : X.N.Nodup) (hi : ZI X W tg iter fi) (ok : BlkOk X.N X.env.scope scope own)
    (hg : ∀ (s : Shared) (H : Hp) (C : Addr) (cl : List (Str × Addr)) (fp : List Addr), ZG (X.blk s H scope (compEnvC scope cl C X.env) fp) tg t)
    (hk : ∀ (s : Shared) (H : Hp) (C : Addr) (cl : List (Str × Addr)) (fp : List Addr), ZE (X.blk s H scope (compEnvC scope cl C X.env) fp) W0 kx fk)
    (he : ∀ (s : Shared) (H : Hp) (C : Addr) (cl : List (Str × Addr)) (fp : List Addr), ZE (X.blk s H scope (compEnvC scope cl C X.env) fp) W0 vx fe) (hs : ∀ x, foldedSetIterable iter X.env x = pure x := by intro _; rfl) :
    ZE X W (.DictComp kx vx [⟨tg, iter, [], 0⟩] scope pos) (dDc fi t fk fe (own.map (·.2))) :=
  ⟨fun pins s σ H Q I h => (pe_dc hc hN hi ok hg (fun _ _ _ _ _ => zts_nil) hk he hs).run pins s σ H Q I (dc_lift hw h)⟩
end
end Z

/-! ZG: t[::-1] of a tuple -/
namespace Z
open PySem PySem.Spec PyProof.Rows L2 HT
variable [Tbs]
section
variable {prog : Program} {w : World} {A : Around} {E : Value → Shared → Prop} {s : Shared}
theorem adjust_rev (n : Nat) : Builtin.Slice.sliceAdjust none none (-1) (n : Int) = ((n : Int) - 1, -1) := by
  unfold Builtin.Slice.sliceAdjust
  simp
theorem places_rev (n : Nat) : Builtin.Slice.slicePlaces ((n : Int) - 1) (-1) (-1) = n := by
  unfold Builtin.Slice.slicePlaces
  have h1 : ¬ ((-1 : Int) > 0) := by omega
  simp only [h1, if_false]
  have h2 : (-(-1) : Int) = 1 := rfl
  rw [h2, Int.ediv_one]
  split <;> omega
theorem sliceApplied_rev {sl : Addr} {vl vu vs : Value} {n : Nat} {Q : Int × Int × Nat → Shared → Prop} (hs : s.heap.IsSliceOf sl vl vu vs) (pl : IsPart vl none) (pu : IsPart vu none) (ps : IsPart vs (some (-1)))
    (h : Q ((n : Int) - 1, -1, n) s) : wpAny (model prog w) A (Builtin.Slice.sliceApplied (.ref sl) (pure (n : Int))) Q E s := by
  obtain ⟨os, hos, hcs, hds⟩ := id hs
  unfold Builtin.Slice.sliceApplied Builtin.Slice.sliceFields
  refine wpAny_bind (wpAny_bind (wpAny_field hos hds (x := vl) rfl (wpAny_bind (wpAny_field hos hds (x := vu) rfl (wpAny_bind (wpAny_field hos hds (x := vs) rfl (wpAny_pure ?_)))))))
  refine wpAny_bind (slicePart_ ps ?_)
  show wpAny _ _ (if ((-1 : Int) == 0) = true then _ else _) _ _ s
  rw [if_neg (by decide)]
  refine wpAny_bind (slicePart_ pl (wpAny_bind (slicePart_ pu (wpAny_bind (wpAny_pure ?_)))))
  show wpAny _ _ (match Builtin.Slice.sliceAdjust none none (-1) (n : Int) with | (lo, hi) => pure (lo, (-1 : Int), Builtin.Slice.slicePlaces lo hi (-1))) _ _ s
  rw [adjust_rev n]
  show wpAny _ _ (pure ((n : Int) - 1, (-1 : Int), Builtin.Slice.slicePlaces ((n : Int) - 1) (-1) (-1))) _ _ s
  rw [places_rev]
  exact wpAny_pure h
theorem range_back (n : Nat) : (List.range n).map (fun k => n - 1 - k) = (List.range n).reverse := by
  apply List.ext_getElem
  · simp
  · intro i h1 h2
    simp
theorem pick_rev (xs : Array Value) : ((List.range xs.size).filterMap fun (k : Nat) => xs[((xs.size : Int) - 1 + (k : Int) * (-1)).toNat]?).toArray = xs.toList.reverse.toArray := by
  have e : ((List.range xs.size).filterMap fun (k : Nat) => xs[((xs.size : Int) - 1 + (k : Int) * (-1)).toNat]?) = ((List.range xs.size).map fun k => xs.size - 1 - k).filterMap (xs[·]?) := by
    rw [List.filterMap_map]
    congr 1
    funext k
    have : ((xs.size : Int) - 1 + (k : Int) * (-1)).toNat = xs.size - 1 - k := by omega
    rw [this]
    rfl
  rw [e, range_back, List.filterMap_reverse, PySem.W.krv_all]
theorem getItem_tuple_rev {t sl : Addr} {items : Array Value} {vl vu vs : Value} {Q : Value → Shared → Prop} (ht : IsTup s.heap t items) (hs : s.heap.IsSliceOf sl vl vu vs) (pl : IsPart vl none) (pu : IsPart vu none) (ps : IsPart vs (some (-1)))
    (h : Q (.ref s.heap.objs.size) { s with heap := s.heap.push { cls := .type "tuple", data := .seq items.toList.reverse.toArray } })
    (hsz : items.size ≤ sizeLine) : wpAny (model prog w) A (getItem (.ref t) (.ref sl)) Q E s := by
  have htake : sizeOk (.seq items.toList.reverse.toArray) := by
    show items.toList.reverse.toArray.size ≤ sizeLine
    rw [List.size_toArray, List.length_reverse, Array.length_toList]
    exact hsz
  obtain ⟨os, hos, hcs, hds⟩ := id hs
  have hTs : s.TypeIs (.ref sl) "slice" := ⟨os, hos, hcs⟩
  unfold getItem
  try with_reducible refine wpAny_holding ?_
  first | refine wpAny_bind (wpAny_pure ?_) | skip
  refine wpAny_bind (wpAny_sequenceKey ht.typeIs (by decide) ?_)
  refine wpAny_bind (wpAny_callSpecial?_slot (name := Str.ofString "__getitem__") ht.typeIs PyProof.Rows.slot_tuple_getitem
    (wpAny_call_entry PyProof.Rows.slot_tuple_getitem ht.typeIs entry_tuple_getitem ?_ (args_tuple_getitem _ _)))
  show wpAny _ _ (Builtin.Tuple.tupleItemsOf (.ref t) >>= _) _ _ s
  refine wpAny_bind (tupleItemsOf_ ht ?_)
  refine wpAny_bind (wpAny_typeOf hTs ?_)
  rw [if_pos (by decide)]
  refine wpAny_bind (sliceApplied_rev hs pl pu ps ?_)
  have hno : ¬ (((items.size : Int) - 1 == 0 && (-1 : Int) == 1 && items.size == items.size) = true) := by
    intro q
    rw [Bool.and_eq_true, Bool.and_eq_true] at q
    have q1 : (-1 : Int) = 1 := eq_of_beq q.1.2
    omega
  show wpAny _ _ (if ((items.size : Int) - 1 == 0 && (-1 : Int) == 1 && items.size == items.size) = true then _ else _) _ _ s
  rw [if_neg hno, pick_rev]
  first
    | exact wpAny_bind (m := Builtin.Tuple.tupleExact _) (wpAny_newObj_type (wpAny_pure ⟨_, rfl, wpAny_pure h⟩) htake)
    | exact wpAny_bind (m := Builtin.Tuple.tupleExact _) (wpAny_newObj_type (wpAny_bind (wpAny_pure (wpAny_pure ⟨_, rfl, wpAny_pure h⟩))) htake)
    | exact wpAny_bind (wpAny_bind (m := Builtin.Tuple.tupleExact _) (wpAny_newObj_type (wpAny_pure (wpAny_pure ⟨_, rfl, wpAny_pure h⟩)) htake))
    | exact wpAny_bind (wpAny_bind (m := Builtin.Tuple.tupleExact _) (wpAny_newObj_type (wpAny_pure ⟨_, rfl, wpAny_pure h⟩) htake))
end
section
variable {X : Cx} {W : Wi} {e : Expr} {f : DE}
def tRevT (K : PySem.W.Frag) (te : TE) : TE := fun σ H Q => te σ H fun x H1 => ∃ a xs, x = .ref a ∧ SqT K H1 a xs ∧ ∀ p, H1 p = none → Q (.ref p) (upd H1 p (.tup xs.reverse))
theorem pe_revT {te : TE} {k : Nat} {p1 p2 p3 pos : Pos} (he : PE X e te) : PE X (.Subscript e (.Slice none none (some (.UnaryOp .USub (.Constant (.int 1) k p1) p2)) p3) pos) (tRevT X.K te) := by
  refine ⟨fun pins s σ H Q I h => ?_⟩
  refine Subscript_ (thn (he.run pins s σ H _ I h) fun v s1 ⟨x, H1, I1, r1, q1⟩ => ?_)
  obtain ⟨a, xs, ex, hx, q⟩ := q1
  subst ex
  cases r1
  have hst : PO X (some (.UnaryOp .USub (.Constant (.int 1) k p1) p2)) (tPart (tUn (rU fun i => .int (-i)) (tC (.int 1)))) := po_some (pe_un un_neg pe_int)
  refine wpAny_Slice (thn (po_none.run pins s1 σ H1 (fun o H2 => o = none ∧ H2 = H1) I1 ⟨rfl, rfl⟩) fun vl s2 ⟨l, H2, I2, pl, el, e2⟩ => ?_)
  subst el e2
  refine thn (po_none.run pins s2 σ H2 (fun o H3 => o = none ∧ H3 = H2) I2 ⟨rfl, rfl⟩) fun vu s3 ⟨u, H3, I3, pu, eu, e3⟩ => ?_
  subst eu e3
  refine thn (hst.run pins s3 σ H3 (fun o H4 => o = some (-1) ∧ H4 = H3) I3 ⟨1, rfl, -1, rfl, rfl, rfl⟩) fun vs s4 ⟨o, H4, I4, ps, eo, e4⟩ => ?_
  subst eo e4
  have I5 : Inv X pins σ H4 { s4 with heap := s4.heap.push { cls := .type "slice", data := .fields #[vl, vu, vs] } } := I4.kept (t' := s4.toks) fun b ob q => Heap.get?_push_of_some _ q
  obtain ⟨its, r, ht, hz⟩ := I5.tuple hx
  have hlen := r.length
  show wpAny (model X.prog X.w) X.A (subscriptTail e (.Slice none none (some (.UnaryOp .USub (.Constant (.int 1) k p1) p2)) p3) (.ref a) (.ref s4.heap.objs.size)) (EP X pins σ Q) X.xe { s4 with heap := s4.heap.push { cls := .type "slice", data := .fields #[vl, vu, vs] } }
  refine tail_any (ops := [.ref a, .ref s4.heap.objs.size]) ht.typeIs PyProof.Rows.slot_tuple_getitem.lookup ?_ (by with_unfolding_all rfl)
  refine getItem_tuple_rev ht (Heap.IsSliceOf.new _ vl vu vs) pl pu ps ?_ (by rw [List.size_toArray]; omega)
  refine ⟨.ref _, _, I5.laid (t' := s4.toks) (o := .tup xs.reverse) (fun b ob q => Heap.get?_push_of_some _ q) (Nat.le_refl _) (show ObjOk X.prog X.w _ _ _ (.tup xs.reverse) from ⟨by rw [List.length_reverse]; exact hz, its.reverse, r.reverse, ?_⟩), rfl, q _ (I5.hok.fresh (Nat.le_refl _))⟩
  exact IsTup.new _ _
def dRevT (f : DE) : DE := fun e => bnd (f e) fun x => match x with
  | .tup xs => ret (.tup xs.reverse)
  | _ => stuck
def revTK : D → Mo D
  | .tup xs => ret (.tup xs.reverse)
  | _ => stuck
@[simp] theorem revTK_tup {xs : List D} : revTK (.tup xs) = ret (.tup xs.reverse) := rfl
@[simp] theorem dRevT_eq {e : Ev} : dRevT f e = bnd (f e) revTK := by
  exact congrArg (bnd (f e)) (funext fun x => by cases x <;> rfl)
theorem ze_revT {k : Nat} {p1 p2 p3 pos : Pos} (hf : ZE X W e f) : ZE X W (.Subscript e (.Slice none none (some (.UnaryOp .USub (.Constant (.int 1) k p1) p2)) p3) pos) (dRevT f) :=
  ⟨fun pins s σ H Q I h => (pe_revT hf).run pins s σ H Q I (by
    obtain ⟨bs, M, F, e, at0, run⟩ := h
    refine ⟨bs, M, F, e, at0, run.bind.imp fun x bs1 M1 F1 H1 t1 w1 run1 v1 r1 => ?_⟩
    cases x with
    | tup xs =>
      cases r1 with
      | @tup a vs _ h s =>
        refine ⟨a, vs, rfl, .inl (.inl (w1.sub _ _ h)), fun p hp => ?_⟩
        obtain ⟨w2, t2⟩ := w1.laid (.tup vs.reverse) hp
        exact run1.ok _ _ _ t2 w2 _ (.tup upd_same (s.reverse.tr t2))
    | _ => exact run1.elim)⟩
end
/-! ### name = {.. for ..} on one line -/
section
variable {X : Cx} {W : Wi}
theorem ps_setDc {i : Nat} {y : Str} {py : Pos} {kx vx tg iter : Expr} {ifs : List Expr} {scope : Scope} {own : List (Str × Nat)} {pos spos : Pos} {wi : TI} {g : TG} {tt : TT} {tk tv : TE} (hc : X.calm = true) (hN : X.N.Nodup) (hy : X.N[i]? = some y) (hyl : X.env.scope.names.lookup y = some .local)
    (hsw : swapsWith (.DictComp kx vx [⟨tg, iter, ifs, 0⟩] scope pos) (some (.Name y py)) spos.line X.env = pure true) (hi : PI X tg iter wi) (ok : BlkOk X.N X.env.scope scope own)
    (hg : ∀ (s : Shared) (H : Hp) (C : Addr) (cl : List (Str × Addr)) (fp : List Addr), PG (X.blk s H scope (compEnvC scope cl C X.env) fp) tg g) (ht : ∀ (s : Shared) (H : Hp) (C : Addr) (cl : List (Str × Addr)) (fp : List Addr), PTs (X.blk s H scope (compEnvC scope cl C X.env) fp) ifs tt)
    (hk : ∀ (s : Shared) (H : Hp) (C : Addr) (cl : List (Str × Addr)) (fp : List Addr), PE (X.blk s H scope (compEnvC scope cl C X.env) fp) kx tk)
    (he : ∀ (s : Shared) (H : Hp) (C : Addr) (cl : List (Str × Addr)) (fp : List Addr), PE (X.blk s H scope (compEnvC scope cl C X.env) fp) vx tv) (hs : ∀ x, foldedSetIterable iter X.env x = pure x := by intro _; rfl) :
    PS X (.Assign [.Name y py] (.DictComp kx vx [⟨tg, iter, ifs, 0⟩] scope pos) spos) (tAsg (tDc wi g tt tk tv (own.map (·.2))) (gName i)) := by
  refine ⟨fun pins s σ H D I h => ?_⟩
  rw [exec_Assign_Name_used _ _ _ _ hsw]
  refine wpAny_bind (wpAny_standAt (wpAny_bind ?_))
  show wpAny _ X.A (do let _ ← comprehension (.DictComp kx vx [⟨tg, iter, ifs, 0⟩] scope pos) scope X.env (firstIterPos [⟨tg, iter, ifs, 0⟩] pos) newDict false (eval iter X.env) (some (assign (.Name y py) X.env))) _ _ s
  have h : tDc wi g tt tk tv (own.map (·.2)) σ H (fun x H1 => gName i x σ H1 D.nx) := h
  refine wpAny_bind (thn (dc_core (Qf := fun _ s' => SP X pins D .next s') hc hN I hi ok hg ht hk he hs h fun L C s' m H' I' q hn f => ?_) fun _ s' hq => wpAny_pure (wpAny_pure hq))
  show wpAny _ _ (assign (.Name y py) X.env (.ref L)) _ _ _
  refine wpAny_assign_Name (store_ok2 (v := V.ref L) I' hN hy (.inl hyl) rfl (fun s2 I2 ⟨a, sb, ha⟩ => ?_) (.inr hyl))
  obtain ⟨f0, f1, f2, f3, f4, f5⟩ := f
  have haC : C ≠ a := by
    rcases ha with z | z
    · rw [z]; exact f1
    · exact fun e => f4 y a z e.symm
  refine ⟨m, hn.sameBut sb haC, fun h3 sb3 => ?_⟩
  exact ⟨_, H', I2.turned (t' := s2.toks) (fun b o hb e => (sb3.2 b hb).trans e) f0 f1 f3 f4 f5, q⟩
theorem swD_true {kx vx : Expr} {gs : List Comprehension} {scope : Scope} {pos py : Pos} {y : Str} {l : Nat} {env : Env} (hk : env.scope.kind = .function) (hy : env.scope.names.lookup y = some .local) (hl : (py.line == pos.line) = true)
    (ha : (scope.names.any fun (n, k) => n == y && (k == .local || k == .cell)) = false) : swapsWith (.DictComp kx vx gs scope pos) (some (.Name y py)) l env = pure true := by
  have ky : env.kindOf y = some .local := hy
  have hb : env.blockKind = .function := by unfold Env.blockKind; rw [hk]; rfl
  unfold swapsWith
  simp only [hb, ky, ha, Expr.pos, hl]
  rfl
theorem zs_setDc {i : Nat} {y : Str} {py : Pos} {kx vx tg iter : Expr} {scope : Scope} {own : List (Str × Nat)} {pos spos : Pos} {fi : DA} {t : Tg} {fk fe : DE} (hw : t.within (own.map (·.2))) (hc : X.calm = true) (hN : X.N.Nodup) (hy : X.N[i]? = some y) (hyl : X.env.scope.names.lookup y = some .local)
    (hsw : swapsWith (.DictComp kx vx [⟨tg, iter, [], 0⟩] scope pos) (some (.Name y py)) spos.line X.env = pure true) (hi : ZI X W tg iter fi) (ok : BlkOk X.N X.env.scope scope own)
    (hg : ∀ (s : Shared) (H : Hp) (C : Addr) (cl : List (Str × Addr)) (fp : List Addr), ZG (X.blk s H scope (compEnvC scope cl C X.env) fp) tg t)
    (hk : ∀ (s : Shared) (H : Hp) (C : Addr) (cl : List (Str × Addr)) (fp : List Addr), ZE (X.blk s H scope (compEnvC scope cl C X.env) fp) W0 kx fk)
    (he : ∀ (s : Shared) (H : Hp) (C : Addr) (cl : List (Str × Addr)) (fp : List Addr), ZE (X.blk s H scope (compEnvC scope cl C X.env) fp) W0 vx fe) (hs : ∀ x, foldedSetIterable iter X.env x = pure x := by intro _; rfl) :
    ZS X W (.Assign [.Name y py] (.DictComp kx vx [⟨tg, iter, [], 0⟩] scope pos) spos) (dSet i (dDc fi t fk fe (own.map (·.2)))) :=
  ⟨fun pins s σ H Dn I h => (ps_setDc hc hN hy hyl hsw hi ok hg (fun _ _ _ _ _ => zts_nil) hk he hs).run pins s σ H Dn I (by
    obtain ⟨bs0, F0, H0, bs, M, F, e, a, run⟩ := h
    exact dc_lift hw ⟨bs, M, F, e, a.at, (run.bind a).imp fun d bs1 M1 F1 H1 t1 w1 q v r => q.2 _ _ _ _ (q.1.setv r)⟩)⟩
end
end Z

/-! ZW1: a for in a generator -/
namespace ZH
open PySem PySem.Spec PyProof.Rows L2 GenW
section
variable {prog : Program} {w : World} {A : Around} {R : GenEnd} {Y : Protocol} {n : Nat} {s₀ s : Shared} {fs : List Frame} {env : Env}
/-- one turn of the loop's code -/
theorem seg_turn {tg : Expr} {it : Value} {body : List Stmt} {EE : Value → Shared → Prop}
    (hE : ∀ x s1, EE x s1 → Seg (model prog w) A R Y n s₀ (.forLoop tg it body [] env) ((do noteFrame x env; theTreesLotGoes x : Sem Unit).wrap (fun _ => .raise x) .raise id id) fs s1)
    (h : wpAny (model prog w) (A.over (.forLoop tg it body [] env) fs) (pyNext it) (fun r s1 => (r = none ∧ Seg (model prog w) A R Y n s₀ (.block [] env) (.pure (.done .next)) fs s1) ∨
      ∃ v, r = some v ∧ wpAny (model prog w) (A.over (.forLoop tg it body [] env) fs) (letOwnedTupleGo tg it v) (fun _ s2 => wpAny (model prog w) (A.over (.forLoop tg it body [] env) fs) (assign tg env v) (fun _ s3 =>
        Seg (model prog w) A R Y n s₀ (.forLoop tg it body [] env) ((execs body env).wrap (fun f => match f with
          | .ret v => .pure (.done (.ret v))
          | .brk => .pure (.done .next)
          | _ => .pure (.again (.forLoop tg it body [] env))) (fun e => (do noteFrame e env; theTreesLotGoes e : Sem Unit).wrap (fun _ => .raise e) .raise id id) id id) fs s3) EE s2) EE s1) (fun _ _ => False) s) :
    Seg (model prog w) A R Y n s₀ (.forLoop tg it body [] env) ((model prog w).den (.forLoop tg it body [] env)) fs s := by
  have tail : ∀ x s1, EE x s1 → Seg (model prog w) A R Y n s₀ (.forLoop tg it body [] env) ((do noteFrame x env; theTreesLotGoes x : Sem Unit).bind fun _ => (.raise x : Sem PySem.Fin)) fs s1 := fun x s1 hx => by
    rw [Sem.bind_eq_wrap]
    exact hE x s1 hx
  show Seg _ A R Y n s₀ _ ((forTurn tg it body [] env).onRaise _) fs s
  rw [Sem.onRaise_eq_wrap, forTurn]
  refine seg_bind_wrap (wpAny_standAt ?_)
  refine seg_bind_wrap (wpAny_onRaise (wpAny_mono h (fun r s1 h1 => ?_) fun _ _ z => z.elim))
  rcases h1 with ⟨rfl, h1⟩ | ⟨v, rfl, h1⟩
  · refine seg_again rfl ?_
    exact h1
  · refine seg_bind_wrap (wpAny_mono h1 (fun _ s2 h2 => ?_) tail)
    refine seg_bind_wrap (wpAny_mono h2 (fun _ s3 h3 => ?_) tail)
    rw [Sem.bind_eq_wrap', Sem.wrap_wrap]
    refine cast (congrArg (fun t => Seg (model prog w) A R Y n s₀ (.forLoop tg it body [] env) t fs s3) (Sem.wrap_congr (execs body env) id id (K := fun f => match f with
          | .ret v => .pure (.done (.ret v))
          | .brk => .pure (.done .next)
          | _ => .pure (.again (.forLoop tg it body [] env))) (H := fun e => (do noteFrame e env; theTreesLotGoes e : Sem Unit).wrap (fun _ => .raise e) .raise id id) (fun f => ?_) fun e => ?_)) h3
    · cases f <;> rfl
    · exact (Sem.bind_eq_wrap _ _).symm
end
section
variable {X : Cx} {S : Addr} {ip pl : List (Addr × Obj)} {ys : List V} {σ : L2.St} {H : Hp} {s : Shared}
theorem gi_less (h : GI X S (ip ++ pl) ys σ H s) : GI X S ip ys σ H s := by
  obtain ⟨acc, c, r, I⟩ := h
  exact ⟨acc, c, r, Inv.unpinned (pins := (S, lstObj acc c) :: ip) I⟩
theorem gsp_less {D D' : GEnds} {f : Flow} (hb : ∀ σ H, D'.bk ys σ H → D.nx ys σ H) (hr : ∀ v H, D'.rt ys v H → D.rt ys v H) (h : GSP X S (ip ++ pl) D' ys f s) : (f = .brk → GSP X S ip D ys .next s) ∧ ∀ u, f = .ret u → GSP X S ip D ys (.ret u) s := by
  refine ⟨fun e => ?_, fun u e => ?_⟩
  · subst e
    obtain ⟨σ1, H1, I, q⟩ := h
    exact ⟨σ1, H1, gi_less I, hb _ _ q⟩
  · subst e
    obtain ⟨v, σ1, H1, I, rv, q⟩ := h
    exact ⟨v, σ1, H1, gi_less I, rv, hr _ _ q⟩
end
/-- W: what holds by the turn, a measure and what is out; N: what the body is to reach -/
def tGFor (wi : TI) (g : TG) (tb : TGn) : TGn := fun D ys σ H => wi σ H fun J H1 => ∃ W : Nat → Nat → List V → L2.St → Hp → Prop, (∃ m, W 0 m ys σ H1) ∧ ∀ i m zs σ H, W i m zs σ H →
  (J.stop i H ∧ D.nx zs σ H) ∨ (J.go i H ∧ ∃ N : List V → L2.St → Hp → Prop, (∀ zs' σ' H', N zs' σ' H' → ∃ m', m' < m ∧ W (i + 1) m' zs' σ' H') ∧ ∀ x H', J.yld i H x H' → g x σ H' fun σ2 H2 => tb { nx := N, rt := D.rt, bk := D.nx, ct := N } zs σ2 H2)
theorem gs_for {X : Cx} {tg iter : Expr} {body : List Stmt} {wi : TI} {g : TG} {tb : TGn} {pos : Pos} (hp : PassesOwn (model X.prog X.w) X.A X.env X.xe) (hc : X.calm = true) (hi : PI X tg iter wi) (hg : PG X tg g) (hb : GSs X body tb)
    (hs : ∀ x, foldedSetIterable iter X.env x = pure x := by intro _; rfl) : GS X (.For tg iter body [] pos) (tGFor wi g tb) := by
  refine ⟨fun A S ip R n ys s₀ c fs K J gd lv s σ H D gc hn k hI ht => ?_⟩
  obtain ⟨acc, cc, r, I⟩ := hI
  rw [exec_For]
  refine seg_bind_wrap (wpAny_standAt ?_)
  refine seg_bind_wrap ?_
  rw [gc.over]
  refine wpAny_mono (hi.run _ s σ H _ I ht) (fun v s1 h1 => ?_) fun x s1 hx => k.exc _ _ x s1 hx
  refine seg_bind_wrap (wpAny_of_eq (hs v) ?_)
  refine seg_bind_wrap (wpAny_standAt ?_)
  refine seg_bind_wrap (wpAny_holding ?_)
  rw [gc.over]
  refine wpAny_mono h1 (fun itv s2 h2 => ?_) fun x s2 hx => k.exc _ _ x s2 hx
  obtain ⟨it, fp, tn, J1, H2, rfl, I2, T, st2, f2, W, ⟨m0, w0⟩, turns⟩ := h2
  refine seg_call fun p => ?_
  have gl := fun (kk : Result → Sem PySem.Fin) => gc_loop (k := kk) (c' := .forLoop tg (.ref it) body [] X.env) (l := lv []) (kp := []) (p := p) gc rfl rfl
  have hS : ∀ b ∈ fp, b ≠ S := fun b hb e => (f2 b hb).2.2.2.2.2 (S, lstObj acc cc) (List.mem_append_right _ List.mem_cons_self) e.symm
  have stat : ∀ {acc : Array Value} {cc : Nat} {H' : Hp}, (∀ b ∈ fp, H' b = none) → ∀ b ∈ fp, FpOk X ((S, lstObj acc cc) :: ip) H' b := fun {_ _ _} hn b hb => by
    obtain ⟨_, e1, e2, e3, e4, e5⟩ := f2 b hb
    refine ⟨hn b hb, e1, e2, e3, e4, fun q hq => ?_⟩
    rcases List.mem_append.mp hq with z | z
    · exact e5 q (List.mem_append_left _ z)
    · rcases List.mem_cons.mp z with z | z
      · rw [z]
        exact (hS b hb).symm
      · exact e5 q (List.mem_append_right _ (List.mem_cons_of_mem _ z))
  have main : ∀ (m i n : Nat) (zs : List V) (s₀ s : Shared) (σ : L2.St) (H : Hp), n + zs.length = sizeLine → W i m zs σ H → GI X S ip zs σ H s → tn i s.heap → (∀ b ∈ fp, H b = none) →
      Seg (model X.prog X.w) A R (GY X S) n s₀ (.forLoop tg (.ref it) body [] X.env) ((model X.prog X.w).den (.forLoop tg (.ref it) body [] X.env))
        (.ret (fun r => ((match r with | .ok f => (.pure f : Sem Flow) | .error e => .raise e).onRaise (cameBack X.env)).wrap K J gd lv) none (gd false) (lv []) c p [] :: fs) s := by
    intro m
    induction m using Nat.strongRecOn with
    | ind m ih =>
      intro i n zs s₀ s σ H hn w hI st fr
      have ee : ∀ (n : Nat) (s₀ : Shared) (x : Value) (s1 : Shared), X.xe x s1 → Seg (model X.prog X.w) A R (GY X S) n s₀ (.forLoop tg (.ref it) body [] X.env)
          ((do noteFrame x X.env; theTreesLotGoes x : Sem Unit).wrap (fun _ => .raise x) .raise id id)
          (.ret (fun r => ((match r with | .ok f => (.pure f : Sem Flow) | .error e => .raise e).onRaise (cameBack X.env)).wrap K J gd lv) none (gd false) (lv []) c p [] :: fs) s1 := fun n s₀ x s1 hx => by
        refine seg_wrap ?_
        rw [(gl _).over]
        refine wpAny_bind (wpAny_mono (hp x s1 hx) (fun _ s3 hcb => wpAny_theTreesLotGoes ?_) fun y s3 hcb => ?_)
        · exact seg_leaf (.error x) (seg_cameBack gc k hcb)
        · exact seg_leaf (.error y) (seg_cameBack gc k hcb)
      obtain ⟨acc, cc, r, I⟩ := hI
      refine seg_turn (EE := X.xe) (fun x s1 hx => ee n s₀ x s1 hx) ?_
      rw [(gl _).over]
      rcases turns i m zs σ H w with ⟨stop, q⟩ | ⟨go, N, hN, step⟩
      · refine wpAny_mono (T.done X rfl rfl rfl hc i _ s σ H (fun _ _ => False) I (stat fr) st stop) (fun r1 s1 ⟨e1, I1⟩ => .inl ⟨e1, ?_⟩) fun _ _ z => z
        exact seg_leaf (.ok .next) (k.ok n zs s₀ s1 .next hn ⟨σ, H, ⟨acc, cc, r, I1⟩, q⟩)
      · refine wpAny_mono (T.item X rfl rfl rfl hc i _ s σ H (fun _ _ => False) I (stat fr) st go) (fun r1 s1 ⟨u, e1, h4⟩ => .inr ⟨u, e1, ?_⟩) fun _ _ z => z
        refine wpAny_mono h4 (fun _ s5 ⟨x, H5, I5, r5, y5, st5, fr5⟩ => ?_) fun _ _ z => z.elim
        have I6 := I5.pinned (stat fr5) (T.obj _ _ st5)
        refine wpAny_mono (hg.run _ s5 σ H5 x u _ I6 r5 (step x H5 y5)) (fun _ s6 ⟨σ6, H6, I7, q6⟩ => ?_) fun _ _ z => z
        have gb := gl (fun r => ((match r with | .ok f => (.pure f : Sem Flow) | .error e => .raise e).onRaise (cameBack X.env)).wrap K J gd lv)
        refine hb.run A S (ip ++ pinsAt fp s5.heap) R n zs s₀ _ _ _ _ id id s6 σ6 H6 { nx := N, rt := D.rt, bk := D.nx, ct := N } ⟨gb.pn, fun q hq => ?_, gb.apart, gb.over, gb.split, gb.guard, rfl⟩ hn ⟨fun n' zs' s₀' s7 f hn' hf => ?_, fun n' s₀' x s7 hx => ee n' s₀' x s7 hx⟩ ⟨acc, cc, r, I7⟩ q6
        · rcases List.mem_append.mp hq with z | z
          · exact gc.ip q z
          · exact hS _ (of_pinsAt z).1
        · have again : ∀ {σ7 : L2.St} {H7 : Hp}, GI X S (ip ++ pinsAt fp s5.heap) zs' σ7 H7 s7 → N zs' σ7 H7 → Seg (model X.prog X.w) A R (GY X S) n' s₀' (.forLoop tg (.ref it) body [] X.env) (.pure (.again (.forLoop tg (.ref it) body [] X.env)))
              (.ret (fun r => ((match r with | .ok f => (.pure f : Sem Flow) | .error e => .raise e).onRaise (cameBack X.env)).wrap K J gd lv) none (gd false) (lv []) c p [] :: fs) s7 := fun {σ7 H7} G7 n7 => by
            obtain ⟨m', hm, w7⟩ := hN zs' σ7 H7 n7
            have hpin : ∀ b ∈ fp, ∀ o, s5.heap.get? b = some o → s7.heap.get? b = some o ∧ H7 b = none := fun b hb o e => by
              obtain ⟨_, _, _, J7⟩ := G7
              have z := J7.pin (b, o) (List.mem_append_right _ (List.mem_cons_of_mem _ (List.mem_append_right _ (mem_pinsAt hb e))))
              exact ⟨z.1, z.2.1⟩
            refine seg_again rfl (ih m' hm (i + 1) n' zs' s₀' s7 σ7 H7 hn' w7 (gi_less G7) (T.keep _ _ _ st5 fun b hb o e => (hpin b hb o e).1) fun b hb => ?_)
            obtain ⟨o, e, _⟩ := T.obj _ _ st5 b hb
            exact (hpin b hb o e).2
          cases f with
          | next =>
            obtain ⟨σ7, H7, G7, n7⟩ := hf
            exact again G7 n7
          | cont =>
            obtain ⟨σ7, H7, G7, n7⟩ := hf
            exact again G7 n7
          | brk => exact seg_leaf (.ok .next) (k.ok n' zs' s₀' s7 .next hn' ((gsp_less (D := D) (D' := { nx := N, rt := D.rt, bk := D.nx, ct := N }) (fun _ _ z => z) (fun _ _ z => z) hf).1 rfl))
          | ret v => exact seg_leaf (.ok (.ret v)) (k.ok n' zs' s₀' s7 (.ret v) hn' ((gsp_less (D := D) (D' := { nx := N, rt := D.rt, bk := D.nx, ct := N }) (fun _ _ z => z) (fun _ _ z => z) hf).2 v rfl))
  exact main m0 0 n ys s₀ s2 σ H2 hn w0 ⟨acc, cc, r, I2⟩ st2 fun b hb => (f2 b hb).1
end ZH

/-! ZW2: what a generator computes: whole numbers, one after another -/
namespace Z
open PySem PySem.Spec PyProof.Rows L2
variable [Tbs]
inductive OcG where
  | nx (e : Ev) (zs : List Int) | rt (zs : List Int) | bk (e : Ev) (zs : List Int) | ct (e : Ev) (zs : List Int)
abbrev DG := Ev → List Int → Mo OcG
def gV (zs : List Int) : List V := zs.map V.int
def RunG (K : PySem.W.Frag) (W : Wi) (bs0 : List Addr) (F0 H0 : Hp) (r : Option (Rs OcG × MS)) (Dn : GEnds) : Prop := match r with
  | some (.ok (.nx e zs), M') => ∀ bs F H σ, AtS K bs0 F0 H0 bs M' F H σ e → Dn.nx (gV zs) σ H
  | some (.ok (.bk e zs), M') => ∀ bs F H σ, AtS K bs0 F0 H0 bs M' F H σ e → Dn.bk (gV zs) σ H
  | some (.ok (.ct e zs), M') => ∀ bs F H σ, AtS K bs0 F0 H0 bs M' F H σ e → Dn.ct (gV zs) σ H
  | some (.ok (.rt zs), M') => ∀ bs F H, Tr bs0 F0 H0 bs F H → Wd K bs M' F H → Dn.rt (gV zs) .non H
  | some (.err c, M') => ∀ bs F H σ, Tr bs0 F0 H0 bs F H → Wd K bs M' F H → W c σ H
  | none => False
def liftG (K : PySem.W.Frag) (W : Wi) (f : DG) : TGn := fun Dn ys σ H => ∃ bs0 F0 H0 bs M F e zs, ys = gV zs ∧ AtS K bs0 F0 H0 bs M F H σ e ∧ RunG K W bs0 F0 H0 (f e zs M) Dn
abbrev ZY1 (X : Cx) (W : Wi) (st : Stmt) (f : DG) : Prop := GS X st (liftG X.K W f)
abbrev ZYs (X : Cx) (W : Wi) (sts : List Stmt) (f : DG) : Prop := GSs X sts (liftG X.K W f)
section
variable {X : Cx} {st : Stmt} {sts : List Stmt} {t u : TGn}
theorem gs_imp (a : GS X st t) (h : ∀ D ys σ H, u D ys σ H → t D ys σ H) : GS X st u := ⟨fun A S ip R n ys s₀ c fs K J gd lv s σ H D g hn k I q => a.run A S ip R n ys s₀ c fs K J gd lv s σ H D g hn k I (h _ _ _ _ q)⟩
theorem gss_imp (a : GSs X sts t) (h : ∀ D ys σ H, u D ys σ H → t D ys σ H) : GSs X sts u := ⟨fun A S ip R n ys s₀ c fs K J gd lv s σ H D g hn k I q => a.run A S ip R n ys s₀ c fs K J gd lv s σ H D g hn k I (h _ _ _ _ q)⟩
end
section
variable {K : PySem.W.Frag} {W : Wi} {bs0 bs1 bs bs' : List Addr} {M M' : MS} {F0 H0 F1 H1 F H F' H' : Hp} {σ : L2.St} {e : Ev}
theorem RunG.bind {α : Type} {m : Mo α} {f : α → Mo OcG} {Dn : GEnds} (h : RunG K W bs0 F0 H0 (bnd m f M) Dn) (a : AtS K bs0 F0 H0 bs M F H σ e) : Run K W bs F H σ (m M) (fun x bs1 M1 F1 H1 => AtS K bs0 F0 H0 bs1 M1 F1 H1 σ e ∧ RunG K W bs0 F0 H0 (f x M1) Dn) := by
  unfold bnd at h
  cases e1 : m M with
  | none =>
    rw [e1] at h
    exact h
  | some p =>
    obtain ⟨r, M1⟩ := p
    rw [e1] at h
    cases r with
    | ok x => exact fun bs1 F1 H1 t1 w1 => ⟨a.tr t1 w1, h⟩
    | err c => exact fun bs1 F1 H1 t1 w1 => h bs1 F1 H1 σ (a.1.trans t1) w1
theorem RunG.rebase {r : Option (Rs OcG × MS)} {Dn : GEnds} (a : Tr bs0 F0 H0 bs1 F1 H1) (h : RunG K W bs0 F0 H0 r Dn) : RunG K W bs1 F1 H0 r Dn := by
  match r, h with
  | some (.ok (.ct e zs), M'), h => exact fun bs F H σ b => h bs F H σ (b.unbase a)
  | some (.ok (.bk e zs), M'), h => exact fun bs F H σ b => h bs F H σ (b.unbase a)
  | some (.ok (.nx e zs), M'), h => exact fun bs F H σ b => h bs F H σ (b.unbase a)
  | some (.ok (.rt zs), M'), h => exact fun bs F H t w => h bs F H (a.unbase t) w
  | some (.err c, M'), h => exact fun bs F H σ t w => h bs F H σ (a.unbase t) w
end
/-! ### what it is made of -/
def gPlain (f : DS) : DG := fun e zs => bnd (f e) fun o => match o with
  | .nx e' => ret (.nx e' zs)
  | .bk e' => ret (.bk e' zs)
  | .ct e' => ret (.ct e' zs)
  | .rt .non => ret (.rt zs)
  | .rt _ => stuck
def gNil : DG := fun e zs => ret (.nx e zs)
def gSeq (f g : DG) : DG := fun e zs => bnd (f e zs) fun o => match o with
  | .nx e' zs' => g e' zs'
  | o => ret o
def gYield (fe : DE) : DG := fun e zs => if zs.length < 1000 then bnd (fe e) fun d => match d with
    | .int i => ret (.nx e (zs ++ [i]))
    | _ => stuck
  else stuck
def gLoop (t : Tg) (body : DG) : List D → DG
  | [], e, zs => ret (.nx e zs)
  | x :: xs, e, zs => bnd (lft (asg t x e)) fun e1 => bnd (body e1 zs) fun o => match o with
    | .nx e2 zs2 => gLoop t body xs e2 zs2
    | .ct e2 zs2 => gLoop t body xs e2 zs2
    | .bk e2 zs2 => ret (.nx e2 zs2)
    | .rt zs2 => ret (.rt zs2)
def gFor (fi : DA) (t : Tg) (body : DG) : DG := fun e zs => bnd (fi e) fun items => gLoop t body items e zs
section
variable {X : Cx} {W : Wi} {st : Stmt} {rest sts : List Stmt} {f g : DG} {fs : DS} {fe : DE} {ex : Expr} {pos yp : Pos}
theorem plain_conv {Dn : GEnds} {ys : List V} {σ : L2.St} {H : Hp} (h : liftG X.K W (gPlain fs) Dn ys σ H) : tPlain (liftS X.K W fs) Dn ys σ H := by
  obtain ⟨bs0, F0, H0, bs, M, F, e, zs, rfl, a, run⟩ := h
  refine ⟨bs0, F0, H0, bs, M, F, e, a, ?_⟩
  unfold gPlain bnd at run
  cases e1 : fs e M with
  | none =>
    rw [e1] at run
    exact run
  | some p =>
    obtain ⟨r, M1⟩ := p
    rw [e1] at run
    cases r with
    | err c => exact run
    | ok o =>
      cases o with
      | nx e' => exact run
      | bk e' => exact run
      | ct e' => exact run
      | rt d =>
        cases d with
        | non =>
          intro bs F H v t w r
          cases r
          exact run bs F H t w
        | _ => exact run.elim
theorem zy_plain (h : ZS X W st fs) : ZY1 X W st (gPlain fs) := gs_imp (gs_ps h) fun _ _ _ _ q => plain_conv q
theorem zy_nil : ZYs X W [] gNil := gss_imp gss_nil fun D ys σ H h => by
  obtain ⟨bs0, F0, H0, bs, M, F, e, zs, rfl, a, run⟩ := h
  exact run _ _ _ _ a
theorem zy_cons (h1 : ZY1 X W st f) (h2 : ZYs X W rest g) : ZYs X W (st :: rest) (gSeq f g) := gss_imp (gss_cons h1 h2) fun D ys σ H h => by
  obtain ⟨bs0, F0, H0, bs, M, F, e, zs, rfl, a, run⟩ := h
  refine ⟨bs0, F0, H0, bs, M, F, e, zs, rfl, a, ?_⟩
  unfold gSeq bnd at run
  cases e1 : f e zs M with
  | none =>
    rw [e1] at run
    exact run
  | some p =>
    obtain ⟨r, M1⟩ := p
    rw [e1] at run
    cases r with
    | err c => exact run
    | ok o =>
      cases o with
      | nx e' zs' => exact fun bs1 F1 H1 σ1 a1 => ⟨bs0, F0, H0, bs1, M1, F1, e', zs', rfl, a1, run⟩
      | rt zs' => exact run
      | bk e' zs' => exact run
      | ct e' zs' => exact run
theorem zy_yield (he : ZE X W ex fe) (hco : X.env.scope.isCoroutine = false := by rfl) (hi : interactive X.env = false := by rfl) : ZY1 X W (.Expr (.Yield (some ex) yp) pos) (gYield fe) := gs_imp (gs_yield he hco hi) fun D ys σ H h => by
  obtain ⟨bs0, F0, H0, bs, M, F, e, zs, rfl, a, run⟩ := h
  unfold gYield at run
  by_cases hl : zs.length < 1000
  · rw [if_pos hl] at run
    refine ⟨?_, bs, M, F, e, a.at, (run.bind a).imp fun d bs1 M1 F1 H1 t1 w1 q v r => ?_⟩
    · show (zs.map V.int).length < sizeLine
      rw [List.length_map, sizeLine_eq]
      omega
    · obtain ⟨a1, run1⟩ := q
      cases d with
      | int i =>
        cases r
        have := run1 _ _ _ _ a1
        unfold gV at this
        rw [List.map_append] at this
        exact this
      | _ => exact run1.elim
  · rw [if_neg hl] at run
    exact run.elim
theorem zy_for {tg iter : Expr} {body : List Stmt} {fi : DA} {t : Tg} {fb : DG} (hp : PassesOwn (model X.prog X.w) X.A X.env X.xe) (hc : X.calm = true) (hi : ZI X W tg iter fi) (hg : ZG X tg t) (hb : ZYs X W body fb)
    (hs : ∀ x, foldedSetIterable iter X.env x = pure x := by intro _; rfl) : ZY1 X W (.For tg iter body [] pos) (gFor fi t fb) := gs_imp (ZH.gs_for hp hc hi hg hb hs) fun Dn ys σ H h => by
  obtain ⟨bs0, F0, H0, bs, M, F, e, zs, rfl, a, run⟩ := h
  refine ⟨bs, M, F, e, a.at, (run.bind a).imp fun items bs1 M1 F1 H1 t1 w1 q J it => ?_⟩
  obtain ⟨a1, run1⟩ := q
  have run2 := run1.rebase a1.1
  refine ⟨fun i m ys σ H => m = items.length - i ∧ i ≤ items.length ∧ ∃ bs M F e zs, ys = gV zs ∧ AtS X.K bs1 F1 H0 bs M F H σ e ∧ RunG X.K W bs1 F1 H0 (gLoop t fb (items.drop i) e zs M) Dn, ⟨_, rfl, Nat.zero_le _, bs1, M1, F1, e, zs, rfl, a1.rebase, run2⟩, ?_⟩
  rintro i m ys2 σ2 H2 ⟨rfl, hi2, bs2, M2, F2, e2, zs2, rfl, a2, r2⟩
  obtain ⟨more, eb, _⟩ := a2.1.pre
  by_cases hlt : i < items.length
  · have ed : items.drop i = items[i] :: items.drop (i + 1) := List.drop_eq_getElem_cons hlt
    rw [ed] at r2
    refine .inr ⟨it.go F2 H2 a2.1.fm a2.2.1.sub i hlt, fun ys' σ' H' => ∃ bs M F e zs, ys' = gV zs ∧ AtS X.K bs1 F1 H0 bs M F H' σ' e ∧ RunG X.K W bs1 F1 H0 (gLoop t fb (items.drop (i + 1)) e zs M) Dn, fun ys' σ' H' n => ⟨_, by omega, rfl, hlt, n⟩, fun x H3 y => ?_⟩
    obtain ⟨F3, t3, w3, r3⟩ := it.yld more F2 H2 M2 a2.1.fm (eb ▸ a2.2.1) i x H3 items[i] (List.getElem?_eq_getElem hlt) y
    rw [← eb] at t3 w3 r3
    have a3 := a2.tr t3 w3
    unfold gLoop at r2
    cases e1 : asg t items[i] e2 with
    | none =>
      rw [e1] at r2
      exact r2.elim
    | some e4 =>
      rw [e1] at r2
      refine asg_step a3 r3 e1 fun σ4 a4 _ => ⟨bs1, F1, H0, bs2, M2, F3, e4, zs2, rfl, a4, ?_⟩
      unfold bnd lft at r2
      simp only at r2
      cases e5 : fb e4 zs2 M2 with
      | none =>
        rw [e5] at r2
        exact r2
      | some p =>
        obtain ⟨r, M5⟩ := p
        rw [e5] at r2
        cases r with
        | err c => exact r2
        | ok o =>
          cases o with
          | bk e6 zs6 => exact fun bs F H σ a => r2 bs F H σ a
          | nx e6 zs6 => exact fun bs F H σ a => ⟨bs, M5, F, e6, zs6, rfl, a, r2⟩
          | ct e6 zs6 => exact fun bs F H σ a => ⟨bs, M5, F, e6, zs6, rfl, a, r2⟩
          | rt zs6 => exact r2
  · have e0 : i = items.length := by omega
    refine .inl ⟨by rw [e0]; exact it.stop F2 H2 a2.1.fm a2.2.1.sub, ?_⟩
    rw [e0, List.drop_length] at r2
    exact r2 _ _ _ _ a2
end
/-! ### generator defs -/
abbrev DF' := List D → MS → Option (List Int × MS)
def mkGF (n : Nat) (f : DG) : DF' := fun ds M => match f (ds.map Sl.v ++ List.replicate (n - ds.length) .no) [] M with
  | some (.ok (.nx _ zs), M') => some (zs, M')
  | some (.ok (.rt zs), M') => some (zs, M')
  | _ => none
def spG (K : PySem.W.Frag) (n : Nat) (gf : DF') : SpG := fun vs H Q _ => ∃ bs M F ds, Wd K bs M F H ∧ Reps K bs F vs ds ∧ ds.length = n ∧ match gf ds M with
  | some (zs, M') => ∀ bs' F' H', Tr bs F H bs' F' H' → Wd K bs' M' F' H' → Q (gV zs) H'
  | none => False
section
variable {P : Program} {w : World} {K : PySem.W.Frag} {mg : Str → Option Value} {base : Heap}
theorem gen_lift {N : List Str} {f : DG} {n : Nat} {vs : List V} {H : Hp} {Q : List V → Hp → Prop} {E : XK} (h : spG K n (mkGF N.length f) vs H Q E) : liftG K W0 f { nx := fun ys _ H' => Q ys H', rt := fun ys v H' => v = .non ∧ Q ys H' } [] (L2.start N vs) H := by
  obtain ⟨bs, M, F, ds, wd, r, hn, run⟩ := h
  refine ⟨bs, F, H, bs, M, F, ds.map Sl.v ++ List.replicate (N.length - ds.length) .no, [], rfl, ⟨Tr.refl _ _ _, wd, [], ?_, by simp⟩, ?_⟩
  · unfold L2.start
    rw [r.length]
    exact slots_start (N := N) _ r
  · unfold mkGF at run
    split at run
    · rename_i zs M' e0
      split at e0
      · rename_i e' zs' M2 e1
        cases e0
        rw [e1]
        exact fun bs' F' H' σ' a => run bs' F' H' a.1 a.2.1
      · rename_i zs' M2 e1
        cases e0
        rw [e1]
        exact fun bs' F' H' t w => ⟨rfl, run bs' F' H' t w⟩
      · cases e0
    · exact run.elim
/-- a generator def -/
theorem genZ {x qual : Str} {st : Stmt} {f : Addr} {fd : FuncData} {N ps : List Str} {k : Nat} {fb : DG} (G : Fun K x qual st f fd) (S : GScope N ps (defScope st))
    (h : ∀ (cdv : Value) (A : Around) (outer : List Env) (s : Shared) (H : Hp) (E : XK) (pn : List (Addr × Obj)), Room k (A.deeper (envOfC qual (defScope st) s.heap.objs.size f cdv)) → ZYs (gcxOf P w K mg base N qual (defScope st) f cdv A outer s H E pn) W0 (defBody st) fb) :
    GFn P w K mg base (k + 1) f fd ps (spG K ps.length (mkGF N.length fb)) := by
  obtain ⟨oc, od, kV, doc, pm, an, cdv, ct, osl, rfl, lk, hcd⟩ := G.ex
  refine gfn_of lk hcd S (fun vs H Q E q => ?_) fun A outer s H vs Q E pn hr q => ⟨_, h cdv A outer s H E pn hr, gen_lift q⟩
  obtain ⟨bs, M, F, ds, wd, r, hn, run⟩ := q
  rw [r.length]
  exact hn
end
def outG (o : Option (List Int × MS)) : Option (Rs D × MS) := match o with
  | some (zs, M) => some (.ok (.lst (zs.map .int)), M)
  | none => none
def dListG (gf : DF') (g : DA) : DE := fun e => bnd (g e) fun xs M => outG (gf xs M)
section
variable {X : Cx} {W : Wi} {k n : Nat} {f : Addr} {fd : FuncData} {ps : List Str} {gf : DF'} {x : Str} {p pos p2 pos2 : Pos} {e : Expr} {es : List Expr} {g : DA}
/-- list(f(..)) -/
theorem ze_listG (G : GFn X.prog X.w X.K X.mg X.base k f fd ps (spG X.K n gf)) (hr : Room (k + 3) X.A) (hg : Gl X x) (hm : X.mg x = some (.ref f)) (hk : PySem.W.keepIn X.K (.ref f) = true) (hb : Binds X.K fd ps []) (hgl : Gl X "list") (hml : X.mg "list" = none)
    (ha : ZA X W (e :: es) g) (hn : LenA g n) (hdb : (x == ("__debug__" : Str)) = false := by decide) (he : starEach (e :: es) X.env = (false, eval e X.env) :: starEach es X.env := by rfl) (hpl : (backTo pos (starEach es X.env)).any (·.1) = false := by rfl)
    (he2 : starEach [.Call (.Name x p) (e :: es) [] pos] X.env = (false, eval (.Call (.Name x p) (e :: es) [] pos) X.env) :: starEach [] X.env := by rfl) :
    ZE X W (.Call (.Name "list" p2) [.Call (.Name x p) (e :: es) [] pos] [] pos2) (dListG gf g) :=
  ⟨fun pins s σ H Q I h => (pe_listG (E := E0) (pgen_call G (hr.mono (Nat.le_add_right _ _)) hg hm hk hb .nil ha hdb he hpl) (fun _ _ _ _ _ _ _ h => by
    obtain ⟨_, _, _, _, _, _, _, _, _, _, _, _, z⟩ := h
    exact z.elim) (fun _ _ _ z => z.elim) hr hgl hml (by decide +kernel) (by decide) (by decide) he2).run pins s σ H Q I (by
    obtain ⟨bs, M, F, ev, at0, run⟩ := h
    have rb := run.bind
    refine ⟨bs, M, F, ev, at0, ?_⟩
    match e1 : g ev M, rb with
    | some (.err c, M1), rb => exact rb
    | some (.ok ds, M1), rb =>
      intro bs1 F1 H1 t1 w1 vs r1
      rw [List.append_nil]
      refine ⟨bs1, M1, F1, ds, w1, r1, hn _ _ _ _ e1, ?_⟩
      have rb2 : Run X.K W bs1 F1 H1 σ (outG (gf ds M1)) (qE X.K Q) := rb bs1 F1 H1 t1 w1
      cases e2 : gf ds M1 with
      | none =>
        rw [e2] at rb2
        exact rb2.elim
      | some p =>
        obtain ⟨zs, M2⟩ := p
        rw [e2] at rb2
        intro bs2 F2 H2 t2 w2 q hq
        obtain ⟨w3, t3⟩ := w2.laid (.lst (gV zs)) hq
        exact rb2 _ _ _ (t2.trans t3) w3 _ (.lst upd_same (Reps.of_ints zs)))⟩
end
end Z

set_option maxHeartbeats 1000000
/-! ZJ1: a generator whose consumer is a list comprehension: it fills its list at S and writes its own names at L -/
namespace ZJ
open PySem PySem.Spec PyProof.Rows L2 GenW
/-- while the generator rests: v goes behind the list at S, the names at L may be written -/
structure Rest2 (S L : Addr) (v : Value) (s s' : Shared) : Prop where
  os : s'.os = s.os
  bare : AllBare s'.gens
  keep2 : ∀ b o, b ≠ S → b ≠ L → s.heap.get? b = some o → s'.heap.get? b = some o
  own2 : ∀ acc c, s.heap.get? S = some (lstObj acc c) → ∃ c', s'.heap.get? S = some (lstObj (acc.push v) c')
  nms : ∀ m, s.heap.Ns L m → ∃ m', s'.heap.Ns L m'
/-- an object that holds names -/
def NsO (o : Obj) : Prop := ∃ es ep, o.data = .dict es ep ∧ StrKeys es
theorem NsO.ns {o : Obj} {h : Heap} {L : Addr} (x : NsO o) (e : h.get? L = some o) : ∃ m, h.Ns L m := let ⟨es, ep, d, k⟩ := x; ⟨_, o, es, ep, e, d, k, fun _ => rfl⟩
theorem nsO_of {h : Heap} {L : Addr} {m : Str → Option Value} (x : h.Ns L m) : ∃ o, h.get? L = some o ∧ NsO o := let ⟨o, es, ep, e, d, k, _⟩ := x; ⟨o, e, es, ep, d, k⟩
/-- running: as GI, the names at L stand too -/
def GJ (X : Cx) (S L : Addr) (ip : List (Addr × Obj)) (ys : List V) (σ : L2.St) (H : Hp) (s : Shared) : Prop := ∃ dL, NsO dL ∧ GI X S ((L, dL) :: ip) ys σ H s
theorem GJ.names {X : Cx} {S L : Addr} {ip : List (Addr × Obj)} {ys : List V} {σ : L2.St} {H : Hp} {s : Shared} (h : GJ X S L ip ys σ H s) : (∃ m, s.heap.Ns L m) ∧ H L = none := by
  obtain ⟨dL, n, acc, c, r, I⟩ := h
  obtain ⟨h1, h2, _⟩ := I.pin (L, dL) (List.mem_append_right _ (List.mem_cons_of_mem _ List.mem_cons_self))
  exact ⟨n.ns h1, h2⟩
theorem gj_of {X : Cx} {S L : Addr} {ip : List (Addr × Obj)} {ys : List V} {σ : L2.St} {H : Hp} {s : Shared} {dL : Obj} {acc : Array Value} {c : Nat} (n : NsO dL) (r : Vals ys acc.toList) (I : Inv X ((S, lstObj acc c) :: (L, dL) :: ip) σ H s) : GJ X S L ip ys σ H s := ⟨dL, n, acc, c, r, I⟩
/-- woken -/
theorem GJ.woken {X : Cx} {S L : Addr} {ip : List (Addr × Obj)} {ys : List V} {x : V} {v : Value} {σ : L2.St} {H : Hp} {s s' : Shared} (hSL : S ≠ L) (pS : ∀ p ∈ X.pn, p.1 ≠ S) (iS : ∀ p ∈ ip, p.1 ≠ S) (aS : Apart X S) (pL : ∀ p ∈ X.pn, p.1 ≠ L) (iL : ∀ p ∈ ip, p.1 ≠ L) (aL : Apart X L)
    (h : GJ X S L ip ys σ H s) (rv : RelV x v) (z : Rest2 S L v s s') : GJ X S L ip (ys ++ [x]) σ H s' := by
  obtain ⟨dL, nL, acc, c, r, I⟩ := h
  obtain ⟨eS, hS0, hSL2, hSf, _⟩ := I.pin (S, lstObj acc c) (List.mem_append_right _ List.mem_cons_self)
  obtain ⟨eL, hL0, hLL, hLf, _⟩ := I.pin (L, dL) (List.mem_append_right _ (List.mem_cons_of_mem _ List.mem_cons_self))
  have I0 : Inv X ip σ H s := I.pins_of fun p hp => I.pin p (List.mem_append_right _ (List.mem_cons_of_mem _ (List.mem_cons_of_mem _ hp)))
  obtain ⟨z1, z2, z3, z4, z5⟩ := z
  obtain ⟨c', eS'⟩ := z4 acc c eS
  obtain ⟨m0, n0⟩ := nL.ns eL
  obtain ⟨m1, n1⟩ := z5 m0 n0
  obtain ⟨dL', eL', nL'⟩ := nsO_of n1
  obtain ⟨hh, g, d, t, o⟩ := s'
  obtain rfl : o = s.os := z1
  have ntS : ∀ b u, H b = some u → b ≠ S := fun b u q hb => by rw [hb, hS0] at q; cases q
  have ntL : ∀ b u, H b = some u → b ≠ L := fun b u q hb => by rw [hb, hL0] at q; cases q
  have ne2 : ∀ b, b ∉ [S, L] → b ≠ S ∧ b ≠ L := fun b hb => ⟨fun e => hb (by rw [e]; exact List.mem_cons_self), fun e => hb (by rw [e]; simp)⟩
  have J : Inv X ip σ H { s with heap := hh, gens := g, drawn := d, toks := t } := by
    refine I0.step (g' := g) (t' := t) (d' := d) (ch := [S, L]) (fun b hb => ?_)
      (fun b ob _ _ hc q _ => z3 b ob (ne2 b hc).1 (ne2 b hc).2 q) (fun b ob _ _ hc q _ => ⟨ob.slots, z3 b ob (ne2 b hc).1 (ne2 b hc).2 q⟩) (fun _ _ _ _ n => n) (fun b ob hc q => ⟨ob, z3 b ob (ne2 b hc).1 (ne2 b hc).2 q⟩)
      (fun _ _ q => q) (fun _ _ _ q => q) (fun b ps q => ⟨#[], by rw [q]; simp⟩) (fun m hm => ?_) (fun b u q => ?_) z2
    · rcases List.mem_cons.mp hb with e | e
      · rw [e]
        refine ⟨.inr aS.1, aS.2.1, aS.2.2, fun p hp => ?_⟩
        rcases List.mem_append.mp hp with hp | hp
        · exact pS p hp
        · exact iS p hp
      · rw [List.mem_singleton.mp e]
        refine ⟨.inr aL.1, aL.2.1, aL.2.2, fun p hp => ?_⟩
        rcases List.mem_append.mp hp with hp | hp
        · exact pL p hp
        · exact iL p hp
    · obtain ⟨ob, es, ep, ho, q⟩ := hm
      exact ⟨ob, es, ep, z3 _ ob (Ne.symm hSL2) (Ne.symm hLL) ho, q⟩
    · refine (I0.hok b u q).stay (fun c v hc y => ?_) (fun _ y => y) fun _ _ y => y
      rcases hc with w | w
      · rw [w] at y ⊢
        exact z3 b v (ntS b u q) (ntL b u q) y
      · exact z3 c v (ntS c _ w) (ntL c _ w) y
  refine ⟨dL', nL', acc.push v, c', ?_, J.pins_of fun p hp => ?_⟩
  · rw [Array.toList_push]
    exact r.append (.cons rv .nil)
  · rcases List.mem_cons.mp hp with hp | hp
    · rw [hp]
      exact ⟨eS', hS0, hSL2, hSf, fun v q => by cases q⟩
    · rcases List.mem_cons.mp hp with hp | hp
      · rw [hp]
        obtain ⟨es, ep, dd, _⟩ := nL'
        exact ⟨eL', hL0, hLL, hLf, fun v q => by rw [dd] at q; cases q⟩
      · exact J.pin p (List.mem_append_right _ hp)
/-! ### what goes between the generator and its consumer -/
def YJ (X : Cx) (S L : Addr) : Protocol := fun n s₀ v s kap => ∃ ys x ip σ H, n + 1 + ys.length = sizeLine ∧ RelV x v ∧ GJ X S L ip ys σ H s ∧ ∀ s', Rest2 S L v s s' → kap (.send .none) s'
def RJ (X : Cx) (S L : Addr) (Q : List V → VK) (F : Value → Shared → Prop) : GenEnd := fun n s₀ r s => match r with
  | .error e => F e s
  | .ok (.ret u) => ∃ ys v ip σ H, n + ys.length = sizeLine ∧ GJ X S L ip ys σ H s ∧ RelV v u ∧ Q ys v H
  | .ok _ => False
def SPJ (X : Cx) (S L : Addr) (ip : List (Addr × Obj)) (D : GEnds) (ys : List V) (f : Flow) (s : Shared) : Prop := match f with
  | .ret u => ∃ v σ H, GJ X S L ip ys σ H s ∧ RelV v u ∧ D.rt ys v H
  | .next => ∃ σ H, GJ X S L ip ys σ H s ∧ D.nx ys σ H
  | .cont => ∃ σ H, GJ X S L ip ys σ H s ∧ D.ct ys σ H
  | .brk => ∃ σ H, GJ X S L ip ys σ H s ∧ D.bk ys σ H
structure KJ (X : Cx) (S L : Addr) (ip : List (Addr × Obj)) (A : Around) (R : GenEnd) (c : Code) (fs : List Frame) (K : Flow → Sem PySem.Fin) (J : Value → Sem PySem.Fin) (D : GEnds) : Prop where
  ok : ∀ (n : Nat) (ys : List V) (s₀ s : Shared) (f : Flow), n + ys.length = sizeLine → SPJ X S L ip D ys f s → Seg (model X.prog X.w) A R (YJ X S L) n s₀ c (K f) fs s
  exc : ∀ (n : Nat) (s₀ : Shared) (e : Value) (s : Shared), X.xe e s → Seg (model X.prog X.w) A R (YJ X S L) n s₀ c (J e) fs s
/-- where the code stands -/
structure CJ (X : Cx) (S L : Addr) (ip : List (Addr × Obj)) (A : Around) (c : Code) (fs : List Frame) (gd : Bool → Bool) : Prop where
  ne : S ≠ L
  s : GC X S ip A c fs gd
  l : GC X L ip A c fs gd
structure SJ (X : Cx) (st : Stmt) (t : TGn) : Prop where
  run : ∀ (A : Around) (S L : Addr) (ip : List (Addr × Obj)) (R : GenEnd) (n : Nat) (ys : List V) (s₀ : Shared) (c : Code) (fs : List Frame) (K : Flow → Sem PySem.Fin) (J : Value → Sem PySem.Fin) (gd : Bool → Bool) (lv : List Value → List Value) (s : Shared) (σ : L2.St) (H : Hp) (D : GEnds),
    CJ X S L ip A c fs gd → n + ys.length = sizeLine → KJ X S L ip A R c fs K J D → GJ X S L ip ys σ H s → t D ys σ H → Seg (model X.prog X.w) A R (YJ X S L) n s₀ c ((exec st X.env).wrap K J gd lv) fs s
structure SJs (X : Cx) (sts : List Stmt) (t : TGn) : Prop where
  run : ∀ (A : Around) (S L : Addr) (ip : List (Addr × Obj)) (R : GenEnd) (n : Nat) (ys : List V) (s₀ : Shared) (c : Code) (fs : List Frame) (K : Flow → Sem PySem.Fin) (J : Value → Sem PySem.Fin) (gd : Bool → Bool) (lv : List Value → List Value) (s : Shared) (σ : L2.St) (H : Hp) (D : GEnds),
    CJ X S L ip A c fs gd → n + ys.length = sizeLine → KJ X S L ip A R c fs K J D → GJ X S L ip ys σ H s → t D ys σ H → Seg (model X.prog X.w) A R (YJ X S L) n s₀ c ((execs sts X.env).wrap K J gd lv) fs s
section
variable {X : Cx} {st : Stmt} {rest sts : List Stmt}
theorem spj_of {S L : Addr} {acc : Array Value} {c : Nat} {dL : Obj} {ip : List (Addr × Obj)} {s : Shared} {D : GEnds} {ys : List V} {f : Flow} (n : NsO dL) (r : Vals ys acc.toList) (h : SP X ((S, lstObj acc c) :: (L, dL) :: ip) (D.at ys) f s) : SPJ X S L ip D ys f s := by
  cases f with
  | ret u => obtain ⟨v, σ, H, I, r1, q⟩ := h; exact ⟨v, σ, H, gj_of n r I, r1, q⟩
  | next => obtain ⟨σ, H, I, q⟩ := h; exact ⟨σ, H, gj_of n r I, q⟩
  | cont => obtain ⟨σ, H, I, q⟩ := h; exact ⟨σ, H, gj_of n r I, q⟩
  | brk => obtain ⟨σ, H, I, q⟩ := h; exact ⟨σ, H, gj_of n r I, q⟩
/-- a statement that hands out nothing -/
theorem sj_ps {t : TS} (h : PS X st t) : SJ X st (tPlain t) := ⟨fun A S L ip R n ys s₀ c fs K J gd lv s σ H D g hn k hI ht => by
  obtain ⟨dL, nL, acc, cc, r, I⟩ := hI
  refine seg_wrap ?_
  rw [g.s.over]
  exact wpAny_mono (h.run _ s σ H (D.at ys) I ht) (fun f s' hs => k.ok n ys s₀ s' f hn (spj_of nL r hs)) fun x s' hx => k.exc n s₀ x s' hx⟩
theorem sjs_nil : SJs X [] tG0 := ⟨fun A S L ip R n ys s₀ c fs K J gd lv s σ H D g hn k hI ht => seg_execs_nil (k.ok n ys s₀ s .next hn ⟨σ, H, hI, ht⟩)⟩
theorem sjs_cons {t u : TGn} (a : SJ X st t) (b : SJs X rest u) : SJs X (st :: rest) (tGThen t u) := ⟨fun A S L ip R n ys s₀ c fs K J gd lv s σ H D g hn k hI ht => by
  refine seg_execs_cons ?_
  refine a.run A S L ip R n ys s₀ c fs _ J gd lv s σ H { D with nx := fun ys' σ' H' => u D ys' σ' H' } g hn ⟨fun n' ys' s₀' s' f hn' hs => ?_, k.exc⟩ hI ht
  cases f with
  | ret w => exact k.ok n' ys' s₀' s' (.ret w) hn' hs
  | next => exact let ⟨σ', H', I', q⟩ := hs; b.run A S L ip R n' ys' s₀' c fs K J gd lv s' σ' H' D g hn' k I' q
  | cont => exact k.ok n' ys' s₀' s' .cont hn' hs
  | brk => exact k.ok n' ys' s₀' s' .brk hn' hs⟩
theorem sj_yield {e : Expr} {yp pos : Pos} {te : TE} (he : PE X e te) (hco : X.env.scope.isCoroutine = false := by rfl) (hi : interactive X.env = false := by rfl) : SJ X (.Expr (.Yield (some e) yp) pos) (tGYield te) := ⟨fun A S L ip R n ys s₀ c fs K J gd lv s σ H D g hn k hI ht => by
  obtain ⟨lt, ht⟩ := ht
  obtain ⟨n, rfl⟩ : ∃ m, n = m + 1 := ⟨n - 1, by omega⟩
  obtain ⟨dL, nL, acc, cc, r, I⟩ := hI
  refine seg_Expr_Yield g.s.split g.s.gd g.s.guard ?_ hco hi
  rw [g.s.over]
  refine wpAny_mono (he.run _ s σ H _ I ht) (fun v s' ⟨x, H1, I1, rv, q⟩ => ?_) fun x s' hx => k.exc _ s₀ x s' hx
  have G1 : GJ X S L ip ys σ H1 s' := gj_of nL r I1
  exact fun kap hk => ⟨ys, x, ip, σ, H1, hn, rv, G1, fun s2 z => hk .none s2 (k.ok n (ys ++ [x]) s2 s2 .next (by rw [List.length_append, List.length_singleton]; omega) ⟨σ, H1, G1.woken g.ne g.s.pn g.s.ip g.s.apart g.l.pn g.l.ip g.l.apart rv z, q⟩)⟩⟩
theorem cj_loop {S L : Addr} {ip : List (Addr × Obj)} {A : Around} {c c' : Code} {fs : List Frame} {gd : Bool → Bool} {k : Result → Sem PySem.Fin} {l kp : List Value} {p : Pos} (g : CJ X S L ip A c fs gd) (hw : c'.weight = 0) (hu : c'.cUnits = 0) : CJ X S L ip A c' (.ret k none (gd false) l c p kp :: fs) id := ⟨g.ne, gc_loop g.s hw hu, gc_loop g.l hw hu⟩
/-- what a loop's code raised leaves it -/
theorem seg_outJ {S L : Addr} {ip : List (Addr × Obj)} {A : Around} {R : GenEnd} {c : Code} {fs : List Frame} {K : Flow → Sem PySem.Fin} {J : Value → Sem PySem.Fin} {gd : Bool → Bool} {lv : List Value → List Value} {D : GEnds} {n : Nat} {s₀ s : Shared} {e : Value}
    (g : CJ X S L ip A c fs gd) (k : KJ X S L ip A R c fs K J D) (h : cameBackBy (model X.prog X.w) X.A X.env X.xe e s) : Seg (model X.prog X.w) A R (YJ X S L) n s₀ c (((Sem.raise e : Sem Flow).onRaise (cameBack X.env)).wrap K J gd lv) fs s := by
  show Seg _ A R _ n s₀ c (((cameBack X.env e).bind fun _ => (Sem.raise e : Sem Flow)).wrap K J gd lv) fs s
  rw [Sem.bind_eq_wrap, Sem.wrap_wrap]
  refine seg_wrap ?_
  rw [g.s.over]
  exact wpAny_mono h (fun _ s1 q => k.exc n s₀ e s1 q) fun x s1 q => k.exc n s₀ x s1 q
end
section
variable {X : Cx} {S L : Addr} {ip pl : List (Addr × Obj)} {ys : List V} {σ : L2.St} {H : Hp} {s : Shared}
theorem gj_less (h : GJ X S L (ip ++ pl) ys σ H s) : GJ X S L ip ys σ H s := by
  obtain ⟨dL, n, acc, c, r, I⟩ := h
  exact ⟨dL, n, acc, c, r, Inv.unpinned (pins := (S, lstObj acc c) :: (L, dL) :: ip) I⟩
theorem spj_less {D D' : GEnds} {f : Flow} (hb : ∀ σ H, D'.bk ys σ H → D.nx ys σ H) (hr : ∀ v H, D'.rt ys v H → D.rt ys v H) (h : SPJ X S L (ip ++ pl) D' ys f s) : (f = .brk → SPJ X S L ip D ys .next s) ∧ ∀ u, f = .ret u → SPJ X S L ip D ys (.ret u) s := by
  refine ⟨fun e => ?_, fun u e => ?_⟩
  · subst e
    obtain ⟨σ1, H1, I, q⟩ := h
    exact ⟨σ1, H1, gj_less I, hb _ _ q⟩
  · subst e
    obtain ⟨v, σ1, H1, I, rv, q⟩ := h
    exact ⟨v, σ1, H1, gj_less I, rv, hr _ _ q⟩
end
theorem sj_for {X : Cx} {tg iter : Expr} {body : List Stmt} {wi : TI} {g : TG} {tb : TGn} {pos : Pos} (hp : PassesOwn (model X.prog X.w) X.A X.env X.xe) (hc : X.calm = true) (hi : PI X tg iter wi) (hg : PG X tg g) (hb : SJs X body tb)
    (hs : ∀ x, foldedSetIterable iter X.env x = pure x := by intro _; rfl) : SJ X (.For tg iter body [] pos) (ZH.tGFor wi g tb) := by
  refine ⟨fun A S L ip R n ys s₀ c fs K J gd lv s σ H D gc hn k hI ht => ?_⟩
  obtain ⟨dL, nL, acc, cc, r, I⟩ := hI
  rw [exec_For]
  refine seg_bind_wrap (wpAny_standAt ?_)
  refine seg_bind_wrap ?_
  rw [gc.s.over]
  refine wpAny_mono (hi.run _ s σ H _ I ht) (fun v s1 h1 => ?_) fun x s1 hx => k.exc _ _ x s1 hx
  refine seg_bind_wrap (wpAny_of_eq (hs v) ?_)
  refine seg_bind_wrap (wpAny_standAt ?_)
  refine seg_bind_wrap (wpAny_holding ?_)
  rw [gc.s.over]
  refine wpAny_mono h1 (fun itv s2 h2 => ?_) fun x s2 hx => k.exc _ _ x s2 hx
  obtain ⟨it, fp, tn, J1, H2, rfl, I2, T, st2, f2, W, ⟨m0, w0⟩, turns⟩ := h2
  refine seg_call fun p => ?_
  have gl := fun (kk : Result → Sem PySem.Fin) => cj_loop (k := kk) (c' := .forLoop tg (.ref it) body [] X.env) (l := lv []) (kp := []) (p := p) gc rfl rfl
  have hS : ∀ b ∈ fp, b ≠ S := fun b hb e => (f2 b hb).2.2.2.2.2 (S, lstObj acc cc) (List.mem_append_right _ List.mem_cons_self) e.symm
  have hL : ∀ b ∈ fp, b ≠ L := fun b hb e => (f2 b hb).2.2.2.2.2 (L, dL) (List.mem_append_right _ (List.mem_cons_of_mem _ List.mem_cons_self)) e.symm
  have stat : ∀ {acc : Array Value} {cc : Nat} {dL : Obj} {H' : Hp}, (∀ b ∈ fp, H' b = none) → ∀ b ∈ fp, FpOk X ((S, lstObj acc cc) :: (L, dL) :: ip) H' b := fun {_ _ _ _} hn b hb => by
    obtain ⟨_, e1, e2, e3, e4, e5⟩ := f2 b hb
    refine ⟨hn b hb, e1, e2, e3, e4, fun q hq => ?_⟩
    rcases List.mem_append.mp hq with z | z
    · exact e5 q (List.mem_append_left _ z)
    · rcases List.mem_cons.mp z with z | z
      · rw [z]
        exact (hS b hb).symm
      · rcases List.mem_cons.mp z with z | z
        · rw [z]
          exact (hL b hb).symm
        · exact e5 q (List.mem_append_right _ (List.mem_cons_of_mem _ (List.mem_cons_of_mem _ z)))
  have main : ∀ (m i n : Nat) (zs : List V) (s₀ s : Shared) (σ : L2.St) (H : Hp), n + zs.length = sizeLine → W i m zs σ H → GJ X S L ip zs σ H s → tn i s.heap → (∀ b ∈ fp, H b = none) →
      Seg (model X.prog X.w) A R (YJ X S L) n s₀ (.forLoop tg (.ref it) body [] X.env) ((model X.prog X.w).den (.forLoop tg (.ref it) body [] X.env))
        (.ret (fun r => ((match r with | .ok f => (.pure f : Sem Flow) | .error e => .raise e).onRaise (cameBack X.env)).wrap K J gd lv) none (gd false) (lv []) c p [] :: fs) s := by
    intro m
    induction m using Nat.strongRecOn with
    | ind m ih =>
      intro i n zs s₀ s σ H hn w hI st fr
      have ee : ∀ (n : Nat) (s₀ : Shared) (x : Value) (s1 : Shared), X.xe x s1 → Seg (model X.prog X.w) A R (YJ X S L) n s₀ (.forLoop tg (.ref it) body [] X.env)
          ((do noteFrame x X.env; theTreesLotGoes x : Sem Unit).wrap (fun _ => .raise x) .raise id id)
          (.ret (fun r => ((match r with | .ok f => (.pure f : Sem Flow) | .error e => .raise e).onRaise (cameBack X.env)).wrap K J gd lv) none (gd false) (lv []) c p [] :: fs) s1 := fun n s₀ x s1 hx => by
        refine seg_wrap ?_
        rw [(gl _).s.over]
        refine wpAny_bind (wpAny_mono (hp x s1 hx) (fun _ s3 hcb => wpAny_theTreesLotGoes ?_) fun y s3 hcb => ?_)
        · exact seg_leaf (.error x) (seg_outJ gc k hcb)
        · exact seg_leaf (.error y) (seg_outJ gc k hcb)
      obtain ⟨dL, nL, acc, cc, r, I⟩ := hI
      refine ZH.seg_turn (EE := X.xe) (fun x s1 hx => ee n s₀ x s1 hx) ?_
      rw [(gl _).s.over]
      rcases turns i m zs σ H w with ⟨stop, q⟩ | ⟨go, N, hN, step⟩
      · refine wpAny_mono (T.done X rfl rfl rfl hc i _ s σ H (fun _ _ => False) I (stat fr) st stop) (fun r1 s1 ⟨e1, I1⟩ => .inl ⟨e1, ?_⟩) fun _ _ z => z
        exact seg_leaf (.ok .next) (k.ok n zs s₀ s1 .next hn ⟨σ, H, gj_of nL r I1, q⟩)
      · refine wpAny_mono (T.item X rfl rfl rfl hc i _ s σ H (fun _ _ => False) I (stat fr) st go) (fun r1 s1 ⟨u, e1, h4⟩ => .inr ⟨u, e1, ?_⟩) fun _ _ z => z
        refine wpAny_mono h4 (fun _ s5 ⟨x, H5, I5, r5, y5, st5, fr5⟩ => ?_) fun _ _ z => z.elim
        have I6 := I5.pinned (stat fr5) (T.obj _ _ st5)
        refine wpAny_mono (hg.run _ s5 σ H5 x u _ I6 r5 (step x H5 y5)) (fun _ s6 ⟨σ6, H6, I7, q6⟩ => ?_) fun _ _ z => z
        have gb := gl (fun r => ((match r with | .ok f => (.pure f : Sem Flow) | .error e => .raise e).onRaise (cameBack X.env)).wrap K J gd lv)
        refine hb.run A S L (ip ++ pinsAt fp s5.heap) R n zs s₀ _ _ _ _ id id s6 σ6 H6 { nx := N, rt := D.rt, bk := D.nx, ct := N } ⟨gb.ne, ⟨gb.s.pn, fun q hq => ?_, gb.s.apart, gb.s.over, gb.s.split, gb.s.guard, rfl⟩, ⟨gb.l.pn, fun q hq => ?_, gb.l.apart, gb.l.over, gb.l.split, gb.l.guard, rfl⟩⟩ hn
          ⟨fun n' zs' s₀' s7 f hn' hf => ?_, fun n' s₀' x s7 hx => ee n' s₀' x s7 hx⟩ (gj_of nL r I7) q6
        · rcases List.mem_append.mp hq with z | z
          · exact gc.s.ip q z
          · exact hS _ (of_pinsAt z).1
        · rcases List.mem_append.mp hq with z | z
          · exact gc.l.ip q z
          · exact hL _ (of_pinsAt z).1
        · have again : ∀ {σ7 : L2.St} {H7 : Hp}, GJ X S L (ip ++ pinsAt fp s5.heap) zs' σ7 H7 s7 → N zs' σ7 H7 → Seg (model X.prog X.w) A R (YJ X S L) n' s₀' (.forLoop tg (.ref it) body [] X.env) (.pure (.again (.forLoop tg (.ref it) body [] X.env)))
              (.ret (fun r => ((match r with | .ok f => (.pure f : Sem Flow) | .error e => .raise e).onRaise (cameBack X.env)).wrap K J gd lv) none (gd false) (lv []) c p [] :: fs) s7 := fun {σ7 H7} G7 n7 => by
            obtain ⟨m', hm, w7⟩ := hN zs' σ7 H7 n7
            have hpin : ∀ b ∈ fp, ∀ o, s5.heap.get? b = some o → s7.heap.get? b = some o ∧ H7 b = none := fun b hb o e => by
              obtain ⟨_, _, _, _, _, J7⟩ := G7
              have z := J7.pin (b, o) (List.mem_append_right _ (List.mem_cons_of_mem _ (List.mem_cons_of_mem _ (List.mem_append_right _ (mem_pinsAt hb e)))))
              exact ⟨z.1, z.2.1⟩
            refine seg_again rfl (ih m' hm (i + 1) n' zs' s₀' s7 σ7 H7 hn' w7 (gj_less G7) (T.keep _ _ _ st5 fun b hb o e => (hpin b hb o e).1) fun b hb => ?_)
            obtain ⟨o, e, _⟩ := T.obj _ _ st5 b hb
            exact (hpin b hb o e).2
          cases f with
          | next =>
            obtain ⟨σ7, H7, G7, n7⟩ := hf
            exact again G7 n7
          | cont =>
            obtain ⟨σ7, H7, G7, n7⟩ := hf
            exact again G7 n7
          | brk => exact seg_leaf (.ok .next) (k.ok n' zs' s₀' s7 .next hn' ((spj_less (D := D) (D' := { nx := N, rt := D.rt, bk := D.nx, ct := N }) (fun _ _ z => z) (fun _ _ z => z) hf).1 rfl))
          | ret v => exact seg_leaf (.ok (.ret v)) (k.ok n' zs' s₀' s7 (.ret v) hn' ((spj_less (D := D) (D' := { nx := N, rt := D.rt, bk := D.nx, ct := N }) (fun _ _ z => z) (fun _ _ z => z) hf).2 v rfl))
  exact main m0 0 n ys s₀ s2 σ H2 hn w0 (gj_of nL r I2) st2 fun b hb => (f2 b hb).1
end ZJ

set_option maxHeartbeats 1000000
/-! ZJ2: the call of a generator def whose items a comprehension takes -/
namespace ZJ
open PySem PySem.Spec PyProof.Rows L2 GenW
def REndJ (P : Program) (w : World) (outer : List Env) (H : Hp) (s : Shared) (S L a : Addr) (g : Nat) (Q : List V → Hp → Prop) (E : XK) : GenEnd := fun n s₀ r s1 =>
  ((r = .ok (.ret .none) ∨ r = .ok .next) ∧ ∃ H' ys acc c, s1.os = s.os ∧ AllBare s1.gens ∧ Un (frs outer) [] H H' s.heap s1.heap ∧ HOk P w H' s1.heap ∧ H' S = none ∧ (H' L = none ∧ ∃ m, s1.heap.Ns L m) ∧ s1.heap.get? S = some (lstObj acc c) ∧ Vals ys acc.toList ∧ ys.length ≤ sizeLine ∧ Q ys H') ∨
  ∃ e, r = .error e ∧ CX P w outer H s E e s1 ∧ s1.heap.IsGen a g
def YItemJ (s : Shared) (S L a : Addr) (g : Nat) : Protocol := fun n s₀ v s1 kap =>
  s1.os = s.os ∧ AllBare s1.gens ∧ s1.heap.NoLimit ∧ s1.heap.IsGen a g ∧ (∃ m, s1.heap.Ns L m) ∧ (∃ (acc : Array Value) (c : Nat), s1.heap.get? S = some (lstObj acc c) ∧ n + 1 + acc.size = sizeLine) ∧ ∀ s', Rest2 S L v s1 s' → kap (.send .none) s'
/-- what the call gives -/
def MadeJ (P : Program) (w : World) (k : Nat) (outer : List Env) (H : Hp) (s : Shared) (Q : List V → Hp → Prop) (E : XK) (u : Value) (s' : Shared) : Prop :=
  ∃ (a : Addr) (g : Nat) (c : Code), u = .ref a ∧ s.heap.objs.size ≤ a ∧ a < s'.heap.objs.size ∧ s'.heap.IsGen a g ∧ s'.gens[g]? = some (.fresh c) ∧ s'.os = s.os ∧ AllBare s'.gens ∧ s'.heap.NoLimit ∧ (∀ b o, s.heap.get? b = some o → s'.heap.get? b = some o) ∧
    ∀ (A : Around) (S L : Addr) (s2 : Shared), Room k A → A.frames = some outer → s'.heap.objs.size ≤ S → s'.heap.objs.size ≤ L → S ≠ L → (∀ b o, s'.heap.get? b = some o → s2.heap.get? b = some o) → (∃ c, s2.heap.get? S = some (lstObj #[] c)) → (∃ m, s2.heap.Ns L m) → s2.os = s.os → AllBare s2.gens →
      Seg (model P w) A (REndJ P w outer H s S L a g Q E) (YItemJ s S L a g) sizeLine s2 c ((model P w).den c) [] s2
structure FnJ (P : Program) (w : World) (K : PySem.W.Frag) (mg : Str → Option Value) (base : Heap) (k : Nat) (f : Addr) (fd : FuncData) (ps : List Str) (sp : SpG) : Prop where
  len : ∀ vs H Q E, sp vs H Q E → vs.length = ps.length
  run : ∀ (A : Around) (outer : List Env) (s : Shared) (H : Hp) (args : Args) (us : List Value) (vs : List V) (Q : List V → Hp → Prop) (E : XK), Room k A → Env0 P w K mg base A outer s H → BindsTo s fd args (ps.zip us) → Vals vs us → sp vs H Q E →
    codeAny (model P w) A (.call (.ref f) args) (fun r s' => match r with | .ok (.ret u) => MadeJ P w k outer H s Q E u s' | _ => False) s
theorem fnJ_of {P : Program} {w : World} {K : PySem.W.Frag} {mg : Str → Option Value} {base : Heap} {k : Nat} {f : Addr} {name qual : Str} {params : Arguments} {body : List Stmt} {scope : Scope} {dV kV doc pm cdv ct oc : Value} {an od : Option Addr}
    {osl : Array (Option Value)} {N ps : List Str} {sp : SpG} (lk : K.lookup f = some ⟨oc, od, .func (PySem.W.fnOf name qual params body scope dV kV doc pm an cdv ct), osl⟩) (hcd : PySem.W.codeIn K cdv qual = true) (Sc : GScope N ps scope)
    (len : ∀ vs H Q E, sp vs H Q E → vs.length = ps.length)
    (hbody : ∀ (A : Around) (outer : List Env) (s : Shared) (H : Hp) (vs : List V) (Q : List V → Hp → Prop) (E : XK) (pn : List (Addr × Obj)), Room k (A.deeper (envOfC qual scope s.heap.objs.size f cdv)) → sp vs H Q E →
      ∃ t, SJs (gcxOf P w K mg base N qual scope f cdv A outer s H E pn) body t ∧ t { nx := fun ys _ H' => Q ys H', rt := fun ys v H' => v = .non ∧ Q ys H' } [] (start N vs) H) :
    FnJ P w K mg base (k + 1) f (PySem.W.fnOf name qual params body scope dV kV doc pm an cdv ct) ps sp := by
  refine ⟨len, fun A outer s H args us vs Q E hr e0 hb r hsp => ?_⟩
  have hl := len _ _ _ _ hsp
  have KX : K.In s.heap := e0.mod.kin.keeps fun b o e => (e0.bs b o e).1
  have nl : s.heap.NoLimit := e0.mod.nolimit.keeps fun b o e => (e0.bs b o e).1
  have kd : ∀ y ∈ ps.zip us, scope.names.lookup y.1 = some .local ∨ (scope.names.lookup y.1 = some .cell ∧ ((cellsFrom (s.heap.objs.size + 1) scope.names []).lookup y.1).isSome = true) := fun ⟨n, v⟩ hy =>
    (Sc.par n (List.of_mem_zip hy).1).elim .inl fun q => .inr ⟨q, PySem.W.cellsFrom_some _ _ _ (.inl q)⟩
  refine codeAny_call_generator hr.depth (KX _ _ lk) rfl Sc.co Sc.gen rfl (PySem.W.codeRec_of KX hcd) (hb _ _ _ _ ?_)
  refine wpAny_newFunctionEnv_cells Sc.kind kd fun env he s1 x => ?_
  subst he
  have nl1 : s1.heap.NoLimit := nl.keeps x.toInCall.keep
  refine ⟨nl1, ?_⟩
  obtain ⟨h1, tk, es1, hk1⟩ := x.done
  have os1 : s1.os = s.os := by rw [es1]
  have g1 : s1.gens = s.gens := by rw [es1]
  have lt1 : s.heap.objs.size < s1.heap.objs.size := x.toInCall.ns.lt
  have kp1 : ∀ b o, s.heap.get? b = some o → s1.heap.get? b = some o := x.toInCall.keep
  have main : ∀ (go : Obj) (nm qn : Value) (tk2 : Nat), go.cls = .type "generator" → go.data = .fields #[.int s1.gens.size 0, nm, qn] → go.slots = #[] → (∀ h : Heap, (h.push go).get? h.objs.size = some go) →
      MadeJ P w (k + 1) outer H s Q E (.ref s1.heap.objs.size) { s1 with gens := s1.gens.push (.fresh (.func body (envOfC qual scope s.heap.objs.size f cdv))), toks := tk2, heap := s1.heap.push go } := by
    intro go nm qn tk2 c1 c2 c3 hp
    have isg : ∀ h : Heap, h.get? s1.heap.objs.size = some go → h.IsGen s1.heap.objs.size s1.gens.size := fun h e => ⟨go, nm, qn, e, c1, c2, c3⟩
    have at_ : (s1.heap.push go).get? s1.heap.objs.size = some go := hp _
    refine ⟨s1.heap.objs.size, s1.gens.size, _, rfl, Nat.le_of_lt lt1, ?_, isg _ at_, Array.getElem?_push_size .., os1, ?_, nl1.keeps fun b o e => Heap.get?_push_of_some _ e, fun b o e => Heap.get?_push_of_some _ (kp1 b o e), ?_⟩
    · show _ < (s1.heap.push _).objs.size
      rw [Heap.size_push]
      exact Nat.lt_succ_self _
    · exact AllBare.push (by rw [g1]; exact e0.bare) rfl
    intro Aw S L s2 rw_ hfr leS leL hSL kp2' oS oL os2 ba2
    have e0w : Env0 P w K mg base Aw outer s H := ⟨hfr, e0.mod, e0.bs, e0.bsz, e0.funs, e0.frf, e0.hok, e0.bare⟩
    obtain ⟨t, ht, hq⟩ := hbody Aw outer s H vs Q E [(s1.heap.objs.size, go)] (rw_.deeper _) hsp
    have I1 : Inv (gcxOf P w K mg base N qual scope f cdv Aw outer s H E []) [] (start N vs) H s1 := inv_startG Sc rw_.hd e0w hl r x
    have kp2 : ∀ b o, s1.heap.get? b = some o → s2.heap.get? b = some o := fun b o e => kp2' b o (Heap.get?_push_of_some _ e)
    have I2 : Inv (gcxOf P w K mg base N qual scope f cdv Aw outer s H E []) [] (start N vs) H s2 := I1.call' (ch := []) (os2.trans os1.symm) (Un.kept kp2) (I1.hok.kept kp2) ba2 fun b z => by simp at z
    have up : ∀ {b : Addr}, (s1.heap.push go).objs.size ≤ b → s1.heap.objs.size < b := fun {b} z => by
      rw [Heap.size_push] at z
      exact z
    have ltS := up leS
    have ltL := up leL
    obtain ⟨cS, eS⟩ := oS
    obtain ⟨mL, nsL⟩ := oL
    obtain ⟨dL, eL, nL⟩ := nsO_of nsL
    have ea : s2.heap.get? s1.heap.objs.size = some go := kp2' s1.heap.objs.size go at_
    have gnc : ∀ v, go.data ≠ .cell v := fun v q => by rw [c2] at q; cases q
    have fresh : ∀ b, s1.heap.objs.size ≤ b → H b = none ∧ b ≠ s.heap.objs.size ∧ b ∉ frs outer ∧ s.heap.objs.size ≤ b ∧ ∀ y c, (cellsFrom (s.heap.objs.size + 1) scope.names []).lookup y = some c → c ≠ b := fun b hb => by
      refine ⟨I1.hok.fresh hb, Nat.ne_of_gt (Nat.lt_of_lt_of_le lt1 hb), I1.nofs hb, Nat.le_trans (Nat.le_of_lt lt1) hb, fun y c e z => ?_⟩
      obtain ⟨v, ob, ho, _⟩ := I1.cell y c e
      have q := Heap.lt_size ho
      rw [z] at q
      exact Nat.lt_irrefl _ (Nat.lt_of_lt_of_le q hb)
    have apart : ∀ b, s1.heap.objs.size < b → Apart (gcxOf P w K mg base N qual scope f cdv Aw outer s H E [(s1.heap.objs.size, go)]) b := fun b hb => by
      obtain ⟨_, y2, _, y4, y5⟩ := fresh b (Nat.le_of_lt hb)
      exact ⟨y4, y2, y5⟩
    have pne : ∀ b, s1.heap.objs.size < b → ∀ p ∈ [(s1.heap.objs.size, go)], p.1 ≠ b := fun b hb p hp => by
      rw [List.mem_singleton.mp hp]
      exact Nat.ne_of_lt hb
    have G0 : GJ (gcxOf P w K mg base N qual scope f cdv Aw outer s H E [(s1.heap.objs.size, go)]) S L [] [] (start N vs) H s2 := by
      refine ⟨dL, nL, #[], cS, .nil, Inv.pinnedG I2 fun p hp => ?_⟩
      rcases List.mem_append.mp hp with z | z
      · rw [List.mem_singleton.mp z]
        obtain ⟨y1, y2, y3, _, _⟩ := fresh s1.heap.objs.size (Nat.le_refl _)
        exact ⟨ea, y1, y2, y3, gnc⟩
      · rcases List.mem_cons.mp z with z | z
        · rw [z]
          obtain ⟨y1, y2, y3, _, _⟩ := fresh S (Nat.le_of_lt ltS)
          exact ⟨eS, y1, y2, y3, fun v q => by cases q⟩
        · rw [List.mem_singleton.mp z]
          obtain ⟨y1, y2, y3, _, _⟩ := fresh L (Nat.le_of_lt ltL)
          obtain ⟨es, ep, dd, _⟩ := nL
          exact ⟨eL, y1, y2, y3, fun v q => by rw [dd] at q; cases q⟩
    have gen_ : ∀ {ip : List (Addr × Obj)} {ys : List V} {s' : Shared} {σ' : L2.St} {H' : Hp}, GJ (gcxOf P w K mg base N qual scope f cdv Aw outer s H E [(s1.heap.objs.size, go)]) S L ip ys σ' H' s' → s'.heap.IsGen s1.heap.objs.size s1.gens.size := fun {ip ys s' σ' H'} hI => by
      obtain ⟨_, _, _, _, _, J⟩ := hI
      exact isg _ (J.pin (s1.heap.objs.size, go) (List.mem_append_left _ (List.mem_singleton.mpr rfl))).1
    refine seg_func ?_
    refine seg_imp (R := RJ (gcxOf P w K mg base N qual scope f cdv Aw outer s H E [(s1.heap.objs.size, go)]) S L (fun ys v H' => v = .non ∧ Q ys H') fun e s' => CX P w outer H s E e s' ∧ ∀ p ∈ [(s1.heap.objs.size, go)], s'.heap.get? p.1 = some p.2)
      (Y := YJ (gcxOf P w K mg base N qual scope f cdv Aw outer s H E [(s1.heap.objs.size, go)]) S L) (fun n s₀ r s1' hR => ?_) (fun n s₀ v s1' kap kap' hkk hY => ?_) sizeLine ?_
    · cases r with
      | error e => exact let ⟨q1, q2⟩ := hR; .inr ⟨e, rfl, q1, isg _ (q2 (s1.heap.objs.size, go) (List.mem_singleton.mpr rfl))⟩
      | ok fl =>
        cases fl with
        | ret u =>
          obtain ⟨ys, v, ip, σ', H', hn, hI, rv, ev, hQ⟩ := hR
          subst ev
          obtain rfl : u = Value.none := rv
          obtain ⟨n1, n2⟩ := hI.names
          obtain ⟨_, _, hG⟩ := hI
          obtain ⟨a1, _, _, acc, cc, ra, ea⟩ := hG.at
          obtain ⟨_, _, _, J⟩ := hG
          exact .inl ⟨.inl rfl, H', ys, acc, cc, J.os, J.bare, J.base, J.hok, a1, ⟨n2, n1⟩, ea, ra, by omega, hQ⟩
        | next => exact (show False from hR).elim
        | cont => exact (show False from hR).elim
        | brk => exact (show False from hR).elim
    · obtain ⟨ys, xx, ip, σ', H', hn, h2, hI, h3⟩ := hY
      have hg := gen_ hI
      obtain ⟨n1, n2⟩ := hI.names
      obtain ⟨_, _, hG⟩ := hI
      obtain ⟨_, _, _, acc, cc, ra, ea⟩ := hG.at
      obtain ⟨_, _, _, J⟩ := hG
      have sz : acc.size = ys.length := by
        have e1 := ra.length
        rw [e1]
        simp
      exact ⟨J.os, J.bare, J.nolimit, hg, n1, ⟨acc, cc, ea, by rw [sz]; exact hn⟩, fun s' z => hkk _ _ (h3 s' z)⟩
    · refine ht.run Aw S L [] _ sizeLine [] s2 _ [] _ _ id id s2 (start N vs) H _ ⟨hSL, ⟨pne S ltS, fun p hp => (by simp at hp), apart S ltS, over_func, rfl, rfl, rfl⟩, ⟨pne L ltL, fun p hp => (by simp at hp), apart L ltL, over_func, rfl, rfl, rfl⟩⟩ (Nat.add_zero _) ⟨fun n ys s₀ s' fl hn hs => ?_, fun n s₀ e s' hx => ?_⟩ G0 hq
      · cases fl with
        | ret u => exact let ⟨v, σ', H', hI, rv, ev, hQ⟩ := hs; seg_end (.ok (.ret u)) ⟨ys, v, [], σ', H', hn, hI, rv, ev, hQ⟩
        | next => exact let ⟨σ', H', hI, hQ⟩ := hs; seg_end (.ok (.ret .none)) ⟨ys, .non, [], σ', H', hn, hI, rfl, rfl, hQ⟩
        | cont => exact let ⟨_, _, _, q⟩ := hs; (show False from q).elim
        | brk => exact let ⟨_, _, _, q⟩ := hs; (show False from q).elim
      · refine seg_wrap ?_
        rw [over_func]
        exact wpAny_mono (show wpAny (model P w) (Aw.deeper (envOfC qual scope s.heap.objs.size f cdv)) (leaving (envOfC qual scope s.heap.objs.size f cdv) e) (fun _ s'' => CX P w outer H s E e s'' ∧ ∀ p ∈ [(s1.heap.objs.size, go)], s''.heap.get? p.1 = some p.2) (fun _ _ => False) s' from hx) (fun _ s'' q => seg_end (.error e) q) fun _ s'' q => q.elim
  exact main _ _ _ _ rfl rfl rfl fun h => Heap.get?_push_size _ rfl
/-! ### the call as an expression -/
section
variable {X : Cx} {k : Nat} {f : Addr} {fd : FuncData} {ps : List Str} {sp : SpG} {dvs : List V} {ds : List Value} {x : Str} {p pos : Pos}
structure PJ (X : Cx) (k : Nat) (e : Expr) (tg : TGen) (E : XK) : Prop where
  run : ∀ (pins : List (Addr × Obj)) (s : Shared) (σ : L2.St) (H : Hp) (cont : List V → Hp → Prop), Inv X pins σ H s → tg σ H cont → wpAny (model X.prog X.w) X.A (eval e X.env) (fun u s' => ∃ H1 sc, Inv X pins σ H1 sc ∧ MadeJ X.prog X.w k X.stack H1 sc cont E u s') X.xe s
theorem pj_call {E : XK} {e : Expr} {es : List Expr} {t : TA} (F : FnJ X.prog X.w X.K X.mg X.base k f fd ps sp) (hr : Room k X.A) (hg : Gl X x) (hm : X.mg x = some (.ref f)) (hk : PySem.W.keepIn X.K (.ref f) = true) (hb : Binds X.K fd ps ds) (hd : Vals dvs ds)
    (ha : PA X (e :: es) t) (hdb : (x == ("__debug__" : Str)) = false := by decide) (he : starEach (e :: es) X.env = (false, eval e X.env) :: starEach es X.env := by rfl) (hpl : (backTo pos (starEach es X.env)).any (·.1) = false := by rfl) :
    PJ X k (.Call (.Name x p) (e :: es) [] pos) (tCallG sp dvs E t) E := ⟨fun pins s σ H cont I h => by
  refine wpAny_Call_Name_kw (ld_glob I hg hm ?_ hdb)
  refine PySem.W.callWith_K (h₀ := X.base) I.ok.mod.kin hk (thn (ha.run pos pins s σ H _ I h) fun us s1 ⟨vs, H1, I1, r, q⟩ => ⟨I1.kIn, ?_⟩) he hpl
  have r2 : Vals (vs ++ dvs) (us ++ ds) := r.append hd
  have l2 : (us ++ ds).length = ps.length := by
    rw [← r2.length]
    exact F.len _ _ _ _ q
  refine wpAny_call (codeAny_mono (F.run X.A X.stack s1 H1 ⟨us, []⟩ (us ++ ds) (vs ++ dvs) cont E hr I1.env0 (hb s1 us I1.kIn l2) r2 q) fun r s2 hq => ?_)
  cases r with
  | error e => exact hq.elim
  | ok fl =>
    cases fl with
    | ret u => exact ⟨H1, s1, I1, hq⟩
    | next => exact hq.elim
    | cont => exact hq.elim
    | brk => exact hq.elim⟩
end
end ZJ

set_option maxHeartbeats 1000000
/-! ZJ3: name = [x for x in g(..)] -/
namespace ZJ
open PySem PySem.Spec PyProof.Rows L2 GenW
section
variable {X : Cx}
theorem lcG_core {pins : List (Addr × Obj)} {s : Shared} {σ : L2.St} {H : Hp} {Q : VK} {y : Str} {py pe : Pos} {iter : Expr} {scope : Scope} {own : List (Str × Nat)} {pos pos' : Pos} {tgen : TGen} {k : Nat} {use : Option (Value → Sem Unit)} {Qf : Value → Shared → Prop}
    (hc : X.calm = true) (I : Inv X pins σ H s) (hi : PJ X k iter tgen E0) (hr : Room (k + 1) X.A) (ok : BlkOk X.N X.env.scope scope own) (hy : scope.names.lookup y = some .local) (hs : ∀ x, foldedSetIterable iter X.env x = pure x) (hdb : (y == ("__debug__" : Str)) = false)
    (h : tListG tgen σ H Q)
    (hRR : ∀ D C s' m H', Inv X pins σ H' s' → Q (.ref D) H' → s'.heap.Ns C m → FpOk X pins H' C → compPost (model X.prog X.w) X.A X.xe use Qf (.ref D) C (.ok .next) s') :
    wpAny (model X.prog X.w) X.A (comprehension (.ListComp (.Name y pe) [⟨.Name y py, iter, [], 0⟩] scope pos) scope X.env pos' (newList []) false (eval iter X.env) use) Qf X.xe s := by
  have hfree : ∀ z ∈ scope.names, z.2 = .free → ∃ c, X.env.cells.lookup z.1 = some c := fun z hz e => (ok.free z hz e).elim (fun q => I.ok.has _ (.inl q)) fun q => I.ok.has _ (.inr q)
  refine wpAny_comprehension_free (use := use) rfl hs (closure_ok hfree) ok.kind (fun z hz e => by rw [ok.uniq z hz, e]) (thn (hi.run pins s σ H _ I h) fun u s1 ⟨H1, sc, I1, made⟩ => ?_)
  obtain ⟨a, g, c0, rfl, la, la2, isg, gs0, os1, ba1, nl1, kp1, wake⟩ := made
  refine wpAny_pyIter_gen isg (wpAny_newObj_type (newEnv_comp ?_) (by show 0 ≤ sizeLine; decide))
  have szc : sc.heap.objs.size ≤ s1.heap.objs.size := Nat.le_trans la (Nat.le_of_lt la2)
  generalize hS : s1.heap.objs.size = S
  generalize hs3 : ({ s1 with heap := s1.heap.push { cls := .type "list", data := .seq ([] : List Value).toArray } } : Shared) = s3
  have h3 : s3.heap = s1.heap.push { cls := .type "list", data := .seq ([] : List Value).toArray } := by rw [← hs3]
  have sz3 : s3.heap.objs.size = S + 1 := by rw [h3, Heap.size_push, hS]
  show codeAny _ _ (.compStart (.ListComp (.Name y pe) [⟨.Name y py, iter, [], 0⟩] scope pos) 0 (.ref a) (.ref S) (compEnvC scope (cellsFrom (s3.heap.objs.size + 1) scope.names (cloFrom X.env.cells scope.names [])) s3.heap.objs.size X.env)) (compPost (model X.prog X.w) X.A X.xe use Qf (.ref S) s3.heap.objs.size) { s3 with heap := pushCells (s3.heap.push { cls := .type "dict", data := .dict #[] }) scope.names }
  generalize hce : compEnvC scope (cellsFrom (s3.heap.objs.size + 1) scope.names (cloFrom X.env.cells scope.names [])) s3.heap.objs.size X.env = ce
  generalize hL : s3.heap.objs.size = L
  have SL : S < L := by omega
  have cL : ce.locals = L := by rw [← hce, ← hL]; rfl
  have ck : ce.scope.kind = .function := by rw [← hce]; exact ok.kind
  have cy : ce.kindOf y = some .local := by
    rw [← hce]
    exact lookup_relS_keep (by decide) hy
  generalize hs4 : ({ s3 with heap := pushCells (s3.heap.push { cls := .type "dict", data := .dict #[] }) scope.names } : Shared) = s4
  have kp3 : ∀ b o, s3.heap.get? b = some o → s4.heap.get? b = some o := fun b o e => by
    rw [← hs4]
    exact pushCells_keeps _ _ _ _ (Heap.get?_push_of_some _ e)
  have kp4 : ∀ b o, s1.heap.get? b = some o → s4.heap.get? b = some o := fun b o e => kp3 b o (by rw [h3]; exact Heap.get?_push_of_some _ e)
  have eS : s4.heap.get? S = some (lstObj #[] 0) := kp3 S _ (by rw [h3, ← hS]; exact Heap.get?_push_size _ rfl)
  have nL : ∃ m, s4.heap.Ns L m := ⟨fun _ => none, by
    rw [← hs4, ← hL]
    exact Heap.Ns.keeps (Heap.Ns.new ..) fun b o e => pushCells_keeps _ _ _ _ e⟩
  have os4 : s4.os = sc.os := by
    rw [← hs4, ← hs3]
    exact os1
  have ge4 : s4.gens = s1.gens := by rw [← hs4, ← hs3]
  have aS : a < S := by rw [← hS]; exact la2
  have nl4 : s4.heap.NoLimit := nl1.keeps kp4
  have cst : cStatics < s1.heap.objs.size := let ⟨_, hn, _⟩ := nl1; hn.lt
  have cS : cStatics ≠ S := Nat.ne_of_lt (by rw [← hS]; exact cst)
  have cL' : cStatics ≠ L := Nat.ne_of_lt (Nat.lt_trans (by rw [← hS]; exact cst) SL)
  have gl4 : g < s4.gens.size := by
    rw [ge4]
    exact (Array.getElem?_eq_some_iff.mp gs0).1
  have goes0 : (GenState.fresh c0).Goes (model X.prog X.w) X.A.in1 (REndJ X.prog X.w X.stack H1 sc S L a g (fun out H2 => ∀ p, H2 p = none → Q (.ref p) (upd H2 p (.lst out))) E0) (YItemJ sc S L a g) sizeLine (.send .none) (s4.setGen g .running) := by
    refine ⟨rfl, wake _ _ _ _ ⟨hr.hd, ?_, ?_⟩ I1.ok.frames (Nat.le_of_eq hS) (by omega) (Nat.ne_of_lt SL) kp4 ⟨_, eS⟩ nL os4 (allBare_setGen (s := s4) (by rw [ge4]; exact ba1) rfl)⟩
    · have := hr.dp
      show X.A.depth + 3 * k + 5 < _
      omega
    · have := hr.un
      show X.A.units + 1 + 16 * k + 200 < _
      omega
  have loop : codeAny (model X.prog X.w) X.A (.compLoop (.ListComp (.Name y pe) [⟨.Name y py, iter, [], 0⟩] scope pos) 0 (.ref a) (.ref S) ce) (compPost (model X.prog X.w) X.A X.xe use Qf (.ref S) L) s4 := by
    refine compLoop_any (fun n s' => s'.heap.IsGen a g ∧ s'.heap.NoLimit ∧ (∃ m, s'.heap.Ns L m) ∧ ∃ gs, s'.gens[g]? = some gs ∧
      gs.Goes (model X.prog X.w) X.A.in1 (REndJ X.prog X.w X.stack H1 sc S L a g (fun out H2 => ∀ p, H2 p = none → Q (.ref p) (upd H2 p (.lst out))) E0) (YItemJ sc S L a g) n (.send .none) (s'.setGen g .running)) ?_ sizeLine
      ⟨isg.keeps kp4, nl4, nL, _, by rw [ge4]; exact gs0, goes0⟩
    rintro n s5 ⟨isg5, nl5, nL5, gs, hgs, goes⟩
    have gl : g < s5.gens.size := (Array.getElem?_eq_some_iff.mp hgs).1
    have noE : ∀ {e : Value} {s1 : Shared}, CX X.prog X.w X.stack H1 sc E0 e s1 → False := fun h => by
      obtain ⟨_, _, _, _, _, _, _, _, _, _, _, _, z⟩ := h
      exact z
    refine wpAny_gsz (n := g + 1) gl (next_genG (A := X.A) (Er := fun e s1 => CX X.prog X.w X.stack H1 sc E0 e s1 ∧ s1.heap.IsGen a g)
      (F := fun n s₀ s1 => ∃ H' ys acc c, s1.os = sc.os ∧ AllBare s1.gens ∧ Un (frs X.stack) [] H1 H' sc.heap s1.heap ∧ HOk X.prog X.w H' s1.heap ∧ H' S = none ∧ (H' L = none ∧ ∃ m, s1.heap.Ns L m) ∧ s1.heap.get? S = some (lstObj acc c) ∧ Vals ys acc.toList ∧ ys.length ≤ sizeLine ∧ ∀ p, H' p = none → Q (.ref p) (upd H' p (.lst ys)))
      (I1.ok.hd hc) nl5 (by have := hr.dp; omega) isg5 hgs goes (fun v s6 gs' hb hv => ?_) (fun s6 hp h' hk _ => ?_) fun e s6 he => (noE he.1).elim)
    · obtain ⟨os6, hb6, nl6, isg6, ⟨m6, ns6⟩, ⟨acc, c, e6, hn⟩, hk⟩ := hv
      intro gsz
      have gl6 : g < s6.gens.size := by
        have q : (s6.setGen g gs').gens.size = s6.gens.size := setGen_size _ _ _
        have q2 : g + 1 ≤ (s6.setGen g gs').gens.size := gsz
        omega
      refine wpAny_pure (wpAny_assign_Name (wpAny_storeName_local (m := m6) cy (by rw [cL]; exact ns6) (fun h7 n7 sb7 => wpAny_tests_nil ?_) (by rw [ck]; rfl)))
      rw [cL] at n7 sb7
      rw [if_pos rfl]
      refine wpAny_Name (wpAny_loadName_local (v := v) (m := fun x => if x = y then some v else m6 x) ck cy (by rw [cL]; exact n7) (by simp) ?_) hdb
      have e7 : h7.get? S = some (lstObj acc c) := (sb7.2 S (Nat.ne_of_lt SL)).trans e6
      refine append_at e7 (fun h8 sb8 e8 => ?_) (by omega)
      have keep8 : ∀ b o, b ≠ S → b ≠ L → s6.heap.get? b = some o → h8.get? b = some o := fun b o n1 n2 e => (sb8.2 b n1).trans ((sb7.2 b n2).trans e)
      have ns8 : ∃ m, h8.Ns L m := ⟨_, n7.sameBut sb8 (Nat.ne_of_gt SL)⟩
      have isg8 : h8.IsGen a g := by
        obtain ⟨o, nm, qn, ho, r⟩ := isg6
        exact ⟨o, nm, qn, keep8 a o (Nat.ne_of_lt aS) (Nat.ne_of_lt (Nat.lt_trans aS SL)) ho, r⟩
      have nl8 : h8.NoLimit := by
        obtain ⟨mc, hns, hnn⟩ := nl6
        exact ⟨mc, hns.at' fun o e => keep8 _ o cS cL' e, hnn⟩
      have rest : Rest2 S L v s6 ({ ({ s6.setGen g gs' with heap := h8, toks := s6.toks + 1 } : Shared) with } |>.setGen g .running) :=
        ⟨rfl, allBare_setGen (s := s6.setGen g gs') (allBare_setGen hb6 hb) rfl, keep8, fun acc' c' e => by
          rw [e6] at e
          cases e
          exact ⟨_, e8⟩, fun _ _ => ns8⟩
      cases n with
      | zero => exact (show False from hk _ rest).elim
      | succ m => exact ⟨m, Nat.lt_succ_self m, isg8, nl8, ns8, gs', setGen_at gl6, hk _ rest⟩
    · obtain ⟨H', ys, acc, c, o6, b6, un6, hok6, nS, ⟨nL', m6, ns6⟩, e6, v6, l6, q6⟩ := hp
      have un7 := un6.trans (Un.kept hk)
      have J : Inv X pins σ (upd H' S (.lst ys)) { s6.setGen g .finished with heap := h' } := I1.drained (ex := []) (acc := acc) (c := c) (Nat.le_trans szc (Nat.le_of_eq hS)) l6 (hk _ _ e6) v6 .nil o6 (allBare_setGen b6 rfl) un7 (hok6.kept hk) nS
      exact hRR S L _ m6 _ J (q6 S nS) (ns6.keeps hk) (I1.fpOk (Nat.le_trans szc (by omega)) (by rw [upd_ne (Nat.ne_of_gt SL)]; exact nL'))
  exact codeAny_compStart_list loop (wpAny_pyIter_gen (isg.keeps kp4) loop)
/-- name = [x for x in g(..)], the name a local -/
theorem ps_setLcG {i k : Nat} {z y : Str} {pz py pe : Pos} {iter : Expr} {scope : Scope} {own : List (Str × Nat)} {pos spos : Pos} {tgen : TGen} (hc : X.calm = true) (hN : X.N.Nodup) (hz : X.N[i]? = some z) (hzl : X.env.scope.names.lookup z = some .local)
    (hsw : swapsWith (.ListComp (.Name y pe) [⟨.Name y py, iter, [], 0⟩] scope pos) (some (.Name z pz)) spos.line X.env = pure true) (hi : PJ X k iter tgen E0) (hr : Room (k + 1) X.A) (ok : BlkOk X.N X.env.scope scope own) (hy : scope.names.lookup y = some .local)
    (hs : ∀ x, foldedSetIterable iter X.env x = pure x := by intro _; rfl) (hdb : (y == ("__debug__" : Str)) = false := by decide) :
    PS X (.Assign [.Name z pz] (.ListComp (.Name y pe) [⟨.Name y py, iter, [], 0⟩] scope pos) spos) (tAsg (tListG tgen) (gName i)) := by
  refine ⟨fun pins s σ H D I h => ?_⟩
  rw [exec_Assign_Name_used _ _ _ _ hsw]
  refine wpAny_bind (wpAny_standAt (wpAny_bind ?_))
  show wpAny _ X.A (do let _ ← comprehension (.ListComp (.Name y pe) [⟨.Name y py, iter, [], 0⟩] scope pos) scope X.env (firstIterPos [⟨.Name y py, iter, [], 0⟩] pos) (newList []) false (eval iter X.env) (some (assign (.Name z pz) X.env))) _ _ s
  have hh : tListG tgen σ H (fun x H1 => gName i x σ H1 D.nx) := h
  refine wpAny_bind (thn (lcG_core (Qf := fun _ s' => SP X pins D .next s') hc I hi hr ok hy hs hdb hh fun B C s' m H' I' q hn f => ?_) fun _ s' hq => wpAny_pure (wpAny_pure hq))
  show wpAny _ _ (assign (.Name z pz) X.env (.ref B)) _ _ _
  obtain ⟨f0, f1, f2, f3, f4, f5⟩ := f
  refine wpAny_assign_Name (store_ok2 (v := V.ref B) I' hN hz (.inl hzl) rfl (fun s2 I2 ⟨b, sb, hb⟩ => ?_) (.inr hzl))
  have ne : C ≠ b := hb.elim (fun w => by rw [w]; exact f1) fun w e => f4 z b w e.symm
  exact ⟨m, hn.sameBut sb ne, fun h3 sb3 => ⟨_, H', I2.turned (t' := s2.toks) (fun b o hb e => (sb3.2 b hb).trans e) f0 f1 f3 f4 f5, q⟩⟩
end
end ZJ

/-! ZJ4: generators that a comprehension walks, by what they compute -/
namespace Z
open PySem PySem.Spec PyProof.Rows L2 ZJ
variable [Tbs]
abbrev ZJ1 (X : Cx) (W : Wi) (st : Stmt) (f : DG) : Prop := SJ X st (liftG X.K W f)
abbrev ZJs (X : Cx) (W : Wi) (sts : List Stmt) (f : DG) : Prop := SJs X sts (liftG X.K W f)
section
variable {X : Cx} {st : Stmt} {sts : List Stmt} {t u : TGn}
theorem sj_imp (a : SJ X st t) (h : ∀ D ys σ H, u D ys σ H → t D ys σ H) : SJ X st u := ⟨fun A S L ip R n ys s₀ c fs K J gd lv s σ H D g hn k I q => a.run A S L ip R n ys s₀ c fs K J gd lv s σ H D g hn k I (h _ _ _ _ q)⟩
theorem sjs_imp (a : SJs X sts t) (h : ∀ D ys σ H, u D ys σ H → t D ys σ H) : SJs X sts u := ⟨fun A S L ip R n ys s₀ c fs K J gd lv s σ H D g hn k I q => a.run A S L ip R n ys s₀ c fs K J gd lv s σ H D g hn k I (h _ _ _ _ q)⟩
end
section
variable {X : Cx} {W : Wi} {st : Stmt} {rest sts : List Stmt} {f g : DG} {fs : DS} {fe : DE} {ex : Expr} {pos yp : Pos}
theorem zj_plain (h : ZS X W st fs) : ZJ1 X W st (gPlain fs) := sj_imp (sj_ps h) fun _ _ _ _ q => plain_conv q
theorem zj_nil : ZJs X W [] gNil := sjs_imp sjs_nil fun D ys σ H h => by
  obtain ⟨bs0, F0, H0, bs, M, F, e, zs, rfl, a, run⟩ := h
  exact run _ _ _ _ a
theorem zj_cons (h1 : ZJ1 X W st f) (h2 : ZJs X W rest g) : ZJs X W (st :: rest) (gSeq f g) := sjs_imp (sjs_cons h1 h2) fun D ys σ H h => by
  obtain ⟨bs0, F0, H0, bs, M, F, e, zs, rfl, a, run⟩ := h
  refine ⟨bs0, F0, H0, bs, M, F, e, zs, rfl, a, ?_⟩
  unfold gSeq bnd at run
  cases e1 : f e zs M with
  | none =>
    rw [e1] at run
    exact run
  | some p =>
    obtain ⟨r, M1⟩ := p
    rw [e1] at run
    cases r with
    | err c => exact run
    | ok o =>
      cases o with
      | nx e' zs' => exact fun bs1 F1 H1 σ1 a1 => ⟨bs0, F0, H0, bs1, M1, F1, e', zs', rfl, a1, run⟩
      | rt zs' => exact run
      | bk e' zs' => exact run
      | ct e' zs' => exact run
theorem zj_yield (he : ZE X W ex fe) (hco : X.env.scope.isCoroutine = false := by rfl) (hi : interactive X.env = false := by rfl) : ZJ1 X W (.Expr (.Yield (some ex) yp) pos) (gYield fe) := sj_imp (sj_yield he hco hi) fun D ys σ H h => by
  obtain ⟨bs0, F0, H0, bs, M, F, e, zs, rfl, a, run⟩ := h
  unfold gYield at run
  by_cases hl : zs.length < 1000
  · rw [if_pos hl] at run
    refine ⟨?_, bs, M, F, e, a.at, (run.bind a).imp fun d bs1 M1 F1 H1 t1 w1 q v r => ?_⟩
    · show (zs.map V.int).length < sizeLine
      rw [List.length_map, sizeLine_eq]
      omega
    · obtain ⟨a1, run1⟩ := q
      cases d with
      | int i =>
        cases r
        have := run1 _ _ _ _ a1
        unfold gV at this
        rw [List.map_append] at this
        exact this
      | _ => exact run1.elim
  · rw [if_neg hl] at run
    exact run.elim
theorem zj_for {tg iter : Expr} {body : List Stmt} {fi : DA} {t : Tg} {fb : DG} (hp : PassesOwn (model X.prog X.w) X.A X.env X.xe) (hc : X.calm = true) (hi : ZI X W tg iter fi) (hg : ZG X tg t) (hb : ZJs X W body fb)
    (hs : ∀ x, foldedSetIterable iter X.env x = pure x := by intro _; rfl) : ZJ1 X W (.For tg iter body [] pos) (gFor fi t fb) := sj_imp (sj_for hp hc hi hg hb hs) fun Dn ys σ H h => by
  obtain ⟨bs0, F0, H0, bs, M, F, e, zs, rfl, a, run⟩ := h
  refine ⟨bs, M, F, e, a.at, (run.bind a).imp fun items bs1 M1 F1 H1 t1 w1 q J it => ?_⟩
  obtain ⟨a1, run1⟩ := q
  have run2 := run1.rebase a1.1
  refine ⟨fun i m ys σ H => m = items.length - i ∧ i ≤ items.length ∧ ∃ bs M F e zs, ys = gV zs ∧ AtS X.K bs1 F1 H0 bs M F H σ e ∧ RunG X.K W bs1 F1 H0 (gLoop t fb (items.drop i) e zs M) Dn, ⟨_, rfl, Nat.zero_le _, bs1, M1, F1, e, zs, rfl, a1.rebase, run2⟩, ?_⟩
  rintro i m ys2 σ2 H2 ⟨rfl, hi2, bs2, M2, F2, e2, zs2, rfl, a2, r2⟩
  obtain ⟨more, eb, _⟩ := a2.1.pre
  by_cases hlt : i < items.length
  · have ed : items.drop i = items[i] :: items.drop (i + 1) := List.drop_eq_getElem_cons hlt
    rw [ed] at r2
    refine .inr ⟨it.go F2 H2 a2.1.fm a2.2.1.sub i hlt, fun ys' σ' H' => ∃ bs M F e zs, ys' = gV zs ∧ AtS X.K bs1 F1 H0 bs M F H' σ' e ∧ RunG X.K W bs1 F1 H0 (gLoop t fb (items.drop (i + 1)) e zs M) Dn, fun ys' σ' H' n => ⟨_, by omega, rfl, hlt, n⟩, fun x H3 y => ?_⟩
    obtain ⟨F3, t3, w3, r3⟩ := it.yld more F2 H2 M2 a2.1.fm (eb ▸ a2.2.1) i x H3 items[i] (List.getElem?_eq_getElem hlt) y
    rw [← eb] at t3 w3 r3
    have a3 := a2.tr t3 w3
    unfold gLoop at r2
    cases e1 : asg t items[i] e2 with
    | none =>
      rw [e1] at r2
      exact r2.elim
    | some e4 =>
      rw [e1] at r2
      refine asg_step a3 r3 e1 fun σ4 a4 _ => ⟨bs1, F1, H0, bs2, M2, F3, e4, zs2, rfl, a4, ?_⟩
      unfold bnd lft at r2
      simp only at r2
      cases e5 : fb e4 zs2 M2 with
      | none =>
        rw [e5] at r2
        exact r2
      | some p =>
        obtain ⟨r, M5⟩ := p
        rw [e5] at r2
        cases r with
        | err c => exact r2
        | ok o =>
          cases o with
          | bk e6 zs6 => exact fun bs F H σ a => r2 bs F H σ a
          | nx e6 zs6 => exact fun bs F H σ a => ⟨bs, M5, F, e6, zs6, rfl, a, r2⟩
          | ct e6 zs6 => exact fun bs F H σ a => ⟨bs, M5, F, e6, zs6, rfl, a, r2⟩
          | rt zs6 => exact r2
  · have e0 : i = items.length := by omega
    refine .inl ⟨by rw [e0]; exact it.stop F2 H2 a2.1.fm a2.2.1.sub, ?_⟩
    rw [e0, List.drop_length] at r2
    exact r2 _ _ _ _ a2
end
section
variable {P : Program} {w : World} {K : PySem.W.Frag} {mg : Str → Option Value} {base : Heap}
/-- a generator def, walked by a comprehension -/
theorem genZJ {x qual : Str} {st : Stmt} {f : Addr} {fd : FuncData} {N ps : List Str} {k : Nat} {fb : DG} (G : Fun K x qual st f fd) (S : GScope N ps (defScope st))
    (h : ∀ (cdv : Value) (A : Around) (outer : List Env) (s : Shared) (H : Hp) (E : XK) (pn : List (Addr × Obj)), Room k (A.deeper (envOfC qual (defScope st) s.heap.objs.size f cdv)) → ZJs (gcxOf P w K mg base N qual (defScope st) f cdv A outer s H E pn) W0 (defBody st) fb) :
    FnJ P w K mg base (k + 1) f fd ps (spG K ps.length (mkGF N.length fb)) := by
  obtain ⟨oc, od, kV, doc, pm, an, cdv, ct, osl, rfl, lk, hcd⟩ := G.ex
  refine fnJ_of lk hcd S (fun vs H Q E q => ?_) fun A outer s H vs Q E pn hr q => ⟨_, h cdv A outer s H E pn hr, gen_lift q⟩
  obtain ⟨bs, M, F, ds, wd, r, hn, run⟩ := q
  rw [r.length]
  exact hn
end
/-- name = [x for x in f(..)] -/
theorem zs_setLcG {X : Cx} {W : Wi} {k n i : Nat} {f : Addr} {fd : FuncData} {ps : List Str} {gf : DF'} {x z y : Str} {pz py pe p p1 pos spos : Pos} {scope : Scope} {own : List (Str × Nat)} {e : Expr} {es : List Expr} {g : DA}
    (G : FnJ X.prog X.w X.K X.mg X.base k f fd ps (spG X.K n gf)) (hr : Room (k + 1) X.A) (hg : Gl X x) (hm : X.mg x = some (.ref f)) (hk : PySem.W.keepIn X.K (.ref f) = true) (hb : Binds X.K fd ps []) (ha : ZA X W (e :: es) g) (hn : LenA g n)
    (hc : X.calm = true) (hN : X.N.Nodup) (hz : X.N[i]? = some z) (hzl : X.env.scope.names.lookup z = some .local) (hsw : swapsWith (.ListComp (.Name y pe) [⟨.Name y py, .Call (.Name x p) (e :: es) [] p1, [], 0⟩] scope pos) (some (.Name z pz)) spos.line X.env = pure true)
    (ok : BlkOk X.N X.env.scope scope own) (hy : scope.names.lookup y = some .local) (hd1 : (x == ("__debug__" : Str)) = false := by decide) (hd2 : (y == ("__debug__" : Str)) = false := by decide)
    (he : starEach (e :: es) X.env = (false, eval e X.env) :: starEach es X.env := by rfl) (hpl : (backTo p1 (starEach es X.env)).any (·.1) = false := by rfl) (hs : ∀ v, foldedSetIterable (.Call (.Name x p) (e :: es) [] p1) X.env v = pure v := by intro _; rfl) :
    ZS X W (.Assign [.Name z pz] (.ListComp (.Name y pe) [⟨.Name y py, .Call (.Name x p) (e :: es) [] p1, [], 0⟩] scope pos) spos) (dSet i (dListG gf g)) :=
  ⟨fun pins s σ H Dn I h => (ps_setLcG hc hN hz hzl hsw (pj_call G (hr.mono (Nat.le_add_right _ _)) hg hm hk hb .nil ha hd1 he hpl) hr ok hy hs hd2).run pins s σ H Dn I (by
    obtain ⟨bs0, F0, H0, bs, M, F, ev, a, run⟩ := h
    have rb := run.bind a
    unfold dListG at rb
    have rc := Run.bind rb
    refine ⟨bs, M, F, ev, a.at, ?_⟩
    match e1 : g ev M, rc with
    | some (.err c, M1), rc => exact rc
    | some (.ok ds, M1), rc =>
      intro bs1 F1 H1 t1 w1 vs r1
      rw [List.append_nil]
      refine ⟨bs1, M1, F1, ds, w1, r1, hn _ _ _ _ e1, ?_⟩
      have rd : Run X.K W bs1 F1 H1 σ (outG (gf ds M1)) _ := rc bs1 F1 H1 t1 w1
      cases e2 : gf ds M1 with
      | none =>
        rw [e2] at rd
        exact rd.elim
      | some pr =>
        obtain ⟨zs, M2⟩ := pr
        rw [e2] at rd
        intro bs2 F2 H2 t2 w2 q hq
        obtain ⟨w3, t3⟩ := w2.laid (.lst (gV zs)) hq
        obtain ⟨q1, q2⟩ := rd _ _ _ (t2.trans t3) w3
        exact q2 _ _ _ _ (q1.setv (.lst upd_same (Reps.of_ints zs))))⟩
end Z

/-! the text: made by zgen.py from the linked law claimshares_k03_years_and_costs -/
namespace W
open PySem PySem.Spec PyProof.Rows L2 Z
def topS (i : Nat) : Stmt := PySem.Challenge.pw_claimshares_k03_years_and_costs.main.body.getD i (.Pass ⟨0, 0, 0, 0⟩)
abbrev s__law_well : Stmt := topS 29
abbrev N__law_well : List PySem.Str := ["cell", "turn"]
theorem sc__law_well : FnScope N__law_well ["cell", "turn"] (defScope s__law_well) := ⟨rfl, rfl, rfl, by decide +kernel, rfl, by decide +kernel, by decide +kernel⟩
def body__law_well : DS := (dSeq (dIfS (dTest (dOp geD (dVar 0) (dOp powD (dC (.int 10)) (dC (.int 18))))) (dRet (dObj (dCons (dOp subD (dVar 0) (dOp powD (dC (.int 10)) (dC (.int 18)))) (dCons (dOp modD (dVar 0) (dC (.int 2305843009213693951))) (dCons (dVar 1) dNil))))) dNil') (dRet (dObj (dCons (dC (.int 0)) (dCons (dOp modD (dVar 0) (dC (.int 2305843009213693951))) (dCons (dVar 1) dNil))))))
def df__law_well : DF := mkDF 2 body__law_well
abbrev s__law_bags : Stmt := topS 31
abbrev N__law_bags : List PySem.Str := ["script", "most", "k", "cell"]
theorem sc__law_bags : FnScope N__law_bags ["script", "most"] (defScope s__law_bags) := ⟨rfl, rfl, rfl, by decide +kernel, rfl, by decide +kernel, by decide +kernel⟩
def body__law_bags : DS := (dRet (dLc (dEnm (dCons (dOp addD (dSl slD (dVar 0) dNoPart (dPart (dVar 1))) (dLst (dCons (dC (.int 0)) dNil))) dNil)) (.tp [2, 3]) dYes (dCall df__law_well (dCons (dVar 3) (dCons (dOp mulD (dC (.int 977)) (dVar 2)) dNil))) [2, 3]))
def df__law_bags : DF := mkDF 4 body__law_bags
abbrev s_in_range : Stmt := topS 12
abbrev N_in_range : List PySem.Str := ["value", "low", "high"]
theorem sc_in_range : FnScope N_in_range ["value", "low", "high"] (defScope s_in_range) := ⟨rfl, rfl, rfl, by decide +kernel, rfl, by decide +kernel, by decide +kernel⟩
def body_in_range : DS := (dRet (dAnd (dIs .int (dVar 0)) (dAnd (dNot (dIs .bool (dVar 0))) (dChain leD leD (dVar 1) (dVar 0) (dVar 2)))))
def df_in_range : DF := mkDF 3 body_in_range
abbrev s_is_policy : Stmt := topS 13
abbrev N_is_policy : List PySem.Str := ["value"]
theorem sc_is_policy : FnScope N_is_policy ["value"] (defScope s_is_policy) := ⟨rfl, rfl, rfl, by decide +kernel, rfl, by decide +kernel, by decide +kernel⟩
def body_is_policy : DS := (dSeq (dIfS (dOrT (dNotT (dTest (dIs .tuple (dVar 0)))) (dTest (dOp neD (dB len1 (dCons (dVar 0) dNil)) (dC (.int 3))))) (dRet (dC (.bl false))) dNil') (dSeq (dIfS (dOrT (dNotT (dTest (dCall df_in_range (dCons (dOp ixD (dVar 0) (dC (.int 0))) (dCons (dC (.int 0)) (dCons (dC (.int 10000)) dNil)))))) (dNotT (dTest (dCall df_in_range (dCons (dOp ixD (dVar 0) (dC (.int 1))) (dCons (dC (.int 0)) (dCons (dC (.int 1000)) dNil))))))) (dRet (dC (.bl false))) dNil') (dRet (dOr (dOp isD (dOp ixD (dVar 0) (dC (.int 2))) (dC .non)) (dCall df_in_range (dCons (dOp ixD (dVar 0) (dC (.int 2))) (dCons (dC (.int 0)) (dCons (dC (.int 10000)) dNil))))))))
def df_is_policy : DF := mkDF 1 body_is_policy
abbrev s_check_policy : Stmt := topS 15
abbrev N_check_policy : List PySem.Str := ["value"]
theorem sc_check_policy : FnScope N_check_policy ["value"] (defScope s_check_policy) := ⟨rfl, rfl, rfl, by decide +kernel, rfl, by decide +kernel, by decide +kernel⟩
def body_check_policy : DS := (dIfS (dNotT (dTest (dCall df_is_policy (dCons (dVar 0) dNil)))) dNever dNil')
def df_check_policy : DF := mkDF 1 body_check_policy
abbrev s_check_damage : Stmt := topS 18
abbrev N_check_damage : List PySem.Str := ["value"]
theorem sc_check_damage : FnScope N_check_damage ["value"] (defScope s_check_damage) := ⟨rfl, rfl, rfl, by decide +kernel, rfl, by decide +kernel, by decide +kernel⟩
def body_check_damage : DS := (dIfS (dNotT (dTest (dCall df_in_range (dCons (dVar 0) (dCons (dC (.int 1)) (dCons (dC (.int 1000000)) dNil)))))) dNever dNil')
def df_check_damage : DF := mkDF 1 body_check_damage
abbrev s_check_number : Stmt := topS 17
abbrev N_check_number : List PySem.Str := ["value", "low", "high"]
theorem sc_check_number : FnScope N_check_number ["value", "low", "high"] (defScope s_check_number) := ⟨rfl, rfl, rfl, by decide +kernel, rfl, by decide +kernel, by decide +kernel⟩
def body_check_number : DS := (dIfS (dNotT (dTest (dCall df_in_range (dCons (dVar 0) (dCons (dVar 1) (dCons (dVar 2) dNil)))))) dNever dNil')
def df_check_number : DF := mkDF 3 body_check_number
abbrev s_capped : Stmt := topS 19
abbrev N_capped : List PySem.Str := ["policy", "shares"]
theorem sc_capped : FnScope N_capped ["policy", "shares"] (defScope s_capped) := ⟨rfl, rfl, rfl, by decide +kernel, rfl, by decide +kernel, by decide +kernel⟩
def body_capped : DS := (dRet (dIf (dTest (dOp isD (dOp ixD (dVar 0) (dC (.int 2))) (dC .non))) (dVar 1) (dB min2 (dCons (dOp ixD (dVar 0) (dC (.int 2))) (dCons (dVar 1) dNil)))))
def df_capped : DF := mkDF 2 body_capped
abbrev s_far_cost : Stmt := topS 27
abbrev N_far_cost : List PySem.Str := ["policy", "rows", "good", "row", "damage", "number"]
theorem sc_far_cost : FnScope N_far_cost ["policy", "rows"] (defScope s_far_cost) := ⟨rfl, rfl, rfl, by decide +kernel, rfl, by decide +kernel, by decide +kernel⟩
def lb_far_cost_1 : DS := (dSeq (dDrop (dCall df_check_damage (dCons (dVar 4) dNil))) (dDrop (dCall df_check_number (dCons (dVar 5) (dCons (dC (.int 0)) (dCons (dOp powD (dC (.int 10)) (dC (.int 12))) dNil))))))
def body_far_cost : DS := (dSeq (dDrop (dCall df_check_policy (dCons (dVar 0) dNil))) (dSeq (dSet 2 (dAnd (dIs .tuple (dVar 1)) (dOp leD (dB len1 (dCons (dVar 1) dNil)) (dC (.int 40))))) (dSeq (dIfS (dOrT (dNotT (dTest (dVar 2))) (dNotT (dTest (dB all1 (dCons (dLc (dItems (dVar 1)) (.nm 3) dYes (dAnd (dIs .tuple (dVar 3)) (dOp eqD (dB len1 (dCons (dVar 3) dNil)) (dC (.int 2)))) [3]) dNil))))) dNever dNil') (dSeq (dFor (dItems (dVar 1)) (.tp [4, 5]) lb_far_cost_1) (dRet (dOp addD (dOp ixD (dVar 0) (dC (.int 0))) (dCall df_capped (dCons (dVar 0) (dCons (dB sum1 (dCons (dLc (dItems (dVar 1)) (.tp [4, 5]) dYes (dOp mulD (dVar 5) (dB min2 (dCons (dVar 4) (dCons (dOp ixD (dVar 0) (dC (.int 1))) dNil)))) [4, 5]) dNil)) dNil)))))))))
def df_far_cost : DF := mkDF 6 body_far_cost
abbrev s__law_take : Stmt := topS 30
abbrev N__law_take : List PySem.Str := ["bag", "many", "found", "p", "n"]
theorem sc__law_take : FnScope N__law_take ["bag", "many"] (defScope s__law_take) := ⟨rfl, rfl, rfl, by decide +kernel, rfl, by decide +kernel, by decide +kernel⟩
def body__law_take : DS := (dSeq (dIfS (dTest (dOp gtD (dOp ixD (dVar 0) (dC (.int 0))) (dC (.int 0)))) (dSeq (dSet 2 (dOp modD (dOp ixD (dVar 0) (dC (.int 0))) (dVar 1))) (dSeq (dPut (dVar 0) (dC (.int 0)) (dOp divD (dOp ixD (dVar 0) (dC (.int 0))) (dVar 1))) (dRet (dVar 2)))) dNil') (dSeq (dPut (dVar 0) (dC (.int 2)) (dOp addD (dOp ixD (dVar 0) (dC (.int 2))) (dC (.int 1)))) (dSeq (dSet 3 (dC (.int 2305843009213693951))) (dSeq (dSet 4 (dOp modD (dOp addD (dOp ixD (dVar 0) (dC (.int 1))) (dOp mulD (dC (.int 1000003)) (dOp ixD (dVar 0) (dC (.int 2))))) (dVar 3))) (dSeq (dSet 4 (dOp modD (dOp addD (dOp addD (dOp mulD (dVar 4) (dVar 4)) (dOp mulD (dC (.int 7919)) (dOp powD (dOp ixD (dVar 0) (dC (.int 2))) (dC (.int 2))))) (dC (.int 5))) (dVar 3))) (dRet (dOp modD (dOp divD (dOp modD (dOp powD (dVar 4) (dC (.int 3))) (dVar 3)) (dC (.int 13))) (dVar 1))))))))
def df__law_take : DF := mkDF 5 body__law_take
abbrev s__law_policy : Stmt := topS 34
abbrev N__law_policy : List PySem.Str := ["bag", "way", "premium", "excess", "cap"]
theorem sc__law_policy : FnScope N__law_policy ["bag"] (defScope s__law_policy) := ⟨rfl, rfl, rfl, by decide +kernel, rfl, by decide +kernel, by decide +kernel⟩
def body__law_policy : DS := (dSeq (dSet 1 (dCall df__law_take (dCons (dVar 0) (dCons (dC (.int 4)) dNil)))) (dSeq (dPar 2 3 (dCons (dCall df__law_take (dCons (dVar 0) (dCons (dOp ixD (dLst (dCons (dC (.int 12)) (dCons (dC (.int 10001)) dNil))) (dOp divD (dVar 1) (dC (.int 3)))) dNil))) (dCons (dCall df__law_take (dCons (dVar 0) (dCons (dOp ixD (dLst (dCons (dC (.int 5)) (dCons (dC (.int 12)) (dCons (dC (.int 60)) (dCons (dC (.int 1001)) dNil))))) (dVar 1)) dNil))) dNil))) (dSeq (dSet 4 (dLst (dCons (dC .non) (dCons (dOp addD (dOp mulD (dVar 3) (dCall df__law_take (dCons (dVar 0) (dCons (dC (.int 6)) dNil)))) (dCall df__law_take (dCons (dVar 0) (dCons (dC (.int 4)) dNil)))) (dCons (dCall df__law_take (dCons (dVar 0) (dCons (dC (.int 40)) dNil))) (dCons (dCall df__law_take (dCons (dVar 0) (dCons (dC (.int 10001)) dNil))) dNil)))))) (dRet (dTup (dCons (dVar 2) (dCons (dVar 3) (dCons (dOp ixD (dVar 4) (dCall df__law_take (dCons (dVar 0) (dCons (dC (.int 4)) dNil)))) dNil))))))))
def df__law_policy : DF := mkDF 5 body__law_policy
abbrev s__law_shares : Stmt := topS 37
abbrev N__law_shares : List PySem.Str := ["excess", "damages", "found", "damage"]
theorem sc__law_shares : FnScope N__law_shares ["excess", "damages"] (defScope s__law_shares) := ⟨rfl, rfl, rfl, by decide +kernel, rfl, by decide +kernel, by decide +kernel⟩
def lb__law_shares_1 : DS := (dSet 2 (dOp addD (dVar 2) (dIf (dTest (dOp ltD (dVar 3) (dVar 0))) (dVar 3) (dVar 0))))
def body__law_shares : DS := (dSeq (dSet 2 (dC (.int 0))) (dSeq (dFor (dItems (dVar 1)) (.nm 3) lb__law_shares_1) (dRet (dVar 2))))
def df__law_shares : DF := mkDF 4 body__law_shares
abbrev s__law_capped : Stmt := topS 36
abbrev N__law_capped : List PySem.Str := ["policy", "shares"]
theorem sc__law_capped : FnScope N__law_capped ["policy", "shares"] (defScope s__law_capped) := ⟨rfl, rfl, rfl, by decide +kernel, rfl, by decide +kernel, by decide +kernel⟩
def body__law_capped : DS := (dRet (dIf (dOrT (dTest (dOp isD (dOp ixD (dVar 0) (dC (.int 2))) (dC .non))) (dTest (dOp ltD (dVar 1) (dOp ixD (dVar 0) (dC (.int 2)))))) (dVar 1) (dOp ixD (dVar 0) (dC (.int 2)))))
def df__law_capped : DF := mkDF 2 body__law_capped
abbrev s_is_year : Stmt := topS 14
abbrev N_is_year : List PySem.Str := ["value", "damage"]
theorem sc_is_year : FnScope N_is_year ["value"] (defScope s_is_year) := ⟨rfl, rfl, rfl, by decide +kernel, rfl, by decide +kernel, by decide +kernel⟩
def body_is_year : DS := (dSeq (dIfS (dOrT (dNotT (dTest (dIs .tuple (dVar 0)))) (dTest (dOp gtD (dB len1 (dCons (dVar 0) dNil)) (dC (.int 40))))) (dRet (dC (.bl false))) dNil') (dRet (dB all1 (dCons (dLc (dItems (dVar 0)) (.nm 1) dYes (dCall df_in_range (dCons (dVar 1) (dCons (dC (.int 1)) (dCons (dC (.int 1000000)) dNil)))) [1]) dNil))))
def df_is_year : DF := mkDF 2 body_is_year
abbrev s_check_year : Stmt := topS 16
abbrev N_check_year : List PySem.Str := ["value"]
theorem sc_check_year : FnScope N_check_year ["value"] (defScope s_check_year) := ⟨rfl, rfl, rfl, by decide +kernel, rfl, by decide +kernel, by decide +kernel⟩
def body_check_year : DS := (dIfS (dNotT (dTest (dCall df_is_year (dCons (dVar 0) dNil)))) dNever dNil')
def df_check_year : DF := mkDF 1 body_check_year
abbrev s_shares_of : Stmt := topS 20
abbrev N_shares_of : List PySem.Str := ["excess", "year", "damage"]
theorem sc_shares_of : FnScope N_shares_of ["excess", "year"] (defScope s_shares_of) := ⟨rfl, rfl, rfl, by decide +kernel, rfl, by decide +kernel, by decide +kernel⟩
def body_shares_of : DS := (dRet (dB sum1 (dCons (dLc (dItems (dVar 1)) (.nm 2) dYes (dB min2 (dCons (dVar 2) (dCons (dVar 0) dNil))) [2]) dNil)))
def df_shares_of : DF := mkDF 3 body_shares_of
abbrev s_own : Stmt := topS 22
abbrev N_own : List PySem.Str := ["policy", "year"]
theorem sc_own : FnScope N_own ["policy", "year"] (defScope s_own) := ⟨rfl, rfl, rfl, by decide +kernel, rfl, by decide +kernel, by decide +kernel⟩
def body_own : DS := (dSeq (dDrop (dCall df_check_policy (dCons (dVar 0) dNil))) (dSeq (dDrop (dCall df_check_year (dCons (dVar 1) dNil))) (dRet (dCall df_capped (dCons (dVar 0) (dCons (dCall df_shares_of (dCons (dOp ixD (dVar 0) (dC (.int 1))) (dCons (dVar 1) dNil))) dNil))))))
def df_own : DF := mkDF 2 body_own
abbrev s__law_year : Stmt := topS 35
abbrev N__law_year : List PySem.Str := ["bag", "most", "policy", "found", "turn", "near", "some"]
theorem sc__law_year : FnScope N__law_year ["bag", "most", "policy"] (defScope s__law_year) := ⟨rfl, rfl, rfl, by decide +kernel, rfl, by decide +kernel, by decide +kernel⟩
def lb__law_year_1 : DS := (dSeq (dSet 5 (dB max2 (dCons (dC (.int 1)) (dCons (dOp subD (dOp addD (dOp ixD (dVar 2) (dC (.int 1))) (dCall df__law_take (dCons (dVar 0) (dCons (dC (.int 3)) dNil)))) (dC (.int 1))) dNil)))) (dSeq (dSet 6 (dLst (dCons (dOp addD (dC (.int 1)) (dCall df__law_take (dCons (dVar 0) (dCons (dC (.int 5)) dNil)))) (dCons (dVar 5) (dCons (dOp addD (dC (.int 1)) (dCall df__law_take (dCons (dVar 0) (dCons (dOp addD (dOp mulD (dC (.int 2)) (dOp ixD (dVar 2) (dC (.int 1)))) (dC (.int 3))) dNil)))) (dCons (dOp addD (dC (.int 1)) (dCall df__law_take (dCons (dVar 0) (dCons (dOp powD (dC (.int 10)) (dC (.int 6))) dNil)))) dNil)))))) (dSet 3 (dOp addD (dVar 3) (dTup (dCons (dOp ixD (dVar 6) (dCall df__law_take (dCons (dVar 0) (dCons (dC (.int 4)) dNil)))) dNil))))))
def body__law_year : DS := (dSeq (dSet 3 (dTup dNil)) (dSeq (dFor (dRng1 (dCons (dCall df__law_take (dCons (dVar 0) (dCons (dOp addD (dVar 1) (dC (.int 1))) dNil))) dNil)) (.nm 4) lb__law_year_1) (dRet (dVar 3))))
def df__law_year : DF := mkDF 7 body__law_year
abbrev s__law_same : Stmt := topS 32
abbrev N__law_same : List PySem.Str := ["a", "b", "x", "y"]
theorem sc__law_same : FnScope N__law_same ["a", "b"] (defScope s__law_same) := ⟨rfl, rfl, rfl, by decide +kernel, rfl, by decide +kernel, by decide +kernel⟩
def body__law_same (r__law_same : DF) : DS := (dSeq (dIfS (dOrT (dAndT (dTest (dIs .list (dVar 0))) (dTest (dIs .list (dVar 1)))) (dAndT (dTest (dIs .tuple (dVar 0))) (dTest (dIs .tuple (dVar 1))))) (dRet (dAnd (dOp eqD (dB len1 (dCons (dVar 0) dNil)) (dB len1 (dCons (dVar 1) dNil))) (dB all1 (dCons (dLc (dZip (dCons (dVar 0) (dCons (dVar 1) dNil))) (.tp [2, 3]) dYes (dCall r__law_same (dCons (dVar 2) (dCons (dVar 3) dNil))) [2, 3]) dNil)))) dNil') (dSeq (dIfS (dOrT (dTest (dIsT [.bool, .list, .tuple] (dVar 0))) (dTest (dIsT [.bool, .list, .tuple] (dVar 1)))) (dRet (dAnd (dIs .bool (dVar 0)) (dAnd (dIs .bool (dVar 1)) (dOp eqD (dVar 0) (dVar 1))))) dNil') (dSeq (dIfS (dOrT (dTest (dIs .int (dVar 0))) (dTest (dIs .int (dVar 1)))) (dRet (dAnd (dIs .int (dVar 0)) (dAnd (dIs .int (dVar 1)) (dOp eqD (dVar 0) (dVar 1))))) dNil') (dSeq (dIfS (dOrT (dTest (dIs .str (dVar 0))) (dTest (dIs .str (dVar 1)))) (dRet (dAnd (dIs .str (dVar 0)) (dAnd (dIs .str (dVar 1)) (dOp eqD (dVar 0) (dVar 1))))) dNil') (dRet (dAnd (dOp isD (dVar 0) (dC .non)) (dOp isD (dVar 1) (dC .non))))))))
def rec__law_same : Nat → DF
  | 0 => fun _ => stuck
  | n + 1 => mkDF 4 (body__law_same (rec__law_same n))
abbrev df__law_same : DF := rec__law_same 8
abbrev s__law_cost : Stmt := topS 38
abbrev N__law_cost : List PySem.Str := ["policy", "damages"]
theorem sc__law_cost : FnScope N__law_cost ["policy", "damages"] (defScope s__law_cost) := ⟨rfl, rfl, rfl, by decide +kernel, rfl, by decide +kernel, by decide +kernel⟩
def body__law_cost : DS := (dRet (dOp addD (dOp ixD (dVar 0) (dC (.int 0))) (dCall df__law_capped (dCons (dVar 0) (dCons (dCall df__law_shares (dCons (dOp ixD (dVar 0) (dC (.int 1))) (dCons (dVar 1) dNil))) dNil)))))
def df__law_cost : DF := mkDF 2 body__law_cost
abbrev s_as_one : Stmt := topS 26
abbrev N_as_one : List PySem.Str := ["policy", "year"]
theorem sc_as_one : FnScope N_as_one ["policy", "year"] (defScope s_as_one) := ⟨rfl, rfl, rfl, by decide +kernel, rfl, by decide +kernel, by decide +kernel⟩
def body_as_one : DS := (dSeq (dDrop (dCall df_check_policy (dCons (dVar 0) dNil))) (dSeq (dDrop (dCall df_check_year (dCons (dVar 1) dNil))) (dRet (dOp addD (dOp ixD (dVar 0) (dC (.int 0))) (dCall df_capped (dCons (dVar 0) (dCons (dB min2 (dCons (dB sumT1 (dCons (dVar 1) dNil)) (dCons (dOp ixD (dVar 0) (dC (.int 1))) dNil))) dNil)))))))
def df_as_one : DF := mkDF 2 body_as_one
abbrev s_walk : Stmt := topS 25
abbrev N_walk : List PySem.Str := ["policy", "year", "shares", "damage", "before"]
theorem sc_walk : GScope N_walk ["policy", "year"] (defScope s_walk) := ⟨rfl, rfl, rfl, by decide +kernel, rfl, by decide +kernel, by decide +kernel⟩
def body_walk : DG := (gSeq (gPlain (dDrop (dCall df_check_policy (dCons (dVar 0) dNil)))) (gSeq (gPlain (dDrop (dCall df_check_year (dCons (dVar 1) dNil)))) (gSeq (gPlain (dSet 2 (dC (.int 0)))) (gSeq (gFor (dItems (dVar 1)) (.nm 3) (gSeq (gPlain (dSet 4 (dCall df_capped (dCons (dVar 0) (dCons (dVar 2) dNil))))) (gSeq (gPlain (dSet 2 (dOp addD (dVar 2) (dB min2 (dCons (dVar 3) (dCons (dOp ixD (dVar 0) (dC (.int 1))) dNil)))))) (gSeq (gYield (dOp subD (dCall df_capped (dCons (dVar 0) (dCons (dVar 2) dNil))) (dVar 4))) gNil)))) gNil))))
def gf_walk : DF' := mkGF 5 body_walk
abbrev s_cost_of : Stmt := topS 21
abbrev N_cost_of : List PySem.Str := ["policy", "year"]
theorem sc_cost_of : FnScope N_cost_of ["policy", "year"] (defScope s_cost_of) := ⟨rfl, rfl, rfl, by decide +kernel, rfl, by decide +kernel, by decide +kernel⟩
def body_cost_of : DS := (dRet (dOp addD (dOp ixD (dVar 0) (dC (.int 0))) (dCall df_capped (dCons (dVar 0) (dCons (dCall df_shares_of (dCons (dOp ixD (dVar 0) (dC (.int 1))) (dCons (dVar 1) dNil))) dNil)))))
def df_cost_of : DF := mkDF 2 body_cost_of
abbrev s_total_cost : Stmt := topS 24
abbrev N_total_cost : List PySem.Str := ["policy", "years", "year"]
theorem sc_total_cost : FnScope N_total_cost ["policy", "years"] (defScope s_total_cost) := ⟨rfl, rfl, rfl, by decide +kernel, rfl, by decide +kernel, by decide +kernel⟩
def lb_total_cost_1 : DS := (dDrop (dCall df_check_year (dCons (dVar 2) dNil)))
def body_total_cost : DS := (dSeq (dDrop (dCall df_check_policy (dCons (dVar 0) dNil))) (dSeq (dFor (dItems (dVar 1)) (.nm 2) lb_total_cost_1) (dRet (dB sum1 (dCons (dLc (dItems (dVar 1)) (.nm 2) dYes (dCall df_cost_of (dCons (dVar 0) (dCons (dVar 2) dNil))) [2]) dNil)))))
def df_total_cost : DF := mkDF 3 body_total_cost
abbrev s_cost : Stmt := topS 23
abbrev N_cost : List PySem.Str := ["policy", "year"]
theorem sc_cost : FnScope N_cost ["policy", "year"] (defScope s_cost) := ⟨rfl, rfl, rfl, by decide +kernel, rfl, by decide +kernel, by decide +kernel⟩
def body_cost : DS := (dSeq (dDrop (dCall df_check_policy (dCons (dVar 0) dNil))) (dSeq (dDrop (dCall df_check_year (dCons (dVar 1) dNil))) (dRet (dCall df_cost_of (dCons (dVar 0) (dCons (dVar 1) dNil))))))
def df_cost : DF := mkDF 2 body_cost
abbrev s__law_far : Stmt := topS 33
abbrev N__law_far : List PySem.Str := ["bag", "many", "found", "much"]
theorem sc__law_far : FnScope N__law_far ["bag", "many"] (defScope s__law_far) := ⟨rfl, rfl, rfl, by decide +kernel, rfl, by decide +kernel, by decide +kernel⟩
def lb__law_far_1 : DS := (dPar 2 3 (dCons (dOp addD (dOp mulD (dC (.int 1000)) (dVar 2)) (dCall df__law_take (dCons (dVar 0) (dCons (dC (.int 1000)) dNil)))) (dCons (dOp divD (dVar 3) (dC (.int 1000))) dNil)))
def body__law_far : DS := (dSeq (dPar 2 3 (dCons (dC (.int 0)) (dCons (dVar 1) dNil))) (dSeq (dWh (dTest (dOp gtD (dVar 3) (dC (.int 0)))) lb__law_far_1 100000) (dRet (dOp ixD (dLst (dCons (dOp modD (dVar 2) (dVar 1)) (dCons (dC (.int 0)) (dCons (dOp subD (dVar 1) (dC (.int 1))) (dCons (dOp modD (dVar 2) (dVar 1)) dNil))))) (dCall df__law_take (dCons (dVar 0) (dCons (dC (.int 4)) dNil)))))))
def df__law_far : DF := mkDF 4 body__law_far
abbrev s_law : Stmt := topS 39
abbrev N_law : List PySem.Str := ["script", "bag", "turn", "policy", "year", "other", "shares", "due", "whole", "rows", "before", "seen", "part", "index", "here", "joint", "damage", "some", "many", "number"]
theorem sc_law : FnScope N_law ["script"] (defScope s_law) := ⟨rfl, rfl, rfl, by decide +kernel, rfl, by decide +kernel, by decide +kernel⟩
def lb_law_1 : DS := (dSeq (dSet 14 (dCall df__law_capped (dCons (dVar 3) (dCons (dCall df__law_shares (dCons (dOp ixD (dVar 3) (dC (.int 1))) (dCons (dSl slD (dVar 4) dNoPart (dPart (dOp addD (dVar 13) (dC (.int 1))))) dNil))) dNil)))) (dSeq (dApp 9 (dOp subD (dVar 14) (dVar 10))) (dSet 10 (dVar 14))))
def lb_law_2 : DS := (dSeq (dSet 3 (dCall df__law_policy (dCons (dVar 1) dNil))) (dSeq (dPar 4 5 (dCons (dCall df__law_year (dCons (dVar 1) (dCons (dC (.int 40)) (dCons (dVar 3) dNil)))) (dCons (dCall df__law_year (dCons (dVar 1) (dCons (dC (.int 10)) (dCons (dVar 3) dNil)))) dNil))) (dSeq (dSet 6 (dCall df__law_shares (dCons (dOp ixD (dVar 3) (dC (.int 1))) (dCons (dVar 4) dNil)))) (dSeq (dSet 7 (dCall df__law_capped (dCons (dVar 3) (dCons (dVar 6) dNil)))) (dSeq (dIfS (dNotT (dTest (dCall df__law_same (dCons (dLst (dCons (dCall df_own (dCons (dVar 3) (dCons (dVar 4) dNil))) (dCons (dCall df_cost (dCons (dVar 3) (dCons (dVar 4) dNil))) dNil))) (dCons (dLst (dCons (dVar 7) (dCons (dOp addD (dOp ixD (dVar 3) (dC (.int 0))) (dVar 7)) dNil))) dNil))))) (dRet (dC (.bl false))) dNil') (dSeq (dSet 8 (dOp addD (dOp mulD (dC (.int 2)) (dOp addD (dOp ixD (dVar 3) (dC (.int 0))) (dVar 7))) (dCall df__law_cost (dCons (dVar 3) (dCons (dVar 5) dNil))))) (dSeq (dIfS (dOrT (dNotT (dTest (dCall df__law_same (dCons (dCallS 1 df_total_cost (dCons (dVar 3) (dCons (dVar 4) (dCons (dVar 5) (dCons (dVar 4) dNil))))) (dCons (dVar 8) dNil))))) (dTest (dOp neD (dCallS 1 df_total_cost (dCons (dVar 3) dNil)) (dC (.int 0))))) (dRet (dC (.bl false))) dNil') (dSeq (dParOwn0 9 10 (dC (.int 0))) (dSeq (dSet 11 (dListG gf_walk (dCons (dVar 3) (dCons (dVar 4) dNil)))) (dSeq (dFor (dRng1 (dCons (dB len1 (dCons (dVar 4) dNil)) dNil)) (.nm 13) lb_law_1) (dFrz 9 (dSeq (dIfS (dOrT (dNotT (dTest (dCall df__law_same (dCons (dVar 11) (dCons (dVar 9) dNil))))) (dTest (dOp neD (dCall df_cost (dCons (dVar 3) (dCons (dRevT (dVar 4)) dNil))) (dOp addD (dOp ixD (dVar 3) (dC (.int 0))) (dVar 7))))) (dRet (dC (.bl false))) dNil') (dSeq (dSet 15 (dIf (dTest (dOp neD (dVar 4) (dTup dNil))) (dTup (dCons (dB sumT1 (dCons (dVar 4) dNil)) dNil)) (dTup dNil))) (dSeq (dIfS (dTest (dOp neD (dCall df_as_one (dCons (dVar 3) (dCons (dVar 4) dNil))) (dCall df__law_cost (dCons (dVar 3) (dCons (dVar 15) dNil))))) (dRet (dC (.bl false))) dNil') (dSeq (dIfS (dTest (dOp neD (dCall df_far_cost (dCons (dVar 3) (dCons (dB tuple1 (dCons (dLc (dItems (dVar 4)) (.nm 16) dYes (dTup (dCons (dVar 16) (dCons (dC (.int 1)) dNil))) [16]) dNil)) dNil))) (dOp addD (dOp ixD (dVar 3) (dC (.int 0))) (dVar 7)))) (dRet (dC (.bl false))) dNil') (dSeq (dSet 17 (dLc (dItems (dSl slD (dVar 4) dNoPart (dPart (dC (.int 10))))) (.nm 16) dYes (dTup (dCons (dVar 16) (dCons (dCall df__law_far (dCons (dVar 1) (dCons (dOp powD (dC (.int 10)) (dC (.int 12))) dNil))) dNil))) [16])) (dSeq (dSet 18 (dB sum1 (dCons (dLc (dItems (dVar 17)) (.tp [16, 19]) dYes (dOp mulD (dVar 19) (dB min2 (dCons (dVar 16) (dCons (dOp ixD (dVar 3) (dC (.int 1))) dNil)))) [16, 19]) dNil))) (dIfS (dNotT (dTest (dCall df__law_same (dCons (dCall df_far_cost (dCons (dVar 3) (dCons (dB tuple1 (dCons (dVar 17) dNil)) dNil))) (dCons (dOp addD (dOp ixD (dVar 3) (dC (.int 0))) (dCall df__law_capped (dCons (dVar 3) (dCons (dVar 18) dNil)))) dNil))))) (dRet (dC (.bl false))) dNil'))))))))))))))))))
def lb_law_3 : DS := (dFor (dRng1 (dCons (dC (.int 3)) dNil)) (.nm 2) lb_law_2)
def body_law : DS := (dSeq (dFor (dItems (dCall df__law_bags (dCons (dVar 0) (dCons (dC (.int 8)) dNil)))) (.nm 1) lb_law_3) (dSeq (dIfS (dOrT (dTest (dOp neD (dCall df_own (dCons (dTup (dCons (dC (.int 100)) (dCons (dC (.int 50)) (dCons (dC (.int 120)) dNil)))) (dCons (dTup (dCons (dC (.int 20)) (dCons (dC (.int 80)) (dCons (dC (.int 200)) dNil)))) dNil))) (dC (.int 120)))) (dTest (dOp neD (dListG gf_walk (dCons (dTup (dCons (dC (.int 100)) (dCons (dC (.int 50)) (dCons (dC (.int 120)) dNil)))) (dCons (dOp mulTD (dTup (dCons (dC (.int 200)) dNil)) (dC (.int 4))) dNil))) (dLst (dCons (dC (.int 50)) (dCons (dC (.int 50)) (dCons (dC (.int 20)) (dCons (dC (.int 0)) dNil)))))))) (dRet (dC (.bl false))) dNil') (dRet (dOp eqD (dCall df_far_cost (dCons (dTup (dCons (dC (.int 110)) (dCons (dC (.int 30)) (dCons (dC .non) dNil)))) (dCons (dTup (dCons (dTup (dCons (dC (.int 20)) (dCons (dOp powD (dC (.int 10)) (dC (.int 12))) dNil))) (dCons (dTup (dCons (dC (.int 80)) (dCons (dC (.int 3)) dNil))) dNil))) dNil))) (dOp addD (dOp mulD (dC (.int 20)) (dOp powD (dC (.int 10)) (dC (.int 12)))) (dC (.int 200)))))))
def df_law : DF := mkDF 20 body_law
end W

/-! draws of a bag -/
namespace W
open PySem PySem.Spec PyProof.Rows L2 Z

theorem bnd_app {α β : Type} {m : Mo α} {f : α → Mo β} {M : MS} : bnd m f M = match m M with
  | none => none
  | some (.ok a, M') => f a M'
  | some (.err c, M') => some (.err c, M') := rfl
theorem bnd_at {α β : Type} {m : Mo α} {f : α → Mo β} {M M' : MS} {a : α} (h : m M = some (.ok a, M')) : bnd m f M = f a M' := by
  unfold bnd
  rw [h]
theorem ix_obj {k : Nat} {xs : List D} {i : Int} {z : D} {M : MS} (h : M[k]? = some xs) (hz : atI xs i = some z) : ixD (.obj k) (.int i) M = some z := by
  unfold ixD
  simp only [h, hz]
theorem set_get {M : MS} {k : Nat} {xs ys : List D} (h : M[k]? = some xs) : (M.set k ys)[k]? = some ys := by
  obtain ⟨h1, _⟩ := List.getElem?_eq_some_iff.mp h
  exact List.getElem?_set_self h1
theorem set_oth (M : MS) (k : Nat) (ys : List D) : Oth k M (M.set k ys) := fun j hj => List.getElem?_set_ne (Ne.symm hj)
def IsI (lo hi : Int) : D → Prop := fun d => ∃ r : Int, d = .int r ∧ lo ≤ r ∧ r < hi
theorem bnd_lft_app {α β : Type} {g : MS → Option α} {f : α → Mo β} {M : MS} : bnd (fun M => lft (g M) M) f M = match g M with
  | none => none
  | some a => f a M := by
  rw [bnd_app]
  show (match lft (g M) M with
    | none => none
    | some (.ok a, M') => f a M'
    | some (.err c, M') => some (.err c, M')) = _
  cases g M <;> rfl
theorem ixD_obj {k : Nat} {i : Int} {M : MS} : ixD (.obj k) (.int i) M = match M[k]? with
  | some xs => atI xs i
  | none => none := rfl
def putK (e : Ev) (d o k : D) : Mo Oc := fun M => match o, k with
  | .obj n, .int j => match M[n]? with
    | some xs => match ixN xs.length j with
      | some q => some (.ok (.nx e), M.set n (xs.set q d))
      | none => none
    | none => none
  | _, _ => none
theorem dPut_eq {fo fi fe : DE} {e : Ev} : dPut fo fi fe e = bnd (fe e) fun d => bnd (fo e) fun o => bnd (fi e) fun k => putK e d o k := rfl
theorem putK_app {e : Ev} {d : D} {n : Nat} {j : Int} {f : Oc → Mo D} {M : MS} {xs : List D} {q : Nat} (h : M[n]? = some xs) (hq : ixN xs.length j = some q) : bnd (putK e d (.obj n) (.int j)) f M = f (.nx e) (M.set n (xs.set q d)) := by
  unfold bnd putK
  simp only [h, hq]
theorem BagAt.lt {M : MS} {k n : Nat} (h : BagAt M k n) : k < M.length := by
  obtain ⟨a, b, c, hM, _⟩ := h
  exact (List.getElem?_eq_some_iff.mp hM).1
theorem ret_app {α : Type} {a : α} {M : MS} : ret a M = some (.ok a, M) := rfl
/-- the number that is drawn without digits -/
def drawn (b c many : Int) : Int :=
  let n := (b + 1000003 * c) % 2305843009213693951
  let m := (n * n + 7919 * c ^ 2 + 5) % 2305843009213693951
  m ^ 3 % 2305843009213693951 / 13 % many
theorem take_eq {k : Nat} {many a b c : Int} {M : MS} (h0 : 0 < many) (h1 : many < 1073741824) (hM : M[k]? = some [.int a, .int b, .int c]) (hb0 : 0 ≤ b) (hb1 : b < 2305843009213693951) (hc0 : 0 ≤ c) (hc1 : c < 1099511627776) :
    df__law_take [.obj k, .int many] M = if 0 < a then some (.ok (.int (a % many)), M.set k [.int (a / many), .int b, .int c]) else some (.ok (.int (drawn b (c + 1) many)), M.set k [.int a, .int b, .int (c + 1)]) := by
  have hk : k < M.length := (List.getElem?_eq_some_iff.mp hM).1
  have q0 : ixN 3 0 = some 0 := rfl
  have q2 : ixN 3 2 = some 2 := rfl
  by_cases ha : 0 < a
  · simp [df__law_take, body__law_take, bnd_assoc, bnd_lft_app, ixD_obj, hM, ha, h0, h1]
    rw [dPut_eq]
    simp [bnd_assoc, bnd_lft_app, ixD_obj, hM, h0, h1]
    rw [putK_app (xs := [.int a, .int b, .int c]) (q := 0) hM rfl]
    simp [ret_app]
  · simp [df__law_take, body__law_take, bnd_assoc, bnd_lft_app, ixD_obj, hM, ha, h0, h1]
    rw [dPut_eq]
    simp [bnd_assoc, bnd_lft_app, ixD_obj, hM, h0, h1]
    rw [putK_app (xs := [.int a, .int b, .int c]) (q := 2) hM rfl]
    have g1 : (c + 1).natAbs < 18446744073709551616 := by omega
    simp [bnd_assoc, bnd_lft_app, ixD_obj, hk, h0, h1, g1, mulD_int (i := 1000003) (j := c + 1) (by omega)]
    unfold drawn
    have hn0 := Int.emod_nonneg (b + 1000003 * (c + 1)) (show (2305843009213693951 : Int) ≠ 0 by decide)
    have hn1 := Int.emod_lt_of_pos (b + 1000003 * (c + 1)) (show (0 : Int) < 2305843009213693951 by decide)
    generalize (b + 1000003 * (c + 1)) % 2305843009213693951 = n at hn0 hn1 ⊢
    simp [bnd_lft_app, mulD_int (i := n) (j := n) (by omega), mulD_int (i := 7919) (j := (c + 1) ^ 2) (by omega)]
    have hm0 := Int.emod_nonneg (n * n + 7919 * (c + 1) ^ 2 + 5) (show (2305843009213693951 : Int) ≠ 0 by decide)
    have hm1 := Int.emod_lt_of_pos (n * n + 7919 * (c + 1) ^ 2 + 5) (show (0 : Int) < 2305843009213693951 by decide)
    generalize (n * n + 7919 * (c + 1) ^ 2 + 5) % 2305843009213693951 = m at hm0 hm1 ⊢
    have g2 : m.natAbs < 18446744073709551616 := by omega
    simp [bnd_lft_app, g2, h0, ret_app]
theorem take_ok {k : Nat} {many : Int} (h0 : 0 < many) (h1 : many < 1073741824) : Tk k 1 (df__law_take [.obj k, .int many]) (IsI 0 many) := by
  intro n M ⟨a, b, c, hM, hb0, hb1, hc0, hc1⟩
  have e := take_eq h0 h1 hM hb0 hb1 hc0 (by omega)
  by_cases ha : 0 < a
  · rw [if_pos ha] at e
    exact ⟨_, _, e, ⟨_, _, _, set_get hM, hb0, hb1, hc0, by omega⟩, set_oth _ _ _, _, rfl, Int.emod_nonneg _ (by omega), Int.emod_lt_of_pos _ h0⟩
  · rw [if_neg ha] at e
    exact ⟨_, _, e, ⟨_, _, _, set_get hM, hb0, hb1, by omega, by omega⟩, set_oth _ _ _, _, rfl, Int.emod_nonneg _ (by omega), Int.emod_lt_of_pos _ h0⟩
/-- a draw, and what comes behind it -/
theorem take_bind {β : Type} {k c : Nat} {many : Int} {f : D → Mo β} {post : β → Prop} (h0 : 0 < many) (h1 : many < 1073741824) (h : ∀ r : Int, 0 ≤ r → r < many → Tk k c (f (.int r)) post) : Tk k (c + 1) (bnd (df__law_take [.obj k, .int many]) f) post :=
  ((take_ok h0 h1).bind (c2 := c) fun a ⟨r, e, r0, r1⟩ => by rw [e]; exact h r r0 r1).mono (by omega) fun _ h => h
/-! loops of draws -/
/-- the next turn is reached, I holds there -/
def Nxt (I : Ev → Prop) (o : Oc) : Prop := ∃ e', (o = .nx e' ∨ o = .ct e') ∧ I e'
theorem Nxt.mk {I : Ev → Prop} {e : Ev} {k c : Nat} (h : I e) : Tk k c (ret (.nx e)) (Nxt I) := Tk.ret ⟨e, .inl rfl, h⟩
theorem Tk.loop {k c : Nat} {t : Tg} {body : DS} (I : Nat → Ev → Prop) : ∀ {items : List D} (i : Nat) (e : Ev), I i e →
    (∀ j x e, items[j]? = some x → I (i + j) e → ∃ e1, asg t x e = some e1 ∧ Tk k c (body e1) (Nxt (I (i + j + 1)))) →
    Tk k (c * items.length) (dLoop t body items e) (fun o => ∃ e', o = .nx e' ∧ I (i + items.length) e')
  | [], i, e, h0, _ => Tk.ret ⟨e, rfl, h0⟩
  | x :: xs, i, e, h0, h => by
    obtain ⟨e1, h1, h2⟩ := h 0 x e rfl h0
    rw [dLoop_cons, h1, lft_some, bnd_ret]
    refine (h2.bind (c2 := c * xs.length) fun o ⟨e', ho, hi⟩ => ?_).mono (by rw [List.length_cons, Nat.mul_succ]; omega) fun _ h => h
    have ih := Tk.loop I (items := xs) (i + 1) e' hi (fun j y e hj hI => by
      have z := h (j + 1) y e (by simpa using hj) (by rw [show i + (j + 1) = i + 1 + j by omega]; exact hI)
      rw [show i + (j + 1) + 1 = i + 1 + j + 1 by omega] at z
      exact z)
    rw [List.length_cons, show i + (xs.length + 1) = i + 1 + xs.length by omega]
    rcases ho with rfl | rfl <;> exact ih
theorem loop_bind {β : Type} {k c c2 C : Nat} {t : Tg} {body : DS} {items : List D} {e : Ev} {f : Oc → Mo β} {post : β → Prop} (I : Nat → Ev → Prop) (h0 : I 0 e)
    (h : ∀ j x e, items[j]? = some x → I j e → ∃ e1, asg t x e = some e1 ∧ Tk k c (body e1) (Nxt (I (j + 1))))
    (hend : ∀ e', I items.length e' → Tk k c2 (f (.nx e')) post) (hC : c * items.length + c2 ≤ C) : Tk k C (bnd (dLoop t body items e) f) post := by
  refine ((Tk.loop I 0 e h0 fun j x e hj hI => ?_).bind (c2 := c2) fun o ⟨e', ho, hi⟩ => ?_).mono hC fun _ h => h
  · rw [Nat.zero_add] at hI ⊢
    exact h j x e hj hI
  · rw [Nat.zero_add] at hi
    rw [ho]
    exact hend e' hi
theorem rngD_len {lo : Int} {n : Nat} : (rngD lo n).length = n := by
  unfold rngD
  rw [List.length_map, List.length_range]
theorem rngD_get {lo : Int} {n j : Nat} {x : D} (h : (rngD lo n)[j]? = some x) : j < n ∧ x = .int (lo + (j : Int)) := by
  unfold rngD at h
  rw [List.getElem?_map] at h
  cases e : (List.range n)[j]? with
  | none =>
    rw [e] at h
    cases h
  | some k =>
    rw [e] at h
    obtain ⟨h1, h2⟩ := List.getElem?_eq_some_iff.mp e
    rw [List.getElem_range] at h2
    subst h2
    cases h
    exact ⟨by simpa using h1, rfl⟩
/-! the bags -/
def newO (xs : List D) : Mo D := fun M => some (.ok (.obj M.length), M ++ [xs])
theorem dObj_eq {g : DA} {e : Ev} : dObj g e = bnd (g e) fun xs => if xs.length ≤ 100000 then newO xs else stuck := rfl
theorem well_eq {cell turn : Int} : ∃ a b : Int, 0 ≤ b ∧ b < 2305843009213693951 ∧ df__law_well [.int cell, .int turn] = newO [.int a, .int b, .int turn] := by
  have q : (10 : Int) ^ 18 = 1000000000000000000 := by decide
  by_cases h : 1000000000000000000 ≤ cell
  · refine ⟨cell - 1000000000000000000, cell % 2305843009213693951, Int.emod_nonneg _ (by decide), Int.emod_lt_of_pos _ (by decide), ?_⟩
    simp [df__law_well, body__law_well, dObj_eq, q, h]
    funext M
    simp [bnd_app, newO, ret_app]
  · refine ⟨0, cell % 2305843009213693951, Int.emod_nonneg _ (by decide), Int.emod_lt_of_pos _ (by decide), ?_⟩
    simp [df__law_well, body__law_well, dObj_eq, q, h]
    funext M
    simp [bnd_app, newO, ret_app]
theorem bag_ext {M : MS} {k n : Nat} {xs : List D} (h : BagAt M k n) : BagAt (M ++ [xs]) k n := by
  obtain ⟨a, b, c, hM, h⟩ := h
  exact ⟨a, b, c, by rw [List.getElem?_append_left (List.getElem?_eq_some_iff.mp hM).1]; exact hM, h⟩
theorem cut_to {xs : List D} {m : Nat} : Z.cutD xs none (some (m : Int)) = xs.take m := by
  unfold Z.cutD
  rw [HT.sIx_none, HT.sIx_nat, List.drop_zero, Nat.sub_zero]
  exact List.take_eq_take_iff.mpr (by omega)
theorem bags_loop {e0 : Ev} (he : 4 ≤ e0.length) : ∀ (cs : List Int) (k : Nat) (acc : List D) (M : MS), M.length = k → acc.length + cs.length ≤ 100 → k + cs.length ≤ 100 → (∀ j, j < k → BagAt M j 1000000000000) →
    ∃ M', dLcLoop (.tp [2, 3]) dYes (dCall df__law_well (dCons (dVar 3) (dCons (dOp mulD (dC (.int 977)) (dVar 2)) dNil))) e0 (enmD k (cs.map .int)) acc M = some (.ok (acc ++ (List.range' k cs.length).map .obj), M') ∧ (∀ j, j < k + cs.length → BagAt M' j 1000000000000) ∧ M'.length = k + cs.length
  | [], k, acc, M, hk, _, _, hB => ⟨M, by simp [enmD, dLcLoop, ret_app], hB, hk⟩
  | c :: cs, k, acc, M, hk, h1, h2, hB => by
    rw [List.length_cons] at h1 h2
    obtain ⟨a, b, hb0, hb1, ew⟩ := well_eq (cell := c) (turn := 977 * (k : Int))
    have hB' : ∀ j, j < k + 1 → BagAt (M ++ [[.int a, .int b, .int (977 * (k : Int))]]) j 1000000000000 := fun j hj => by
      by_cases q : j < k
      · exact bag_ext (hB j q)
      · have : j = k := by omega
        subst this
        refine ⟨a, b, 977 * (j : Int), ?_, hb0, hb1, by omega, by omega⟩
        rw [List.getElem?_append_right (by omega), hk, Nat.sub_self]
        rfl
    obtain ⟨M', e', hM', hlen⟩ := bags_loop he cs (k + 1) (acc ++ [.obj k]) (M ++ [[.int a, .int b, .int (977 * (k : Int))]]) (by simp [hk]) (by simp; omega) (by omega) hB'
    refine ⟨M', ?_, fun j hj => hM' j (by rw [List.length_cons] at hj; omega), by rw [hlen, List.length_cons]; omega⟩
    have g2 : (e0.set 2 (.v (.int (k : Int))))[2]? = some (.v (.int (k : Int))) := List.getElem?_set_self (by omega)
    have g3 : ((e0.set 2 (.v (.int (k : Int)))).set 3 (.v (.int c)))[3]? = some (.v (.int c)) := List.getElem?_set_self (by simp; omega)
    have g2' : ((e0.set 2 (.v (.int (k : Int)))).set 3 (.v (.int c)))[2]? = some (.v (.int (k : Int))) := by
      rw [List.getElem?_set_ne (by decide)]
      exact g2
    simp only [List.map_cons, enmD]
    unfold dLcLoop
    simp only [asg_tp, asgs_cons, asgs_nil, lft_some, bnd_ret, dYes, noErr_ret, if_true, dCall_eq, dCons_eq, dVar_eq, g3, g2', varK_v, dOp_eq, dC_eq, mulD_int (i := 977) (j := (k : Int)) (by omega), ret_eta, dNil_eq, ew]
    have el : acc.length < 100000 := by omega
    rw [bnd_at (show noErr (newO [.int a, .int b, .int (977 * (k : Int))]) M = some (.ok (.obj k), M ++ [[.int a, .int b, .int (977 * (k : Int))]]) by simp [noErr, newO, hk]), if_pos el, e']
    simp [List.range'_succ]
theorem bags_ok {ns : List Int} {m : Nat} (hm : m ≤ 90) : ∃ L M', df__law_bags [.scr ns, .int (m : Int)] [] = some (.ok (.lst ((List.range L).map .obj)), M') ∧ (∀ j, j < L → BagAt M' j 1000000000000) ∧ M'.length = L := by
  have hl : (ns.take m ++ [0]).length ≤ 91 := by simp; omega
  obtain ⟨M', e, h, hM⟩ := bags_loop (e0 := [.v (.scr ns), .v (.int (m : Int)), .no, .no]) (by simp) (ns.take m ++ [0]) 0 [] [] rfl (by simpa using by omega) (by omega) (fun j hj => by omega)
  refine ⟨(ns.take m ++ [0]).length, M', ?_, fun j hj => h j (by omega), by omega⟩
  have hc : Z.cutD (ns.map D.int) none (some (m : Int)) = (ns.take m).map D.int := by rw [cut_to, List.map_take]
  have hl2 : (List.take m ns).length + 1 ≤ 100000 := by rw [List.length_take]; omega
  have e2 : ((List.take m ns).map D.int) ++ [.int 0] = (ns.take m ++ [0]).map D.int := by simp
  simp only [df__law_bags, body__law_bags, mkDF_eq, dRet_eq, dLc_eq, dEnm_eq, dCons_eq, dNil_eq, dOp_eq, dSl_eq, dVar_eq, dNoPart_eq, dPart_eq, dLst_eq, dC_eq, List.map_cons, List.map_nil, List.cons_append, List.nil_append, List.length_cons, List.length_nil, List.getElem?_cons_zero, List.getElem?_cons_succ, varK_v, bnd_ret, partK_int, List.replicate, slD, hc, lft_some, ret_eta]
  simp only [Nat.reduceAdd, Nat.reduceSub, List.replicate, List.cons_append, List.nil_append, Nat.reduceLeDiff, if_true, bnd_ret, addD_lst, List.length_map, List.length_cons, List.length_nil, hl2, lft_some, ret_eta, lst1_lst, e2, wipeE_cons, wipeE_nil, List.set_cons_succ, List.set_cons_zero]
  simp only [bnd_assoc, bnd_ret]
  rw [bnd_at e]
  simp [ret_app, List.range_eq_range']
end W

/-! laws that go over all the bags -/
namespace W
open PySem PySem.Spec PyProof.Rows L2 Z
theorem bags_run {c i : Nat} {body : DS} {I : Ev → Prop} (hc : c ≤ 1000000000000) (hb : ∀ k e, I e → Tk k c (body (e.set i (.v (.obj k)))) (Nxt I)) : ∀ (n k : Nat) (M : MS) (e : Ev), I e → (∀ j, k ≤ j → j < k + n → BagAt M j 1000000000000) →
    ∃ e' M', dLoop (.nm i) body ((List.range' k n).map .obj) e M = some (.ok (.nx e'), M') ∧ I e'
  | 0, k, M, e, h, _ => ⟨e, M, rfl, h⟩
  | n + 1, k, M, e, h, hB => by
    obtain ⟨o, M1, h1, b1, o1, e1, ho, hI⟩ := hb k e h (1000000000000 - c) M ((hB k (by omega) (by omega)).mono (by omega))
    obtain ⟨e', M', h2, hI'⟩ := bags_run hc hb n (k + 1) M1 e1 hI fun j j0 j1 => by
      obtain ⟨x, y, z, q, w⟩ := hB j (by omega) (by omega)
      exact ⟨x, y, z, by rw [o1 j (by omega)]; exact q, w⟩
    refine ⟨e', M', ?_, hI'⟩
    rw [List.range'_succ, List.map_cons, dLoop_cons, asg_nm, lft_some, bnd_ret, bnd_at h1]
    rcases ho with rfl | rfl <;> exact h2
theorem law_shell {c n i m : Nat} {lb tail : DS} {I : Ev → Prop} {ns : List Int} (hm : m ≤ 90) (hc : c ≤ 1000000000000) (h0 : I (.v (.scr ns) :: List.replicate (n - 1) .no)) (hb : ∀ k e, I e → Tk k c (lb (e.set i (.v (.obj k)))) (Nxt I))
    (ht : ∀ e M, I e → ∃ M', tail e M = some (.ok (.rt (.bl true)), M')) : ∃ M', mkDF n (dSeq (dFor (dItems (dCall df__law_bags (dCons (dVar 0) (dCons (dC (.int (m : Int))) dNil)))) (.nm i) lb) tail) [.scr ns] [] = some (.ok (.bl true), M') := by
  obtain ⟨L, M1, hB, hB2, _⟩ := bags_ok (ns := ns) hm
  obtain ⟨e', M2, h2, hI⟩ := bags_run hc hb L 0 M1 _ h0 fun j _ hj => hB2 j (by omega)
  obtain ⟨M3, h3⟩ := ht e' M2 hI
  refine ⟨M3, ?_⟩
  rw [← List.range_eq_range'] at h2
  simp only [mkDF_eq, dSeq_eq, dFor_eq, dItems_eq, dCall_eq, dCons_eq, dVar_eq, dC_eq, dNil_eq, List.map_cons, List.map_nil, List.cons_append, List.nil_append, List.getElem?_cons_zero, varK_v, bnd_ret, bnd_assoc, List.length_cons, List.length_nil]
  rw [bnd_at hB, itemsK_lst, bnd_ret, bnd_at h2, seqK_nx, bnd_at h3]
  rfl
end W

/-! lists that grow -/
namespace W
open PySem PySem.Spec PyProof.Rows L2 Z
def appK (i : Nat) (e : Ev) (m : Mo D) : Option Sl → Mo Oc
  | some (.own ds) => bnd m fun d => if ds.length < 100000 then ret (.nx (e.set i (.own (ds ++ [d])))) else stuck
  | _ => stuck
@[simp] theorem dApp_eq {i : Nat} {f : DE} {e : Ev} : dApp i f e = appK i e (f e) e[i]? := by
  unfold dApp appK
  cases e[i]? with
  | none => rfl
  | some s => cases s <;> rfl
@[simp] theorem appK_own {i : Nat} {e : Ev} {m : Mo D} {ds : List D} : appK i e m (some (.own ds)) = bnd m fun d => if ds.length < 100000 then ret (.nx (e.set i (.own (ds ++ [d])))) else stuck := rfl
def frzK (i : Nat) (e : Ev) : Option Sl → Ev
  | some (.own ds) => e.set i (.v (.lst ds))
  | some (.ownD ks ds) => e.set i (.v (.dct ks ds))
  | _ => e
@[simp] theorem frz_eq {i : Nat} {e : Ev} : frz i e = frzK i e e[i]? := by
  unfold frz frzK
  cases e[i]? with
  | none => rfl
  | some s => cases s <;> rfl
@[simp] theorem frzK_own {i : Nat} {e : Ev} {ds : List D} : frzK i e (some (.own ds)) = e.set i (.v (.lst ds)) := rfl
@[simp] theorem frzK_v {i : Nat} {e : Ev} {d : D} : frzK i e (some (.v d)) = e := rfl
def ixK (m : Mo D) : Option Sl → Mo D
  | some (.own ds) => bnd m fun y => fun M => lft (ixD (.lst ds) y M) M
  | some (.v d) => bnd m fun y => fun M => lft (ixD d y M) M
  | _ => stuck
@[simp] theorem dIxOwn_eq {i : Nat} {f : DE} {e : Ev} : dIxOwn i f e = ixK (f e) e[i]? := by
  unfold dIxOwn ixK
  cases e[i]? with
  | none => rfl
  | some s => cases s <;> rfl
@[simp] theorem ixK_own {m : Mo D} {ds : List D} : ixK m (some (.own ds)) = bnd m fun y => fun M => lft (ixD (.lst ds) y M) M := rfl
@[simp] theorem ixK_v {m : Mo D} {d : D} : ixK m (some (.v d)) = bnd m fun y => fun M => lft (ixD d y M) M := rfl
end W

/-! loops without draws, the body abstract (else the kernel evaluates it) -/
namespace W
open PySem PySem.Spec PyProof.Rows L2 Z
theorem pure_loop {i : Nat} {body : DS} (I : Nat → Ev → Prop) : ∀ {items : List D} (k : Nat) (e : Ev), I k e → (∀ j x e, items[j]? = some x → I (k + j) e → ∃ e', body (e.set i (.v x)) = ret (.nx e') ∧ I (k + j + 1) e') →
    ∃ e', dLoop (.nm i) body items e = ret (.nx e') ∧ I (k + items.length) e'
  | [], k, e, h0, _ => ⟨e, rfl, h0⟩
  | x :: xs, k, e, h0, h => by
    obtain ⟨e1, h1, h2⟩ := h 0 x e rfl h0
    obtain ⟨e2, h3, h4⟩ := pure_loop I (items := xs) (k + 1) e1 h2 (fun j y e hj hI => by
      have z := h (j + 1) y e (by simpa using hj) (by rw [show k + (j + 1) = k + 1 + j by omega]; exact hI)
      rw [show k + (j + 1) + 1 = k + 1 + j + 1 by omega] at z
      exact z)
    refine ⟨e2, ?_, ?_⟩
    · rw [dLoop_cons, asg_nm, lft_some, bnd_ret, h1, bnd_ret, loopK_nx, h3]
    · rw [List.length_cons, show k + (xs.length + 1) = k + 1 + xs.length by omega]
      exact h4
/-- from the start -/
theorem pure_loop0 {i : Nat} {body : DS} {items : List D} (I : Nat → Ev → Prop) {e : Ev} (h0 : I 0 e) (h : ∀ j x e, items[j]? = some x → I j e → ∃ e', body (e.set i (.v x)) = ret (.nx e') ∧ I (j + 1) e') : ∃ e', dLoop (.nm i) body items e = ret (.nx e') ∧ I items.length e' := by
  obtain ⟨e', h1, h2⟩ := pure_loop (i := i) (body := body) I (items := items) 0 e h0 (fun j x e hj hI => by
    rw [Nat.zero_add] at hI ⊢
    exact h j x e hj hI)
  rw [Nat.zero_add] at h2
  exact ⟨e', h1, h2⟩
/-- any target -/
theorem pure_loopT {t : Tg} {body : DS} (I : Nat → Ev → Prop) : ∀ {items : List D} (k : Nat) (e : Ev), I k e → (∀ j x e, items[j]? = some x → I (k + j) e → ∃ e1 e', asg t x e = some e1 ∧ body e1 = ret (.nx e') ∧ I (k + j + 1) e') →
    ∃ e', dLoop t body items e = ret (.nx e') ∧ I (k + items.length) e'
  | [], k, e, h0, _ => ⟨e, rfl, h0⟩
  | x :: xs, k, e, h0, h => by
    obtain ⟨e0, e1, ha, h1, h2⟩ := h 0 x e rfl h0
    obtain ⟨e2, h3, h4⟩ := pure_loopT I (items := xs) (k + 1) e1 h2 (fun j y e hj hI => by
      have z := h (j + 1) y e (by simpa using hj) (by rw [show k + (j + 1) = k + 1 + j by omega]; exact hI)
      rw [show k + (j + 1) + 1 = k + 1 + j + 1 by omega] at z
      exact z)
    refine ⟨e2, ?_, ?_⟩
    · rw [dLoop_cons, ha, lft_some, bnd_ret, h1, bnd_ret, loopK_nx, h3]
    · rw [List.length_cons, show k + (xs.length + 1) = k + 1 + xs.length by omega]
      exact h4
theorem pure_loopT0 {t : Tg} {body : DS} {items : List D} (I : Nat → Ev → Prop) {e : Ev} (h0 : I 0 e) (h : ∀ j x e, items[j]? = some x → I j e → ∃ e1 e', asg t x e = some e1 ∧ body e1 = ret (.nx e') ∧ I (j + 1) e') : ∃ e', dLoop t body items e = ret (.nx e') ∧ I items.length e' := by
  obtain ⟨e', h1, h2⟩ := pure_loopT (t := t) (body := body) I (items := items) 0 e h0 (fun j x e hj hI => by
    rw [Nat.zero_add] at hI ⊢
    exact h j x e hj hI)
  rw [Nat.zero_add] at h2
  exact ⟨e', h1, h2⟩
/-- over enumerate(list) -/
theorem enm_loop {i1 i2 : Nat} {body : DS} {xs : List D} (I : Nat → Ev → Prop) {e : Ev} (h0 : I 0 e) (h : ∀ (j : Nat) x e, xs[j]? = some x → I j e → ∃ e', body ((e.set i1 (.v (.int (j : Int)))).set i2 (.v x)) = ret (.nx e') ∧ I (j + 1) e') : ∃ e', dLoop (.tp [i1, i2]) body (enmD 0 xs) e = ret (.nx e') ∧ I xs.length e' := by
  obtain ⟨e', h1, h2⟩ := pure_loopT0 (t := .tp [i1, i2]) (body := body) (items := enmD 0 xs) I h0 (fun j x e hj hI => by
    obtain ⟨y, hy, rfl⟩ := enmD_get 0 xs j x hj
    obtain ⟨e2, q1, q2⟩ := h j y e hy hI
    rw [Nat.zero_add]
    exact ⟨_, e2, rfl, q1, q2⟩)
  rw [enmD_len] at h2
  exact ⟨e', h1, h2⟩
end W

/-! policies and years -/
namespace W
open PySem PySem.Spec PyProof.Rows L2 Z
def optD : Option Int → D
  | none => .non
  | some c => .int c
@[simp] theorem optD_none : optD none = .non := rfl
@[simp] theorem optD_some {c : Int} : optD (some c) = .int c := rfl
structure Pol where
  p : Int
  e : Int
  c : Option Int
def polD (P : Pol) : D := .tup [.int P.p, .int P.e, optD P.c]
structure Pol.Ok (P : Pol) : Prop where
  p0 : 0 ≤ P.p
  p1 : P.p ≤ 10000
  e0 : 0 ≤ P.e
  e1 : P.e ≤ 1000
  c0 : ∀ c, P.c = some c → 0 ≤ c ∧ c ≤ 10000
def yearD (ds : List Int) : D := .tup (iL ds)
def YearOk (most : Nat) (ds : List Int) : Prop := ds.length ≤ most ∧ ∀ x ∈ ds, 1 ≤ x ∧ x ≤ 1000000
def IsPol : D → Prop := fun d => ∃ P : Pol, d = polD P ∧ P.Ok
def IsYear (most : Nat) : D → Prop := fun d => ∃ ds, d = yearD ds ∧ YearOk most ds
@[simp] theorem pol_ix0 {P : Pol} {M : MS} : ixD (polD P) (.int 0) M = some (.int P.p) := by simp [polD]
@[simp] theorem pol_ix1 {P : Pol} {M : MS} : ixD (polD P) (.int 1) M = some (.int P.e) := by simp [polD]
@[simp] theorem pol_ix2 {P : Pol} {M : MS} : ixD (polD P) (.int 2) M = some (optD P.c) := by simp [polD]
@[simp] theorem isNone_optD {c : Option Int} : isNone (optD c) = c.isNone := by cases c <;> rfl
end W

/-! drawn policies and years -/
namespace W
open PySem PySem.Spec PyProof.Rows L2 Z
theorem pol_mk {p e : Int} {c : Option Int} (h1 : 0 ≤ p) (h2 : p ≤ 10000) (h3 : 0 ≤ e) (h4 : e ≤ 1000) (h5 : ∀ z, c = some z → 0 ≤ z ∧ z ≤ 10000) : IsPol (.tup [.int p, .int e, optD c]) := ⟨⟨p, e, c⟩, rfl, h1, h2, h3, h4, h5⟩
theorem policy_step {k : Nat} {bound eb : Int} (hb0 : 0 < bound) (hb1 : bound ≤ 10001) (he0 : 0 < eb) (he1 : eb ≤ 1001) : Tk k 7 (bnd (df__law_take [.obj k, .int bound]) fun a => bnd (df__law_take [.obj k, .int eb]) fun b =>
      bnd (df__law_take [.obj k, .int 6]) fun c => bnd (fun M => lft (mulD b c M) M) fun bc => bnd (df__law_take [.obj k, .int 4]) fun d => bnd (fun M => lft (addD bc d M) M) fun s => bnd (df__law_take [.obj k, .int 40]) fun f => bnd (df__law_take [.obj k, .int 10001]) fun g => bnd (df__law_take [.obj k, .int 4]) fun h => bnd (fun M => lft (ixD (.lst [.non, s, f, g]) h M) M) fun z => ret (.tup [a, b, z])) IsPol := by
  refine take_bind hb0 (by omega) fun a a0 a1 => take_bind he0 (by omega) fun b b0 b1 => take_bind (by decide) (by decide) fun c c0 c1 => ?_
  simp only [mulD_int (i := b) (j := c) (by omega), lft_some, ret_eta, bnd_ret]
  refine take_bind (by decide) (by decide) fun d d0 d1 => ?_
  simp only [addD_int, lft_some, ret_eta, bnd_ret]
  refine take_bind (by decide) (by decide) fun f f0 f1 => take_bind (by decide) (by decide) fun g g0 g1 => take_bind (c := 0) (by decide) (by decide) fun h h0 h1 => ?_
  have hm : 0 ≤ b * c ∧ b * c ≤ 5000 := by
    have h1 : c = 0 ∨ c = 1 ∨ c = 2 ∨ c = 3 ∨ c = 4 ∨ c = 5 := by omega
    rcases h1 with rfl | rfl | rfl | rfl | rfl | rfl <;> omega
  have hh : h = 0 ∨ h = 1 ∨ h = 2 ∨ h = 3 := by omega
  rcases hh with rfl | rfl | rfl | rfl
  · simp
    exact Tk.ret (pol_mk (c := none) a0 (by omega) b0 (by omega) fun z hz => by cases hz)
  · simp
    exact Tk.ret (pol_mk (c := some (b * c + d)) a0 (by omega) b0 (by omega) fun z hz => by cases hz; omega)
  · simp
    exact Tk.ret (pol_mk (c := some f) a0 (by omega) b0 (by omega) fun z hz => by cases hz; omega)
  · simp
    exact Tk.ret (pol_mk (c := some g) a0 (by omega) b0 (by omega) fun z hz => by cases hz; omega)
theorem policy_ok {k : Nat} : Tk k 8 (df__law_policy [.obj k]) IsPol := by
  simp only [df__law_policy, body__law_policy]
  simp [bnd_assoc]
  refine take_bind (c := 7) (by decide) (by decide) fun w w0 w1 => ?_
  have hw : w = 0 ∨ w = 1 ∨ w = 2 ∨ w = 3 := by omega
  rcases hw with rfl | rfl | rfl | rfl
  · simp
    exact policy_step (by decide) (by decide) (by decide) (by decide)
  · simp
    exact policy_step (by decide) (by decide) (by decide) (by decide)
  · simp
    exact policy_step (by decide) (by decide) (by decide) (by decide)
  · simp
    exact policy_step (by decide) (by decide) (by decide) (by decide)
end W

namespace W
open PySem PySem.Spec PyProof.Rows L2 Z
/-- the slots of _law_year at a turn -/
def YI (k : Nat) (most : Int) (p : D) (i : Nat) (e : Ev) : Prop := ∃ ds s4 s5 s6, e = [.v (.obj k), .v (.int most), .v p, .v (yearD ds), s4, s5, s6] ∧ YearOk i ds
theorem year_ok {k m : Nat} {ep : Int} {a c : D} (hm : m ≤ 100) (e0 : 0 ≤ ep) (e1 : ep ≤ 1000) : Tk k (5 * m + 1) (df__law_year [.obj k, .int (m : Int), .tup [a, .int ep, c]]) (IsYear m) := by
  simp only [df__law_year, body__law_year, lb__law_year_1]
  simp [bnd_assoc]
  refine take_bind (c := 5 * m) (by omega) (by omega) fun n n0 n1 => ?_
  have hb : b62 n = true := b62_ok (by omega) (by omega)
  simp [hb]
  refine loop_bind (c := 5) (c2 := 0) (YI k m (.tup [a, .int ep, c])) ⟨[], _, _, _, rfl, by simp [YearOk]⟩ (fun j x e hj hI => ?_) (fun e' hI => ?_) (by rw [rngD_len]; omega)
  · obtain ⟨ds, s4, s5, s6, rfl, hd, hr⟩ := hI
    have hjn := (rngD_get hj).1
    refine ⟨_, rfl, ?_⟩
    simp [bnd_assoc]
    refine take_bind (c := 4) (by decide) (by decide) fun r1 a0 a1 => ?_
    simp [bnd_assoc]
    refine take_bind (c := 3) (by decide) (by decide) fun r2 b0 b1 => ?_
    have hp : (10 : Int) ^ 6 = 1000000 := by decide
    simp [bnd_assoc, mulD_int (i := 2) (j := ep) (by omega), hp]
    refine take_bind (c := 2) (by omega) (by omega) fun r3 c0 c1 => ?_
    simp [bnd_assoc]
    refine take_bind (c := 1) (by omega) (by omega) fun r4 d0 d1 => ?_
    simp [bnd_assoc]
    refine take_bind (c := 0) (by omega) (by omega) fun r5 e0 e1 => ?_
    have fin : ∀ v : Int, 1 ≤ v → v ≤ 1000000 → ∀ s4 s5 s6, Tk k 0 (ret (Oc.nx [.v (.obj k), .v (.int m), .v (.tup [a, .int ep, c]), .v (.tup (iL ds ++ [.int v])), s4, s5, s6])) (Nxt (YI k m (.tup [a, .int ep, c]) (j + 1))) := fun v v0 v1 s4 s5 s6 => by
      refine Nxt.mk ⟨ds ++ [v], s4, s5, s6, ?_, ?_, ?_⟩
      · rw [yearD, iL_append]
        rfl
      · simp
        exact hd
      · intro x hx
        rcases List.mem_append.mp hx with q | q
        · exact hr x q
        · have : x = v := by simpa using q
          subst this
          exact ⟨v0, v1⟩
    have hl : ds.length + 1 ≤ 100000 := by omega
    have hh : r5 = 0 ∨ r5 = 1 ∨ r5 = 2 ∨ r5 = 3 := by omega
    rcases hh with rfl | rfl | rfl | rfl
    · simp [yearD, hl]
      exact fin _ (by omega) (by omega) _ _ _
    · simp [yearD, hl]
      exact fin _ (by omega) (by omega) _ _ _
    · simp [yearD, hl]
      exact fin _ (by omega) (by omega) _ _ _
    · simp [yearD, hl]
      exact fin _ (by omega) (by omega) _ _ _
  · obtain ⟨ds, s4, s5, s6, rfl, hd, hr⟩ := hI
    simp
    refine Tk.ret ⟨ds, rfl, ?_, hr⟩
    rw [rngD_len] at hd
    omega
end W

/-! comprehensions over whole numbers -/
namespace W
open PySem PySem.Spec PyProof.Rows L2 Z
theorem lc_i {i : Nat} {fe : DE} {e0 : Ev} {q : Int → Int} {ds : List Int} (h : ∀ x ∈ ds, fe (e0.set i (.v (.int x))) = ret (.int (q x))) (hl : ds.length ≤ 100000) : dLcLoop (.nm i) dYes fe e0 (iL ds) [] = ret (iL (ds.map q)) := by
  unfold iL
  rw [lc_map (h := fun d => match d with | .int x => .int (q x) | d => d) (fun d hd => ?_) (by simpa using hl)]
  · rw [List.map_map, List.map_map]
    rfl
  · obtain ⟨x, hx, rfl⟩ := List.mem_map.mp hd
    exact ⟨_, rfl, h x hx⟩
theorem lc_b {i : Nat} {fe : DE} {e0 : Ev} {q : Int → Bool} {ds : List Int} (h : ∀ x ∈ ds, fe (e0.set i (.v (.int x))) = ret (.bl (q x))) (hl : ds.length ≤ 100000) : dLcLoop (.nm i) dYes fe e0 (iL ds) [] = ret (bL (ds.map q)) := by
  unfold iL bL
  rw [lc_map (h := fun d => match d with | .int x => .bl (q x) | d => d) (fun d hd => ?_) (by simpa using hl)]
  · rw [List.map_map, List.map_map]
    rfl
  · obtain ⟨x, hx, rfl⟩ := List.mem_map.mp hd
    exact ⟨_, rfl, h x hx⟩
/-- shares with an excess -/
def sh (e : Int) (ds : List Int) : Int := (ds.map fun d => min d e).sum
def cap (c : Option Int) (s : Int) : Int := match c with
  | none => s
  | some m => min m s
def costP (P : Pol) (ds : List Int) : Int := P.p + cap P.c (sh P.e ds)
@[simp] theorem sh_nil {e : Int} : sh e [] = 0 := rfl
@[simp] theorem sh_cons {e d : Int} {ds : List Int} : sh e (d :: ds) = min d e + sh e ds := by simp [sh]
@[simp] theorem sh_append {e : Int} {ds es : List Int} : sh e (ds ++ es) = sh e ds + sh e es := by simp [sh]
theorem cap_nonneg {P : Pol} (h : P.Ok) {s : Int} (hs : 0 ≤ s) : 0 ≤ cap P.c s := by
  obtain ⟨p, e, c⟩ := P
  cases c with
  | none => exact hs
  | some m =>
    have := (h.c0 m rfl).1
    show 0 ≤ min m s
    omega
theorem cap_le {c : Option Int} {s : Int} : cap c s ≤ s := by
  cases c with
  | none => exact Int.le_refl _
  | some m =>
    show min m s ≤ s
    omega
theorem sh_le {e : Int} : ∀ {ds : List Int}, sh e ds ≤ e * ds.length
  | [] => by simp
  | d :: ds => by
    have h2 := sh_le (e := e) (ds := ds)
    simp only [sh_cons, List.length_cons, Int.natCast_add, Int.mul_add]
    omega
theorem sh_nonneg {e : Int} (h : 0 ≤ e) : ∀ {ds : List Int}, (∀ x ∈ ds, 1 ≤ x ∧ x ≤ 1000000) → 0 ≤ sh e ds
  | [], _ => by simp
  | d :: ds, hd => by
    have h1 := hd d (by simp)
    have h2 := sh_nonneg h (ds := ds) fun x hx => hd x (by simp [hx])
    simp only [sh_cons]
    omega
/-- shares more: no less, and no more than they are -/
theorem cap_step (c : Option Int) {s t : Int} (h : s ≤ t) : cap c s ≤ cap c t ∧ cap c t ≤ cap c s + (t - s) := by
  cases c with
  | none => exact ⟨h, by show t ≤ s + (t - s); omega⟩
  | some m => exact ⟨by show min m s ≤ min m t; omega, by show min m t ≤ min m s + (t - s); omega⟩
theorem sh_mono {e f : Int} (h : e ≤ f) : ∀ {ds : List Int}, sh e ds ≤ sh f ds
  | [] => Int.le_refl _
  | d :: ds => by
    have := sh_mono h (ds := ds)
    rw [sh_cons, sh_cons]
    omega
end W

namespace W
open PySem PySem.Spec PyProof.Rows L2 Z
theorem capped_eq {P : Pol} {s : Int} : df_capped [polD P, .int s] = ret (.int (cap P.c s)) := by
  obtain ⟨p, e, c⟩ := P
  cases c with
  | none => simp [df_capped, body_capped, polD, cap]
  | some m => simp [df_capped, body_capped, polD, cap]
end W

namespace W
open PySem PySem.Spec PyProof.Rows L2 Z
theorem in_range_int {v lo hi : Int} : df_in_range [.int v, .int lo, .int hi] = ret (.bl (decide (lo ≤ v) && decide (v ≤ hi))) := by
  simp [df_in_range, body_in_range]
end W

namespace W
open PySem PySem.Spec PyProof.Rows L2 Z
theorem is_policy_ok {P : Pol} (h : P.Ok) : df_is_policy [polD P] = ret (.bl true) := by
  obtain ⟨p, e, c⟩ := P
  obtain ⟨h1, h2, h3, h4, h5⟩ := h
  simp only at h1 h2 h3 h4
  cases c with
  | none => simp [df_is_policy, body_is_policy, polD, in_range_int, h1, h2, h3, h4]
  | some c =>
    obtain ⟨h6, h7⟩ := h5 c rfl
    simp [df_is_policy, body_is_policy, polD, in_range_int, h1, h2, h3, h4, h6, h7]
end W

namespace W
open PySem PySem.Spec PyProof.Rows L2 Z
theorem check_policy_ok {P : Pol} (h : P.Ok) : df_check_policy [polD P] = ret .non := by
  simp [df_check_policy, body_check_policy, is_policy_ok h]
end W

namespace W
open PySem PySem.Spec PyProof.Rows L2 Z
theorem is_year_ok {ds : List Int} (h : YearOk 40 ds) : df_is_year [yearD ds] = ret (.bl true) := by
  have e : dLcLoop (.nm 1) dYes (dCall df_in_range (dCons (dVar 1) (dCons (dC (.int 1)) (dCons (dC (.int 1000000)) dNil)))) [.v (yearD ds), .no] (iL ds) [] = ret (bL (ds.map fun _ => true)) :=
    lc_b (fun x hx => by
      obtain ⟨h1, h2⟩ := h.2 x hx
      simp [in_range_int, h1, h2]) (by have := h.1; omega)
  have hl : ¬ (40 : Int) < ds.length := by
    have := h.1
    omega
  simp only [yearD] at e
  simp [df_is_year, body_is_year, yearD, hl, e]
  rw [List.all_eq_true.mpr (fun _ _ => rfl)]
end W

namespace W
open PySem PySem.Spec PyProof.Rows L2 Z
theorem check_year_ok {ds : List Int} (h : YearOk 40 ds) : df_check_year [yearD ds] = ret .non := by
  simp [df_check_year, body_check_year, is_year_ok h]
end W

namespace W
open PySem PySem.Spec PyProof.Rows L2 Z
theorem check_number_ok {v lo hi : Int} (h : lo ≤ v) (h' : v ≤ hi) : df_check_number [.int v, .int lo, .int hi] = ret .non := by
  simp [df_check_number, body_check_number, in_range_int, h, h']
end W

namespace W
open PySem PySem.Spec PyProof.Rows L2 Z
theorem shares_of_eq {e : Int} {ds : List Int} (h : ds.length ≤ 100000) : df_shares_of [.int e, yearD ds] = ret (.int (sh e ds)) := by
  have q : dLcLoop (.nm 2) dYes (dB min2 (dCons (dVar 2) (dCons (dVar 0) dNil))) [.v (.int e), .v (yearD ds), .no] (iL ds) [] = ret (iL (ds.map fun d => min d e)) := lc_i (fun x hx => by simp) h
  simp only [yearD] at q
  simp [df_shares_of, body_shares_of, yearD, q, sh]
end W

namespace W
open PySem PySem.Spec PyProof.Rows L2 Z
theorem cost_of_eq {P : Pol} {ds : List Int} (h : ds.length ≤ 100000) : df_cost_of [polD P, yearD ds] = ret (.int (costP P ds)) := by
  have e := capped_eq (P := P) (s := sh P.e ds)
  simp [df_cost_of, body_cost_of, shares_of_eq h, e, costP]
end W

namespace W
open PySem PySem.Spec PyProof.Rows L2 Z
theorem cost_eq {P : Pol} {ds : List Int} (hP : P.Ok) (hd : YearOk 40 ds) : df_cost [polD P, yearD ds] = ret (.int (costP P ds)) := by
  simp [df_cost, body_cost, check_policy_ok hP, check_year_ok hd, cost_of_eq (ds := ds) (by have := hd.1; omega)]
end W

namespace W
open PySem PySem.Spec PyProof.Rows L2 Z
theorem law_capped_eq {P : Pol} {s : Int} : df__law_capped [polD P, .int s] = ret (.int (cap P.c s)) := by
  obtain ⟨p, e, c⟩ := P
  cases c with
  | none => simp [df__law_capped, body__law_capped, polD, cap]
  | some m =>
    simp [df__law_capped, body__law_capped, polD, cap]
    by_cases h : s < m
    · rw [if_pos (by simpa using h)]
      congr 2
      omega
    · rw [if_neg (by simpa using h)]
      congr 2
      omega
theorem law_shares_eq {e : Int} {ds : List Int} : df__law_shares [.int e, yearD ds] = ret (.int (sh e ds)) := by
  have key : ∀ (ds : List Int) (acc : Int) (s1 s3 : Sl), ∃ s3', dLoop (.nm 3) lb__law_shares_1 (iL ds) [.v (.int e), s1, .v (.int acc), s3] = ret (.nx [.v (.int e), s1, .v (.int (acc + sh e ds)), s3']) := by
    intro ds
    induction ds with
    | nil => intro acc s1 s3; exact ⟨s3, by simp⟩
    | cons d ds ih =>
      intro acc s1 s3
      obtain ⟨s3', h⟩ := ih (acc + min d e) s1 (.v (.int d))
      refine ⟨s3', ?_⟩
      have hm : (if d < e then d else e) = min d e := by split <;> omega
      have hb : lb__law_shares_1 [.v (.int e), s1, .v (.int acc), .v (.int d)] = ret (.nx [.v (.int e), s1, .v (.int (acc + min d e)), .v (.int d)]) := by simp [lb__law_shares_1, hm]
      rw [iL_cons]
      simp [dLoop_cons, hb, h, Int.add_assoc]
  obtain ⟨s3', h⟩ := key ds 0 (.v (yearD ds)) .no
  simp only [yearD, Int.zero_add] at h
  simp [df__law_shares, body__law_shares, yearD, h]
theorem law_cost_eq {P : Pol} {ds : List Int} : df__law_cost [polD P, yearD ds] = ret (.int (costP P ds)) := by
  have h := law_capped_eq (P := P) (s := sh P.e ds)
  simp only [polD] at h
  simp [df__law_cost, body__law_cost, polD, law_shares_eq, h, costP]
@[simp] theorem costP_snoc {P : Pol} {ds : List Int} {d : Int} : costP P (ds ++ [d]) = P.p + cap P.c (sh P.e ds + min d P.e) := by simp [costP]
theorem law_cost_snoc {P : Pol} {ds : List Int} {d : Int} : df__law_cost [polD P, .tup (iL ds ++ [.int d])] = ret (.int (P.p + cap P.c (sh P.e ds + min d P.e))) := by
  have h := law_cost_eq (P := P) (ds := ds ++ [d])
  rw [yearD, iL_append, costP_snoc] at h
  exact h
end W

/-! costs of very many claims -/
namespace W
open PySem PySem.Spec PyProof.Rows L2 Z
def rowsD (rs : List (Int × Int)) : D := .tup (rs.map fun r => .tup [.int r.1, .int r.2])
/-- the shares of rows -/
def shR (e : Int) (rs : List (Int × Int)) : Int := (rs.map fun r => r.2 * min r.1 e).sum
theorem far_cost_eq {P : Pol} {rs : List (Int × Int)} (hP : P.Ok) (hl : rs.length ≤ 40) (hr : ∀ r ∈ rs, (1 ≤ r.1 ∧ r.1 ≤ 1000000) ∧ 0 ≤ r.2 ∧ r.2 ≤ 1000000000000) : df_far_cost [polD P, rowsD rs] = ret (.int (P.p + cap P.c (shR P.e rs))) := by
  have e0 := hP.e0
  have e1 := hP.e1
  have hp : (10 : Int) ^ 12 = 1000000000000 := by decide
  have lc1 : ∀ s : List Sl, 4 ≤ s.length → dLcLoop (.nm 3) dYes (dAnd (dIs .tuple (dVar 3)) (dOp eqD (dB len1 (dCons (dVar 3) dNil)) (dC (.int 2)))) s (rs.map fun r => D.tup [.int r.1, .int r.2]) [] = ret (bL (List.replicate rs.length true)) := fun s hs => by
    rw [lc_map (h := fun _ => .bl true) (fun d hd => ?_) (by simp; omega)]
    · rw [bL, List.map_replicate, List.map_const', List.length_map]
    · obtain ⟨r, _, rfl⟩ := List.mem_map.mp hd
      refine ⟨_, rfl, ?_⟩
      have g : (s.set 3 (.v (.tup [.int r.1, .int r.2])))[3]? = some (.v (.tup [.int r.1, .int r.2])) := List.getElem?_set_self (by omega)
      simp [g]
  have k : ∀ (qs : List (Int × Int)), (∀ r ∈ qs, (1 ≤ r.1 ∧ r.1 ≤ 1000000) ∧ 0 ≤ r.2 ∧ r.2 ≤ 1000000000000) → ∀ (s0 s1 s2 s3 s4 s5 : Sl), ∃ s4' s5', dLoop (.tp [4, 5]) lb_far_cost_1 (qs.map fun r => D.tup [.int r.1, .int r.2]) [s0, s1, s2, s3, s4, s5] = ret (.nx [s0, s1, s2, s3, s4', s5']) := by
    intro qs
    induction qs with
    | nil => intro _ s0 s1 s2 s3 s4 s5; exact ⟨s4, s5, rfl⟩
    | cons q qs ih =>
      intro hq s0 s1 s2 s3 s4 s5
      obtain ⟨s4', s5', e⟩ := ih (fun r h => hq r (by simp [h])) s0 s1 s2 s3 (.v (.int q.1)) (.v (.int q.2))
      obtain ⟨⟨a0, a1⟩, b0, b1⟩ := hq q (by simp)
      have b : lb_far_cost_1 [s0, s1, s2, s3, .v (.int q.1), .v (.int q.2)] = ret (.nx [s0, s1, s2, s3, .v (.int q.1), .v (.int q.2)]) := by
        simp [lb_far_cost_1, df_check_damage, body_check_damage, in_range_int, a0, a1, hp, check_number_ok b0 b1]
      refine ⟨s4', s5', ?_⟩
      simp [dLoop_cons, b, e]
  obtain ⟨t4, t5, el⟩ := k rs hr (.v (polD P)) (.v (rowsD rs)) (.v (.bl true)) .no .no .no
  have lc2 : ∀ s2 s3 : Sl, dLcLoop (.tp [4, 5]) dYes (dOp mulD (dVar 5) (dB min2 (dCons (dVar 4) (dCons (dOp ixD (dVar 0) (dC (.int 1))) dNil)))) [.v (polD P), .v (rowsD rs), s2, s3, .no, .no] (rs.map fun r => D.tup [.int r.1, .int r.2]) [] = ret (iL (rs.map fun r => r.2 * min r.1 P.e)) := fun s2 s3 => by
    rw [lc_map (h := fun d => match d with | .tup [.int a, .int b] => .int (b * min a P.e) | _ => .non) (fun d hd => ?_) (by simp; omega)]
    · rw [iL, List.map_map, List.map_map]
      rfl
    · obtain ⟨r, hr1, rfl⟩ := List.mem_map.mp hd
      obtain ⟨⟨a0, a1⟩, b0, b1⟩ := hr r hr1
      exact ⟨_, rfl, by simp [mulD_int (i := r.2) (j := min r.1 P.e) (by omega)]⟩
  have hl2 : (rs.length : Int) ≤ 40 := by omega
  have hc := capped_eq (P := P) (s := (rs.map fun r => r.2 * min r.1 P.e).sum)
  simp only [rowsD] at el lc2
  simp [df_far_cost, body_far_cost, check_policy_ok hP, rowsD, hl2, lc1, el, lc2, hc, shR]
end W

/-! cuts of tuples of whole numbers -/
namespace W
open PySem PySem.Spec PyProof.Rows L2 Z
theorem cut_from {xs : List D} {m : Nat} : Z.cutD xs (some (m : Int)) none = xs.drop m := by
  unfold Z.cutD
  rw [HT.sIx_none, HT.sIx_nat]
  apply List.ext_getElem?
  intro i
  rw [List.getElem?_take, List.getElem?_drop, List.getElem?_drop]
  by_cases h : m ≤ xs.length
  · rw [Nat.min_eq_left h]
    split
    · rfl
    · rw [List.getElem?_eq_none (by omega)]
  · rw [Nat.min_eq_right (by omega), if_neg (by omega), List.getElem?_eq_none (by omega)]
theorem sl_to {ds : List Int} {i : Int} {n : Nat} {M : MS} (h : i = n) : slD (.tup (iL ds)) none (some i) M = some (.tup (iL (ds.take n))) := by
  subst h
  show some (D.tup (Z.cutD (iL ds) none (some (n : Int)))) = _
  rw [cut_to, iL, ← List.map_take]
  rfl
theorem sl_from {ds : List Int} {i : Int} {n : Nat} {M : MS} (h : i = n) : slD (.tup (iL ds)) (some i) none M = some (.tup (iL (ds.drop n))) := by
  subst h
  show some (D.tup (Z.cutD (iL ds) (some (n : Int)) none)) = _
  rw [cut_from, iL, ← List.map_drop]
  rfl
theorem at_iL {ds : List Int} {i : Int} {n : Nat} {x : Int} (h : i = n) (hx : ds[n]? = some x) : atI (iL ds) i = some (.int x) := by
  subst h
  refine atI_nat (j := n) ?_
  rw [iL, List.getElem?_map, hx]
  rfl
/-- two neighbours -/
theorem pair_at {ds : List Int} {n : Nat} (h : n + 1 < ds.length) : ∃ A a b B, ds = A ++ a :: b :: B ∧ A.length = n := by
  refine ⟨ds.take n, ds[n], ds[n + 1], ds.drop (n + 2), ?_, by rw [List.length_take]; omega⟩
  rw [← List.drop_eq_getElem_cons, ← List.drop_eq_getElem_cons, List.take_append_drop]
theorem one_at {ds : List Int} {n : Nat} (h : n < ds.length) : ∃ A a B, ds = A ++ a :: B ∧ A.length = n := by
  refine ⟨ds.take n, ds[n], ds.drop (n + 1), ?_, by rw [List.length_take]; omega⟩
  rw [← List.drop_eq_getElem_cons, List.take_append_drop]
theorem ne_empty {ds : List Int} {M : MS} : neD (.tup (iL ds)) (.tup []) M = some (.bl (!ds.isEmpty)) := by
  rw [neD_eq (by simp) (by simp)]
  cases ds <;> simp [iL_cons]
theorem eq_empty {ds : List Int} {M : MS} : eqD (.tup (iL ds)) (.tup []) M = some (.bl ds.isEmpty) := by
  rw [eqD_eq (by simp) (by simp)]
  cases ds <;> simp [iL_cons]
end W

/-! _law_same of a value and itself -/
namespace W
open PySem PySem.Spec PyProof.Rows L2 Z
/-- values whose sameness is asked: None, truth values, whole numbers, lists and tuples of such -/
def okS : Nat → D → Bool
  | _, .non => true
  | _, .bl _ => true
  | _, .int _ => true
  | _, .str x => PyData.strOk x
  | n + 1, .tup xs => decide (xs.length ≤ 100000) && xs.all (okS n)
  | n + 1, .lst xs => decide (xs.length ≤ 100000) && xs.all (okS n)
  | _, _ => false
@[simp] theorem okS_non {n : Nat} : okS n .non = true := by cases n <;> rfl
@[simp] theorem okS_bl {n : Nat} {b : Bool} : okS n (.bl b) = true := by cases n <;> rfl
@[simp] theorem okS_int {n : Nat} {i : Int} : okS n (.int i) = true := by cases n <;> rfl
@[simp] theorem okS_str {n : Nat} {x : Str} : okS n (.str x) = PyData.strOk x := by cases n <;> rfl
@[simp] theorem okS_tup {n : Nat} {xs : List D} : okS (n + 1) (.tup xs) = (decide (xs.length ≤ 100000) && xs.all (okS n)) := rfl
@[simp] theorem okS_lst {n : Nat} {xs : List D} : okS (n + 1) (.lst xs) = (decide (xs.length ≤ 100000) && xs.all (okS n)) := rfl
@[simp] theorem okS_iL {n : Nat} {ns : List Int} : (iL ns).all (okS n) = true := by
  unfold iL
  induction ns with
  | nil => rfl
  | cons a r ih => simp only [List.map_cons, List.all_cons, okS_int, ih, Bool.and_self]
theorem zipD_same {xs : List D} {p : D} (h : p ∈ zipD xs xs) : ∃ x ∈ xs, p = .tup [x, x] := by
  induction xs with
  | nil => cases h
  | cons x r ih =>
    rcases List.mem_cons.mp h with q | q
    · exact ⟨x, by simp, q⟩
    · obtain ⟨y, h1, h2⟩ := ih q
      exact ⟨y, by simp [h1], h2⟩
theorem zipD_len {xs : List D} : (zipD xs xs).length = xs.length := by
  induction xs with
  | nil => rfl
  | cons x r ih =>
    show (zipD r r).length + 1 = r.length + 1
    rw [ih]
theorem same_lc {r : DF} {e : Ev} {xs : List D} (hl : xs.length ≤ 100000) (h : ∀ x ∈ xs, r [x, x] = ret (.bl true)) (he : 4 ≤ e.length) : dLcLoop (.tp [2, 3]) dYes (dCall r (dCons (dVar 2) (dCons (dVar 3) dNil))) e (zipD xs xs) [] = ret (bL (List.replicate xs.length true)) := by
  rw [lc_map (h := fun _ => .bl true) (fun p hp => ?_) (by rw [zipD_len]; exact hl)]
  · rw [bL, List.map_replicate, List.map_const', zipD_len]
  · obtain ⟨x, hx, rfl⟩ := zipD_same hp
    refine ⟨_, rfl, ?_⟩
    have g2 : ((e.set 2 (.v x)).set 3 (.v x))[2]? = some (.v x) := by
      rw [List.getElem?_set_ne (by decide)]
      exact List.getElem?_set_self (by omega)
    have g3 : ((e.set 2 (.v x)).set 3 (.v x))[3]? = some (.v x) := List.getElem?_set_self (by simp; omega)
    simp only [dCall_eq, dCons_eq, dVar_eq, g2, g3, varK_v, bnd_ret, dNil_eq, h x hx]
theorem same_rec : ∀ (n : Nat) (d : D), okS n d = true → rec__law_same (n + 1) [d, d] = ret (.bl true)
  | n, .non, _ => by simp [rec__law_same, body__law_same]
  | n, .bl b, _ => by simp [rec__law_same, body__law_same, eqD]
  | n, .int i, _ => by simp [rec__law_same, body__law_same]
  | n, .str x, h => by
    have h : PyData.strOk x = true := by simpa using h
    have e : ∀ M, eqD (.str x) (.str x) M = some (.bl true) := fun M => by
      rw [eqD_eq (by simpa [okN] using h) (by simpa [okN] using h)]
      simp [eqN]
    simp [rec__law_same, body__law_same, e]
  | n + 1, .tup xs, h => by
    rw [okS_tup, Bool.and_eq_true, decide_eq_true_eq] at h
    have hx : ∀ x ∈ xs, rec__law_same (n + 1) [x, x] = ret (.bl true) := fun x hx => same_rec n x (List.all_eq_true.mp h.2 x hx)
    have e := same_lc (r := rec__law_same (n + 1)) (e := [.v (.tup xs), .v (.tup xs), .no, .no]) h.1 hx (by simp)
    rw [rec__law_same]
    simp [body__law_same, e]
  | n + 1, .lst xs, h => by
    rw [okS_lst, Bool.and_eq_true, decide_eq_true_eq] at h
    have hx : ∀ x ∈ xs, rec__law_same (n + 1) [x, x] = ret (.bl true) := fun x hx => same_rec n x (List.all_eq_true.mp h.2 x hx)
    have e := same_lc (r := rec__law_same (n + 1)) (e := [.v (.lst xs), .v (.lst xs), .no, .no]) h.1 hx (by simp)
    rw [rec__law_same]
    simp [body__law_same, e]
  | 0, .tup _, h => by cases h
  | 0, .lst _, h => by cases h
  | 0, .dct _ _, h => by cases h
  | n + 1, .dct _ _, h => by cases h
  | 0, .scr _, h => by cases h
  | n + 1, .scr _, h => by cases h
  | 0, .obj _, h => by cases h
  | n + 1, .obj _, h => by cases h
  | 0, .con _, h => by cases h
  | n + 1, .con _, h => by cases h
theorem same_ok {d e : D} (h : okS 7 d = true) (he : e = d) : df__law_same [e, d] = ret (.bl true) := by
  subst he
  exact same_rec 7 e h
end W

/-! rows of whole numbers -/
namespace W
open PySem PySem.Spec PyProof.Rows L2 Z
theorem eqL_iL {n : Nat} : ∀ {a b : List Int}, eqL (eqN n) (iL a) (iL b) = (a == b)
  | [], [] => rfl
  | [], b :: r => by rw [iL_cons]; rfl
  | a :: r, [] => by rw [iL_cons]; rfl
  | a :: r, b :: t => by
    rw [iL_cons, iL_cons, eqL_cons, eqN_int, eqL_iL (a := r) (b := t)]
    rfl
theorem neD_lst {a b : List Int} {M : MS} : neD (.lst (iL a)) (.lst (iL b)) M = some (.bl (!(a == b))) := by
  rw [neD_eq (by simp) (by simp), eqN_lst, eqL_iL]
theorem eqD_lst {a b : List Int} {M : MS} : eqD (.lst (iL a)) (.lst (iL b)) M = some (.bl (a == b)) := by
  rw [eqD_eq (by simp) (by simp), eqN_lst, eqL_iL]
theorem neD_tup {a b : List Int} {M : MS} : neD (.tup (iL a)) (.tup (iL b)) M = some (.bl (!(a == b))) := by
  rw [neD_eq (by simp) (by simp), eqN_tup, eqL_iL]
theorem eqD_tup {a b : List Int} {M : MS} : eqD (.tup (iL a)) (.tup (iL b)) M = some (.bl (a == b)) := by
  rw [eqD_eq (by simp) (by simp), eqN_tup, eqL_iL]
theorem at_head {x : Int} {L : List Int} : atI (iL (x :: L)) 0 = some (.int x) := by rw [iL_cons, atI_0]
theorem at_last {x : Int} {L : List Int} : atI (iL (L ++ [x])) (-1) = some (.int x) := by
  unfold atI
  have h : ixN (iL (L ++ [x])).length (-1) = some L.length := by
    unfold ixN
    rw [iL_length, List.length_append, List.length_singleton]
    rw [if_neg (by omega)]
    rw [if_pos (by omega)]
    congr 1
    omega
  rw [h, iL_append]
  simp only [Option.bind_some]
  rw [List.getElem?_append_right (by simp), iL_length, Nat.sub_self]
  rfl
theorem sorted_iL {L : List Int} {M : MS} (h : L.Pairwise (· ≤ ·)) (hl : L.length ≤ 100000) : sorted1 [.lst (iL L)] M = some (.lst (iL L)) := by
  have e : sortI L = L := pw_eq (sortI_perm L) (sortI_pw L) h
  unfold sorted1 iL
  simp only [intsOf_ints, Option.bind_some, if_pos hl, e]
theorem sortedT_iL {L : List Int} {M : MS} (h : L.Pairwise (· ≤ ·)) (hl : L.length ≤ 100000) : sortedT1 [.tup (iL L)] M = some (.lst (iL L)) := by
  have e : sortI L = L := pw_eq (sortI_perm L) (sortI_pw L) h
  unfold sortedT1 iL
  simp only [intsOf_ints, Option.bind_some, if_pos hl, e]
theorem sortedI_iL {L : List Int} {M : MS} (hl : L.length ≤ 100000) : sorted1 [.lst (iL L)] M = some (.lst (iL (sortI L))) := by
  unfold sorted1 iL
  simp only [intsOf_ints, Option.bind_some, if_pos hl]
theorem noErr_at {α : Type} {m : Mo α} {M M' : MS} {a : α} (h : m M = some (.ok a, M')) : noErr m M = some (.ok a, M') := by
  unfold noErr
  rw [h]
theorem tk_noErr {α : Type} {k c : Nat} {m : Mo α} {p : α → Prop} (h : Tk k c m p) : Tk k c (noErr m) p := fun n M b => by
  obtain ⟨a, M', e, r⟩ := h n M b
  exact ⟨a, M', noErr_at e, r⟩
/-- comprehensions with draws -/
theorem Tk.lc {k c : Nat} {t : Tg} {fe : DE} {e0 : Ev} {P : D → Prop} : ∀ {items acc : List D}, (∀ x ∈ items, ∃ e1, asg t x e0 = some e1 ∧ Tk k c (fe e1) P) → (∀ y ∈ acc, P y) → acc.length + items.length ≤ 100000 →
    Tk k (c * items.length) (dLcLoop t dYes fe e0 items acc) (fun ys => ys.length = acc.length + items.length ∧ ∀ y ∈ ys, P y)
  | [], acc, _, h, _ => Tk.ret ⟨rfl, h⟩
  | x :: xs, acc, H, h, hl => by
    obtain ⟨e1, h1, h2⟩ := H x (by simp)
    rw [List.length_cons] at hl
    unfold dLcLoop
    rw [h1, lft_some, bnd_ret, show dYes e1 = ret true from rfl, noErr_ret, bnd_ret, if_pos rfl]
    refine (Tk.bind (tk_noErr h2) (c2 := c * xs.length) fun y hy => ?_).mono (by rw [List.length_cons, Nat.mul_succ]; omega) fun ys h => h
    rw [if_pos (by omega)]
    refine (Tk.lc (items := xs) (acc := acc ++ [y]) (fun z hz => H z (by simp [hz])) (fun z hz => ?_) (by simp; omega)).mono (Nat.le_refl _) fun ys hy => ⟨?_, hy.2⟩
    · rcases List.mem_append.mp hz with q | q
      · exact h z q
      · have : z = y := by simpa using q
        exact this ▸ hy
    · rw [hy.1, List.length_append, List.length_singleton, List.length_cons]
      omega
theorem ints_of {lo hi : Int} : ∀ {ys : List D}, (∀ y ∈ ys, IsI lo hi y) → ∃ L : List Int, ys = iL L ∧ ∀ x ∈ L, lo ≤ x ∧ x < hi
  | [], _ => ⟨[], rfl, fun x h => by cases h⟩
  | y :: ys, h => by
    obtain ⟨r, e, r0, r1⟩ := h y (by simp)
    obtain ⟨L, e2, h2⟩ := ints_of (ys := ys) fun z hz => h z (by simp [hz])
    refine ⟨r :: L, by rw [iL_cons, e, e2], fun x hx => ?_⟩
    rcases List.mem_cons.mp hx with q | q
    · rw [q]
      exact ⟨r0, r1⟩
    · exact h2 x q
/-- comprehensions with a test -/
theorem lc_f {i : Nat} {ft : DT} {fe : DE} {e0 : Ev} {p : Int → Bool} {q : Int → Int} {L : List Int} (h : ∀ x ∈ L, ft (e0.set i (.v (.int x))) = ret (p x) ∧ fe (e0.set i (.v (.int x))) = ret (.int (q x))) (hl : L.length ≤ 100000) :
    dLcLoop (.nm i) ft fe e0 (iL L) [] = ret (iL ((L.filter p).map q)) := by
  rw [lc_pure (p := fun d => match d with | .int x => p x | _ => false) (h := fun d => match d with | .int x => .int (q x) | d => d) (fun d hd => ?_) (by simpa using hl)]
  · unfold iL
    rw [List.nil_append, List.filter_map, List.map_map, List.map_map]
    rfl
  · obtain ⟨x, hx, rfl⟩ := List.mem_map.mp hd
    exact ⟨_, rfl, (h x hx).1, fun _ => (h x hx).2⟩
/-- 0, 1, … -/
def rng (n : Nat) : List Int := (List.range n).map fun i : Nat => (i : Int)
theorem rngD_rng {n : Nat} : rngD 0 n = iL (rng n) := by
  unfold rngD rng iL
  rw [List.map_map]
  refine List.map_congr_left fun i _ => ?_
  show D.int (0 + (i : Int)) = D.int i
  rw [Int.zero_add]
theorem rng_succ {n : Nat} : rng (n + 1) = rng n ++ [(n : Int)] := by
  unfold rng
  rw [List.range_succ, List.map_append]
  rfl
theorem rng_len {n : Nat} : (rng n).length = n := by simp [rng]
theorem mem_rng {n : Nat} {x : Int} : x ∈ rng n ↔ 0 ≤ x ∧ x < n := by
  unfold rng
  rw [List.mem_map]
  constructor
  · rintro ⟨i, hi, rfl⟩
    have := List.mem_range.mp hi
    omega
  · intro h
    exact ⟨x.toNat, List.mem_range.mpr (by omega), by omega⟩
theorem rng_get {n i : Nat} (h : i < n) : (rng n)[i]? = some (i : Int) := by simp [rng, h]
theorem rng_pw : ∀ {n : Nat}, (rng n).Pairwise (· < ·)
  | 0 => .nil
  | n + 1 => by
    rw [rng_succ, List.pairwise_append]
    refine ⟨rng_pw, List.pairwise_singleton _ _, fun a ha b hb => ?_⟩
    rw [List.mem_singleton] at hb
    have := (mem_rng.mp ha).2
    omega
end W

/-! own, total_cost, walk, as_one, claim by claim -/
namespace W
open PySem PySem.Spec PyProof.Rows L2 Z
theorem own_eq {P : Pol} {ds : List Int} (hP : P.Ok) (hd : YearOk 40 ds) : df_own [polD P, yearD ds] = ret (.int (cap P.c (sh P.e ds))) := by
  have h1 := shares_of_eq (e := P.e) (ds := ds) (by have := hd.1; omega)
  have h2 := capped_eq (P := P) (s := sh P.e ds)
  simp [df_own, body_own, check_policy_ok hP, check_year_ok hd, h1, h2]
theorem as_one3_eq {P : Pol} {ds : List Int} (hP : P.Ok) (hd : YearOk 40 ds) : df_as_one [polD P, yearD ds] = ret (.int (P.p + cap P.c (min ds.sum P.e))) := by
  have e := capped_eq (P := P) (s := min ds.sum P.e)
  have c := check_year_ok hd
  rw [yearD] at c
  simp [df_as_one, body_as_one, check_policy_ok hP, c, e, yearD]
/-- several years -/
theorem total_loop {P : Pol} : ∀ {ys : List (List Int)}, (∀ y ∈ ys, YearOk 40 y) → ∀ (s0 s1 s2 : Sl), ∃ s2', dLoop (.nm 2) lb_total_cost_1 (ys.map yearD) [s0, s1, s2] = ret (.nx [s0, s1, s2'])
  | [], _, s0, s1, s2 => ⟨s2, rfl⟩
  | y :: ys, h, s0, s1, s2 => by
    obtain ⟨s2', e⟩ := total_loop (P := P) (ys := ys) (fun z hz => h z (by simp [hz])) s0 s1 (.v (yearD y))
    have b : lb_total_cost_1 [s0, s1, .v (yearD y)] = ret (.nx [s0, s1, .v (yearD y)]) := by simp [lb_total_cost_1, check_year_ok (h y (by simp))]
    exact ⟨s2', by rw [List.map_cons, dLoop_cons]; simp [b, e]⟩
theorem total_eq {P : Pol} {ys : List (List Int)} (hP : P.Ok) (h : ∀ y ∈ ys, YearOk 40 y) (hl : ys.length ≤ 100) : df_total_cost [polD P, .tup (ys.map yearD)] = ret (.int (ys.map (costP P)).sum) := by
  obtain ⟨s2', e⟩ := total_loop (P := P) h (.v (polD P)) (.v (.tup (ys.map yearD))) .no
  have lc : ∀ s2, dLcLoop (.nm 2) dYes (dCall df_cost_of (dCons (dVar 0) (dCons (dVar 2) dNil))) [.v (polD P), s2, .no] (ys.map yearD) [] = ret (iL (ys.map (costP P))) := fun s2 => by
    rw [lc_map (h := fun d => match d with | .tup xs => .int (costP P (xs.map fun x => match x with | .int i => i | _ => 0)) | _ => .non) (fun d hd => ?_) (by simp; omega)]
    · rw [iL, List.map_map, List.map_map]
      congr 2
      funext y
      simp [yearD, iL, Function.comp_def]
    · obtain ⟨y, hy, rfl⟩ := List.mem_map.mp hd
      refine ⟨_, rfl, ?_⟩
      have q := cost_of_eq (P := P) (ds := y) (by have := (h y hy).1; omega)
      have w : (y.map fun x => x) = y := by simp
      simp [q]
      simp [yearD, iL, Function.comp_def]
  simp [df_total_cost, body_total_cost, check_policy_ok hP, e, lc]
/-! ### walk -/
def wk (P : Pol) : Int → List Int → List Int
  | _, [] => []
  | s, d :: ds => (cap P.c (s + min d P.e) - cap P.c s) :: wk P (s + min d P.e) ds
theorem wk_snoc {P : Pol} : ∀ (ds : List Int) (s d : Int), wk P s (ds ++ [d]) = wk P s ds ++ [cap P.c (s + sh P.e ds + min d P.e) - cap P.c (s + sh P.e ds)]
  | [], s, d => by simp [wk]
  | x :: ds, s, d => by
    have ih := wk_snoc (P := P) ds (s + min x P.e) d
    rw [List.cons_append, wk, ih, wk, sh_cons]
    rw [show s + min x P.e + sh P.e ds = s + (min x P.e + sh P.e ds) by omega]
    rfl
theorem wk_len {P : Pol} : ∀ (ds : List Int) (s : Int), (wk P s ds).length = ds.length
  | [], _ => rfl
  | d :: ds, s => by rw [wk, List.length_cons, List.length_cons, wk_len ds]
/-- the body of the generator's loop, capped abstract -/
theorem walk_turn {F : DF} {P : Pol} {d s : Int} {s1 s4 : Sl} {zs : List Int} (hF : ∀ t, F [polD P, .int t] = ret (.int (cap P.c t))) (hl : zs.length < 1000) :
    (gSeq (gPlain (dSet 4 (dCall F (dCons (dVar 0) (dCons (dVar 2) dNil))))) (gSeq (gPlain (dSet 2 (dOp addD (dVar 2) (dB min2 (dCons (dVar 3) (dCons (dOp ixD (dVar 0) (dC (.int 1))) dNil)))))) (gSeq (gYield (dOp subD (dCall F (dCons (dVar 0) (dCons (dVar 2) dNil))) (dVar 4))) Z.gNil)))
      [.v (polD P), s1, .v (.int s), .v (.int d), s4] zs = ret (.nx [.v (polD P), s1, .v (.int (s + min d P.e)), .v (.int d), .v (.int (cap P.c s))] (zs ++ [cap P.c (s + min d P.e) - cap P.c s])) := by
  simp [gSeq, gPlain, gYield, Z.gNil, hF, hl]
theorem walk_loop {F : DF} {P : Pol} {s1 : Sl} (hF : ∀ t, F [polD P, .int t] = ret (.int (cap P.c t))) : ∀ (ds : List Int) (s : Int) (s3 s4 : Sl) (zs : List Int), zs.length + ds.length ≤ 1000 → ∃ e', gLoop (.nm 3)
    (gSeq (gPlain (dSet 4 (dCall F (dCons (dVar 0) (dCons (dVar 2) dNil))))) (gSeq (gPlain (dSet 2 (dOp addD (dVar 2) (dB min2 (dCons (dVar 3) (dCons (dOp ixD (dVar 0) (dC (.int 1))) dNil)))))) (gSeq (gYield (dOp subD (dCall F (dCons (dVar 0) (dCons (dVar 2) dNil))) (dVar 4))) Z.gNil)))
    (iL ds) [.v (polD P), s1, .v (.int s), s3, s4] zs = ret (.nx e' (zs ++ wk P s ds))
  | [], s, s3, s4, zs, _ => ⟨[.v (polD P), s1, .v (.int s), s3, s4], by simp [gLoop, wk]⟩
  | d :: ds, s, s3, s4, zs, h => by
    rw [List.length_cons] at h
    obtain ⟨e', q⟩ := walk_loop hF ds (s + min d P.e) (.v (.int d)) (.v (.int (cap P.c s))) (zs ++ [cap P.c (s + min d P.e) - cap P.c s]) (by rw [List.length_append, List.length_singleton]; omega)
    have t := walk_turn (F := F) (P := P) (d := d) (s := s) (s1 := s1) (s4 := s4) (zs := zs) hF (by omega)
    refine ⟨e', ?_⟩
    rw [iL_cons, gLoop, asg_nm, lft_some, bnd_ret]
    rw [show ([.v (polD P), s1, .v (.int s), s3, s4] : Ev).set 3 (.v (.int d)) = [.v (polD P), s1, .v (.int s), .v (.int d), s4] from rfl, t, bnd_ret]
    simp only []
    rw [q, wk]
    simp
theorem walk_eq {P : Pol} {ds : List Int} {M : MS} (hP : P.Ok) (hd : YearOk 40 ds) : gf_walk [polD P, yearD ds] M = some (wk P 0 ds, M) := by
  obtain ⟨e', q⟩ := walk_loop (F := df_capped) (P := P) (s1 := .v (yearD ds)) (fun t => capped_eq) ds 0 .no .no [] (by have := hd.1; simp; omega)
  have h : body_walk [.v (polD P), .v (yearD ds), .no, .no, .no] [] = ret (.nx e' (wk P 0 ds)) := by
    have c1 := check_policy_ok hP
    have c2 := check_year_ok hd
    have q2 : gLoop (.nm 3) _ (iL ds) [.v (polD P), .v (yearD ds), .v (.int 0), .no, .no] [] = _ := q
    rw [body_walk]
    generalize gSeq (gPlain (dSet 4 _)) _ = body at q2 ⊢
    simp [gSeq, gPlain, Z.gNil, gFor, c1, c2]
    rw [yearD, itemsK_tup, bnd_ret]
    rw [yearD] at q2
    rw [q2]
    rfl
  unfold gf_walk mkGF
  rw [show ([polD P, yearD ds].map Sl.v ++ List.replicate (5 - [polD P, yearD ds].length) .no : Ev) = [.v (polD P), .v (yearD ds), .no, .no, .no] from rfl, h]
  rfl
end W

/-! drawn far numbers; the rows claim by claim -/
namespace W
open PySem PySem.Spec PyProof.Rows L2 Z
theorem tk_wh_go {k c1 c2 n : Nat} {c : DT} {body : DS} {e : Ev} {I : Ev → Prop} {post : Oc → Prop} (h1 : c e = ret true) (h2 : Tk k c1 (body e) fun o => ∃ e', o = .nx e' ∧ I e') (h3 : ∀ e', I e' → Tk k c2 (dWh c body n e') post) : Tk k (c1 + c2) (dWh c body (n + 1) e) post := by
  rw [dWh, h1, bnd_ret, if_pos rfl]
  refine h2.bind fun o ⟨e', ho, hi⟩ => ?_
  subst ho
  exact h3 e' hi
theorem tk_wh_end {k c2 n : Nat} {c : DT} {body : DS} {e : Ev} {post : Oc → Prop} (h1 : c e = ret false) (h : post (.nx e)) : Tk k c2 (dWh c body (n + 1) e) post := by
  rw [dWh, h1, bnd_ret, if_neg (by decide)]
  exact Tk.ret h
theorem far_turn {k : Nat} {f m : Int} {s1 : Sl} (hf0 : 0 ≤ f) (hf1 : f < 1000000000000000000) : Tk k 1 (lb__law_far_1 [.v (.obj k), s1, .v (.int f), .v (.int m)]) fun o => ∃ e', o = .nx e' ∧ ∃ f', e' = [.v (.obj k), s1, .v (.int f'), .v (.int (m / 1000))] ∧ 0 ≤ f' ∧ f' < 1000 * (f + 1) := by
  simp [lb__law_far_1, bnd_assoc, mulD_int (i := 1000) (j := f) (by omega)]
  refine (take_bind (c := 0) (by omega) (by omega) fun r a0 a1 => ?_)
  simp
  exact Tk.ret ⟨_, rfl, _, rfl, by omega, by omega⟩
theorem far_test {s0 s1 s2 : Sl} {m : Int} : dTest (dOp gtD (dVar 3) (dC (.int 0))) [s0, s1, s2, .v (.int m)] = ret (decide (0 < m)) := by simp
theorem far_ok {k : Nat} : Tk k 6 (df__law_far [.obj k, .int 1000000000000]) (IsI 0 1000000000000) := by
  have w : Tk k 5 (dWh (dTest (dOp gtD (dVar 3) (dC (.int 0)))) lb__law_far_1 100000 [.v (.obj k), .v (.int 1000000000000), .v (.int 0), .v (.int 1000000000000)]) fun o => ∃ f s3, o = .nx [.v (.obj k), .v (.int 1000000000000), .v (.int f), s3] ∧ 0 ≤ f := by
    generalize hb : lb__law_far_1 = body
    have tn : ∀ {f m : Int} {s1 : Sl}, 0 ≤ f → f < 1000000000000000000 → Tk k 1 (body [.v (.obj k), s1, .v (.int f), .v (.int m)]) fun o => ∃ e', o = .nx e' ∧ ∃ f', e' = [.v (.obj k), s1, .v (.int f'), .v (.int (m / 1000))] ∧ 0 ≤ f' ∧ f' < 1000 * (f + 1) := fun h0 h1 => hb ▸ far_turn h0 h1
    refine tk_wh_go (c1 := 1) (c2 := 4) (n := 99999) far_test (tn (by omega) (by omega)) fun e1 ⟨f1, h1, a1, b1⟩ => ?_
    subst h1
    refine tk_wh_go (c1 := 1) (c2 := 3) (n := 99998) far_test (tn (by omega) (by omega)) fun e2 ⟨f2, h2, a2, b2⟩ => ?_
    subst h2
    refine tk_wh_go (c1 := 1) (c2 := 2) (n := 99997) far_test (tn (by omega) (by omega)) fun e3 ⟨f3, h3, a3, b3⟩ => ?_
    subst h3
    refine tk_wh_go (c1 := 1) (c2 := 1) (n := 99996) far_test (tn (by omega) (by omega)) fun e4 ⟨f4, h4, a4, b4⟩ => ?_
    subst h4
    refine tk_wh_go (c1 := 1) (c2 := 0) (n := 99995) far_test (tn (by omega) (by omega)) fun e5 ⟨f5, h5, a5, b5⟩ => ?_
    subst h5
    exact tk_wh_end (n := 99994) far_test ⟨f5, _, rfl, a5⟩
  have w2 := w
  simp [df__law_far, body__law_far, bnd_assoc]
  generalize dWh _ lb__law_far_1 100000 = W at w2 ⊢
  refine ((w2.bind (c2 := 1) fun o ⟨f, s3, e, hf⟩ => ?_).mono (by omega) fun _ h => h)
  subst e
  have m0 := Int.emod_nonneg f (show (1000000000000 : Int) ≠ 0 by decide)
  have m1 := Int.emod_lt_of_pos f (show (0 : Int) < 1000000000000 by decide)
  rw [seqK_nx]
  simp [bnd_assoc]
  refine take_bind (c := 0) (by omega) (by omega) fun r a0 a1 => ?_
  have hr : r = 0 ∨ r = 1 ∨ r = 2 ∨ r = 3 := by omega
  rcases hr with rfl | rfl | rfl | rfl <;> simp <;> exact Tk.ret ⟨_, rfl, by omega, by omega⟩
/-! ### the rows -/
theorem cap_zero {P : Pol} (hP : P.Ok) : cap P.c 0 = 0 := by
  obtain ⟨p, e, c⟩ := P
  cases c with
  | none => rfl
  | some m =>
    have := (hP.c0 m rfl).1
    show min m 0 = 0
    omega
/-- one turn of the loop over the claims; C, S: the law's own shares and cap -/
theorem rows_turn {P : Pol} {ds zs : List Int} {j : Nat} {s0 s1 s2 s5 s6 s7 s8 s11 s12 s14 s15 s16 s17 s18 s19 : Sl} {b : Int} (hj : j < ds.length) (hz : zs.length < 1000) :
    lb_law_1 [s0, s1, s2, .v (polD P), .v (yearD ds), s5, s6, s7, s8, .own (iL zs), .v (.int b), s11, s12, .v (.int (j : Int)), s14, s15, s16, s17, s18, s19] =
      ret (.nx [s0, s1, s2, .v (polD P), .v (yearD ds), s5, s6, s7, s8, .own (iL (zs ++ [cap P.c (sh P.e (ds.take (j + 1))) - b])), .v (.int (cap P.c (sh P.e (ds.take (j + 1))))), s11, s12, .v (.int (j : Int)), .v (.int (cap P.c (sh P.e (ds.take (j + 1))))), s15, s16, s17, s18, s19]) := by
  have g : slD (.tup (iL ds)) none (some ((j : Int) + 1)) = fun M => some (.tup (iL (ds.take (j + 1)))) := funext fun M => sl_to (n := j + 1) (by omega)
  have h1 := law_shares_eq (e := P.e) (ds := ds.take (j + 1))
  have h2 := law_capped_eq (P := P) (s := sh P.e (ds.take (j + 1)))
  rw [yearD] at h1
  have hz2 : zs.length < 100000 := by omega
  rw [lb_law_1, yearD]
  generalize df__law_capped = C at h2 ⊢
  generalize df__law_shares = S at h1 ⊢
  simp [bnd_assoc, g, h1, h2, hz2, iL_append]
  rfl
theorem rows_loop {P : Pol} {ds : List Int} {s0 s1 s2 s5 s6 s7 s8 s11 s12 s13 s14 s15 s16 s17 s18 s19 : Sl} (hP : P.Ok) (hd : YearOk 40 ds) :
    ∃ s10' s13' s14', dLoop (.nm 13) lb_law_1 (rngD 0 ds.length) [s0, s1, s2, .v (polD P), .v (yearD ds), s5, s6, s7, s8, .own (iL []), .v (.int 0), s11, s12, s13, s14, s15, s16, s17, s18, s19] =
      ret (.nx [s0, s1, s2, .v (polD P), .v (yearD ds), s5, s6, s7, s8, .own (iL (wk P 0 ds)), s10', s11, s12, s13', s14', s15, s16, s17, s18, s19]) := by
  have hl := hd.1
  have turn : ∀ {zs : List Int} {j : Nat} {s14 : Sl} {b : Int}, j < ds.length → zs.length < 1000 → _ := fun {zs j s14 b} h1 h2 => rows_turn (P := P) (ds := ds) (zs := zs) (j := j) (s0 := s0) (s1 := s1) (s2 := s2) (s5 := s5) (s6 := s6) (s7 := s7) (s8 := s8) (s11 := s11) (s12 := s12) (s14 := s14) (s15 := s15) (s16 := s16) (s17 := s17) (s18 := s18) (s19 := s19) (b := b) h1 h2
  generalize lb_law_1 = body at turn ⊢
  obtain ⟨e', q1, t13, t14, q2⟩ := pure_loop0 (i := 13) (body := body) (items := rngD 0 ds.length) (fun j e => ∃ t13 t14, e = [s0, s1, s2, .v (polD P), .v (yearD ds), s5, s6, s7, s8, .own (iL (wk P 0 (ds.take j))), .v (.int (cap P.c (sh P.e (ds.take j)))), s11, s12, t13, t14, s15, s16, s17, s18, s19])
    (e := [s0, s1, s2, .v (polD P), .v (yearD ds), s5, s6, s7, s8, .own (iL []), .v (.int 0), s11, s12, s13, s14, s15, s16, s17, s18, s19]) ⟨s13, s14, by simp [wk, cap_zero hP]⟩ (fun j x e hj ⟨t13, t14, he⟩ => by
      obtain ⟨hlt, rfl⟩ := rngD_get hj
      subst he
      refine ⟨_, ?_, .v (.int (j : Int)), .v (.int (cap P.c (sh P.e (ds.take (j + 1))))), rfl⟩
      have q := turn (zs := wk P 0 (ds.take j)) (j := j) (s14 := t14) (b := cap P.c (sh P.e (ds.take j))) hlt (by rw [wk_len, List.length_take]; omega)
      have et : ds.take (j + 1) = ds.take j ++ [ds[j]] := (List.take_append_getElem hlt).symm
      have ew := wk_snoc (P := P) (ds.take j) 0 ds[j]
      have es : sh P.e (ds.take (j + 1)) = 0 + sh P.e (ds.take j) + min ds[j] P.e := by rw [et, sh_append, sh_cons, sh_nil]; omega
      rw [← et, ← es, show (0 : Int) + sh P.e (ds.take j) = sh P.e (ds.take j) by omega] at ew
      rw [ew, show (0 : Int) + (j : Int) = (j : Int) by omega]
      exact q)
  rw [rngD_len] at q2
  rw [q1, q2]
  rw [List.take_length]
  exact ⟨.v (.int (cap P.c (sh P.e ds))), t13, t14, rfl⟩
end W

namespace W
open PySem PySem.Spec PyProof.Rows L2 Z
def I0 (e : Ev) : Prop := ∃ s0 s1 s2 s3 s4 s5 s6 s7 s8 s9 s10 s11 s12 s13 s14 s15 s16 s17 s18 s19, e = [s0, s1, s2, s3, s4, s5, s6, s7, s8, s9, s10, s11, s12, s13, s14, s15, s16, s17, s18, s19]
def I1 (k : Nat) (_ : Nat) (e : Ev) : Prop := ∃ s0 s2 s3 s4 s5 s6 s7 s8 s9 s10 s11 s12 s13 s14 s15 s16 s17 s18 s19, e = [s0, .v (.obj k), s2, s3, s4, s5, s6, s7, s8, s9, s10, s11, s12, s13, s14, s15, s16, s17, s18, s19]
def p2 (S C O G L T : DF) : DS := (dSeq (dSet 6 (dCall S (dCons (dOp ixD (dVar 3) (dC (.int 1))) (dCons (dVar 4) dNil)))) (dSeq (dSet 7 (dCall C (dCons (dVar 3) (dCons (dVar 6) dNil)))) (dSeq (dIfS (dNotT (dTest (dCall L (dCons (dLst (dCons (dCall O (dCons (dVar 3) (dCons (dVar 4) dNil))) (dCons (dCall G (dCons (dVar 3) (dCons (dVar 4) dNil))) dNil))) (dCons (dLst (dCons (dVar 7) (dCons (dOp addD (dOp ixD (dVar 3) (dC (.int 0))) (dVar 7)) dNil))) dNil))))) (dRet (dC (.bl false))) dNil') (dSet 8 (dOp addD (dOp mulD (dC (.int 2)) (dOp addD (dOp ixD (dVar 3) (dC (.int 0))) (dVar 7))) (dCall T (dCons (dVar 3) (dCons (dVar 5) dNil))))))))
def p3 (L G A T F : DF) : DS := (dFrz 9 (dSeq (dIfS (dOrT (dNotT (dTest (dCall L (dCons (dVar 11) (dCons (dVar 9) dNil))))) (dTest (dOp neD (dCall G (dCons (dVar 3) (dCons (dRevT (dVar 4)) dNil))) (dOp addD (dOp ixD (dVar 3) (dC (.int 0))) (dVar 7))))) (dRet (dC (.bl false))) dNil') (dSeq (dSet 15 (dIf (dTest (dOp neD (dVar 4) (dTup dNil))) (dTup (dCons (dB sumT1 (dCons (dVar 4) dNil)) dNil)) (dTup dNil))) (dSeq (dIfS (dTest (dOp neD (dCall A (dCons (dVar 3) (dCons (dVar 4) dNil))) (dCall T (dCons (dVar 3) (dCons (dVar 15) dNil))))) (dRet (dC (.bl false))) dNil') (dIfS (dTest (dOp neD (dCall F (dCons (dVar 3) (dCons (dB tuple1 (dCons (dLc (dItems (dVar 4)) (.nm 16) dYes (dTup (dCons (dVar 16) (dCons (dC (.int 1)) dNil))) [16]) dNil)) dNil))) (dOp addD (dOp ixD (dVar 3) (dC (.int 0))) (dVar 7)))) (dRet (dC (.bl false))) dNil')))))
def p2b (L T : DF) (gw : DF') : DS := (dSeq (dIfS (dOrT (dNotT (dTest (dCall L (dCons (dCallS 1 T (dCons (dVar 3) (dCons (dVar 4) (dCons (dVar 5) (dCons (dVar 4) dNil))))) (dCons (dVar 8) dNil))))) (dTest (dOp neD (dCallS 1 T (dCons (dVar 3) dNil)) (dC (.int 0))))) (dRet (dC (.bl false))) dNil') (dSeq (dParOwn0 9 10 (dC (.int 0))) (dSet 11 (dListG gw (dCons (dVar 3) (dCons (dVar 4) dNil))))))
def p4 (V : DF) : DS := (dSeq (dSet 17 (dLc (dItems (dSl slD (dVar 4) dNoPart (dPart (dC (.int 10))))) (.nm 16) dYes (dTup (dCons (dVar 16) (dCons (dCall V (dCons (dVar 1) (dCons (dOp powD (dC (.int 10)) (dC (.int 12))) dNil))) dNil))) [16])) (dSeq (dSet 18 (dB sum1 (dCons (dLc (dItems (dVar 17)) (.tp [16, 19]) dYes (dOp mulD (dVar 19) (dB min2 (dCons (dVar 16) (dCons (dOp ixD (dVar 3) (dC (.int 1))) dNil)))) [16, 19]) dNil))) (dIfS (dNotT (dTest (dCall df__law_same (dCons (dCall df_far_cost (dCons (dVar 3) (dCons (dB tuple1 (dCons (dVar 17) dNil)) dNil))) (dCons (dOp addD (dOp ixD (dVar 3) (dC (.int 0))) (dCall df__law_capped (dCons (dVar 3) (dCons (dVar 18) dNil)))) dNil))))) (dRet (dC (.bl false))) dNil')))
theorem sh_rev {e : Int} {ds : List Int} : sh e ds.reverse = sh e ds := by
  induction ds with
  | nil => rfl
  | cons d ds ih =>
    rw [List.reverse_cons, sh_append, ih, sh_cons, sh_cons, sh_nil]
    omega
theorem sh_one {e : Int} {ds : List Int} : shR e (ds.map fun d => (d, 1)) = sh e ds := by
  unfold shR sh
  rw [List.map_map]
  congr 2
  funext d
  simp
theorem rows_ex {ys : List D} (h : ∀ y ∈ ys, ∃ a b : Int, y = .tup [.int a, .int b] ∧ (1 ≤ a ∧ a ≤ 1000000) ∧ 0 ≤ b ∧ b ≤ 1000000000000) : ∃ rs : List (Int × Int), ys = rs.map (fun r => .tup [.int r.1, .int r.2]) ∧ ∀ r ∈ rs, (1 ≤ r.1 ∧ r.1 ≤ 1000000) ∧ 0 ≤ r.2 ∧ r.2 ≤ 1000000000000 := by
  induction ys with
  | nil => exact ⟨[], rfl, fun r h => by cases h⟩
  | cons y ys ih =>
    obtain ⟨a, b, e, h1, h2⟩ := h y (by simp)
    obtain ⟨rs, e2, h3⟩ := ih fun z hz => h z (by simp [hz])
    refine ⟨(a, b) :: rs, by rw [List.map_cons, ← e2, e], fun r hr => ?_⟩
    rcases List.mem_cons.mp hr with q | q
    · subst q
      exact ⟨h1, h2⟩
    · exact h3 r q
/-- the last part: rows with drawn numbers -/
theorem part4 {k : Nat} {P : Pol} {ds : List Int} {s0 s2 s5 s6 s7 s8 s9 s10 s11 s12 s13 s14 s15 s17 s18 s16 s19 : Sl} (hP : P.Ok) (hd : YearOk 40 ds) :
    Tk k 60 (p4 df__law_far
      [s0, .v (.obj k), s2, .v (polD P), .v (yearD ds), s5, s6, s7, s8, s9, s10, s11, s12, s13, s14, s15, s16, s17, s18, s19]) (Nxt (I1 k 0)) := by
  have e0 := hP.e0
  have e1 := hP.e1
  have hp12 : (10 : Int) ^ 12 = 1000000000000 := by decide
  have g : slD (.tup (iL ds)) none (some (10 : Int)) = fun M => some (.tup (iL (ds.take 10))) := funext fun M => sl_to (n := 10) rfl
  have far : Tk k 6 (df__law_far [.obj k, .int 1000000000000]) (IsI 0 1000000000000) := far_ok
  generalize df__law_far = F at far ⊢
  rw [yearD, p4]
  simp [-seqK_nx, bnd_assoc, g, hp12]
  have l1 : (ds.take 10).length ≤ 10 := by rw [List.length_take]; omega
  refine ((Tk.lc (k := k) (c := 6) (t := .nm 16) (P := fun y => ∃ a b : Int, y = .tup [.int a, .int b] ∧ (1 ≤ a ∧ a ≤ 1000000) ∧ 0 ≤ b ∧ b ≤ 1000000000000) (items := iL (ds.take 10)) (acc := []) (fun x hx => ?_) (fun y h => by cases h) (by rw [iL_length]; simp; omega)).bind (c2 := 0) fun ys ⟨hl, hy⟩ => ?_).mono (by rw [iL_length]; omega) fun _ h => h
  · obtain ⟨d, hd1, rfl⟩ := List.mem_map.mp hx
    have hd2 := hd.2 d (List.mem_of_mem_take hd1)
    refine ⟨_, rfl, ?_⟩
    have el : dTup (dCons (dVar 16) (dCons (dCall F (dCons (dVar 1) (dCons (dOp powD (dC (D.int 10)) (dC (D.int 12))) dNil))) dNil)) [s0, .v (.obj k), s2, .v (polD P), .v (.tup (iL ds)), s5, s6, s7, s8, s9, s10, s11, s12, s13, s14, s15, .v (.int d), s17, s18, s19] = bnd (F [.obj k, .int 1000000000000]) fun z => ret (.tup [.int d, z]) := by
      simp [bnd_assoc, hp12]
    refine cast (congrArg (fun m => Tk k 6 m _) el.symm) ?_
    refine (far.bind (c2 := 0) fun z ⟨r, e, r0, r1⟩ => ?_).mono (by omega) fun _ h => h
    subst e
    exact Tk.ret ⟨d, r, rfl, hd2, r0, by omega⟩
  · obtain ⟨rs, rfl, hr⟩ := rows_ex hy
    rw [List.length_map, iL_length] at hl
    simp at hl
    have lr : rs.length ≤ 40 := by omega
    have fc := far_cost_eq hP lr hr
    rw [rowsD] at fc
    have lc2 : ∀ s16 s17 s18 s19 : Sl, dLcLoop (.tp [16, 19]) dYes (dOp mulD (dVar 19) (dB min2 (dCons (dVar 16) (dCons (dOp ixD (dVar 3) (dC (.int 1))) dNil)))) [s0, .v (.obj k), s2, .v (polD P), .v (.tup (iL ds)), s5, s6, s7, s8, s9, s10, s11, s12, s13, s14, s15, s16, s17, s18, s19] (rs.map fun r => D.tup [.int r.1, .int r.2]) [] = ret (iL (rs.map fun r => r.2 * min r.1 P.e)) := fun s16 s17 s18 s19 => by
      rw [lc_map (h := fun d => match d with | .tup [.int a, .int b] => .int (b * min a P.e) | _ => .non) (fun d hd => ?_) (by simp; omega)]
      · rw [iL, List.map_map, List.map_map]
        rfl
      · obtain ⟨r, hr1, rfl⟩ := List.mem_map.mp hd
        obtain ⟨⟨a0, a1⟩, b0, b1⟩ := hr r hr1
        exact ⟨_, rfl, by simp [mulD_int (i := r.2) (j := min r.1 P.e) (by omega)]⟩
    have lcap := law_capped_eq (P := P) (s := shR P.e rs)
    have sm : df__law_same [.int (P.p + cap P.c (shR P.e rs)), .int (P.p + cap P.c (shR P.e rs))] = ret (.bl true) := same_ok (by simp) rfl
    have tp : ∀ (xs : List D) (M : MS), tuple1 [.lst xs] M = some (.tup xs) := fun xs M => rfl
    rw [seqK_nx]
    simp [-seqK_nx, bnd_assoc, lc2]
    rw [seqK_nx]
    have es : (rs.map fun r => r.2 * min r.1 P.e).sum = shR P.e rs := rfl
    rw [es]
    simp [bnd_assoc, tp, fc, lcap, sm]
    exact Nxt.mk ⟨_, _, _, _, _, _, _, _, _, _, _, _, _, _, _, _, _, _, _, rfl⟩
theorem list_g {gf : DF'} {g : DA} {e : Ev} {ds : List D} {zs : List Int} (hg : g e = ret ds) (h : ∀ M, gf ds M = some (zs, M)) : dListG gf g e = ret (.lst (iL zs)) := by
  unfold dListG
  rw [hg, bnd_ret]
  funext M
  rw [h]
  rfl
theorem sl_same {a : List Int} (h : a.length ≤ 100) : df__law_same [.lst (iL a), .lst (iL a)] = ret (.bl true) := same_ok (by simp; omega) rfl
/-- the statements in between, the called defs abstract -/
theorem part2 {P : Pol} {ds es : List Int} {s0 s1 s2 s6 s7 s8 s9 s10 s11 s12 s13 s14 s15 s16 s17 s18 s19 : Sl} {S C O G : DF} {L : DF} {T : DF} {A B c : Int} (hS : S [.int P.e, yearD ds] = ret (.int A)) (hC : C [polD P, .int A] = ret (.int B)) (hO : O [polD P, yearD ds] = ret (.int B)) (hG : G [polD P, yearD ds] = ret (.int (P.p + B)))
    (hL : L [.lst [.int B, .int (P.p + B)], .lst [.int B, .int (P.p + B)]] = ret (.bl true)) (hE : T [polD P, yearD es] = ret (.int c)) :
    p2 S C O G L T
      [s0, s1, s2, .v (polD P), .v (yearD ds), .v (yearD es), s6, s7, s8, s9, s10, s11, s12, s13, s14, s15, s16, s17, s18, s19] =
    ret (.nx [s0, s1, s2, .v (polD P), .v (yearD ds), .v (yearD es), .v (.int A), .v (.int B), .v (.int (2 * (P.p + B) + c)), s9, s10, s11, s12, s13, s14, s15, s16, s17, s18, s19]) := by
  simp [p2, hS, hC, hO, hG, hL, hE, mulD_int (i := 2) (j := P.p + B) (by omega)]
theorem part2b {P : Pol} {ds es : List Int} {s0 s1 s2 s6 s9 s10 s11 s12 s13 s14 s15 s16 s17 s18 s19 : Sl} {L T : DF} {gw : DF'} {B w : Int} {zs : List Int} (hT : T [polD P, .tup [yearD ds, yearD es, yearD ds]] = ret (.int w)) (hL : L [.int w, .int w] = ret (.bl true)) (hT0 : T [polD P, .tup []] = ret (.int 0)) (hg : ∀ M, gw [polD P, yearD ds] M = some (zs, M)) :
    p2b L T gw
      [s0, s1, s2, .v (polD P), .v (yearD ds), .v (yearD es), s6, .v (.int B), .v (.int w), s9, s10, s11, s12, s13, s14, s15, s16, s17, s18, s19] =
    ret (.nx [s0, s1, s2, .v (polD P), .v (yearD ds), .v (yearD es), s6, .v (.int B), .v (.int w), .own [], .v (.int 0), .v (.lst (iL zs)), s12, s13, s14, s15, s16, s17, s18, s19]) := by
  have lg : ∀ s9 s10, dListG gw (dCons (dVar 3) (dCons (dVar 4) dNil)) [s0, s1, s2, .v (polD P), .v (yearD ds), .v (yearD es), s6, .v (.int B), .v (.int w), s9, s10, s11, s12, s13, s14, s15, s16, s17, s18, s19] = ret (.lst (iL zs)) := fun s9 s10 => list_g (by simp) hg
  simp [p2b, hT, hL, hT0, lg]
/-- seen and rows, the damages turned about, one claim, single claims -/
theorem part3 {P : Pol} {ds : List Int} {s0 s1 s2 s5 s6 s8 s10 s12 s13 s14 s15 s16 s17 s18 s19 : Sl} {L G A T F : DF} {B : Int} {zs : List Int} {v : Int} (hL : L [.lst (iL zs), .lst (iL zs)] = ret (.bl true)) (hG : G [polD P, .tup (iL ds).reverse] = ret (.int (P.p + B))) (hA : A [polD P, yearD ds] = ret (.int v))
    (hT1 : ds.isEmpty = false → T [polD P, .tup [.int ds.sum]] = ret (.int v)) (hT2 : ds.isEmpty = true → T [polD P, .tup []] = ret (.int v)) (hF : F [polD P, .tup (ds.map fun d => D.tup [.int d, .int 1])] = ret (.int (P.p + B))) (hl : ds.length ≤ 100) :
    p3 L G A T F
      [s0, s1, s2, .v (polD P), .v (yearD ds), s5, s6, .v (.int B), s8, .own (iL zs), s10, .v (.lst (iL zs)), s12, s13, s14, s15, s16, s17, s18, s19] =
    ret (.nx [s0, s1, s2, .v (polD P), .v (yearD ds), s5, s6, .v (.int B), s8, .v (.lst (iL zs)), s10, .v (.lst (iL zs)), s12, s13, s14, .v (.tup (if ds.isEmpty = true then [] else [.int ds.sum])), s16, s17, s18, s19]) := by
  have lc : ∀ s15, dLcLoop (.nm 16) dYes (dTup (dCons (dVar 16) (dCons (dC (.int 1)) dNil))) [s0, s1, s2, .v (polD P), .v (yearD ds), s5, s6, .v (.int B), s8, .v (.lst (iL zs)), s10, .v (.lst (iL zs)), s12, s13, s14, s15, .no, s17, s18, s19] (iL ds) [] = ret (ds.map fun d => D.tup [.int d, .int 1]) := fun s15 => by
    rw [lc_map (h := fun d => D.tup [d, .int 1]) (fun d hd => ⟨_, rfl, by simp⟩) (by simp; omega)]
    rw [iL, List.map_map]
    rfl
  have tp : ∀ (xs : List D) (M : MS), tuple1 [.lst xs] M = some (.tup xs) := fun xs M => rfl
  rw [yearD] at lc hA ⊢
  cases hz : ds.isEmpty with
  | true => simp [p3, hL, hG, hA, hT2 hz, ne_empty, hz, lc, tp, hF]
  | false => simp [p3, hL, hG, hA, hT1 hz, ne_empty, hz, lc, tp, hF]
theorem dSeq_assoc (a b c : DS) : dSeq (dSeq a b) c = dSeq a (dSeq b c) := by
  funext e
  rw [dSeq_eq, dSeq_eq, dSeq_eq, bnd_assoc]
  congr 1
  funext o
  cases o <;> simp
theorem dFrz_seq (i : Nat) (a b : DS) : dFrz i (dSeq a b) = dSeq (dFrz i a) b := by
  funext e
  simp
theorem lb_eq : lb_law_2 = dSeq (dSet 3 (dCall df__law_policy (dCons (dVar 1) dNil))) (dSeq (dPar 4 5 (dCons (dCall df__law_year (dCons (dVar 1) (dCons (dC (.int 40)) (dCons (dVar 3) dNil)))) (dCons (dCall df__law_year (dCons (dVar 1) (dCons (dC (.int 10)) (dCons (dVar 3) dNil)))) dNil)))
    (dSeq (p2 df__law_shares df__law_capped df_own df_cost df__law_same df__law_cost) (dSeq (p2b df__law_same df_total_cost gf_walk) (dSeq (dFor (dRng1 (dCons (dB len1 (dCons (dVar 4) dNil)) dNil)) (.nm 13) lb_law_1) (dSeq (p3 df__law_same df_cost df_as_one df__law_cost df_far_cost) (p4 df__law_far)))))) := by
  rw [lb_law_2, p2, p2b, p3, p4]
  simp only [dSeq_assoc, dFrz_seq]
theorem rng1_len {e : Ev} {g : DA} {n : Nat} (hg : g e = ret [.int (n : Int)]) (hb : b62 (n : Int) = true) : dRng1 g e = ret (rngD 0 n) := by
  rw [dRng1_eq, hg, bnd_ret, int1_int, lft_some, bnd_ret, if_pos hb, Int.toNat_natCast]
theorem turn {k j : Nat} {s0 s2 s3 s4 s5 s6 s7 s8 s9 s10 s11 s12 s13 s14 s15 s16 s17 s18 s19 : Sl} : Tk k 320 (lb_law_2 [s0, .v (.obj k), s2, s3, s4, s5, s6, s7, s8, s9, s10, s11, s12, s13, s14, s15, s16, s17, s18, s19]) (Nxt (I1 k j)) := by
  rw [lb_eq]
  simp [-seqK_nx, bnd_assoc]
  refine (policy_ok.bind (c2 := 312) fun a ⟨P, e, hP⟩ => ?_).mono (by omega) fun _ h => h
  subst e
  have e0 := hP.e0
  have e1 := hP.e1
  rw [seqK_nx]
  simp [-seqK_nx, bnd_assoc]
  refine ((year_ok (m := 40) (a := .int P.p) (c := optD P.c) (by omega) e0 e1).bind (c2 := 111) fun y ⟨ds, e, hd⟩ => ?_).mono (by omega) fun _ h => h
  subst e
  refine ((year_ok (m := 10) (a := .int P.p) (c := optD P.c) (by omega) e0 e1).bind (c2 := 60) fun y ⟨es, e, hde⟩ => ?_).mono (by omega) fun _ h => h
  subst e
  have hd2 : YearOk 40 es := ⟨by have := hde.1; omega, hde.2⟩
  have hl := hd.1
  have hs := sh_nonneg e0 hd.2
  have m1 : ds.sum = ds.sum := rfl
  have yr : YearOk 40 ds.reverse := ⟨by rw [List.length_reverse]; omega, fun x hx => hd.2 x (List.mem_reverse.mp hx)⟩
  have q1 := law_shares_eq (e := P.e) (ds := ds)
  have q2 := law_capped_eq (P := P) (s := sh P.e ds)
  have q3 := own_eq hP hd
  have q4 : df_cost [polD P, yearD ds] = ret (.int (P.p + cap P.c (sh P.e ds))) := cost_eq hP hd
  have q5 : df__law_same [.lst [.int (cap P.c (sh P.e ds)), .int (P.p + cap P.c (sh P.e ds))], .lst [.int (cap P.c (sh P.e ds)), .int (P.p + cap P.c (sh P.e ds))]] = ret (.bl true) := sl_same (a := [cap P.c (sh P.e ds), P.p + cap P.c (sh P.e ds)]) (by simp)
  have q6 := law_cost_eq (P := P) (ds := es)
  have q7 : df_total_cost [polD P, .tup [yearD ds, yearD es, yearD ds]] = ret (.int (2 * (P.p + cap P.c (sh P.e ds)) + costP P es)) := (total_eq (ys := [ds, es, ds]) hP (fun y hy => by
    simp only [List.mem_cons, List.not_mem_nil, or_false] at hy
    rcases hy with rfl | rfl | rfl
    · exact hd
    · exact hd2
    · exact hd) (by simp)).trans (by
      have e1 : costP P ds = P.p + cap P.c (sh P.e ds) := rfl
      have e2 : ([ds, es, ds].map (costP P)).sum = 2 * (P.p + cap P.c (sh P.e ds)) + costP P es := by
        simp only [List.map_cons, List.map_nil, List.sum_cons, List.sum_nil]
        omega
      rw [e2])
  have q8 : df__law_same [.int (2 * (P.p + cap P.c (sh P.e ds)) + costP P es), .int (2 * (P.p + cap P.c (sh P.e ds)) + costP P es)] = ret (.bl true) := same_ok (by simp) rfl
  have q9 : df_total_cost [polD P, .tup []] = ret (.int 0) := total_eq (ys := []) hP (fun y hy => by cases hy) (by simp)
  have q10 : ∀ M, gf_walk [polD P, yearD ds] M = some (wk P 0 ds, M) := fun M => walk_eq hP hd
  have q11 := sl_same (a := wk P 0 ds) (by rw [wk_len]; omega)
  have q12 : df_cost [polD P, .tup (iL ds).reverse] = ret (.int (P.p + cap P.c (sh P.e ds))) := by
    have := cost_eq hP yr
    rw [yearD, iL, List.map_reverse, costP, sh_rev] at this
    exact this
  have q13 := as_one3_eq hP hd
  have q14 : ds.isEmpty = false → df__law_cost [polD P, .tup [.int ds.sum]] = ret (.int (P.p + cap P.c (min ds.sum P.e))) := fun _ => (law_cost_eq (P := P) (ds := [ds.sum])).trans (by simp [costP])
  have q15 : ds.isEmpty = true → df__law_cost [polD P, .tup []] = ret (.int (P.p + cap P.c (min ds.sum P.e))) := fun h => (law_cost_eq (P := P) (ds := [])).trans (by
    rw [List.isEmpty_iff] at h
    subst h
    simp only [costP, sh_nil, List.sum_nil]
    rw [show min 0 P.e = 0 by omega])
  have q16 : df_far_cost [polD P, .tup (ds.map fun d => D.tup [.int d, .int 1])] = ret (.int (P.p + cap P.c (sh P.e ds))) := by
    have := far_cost_eq (rs := ds.map fun d => (d, 1)) hP (by rw [List.length_map]; omega) (fun r hr => by
      obtain ⟨d, h1, rfl⟩ := List.mem_map.mp hr
      exact ⟨hd.2 d h1, show (0 : Int) ≤ 1 by decide, show (1 : Int) ≤ 1000000000000 by decide⟩)
    rw [sh_one, rowsD, List.map_map] at this
    exact this
  have a2 := fun s6 s7 s8 s9 s10 s11 s12 s13 s14 s15 s16 s17 s18 s19 => part2 (s0 := s0) (s1 := .v (.obj k)) (s2 := s2) (s6 := s6) (s7 := s7) (s8 := s8) (s9 := s9) (s10 := s10) (s11 := s11) (s12 := s12) (s13 := s13) (s14 := s14) (s15 := s15) (s16 := s16) (s17 := s17) (s18 := s18) (s19 := s19) q1 q2 q3 q4 q5 q6
  have a2b := fun s6 s9 s10 s11 s12 s13 s14 s15 s16 s17 s18 s19 => part2b (es := es) (s0 := s0) (s1 := .v (.obj k)) (s2 := s2) (B := cap P.c (sh P.e ds)) (s6 := s6) (s9 := s9) (s10 := s10) (s11 := s11) (s12 := s12) (s13 := s13) (s14 := s14) (s15 := s15) (s16 := s16) (s17 := s17) (s18 := s18) (s19 := s19) q7 q8 q9 q10
  have a3 := fun s5 s6 s8 s10 s12 s13 s14 s15 s16 s17 s18 s19 => part3 (s0 := s0) (s1 := .v (.obj k)) (s2 := s2) (s5 := s5) (s6 := s6) (s8 := s8) (s10 := s10) (s12 := s12) (s13 := s13) (s14 := s14) (s15 := s15) (s16 := s16) (s17 := s17) (s18 := s18) (s19 := s19) q11 q12 q13 q14 q15 q16 (by omega)
  have a4 := fun s5 s6 s7 s8 s9 s10 s11 s12 s13 s14 s15 s16 s17 s18 s19 => part4 (k := k) (P := P) (ds := ds) (s0 := s0) (s2 := s2) (s5 := s5) (s6 := s6) (s7 := s7) (s8 := s8) (s9 := s9) (s10 := s10) (s11 := s11) (s12 := s12) (s13 := s13) (s14 := s14) (s15 := s15) (s16 := s16) (s17 := s17) (s18 := s18) (s19 := s19) hP hd
  have al := fun s5 s6 s7 s8 s11 s12 s13 s14 s15 s16 s17 s18 s19 => rows_loop (s0 := s0) (s1 := .v (.obj k)) (s2 := s2) (s5 := s5) (s6 := s6) (s7 := s7) (s8 := s8) (s11 := s11) (s12 := s12) (s13 := s13) (s14 := s14) (s15 := s15) (s16 := s16) (s17 := s17) (s18 := s18) (s19 := s19) hP hd
  generalize p2 df__law_shares df__law_capped df_own df_cost df__law_same df__law_cost = B2 at a2 ⊢
  generalize p2b df__law_same df_total_cost gf_walk = B2b at a2b ⊢
  generalize p3 df__law_same df_cost df_as_one df__law_cost df_far_cost = B3 at a3 ⊢
  generalize p4 df__law_far = B4 at a4 ⊢
  generalize lb_law_1 = B1 at al ⊢
  have b6 : b62 (ds.length : Int) = true := b62_ok (by omega) (by omega)
  rw [seqK_nx, dSeq_eq]
  rw [a2, bnd_ret, seqK_nx, dSeq_eq]
  rw [a2b, bnd_ret, seqK_nx, dSeq_eq]
  obtain ⟨t10, t13, t14, el⟩ := al (.v (yearD es)) (.v (.int (sh P.e ds))) (.v (.int (cap P.c (sh P.e ds)))) (.v (.int (2 * (P.p + cap P.c (sh P.e ds)) + costP P es))) (.v (.lst (iL (wk P 0 ds)))) s12 s13 s14 s15 s16 s17 s18 s19
  have rg : ∀ e : Ev, e[4]? = some (.v (yearD ds)) → dRng1 (dCons (dB len1 (dCons (dVar 4) dNil)) dNil) e = ret (rngD 0 ds.length) := fun e he => rng1_len (by simp [he, yearD]) b6
  rw [dFor_eq, rg _ rfl, bnd_ret]
  refine cast (congrArg (fun m => Tk k 60 (bnd m _) _) el.symm) ?_
  rw [bnd_ret, seqK_nx, dSeq_eq, a3, bnd_ret, seqK_nx]
  exact a4 _ _ _ _ _ _ _ _ _ _ _ _ _ _ _
theorem three {k : Nat} {s0 s2 s3 s4 s5 s6 s7 s8 s9 s10 s11 s12 s13 s14 s15 s16 s17 s18 s19 : Sl} : Tk k 960 (lb_law_3 [s0, .v (.obj k), s2, s3, s4, s5, s6, s7, s8, s9, s10, s11, s12, s13, s14, s15, s16, s17, s18, s19]) (Nxt I0) := by
  have tn := fun (j : Nat) (s0 s2 s3 s4 s5 s6 s7 s8 s9 s10 s11 s12 s13 s14 s15 s16 s17 s18 s19 : Sl) => turn (k := k) (j := j) (s0 := s0) (s2 := s2) (s3 := s3) (s4 := s4) (s5 := s5) (s6 := s6) (s7 := s7) (s8 := s8) (s9 := s9) (s10 := s10) (s11 := s11) (s12 := s12) (s13 := s13) (s14 := s14) (s15 := s15) (s16 := s16) (s17 := s17) (s18 := s18) (s19 := s19)
  rw [lb_law_3]
  generalize lb_law_2 = body at tn ⊢
  rw [dFor_eq, rng1_len (n := 3) (by simp) (by decide), bnd_ret]
  refine (Tk.loop (c := 320) (I1 k) (items := rngD 0 3) 0 _ ⟨s0, s2, s3, s4, s5, s6, s7, s8, s9, s10, s11, s12, s13, s14, s15, s16, s17, s18, s19, rfl⟩ fun j x e hj ⟨s0, s2, s3, s4, s5, s6, s7, s8, s9, s10, s11, s12, s13, s14, s15, s16, s17, s18, s19, he⟩ => ?_).mono (by rw [rngD_len]; omega) fun o ⟨e', ho, s0, s2, s3, s4, s5, s6, s7, s8, s9, s10, s11, s12, s13, s14, s15, s16, s17, s18, s19, he⟩ => ⟨e', .inl ho, _, _, _, _, _, _, _, _, _, _, _, _, _, _, _, _, _, _, _, _, he⟩
  subst he
  exact ⟨_, rfl, tn _ _ _ _ _ _ _ _ _ _ _ _ _ _ _ _ _ _ _ _⟩
theorem hE1 : Pol.Ok ⟨100, 50, some 120⟩ := ⟨by decide, by decide, by decide, by decide, fun c hc => by cases hc; decide⟩
theorem hE2 : Pol.Ok ⟨110, 30, none⟩ := ⟨by decide, by decide, by decide, by decide, fun c hc => by cases hc⟩
theorem ex1 : df_own [.tup [.int 100, .int 50, .int 120], .tup [.int 20, .int 80, .int 200]] = ret (.int 120) := own_eq (P := ⟨100, 50, some 120⟩) (ds := [20, 80, 200]) hE1 ⟨by decide, by decide⟩
theorem ex2 {M : MS} : gf_walk [.tup [.int 100, .int 50, .int 120], .tup [.int 200, .int 200, .int 200, .int 200]] M = some ([50, 50, 20, 0], M) := walk_eq (P := ⟨100, 50, some 120⟩) (ds := [200, 200, 200, 200]) hE1 ⟨by decide, by decide⟩
theorem ex3 : df_far_cost [.tup [.int 110, .int 30, .non], .tup [.tup [.int 20, .int 1000000000000], .tup [.int 80, .int 3]]] = ret (.int 20000000000200) := far_cost_eq (P := ⟨110, 30, none⟩) (rs := [(20, 1000000000000), (80, 3)]) hE2 (by decide) (by decide)
theorem tail_true {F : DF} {G : DF} {W : DF'} {e : Ev} (h1 : F [.tup [.int 100, .int 50, .int 120], .tup [.int 20, .int 80, .int 200]] = ret (.int 120)) (h2 : ∀ M, W [.tup [.int 100, .int 50, .int 120], .tup [.int 200, .int 200, .int 200, .int 200]] M = some ([50, 50, 20, 0], M))
    (h3 : G [.tup [.int 110, .int 30, .non], .tup [.tup [.int 20, .int 1000000000000], .tup [.int 80, .int 3]]] = ret (.int 20000000000200)) :
    (dSeq (dIfS (dOrT (dTest (dOp neD (dCall F (dCons (dTup (dCons (dC (.int 100)) (dCons (dC (.int 50)) (dCons (dC (.int 120)) dNil)))) (dCons (dTup (dCons (dC (.int 20)) (dCons (dC (.int 80)) (dCons (dC (.int 200)) dNil)))) dNil))) (dC (.int 120)))) (dTest (dOp neD (dListG W (dCons (dTup (dCons (dC (.int 100)) (dCons (dC (.int 50)) (dCons (dC (.int 120)) dNil)))) (dCons (dOp mulTD (dTup (dCons (dC (.int 200)) dNil)) (dC (.int 4))) dNil))) (dLst (dCons (dC (.int 50)) (dCons (dC (.int 50)) (dCons (dC (.int 20)) (dCons (dC (.int 0)) dNil)))))))) (dRet (dC (.bl false))) dNil')
      (dRet (dOp eqD (dCall G (dCons (dTup (dCons (dC (.int 110)) (dCons (dC (.int 30)) (dCons (dC .non) dNil)))) (dCons (dTup (dCons (dTup (dCons (dC (.int 20)) (dCons (dOp powD (dC (.int 10)) (dC (.int 12))) dNil))) (dCons (dTup (dCons (dC (.int 80)) (dCons (dC (.int 3)) dNil))) dNil))) dNil))) (dOp addD (dOp mulD (dC (.int 20)) (dOp powD (dC (.int 10)) (dC (.int 12)))) (dC (.int 200)))))) e = ret (.rt (.bl true)) := by
  have hp12 : (10 : Int) ^ 12 = 1000000000000 := by decide
  have m4 : ∀ M, mulTD (.tup [.int 200]) (.int 4) M = some (.tup [.int 200, .int 200, .int 200, .int 200]) := fun M => mulTD_tup rfl (by decide) (by decide) (by decide)
  have lg : dListG W (dCons (dTup (dCons (dC (.int 100)) (dCons (dC (.int 50)) (dCons (dC (.int 120)) dNil)))) (dCons (dOp mulTD (dTup (dCons (dC (.int 200)) dNil)) (dC (.int 4))) dNil)) e = ret (.lst [.int 50, .int 50, .int 20, .int 0]) := list_g (zs := [50, 50, 20, 0]) (by simp [m4]) h2
  have e1 : ∀ M, neD (.lst [.int 50, .int 50, .int 20, .int 0]) (.lst [.int 50, .int 50, .int 20, .int 0]) M = some (.bl false) := fun M => neD_lst (a := [50, 50, 20, 0]) (b := [50, 50, 20, 0])
  simp [h1, lg, e1, h3, hp12, mulD_int (i := 20) (j := 1000000000000) (by decide)]
theorem law_true (ns : List Int) (h : ns.length ≤ 63) : ∃ M', df_law [.scr ns] [] = some (.ok (.bl true), M') := by
  refine law_shell (c := 1000) (n := 20) (i := 1) (m := 8) (I := I0) (by decide) (by decide) ⟨_, _, _, _, _, _, _, _, _, _, _, _, _, _, _, _, _, _, _, _, rfl⟩ (fun k e ⟨s0, s1, s2, s3, s4, s5, s6, s7, s8, s9, s10, s11, s12, s13, s14, s15, s16, s17, s18, s19, h⟩ => ?_) (fun e M ⟨s0, s1, s2, s3, s4, s5, s6, s7, s8, s9, s10, s11, s12, s13, s14, s15, s16, s17, s18, s19, h⟩ => ⟨M, ?_⟩)
  · subst h
    exact three.mono (by omega) fun _ h => h
  · subst h
    rw [tail_true ex1 (fun M => ex2) ex3]
    rfl
end W

namespace W
open PySem PySem.Spec PyProof.Rows L2 Z
set_option maxHeartbeats 0 in
structure Txt (K : PySem.W.Frag) (mg : Str → Option Value) where
  a__law_well : Addr
  f__law_well : FuncData
  F__law_well : Fun K "_law_well" "_law_well" s__law_well a__law_well f__law_well
  g__law_well : mg "_law_well" = some (.ref a__law_well)
  b__law_well : Binds K f__law_well ["cell", "turn"] []
  a__law_bags : Addr
  f__law_bags : FuncData
  F__law_bags : Fun K "_law_bags" "_law_bags" s__law_bags a__law_bags f__law_bags
  g__law_bags : mg "_law_bags" = some (.ref a__law_bags)
  b__law_bags : Binds K f__law_bags ["script", "most"] []
  a_in_range : Addr
  f_in_range : FuncData
  F_in_range : Fun K "in_range" "in_range" s_in_range a_in_range f_in_range
  g_in_range : mg "in_range" = some (.ref a_in_range)
  b_in_range : Binds K f_in_range ["value", "low", "high"] []
  a_is_policy : Addr
  f_is_policy : FuncData
  F_is_policy : Fun K "is_policy" "is_policy" s_is_policy a_is_policy f_is_policy
  g_is_policy : mg "is_policy" = some (.ref a_is_policy)
  b_is_policy : Binds K f_is_policy ["value"] []
  a_check_policy : Addr
  f_check_policy : FuncData
  F_check_policy : Fun K "check_policy" "check_policy" s_check_policy a_check_policy f_check_policy
  g_check_policy : mg "check_policy" = some (.ref a_check_policy)
  b_check_policy : Binds K f_check_policy ["value"] []
  a_check_damage : Addr
  f_check_damage : FuncData
  F_check_damage : Fun K "check_damage" "check_damage" s_check_damage a_check_damage f_check_damage
  g_check_damage : mg "check_damage" = some (.ref a_check_damage)
  b_check_damage : Binds K f_check_damage ["value"] []
  a_check_number : Addr
  f_check_number : FuncData
  F_check_number : Fun K "check_number" "check_number" s_check_number a_check_number f_check_number
  g_check_number : mg "check_number" = some (.ref a_check_number)
  b_check_number : Binds K f_check_number ["value", "low", "high"] []
  a_capped : Addr
  f_capped : FuncData
  F_capped : Fun K "capped" "capped" s_capped a_capped f_capped
  g_capped : mg "capped" = some (.ref a_capped)
  b_capped : Binds K f_capped ["policy", "shares"] []
  a_far_cost : Addr
  f_far_cost : FuncData
  F_far_cost : Fun K "far_cost" "far_cost" s_far_cost a_far_cost f_far_cost
  g_far_cost : mg "far_cost" = some (.ref a_far_cost)
  b_far_cost : Binds K f_far_cost ["policy", "rows"] []
  a__law_take : Addr
  f__law_take : FuncData
  F__law_take : Fun K "_law_take" "_law_take" s__law_take a__law_take f__law_take
  g__law_take : mg "_law_take" = some (.ref a__law_take)
  b__law_take : Binds K f__law_take ["bag", "many"] []
  a__law_policy : Addr
  f__law_policy : FuncData
  F__law_policy : Fun K "_law_policy" "_law_policy" s__law_policy a__law_policy f__law_policy
  g__law_policy : mg "_law_policy" = some (.ref a__law_policy)
  b__law_policy : Binds K f__law_policy ["bag"] []
  a__law_shares : Addr
  f__law_shares : FuncData
  F__law_shares : Fun K "_law_shares" "_law_shares" s__law_shares a__law_shares f__law_shares
  g__law_shares : mg "_law_shares" = some (.ref a__law_shares)
  b__law_shares : Binds K f__law_shares ["excess", "damages"] []
  a__law_capped : Addr
  f__law_capped : FuncData
  F__law_capped : Fun K "_law_capped" "_law_capped" s__law_capped a__law_capped f__law_capped
  g__law_capped : mg "_law_capped" = some (.ref a__law_capped)
  b__law_capped : Binds K f__law_capped ["policy", "shares"] []
  a_is_year : Addr
  f_is_year : FuncData
  F_is_year : Fun K "is_year" "is_year" s_is_year a_is_year f_is_year
  g_is_year : mg "is_year" = some (.ref a_is_year)
  b_is_year : Binds K f_is_year ["value"] []
  a_check_year : Addr
  f_check_year : FuncData
  F_check_year : Fun K "check_year" "check_year" s_check_year a_check_year f_check_year
  g_check_year : mg "check_year" = some (.ref a_check_year)
  b_check_year : Binds K f_check_year ["value"] []
  a_shares_of : Addr
  f_shares_of : FuncData
  F_shares_of : Fun K "shares_of" "shares_of" s_shares_of a_shares_of f_shares_of
  g_shares_of : mg "shares_of" = some (.ref a_shares_of)
  b_shares_of : Binds K f_shares_of ["excess", "year"] []
  a_own : Addr
  f_own : FuncData
  F_own : Fun K "own" "own" s_own a_own f_own
  g_own : mg "own" = some (.ref a_own)
  b_own : Binds K f_own ["policy", "year"] []
  a__law_year : Addr
  f__law_year : FuncData
  F__law_year : Fun K "_law_year" "_law_year" s__law_year a__law_year f__law_year
  g__law_year : mg "_law_year" = some (.ref a__law_year)
  b__law_year : Binds K f__law_year ["bag", "most", "policy"] []
  a__law_same : Addr
  f__law_same : FuncData
  F__law_same : Fun K "_law_same" "_law_same" s__law_same a__law_same f__law_same
  g__law_same : mg "_law_same" = some (.ref a__law_same)
  b__law_same : Binds K f__law_same ["a", "b"] []
  a__law_cost : Addr
  f__law_cost : FuncData
  F__law_cost : Fun K "_law_cost" "_law_cost" s__law_cost a__law_cost f__law_cost
  g__law_cost : mg "_law_cost" = some (.ref a__law_cost)
  b__law_cost : Binds K f__law_cost ["policy", "damages"] []
  a_as_one : Addr
  f_as_one : FuncData
  F_as_one : Fun K "as_one" "as_one" s_as_one a_as_one f_as_one
  g_as_one : mg "as_one" = some (.ref a_as_one)
  b_as_one : Binds K f_as_one ["policy", "year"] []
  a_walk : Addr
  f_walk : FuncData
  F_walk : Fun K "walk" "walk" s_walk a_walk f_walk
  g_walk : mg "walk" = some (.ref a_walk)
  b_walk : Binds K f_walk ["policy", "year"] []
  a_cost_of : Addr
  f_cost_of : FuncData
  F_cost_of : Fun K "cost_of" "cost_of" s_cost_of a_cost_of f_cost_of
  g_cost_of : mg "cost_of" = some (.ref a_cost_of)
  b_cost_of : Binds K f_cost_of ["policy", "year"] []
  a_total_cost : Addr
  f_total_cost : FuncData
  F_total_cost : Fun K "total_cost" "total_cost" s_total_cost a_total_cost f_total_cost
  g_total_cost : mg "total_cost" = some (.ref a_total_cost)
  a_cost : Addr
  f_cost : FuncData
  F_cost : Fun K "cost" "cost" s_cost a_cost f_cost
  g_cost : mg "cost" = some (.ref a_cost)
  b_cost : Binds K f_cost ["policy", "year"] []
  a__law_far : Addr
  f__law_far : FuncData
  F__law_far : Fun K "_law_far" "_law_far" s__law_far a__law_far f__law_far
  g__law_far : mg "_law_far" = some (.ref a__law_far)
  b__law_far : Binds K f__law_far ["bag", "many"] []
  a_law : Addr
  f_law : FuncData
  F_law : Fun K "law" "law" s_law a_law f_law
  g_law : mg "law" = some (.ref a_law)
  b_law : Binds K f_law ["script"] []
  t_MOST_CAP : Tok
  c_MOST_CAP : mg "MOST_CAP" = some (.int 10000 t_MOST_CAP)
  t_MOST_CLAIMS : Tok
  c_MOST_CLAIMS : mg "MOST_CLAIMS" = some (.int 40 t_MOST_CLAIMS)
  t_MOST_DAMAGE : Tok
  c_MOST_DAMAGE : mg "MOST_DAMAGE" = some (.int 1000000 t_MOST_DAMAGE)
  t_MOST_EXCESS : Tok
  c_MOST_EXCESS : mg "MOST_EXCESS" = some (.int 1000 t_MOST_EXCESS)
  t_MOST_PREMIUM : Tok
  c_MOST_PREMIUM : mg "MOST_PREMIUM" = some (.int 10000 t_MOST_PREMIUM)
  z_all : mg "all" = none
  z_bool : mg "bool" = none
  z_enumerate : mg "enumerate" = none
  z_int : mg "int" = none
  z_isinstance : mg "isinstance" = none
  z_len : mg "len" = none
  z_list : mg "list" = none
  z_max : mg "max" = none
  z_min : mg "min" = none
  z_range : mg "range" = none
  z_str : mg "str" = none
  z_sum : mg "sum" = none
  z_tuple : mg "tuple" = none
  z_zip : mg "zip" = none
section
variable {K : PySem.W.Frag} {mg : Str → Option Value}
abbrev Txt.k__law_well (T : Txt K mg) : PySem.W.keepIn K (.ref T.a__law_well) = true := T.F__law_well.kp
abbrev Txt.k__law_bags (T : Txt K mg) : PySem.W.keepIn K (.ref T.a__law_bags) = true := T.F__law_bags.kp
abbrev Txt.k_in_range (T : Txt K mg) : PySem.W.keepIn K (.ref T.a_in_range) = true := T.F_in_range.kp
abbrev Txt.k_is_policy (T : Txt K mg) : PySem.W.keepIn K (.ref T.a_is_policy) = true := T.F_is_policy.kp
abbrev Txt.k_check_policy (T : Txt K mg) : PySem.W.keepIn K (.ref T.a_check_policy) = true := T.F_check_policy.kp
abbrev Txt.k_check_damage (T : Txt K mg) : PySem.W.keepIn K (.ref T.a_check_damage) = true := T.F_check_damage.kp
abbrev Txt.k_check_number (T : Txt K mg) : PySem.W.keepIn K (.ref T.a_check_number) = true := T.F_check_number.kp
abbrev Txt.k_capped (T : Txt K mg) : PySem.W.keepIn K (.ref T.a_capped) = true := T.F_capped.kp
abbrev Txt.k_far_cost (T : Txt K mg) : PySem.W.keepIn K (.ref T.a_far_cost) = true := T.F_far_cost.kp
abbrev Txt.k__law_take (T : Txt K mg) : PySem.W.keepIn K (.ref T.a__law_take) = true := T.F__law_take.kp
abbrev Txt.k__law_policy (T : Txt K mg) : PySem.W.keepIn K (.ref T.a__law_policy) = true := T.F__law_policy.kp
abbrev Txt.k__law_shares (T : Txt K mg) : PySem.W.keepIn K (.ref T.a__law_shares) = true := T.F__law_shares.kp
abbrev Txt.k__law_capped (T : Txt K mg) : PySem.W.keepIn K (.ref T.a__law_capped) = true := T.F__law_capped.kp
abbrev Txt.k_is_year (T : Txt K mg) : PySem.W.keepIn K (.ref T.a_is_year) = true := T.F_is_year.kp
abbrev Txt.k_check_year (T : Txt K mg) : PySem.W.keepIn K (.ref T.a_check_year) = true := T.F_check_year.kp
abbrev Txt.k_shares_of (T : Txt K mg) : PySem.W.keepIn K (.ref T.a_shares_of) = true := T.F_shares_of.kp
abbrev Txt.k_own (T : Txt K mg) : PySem.W.keepIn K (.ref T.a_own) = true := T.F_own.kp
abbrev Txt.k__law_year (T : Txt K mg) : PySem.W.keepIn K (.ref T.a__law_year) = true := T.F__law_year.kp
abbrev Txt.k__law_same (T : Txt K mg) : PySem.W.keepIn K (.ref T.a__law_same) = true := T.F__law_same.kp
abbrev Txt.k__law_cost (T : Txt K mg) : PySem.W.keepIn K (.ref T.a__law_cost) = true := T.F__law_cost.kp
abbrev Txt.k_as_one (T : Txt K mg) : PySem.W.keepIn K (.ref T.a_as_one) = true := T.F_as_one.kp
abbrev Txt.k_walk (T : Txt K mg) : PySem.W.keepIn K (.ref T.a_walk) = true := T.F_walk.kp
abbrev Txt.k_cost_of (T : Txt K mg) : PySem.W.keepIn K (.ref T.a_cost_of) = true := T.F_cost_of.kp
abbrev Txt.k_total_cost (T : Txt K mg) : PySem.W.keepIn K (.ref T.a_total_cost) = true := T.F_total_cost.kp
abbrev Txt.k_cost (T : Txt K mg) : PySem.W.keepIn K (.ref T.a_cost) = true := T.F_cost.kp
abbrev Txt.k__law_far (T : Txt K mg) : PySem.W.keepIn K (.ref T.a__law_far) = true := T.F__law_far.kp
abbrev Txt.k_law (T : Txt K mg) : PySem.W.keepIn K (.ref T.a_law) = true := T.F_law.kp
variable {P : Program} {w : World}
theorem ok__law_well (T : Txt K mg) (base : Heap) : FnOk P w K mg base CX0 1 T.a__law_well T.f__law_well ["cell", "turn"] (spZ K wf0 2 df__law_well) := by
  refine defZ (N := N__law_well) (ps := ["cell", "turn"]) (k := 0) (fb := body__law_well) T.F__law_well sc__law_well fun cdv A outer s H E hr => ?_
  have nd := sc__law_well.nd
  have hu := hr.units
  exact (zs_cons (zs_if (zt_cmp op_ge z_ge (zv 0) (ze_op op_pow z_pow z_int z_int)) (zs_one (zs_ret (ze_obj (za_cons (ze_op op_sub z_sub (zv 0) (ze_op op_pow z_pow z_int z_int)) (za_cons (ze_op op_mod z_mod (zv 0) z_int) (za_cons (zv 1) za_nil)))))) zs_nil) (zs_one (zs_ret (ze_obj (za_cons z_int (za_cons (ze_op op_mod z_mod (zv 0) z_int) (za_cons (zv 1) za_nil)))))))
theorem ok__law_bags (T : Txt K mg) (base : Heap) : FnOk P w K mg base CX0 2 T.a__law_bags T.f__law_bags ["script", "most"] (spZ K wf0 2 df__law_bags) := by
  refine defZ (N := N__law_bags) (ps := ["script", "most"]) (k := 1) (fb := body__law_bags) T.F__law_bags sc__law_bags fun cdv A outer s H E hr => ?_
  have nd := sc__law_bags.nd
  have hu := hr.units
  exact (zs_one (zs_ret (ze_lc (own := [(("k" : PySem.Str), 2), (("cell" : PySem.Str), 3)]) (by first | exact List.mem_singleton.mpr rfl | (intro i hi; exact hi) | decide) rfl nd (zi_enm (by rfl) T.z_enumerate (za_cons (ze_op op_addZ z_add (ze_slice (zv 0) zo_none (zo_some (zv 1))) (ze_lst (za_cons z_int za_nil))) za_nil)) (blkOk_by (N := N__law_bags) (sc := (defScope s__law_bags)) (by decide +kernel)) (fun _ _ _ _ _ => (pg_tup rfl (pgs_cons (pg_name (i := 2) nd rfl (Or.inl rfl)) (pgs_cons (pg_name (i := 3) nd rfl (Or.inl rfl)) pgs_nil)))) (fun _ _ _ _ _ => zts_nil) (fun _ _ _ _ _ => (ze_call (ok__law_well T base) (hr.mono (by decide)) (by rfl) T.g__law_well T.k__law_well T.b__law_well (za_cons (zv 3) (za_cons (ze_op op_mulZ z_mul z_int (zv 2)) za_nil)) (lenA1 (lenA1 lenA0)))))))
theorem ok_in_range (T : Txt K mg) (base : Heap) : FnOk P w K mg base CX0 1 T.a_in_range T.f_in_range ["value", "low", "high"] (spZ K wf0 3 df_in_range) := by
  refine defZ (N := N_in_range) (ps := ["value", "low", "high"]) (k := 0) (fb := body_in_range) T.F_in_range sc_in_range fun cdv A outer s H E hr => ?_
  have nd := sc_in_range.nd
  have hu := hr.units
  exact (zs_one (zs_ret (ze_and (ze_isi (T := .int) (zv 0) (TyNm.pe (T := .int) ⟨by rfl, T.z_int, by decide +kernel⟩) (by rfl) T.z_isinstance) (ze_and (ze_not (ze_isi (T := .bool) (zv 0) (TyNm.pe (T := .bool) ⟨by rfl, T.z_bool, by decide +kernel⟩) (by rfl) T.z_isinstance)) (ze_one (ze_chain op_le op_le z_le z_le (zv 1) (zv 0) (zv 2)))))))
theorem ok_is_policy (T : Txt K mg) (base : Heap) : FnOk P w K mg base CX0 2 T.a_is_policy T.f_is_policy ["value"] (spZ K wf0 1 df_is_policy) := by
  refine defZ (N := N_is_policy) (ps := ["value"]) (k := 1) (fb := body_is_policy) T.F_is_policy sc_is_policy fun cdv A outer s H E hr => ?_
  have nd := sc_is_policy.nd
  have hu := hr.units
  exact (zs_cons (zs_if (PW.pt (zw_or (zt_not (zt_val (ze_isi (T := .tuple) (zv 0) (TyNm.pe (T := .tuple) ⟨by rfl, T.z_tuple, by decide +kernel⟩) (by rfl) T.z_isinstance))) (zw_or1 (zt_cmp (op_neD hu) z_neD (ze_callB call_len_seq z_len (by rfl) T.z_len (by decide +kernel) (za_cons (zv 0) za_nil)) z_int)))) (zs_one (zs_ret z_bl)) zs_nil) (zs_cons (zs_if (PW.pt (zw_or (zt_not (zt_val (ze_call (ok_in_range T base) (hr.mono (by decide)) (by rfl) T.g_in_range T.k_in_range T.b_in_range (za_cons (ze_ix ix_seq z_ix (zv 0) z_int) (za_cons z_int (za_cons (z_glob (by rfl) T.c_MOST_PREMIUM) za_nil))) (lenA1 (lenA1 (lenA1 lenA0)))))) (zw_or1 (zt_not (zt_val (ze_call (ok_in_range T base) (hr.mono (by decide)) (by rfl) T.g_in_range T.k_in_range T.b_in_range (za_cons (ze_ix ix_seq z_ix (zv 0) z_int) (za_cons z_int (za_cons (z_glob (by rfl) T.c_MOST_EXCESS) za_nil))) (lenA1 (lenA1 (lenA1 lenA0))))))))) (zs_one (zs_ret z_bl)) zs_nil) (zs_one (zs_ret (ze_or (ze_cmp op_isN z_isN (ze_ix ix_seq z_ix (zv 0) z_int) z_non) (ze_one (ze_call (ok_in_range T base) (hr.mono (by decide)) (by rfl) T.g_in_range T.k_in_range T.b_in_range (za_cons (ze_ix ix_seq z_ix (zv 0) z_int) (za_cons z_int (za_cons (z_glob (by rfl) T.c_MOST_CAP) za_nil))) (lenA1 (lenA1 (lenA1 lenA0))))))))))
theorem ok_check_policy (T : Txt K mg) (base : Heap) : FnOk P w K mg base CX0 3 T.a_check_policy T.f_check_policy ["value"] (spZ K wf0 1 df_check_policy) := by
  refine defZ (N := N_check_policy) (ps := ["value"]) (k := 2) (fb := body_check_policy) T.F_check_policy sc_check_policy fun cdv A outer s H E hr => ?_
  have nd := sc_check_policy.nd
  have hu := hr.units
  exact (zs_one (zs_if (zt_not (zt_val (ze_call (ok_is_policy T base) (hr.mono (by decide)) (by rfl) T.g_is_policy T.k_is_policy T.b_is_policy (za_cons (zv 0) za_nil) (lenA1 lenA0)))) (zs_one zs_never) zs_nil))
theorem ok_check_damage (T : Txt K mg) (base : Heap) : FnOk P w K mg base CX0 2 T.a_check_damage T.f_check_damage ["value"] (spZ K wf0 1 df_check_damage) := by
  refine defZ (N := N_check_damage) (ps := ["value"]) (k := 1) (fb := body_check_damage) T.F_check_damage sc_check_damage fun cdv A outer s H E hr => ?_
  have nd := sc_check_damage.nd
  have hu := hr.units
  exact (zs_one (zs_if (zt_not (zt_val (ze_call (ok_in_range T base) (hr.mono (by decide)) (by rfl) T.g_in_range T.k_in_range T.b_in_range (za_cons (zv 0) (za_cons z_int (za_cons (z_glob (by rfl) T.c_MOST_DAMAGE) za_nil))) (lenA1 (lenA1 (lenA1 lenA0)))))) (zs_one zs_never) zs_nil))
theorem ok_check_number (T : Txt K mg) (base : Heap) : FnOk P w K mg base CX0 2 T.a_check_number T.f_check_number ["value", "low", "high"] (spZ K wf0 3 df_check_number) := by
  refine defZ (N := N_check_number) (ps := ["value", "low", "high"]) (k := 1) (fb := body_check_number) T.F_check_number sc_check_number fun cdv A outer s H E hr => ?_
  have nd := sc_check_number.nd
  have hu := hr.units
  exact (zs_one (zs_if (zt_not (zt_val (ze_call (ok_in_range T base) (hr.mono (by decide)) (by rfl) T.g_in_range T.k_in_range T.b_in_range (za_cons (zv 0) (za_cons (zv 1) (za_cons (zv 2) za_nil))) (lenA1 (lenA1 (lenA1 lenA0)))))) (zs_one zs_never) zs_nil))
theorem ok_capped (T : Txt K mg) (base : Heap) : FnOk P w K mg base CX0 1 T.a_capped T.f_capped ["policy", "shares"] (spZ K wf0 2 df_capped) := by
  refine defZ (N := N_capped) (ps := ["policy", "shares"]) (k := 0) (fb := body_capped) T.F_capped sc_capped fun cdv A outer s H E hr => ?_
  have nd := sc_capped.nd
  have hu := hr.units
  exact (zs_one (zs_ret (ze_if (zt_cmp op_isN z_isN (ze_ix ix_seq z_ix (zv 0) z_int) z_non) (zv 1) (ze_callB (call_min2 rfl) z_min2 (by rfl) T.z_min (by decide +kernel) (za_cons (ze_ix ix_seq z_ix (zv 0) z_int) (za_cons (zv 1) za_nil))))))
theorem ok_far_cost (T : Txt K mg) (base : Heap) : FnOk P w K mg base CX0 4 T.a_far_cost T.f_far_cost ["policy", "rows"] (spZ K wf0 2 df_far_cost) := by
  refine defZ (N := N_far_cost) (ps := ["policy", "rows"]) (k := 3) (fb := body_far_cost) T.F_far_cost sc_far_cost fun cdv A outer s H E hr => ?_
  have nd := sc_far_cost.nd
  have hu := hr.units
  exact (zs_cons (zs_expr (ze_call (ok_check_policy T base) (hr.mono (by decide)) (by rfl) T.g_check_policy T.k_check_policy T.b_check_policy (za_cons (zv 0) za_nil) (lenA1 lenA0))) (zs_cons (zs_set (i := 2) nd rfl (.inl rfl) (ze_and (ze_isi (T := .tuple) (zv 1) (TyNm.pe (T := .tuple) ⟨by rfl, T.z_tuple, by decide +kernel⟩) (by rfl) T.z_isinstance) (ze_one (ze_cmp op_le z_le (ze_callB call_len_seq z_len (by rfl) T.z_len (by decide +kernel) (za_cons (zv 1) za_nil)) (z_glob (by rfl) T.c_MOST_CLAIMS))))) (zs_cons (zs_if (PW.pt (zw_or (zt_not (zt_val (zv 2))) (zw_or1 (zt_not (zt_val (ze_callB (cr_all rfl) z_all (by rfl) T.z_all (by decide +kernel) (za_cons (ze_lc (own := [(("row" : PySem.Str), 3)]) (by first | exact List.mem_singleton.mpr rfl | (intro i hi; exact hi) | decide) rfl nd (zi_seq (zv 1)) (blkOk_by (N := N_far_cost) (sc := (defScope s_far_cost)) (by decide +kernel)) (fun _ _ _ _ _ => (pg_name (i := 3) nd rfl (Or.inl rfl))) (fun _ _ _ _ _ => zts_nil) (fun _ _ _ _ _ => (ze_and (ze_isi (T := .tuple) (zv 3) (TyNm.pe (T := .tuple) ⟨by rfl, T.z_tuple, by decide +kernel⟩) (by rfl) T.z_isinstance) (ze_one (ze_cmp (op_eqD hu) z_eqD (ze_callB call_len_seq z_len (by rfl) T.z_len (by decide +kernel) (za_cons (zv 3) za_nil)) z_int))))) za_nil))))))) (zs_one zs_never) zs_nil) (zs_cons (zs_for PassesOwn.never rfl (zi_seq (zv 1)) (pg_tup rfl (pgs_cons (pg_name (i := 4) nd rfl (.inl rfl)) (pgs_cons (pg_name (i := 5) nd rfl (.inl rfl)) pgs_nil))) (zs_cons (zs_expr (ze_call (ok_check_damage T base) (hr.mono (by decide)) (by rfl) T.g_check_damage T.k_check_damage T.b_check_damage (za_cons (zv 4) za_nil) (lenA1 lenA0))) (zs_one (zs_expr (ze_call (ok_check_number T base) (hr.mono (by decide)) (by rfl) T.g_check_number T.k_check_number T.b_check_number (za_cons (zv 5) (za_cons z_int (za_cons (ze_op op_pow z_pow z_int z_int) za_nil))) (lenA1 (lenA1 (lenA1 lenA0)))))))) (zs_one (zs_ret (ze_op op_addZ z_add (ze_ix ix_seq z_ix (zv 0) z_int) (ze_call (ok_capped T base) (hr.mono (by decide)) (by rfl) T.g_capped T.k_capped T.b_capped (za_cons (zv 0) (za_cons (ze_callB (cr_sum rfl) z_sum (by rfl) T.z_sum (by decide +kernel) (za_cons (ze_lc (own := [(("damage" : PySem.Str), 4), (("number" : PySem.Str), 5)]) (by first | exact List.mem_singleton.mpr rfl | (intro i hi; exact hi) | decide) rfl nd (zi_seq (zv 1)) (blkOk_by (N := N_far_cost) (sc := (defScope s_far_cost)) (by decide +kernel)) (fun _ _ _ _ _ => (pg_tup rfl (pgs_cons (pg_name (i := 4) nd rfl (Or.inl rfl)) (pgs_cons (pg_name (i := 5) nd rfl (Or.inl rfl)) pgs_nil)))) (fun _ _ _ _ _ => zts_nil) (fun _ _ _ _ _ => (ze_op op_mulZ z_mul (zv 5) (ze_callB (call_min2 rfl) z_min2 (by rfl) T.z_min (by decide +kernel) (za_cons (zv 4) (za_cons (ze_ix ix_seq z_ix (zv 0) z_int) za_nil)))))) za_nil)) za_nil)) (lenA1 (lenA1 lenA0))))))))))
theorem ok__law_take (T : Txt K mg) (base : Heap) : FnOk P w K mg base CX0 1 T.a__law_take T.f__law_take ["bag", "many"] (spZ K wf0 2 df__law_take) := by
  refine defZ (N := N__law_take) (ps := ["bag", "many"]) (k := 0) (fb := body__law_take) T.F__law_take sc__law_take fun cdv A outer s H E hr => ?_
  have nd := sc__law_take.nd
  have hu := hr.units
  exact (zs_cons (zs_if (zt_cmp op_gt z_gt (ze_ix ix_seq z_ix (zv 0) z_int) z_int) (zs_cons (zs_set (i := 2) nd rfl (.inl rfl) (ze_op op_mod z_mod (ze_ix ix_seq z_ix (zv 0) z_int) (zv 1))) (zs_cons (zs_put (ze_op op_fdiv z_div (ze_ix ix_seq z_ix (zv 0) z_int) (zv 1)) (zv 0) z_int) (zs_one (zs_ret (zv 2))))) zs_nil) (zs_cons (zs_put (ze_op op_addZ z_add (ze_ix ix_seq z_ix (zv 0) z_int) z_int) (zv 0) z_int) (zs_cons (zs_set (i := 3) nd rfl (.inl rfl) z_int) (zs_cons (zs_set (i := 4) nd rfl (.inl rfl) (ze_op op_mod z_mod (ze_op op_addZ z_add (ze_ix ix_seq z_ix (zv 0) z_int) (ze_op op_mulZ z_mul z_int (ze_ix ix_seq z_ix (zv 0) z_int))) (zv 3))) (zs_cons (zs_set (i := 4) nd rfl (.inl rfl) (ze_op op_mod z_mod (ze_op op_addZ z_add (ze_op op_addZ z_add (ze_op op_mulZ z_mul (zv 4) (zv 4)) (ze_op op_mulZ z_mul z_int (ze_op op_pow z_pow (ze_ix ix_seq z_ix (zv 0) z_int) z_int))) z_int) (zv 3))) (zs_one (zs_ret (ze_op op_mod z_mod (ze_op op_fdiv z_div (ze_op op_mod z_mod (ze_op op_pow z_pow (zv 4) z_int) (zv 3)) z_int) (zv 1)))))))))
theorem ok__law_policy (T : Txt K mg) (base : Heap) : FnOk P w K mg base CX0 2 T.a__law_policy T.f__law_policy ["bag"] (spZ K wf0 1 df__law_policy) := by
  refine defZ (N := N__law_policy) (ps := ["bag"]) (k := 1) (fb := body__law_policy) T.F__law_policy sc__law_policy fun cdv A outer s H E hr => ?_
  have nd := sc__law_policy.nd
  have hu := hr.units
  exact (zs_cons (zs_set (i := 1) nd rfl (.inl rfl) (ze_call (ok__law_take T base) (hr.mono (by decide)) (by rfl) T.g__law_take T.k__law_take T.b__law_take (za_cons (zv 0) (za_cons z_int za_nil)) (lenA1 (lenA1 lenA0)))) (zs_cons (zs_par (i := 2) (j := 3) rfl nd rfl rfl (by decide) rfl rfl (za_cons (ze_call (ok__law_take T base) (hr.mono (by decide)) (by rfl) T.g__law_take T.k__law_take T.b__law_take (za_cons (zv 0) (za_cons (ze_ix ix_seq z_ix (ze_lst (za_cons z_int (za_cons z_int za_nil))) (ze_op op_fdiv z_div (zv 1) z_int)) za_nil)) (lenA1 (lenA1 lenA0))) (za_cons (ze_call (ok__law_take T base) (hr.mono (by decide)) (by rfl) T.g__law_take T.k__law_take T.b__law_take (za_cons (zv 0) (za_cons (ze_ix ix_seq z_ix (ze_lst (za_cons z_int (za_cons z_int (za_cons z_int (za_cons z_int za_nil))))) (zv 1)) za_nil)) (lenA1 (lenA1 lenA0))) za_nil)) rfl) (zs_cons (zs_set (i := 4) nd rfl (.inl rfl) (ze_lst (za_cons z_non (za_cons (ze_op op_addZ z_add (ze_op op_mulZ z_mul (zv 3) (ze_call (ok__law_take T base) (hr.mono (by decide)) (by rfl) T.g__law_take T.k__law_take T.b__law_take (za_cons (zv 0) (za_cons z_int za_nil)) (lenA1 (lenA1 lenA0)))) (ze_call (ok__law_take T base) (hr.mono (by decide)) (by rfl) T.g__law_take T.k__law_take T.b__law_take (za_cons (zv 0) (za_cons z_int za_nil)) (lenA1 (lenA1 lenA0)))) (za_cons (ze_call (ok__law_take T base) (hr.mono (by decide)) (by rfl) T.g__law_take T.k__law_take T.b__law_take (za_cons (zv 0) (za_cons z_int za_nil)) (lenA1 (lenA1 lenA0))) (za_cons (ze_call (ok__law_take T base) (hr.mono (by decide)) (by rfl) T.g__law_take T.k__law_take T.b__law_take (za_cons (zv 0) (za_cons z_int za_nil)) (lenA1 (lenA1 lenA0))) za_nil)))))) (zs_one (zs_ret (ze_tup (za_cons (zv 2) (za_cons (zv 3) (za_cons (ze_ix ix_seq z_ix (zv 4) (ze_call (ok__law_take T base) (hr.mono (by decide)) (by rfl) T.g__law_take T.k__law_take T.b__law_take (za_cons (zv 0) (za_cons z_int za_nil)) (lenA1 (lenA1 lenA0)))) za_nil)))))))))
theorem ok__law_shares (T : Txt K mg) (base : Heap) : FnOk P w K mg base CX0 1 T.a__law_shares T.f__law_shares ["excess", "damages"] (spZ K wf0 2 df__law_shares) := by
  refine defZ (N := N__law_shares) (ps := ["excess", "damages"]) (k := 0) (fb := body__law_shares) T.F__law_shares sc__law_shares fun cdv A outer s H E hr => ?_
  have nd := sc__law_shares.nd
  have hu := hr.units
  exact (zs_cons (zs_set (i := 2) nd rfl (.inl rfl) z_int) (zs_cons (zs_for PassesOwn.never rfl (zi_seq (zv 1)) (pg_name (i := 3) nd rfl (.inl rfl)) (zs_one (zs_set (i := 2) nd rfl (.inl rfl) (ze_op op_addZ z_add (zv 2) (ze_if (zt_cmp op_lt z_lt (zv 3) (zv 0)) (zv 3) (zv 0)))))) (zs_one (zs_ret (zv 2)))))
theorem ok__law_capped (T : Txt K mg) (base : Heap) : FnOk P w K mg base CX0 1 T.a__law_capped T.f__law_capped ["policy", "shares"] (spZ K wf0 2 df__law_capped) := by
  refine defZ (N := N__law_capped) (ps := ["policy", "shares"]) (k := 0) (fb := body__law_capped) T.F__law_capped sc__law_capped fun cdv A outer s H E hr => ?_
  have nd := sc__law_capped.nd
  have hu := hr.units
  exact (zs_one (zs_ret (ze_if (PW.pt (zw_or (zt_cmp op_isN z_isN (ze_ix ix_seq z_ix (zv 0) z_int) z_non) (zw_or1 (zt_cmp op_lt z_lt (zv 1) (ze_ix ix_seq z_ix (zv 0) z_int))))) (zv 1) (ze_ix ix_seq z_ix (zv 0) z_int))))
theorem ok_is_year (T : Txt K mg) (base : Heap) : FnOk P w K mg base CX0 2 T.a_is_year T.f_is_year ["value"] (spZ K wf0 1 df_is_year) := by
  refine defZ (N := N_is_year) (ps := ["value"]) (k := 1) (fb := body_is_year) T.F_is_year sc_is_year fun cdv A outer s H E hr => ?_
  have nd := sc_is_year.nd
  have hu := hr.units
  exact (zs_cons (zs_if (PW.pt (zw_or (zt_not (zt_val (ze_isi (T := .tuple) (zv 0) (TyNm.pe (T := .tuple) ⟨by rfl, T.z_tuple, by decide +kernel⟩) (by rfl) T.z_isinstance))) (zw_or1 (zt_cmp op_gt z_gt (ze_callB call_len_seq z_len (by rfl) T.z_len (by decide +kernel) (za_cons (zv 0) za_nil)) (z_glob (by rfl) T.c_MOST_CLAIMS))))) (zs_one (zs_ret z_bl)) zs_nil) (zs_one (zs_ret (ze_callB (cr_all rfl) z_all (by rfl) T.z_all (by decide +kernel) (za_cons (ze_lc (own := [(("damage" : PySem.Str), 1)]) (by first | exact List.mem_singleton.mpr rfl | (intro i hi; exact hi) | decide) rfl nd (zi_seq (zv 0)) (blkOk_by (N := N_is_year) (sc := (defScope s_is_year)) (by decide +kernel)) (fun _ _ _ _ _ => (pg_name (i := 1) nd rfl (Or.inl rfl))) (fun _ _ _ _ _ => zts_nil) (fun _ _ _ _ _ => (ze_call (ok_in_range T base) (hr.mono (by decide)) (by rfl) T.g_in_range T.k_in_range T.b_in_range (za_cons (zv 1) (za_cons z_int (za_cons (z_glob (by rfl) T.c_MOST_DAMAGE) za_nil))) (lenA1 (lenA1 (lenA1 lenA0)))))) za_nil)))))
theorem ok_check_year (T : Txt K mg) (base : Heap) : FnOk P w K mg base CX0 3 T.a_check_year T.f_check_year ["value"] (spZ K wf0 1 df_check_year) := by
  refine defZ (N := N_check_year) (ps := ["value"]) (k := 2) (fb := body_check_year) T.F_check_year sc_check_year fun cdv A outer s H E hr => ?_
  have nd := sc_check_year.nd
  have hu := hr.units
  exact (zs_one (zs_if (zt_not (zt_val (ze_call (ok_is_year T base) (hr.mono (by decide)) (by rfl) T.g_is_year T.k_is_year T.b_is_year (za_cons (zv 0) za_nil) (lenA1 lenA0)))) (zs_one zs_never) zs_nil))
theorem ok_shares_of (T : Txt K mg) (base : Heap) : FnOk P w K mg base CX0 1 T.a_shares_of T.f_shares_of ["excess", "year"] (spZ K wf0 2 df_shares_of) := by
  refine defZ (N := N_shares_of) (ps := ["excess", "year"]) (k := 0) (fb := body_shares_of) T.F_shares_of sc_shares_of fun cdv A outer s H E hr => ?_
  have nd := sc_shares_of.nd
  have hu := hr.units
  exact (zs_one (zs_ret (ze_callB (cr_sum rfl) z_sum (by rfl) T.z_sum (by decide +kernel) (za_cons (ze_lc (own := [(("damage" : PySem.Str), 2)]) (by first | exact List.mem_singleton.mpr rfl | (intro i hi; exact hi) | decide) rfl nd (zi_seq (zv 1)) (blkOk_by (N := N_shares_of) (sc := (defScope s_shares_of)) (by decide +kernel)) (fun _ _ _ _ _ => (pg_name (i := 2) nd rfl (Or.inl rfl))) (fun _ _ _ _ _ => zts_nil) (fun _ _ _ _ _ => (ze_callB (call_min2 rfl) z_min2 (by rfl) T.z_min (by decide +kernel) (za_cons (zv 2) (za_cons (zv 0) za_nil))))) za_nil))))
theorem ok_own (T : Txt K mg) (base : Heap) : FnOk P w K mg base CX0 4 T.a_own T.f_own ["policy", "year"] (spZ K wf0 2 df_own) := by
  refine defZ (N := N_own) (ps := ["policy", "year"]) (k := 3) (fb := body_own) T.F_own sc_own fun cdv A outer s H E hr => ?_
  have nd := sc_own.nd
  have hu := hr.units
  exact (zs_cons (zs_expr (ze_call (ok_check_policy T base) (hr.mono (by decide)) (by rfl) T.g_check_policy T.k_check_policy T.b_check_policy (za_cons (zv 0) za_nil) (lenA1 lenA0))) (zs_cons (zs_expr (ze_call (ok_check_year T base) (hr.mono (by decide)) (by rfl) T.g_check_year T.k_check_year T.b_check_year (za_cons (zv 1) za_nil) (lenA1 lenA0))) (zs_one (zs_ret (ze_call (ok_capped T base) (hr.mono (by decide)) (by rfl) T.g_capped T.k_capped T.b_capped (za_cons (zv 0) (za_cons (ze_call (ok_shares_of T base) (hr.mono (by decide)) (by rfl) T.g_shares_of T.k_shares_of T.b_shares_of (za_cons (ze_ix ix_seq z_ix (zv 0) z_int) (za_cons (zv 1) za_nil)) (lenA1 (lenA1 lenA0))) za_nil)) (lenA1 (lenA1 lenA0)))))))
theorem ok__law_year (T : Txt K mg) (base : Heap) : FnOk P w K mg base CX0 2 T.a__law_year T.f__law_year ["bag", "most", "policy"] (spZ K wf0 3 df__law_year) := by
  refine defZ (N := N__law_year) (ps := ["bag", "most", "policy"]) (k := 1) (fb := body__law_year) T.F__law_year sc__law_year fun cdv A outer s H E hr => ?_
  have nd := sc__law_year.nd
  have hu := hr.units
  exact (zs_cons (zs_set (i := 3) nd rfl (.inl rfl) (ze_tup za_nil)) (zs_cons (zs_for PassesOwn.never rfl (zi_rng1 (by rfl) T.z_range (za_cons (ze_call (ok__law_take T base) (hr.mono (by decide)) (by rfl) T.g__law_take T.k__law_take T.b__law_take (za_cons (zv 0) (za_cons (ze_op op_addZ z_add (zv 1) z_int) za_nil)) (lenA1 (lenA1 lenA0))) za_nil)) (pg_name (i := 4) nd rfl (.inl rfl)) (zs_cons (zs_set (i := 5) nd rfl (.inl rfl) (ze_callB (call_max2 rfl) z_max2 (by rfl) T.z_max (by decide +kernel) (za_cons z_int (za_cons (ze_op op_sub z_sub (ze_op op_addZ z_add (ze_ix ix_seq z_ix (zv 2) z_int) (ze_call (ok__law_take T base) (hr.mono (by decide)) (by rfl) T.g__law_take T.k__law_take T.b__law_take (za_cons (zv 0) (za_cons z_int za_nil)) (lenA1 (lenA1 lenA0)))) z_int) za_nil)))) (zs_cons (zs_set (i := 6) nd rfl (.inl rfl) (ze_lst (za_cons (ze_op op_addZ z_add z_int (ze_call (ok__law_take T base) (hr.mono (by decide)) (by rfl) T.g__law_take T.k__law_take T.b__law_take (za_cons (zv 0) (za_cons z_int za_nil)) (lenA1 (lenA1 lenA0)))) (za_cons (zv 5) (za_cons (ze_op op_addZ z_add z_int (ze_call (ok__law_take T base) (hr.mono (by decide)) (by rfl) T.g__law_take T.k__law_take T.b__law_take (za_cons (zv 0) (za_cons (ze_op op_addZ z_add (ze_op op_mulZ z_mul z_int (ze_ix ix_seq z_ix (zv 2) z_int)) z_int) za_nil)) (lenA1 (lenA1 lenA0)))) (za_cons (ze_op op_addZ z_add z_int (ze_call (ok__law_take T base) (hr.mono (by decide)) (by rfl) T.g__law_take T.k__law_take T.b__law_take (za_cons (zv 0) (za_cons (ze_op op_pow z_pow z_int z_int) za_nil)) (lenA1 (lenA1 lenA0)))) za_nil)))))) (zs_one (zs_set (i := 3) nd rfl (.inl rfl) (ze_op op_addZ z_add (zv 3) (ze_tup (za_cons (ze_ix ix_seq z_ix (zv 6) (ze_call (ok__law_take T base) (hr.mono (by decide)) (by rfl) T.g__law_take T.k__law_take T.b__law_take (za_cons (zv 0) (za_cons z_int za_nil)) (lenA1 (lenA1 lenA0)))) za_nil)))))))) (zs_one (zs_ret (zv 3)))))
theorem okr__law_same (T : Txt K mg) (base : Heap) : ∀ n : Nat, FnOk P w K mg base CX0 (1 + n) T.a__law_same T.f__law_same ["a", "b"] (spZ K wf0 2 (rec__law_same n))
  | 0 => ⟨fun vs H Q E q => spZ_len q, fun A outer s H args us vs Q E hr e0 hb r q => by
    obtain ⟨bs, M, F, ds, wd, rr, hn, run⟩ := q
    exact run.elim⟩
  | n + 1 => by
    have ih : FnOk P w K mg base CX0 (1 + n) T.a__law_same T.f__law_same ["a", "b"] (spZ K wf0 2 (rec__law_same n)) := okr__law_same T base n
    refine defZ (N := N__law_same) (ps := ["a", "b"]) (k := 1 + n) (fb := body__law_same (rec__law_same n)) T.F__law_same sc__law_same fun cdv A outer s H E hr => ?_
    have nd := sc__law_same.nd
    have hu := hr.units
    exact (zs_cons (zs_if (PW.pt (zw_or (PW.pt (zw_and (zt_val (ze_isi (T := .list) (zv 0) (TyNm.pe (T := .list) ⟨by rfl, T.z_list, by decide +kernel⟩) (by rfl) T.z_isinstance)) (zw_and1 (zt_val (ze_isi (T := .list) (zv 1) (TyNm.pe (T := .list) ⟨by rfl, T.z_list, by decide +kernel⟩) (by rfl) T.z_isinstance))))) (zw_or1 (PW.pt (zw_and (zt_val (ze_isi (T := .tuple) (zv 0) (TyNm.pe (T := .tuple) ⟨by rfl, T.z_tuple, by decide +kernel⟩) (by rfl) T.z_isinstance)) (zw_and1 (zt_val (ze_isi (T := .tuple) (zv 1) (TyNm.pe (T := .tuple) ⟨by rfl, T.z_tuple, by decide +kernel⟩) (by rfl) T.z_isinstance)))))))) (zs_one (zs_ret (ze_and (ze_cmp (op_eqD hu) z_eqD (ze_callB call_len_seq z_len (by rfl) T.z_len (by decide +kernel) (za_cons (zv 0) za_nil)) (ze_callB call_len_seq z_len (by rfl) T.z_len (by decide +kernel) (za_cons (zv 1) za_nil))) (ze_one (ze_callB (cr_all rfl) z_all (by rfl) T.z_all (by decide +kernel) (za_cons (ze_lc (own := [(("x" : PySem.Str), 2), (("y" : PySem.Str), 3)]) (by first | exact List.mem_singleton.mpr rfl | (intro i hi; exact hi) | decide) rfl nd (zi_zip (by rfl) T.z_zip (za_cons (zv 0) (za_cons (zv 1) za_nil))) (blkOk_by (N := N__law_same) (sc := (defScope s__law_same)) (by decide +kernel)) (fun _ _ _ _ _ => (pg_tup rfl (pgs_cons (pg_name (i := 2) nd rfl (Or.inl rfl)) (pgs_cons (pg_name (i := 3) nd rfl (Or.inl rfl)) pgs_nil)))) (fun _ _ _ _ _ => zts_nil) (fun _ _ _ _ _ => (ze_call ih (hr.mono (by omega)) (by rfl) T.g__law_same T.k__law_same T.b__law_same (za_cons (zv 2) (za_cons (zv 3) za_nil)) (lenA1 (lenA1 lenA0))))) za_nil)))))) zs_nil) (zs_cons (zs_if (PW.pt (zw_or (zt_val (ze_isiT (zv 0) (.cons (TyNm.pe (T := .bool) ⟨by rfl, T.z_bool, by decide +kernel⟩) (.cons (TyNm.pe (T := .list) ⟨by rfl, T.z_list, by decide +kernel⟩) (.cons (TyNm.pe (T := .tuple) ⟨by rfl, T.z_tuple, by decide +kernel⟩) .nil rfl) rfl) rfl) (by rfl) T.z_isinstance (by decide))) (zw_or1 (zt_val (ze_isiT (zv 1) (.cons (TyNm.pe (T := .bool) ⟨by rfl, T.z_bool, by decide +kernel⟩) (.cons (TyNm.pe (T := .list) ⟨by rfl, T.z_list, by decide +kernel⟩) (.cons (TyNm.pe (T := .tuple) ⟨by rfl, T.z_tuple, by decide +kernel⟩) .nil rfl) rfl) rfl) (by rfl) T.z_isinstance (by decide)))))) (zs_one (zs_ret (ze_and (ze_isi (T := .bool) (zv 0) (TyNm.pe (T := .bool) ⟨by rfl, T.z_bool, by decide +kernel⟩) (by rfl) T.z_isinstance) (ze_and (ze_isi (T := .bool) (zv 1) (TyNm.pe (T := .bool) ⟨by rfl, T.z_bool, by decide +kernel⟩) (by rfl) T.z_isinstance) (ze_one (ze_cmp (op_eqD hu) z_eqD (zv 0) (zv 1))))))) zs_nil) (zs_cons (zs_if (PW.pt (zw_or (zt_val (ze_isi (T := .int) (zv 0) (TyNm.pe (T := .int) ⟨by rfl, T.z_int, by decide +kernel⟩) (by rfl) T.z_isinstance)) (zw_or1 (zt_val (ze_isi (T := .int) (zv 1) (TyNm.pe (T := .int) ⟨by rfl, T.z_int, by decide +kernel⟩) (by rfl) T.z_isinstance))))) (zs_one (zs_ret (ze_and (ze_isi (T := .int) (zv 0) (TyNm.pe (T := .int) ⟨by rfl, T.z_int, by decide +kernel⟩) (by rfl) T.z_isinstance) (ze_and (ze_isi (T := .int) (zv 1) (TyNm.pe (T := .int) ⟨by rfl, T.z_int, by decide +kernel⟩) (by rfl) T.z_isinstance) (ze_one (ze_cmp (op_eqD hu) z_eqD (zv 0) (zv 1))))))) zs_nil) (zs_cons (zs_if (PW.pt (zw_or (zt_val (ze_isi (T := .str) (zv 0) (TyNm.pe (T := .str) ⟨by rfl, T.z_str, by decide +kernel⟩) (by rfl) T.z_isinstance)) (zw_or1 (zt_val (ze_isi (T := .str) (zv 1) (TyNm.pe (T := .str) ⟨by rfl, T.z_str, by decide +kernel⟩) (by rfl) T.z_isinstance))))) (zs_one (zs_ret (ze_and (ze_isi (T := .str) (zv 0) (TyNm.pe (T := .str) ⟨by rfl, T.z_str, by decide +kernel⟩) (by rfl) T.z_isinstance) (ze_and (ze_isi (T := .str) (zv 1) (TyNm.pe (T := .str) ⟨by rfl, T.z_str, by decide +kernel⟩) (by rfl) T.z_isinstance) (ze_one (ze_cmp (op_eqD hu) z_eqD (zv 0) (zv 1))))))) zs_nil) (zs_one (zs_ret (ze_and (ze_cmp op_isN z_isN (zv 0) z_non) (ze_one (ze_cmp op_isN z_isN (zv 1) z_non)))))))))
theorem ok__law_same (T : Txt K mg) (base : Heap) : FnOk P w K mg base CX0 9 T.a__law_same T.f__law_same ["a", "b"] (spZ K wf0 2 df__law_same) := okr__law_same T base 8
theorem ok__law_cost (T : Txt K mg) (base : Heap) : FnOk P w K mg base CX0 2 T.a__law_cost T.f__law_cost ["policy", "damages"] (spZ K wf0 2 df__law_cost) := by
  refine defZ (N := N__law_cost) (ps := ["policy", "damages"]) (k := 1) (fb := body__law_cost) T.F__law_cost sc__law_cost fun cdv A outer s H E hr => ?_
  have nd := sc__law_cost.nd
  have hu := hr.units
  exact (zs_one (zs_ret (ze_op op_addZ z_add (ze_ix ix_seq z_ix (zv 0) z_int) (ze_call (ok__law_capped T base) (hr.mono (by decide)) (by rfl) T.g__law_capped T.k__law_capped T.b__law_capped (za_cons (zv 0) (za_cons (ze_call (ok__law_shares T base) (hr.mono (by decide)) (by rfl) T.g__law_shares T.k__law_shares T.b__law_shares (za_cons (ze_ix ix_seq z_ix (zv 0) z_int) (za_cons (zv 1) za_nil)) (lenA1 (lenA1 lenA0))) za_nil)) (lenA1 (lenA1 lenA0))))))
theorem ok_as_one (T : Txt K mg) (base : Heap) : FnOk P w K mg base CX0 4 T.a_as_one T.f_as_one ["policy", "year"] (spZ K wf0 2 df_as_one) := by
  refine defZ (N := N_as_one) (ps := ["policy", "year"]) (k := 3) (fb := body_as_one) T.F_as_one sc_as_one fun cdv A outer s H E hr => ?_
  have nd := sc_as_one.nd
  have hu := hr.units
  exact (zs_cons (zs_expr (ze_call (ok_check_policy T base) (hr.mono (by decide)) (by rfl) T.g_check_policy T.k_check_policy T.b_check_policy (za_cons (zv 0) za_nil) (lenA1 lenA0))) (zs_cons (zs_expr (ze_call (ok_check_year T base) (hr.mono (by decide)) (by rfl) T.g_check_year T.k_check_year T.b_check_year (za_cons (zv 1) za_nil) (lenA1 lenA0))) (zs_one (zs_ret (ze_op op_addZ z_add (ze_ix ix_seq z_ix (zv 0) z_int) (ze_call (ok_capped T base) (hr.mono (by decide)) (by rfl) T.g_capped T.k_capped T.b_capped (za_cons (zv 0) (za_cons (ze_callB (call_min2 rfl) z_min2 (by rfl) T.z_min (by decide +kernel) (za_cons (ze_callB (cr_sumT rfl) z_sumT (by rfl) T.z_sum (by decide +kernel) (za_cons (zv 1) za_nil)) (za_cons (ze_ix ix_seq z_ix (zv 0) z_int) za_nil))) za_nil)) (lenA1 (lenA1 lenA0))))))))
theorem ok_walk (T : Txt K mg) (base : Heap) : GFn P w K mg base 4 T.a_walk T.f_walk ["policy", "year"] (spG K 2 gf_walk) := by
  refine genZ (N := N_walk) (ps := ["policy", "year"]) (k := 3) (fb := body_walk) T.F_walk sc_walk fun cdv A outer s H E pn hr => ?_
  have nd := sc_walk.nd
  have hu := hr.units
  exact (zy_cons (zy_plain (zs_expr (ze_call (ok_check_policy T base) (hr.mono (by decide)) (by rfl) T.g_check_policy T.k_check_policy T.b_check_policy (za_cons (zv 0) za_nil) (lenA1 lenA0)))) (zy_cons (zy_plain (zs_expr (ze_call (ok_check_year T base) (hr.mono (by decide)) (by rfl) T.g_check_year T.k_check_year T.b_check_year (za_cons (zv 1) za_nil) (lenA1 lenA0)))) (zy_cons (zy_plain (zs_set (i := 2) nd rfl (.inl rfl) z_int)) (zy_cons (zy_for (L2.passes_of rfl) rfl (zi_seq (zv 1)) (pg_name (i := 3) nd rfl (.inl rfl)) (zy_cons (zy_plain (zs_set (i := 4) nd rfl (.inl rfl) (ze_call (ok_capped T base) (hr.mono (by decide)) (by rfl) T.g_capped T.k_capped T.b_capped (za_cons (zv 0) (za_cons (zv 2) za_nil)) (lenA1 (lenA1 lenA0))))) (zy_cons (zy_plain (zs_set (i := 2) nd rfl (.inl rfl) (ze_op op_addZ z_add (zv 2) (ze_callB (call_min2 rfl) z_min2 (by rfl) T.z_min (by decide +kernel) (za_cons (zv 3) (za_cons (ze_ix ix_seq z_ix (zv 0) z_int) za_nil)))))) (zy_cons (zy_yield (ze_op op_sub z_sub (ze_call (ok_capped T base) (hr.mono (by decide)) (by rfl) T.g_capped T.k_capped T.b_capped (za_cons (zv 0) (za_cons (zv 2) za_nil)) (lenA1 (lenA1 lenA0))) (zv 4))) zy_nil)))) zy_nil))))
theorem okj_walk (T : Txt K mg) (base : Heap) : ZJ.FnJ P w K mg base 4 T.a_walk T.f_walk ["policy", "year"] (spG K 2 gf_walk) := by
  refine genZJ (N := N_walk) (ps := ["policy", "year"]) (k := 3) (fb := body_walk) T.F_walk sc_walk fun cdv A outer s H E pn hr => ?_
  have nd := sc_walk.nd
  have hu := hr.units
  exact (zj_cons (zj_plain (zs_expr (ze_call (ok_check_policy T base) (hr.mono (by decide)) (by rfl) T.g_check_policy T.k_check_policy T.b_check_policy (za_cons (zv 0) za_nil) (lenA1 lenA0)))) (zj_cons (zj_plain (zs_expr (ze_call (ok_check_year T base) (hr.mono (by decide)) (by rfl) T.g_check_year T.k_check_year T.b_check_year (za_cons (zv 1) za_nil) (lenA1 lenA0)))) (zj_cons (zj_plain (zs_set (i := 2) nd rfl (.inl rfl) z_int)) (zj_cons (zj_for (L2.passes_of rfl) rfl (zi_seq (zv 1)) (pg_name (i := 3) nd rfl (.inl rfl)) (zj_cons (zj_plain (zs_set (i := 4) nd rfl (.inl rfl) (ze_call (ok_capped T base) (hr.mono (by decide)) (by rfl) T.g_capped T.k_capped T.b_capped (za_cons (zv 0) (za_cons (zv 2) za_nil)) (lenA1 (lenA1 lenA0))))) (zj_cons (zj_plain (zs_set (i := 2) nd rfl (.inl rfl) (ze_op op_addZ z_add (zv 2) (ze_callB (call_min2 rfl) z_min2 (by rfl) T.z_min (by decide +kernel) (za_cons (zv 3) (za_cons (ze_ix ix_seq z_ix (zv 0) z_int) za_nil)))))) (zj_cons (zj_yield (ze_op op_sub z_sub (ze_call (ok_capped T base) (hr.mono (by decide)) (by rfl) T.g_capped T.k_capped T.b_capped (za_cons (zv 0) (za_cons (zv 2) za_nil)) (lenA1 (lenA1 lenA0))) (zv 4))) zj_nil)))) zj_nil))))
theorem ok_cost_of (T : Txt K mg) (base : Heap) : FnOk P w K mg base CX0 2 T.a_cost_of T.f_cost_of ["policy", "year"] (spZ K wf0 2 df_cost_of) := by
  refine defZ (N := N_cost_of) (ps := ["policy", "year"]) (k := 1) (fb := body_cost_of) T.F_cost_of sc_cost_of fun cdv A outer s H E hr => ?_
  have nd := sc_cost_of.nd
  have hu := hr.units
  exact (zs_one (zs_ret (ze_op op_addZ z_add (ze_ix ix_seq z_ix (zv 0) z_int) (ze_call (ok_capped T base) (hr.mono (by decide)) (by rfl) T.g_capped T.k_capped T.b_capped (za_cons (zv 0) (za_cons (ze_call (ok_shares_of T base) (hr.mono (by decide)) (by rfl) T.g_shares_of T.k_shares_of T.b_shares_of (za_cons (ze_ix ix_seq z_ix (zv 0) z_int) (za_cons (zv 1) za_nil)) (lenA1 (lenA1 lenA0))) za_nil)) (lenA1 (lenA1 lenA0))))))
theorem ok_total_cost (T : Txt K mg) (base : Heap) : FnR P w K mg base CX0 4 T.a_total_cost (spS K wf0 1 df_total_cost) := by
  refine defS (N := N_total_cost) (k := 3) (ps := ["policy"]) (pv := "years") (fb := body_total_cost) T.F_total_cost sc_total_cost (fun _ _ _ _ _ _ us rest hl => match us, rest, hl with | [_], [], _ => rfl | [_], _ :: _, _ => rfl) fun cdv A outer s H E hr => ?_
  have nd := sc_total_cost.nd
  have hu := hr.units
  exact (zs_cons (zs_expr (ze_call (ok_check_policy T base) (hr.mono (by decide)) (by rfl) T.g_check_policy T.k_check_policy T.b_check_policy (za_cons (zv 0) za_nil) (lenA1 lenA0))) (zs_cons (zs_for PassesOwn.never rfl (zi_seq (zv 1)) (pg_name (i := 2) nd rfl (.inl rfl)) (zs_one (zs_expr (ze_call (ok_check_year T base) (hr.mono (by decide)) (by rfl) T.g_check_year T.k_check_year T.b_check_year (za_cons (zv 2) za_nil) (lenA1 lenA0))))) (zs_one (zs_ret (ze_callB (cr_sum rfl) z_sum (by rfl) T.z_sum (by decide +kernel) (za_cons (ze_lc (own := [(("year" : PySem.Str), 2)]) (by first | exact List.mem_singleton.mpr rfl | (intro i hi; exact hi) | decide) rfl nd (zi_seq (zv 1)) (blkOk_by (N := N_total_cost) (sc := (defScope s_total_cost)) (by decide +kernel)) (fun _ _ _ _ _ => (pg_name (i := 2) nd rfl (Or.inl rfl))) (fun _ _ _ _ _ => zts_nil) (fun _ _ _ _ _ => (ze_call (ok_cost_of T base) (hr.mono (by decide)) (by rfl) T.g_cost_of T.k_cost_of T.b_cost_of (za_cons (zv 0) (za_cons (zv 2) za_nil)) (lenA1 (lenA1 lenA0))))) za_nil))))))
theorem ok_cost (T : Txt K mg) (base : Heap) : FnOk P w K mg base CX0 4 T.a_cost T.f_cost ["policy", "year"] (spZ K wf0 2 df_cost) := by
  refine defZ (N := N_cost) (ps := ["policy", "year"]) (k := 3) (fb := body_cost) T.F_cost sc_cost fun cdv A outer s H E hr => ?_
  have nd := sc_cost.nd
  have hu := hr.units
  exact (zs_cons (zs_expr (ze_call (ok_check_policy T base) (hr.mono (by decide)) (by rfl) T.g_check_policy T.k_check_policy T.b_check_policy (za_cons (zv 0) za_nil) (lenA1 lenA0))) (zs_cons (zs_expr (ze_call (ok_check_year T base) (hr.mono (by decide)) (by rfl) T.g_check_year T.k_check_year T.b_check_year (za_cons (zv 1) za_nil) (lenA1 lenA0))) (zs_one (zs_ret (ze_call (ok_cost_of T base) (hr.mono (by decide)) (by rfl) T.g_cost_of T.k_cost_of T.b_cost_of (za_cons (zv 0) (za_cons (zv 1) za_nil)) (lenA1 (lenA1 lenA0)))))))
theorem ok__law_far (T : Txt K mg) (base : Heap) : FnOk P w K mg base CX0 2 T.a__law_far T.f__law_far ["bag", "many"] (spZ K wf0 2 df__law_far) := by
  refine defZ (N := N__law_far) (ps := ["bag", "many"]) (k := 1) (fb := body__law_far) T.F__law_far sc__law_far fun cdv A outer s H E hr => ?_
  have nd := sc__law_far.nd
  have hu := hr.units
  exact (zs_cons (zs_par (i := 2) (j := 3) rfl nd rfl rfl (by decide) rfl rfl (za_cons z_int (za_cons (zv 1) za_nil)) rfl) (zs_cons (zs_while 100000 PassesOwn.never (zt_cmp op_gt z_gt (zv 3) z_int) (zs_one (zs_par (i := 2) (j := 3) rfl nd rfl rfl (by decide) rfl rfl (za_cons (ze_op op_addZ z_add (ze_op op_mulZ z_mul z_int (zv 2)) (ze_call (ok__law_take T base) (hr.mono (by decide)) (by rfl) T.g__law_take T.k__law_take T.b__law_take (za_cons (zv 0) (za_cons z_int za_nil)) (lenA1 (lenA1 lenA0)))) (za_cons (ze_op op_fdiv z_div (zv 3) z_int) za_nil)) rfl))) (zs_one (zs_ret (ze_ix ix_seq z_ix (ze_lst (za_cons (ze_op op_mod z_mod (zv 2) (zv 1)) (za_cons z_int (za_cons (ze_op op_sub z_sub (zv 1) z_int) (za_cons (ze_op op_mod z_mod (zv 2) (zv 1)) za_nil))))) (ze_call (ok__law_take T base) (hr.mono (by decide)) (by rfl) T.g__law_take T.k__law_take T.b__law_take (za_cons (zv 0) (za_cons z_int za_nil)) (lenA1 (lenA1 lenA0))))))))
theorem ok_law (T : Txt K mg) (base : Heap) : FnOk P w K mg base CX0 10 T.a_law T.f_law ["script"] (spZ K wf0 1 df_law) := by
  refine defZ (N := N_law) (ps := ["script"]) (k := 9) (fb := body_law) T.F_law sc_law fun cdv A outer s H E hr => ?_
  have nd := sc_law.nd
  have hu := hr.units
  exact (zs_cons (zs_for PassesOwn.never rfl (zi_seq (ze_call (ok__law_bags T base) (hr.mono (by decide)) (by rfl) T.g__law_bags T.k__law_bags T.b__law_bags (za_cons (zv 0) (za_cons z_int za_nil)) (lenA1 (lenA1 lenA0)))) (pg_name (i := 1) nd rfl (.inr rfl)) (zs_one (zs_for PassesOwn.never rfl (zi_rng1 (by rfl) T.z_range (za_cons z_int za_nil)) (pg_name (i := 2) nd rfl (.inl rfl)) (zs_cons (zs_set (i := 3) nd rfl (.inr rfl) (ze_call (ok__law_policy T base) (hr.mono (by decide)) (by rfl) T.g__law_policy T.k__law_policy T.b__law_policy (za_cons (zv 1) za_nil) (lenA1 lenA0))) (zs_cons (zs_par (i := 4) (j := 5) rfl nd rfl rfl (by decide) rfl rfl (za_cons (ze_call (ok__law_year T base) (hr.mono (by decide)) (by rfl) T.g__law_year T.k__law_year T.b__law_year (za_cons (zv 1) (za_cons z_int (za_cons (zv 3) za_nil))) (lenA1 (lenA1 (lenA1 lenA0)))) (za_cons (ze_call (ok__law_year T base) (hr.mono (by decide)) (by rfl) T.g__law_year T.k__law_year T.b__law_year (za_cons (zv 1) (za_cons z_int (za_cons (zv 3) za_nil))) (lenA1 (lenA1 (lenA1 lenA0)))) za_nil)) rfl) (zs_cons (zs_set (i := 6) nd rfl (.inl rfl) (ze_call (ok__law_shares T base) (hr.mono (by decide)) (by rfl) T.g__law_shares T.k__law_shares T.b__law_shares (za_cons (ze_ix ix_seq z_ix (zv 3) z_int) (za_cons (zv 4) za_nil)) (lenA1 (lenA1 lenA0)))) (zs_cons (zs_set (i := 7) nd rfl (.inl rfl) (ze_call (ok__law_capped T base) (hr.mono (by decide)) (by rfl) T.g__law_capped T.k__law_capped T.b__law_capped (za_cons (zv 3) (za_cons (zv 6) za_nil)) (lenA1 (lenA1 lenA0)))) (zs_cons (zs_if (zt_not (zt_val (ze_call (ok__law_same T base) (hr.mono (by decide)) (by rfl) T.g__law_same T.k__law_same T.b__law_same (za_cons (ze_lst (za_cons (ze_call (ok_own T base) (hr.mono (by decide)) (by rfl) T.g_own T.k_own T.b_own (za_cons (zv 3) (za_cons (zv 4) za_nil)) (lenA1 (lenA1 lenA0))) (za_cons (ze_call (ok_cost T base) (hr.mono (by decide)) (by rfl) T.g_cost T.k_cost T.b_cost (za_cons (zv 3) (za_cons (zv 4) za_nil)) (lenA1 (lenA1 lenA0))) za_nil))) (za_cons (ze_lst (za_cons (zv 7) (za_cons (ze_op op_addZ z_add (ze_ix ix_seq z_ix (zv 3) z_int) (zv 7)) za_nil))) za_nil)) (lenA1 (lenA1 lenA0))))) (zs_one (zs_ret z_bl)) zs_nil) (zs_cons (zs_set (i := 8) nd rfl (.inl rfl) (ze_op op_addZ z_add (ze_op op_mulZ z_mul z_int (ze_op op_addZ z_add (ze_ix ix_seq z_ix (zv 3) z_int) (zv 7))) (ze_call (ok__law_cost T base) (hr.mono (by decide)) (by rfl) T.g__law_cost T.k__law_cost T.b__law_cost (za_cons (zv 3) (za_cons (zv 5) za_nil)) (lenA1 (lenA1 lenA0))))) (zs_cons (zs_if (PW.pt (zw_or (zt_not (zt_val (ze_call (ok__law_same T base) (hr.mono (by decide)) (by rfl) T.g__law_same T.k__law_same T.b__law_same (za_cons (ze_callS 1 (ok_total_cost T base) (hr.mono (by decide)) (by rfl) T.g_total_cost T.k_total_cost (za_cons (zv 3) (za_cons (zv 4) (za_cons (zv 5) (za_cons (zv 4) za_nil)))) (lenA1 (lenA1 (lenA1 (lenA1 lenA0))))) (za_cons (zv 8) za_nil)) (lenA1 (lenA1 lenA0))))) (zw_or1 (zt_cmp (op_neD hu) z_neD (ze_callS 1 (ok_total_cost T base) (hr.mono (by decide)) (by rfl) T.g_total_cost T.k_total_cost (za_cons (zv 3) za_nil) (lenA1 lenA0)) z_int)))) (zs_one (zs_ret z_bl)) zs_nil) (zs_cons (zs_parOwn0 (i := 9) (j := 10) rfl nd rfl rfl (by decide) rfl rfl z_int rfl) (zs_cons (zs_setLcG (i := 11) (own := [(("part" : PySem.Str), 12)]) (okj_walk T base) (hr.mono (by decide)) (by rfl) T.g_walk T.k_walk T.b_walk (za_cons (zv 3) (za_cons (zv 4) za_nil)) (lenA1 (lenA1 lenA0)) rfl nd rfl rfl (sw_true rfl rfl rfl (by decide +kernel)) (blkOk_by (N := N_law) (sc := (defScope s_law)) (by decide +kernel)) (by decide +kernel)) (zs_cons (zs_for PassesOwn.never rfl (zi_rng1 (by rfl) T.z_range (za_cons (ze_callB call_len_seq z_len (by rfl) T.z_len (by decide +kernel) (za_cons (zv 4) za_nil)) za_nil)) (pg_name (i := 13) nd rfl (.inl rfl)) (zs_cons (zs_set (i := 14) nd rfl (.inl rfl) (ze_call (ok__law_capped T base) (hr.mono (by decide)) (by rfl) T.g__law_capped T.k__law_capped T.b__law_capped (za_cons (zv 3) (za_cons (ze_call (ok__law_shares T base) (hr.mono (by decide)) (by rfl) T.g__law_shares T.k__law_shares T.b__law_shares (za_cons (ze_ix ix_seq z_ix (zv 3) z_int) (za_cons (ze_slice (zv 4) zo_none (zo_some (ze_op op_addZ z_add (zv 13) z_int))) za_nil)) (lenA1 (lenA1 lenA0))) za_nil)) (lenA1 (lenA1 lenA0)))) (zs_cons (zs_app (i := 9) (pv 9) (ze_op op_sub z_sub (zv 14) (zv 10))) (zs_one (zs_set (i := 10) nd rfl (.inl rfl) (zv 14)))))) (zss_frz 9 (zs_cons (zs_if (PW.pt (zw_or (zt_not (zt_val (ze_call (ok__law_same T base) (hr.mono (by decide)) (by rfl) T.g__law_same T.k__law_same T.b__law_same (za_cons (zv 11) (za_cons (zv 9) za_nil)) (lenA1 (lenA1 lenA0))))) (zw_or1 (zt_cmp (op_neD hu) z_neD (ze_call (ok_cost T base) (hr.mono (by decide)) (by rfl) T.g_cost T.k_cost T.b_cost (za_cons (zv 3) (za_cons (ze_revT (zv 4)) za_nil)) (lenA1 (lenA1 lenA0))) (ze_op op_addZ z_add (ze_ix ix_seq z_ix (zv 3) z_int) (zv 7)))))) (zs_one (zs_ret z_bl)) zs_nil) (zs_cons (zs_set (i := 15) nd rfl (.inl rfl) (ze_if (zt_cmp (op_neD hu) z_neD (zv 4) (ze_tup za_nil)) (ze_tup (za_cons (ze_callB (cr_sumT rfl) z_sumT (by rfl) T.z_sum (by decide +kernel) (za_cons (zv 4) za_nil)) za_nil)) (ze_tup za_nil))) (zs_cons (zs_if (zt_cmp (op_neD hu) z_neD (ze_call (ok_as_one T base) (hr.mono (by decide)) (by rfl) T.g_as_one T.k_as_one T.b_as_one (za_cons (zv 3) (za_cons (zv 4) za_nil)) (lenA1 (lenA1 lenA0))) (ze_call (ok__law_cost T base) (hr.mono (by decide)) (by rfl) T.g__law_cost T.k__law_cost T.b__law_cost (za_cons (zv 3) (za_cons (zv 15) za_nil)) (lenA1 (lenA1 lenA0)))) (zs_one (zs_ret z_bl)) zs_nil) (zs_cons (zs_if (zt_cmp (op_neD hu) z_neD (ze_call (ok_far_cost T base) (hr.mono (by decide)) (by rfl) T.g_far_cost T.k_far_cost T.b_far_cost (za_cons (zv 3) (za_cons (ze_callTy call_tuple_of z_tuple (by rfl) T.z_tuple (by decide +kernel) (za_cons (ze_lc (own := [(("damage" : PySem.Str), 16)]) (by first | exact List.mem_singleton.mpr rfl | (intro i hi; exact hi) | decide) rfl nd (zi_seq (zv 4)) (blkOk_by (N := N_law) (sc := (defScope s_law)) (by decide +kernel)) (fun _ _ _ _ _ => (pg_name (i := 16) nd rfl (Or.inl rfl))) (fun _ _ _ _ _ => zts_nil) (fun _ _ _ _ _ => (ze_tup (za_cons (zv 16) (za_cons z_int za_nil))))) za_nil)) za_nil)) (lenA1 (lenA1 lenA0))) (ze_op op_addZ z_add (ze_ix ix_seq z_ix (zv 3) z_int) (zv 7))) (zs_one (zs_ret z_bl)) zs_nil) (zs_cons (zs_setLc (i := 17) (own := [(("damage" : PySem.Str), 16)]) (by first | exact List.mem_singleton.mpr rfl | (intro i hi; exact hi) | decide) rfl nd rfl rfl (sw_true rfl rfl rfl (by decide +kernel)) (zi_seq (ze_slice (zv 4) zo_none (zo_some z_int))) (blkOk_by (N := N_law) (sc := (defScope s_law)) (by decide +kernel)) (fun _ _ _ _ _ => (pg_name (i := 16) nd rfl (Or.inl rfl))) (fun _ _ _ _ _ => zts_nil) (fun _ _ _ _ _ => (ze_tup (za_cons (zv 16) (za_cons (ze_call (ok__law_far T base) (hr.mono (by decide)) (by rfl) T.g__law_far T.k__law_far T.b__law_far (za_cons (zv 1) (za_cons (ze_op op_pow z_pow z_int z_int) za_nil)) (lenA1 (lenA1 lenA0))) za_nil))))) (zs_cons (zs_set (i := 18) nd rfl (.inl rfl) (ze_callB (cr_sum rfl) z_sum (by rfl) T.z_sum (by decide +kernel) (za_cons (ze_lc (own := [(("damage" : PySem.Str), 16), (("number" : PySem.Str), 19)]) (by first | exact List.mem_singleton.mpr rfl | (intro i hi; exact hi) | decide) rfl nd (zi_seq (zv 17)) (blkOk_by (N := N_law) (sc := (defScope s_law)) (by decide +kernel)) (fun _ _ _ _ _ => (pg_tup rfl (pgs_cons (pg_name (i := 16) nd rfl (Or.inl rfl)) (pgs_cons (pg_name (i := 19) nd rfl (Or.inl rfl)) pgs_nil)))) (fun _ _ _ _ _ => zts_nil) (fun _ _ _ _ _ => (ze_op op_mulZ z_mul (zv 19) (ze_callB (call_min2 rfl) z_min2 (by rfl) T.z_min (by decide +kernel) (za_cons (zv 16) (za_cons (ze_ix ix_seq z_ix (zv 3) z_int) za_nil)))))) za_nil))) (zs_one (zs_if (zt_not (zt_val (ze_call (ok__law_same T base) (hr.mono (by decide)) (by rfl) T.g__law_same T.k__law_same T.b__law_same (za_cons (ze_call (ok_far_cost T base) (hr.mono (by decide)) (by rfl) T.g_far_cost T.k_far_cost T.b_far_cost (za_cons (zv 3) (za_cons (ze_callTy call_tuple_of z_tuple (by rfl) T.z_tuple (by decide +kernel) (za_cons (zv 17) za_nil)) za_nil)) (lenA1 (lenA1 lenA0))) (za_cons (ze_op op_addZ z_add (ze_ix ix_seq z_ix (zv 3) z_int) (ze_call (ok__law_capped T base) (hr.mono (by decide)) (by rfl) T.g__law_capped T.k__law_capped T.b__law_capped (za_cons (zv 3) (za_cons (zv 18) za_nil)) (lenA1 (lenA1 lenA0)))) za_nil)) (lenA1 (lenA1 lenA0))))) (zs_one (zs_ret z_bl)) zs_nil)))))))))))))))))))))) (zs_cons (zs_if (PW.pt (zw_or (zt_cmp (op_neD hu) z_neD (ze_call (ok_own T base) (hr.mono (by decide)) (by rfl) T.g_own T.k_own T.b_own (za_cons (ze_tup (za_cons z_int (za_cons z_int (za_cons z_int za_nil)))) (za_cons (ze_tup (za_cons z_int (za_cons z_int (za_cons z_int za_nil)))) za_nil)) (lenA1 (lenA1 lenA0))) z_int) (zw_or1 (zt_cmp (op_neD hu) z_neD (ze_listG (ok_walk T base) (hr.mono (by decide)) (by rfl) T.g_walk T.k_walk T.b_walk (by rfl) T.z_list (za_cons (ze_tup (za_cons z_int (za_cons z_int (za_cons z_int za_nil)))) (za_cons (ze_op op_mulTZ z_mulT (ze_tup (za_cons z_int za_nil)) z_int) za_nil)) (lenA1 (lenA1 lenA0))) (ze_lst (za_cons z_int (za_cons z_int (za_cons z_int (za_cons z_int za_nil))))))))) (zs_one (zs_ret z_bl)) zs_nil) (zs_one (zs_ret (ze_cmp (op_eqD hu) z_eqD (ze_call (ok_far_cost T base) (hr.mono (by decide)) (by rfl) T.g_far_cost T.k_far_cost T.b_far_cost (za_cons (ze_tup (za_cons z_int (za_cons z_int (za_cons z_non za_nil)))) (za_cons (ze_tup (za_cons (ze_tup (za_cons z_int (za_cons (ze_op op_pow z_pow z_int z_int) za_nil))) (za_cons (ze_tup (za_cons z_int (za_cons z_int za_nil))) za_nil))) za_nil)) (lenA1 (lenA1 lenA0))) (ze_op op_addZ z_add (ze_op op_mulZ z_mul z_int (ze_op op_pow z_pow z_int z_int)) z_int))))))
end
set_option maxHeartbeats 0 in
theorem all_mk {l : PySem.W.OpenLaw} {w : World} {K : PySem.W.Frag} {h : Heap} {mg : Str → Option Value} {fa : Addr} (LAW : ∀ ns : List Int, ns.length ≤ 63 → ∃ M', df_law [.scr ns] [] = some (.ok (.bl true), M')) (X : K.In h) (G : h.Ns mainGlobals mg) (hfa : mg "law" = some (.ref fa))
    {f0 : Addr} {od0 an0 : Option Addr} {sl0 : Array (Option Value)} {oc0 kV0 dc0 pm0 cd0 ct0 : Value}
    {f1 : Addr} {od1 an1 : Option Addr} {sl1 : Array (Option Value)} {oc1 kV1 dc1 pm1 cd1 ct1 : Value}
    {f2 : Addr} {od2 an2 : Option Addr} {sl2 : Array (Option Value)} {oc2 kV2 dc2 pm2 cd2 ct2 : Value}
    {f3 : Addr} {od3 an3 : Option Addr} {sl3 : Array (Option Value)} {oc3 kV3 dc3 pm3 cd3 ct3 : Value}
    {f4 : Addr} {od4 an4 : Option Addr} {sl4 : Array (Option Value)} {oc4 kV4 dc4 pm4 cd4 ct4 : Value}
    {f5 : Addr} {od5 an5 : Option Addr} {sl5 : Array (Option Value)} {oc5 kV5 dc5 pm5 cd5 ct5 : Value}
    {f6 : Addr} {od6 an6 : Option Addr} {sl6 : Array (Option Value)} {oc6 kV6 dc6 pm6 cd6 ct6 : Value}
    {f7 : Addr} {od7 an7 : Option Addr} {sl7 : Array (Option Value)} {oc7 kV7 dc7 pm7 cd7 ct7 : Value}
    {f8 : Addr} {od8 an8 : Option Addr} {sl8 : Array (Option Value)} {oc8 kV8 dc8 pm8 cd8 ct8 : Value}
    {f9 : Addr} {od9 an9 : Option Addr} {sl9 : Array (Option Value)} {oc9 kV9 dc9 pm9 cd9 ct9 : Value}
    {f10 : Addr} {od10 an10 : Option Addr} {sl10 : Array (Option Value)} {oc10 kV10 dc10 pm10 cd10 ct10 : Value}
    {f11 : Addr} {od11 an11 : Option Addr} {sl11 : Array (Option Value)} {oc11 kV11 dc11 pm11 cd11 ct11 : Value}
    {f12 : Addr} {od12 an12 : Option Addr} {sl12 : Array (Option Value)} {oc12 kV12 dc12 pm12 cd12 ct12 : Value}
    {f13 : Addr} {od13 an13 : Option Addr} {sl13 : Array (Option Value)} {oc13 kV13 dc13 pm13 cd13 ct13 : Value}
    {f14 : Addr} {od14 an14 : Option Addr} {sl14 : Array (Option Value)} {oc14 kV14 dc14 pm14 cd14 ct14 : Value}
    {f15 : Addr} {od15 an15 : Option Addr} {sl15 : Array (Option Value)} {oc15 kV15 dc15 pm15 cd15 ct15 : Value}
    {f16 : Addr} {od16 an16 : Option Addr} {sl16 : Array (Option Value)} {oc16 kV16 dc16 pm16 cd16 ct16 : Value}
    {f17 : Addr} {od17 an17 : Option Addr} {sl17 : Array (Option Value)} {oc17 kV17 dc17 pm17 cd17 ct17 : Value}
    {f18 : Addr} {od18 an18 : Option Addr} {sl18 : Array (Option Value)} {oc18 kV18 dc18 pm18 cd18 ct18 : Value}
    {f19 : Addr} {od19 an19 : Option Addr} {sl19 : Array (Option Value)} {oc19 kV19 dc19 pm19 cd19 ct19 : Value}
    {f20 : Addr} {od20 an20 : Option Addr} {sl20 : Array (Option Value)} {oc20 kV20 dc20 pm20 cd20 ct20 : Value}
    {f21 : Addr} {od21 an21 : Option Addr} {sl21 : Array (Option Value)} {oc21 kV21 dc21 pm21 cd21 ct21 : Value}
    {f22 : Addr} {od22 an22 : Option Addr} {sl22 : Array (Option Value)} {oc22 kV22 dc22 pm22 cd22 ct22 : Value}
    {f23 : Addr} {od23 an23 : Option Addr} {sl23 : Array (Option Value)} {oc23 kV23 dc23 pm23 cd23 ct23 : Value}
    {f24 : Addr} {od24 an24 : Option Addr} {sl24 : Array (Option Value)} {oc24 kV24 dc24 pm24 cd24 ct24 : Value}
    {f25 : Addr} {od25 an25 : Option Addr} {sl25 : Array (Option Value)} {oc25 kV25 dc25 pm25 cd25 ct25 : Value}
    {f26 : Addr} {od26 an26 : Option Addr} {sl26 : Array (Option Value)} {oc26 kV26 dc26 pm26 cd26 ct26 : Value}
    {t0 : Tok}
    {t1 : Tok}
    {t2 : Tok}
    {t3 : Tok}
    {t4 : Tok}
    (a0 : PySem.W.nsIn K mainGlobals "_law_well" = some (some (.ref f0)))
    (l0 : K.lookup f0 = some ⟨oc0, od0, .func (PySem.W.fnOf "_law_well" "_law_well" (defArgs s__law_well) (defBody s__law_well) (defScope s__law_well) .none kV0 dc0 pm0 an0 cd0 ct0), sl0⟩) (c0 : PySem.W.codeIn K cd0 "_law_well" = true) (k0 : PySem.W.keepIn K (.ref f0) = true)
    (a1 : PySem.W.nsIn K mainGlobals "_law_bags" = some (some (.ref f1)))
    (l1 : K.lookup f1 = some ⟨oc1, od1, .func (PySem.W.fnOf "_law_bags" "_law_bags" (defArgs s__law_bags) (defBody s__law_bags) (defScope s__law_bags) .none kV1 dc1 pm1 an1 cd1 ct1), sl1⟩) (c1 : PySem.W.codeIn K cd1 "_law_bags" = true) (k1 : PySem.W.keepIn K (.ref f1) = true)
    (a2 : PySem.W.nsIn K mainGlobals "in_range" = some (some (.ref f2)))
    (l2 : K.lookup f2 = some ⟨oc2, od2, .func (PySem.W.fnOf "in_range" "in_range" (defArgs s_in_range) (defBody s_in_range) (defScope s_in_range) .none kV2 dc2 pm2 an2 cd2 ct2), sl2⟩) (c2 : PySem.W.codeIn K cd2 "in_range" = true) (k2 : PySem.W.keepIn K (.ref f2) = true)
    (a3 : PySem.W.nsIn K mainGlobals "is_policy" = some (some (.ref f3)))
    (l3 : K.lookup f3 = some ⟨oc3, od3, .func (PySem.W.fnOf "is_policy" "is_policy" (defArgs s_is_policy) (defBody s_is_policy) (defScope s_is_policy) .none kV3 dc3 pm3 an3 cd3 ct3), sl3⟩) (c3 : PySem.W.codeIn K cd3 "is_policy" = true) (k3 : PySem.W.keepIn K (.ref f3) = true)
    (a4 : PySem.W.nsIn K mainGlobals "check_policy" = some (some (.ref f4)))
    (l4 : K.lookup f4 = some ⟨oc4, od4, .func (PySem.W.fnOf "check_policy" "check_policy" (defArgs s_check_policy) (defBody s_check_policy) (defScope s_check_policy) .none kV4 dc4 pm4 an4 cd4 ct4), sl4⟩) (c4 : PySem.W.codeIn K cd4 "check_policy" = true) (k4 : PySem.W.keepIn K (.ref f4) = true)
    (a5 : PySem.W.nsIn K mainGlobals "check_damage" = some (some (.ref f5)))
    (l5 : K.lookup f5 = some ⟨oc5, od5, .func (PySem.W.fnOf "check_damage" "check_damage" (defArgs s_check_damage) (defBody s_check_damage) (defScope s_check_damage) .none kV5 dc5 pm5 an5 cd5 ct5), sl5⟩) (c5 : PySem.W.codeIn K cd5 "check_damage" = true) (k5 : PySem.W.keepIn K (.ref f5) = true)
    (a6 : PySem.W.nsIn K mainGlobals "check_number" = some (some (.ref f6)))
    (l6 : K.lookup f6 = some ⟨oc6, od6, .func (PySem.W.fnOf "check_number" "check_number" (defArgs s_check_number) (defBody s_check_number) (defScope s_check_number) .none kV6 dc6 pm6 an6 cd6 ct6), sl6⟩) (c6 : PySem.W.codeIn K cd6 "check_number" = true) (k6 : PySem.W.keepIn K (.ref f6) = true)
    (a7 : PySem.W.nsIn K mainGlobals "capped" = some (some (.ref f7)))
    (l7 : K.lookup f7 = some ⟨oc7, od7, .func (PySem.W.fnOf "capped" "capped" (defArgs s_capped) (defBody s_capped) (defScope s_capped) .none kV7 dc7 pm7 an7 cd7 ct7), sl7⟩) (c7 : PySem.W.codeIn K cd7 "capped" = true) (k7 : PySem.W.keepIn K (.ref f7) = true)
    (a8 : PySem.W.nsIn K mainGlobals "far_cost" = some (some (.ref f8)))
    (l8 : K.lookup f8 = some ⟨oc8, od8, .func (PySem.W.fnOf "far_cost" "far_cost" (defArgs s_far_cost) (defBody s_far_cost) (defScope s_far_cost) .none kV8 dc8 pm8 an8 cd8 ct8), sl8⟩) (c8 : PySem.W.codeIn K cd8 "far_cost" = true) (k8 : PySem.W.keepIn K (.ref f8) = true)
    (a9 : PySem.W.nsIn K mainGlobals "_law_take" = some (some (.ref f9)))
    (l9 : K.lookup f9 = some ⟨oc9, od9, .func (PySem.W.fnOf "_law_take" "_law_take" (defArgs s__law_take) (defBody s__law_take) (defScope s__law_take) .none kV9 dc9 pm9 an9 cd9 ct9), sl9⟩) (c9 : PySem.W.codeIn K cd9 "_law_take" = true) (k9 : PySem.W.keepIn K (.ref f9) = true)
    (a10 : PySem.W.nsIn K mainGlobals "_law_policy" = some (some (.ref f10)))
    (l10 : K.lookup f10 = some ⟨oc10, od10, .func (PySem.W.fnOf "_law_policy" "_law_policy" (defArgs s__law_policy) (defBody s__law_policy) (defScope s__law_policy) .none kV10 dc10 pm10 an10 cd10 ct10), sl10⟩) (c10 : PySem.W.codeIn K cd10 "_law_policy" = true) (k10 : PySem.W.keepIn K (.ref f10) = true)
    (a11 : PySem.W.nsIn K mainGlobals "_law_shares" = some (some (.ref f11)))
    (l11 : K.lookup f11 = some ⟨oc11, od11, .func (PySem.W.fnOf "_law_shares" "_law_shares" (defArgs s__law_shares) (defBody s__law_shares) (defScope s__law_shares) .none kV11 dc11 pm11 an11 cd11 ct11), sl11⟩) (c11 : PySem.W.codeIn K cd11 "_law_shares" = true) (k11 : PySem.W.keepIn K (.ref f11) = true)
    (a12 : PySem.W.nsIn K mainGlobals "_law_capped" = some (some (.ref f12)))
    (l12 : K.lookup f12 = some ⟨oc12, od12, .func (PySem.W.fnOf "_law_capped" "_law_capped" (defArgs s__law_capped) (defBody s__law_capped) (defScope s__law_capped) .none kV12 dc12 pm12 an12 cd12 ct12), sl12⟩) (c12 : PySem.W.codeIn K cd12 "_law_capped" = true) (k12 : PySem.W.keepIn K (.ref f12) = true)
    (a13 : PySem.W.nsIn K mainGlobals "is_year" = some (some (.ref f13)))
    (l13 : K.lookup f13 = some ⟨oc13, od13, .func (PySem.W.fnOf "is_year" "is_year" (defArgs s_is_year) (defBody s_is_year) (defScope s_is_year) .none kV13 dc13 pm13 an13 cd13 ct13), sl13⟩) (c13 : PySem.W.codeIn K cd13 "is_year" = true) (k13 : PySem.W.keepIn K (.ref f13) = true)
    (a14 : PySem.W.nsIn K mainGlobals "check_year" = some (some (.ref f14)))
    (l14 : K.lookup f14 = some ⟨oc14, od14, .func (PySem.W.fnOf "check_year" "check_year" (defArgs s_check_year) (defBody s_check_year) (defScope s_check_year) .none kV14 dc14 pm14 an14 cd14 ct14), sl14⟩) (c14 : PySem.W.codeIn K cd14 "check_year" = true) (k14 : PySem.W.keepIn K (.ref f14) = true)
    (a15 : PySem.W.nsIn K mainGlobals "shares_of" = some (some (.ref f15)))
    (l15 : K.lookup f15 = some ⟨oc15, od15, .func (PySem.W.fnOf "shares_of" "shares_of" (defArgs s_shares_of) (defBody s_shares_of) (defScope s_shares_of) .none kV15 dc15 pm15 an15 cd15 ct15), sl15⟩) (c15 : PySem.W.codeIn K cd15 "shares_of" = true) (k15 : PySem.W.keepIn K (.ref f15) = true)
    (a16 : PySem.W.nsIn K mainGlobals "own" = some (some (.ref f16)))
    (l16 : K.lookup f16 = some ⟨oc16, od16, .func (PySem.W.fnOf "own" "own" (defArgs s_own) (defBody s_own) (defScope s_own) .none kV16 dc16 pm16 an16 cd16 ct16), sl16⟩) (c16 : PySem.W.codeIn K cd16 "own" = true) (k16 : PySem.W.keepIn K (.ref f16) = true)
    (a17 : PySem.W.nsIn K mainGlobals "_law_year" = some (some (.ref f17)))
    (l17 : K.lookup f17 = some ⟨oc17, od17, .func (PySem.W.fnOf "_law_year" "_law_year" (defArgs s__law_year) (defBody s__law_year) (defScope s__law_year) .none kV17 dc17 pm17 an17 cd17 ct17), sl17⟩) (c17 : PySem.W.codeIn K cd17 "_law_year" = true) (k17 : PySem.W.keepIn K (.ref f17) = true)
    (a18 : PySem.W.nsIn K mainGlobals "_law_same" = some (some (.ref f18)))
    (l18 : K.lookup f18 = some ⟨oc18, od18, .func (PySem.W.fnOf "_law_same" "_law_same" (defArgs s__law_same) (defBody s__law_same) (defScope s__law_same) .none kV18 dc18 pm18 an18 cd18 ct18), sl18⟩) (c18 : PySem.W.codeIn K cd18 "_law_same" = true) (k18 : PySem.W.keepIn K (.ref f18) = true)
    (a19 : PySem.W.nsIn K mainGlobals "_law_cost" = some (some (.ref f19)))
    (l19 : K.lookup f19 = some ⟨oc19, od19, .func (PySem.W.fnOf "_law_cost" "_law_cost" (defArgs s__law_cost) (defBody s__law_cost) (defScope s__law_cost) .none kV19 dc19 pm19 an19 cd19 ct19), sl19⟩) (c19 : PySem.W.codeIn K cd19 "_law_cost" = true) (k19 : PySem.W.keepIn K (.ref f19) = true)
    (a20 : PySem.W.nsIn K mainGlobals "as_one" = some (some (.ref f20)))
    (l20 : K.lookup f20 = some ⟨oc20, od20, .func (PySem.W.fnOf "as_one" "as_one" (defArgs s_as_one) (defBody s_as_one) (defScope s_as_one) .none kV20 dc20 pm20 an20 cd20 ct20), sl20⟩) (c20 : PySem.W.codeIn K cd20 "as_one" = true) (k20 : PySem.W.keepIn K (.ref f20) = true)
    (a21 : PySem.W.nsIn K mainGlobals "walk" = some (some (.ref f21)))
    (l21 : K.lookup f21 = some ⟨oc21, od21, .func (PySem.W.fnOf "walk" "walk" (defArgs s_walk) (defBody s_walk) (defScope s_walk) .none kV21 dc21 pm21 an21 cd21 ct21), sl21⟩) (c21 : PySem.W.codeIn K cd21 "walk" = true) (k21 : PySem.W.keepIn K (.ref f21) = true)
    (a22 : PySem.W.nsIn K mainGlobals "cost_of" = some (some (.ref f22)))
    (l22 : K.lookup f22 = some ⟨oc22, od22, .func (PySem.W.fnOf "cost_of" "cost_of" (defArgs s_cost_of) (defBody s_cost_of) (defScope s_cost_of) .none kV22 dc22 pm22 an22 cd22 ct22), sl22⟩) (c22 : PySem.W.codeIn K cd22 "cost_of" = true) (k22 : PySem.W.keepIn K (.ref f22) = true)
    (a23 : PySem.W.nsIn K mainGlobals "total_cost" = some (some (.ref f23)))
    (l23 : K.lookup f23 = some ⟨oc23, od23, .func (PySem.W.fnOf "total_cost" "total_cost" (defArgs s_total_cost) (defBody s_total_cost) (defScope s_total_cost) .none kV23 dc23 pm23 an23 cd23 ct23), sl23⟩) (c23 : PySem.W.codeIn K cd23 "total_cost" = true) (k23 : PySem.W.keepIn K (.ref f23) = true)
    (a24 : PySem.W.nsIn K mainGlobals "cost" = some (some (.ref f24)))
    (l24 : K.lookup f24 = some ⟨oc24, od24, .func (PySem.W.fnOf "cost" "cost" (defArgs s_cost) (defBody s_cost) (defScope s_cost) .none kV24 dc24 pm24 an24 cd24 ct24), sl24⟩) (c24 : PySem.W.codeIn K cd24 "cost" = true) (k24 : PySem.W.keepIn K (.ref f24) = true)
    (a25 : PySem.W.nsIn K mainGlobals "_law_far" = some (some (.ref f25)))
    (l25 : K.lookup f25 = some ⟨oc25, od25, .func (PySem.W.fnOf "_law_far" "_law_far" (defArgs s__law_far) (defBody s__law_far) (defScope s__law_far) .none kV25 dc25 pm25 an25 cd25 ct25), sl25⟩) (c25 : PySem.W.codeIn K cd25 "_law_far" = true) (k25 : PySem.W.keepIn K (.ref f25) = true)
    (a26 : PySem.W.nsIn K mainGlobals "law" = some (some (.ref f26)))
    (l26 : K.lookup f26 = some ⟨oc26, od26, .func (PySem.W.fnOf "law" "law" (defArgs s_law) (defBody s_law) (defScope s_law) .none kV26 dc26 pm26 an26 cd26 ct26), sl26⟩) (c26 : PySem.W.codeIn K cd26 "law" = true) (k26 : PySem.W.keepIn K (.ref f26) = true)
    (v0 : PySem.W.nsIn K mainGlobals "MOST_CAP" = some (some (.int 10000 t0)))
    (v1 : PySem.W.nsIn K mainGlobals "MOST_CLAIMS" = some (some (.int 40 t1)))
    (v2 : PySem.W.nsIn K mainGlobals "MOST_DAMAGE" = some (some (.int 1000000 t2)))
    (v3 : PySem.W.nsIn K mainGlobals "MOST_EXCESS" = some (some (.int 1000 t3)))
    (v4 : PySem.W.nsIn K mainGlobals "MOST_PREMIUM" = some (some (.int 10000 t4)))
    (z0 : PySem.W.nsIn K mainGlobals "all" = some none)
    (z1 : PySem.W.nsIn K mainGlobals "bool" = some none)
    (z2 : PySem.W.nsIn K mainGlobals "enumerate" = some none)
    (z3 : PySem.W.nsIn K mainGlobals "int" = some none)
    (z4 : PySem.W.nsIn K mainGlobals "isinstance" = some none)
    (z5 : PySem.W.nsIn K mainGlobals "len" = some none)
    (z6 : PySem.W.nsIn K mainGlobals "list" = some none)
    (z7 : PySem.W.nsIn K mainGlobals "max" = some none)
    (z8 : PySem.W.nsIn K mainGlobals "min" = some none)
    (z9 : PySem.W.nsIn K mainGlobals "range" = some none)
    (z10 : PySem.W.nsIn K mainGlobals "str" = some none)
    (z11 : PySem.W.nsIn K mainGlobals "sum" = some none)
    (z12 : PySem.W.nsIn K mainGlobals "tuple" = some none)
    (z13 : PySem.W.nsIn K mainGlobals "zip" = some none) :
    ∃ fd : FuncData, (∀ (s : Shared) (v : Value), BindsTo s fd ⟨[v], []⟩ [("script", v)]) ∧ ∀ base : Heap, K.In base → base.Ns mainGlobals mg → FnOk l.prog w K mg base CX0 10 fa fd ["script"] (spLaw K) := by
  have e := hfa.symm.trans (PySem.W.mg_of X G a26)
  cases e
  let T : Txt K mg := { a__law_well := f0, f__law_well := _, F__law_well := fun_mk (st := s__law_well) l0 c0 k0, g__law_well := PySem.W.mg_of X G a0, b__law_well := (fun_mk (st := s__law_well) l0 c0 k0).binds (ps := ["cell", "turn"]) (fun _ _ _ _ _ _ us hl => match us, hl with | [_, _], _ => rfl), a__law_bags := f1, f__law_bags := _, F__law_bags := fun_mk (st := s__law_bags) l1 c1 k1, g__law_bags := PySem.W.mg_of X G a1, b__law_bags := (fun_mk (st := s__law_bags) l1 c1 k1).binds (ps := ["script", "most"]) (fun _ _ _ _ _ _ us hl => match us, hl with | [_, _], _ => rfl), a_in_range := f2, f_in_range := _, F_in_range := fun_mk (st := s_in_range) l2 c2 k2, g_in_range := PySem.W.mg_of X G a2, b_in_range := (fun_mk (st := s_in_range) l2 c2 k2).binds (ps := ["value", "low", "high"]) (fun _ _ _ _ _ _ us hl => match us, hl with | [_, _, _], _ => rfl), a_is_policy := f3, f_is_policy := _, F_is_policy := fun_mk (st := s_is_policy) l3 c3 k3, g_is_policy := PySem.W.mg_of X G a3, b_is_policy := (fun_mk (st := s_is_policy) l3 c3 k3).binds (ps := ["value"]) (fun _ _ _ _ _ _ us hl => match us, hl with | [_], _ => rfl), a_check_policy := f4, f_check_policy := _, F_check_policy := fun_mk (st := s_check_policy) l4 c4 k4, g_check_policy := PySem.W.mg_of X G a4, b_check_policy := (fun_mk (st := s_check_policy) l4 c4 k4).binds (ps := ["value"]) (fun _ _ _ _ _ _ us hl => match us, hl with | [_], _ => rfl), a_check_damage := f5, f_check_damage := _, F_check_damage := fun_mk (st := s_check_damage) l5 c5 k5, g_check_damage := PySem.W.mg_of X G a5, b_check_damage := (fun_mk (st := s_check_damage) l5 c5 k5).binds (ps := ["value"]) (fun _ _ _ _ _ _ us hl => match us, hl with | [_], _ => rfl), a_check_number := f6, f_check_number := _, F_check_number := fun_mk (st := s_check_number) l6 c6 k6, g_check_number := PySem.W.mg_of X G a6, b_check_number := (fun_mk (st := s_check_number) l6 c6 k6).binds (ps := ["value", "low", "high"]) (fun _ _ _ _ _ _ us hl => match us, hl with | [_, _, _], _ => rfl), a_capped := f7, f_capped := _, F_capped := fun_mk (st := s_capped) l7 c7 k7, g_capped := PySem.W.mg_of X G a7, b_capped := (fun_mk (st := s_capped) l7 c7 k7).binds (ps := ["policy", "shares"]) (fun _ _ _ _ _ _ us hl => match us, hl with | [_, _], _ => rfl), a_far_cost := f8, f_far_cost := _, F_far_cost := fun_mk (st := s_far_cost) l8 c8 k8, g_far_cost := PySem.W.mg_of X G a8, b_far_cost := (fun_mk (st := s_far_cost) l8 c8 k8).binds (ps := ["policy", "rows"]) (fun _ _ _ _ _ _ us hl => match us, hl with | [_, _], _ => rfl), a__law_take := f9, f__law_take := _, F__law_take := fun_mk (st := s__law_take) l9 c9 k9, g__law_take := PySem.W.mg_of X G a9, b__law_take := (fun_mk (st := s__law_take) l9 c9 k9).binds (ps := ["bag", "many"]) (fun _ _ _ _ _ _ us hl => match us, hl with | [_, _], _ => rfl), a__law_policy := f10, f__law_policy := _, F__law_policy := fun_mk (st := s__law_policy) l10 c10 k10, g__law_policy := PySem.W.mg_of X G a10, b__law_policy := (fun_mk (st := s__law_policy) l10 c10 k10).binds (ps := ["bag"]) (fun _ _ _ _ _ _ us hl => match us, hl with | [_], _ => rfl), a__law_shares := f11, f__law_shares := _, F__law_shares := fun_mk (st := s__law_shares) l11 c11 k11, g__law_shares := PySem.W.mg_of X G a11, b__law_shares := (fun_mk (st := s__law_shares) l11 c11 k11).binds (ps := ["excess", "damages"]) (fun _ _ _ _ _ _ us hl => match us, hl with | [_, _], _ => rfl), a__law_capped := f12, f__law_capped := _, F__law_capped := fun_mk (st := s__law_capped) l12 c12 k12, g__law_capped := PySem.W.mg_of X G a12, b__law_capped := (fun_mk (st := s__law_capped) l12 c12 k12).binds (ps := ["policy", "shares"]) (fun _ _ _ _ _ _ us hl => match us, hl with | [_, _], _ => rfl), a_is_year := f13, f_is_year := _, F_is_year := fun_mk (st := s_is_year) l13 c13 k13, g_is_year := PySem.W.mg_of X G a13, b_is_year := (fun_mk (st := s_is_year) l13 c13 k13).binds (ps := ["value"]) (fun _ _ _ _ _ _ us hl => match us, hl with | [_], _ => rfl), a_check_year := f14, f_check_year := _, F_check_year := fun_mk (st := s_check_year) l14 c14 k14, g_check_year := PySem.W.mg_of X G a14, b_check_year := (fun_mk (st := s_check_year) l14 c14 k14).binds (ps := ["value"]) (fun _ _ _ _ _ _ us hl => match us, hl with | [_], _ => rfl), a_shares_of := f15, f_shares_of := _, F_shares_of := fun_mk (st := s_shares_of) l15 c15 k15, g_shares_of := PySem.W.mg_of X G a15, b_shares_of := (fun_mk (st := s_shares_of) l15 c15 k15).binds (ps := ["excess", "year"]) (fun _ _ _ _ _ _ us hl => match us, hl with | [_, _], _ => rfl), a_own := f16, f_own := _, F_own := fun_mk (st := s_own) l16 c16 k16, g_own := PySem.W.mg_of X G a16, b_own := (fun_mk (st := s_own) l16 c16 k16).binds (ps := ["policy", "year"]) (fun _ _ _ _ _ _ us hl => match us, hl with | [_, _], _ => rfl), a__law_year := f17, f__law_year := _, F__law_year := fun_mk (st := s__law_year) l17 c17 k17, g__law_year := PySem.W.mg_of X G a17, b__law_year := (fun_mk (st := s__law_year) l17 c17 k17).binds (ps := ["bag", "most", "policy"]) (fun _ _ _ _ _ _ us hl => match us, hl with | [_, _, _], _ => rfl), a__law_same := f18, f__law_same := _, F__law_same := fun_mk (st := s__law_same) l18 c18 k18, g__law_same := PySem.W.mg_of X G a18, b__law_same := (fun_mk (st := s__law_same) l18 c18 k18).binds (ps := ["a", "b"]) (fun _ _ _ _ _ _ us hl => match us, hl with | [_, _], _ => rfl), a__law_cost := f19, f__law_cost := _, F__law_cost := fun_mk (st := s__law_cost) l19 c19 k19, g__law_cost := PySem.W.mg_of X G a19, b__law_cost := (fun_mk (st := s__law_cost) l19 c19 k19).binds (ps := ["policy", "damages"]) (fun _ _ _ _ _ _ us hl => match us, hl with | [_, _], _ => rfl), a_as_one := f20, f_as_one := _, F_as_one := fun_mk (st := s_as_one) l20 c20 k20, g_as_one := PySem.W.mg_of X G a20, b_as_one := (fun_mk (st := s_as_one) l20 c20 k20).binds (ps := ["policy", "year"]) (fun _ _ _ _ _ _ us hl => match us, hl with | [_, _], _ => rfl), a_walk := f21, f_walk := _, F_walk := fun_mk (st := s_walk) l21 c21 k21, g_walk := PySem.W.mg_of X G a21, b_walk := (fun_mk (st := s_walk) l21 c21 k21).binds (ps := ["policy", "year"]) (fun _ _ _ _ _ _ us hl => match us, hl with | [_, _], _ => rfl), a_cost_of := f22, f_cost_of := _, F_cost_of := fun_mk (st := s_cost_of) l22 c22 k22, g_cost_of := PySem.W.mg_of X G a22, b_cost_of := (fun_mk (st := s_cost_of) l22 c22 k22).binds (ps := ["policy", "year"]) (fun _ _ _ _ _ _ us hl => match us, hl with | [_, _], _ => rfl), a_total_cost := f23, f_total_cost := _, F_total_cost := fun_mk (st := s_total_cost) l23 c23 k23, g_total_cost := PySem.W.mg_of X G a23, a_cost := f24, f_cost := _, F_cost := fun_mk (st := s_cost) l24 c24 k24, g_cost := PySem.W.mg_of X G a24, b_cost := (fun_mk (st := s_cost) l24 c24 k24).binds (ps := ["policy", "year"]) (fun _ _ _ _ _ _ us hl => match us, hl with | [_, _], _ => rfl), a__law_far := f25, f__law_far := _, F__law_far := fun_mk (st := s__law_far) l25 c25 k25, g__law_far := PySem.W.mg_of X G a25, b__law_far := (fun_mk (st := s__law_far) l25 c25 k25).binds (ps := ["bag", "many"]) (fun _ _ _ _ _ _ us hl => match us, hl with | [_, _], _ => rfl), a_law := fa, f_law := _, F_law := fun_mk (st := s_law) l26 c26 k26, g_law := PySem.W.mg_of X G a26, b_law := (fun_mk (st := s_law) l26 c26 k26).binds (ps := ["script"]) (fun _ _ _ _ _ _ us hl => match us, hl with | [_], _ => rfl), t_MOST_CAP := t0, c_MOST_CAP := PySem.W.mg_of X G v0, t_MOST_CLAIMS := t1, c_MOST_CLAIMS := PySem.W.mg_of X G v1, t_MOST_DAMAGE := t2, c_MOST_DAMAGE := PySem.W.mg_of X G v2, t_MOST_EXCESS := t3, c_MOST_EXCESS := PySem.W.mg_of X G v3, t_MOST_PREMIUM := t4, c_MOST_PREMIUM := PySem.W.mg_of X G v4, z_all := PySem.W.mg_none_of X G z0, z_bool := PySem.W.mg_none_of X G z1, z_enumerate := PySem.W.mg_none_of X G z2, z_int := PySem.W.mg_none_of X G z3, z_isinstance := PySem.W.mg_none_of X G z4, z_len := PySem.W.mg_none_of X G z5, z_list := PySem.W.mg_none_of X G z6, z_max := PySem.W.mg_none_of X G z7, z_min := PySem.W.mg_none_of X G z8, z_range := PySem.W.mg_none_of X G z9, z_str := PySem.W.mg_none_of X G z10, z_sum := PySem.W.mg_none_of X G z11, z_tuple := PySem.W.mg_none_of X G z12, z_zip := PySem.W.mg_none_of X G z13 }
  exact ⟨PySem.W.fnOf "law" "law" (defArgs s_law) (defBody s_law) (defScope s_law) .none kV26 dc26 pm26 an26 cd26 ct26, fun s v => .of_eq rfl, fun base _ _ => lawZ (ok_law T base) LAW⟩
end W
open PySem PySem.W PyProof.Rows
set_option maxHeartbeats 0 in
theorem PySem.Challenge.cw_claimshares_k03_years_and_costs_holds : PySem.Challenge.rw_claimshares_k03_years_and_costs.Holds := by
  w_on; o_law; k_head; (case hw => w_witness2)
  k_fill
  refine L2.walk_ofK (l := PySem.Challenge.rw_claimshares_k03_years_and_costs) (n := 63) (k := 10) (x := "script") (CX := L2.CX0) (sp := Z.spLaw) rfl (by decide) rfl ⟨rfl, by decide, by decide⟩ (fun w h Y => PySem.W.kIn_of Y) ?F (fun _ _ a ns hl _ hS => ⟨a, ns, rfl, hS, hl, (fun p hp => by cases hp), fun _ => rfl⟩) (fun _ _ _ _ h => h)
  case F =>
    intro w mg fa h KX G hmg
    refine' W.all_mk W.law_true KX G hmg ?a0 ?l0 ?c0 ?k0 ?a1 ?l1 ?c1 ?k1 ?a2 ?l2 ?c2 ?k2 ?a3 ?l3 ?c3 ?k3 ?a4 ?l4 ?c4 ?k4 ?a5 ?l5 ?c5 ?k5 ?a6 ?l6 ?c6 ?k6 ?a7 ?l7 ?c7 ?k7 ?a8 ?l8 ?c8 ?k8 ?a9 ?l9 ?c9 ?k9 ?a10 ?l10 ?c10 ?k10 ?a11 ?l11 ?c11 ?k11 ?a12 ?l12 ?c12 ?k12 ?a13 ?l13 ?c13 ?k13 ?a14 ?l14 ?c14 ?k14 ?a15 ?l15 ?c15 ?k15 ?a16 ?l16 ?c16 ?k16 ?a17 ?l17 ?c17 ?k17 ?a18 ?l18 ?c18 ?k18 ?a19 ?l19 ?c19 ?k19 ?a20 ?l20 ?c20 ?k20 ?a21 ?l21 ?c21 ?k21 ?a22 ?l22 ?c22 ?k22 ?a23 ?l23 ?c23 ?k23 ?a24 ?l24 ?c24 ?k24 ?a25 ?l25 ?c25 ?k25 ?a26 ?l26 ?c26 ?k26 ?v0 ?v1 ?v2 ?v3 ?v4 ?z0 ?z1 ?z2 ?z3 ?z4 ?z5 ?z6 ?z7 ?z8 ?z9 ?z10 ?z11 ?z12 ?z13
    (case a0 => k_is); (case l0 => k_is); (case c0 => k_is); (case k0 => k_is); (case a1 => k_is); (case l1 => k_is); (case c1 => k_is); (case k1 => k_is)
    (case a2 => k_is); (case l2 => k_is); (case c2 => k_is); (case k2 => k_is); (case a3 => k_is); (case l3 => k_is); (case c3 => k_is); (case k3 => k_is)
    (case a4 => k_is); (case l4 => k_is); (case c4 => k_is); (case k4 => k_is); (case a5 => k_is); (case l5 => k_is); (case c5 => k_is); (case k5 => k_is)
    (case a6 => k_is); (case l6 => k_is); (case c6 => k_is); (case k6 => k_is); (case a7 => k_is); (case l7 => k_is); (case c7 => k_is); (case k7 => k_is)
    (case a8 => k_is); (case l8 => k_is); (case c8 => k_is); (case k8 => k_is); (case a9 => k_is); (case l9 => k_is); (case c9 => k_is); (case k9 => k_is)
    (case a10 => k_is); (case l10 => k_is); (case c10 => k_is); (case k10 => k_is); (case a11 => k_is); (case l11 => k_is); (case c11 => k_is); (case k11 => k_is)
    (case a12 => k_is); (case l12 => k_is); (case c12 => k_is); (case k12 => k_is); (case a13 => k_is); (case l13 => k_is); (case c13 => k_is); (case k13 => k_is)
    (case a14 => k_is); (case l14 => k_is); (case c14 => k_is); (case k14 => k_is); (case a15 => k_is); (case l15 => k_is); (case c15 => k_is); (case k15 => k_is)
    (case a16 => k_is); (case l16 => k_is); (case c16 => k_is); (case k16 => k_is); (case a17 => k_is); (case l17 => k_is); (case c17 => k_is); (case k17 => k_is)
    (case a18 => k_is); (case l18 => k_is); (case c18 => k_is); (case k18 => k_is); (case a19 => k_is); (case l19 => k_is); (case c19 => k_is); (case k19 => k_is)
    (case a20 => k_is); (case l20 => k_is); (case c20 => k_is); (case k20 => k_is); (case a21 => k_is); (case l21 => k_is); (case c21 => k_is); (case k21 => k_is)
    (case a22 => k_is); (case l22 => k_is); (case c22 => k_is); (case k22 => k_is); (case a23 => k_is); (case l23 => k_is); (case c23 => k_is); (case k23 => k_is)
    (case a24 => k_is); (case l24 => k_is); (case c24 => k_is); (case k24 => k_is); (case a25 => k_is); (case l25 => k_is); (case c25 => k_is); (case k25 => k_is)
    (case a26 => k_is); (case l26 => k_is); (case c26 => k_is); (case k26 => k_is); (case v0 => k_is); (case v1 => k_is); (case v2 => k_is); (case v3 => k_is)
    (case v4 => k_is); (case z0 => k_is); (case z1 => k_is); (case z2 => k_is); (case z3 => k_is); (case z4 => k_is); (case z5 => k_is); (case z6 => k_is)
    (case z7 => k_is); (case z8 => k_is); (case z9 => k_is); (case z10 => k_is); (case z11 => k_is); (case z12 => k_is); (case z13 => k_is)
