import PyProof.Rows.All
import Wide.All
import OpenK.AllK
import Wide.FinOn
import HandS.ForMost
import HandS.Flow
import HandS.Style
import HandS.IsInst
import HandS.SortInts
import HandS.TupAny
import HandS.TupMul
import HandS.Zip
import HandS.Walk
import HandS.EndTab
import HandS.Ends
import HandS.Star
import HandS.DictComp
import HandS.Strs
import KE.DataMinMax
import PyProof.Rows.SumGenD
import PyProof.TupleOfSeq
import PyProof.ListMulRoad
import PyProof.FactsAll.tuple_2
import HandS.RevTup
import KE.GoesMore
import HandS.Deep
import HandS.SetFor
import KE.SortData
import HandS.Conv
import KE.KRevSl
import HandS.HotCalls
import HandS.Comp
import HandS.Iter
import HandS.ExcIs
import HandS.Lambda
import HandS.ExcCtx
import HandS.ForExc
import HandS.Defaults
import KE.KNest
import HandS.GenList
import HandS.GenYield
import OpenK.KOps
import HandS.Property
import HandS.More
import PyProof.Conv_bool
import HandS.ClsMeth
import HandS.CallLocal
import PySem.Challenge.RW_claimshares_k02_other_arguments
set_option Elab.async false
set_option linter.all false
set_option maxRecDepth 100000
/-! Z1: data, what stands for data in a heap, worlds, steps between worlds, slots -/
namespace Z
open PySem PySem.Spec PyProof.Rows L2

inductive D where
  | non | bl (b : Bool) | int (i : Int) | str (x : Str)
  | tup (xs : List D) | lst (xs : List D)
  | dct (ks : List Int) (ds : List D)
  | scr (ns : List Int) | obj (i : Nat) | con (i : Nat)

abbrev MS := List (List D)

mutual
inductive Rep (K : PySem.W.Frag) (bs : List Addr) (F : Hp) : V → D → Prop
  | non : Rep K bs F .non .non
  | bl (b : Bool) : Rep K bs F (.bl b) (.bl b)
  | int (i : Int) : Rep K bs F (.int i) (.int i)
  | str (x : Str) : Rep K bs F (.str x) (.str x)
  | tup {a : Addr} {vs : List V} {ds : List D} (h : F a = some (.tup vs)) (r : Reps K bs F vs ds) : Rep K bs F (.ref a) (.tup ds)
  | lst {a : Addr} {vs : List V} {ds : List D} (h : F a = some (.lst vs)) (r : Reps K bs F vs ds) : Rep K bs F (.ref a) (.lst ds)
  | dct {a : Addr} {kvs : List (Key × V)} {ks : List Int} {ds : List D} (h : F a = some (.dK kvs)) (hk : kvs.map (·.1) = ks.map Sum.inl) (r : Reps K bs F (kvs.map (·.2)) ds) : Rep K bs F (.ref a) (.dct ks ds)
  | scr {a : Addr} {ns : List Int} (h : SqL K F a (ns.map V.int)) : Rep K bs F (.ref a) (.scr ns)
  | obj {i : Nat} {b : Addr} (h : bs[i]? = some b) : Rep K bs F (.ref b) (.obj i)
  | con {a C dx b : Addr} {i : Nat} (hC : PySem.W.nsIn K mainGlobals "Contract" = some (some (.ref C))) (h : F a = some (.ins C dx [(("states" : Str), .ref b)])) (hb : bs[i]? = some b) : Rep K bs F (.ref a) (.con i)
inductive Reps (K : PySem.W.Frag) (bs : List Addr) (F : Hp) : List V → List D → Prop
  | nil : Reps K bs F [] []
  | cons {v : V} {d : D} {vs : List V} {ds : List D} (r : Rep K bs F v d) (t : Reps K bs F vs ds) : Reps K bs F (v :: vs) (d :: ds)
end

section
variable {K : PySem.W.Frag} {bs bs' : List Addr} {F F' H H' : Hp}
theorem getElem?_pre {α : Type} {l more : List α} {i : Nat} {a : α} (h : l[i]? = some a) : (l ++ more)[i]? = some a := by
  obtain ⟨hl, e⟩ := List.getElem?_eq_some_iff.mp h
  rw [List.getElem?_append_left hl]
  exact h
mutual
theorem Rep.mono {more : List Addr} (s : Same F F') : ∀ {v : V} {d : D}, Rep K bs F v d → Rep K (bs ++ more) F' v d
  | _, _, .non => .non
  | _, _, .bl b => .bl b
  | _, _, .int i => .int i
  | _, _, .str x => .str x
  | _, _, .tup h r => .tup (s _ _ h) (Reps.mono s r)
  | _, _, .lst h r => .lst (s _ _ h) (Reps.mono s r)
  | _, _, .dct h hk r => .dct (s _ _ h) hk (Reps.mono s r)
  | _, _, .scr h => .scr (s.seq h)
  | _, _, .obj h => .obj (getElem?_pre h)
  | _, _, .con hC h hb => .con hC (s _ _ h) (getElem?_pre hb)
theorem Reps.mono {more : List Addr} (s : Same F F') : ∀ {vs : List V} {ds : List D}, Reps K bs F vs ds → Reps K (bs ++ more) F' vs ds
  | _, _, .nil => .nil
  | _, _, .cons r t => .cons (Rep.mono s r) (Reps.mono s t)
end
theorem Reps.length : ∀ {vs : List V} {ds : List D}, Reps K bs F vs ds → vs.length = ds.length
  | _, _, .nil => rfl
  | _, _, .cons _ t => congrArg (· + 1) (Reps.length t)
theorem Reps.get : ∀ {vs : List V} {ds : List D} {i : Nat} {d : D}, Reps K bs F vs ds → ds[i]? = some d → ∃ v, vs[i]? = some v ∧ Rep K bs F v d
  | _, _, _, _, .nil, e => by simp at e
  | _, _, 0, _, .cons r _, e => by
    simp at e
    subst e
    exact ⟨_, rfl, r⟩
  | _, _, i + 1, d, .cons _ t, e => by
    obtain ⟨u, h1, h2⟩ := Reps.get (i := i) (d := d) t (by simpa using e)
    exact ⟨u, by simpa using h1, h2⟩
theorem Reps.append : ∀ {vs ws : List V} {ds es : List D}, Reps K bs F vs ds → Reps K bs F ws es → Reps K bs F (vs ++ ws) (ds ++ es)
  | _, _, _, _, .nil, s => s
  | _, _, _, _, .cons r t, s => .cons r (Reps.append t s)
theorem Reps.take : ∀ {vs : List V} {ds : List D} (n : Nat), Reps K bs F vs ds → Reps K bs F (vs.take n) (ds.take n)
  | _, _, 0, _ => .nil
  | _, _, _ + 1, .nil => .nil
  | _, _, n + 1, .cons r t => .cons r (Reps.take n t)
theorem Reps.drop : ∀ {vs : List V} {ds : List D} (n : Nat), Reps K bs F vs ds → Reps K bs F (vs.drop n) (ds.drop n)
  | _, _, 0, r => r
  | _, _, _ + 1, .nil => .nil
  | _, _, n + 1, .cons _ t => Reps.drop n t
theorem Reps.reverse : ∀ {vs : List V} {ds : List D}, Reps K bs F vs ds → Reps K bs F vs.reverse ds.reverse
  | _, _, .nil => .nil
  | _, _, .cons r t => by
    rw [List.reverse_cons, List.reverse_cons]
    exact Reps.append (Reps.reverse t) (.cons r .nil)
theorem Reps.set {v : V} {d : D} (r : Rep K bs F v d) : ∀ {vs : List V} {ds : List D} (n : Nat), Reps K bs F vs ds → Reps K bs F (vs.set n v) (ds.set n d)
  | _, _, _, .nil => .nil
  | _, _, 0, .cons _ t => .cons r t
  | _, _, n + 1, .cons q t => .cons q (Reps.set r n t)
theorem Reps.ints : ∀ {vs : List V} {ns : List Int}, Reps K bs F vs (ns.map D.int) → vs = ns.map V.int
  | vs, [], h => by
    cases h
    rfl
  | vs, n :: ns, h => by
    cases h with
    | cons r t =>
      cases r
      rw [Reps.ints t]
      rfl
theorem Reps.of_ints : ∀ (ns : List Int), Reps K bs F (ns.map V.int) (ns.map D.int)
  | [] => .nil
  | n :: ns => .cons (.int n) (Reps.of_ints ns)
theorem Reps.nil_inv {vs : List V} (h : Reps K bs F vs []) : vs = [] := by
  cases h
  rfl
theorem Reps.one {vs : List V} {d : D} (h : Reps K bs F vs [d]) : ∃ v, vs = [v] ∧ Rep K bs F v d := by
  cases h with
  | cons r t =>
    cases t
    exact ⟨_, rfl, r⟩
theorem Reps.two {vs : List V} {d e : D} (h : Reps K bs F vs [d, e]) : ∃ v w, vs = [v, w] ∧ Rep K bs F v d ∧ Rep K bs F w e := by
  cases h with
  | cons r t =>
    cases t with
    | cons r' t' =>
      cases t'
      exact ⟨_, _, rfl, r, r'⟩

/-- the tables of code objects that lambdas are made with -/
class Tbs where
  tb : List (Addr × Str)
instance (priority := 10) noTbs : Tbs := ⟨[]⟩
variable [Tbs]
/-- worlds: the mutable lists at bs hold M; F, a part of H, is never changed -/
structure Wd (K : PySem.W.Frag) (bs : List Addr) (M : MS) (F H : Hp) : Prop where
  sub : Same F H
  nd : bs.Nodup
  len : bs.length = M.length
  objs : ∀ (i : Nat) (b : Addr) (ds : List D), bs[i]? = some b → M[i]? = some ds → F b = none ∧ ∃ vs, H b = some (.lst vs) ∧ Reps K bs F vs ds
  tab : LamX.Tabs Tbs.tb H
  tabF : ∀ p ∈ Tbs.tb, F p.1 = none
theorem tabF_upd {p : Addr} {o : HO} (h : ∀ x ∈ (Tbs.tb : List (Addr × Str)), F x.1 = none) (t : LamX.Tabs Tbs.tb H) (n : ∀ ps, H p ≠ some (.tbl ps)) : ∀ x ∈ (Tbs.tb : List (Addr × Str)), upd F p o x.1 = none := fun x hx => by
  obtain ⟨ps, e1, _⟩ := t x hx
  rw [upd_ne (fun z => n ps (by rw [← z]; exact e1))]
  exact h x hx
/-- tables stand where what is written is none of theirs -/
theorem tabs_upd {T : List (Addr × Str)} {p : Addr} {o : HO} (h : LamX.Tabs T H) (n1 : ∀ ps, H p ≠ some (.tbl ps)) (n2 : ∀ q, H p ≠ some (LamX.CodeO p q)) : LamX.Tabs T (upd H p o) := fun x hx => by
  obtain ⟨ps, e1, e2, e3⟩ := h x hx
  refine ⟨ps, by rw [upd_ne (fun z => n1 ps (by rw [← z]; exact e1))]; exact e1, e2, fun pos cv hc => ?_⟩
  obtain ⟨c, f1, f2⟩ := e3 pos cv hc
  exact ⟨c, f1, by rw [upd_ne (fun z => n2 x.2 (by rw [← z]; exact f2))]; exact f2⟩
theorem tabs_new {T : List (Addr × Str)} {p : Addr} {o : HO} (h : LamX.Tabs T H) (hp : H p = none) : LamX.Tabs T (upd H p o) := tabs_upd h (fun _ e => by rw [hp] at e; cases e) fun _ e => by rw [hp] at e; cases e
theorem tabs_lst {T : List (Addr × Str)} {p : Addr} {o : HO} {vs : List V} (h : LamX.Tabs T H) (hp : H p = some (.lst vs)) : LamX.Tabs T (upd H p o) := tabs_upd h (fun _ e => by rw [hp] at e; cases e) fun _ e => by rw [hp] at e; cases e
theorem tabs_dK {T : List (Addr × Str)} {p : Addr} {o : HO} {kvs : List (Key × V)} (h : LamX.Tabs T H) (hp : H p = some (.dK kvs)) : LamX.Tabs T (upd H p o) := tabs_upd h (fun _ e => by rw [hp] at e; cases e) fun _ e => by rw [hp] at e; cases e

structure Tr (bs : List Addr) (F H : Hp) (bs' : List Addr) (F' H' : Hp) : Prop where
  pre : ∃ more, bs' = bs ++ more ∧ ∀ b ∈ more, H b = none
  fm : Same F F'
  new : ∀ a o, F' a = some o → F a = some o ∨ H a = none
  keep0 : ∀ a o, H a = some o → a ∉ bs → (∀ ps, o ≠ .tbl ps) → H' a = some o
  dom : ∀ a, H a ≠ none → H' a ≠ none

theorem Tr.keep (t : Tr bs F H bs' F' H') (a : Addr) (o : HO) (h : H a = some o) (n : a ∉ bs) (nt : ∀ ps, o ≠ .tbl ps := by intro _ q; cases q) : H' a = some o := t.keep0 a o h n nt
theorem Tr.refl (bs : List Addr) (F H : Hp) : Tr bs F H bs F H := ⟨⟨[], by simp, by simp⟩, Same.refl _, fun _ _ h => .inl h, fun _ _ h _ _ => h, fun _ h => h⟩
theorem Tr.trans {bs'' : List Addr} {F'' H'' : Hp} (a : Tr bs F H bs' F' H') (b : Tr bs' F' H' bs'' F'' H'') : Tr bs F H bs'' F'' H'' := by
  obtain ⟨m1, e1, n1⟩ := a.pre
  obtain ⟨m2, e2, n2⟩ := b.pre
  have back : ∀ x, H' x = none → H x = none := fun x h => by
    cases q : H x with
    | none => rfl
    | some o => exact absurd h (a.dom x (by rw [q]; simp))
  refine ⟨⟨m1 ++ m2, by rw [e2, e1, List.append_assoc], fun x hx => ?_⟩, a.fm.trans b.fm, fun x o h => ?_, fun x o h hx nt => ?_, fun x h => b.dom x (a.dom x h)⟩
  · rcases List.mem_append.mp hx with z | z
    · exact n1 x z
    · exact back x (n2 x z)
  · rcases b.new x o h with z | z
    · exact a.new x o z
    · exact .inr (back x z)
  · refine b.keep0 x o (a.keep0 x o h hx nt) (fun z => ?_) nt
    rw [e1] at z
    rcases List.mem_append.mp z with z | z
    · exact hx z
    · rw [n1 x z] at h
      cases h
theorem Rep.tr {v : V} {d : D} (r : Rep K bs F v d) (t : Tr bs F H bs' F' H') : Rep K bs' F' v d := by
  obtain ⟨m, rfl, _⟩ := t.pre
  exact r.mono t.fm
theorem Reps.tr {v : List V} {d : List D} (r : Reps K bs F v d) (t : Tr bs F H bs' F' H') : Reps K bs' F' v d := by
  obtain ⟨m, rfl, _⟩ := t.pre
  exact r.mono t.fm
theorem Wd.fnone {M : MS} (w : Wd K bs M F H) {p : Addr} (h : H p = none) : F p = none := w.sub.free h
theorem Wd.notin {M : MS} (w : Wd K bs M F H) {p : Addr} (h : H p = none) : p ∉ bs := fun z => by
  obtain ⟨i, hi, e⟩ := List.mem_iff_getElem.mp z
  have e1 : bs[i]? = some p := List.getElem?_eq_some_iff.mpr ⟨hi, e⟩
  have h2 : i < M.length := by rw [← w.len]; exact hi
  obtain ⟨_, vs, e3, _⟩ := w.objs i p _ e1 (List.getElem?_eq_getElem h2)
  rw [h] at e3
  cases e3
/-- a new object that is never changed -/
theorem Wd.laid {M : MS} (w : Wd K bs M F H) {p : Addr} (o : HO) (h : H p = none) : Wd K bs M (upd F p o) (upd H p o) ∧ Tr bs F H bs (upd F p o) (upd H p o) := by
  have fp := w.fnone h
  have sF : Same F (upd F p o) := fun b u e => by rw [upd_ne (ne_of_none e fp)]; exact e
  refine ⟨⟨fun b u e => ?_, w.nd, w.len, fun i b ds e1 e2 => ?_, tabs_new w.tab h, tabF_upd w.tabF w.tab fun _ e => by rw [h] at e; cases e⟩, ⟨[], by simp, by simp⟩, sF, fun a u e => ?_, fun a u e _ _ => ?_, fun a e => ?_⟩
  · by_cases q : b = p
    · subst q
      rw [upd_same] at e ⊢
      exact e
    · rw [upd_ne q] at e ⊢
      exact w.sub b u e
  · obtain ⟨n1, vs, e3, r⟩ := w.objs i b ds e1 e2
    have q : b ≠ p := ne_of_none e3 h
    refine ⟨by rw [upd_ne q]; exact n1, vs, by rw [upd_ne q]; exact e3, ?_⟩
    have := r.mono (more := []) sF
    rwa [List.append_nil] at this
  · by_cases q : a = p
    · subst q
      exact .inr h
    · rw [upd_ne q] at e
      exact .inl e
  · rw [upd_ne (ne_of_none e h)]
    exact e
  · by_cases q : a = p
    · subst q
      exact absurd h e
    · rw [upd_ne q]
      exact e
/-- a new object that is dropped at once, or not handed on -/
theorem Wd.lost {M : MS} (w : Wd K bs M F H) {p : Addr} (o : HO) (h : H p = none) : Wd K bs M F (upd H p o) ∧ Tr bs F H bs F (upd H p o) := by
  refine ⟨⟨fun b u e => ?_, w.nd, w.len, fun i b ds e1 e2 => ?_, tabs_new w.tab h, w.tabF⟩, ⟨[], by simp, by simp⟩, Same.refl _, fun a u e => .inl e, fun a u e _ _ => ?_, fun a e => ?_⟩
  · rw [upd_ne (ne_of_none (w.sub b u e) h)]
    exact w.sub b u e
  · obtain ⟨n1, vs, e3, r⟩ := w.objs i b ds e1 e2
    exact ⟨n1, vs, by rw [upd_ne (ne_of_none e3 h)]; exact e3, r⟩
  · rw [upd_ne (ne_of_none e h)]
    exact e
  · by_cases q : a = p
    · subst q
      exact absurd h e
    · rw [upd_ne q]
      exact e
/-- a new mutable list -/
theorem Wd.newobj {M : MS} (w : Wd K bs M F H) {p : Addr} {vs : List V} {ds : List D} (r : Reps K bs F vs ds) (h : H p = none) : Wd K (bs ++ [p]) (M ++ [ds]) F (upd H p (.lst vs)) ∧ Tr bs F H (bs ++ [p]) F (upd H p (.lst vs)) := by
  have np := w.notin h
  refine ⟨⟨fun b u e => ?_, ?_, ?_, fun i b es e1 e2 => ?_, tabs_new w.tab h, w.tabF⟩, ⟨[p], rfl, fun b hb => ?_⟩, Same.refl _, fun a u e => .inl e, fun a u e _ _ => ?_, fun a e => ?_⟩
  · rw [upd_ne (ne_of_none (w.sub b u e) h)]
    exact w.sub b u e
  · rw [List.nodup_append]
    refine ⟨w.nd, List.nodup_cons.mpr ⟨by simp, List.nodup_nil⟩, fun a ha b hb e => ?_⟩
    have : b = p := by simpa using hb
    subst this
    exact np (e ▸ ha)
  · rw [List.length_append, List.length_append, w.len]
    rfl
  · by_cases hi : i < bs.length
    · rw [List.getElem?_append_left hi] at e1
      rw [List.getElem?_append_left (by rw [← w.len]; exact hi)] at e2
      obtain ⟨n1, ws, e3, q⟩ := w.objs i b es e1 e2
      exact ⟨n1, ws, by rw [upd_ne (ne_of_none e3 h)]; exact e3, q.mono (Same.refl _)⟩
    · rw [List.getElem?_append_right (by omega)] at e1
      rw [List.getElem?_append_right (by rw [← w.len]; omega), ← w.len] at e2
      have hz : i - bs.length = 0 := by
        cases q : i - bs.length with
        | zero => rfl
        | succ n =>
          rw [q] at e1
          simp at e1
      rw [hz] at e1 e2
      simp at e1 e2
      subst e1 e2
      exact ⟨w.fnone h, vs, upd_same, r.mono (Same.refl _)⟩
  · have : b = p := by simpa using hb
    subst this
    exact h
  · rw [upd_ne (ne_of_none e h)]
    exact e
  · by_cases q : a = p
    · subst q
      exact absurd h e
    · rw [upd_ne q]
      exact e
/-- a mutable list is changed -/
theorem Wd.write {M : MS} (w : Wd K bs M F H) {i : Nat} {b : Addr} {vs : List V} {ds : List D} (hb : bs[i]? = some b) (r : Reps K bs F vs ds) : Wd K bs (M.set i ds) F (upd H b (.lst vs)) ∧ Tr bs F H bs F (upd H b (.lst vs)) := by
  have hi : i < bs.length := (List.getElem?_eq_some_iff.mp hb).1
  have hm : i < M.length := by rw [← w.len]; exact hi
  obtain ⟨fb, ws, e0, _⟩ := w.objs i b _ hb (List.getElem?_eq_getElem hm)
  refine ⟨⟨fun c u e => ?_, w.nd, by rw [List.length_set]; exact w.len, fun j c es e1 e2 => ?_, tabs_lst w.tab e0, w.tabF⟩, ⟨[], by simp, by simp⟩, Same.refl _, fun a u e => .inl e, fun a u e ha _ => ?_, fun a e => ?_⟩
  · have q : c ≠ b := ne_of_none e fb
    rw [upd_ne q]
    exact w.sub c u e
  · by_cases q : j = i
    · subst q
      rw [hb] at e1
      cases e1
      rw [List.getElem?_set_self hm] at e2
      cases e2
      exact ⟨fb, vs, upd_same, r⟩
    · rw [List.getElem?_set_ne (Ne.symm q)] at e2
      obtain ⟨n1, us, e3, q3⟩ := w.objs j c es e1 e2
      have ne : c ≠ b := fun z => by
        subst z
        obtain ⟨h1, x1⟩ := List.getElem?_eq_some_iff.mp e1
        obtain ⟨h2, x2⟩ := List.getElem?_eq_some_iff.mp hb
        exact q ((List.getElem_inj w.nd).mp (x1.trans x2.symm))
      exact ⟨n1, us, by rw [upd_ne ne]; exact e3, q3⟩
  · rw [upd_ne (fun z => ha (by rw [z]; exact List.mem_of_getElem? hb))]
    exact e
  · by_cases q : a = b
    · subst q
      rw [upd_same]
      simp
    · rw [upd_ne q]
      exact e

/-! ### a frame's slots -/
inductive Sl where
  | no | v (d : D) | own (ds : List D) | ownD (ks : List Int) (ds : List D)

/-- os: the objects that the frame alone holds -/
inductive Slots (K : PySem.W.Frag) (bs : List Addr) (F H : Hp) : L2.St → List Sl → List Addr → Prop
  | nil : Slots K bs F H [] [] []
  | no {x : Option V} {σ : L2.St} {e : List Sl} {os : List Addr} (t : Slots K bs F H σ e os) : Slots K bs F H (x :: σ) (.no :: e) os
  | v {x : V} {d : D} {σ : L2.St} {e : List Sl} {os : List Addr} (r : Rep K bs F x d) (t : Slots K bs F H σ e os) : Slots K bs F H (some x :: σ) (.v d :: e) os
  | own {a : Addr} {vs : List V} {ds : List D} {σ : L2.St} {e : List Sl} {os : List Addr} (h : H a = some (.lst vs)) (hf : F a = none) (hb : a ∉ bs) (ho : a ∉ os) (r : Reps K bs F vs ds) (t : Slots K bs F H σ e os) : Slots K bs F H (some (.ref a) :: σ) (.own ds :: e) (a :: os)
  | ownD {a : Addr} {kvs : List (Key × V)} {ks : List Int} {ds : List D} {σ : L2.St} {e : List Sl} {os : List Addr} (h : H a = some (.dK kvs)) (hf : F a = none) (hb : a ∉ bs) (ho : a ∉ os) (hk : kvs.map (·.1) = ks.map Sum.inl) (r : Reps K bs F (kvs.map (·.2)) ds) (t : Slots K bs F H σ e os) : Slots K bs F H (some (.ref a) :: σ) (.ownD ks ds :: e) (a :: os)

theorem Tr.free (t : Tr bs F H bs' F' H') {a : Addr} {o : HO} (h : H a = some o) (hf : F a = none) : F' a = none := by
  cases q : F' a with
  | none => rfl
  | some u =>
    rcases t.new a u q with z | z
    · rw [hf] at z
      cases z
    · rw [h] at z
      cases z
theorem Tr.notin (t : Tr bs F H bs' F' H') {a : Addr} {o : HO} (h : H a = some o) (hb : a ∉ bs) : a ∉ bs' := by
  obtain ⟨m, rfl, hm⟩ := t.pre
  intro z
  rcases List.mem_append.mp z with z | z
  · exact hb z
  · rw [hm a z] at h
    cases h
theorem Slots.tr (t : Tr bs F H bs' F' H') : ∀ {σ : L2.St} {e : List Sl} {os : List Addr}, Slots K bs F H σ e os → Slots K bs' F' H' σ e os
  | _, _, _, .nil => .nil
  | _, _, _, .no s => .no (Slots.tr t s)
  | _, _, _, .v r s => .v (r.tr t) (Slots.tr t s)
  | _, _, _, .own h hf hb ho r s => .own (t.keep _ _ h hb) (t.free h hf) (t.notin h hb) ho (r.tr t) (Slots.tr t s)
  | _, _, _, .ownD h hf hb ho hk r s => .ownD (t.keep _ _ h hb) (t.free h hf) (t.notin h hb) ho hk (r.tr t) (Slots.tr t s)
theorem Slots.length : ∀ {σ : L2.St} {e : List Sl} {os : List Addr}, Slots K bs F H σ e os → σ.length = e.length
  | _, _, _, .nil => rfl
  | _, _, _, .no s => congrArg (· + 1) (Slots.length s)
  | _, _, _, .v r s => congrArg (· + 1) (Slots.length s)
  | _, _, _, .own h hf hb ho r s => congrArg (· + 1) (Slots.length s)
  | _, _, _, .ownD h hf hb ho hk r s => congrArg (· + 1) (Slots.length s)
theorem Slots.get : ∀ {σ : L2.St} {e : List Sl} {os : List Addr} {i : Nat} {d : D}, Slots K bs F H σ e os → e[i]? = some (.v d) → ∃ x, σ[i]? = some (some x) ∧ Rep K bs F x d
  | _, _, _, _, _, .nil, h => by simp at h
  | _, _, _, 0, _, .no s, h => by simp at h
  | _, _, _, 0, _, .v r s, h => by
    simp at h
    subst h
    exact ⟨_, rfl, r⟩
  | _, _, _, 0, _, .own _ _ _ _ _ s, h => by simp at h
  | _, _, _, 0, _, .ownD _ _ _ _ _ _ s, h => by simp at h
  | _, _, _, i + 1, d, .no s, h => by simpa using Slots.get (i := i) s (by simpa using h)
  | _, _, _, i + 1, d, .v r s, h => by simpa using Slots.get (i := i) s (by simpa using h)
  | _, _, _, i + 1, d, .own _ _ _ _ _ s, h => by simpa using Slots.get (i := i) s (by simpa using h)
  | _, _, _, i + 1, d, .ownD _ _ _ _ _ _ s, h => by simpa using Slots.get (i := i) s (by simpa using h)
theorem Slots.getOwn : ∀ {σ : L2.St} {e : List Sl} {os : List Addr} {i : Nat} {ds : List D}, Slots K bs F H σ e os → e[i]? = some (.own ds) → ∃ a vs, σ[i]? = some (some (.ref a)) ∧ H a = some (.lst vs) ∧ F a = none ∧ a ∉ bs ∧ a ∈ os ∧ Reps K bs F vs ds
  | _, _, _, _, _, .nil, h => by simp at h
  | _, _, _, 0, _, .no s, h => by simp at h
  | _, _, _, 0, _, .v r s, h => by simp at h
  | _, _, _, 0, _, .own h1 h2 h3 h4 r s, h => by
    simp at h
    subst h
    exact ⟨_, _, rfl, h1, h2, h3, List.mem_cons_self, r⟩
  | _, _, _, 0, _, .ownD _ _ _ _ _ _ s, h => by simp at h
  | _, _, _, i + 1, d, .no s, h => by simpa using Slots.getOwn (i := i) s (by simpa using h)
  | _, _, _, i + 1, d, .v r s, h => by simpa using Slots.getOwn (i := i) s (by simpa using h)
  | _, _, _, i + 1, d, .own _ _ _ _ _ s, h => by
    obtain ⟨a, vs, q1, q2, q3, q4, q5, q6⟩ := Slots.getOwn (i := i) s (by simpa using h)
    exact ⟨a, vs, by simpa using q1, q2, q3, q4, List.mem_cons_of_mem _ q5, q6⟩
  | _, _, _, i + 1, d, .ownD _ _ _ _ _ _ s, h => by
    obtain ⟨a, vs, q1, q2, q3, q4, q5, q6⟩ := Slots.getOwn (i := i) s (by simpa using h)
    exact ⟨a, vs, by simpa using q1, q2, q3, q4, List.mem_cons_of_mem _ q5, q6⟩
theorem Slots.getOwnD : ∀ {σ : L2.St} {e : List Sl} {os : List Addr} {i : Nat} {ks : List Int} {ds : List D}, Slots K bs F H σ e os → e[i]? = some (.ownD ks ds) → ∃ a kvs, σ[i]? = some (some (.ref a)) ∧ H a = some (.dK kvs) ∧ F a = none ∧ a ∉ bs ∧ a ∈ os ∧ kvs.map (·.1) = ks.map Sum.inl ∧ Reps K bs F (kvs.map (·.2)) ds
  | _, _, _, _, _, _, .nil, h => by simp at h
  | _, _, _, 0, _, _, .no s, h => by simp at h
  | _, _, _, 0, _, _, .v r s, h => by simp at h
  | _, _, _, 0, _, _, .own _ _ _ _ _ s, h => by simp at h
  | _, _, _, 0, _, _, .ownD h1 h2 h3 h4 hk r s, h => by
    simp at h
    obtain ⟨rfl, rfl⟩ := h
    exact ⟨_, _, rfl, h1, h2, h3, List.mem_cons_self, hk, r⟩
  | _, _, _, i + 1, _, d, .no s, h => by simpa using Slots.getOwnD (i := i) s (by simpa using h)
  | _, _, _, i + 1, _, d, .v r s, h => by simpa using Slots.getOwnD (i := i) s (by simpa using h)
  | _, _, _, i + 1, _, d, .own _ _ _ _ _ s, h => by
    obtain ⟨a, vs, q1, q2, q3, q4, q5, q6⟩ := Slots.getOwnD (i := i) s (by simpa using h)
    exact ⟨a, vs, by simpa using q1, q2, q3, q4, List.mem_cons_of_mem _ q5, q6⟩
  | _, _, _, i + 1, _, d, .ownD _ _ _ _ _ _ s, h => by
    obtain ⟨a, vs, q1, q2, q3, q4, q5, q6⟩ := Slots.getOwnD (i := i) s (by simpa using h)
    exact ⟨a, vs, by simpa using q1, q2, q3, q4, List.mem_cons_of_mem _ q5, q6⟩
/-- a slot gets a value (or is forgotten) -/
theorem Slots.setv {x : V} {d : D} (r : Rep K bs F x d) : ∀ {σ : L2.St} {e : List Sl} {os : List Addr} (i : Nat), Slots K bs F H σ e os → ∃ os', Slots K bs F H (σ.set i (some x)) (e.set i (.v d)) os' ∧ ∀ a ∈ os', a ∈ os
  | _, _, _, _, .nil => ⟨[], .nil, fun _ h => h⟩
  | _, _, _, 0, .no s => ⟨_, .v r s, fun _ h => h⟩
  | _, _, _, 0, .v _ s => ⟨_, .v r s, fun _ h => h⟩
  | _, _, _, 0, .own _ _ _ _ _ s => ⟨_, .v r s, fun _ h => List.mem_cons_of_mem _ h⟩
  | _, _, _, 0, .ownD _ _ _ _ _ _ s => ⟨_, .v r s, fun _ h => List.mem_cons_of_mem _ h⟩
  | _, _, _, i + 1, .no s => let ⟨os', q, h⟩ := Slots.setv r i s; ⟨os', .no q, h⟩
  | _, _, _, i + 1, .v z s => let ⟨os', q, h⟩ := Slots.setv r i s; ⟨os', .v z q, h⟩
  | _, _, _, i + 1, .own h1 h2 h3 h4 z s => let ⟨os', q, h⟩ := Slots.setv r i s; ⟨_ :: os', .own h1 h2 h3 (fun k => h4 (h _ k)) z q, fun a ha => (List.mem_cons.mp ha).elim (fun k => by rw [k]; exact List.mem_cons_self) fun k => List.mem_cons_of_mem _ (h _ k)⟩
  | _, _, _, i + 1, .ownD h1 h2 h3 h4 hk z s => let ⟨os', q, h⟩ := Slots.setv r i s; ⟨_ :: os', .ownD h1 h2 h3 (fun k => h4 (h _ k)) hk z q, fun a ha => (List.mem_cons.mp ha).elim (fun k => by rw [k]; exact List.mem_cons_self) fun k => List.mem_cons_of_mem _ (h _ k)⟩
theorem Slots.setno {x : Option V} : ∀ {σ : L2.St} {e : List Sl} {os : List Addr} (i : Nat), Slots K bs F H σ e os → ∃ os', Slots K bs F H (σ.set i x) (e.set i .no) os' ∧ ∀ a ∈ os', a ∈ os
  | _, _, _, _, .nil => ⟨[], .nil, fun _ h => h⟩
  | _, _, _, 0, .no s => ⟨_, .no s, fun _ h => h⟩
  | _, _, _, 0, .v _ s => ⟨_, .no s, fun _ h => h⟩
  | _, _, _, 0, .own _ _ _ _ _ s => ⟨_, .no s, fun _ h => List.mem_cons_of_mem _ h⟩
  | _, _, _, 0, .ownD _ _ _ _ _ _ s => ⟨_, .no s, fun _ h => List.mem_cons_of_mem _ h⟩
  | _, _, _, i + 1, .no s => let ⟨os', q, h⟩ := Slots.setno i s; ⟨os', .no q, h⟩
  | _, _, _, i + 1, .v z s => let ⟨os', q, h⟩ := Slots.setno i s; ⟨os', .v z q, h⟩
  | _, _, _, i + 1, .own h1 h2 h3 h4 z s => let ⟨os', q, h⟩ := Slots.setno i s; ⟨_ :: os', .own h1 h2 h3 (fun k => h4 (h _ k)) z q, fun a ha => (List.mem_cons.mp ha).elim (fun k => by rw [k]; exact List.mem_cons_self) fun k => List.mem_cons_of_mem _ (h _ k)⟩
  | _, _, _, i + 1, .ownD h1 h2 h3 h4 hk z s => let ⟨os', q, h⟩ := Slots.setno i s; ⟨_ :: os', .ownD h1 h2 h3 (fun k => h4 (h _ k)) hk z q, fun a ha => (List.mem_cons.mp ha).elim (fun k => by rw [k]; exact List.mem_cons_self) fun k => List.mem_cons_of_mem _ (h _ k)⟩
/-- a slot gets a new list of its own -/
theorem Slots.setown {a : Addr} {vs : List V} {ds : List D} (h : H a = some (.lst vs)) (hf : F a = none) (hb : a ∉ bs) (r : Reps K bs F vs ds) : ∀ {σ : L2.St} {e : List Sl} {os : List Addr} (i : Nat), a ∉ os → i < e.length → Slots K bs F H σ e os → ∃ os', Slots K bs F H (σ.set i (some (.ref a))) (e.set i (.own ds)) os' ∧ ∀ c ∈ os', c = a ∨ c ∈ os
  | _, _, _, _, _, hi, .nil => by simp at hi
  | _, _, _, 0, ho, _, .no s => ⟨_, .own h hf hb ho r s, fun c k => List.mem_cons.mp k⟩
  | _, _, _, 0, ho, _, .v _ s => ⟨_, .own h hf hb ho r s, fun c k => List.mem_cons.mp k⟩
  | _, _, _, 0, ho, _, .own _ _ _ _ _ s => ⟨_, .own h hf hb (fun k => ho (List.mem_cons_of_mem _ k)) r s, fun c k => (List.mem_cons.mp k).imp id (List.mem_cons_of_mem _)⟩
  | _, _, _, 0, ho, _, .ownD _ _ _ _ _ _ s => ⟨_, .own h hf hb (fun k => ho (List.mem_cons_of_mem _ k)) r s, fun c k => (List.mem_cons.mp k).imp id (List.mem_cons_of_mem _)⟩
  | _, _, _, i + 1, ho, hi, .no s => let ⟨os', q, z⟩ := Slots.setown h hf hb r i ho (by simpa using hi) s; ⟨os', .no q, z⟩
  | _, _, _, i + 1, ho, hi, .v y s => let ⟨os', q, z⟩ := Slots.setown h hf hb r i ho (by simpa using hi) s; ⟨os', .v y q, z⟩
  | _, _, _, i + 1, ho, hi, .own h1 h2 h3 h4 y s =>
    let ⟨os', q, z⟩ := Slots.setown h hf hb r i (fun k => ho (List.mem_cons_of_mem _ k)) (by simpa using hi) s
    ⟨_ :: os', .own h1 h2 h3 (fun k => (z _ k).elim (fun k => ho (by rw [← k]; exact List.mem_cons_self)) h4) y q, fun c k => (List.mem_cons.mp k).elim (fun k => .inr (by rw [k]; exact List.mem_cons_self)) fun k => (z c k).imp id (List.mem_cons_of_mem _)⟩
  | _, _, _, i + 1, ho, hi, .ownD h1 h2 h3 h4 hk y s =>
    let ⟨os', q, z⟩ := Slots.setown h hf hb r i (fun k => ho (List.mem_cons_of_mem _ k)) (by simpa using hi) s
    ⟨_ :: os', .ownD h1 h2 h3 (fun k => (z _ k).elim (fun k => ho (by rw [← k]; exact List.mem_cons_self)) h4) hk y q, fun c k => (List.mem_cons.mp k).elim (fun k => .inr (by rw [k]; exact List.mem_cons_self)) fun k => (z c k).imp id (List.mem_cons_of_mem _)⟩
theorem Slots.setownD {a : Addr} {kvs : List (Key × V)} {ks : List Int} {ds : List D} (h : H a = some (.dK kvs)) (hf : F a = none) (hb : a ∉ bs) (hk0 : kvs.map (·.1) = ks.map Sum.inl) (r : Reps K bs F (kvs.map (·.2)) ds) : ∀ {σ : L2.St} {e : List Sl} {os : List Addr} (i : Nat), a ∉ os → i < e.length → Slots K bs F H σ e os → ∃ os', Slots K bs F H (σ.set i (some (.ref a))) (e.set i (.ownD ks ds)) os' ∧ ∀ c ∈ os', c = a ∨ c ∈ os
  | _, _, _, _, _, hi, .nil => by simp at hi
  | _, _, _, 0, ho, _, .no s => ⟨_, .ownD h hf hb ho hk0 r s, fun c k => List.mem_cons.mp k⟩
  | _, _, _, 0, ho, _, .v _ s => ⟨_, .ownD h hf hb ho hk0 r s, fun c k => List.mem_cons.mp k⟩
  | _, _, _, 0, ho, _, .own _ _ _ _ _ s => ⟨_, .ownD h hf hb (fun k => ho (List.mem_cons_of_mem _ k)) hk0 r s, fun c k => (List.mem_cons.mp k).imp id (List.mem_cons_of_mem _)⟩
  | _, _, _, 0, ho, _, .ownD _ _ _ _ _ _ s => ⟨_, .ownD h hf hb (fun k => ho (List.mem_cons_of_mem _ k)) hk0 r s, fun c k => (List.mem_cons.mp k).imp id (List.mem_cons_of_mem _)⟩
  | _, _, _, i + 1, ho, hi, .no s => let ⟨os', q, z⟩ := Slots.setownD h hf hb hk0 r i ho (by simpa using hi) s; ⟨os', .no q, z⟩
  | _, _, _, i + 1, ho, hi, .v y s => let ⟨os', q, z⟩ := Slots.setownD h hf hb hk0 r i ho (by simpa using hi) s; ⟨os', .v y q, z⟩
  | _, _, _, i + 1, ho, hi, .own h1 h2 h3 h4 y s =>
    let ⟨os', q, z⟩ := Slots.setownD h hf hb hk0 r i (fun k => ho (List.mem_cons_of_mem _ k)) (by simpa using hi) s
    ⟨_ :: os', .own h1 h2 h3 (fun k => (z _ k).elim (fun k => ho (by rw [← k]; exact List.mem_cons_self)) h4) y q, fun c k => (List.mem_cons.mp k).elim (fun k => .inr (by rw [k]; exact List.mem_cons_self)) fun k => (z c k).imp id (List.mem_cons_of_mem _)⟩
  | _, _, _, i + 1, ho, hi, .ownD h1 h2 h3 h4 hk y s =>
    let ⟨os', q, z⟩ := Slots.setownD h hf hb hk0 r i (fun k => ho (List.mem_cons_of_mem _ k)) (by simpa using hi) s
    ⟨_ :: os', .ownD h1 h2 h3 (fun k => (z _ k).elim (fun k => ho (by rw [← k]; exact List.mem_cons_self)) h4) hk y q, fun c k => (List.mem_cons.mp k).elim (fun k => .inr (by rw [k]; exact List.mem_cons_self)) fun k => (z c k).imp id (List.mem_cons_of_mem _)⟩
end
end Z

/-! Z2: what code computes (denotations), expressions -/
namespace Z
open PySem PySem.Spec PyProof.Rows L2
variable [Tbs]

inductive Rs (α : Type) where
  | ok (a : α) | err (c : Str)
abbrev Mo (α : Type) := MS → Option (Rs α × MS)
def ret {α : Type} (a : α) : Mo α := fun M => some (.ok a, M)
def stuck {α : Type} : Mo α := fun _ => none
def bnd {α β : Type} (m : Mo α) (f : α → Mo β) : Mo β := fun M => match m M with
  | none => none
  | some (.ok a, M') => f a M'
  | some (.err c, M') => some (.err c, M')
def lft {α : Type} (o : Option α) : Mo α := fun M => match o with
  | none => none
  | some a => some (.ok a, M)
abbrev Ev := List Sl
abbrev DE := Ev → Mo D
abbrev DT := Ev → Mo Bool
abbrev DA := Ev → Mo (List D)
abbrev Wi := Str → L2.St → Hp → Prop
abbrev W0 : Wi := fun _ _ _ => False
abbrev QT (α : Type) := α → List Addr → MS → Hp → Hp → Prop

def Run {α : Type} (K : PySem.W.Frag) (W : Wi) (bs : List Addr) (F H : Hp) (σ : L2.St) (r : Option (Rs α × MS)) (q : QT α) : Prop := match r with
  | none => False
  | some (.ok a, M') => ∀ bs' F' H', Tr bs F H bs' F' H' → Wd K bs' M' F' H' → q a bs' M' F' H'
  | some (.err c, M') => ∀ bs' F' H', Tr bs F H bs' F' H' → Wd K bs' M' F' H' → W c σ H'
def At (K : PySem.W.Frag) (bs : List Addr) (M : MS) (F H : Hp) (σ : L2.St) (e : Ev) : Prop := Wd K bs M F H ∧ ∃ os, Slots K bs F H σ e os
def Lf {α : Type} (K : PySem.W.Frag) (W : Wi) (f : Ev → Mo α) (q : QT α) (σ : L2.St) (H : Hp) : Prop := ∃ bs M F e, At K bs M F H σ e ∧ Run K W bs F H σ (f e M) q
def qE (K : PySem.W.Frag) (Q : VK) : QT D := fun d bs _ F H => ∀ v, Rep K bs F v d → Q v H
def qT (Q : Bool → Hp → Prop) : QT Bool := fun b _ _ _ H => Q b H
def qA (K : PySem.W.Frag) (Q : List V → Hp → Prop) : QT (List D) := fun ds bs _ F H => ∀ vs, Reps K bs F vs ds → Q vs H
def liftE (K : PySem.W.Frag) (W : Wi) (f : DE) : TE := fun σ H Q => Lf K W f (qE K Q) σ H
def liftT (K : PySem.W.Frag) (W : Wi) (f : DT) : TT := fun σ H Q => Lf K W f (qT Q) σ H
def liftA (K : PySem.W.Frag) (W : Wi) (f : DA) : TA := fun σ H Q => Lf K W f (qA K Q) σ H
abbrev ZE (X : Cx) (W : Wi) (e : Expr) (f : DE) : Prop := PE X e (liftE X.K W f)
abbrev ZT (X : Cx) (W : Wi) (e : Expr) (f : DT) : Prop := PT X e (liftT X.K W f)
abbrev ZW (X : Cx) (W : Wi) (e : Expr) (f : DT) : Prop := PW X e (liftT X.K W f)
abbrev ZA (X : Cx) (W : Wi) (es : List Expr) (f : DA) : Prop := PA X es (liftA X.K W f)

section
variable {α β : Type} {K : PySem.W.Frag} {W : Wi} {bs bs' : List Addr} {M M' : MS} {F F' H H' : Hp} {σ : L2.St} {e : Ev}
theorem Run.imp {r : Option (Rs α × MS)} {q q' : QT α} (h : Run K W bs F H σ r q) (f : ∀ a bs' M' F' H', Tr bs F H bs' F' H' → Wd K bs' M' F' H' → q a bs' M' F' H' → q' a bs' M' F' H') : Run K W bs F H σ r q' := by
  match r, h with
  | some (.ok a, M'), h => exact fun bs' F' H' t w => f a bs' M' F' H' t w (h bs' F' H' t w)
  | some (.err c, M'), h => exact h
theorem Run.bind {m : Mo α} {f : α → Mo β} {q : QT β} (h : Run K W bs F H σ (bnd m f M) q) : Run K W bs F H σ (m M) (fun a bs1 M1 F1 H1 => Run K W bs1 F1 H1 σ (f a M1) q) := by
  unfold bnd at h
  cases e1 : m M with
  | none =>
    rw [e1] at h
    exact h
  | some p =>
    obtain ⟨r, M1⟩ := p
    rw [e1] at h
    cases r with
    | err c => exact h
    | ok a =>
      intro bs1 F1 H1 t1 w1
      simp only at h
      cases e2 : f a M1 with
      | none =>
        rw [e2] at h
        exact h
      | some p2 =>
        obtain ⟨r2, M2⟩ := p2
        rw [e2] at h
        cases r2 with
        | err c => exact fun bs2 F2 H2 t2 w2 => h bs2 F2 H2 (t1.trans t2) w2
        | ok b => exact fun bs2 F2 H2 t2 w2 => h bs2 F2 H2 (t1.trans t2) w2
theorem Run.here {a : α} {q : QT α} (w : Wd K bs M F H) (h : Run K W bs F H σ (some (.ok a, M)) q) : q a bs M F H := h bs F H (Tr.refl _ _ _) w
theorem Run.ok {a : α} {q : QT α} (h : Run K W bs F H σ (some (.ok a, M)) q) : ∀ bs' F' H', Tr bs F H bs' F' H' → Wd K bs' M F' H' → q a bs' M F' H' := h
theorem At.tr (a : At K bs M F H σ e) (t : Tr bs F H bs' F' H') (w : Wd K bs' M' F' H') : At K bs' M' F' H' σ e := ⟨w, a.2.imp fun _ s => s.tr t⟩
theorem Run.of_lft {o : Option α} {q : QT α} (h : Run K W bs F H σ (lft o M) q) : ∃ a, o = some a ∧ ∀ bs' F' H', Tr bs F H bs' F' H' → Wd K bs' M F' H' → q a bs' M F' H' := by
  cases o with
  | none => exact h.elim
  | some a => exact ⟨a, rfl, h⟩
end

/-! ### names, constants -/
def dVar (i : Nat) : DE := fun e M => match e[i]? with
  | some (.v d) => some (.ok d, M)
  | _ => none
def dC (d : D) : DE := fun _ => ret d
section
variable {X : Cx} {W : Wi}
theorem ze_ofVar {e : Expr} {i : Nat} (h : PE X e (tVar i)) : ZE X W e (dVar i) := ⟨fun pins s σ H Q I q => by
  obtain ⟨bs, M, F, ev, ⟨w, os, sl⟩, run⟩ := q
  unfold dVar at run
  cases e1 : ev[i]? with
  | none =>
    rw [e1] at run
    exact run.elim
  | some x =>
    rw [e1] at run
    cases x with
    | v d =>
      obtain ⟨v, e2, r⟩ := sl.get e1
      exact h.run pins s σ H Q I ⟨v, e2, Run.here w run v r⟩
    | no => exact run.elim
    | own _ => exact run.elim
    | ownD _ _ => exact run.elim⟩
theorem ze_ofC {e : Expr} {v : V} {d : D} (h : PE X e (tC v)) (r : ∀ bs F, Rep X.K bs F v d) : ZE X W e (dC d) := ⟨fun pins s σ H Q I q => by
  obtain ⟨bs, M, F, ev, a, run⟩ := q
  exact h.run pins s σ H Q I (Run.here a.1 run v (r _ _))⟩
theorem zv (i : Nat) {x : Str} {pos : Pos} (hN : X.N[i]? = some x := by rfl) (hv : Vis X.env.scope x := by first | exact Or.inl rfl | exact Or.inr (Or.inl rfl) | exact Or.inr (Or.inr rfl)) (hd : (x == ("__debug__" : Str)) = false := by decide)
    (hcd : (x == ("__classdict__" : Str)) = false := by decide) : ZE X W (.Name x pos) (dVar i) := ze_ofVar (pe_var hN hv hd hcd)
theorem z_int {i : Int} {j : Nat} {pos : Pos} : ZE X W (.Constant (.int i) j pos) (dC (.int i)) := ze_ofC pe_int fun _ _ => .int i
theorem z_bl {b : Bool} {j : Nat} {pos : Pos} : ZE X W (.Constant (.bool b) j pos) (dC (.bl b)) := ze_ofC pe_bl fun _ _ => .bl b
theorem z_non {j : Nat} {pos : Pos} : ZE X W (.Constant .none j pos) (dC .non) := ze_ofC pe_non fun _ _ => .non
theorem z_str {x : Str} {j : Nat} {pos : Pos} : ZE X W (.Constant (.str x) j pos) (dC (.str x)) := ze_ofC pe_str fun _ _ => .str x
/-- a whole number of the module -/
theorem z_glob {x : Str} {i : Int} {t : Tok} {pos : Pos} (hg : Gl X x) (hm : X.mg x = some (.int i t)) (hd : (x == ("__debug__" : Str)) = false := by decide) : ZE X W (.Name x pos) (dC (.int i)) := ze_ofC (pe_glob (v := .int i) hg hm ⟨t, rfl⟩ hd) fun _ _ => .int i
end

/-! ### two values -/
abbrev F2 := D → D → MS → Option D
def dOp (fo : F2) (fa fb : DE) : DE := fun e => bnd (fa e) fun x => bnd (fb e) fun y => fun M => lft (fo x y M) M
def OpZ (K : PySem.W.Frag) (r : R2) (fo : F2) : Prop :=
  ∀ (bs : List Addr) (M : MS) (F H : Hp) (x y : V) (c d z : D) (Q : VK), Wd K bs M F H → Rep K bs F x c → Rep K bs F y d → fo c d M = some z →
    (∀ v bs' F' H', Tr bs F H bs' F' H' → Wd K bs' M F' H' → Rep K bs' F' v z → Q v H') → r x y H Q
section
variable {X : Cx} {W : Wi} {K : PySem.W.Frag} {a b c : Expr} {fa fb fc : DE} {pos : Pos}
theorem op_lift {r : R2} {fo : F2} (hz : OpZ K r fo) {σ : L2.St} {H : Hp} {Q : VK} (h : liftE K W (dOp fo fa fb) σ H Q) : tOp r (liftE K W fa) (liftE K W fb) σ H Q := by
  obtain ⟨bs, M, F, e, at0, run⟩ := h
  refine ⟨bs, M, F, e, at0, run.bind.imp fun x bs1 M1 F1 H1 t1 w1 run1 v1 r1 => ?_⟩
  refine ⟨bs1, M1, F1, e, at0.tr t1 w1, run1.bind.imp fun y bs2 M2 F2 H2 t2 w2 run2 v2 r2 => ?_⟩
  obtain ⟨z, ez, k⟩ := run2.of_lft
  exact hz bs2 M2 F2 H2 v1 v2 x y z Q w2 (r1.tr t2) r2 ez fun v bs' F' H' t w r => k bs' F' H' t w v r
theorem ze_op {op : Operator} {r : R2} {fo : F2} (ho : OpR X (binaryOp op) r) (hz : OpZ X.K r fo) (ha : ZE X W a fa) (hb : ZE X W b fb) : ZE X W (.BinOp a op b pos) (dOp fo fa fb) :=
  ⟨fun pins s σ H Q I h => (pe_op ho ha hb).run pins s σ H Q I (op_lift hz h)⟩
theorem ze_cmp {op : CmpOp} {r : R2} {fo : F2} (ho : OpR X (compareOp op) r) (hz : OpZ X.K r fo) (ha : ZE X W a fa) (hb : ZE X W b fb) (hm : behindInMarks op b = false := by first | exact nomark _ | with_unfolding_all rfl) : ZE X W (.Compare a [op] [b] pos) (dOp fo fa fb) :=
  ⟨fun pins s σ H Q I h => (pe_cmpR ho ha hb hm).run pins s σ H Q I (op_lift hz h)⟩
theorem ze_ix {r : R2} {fo : F2} (hr : IxR X r) (hz : OpZ X.K r fo) (ha : ZE X W a fa) (hb : ZE X W b fb) (hs : PlainIx b := by exact fun _ _ => rfl) : ZE X W (.Subscript a b pos) (dOp fo fa fb) :=
  ⟨fun pins s σ H Q I h => (pe_ix hr ha hb hs).run pins s σ H Q I (op_lift hz h)⟩
theorem OpZ.or {r r' : R2} {fo fo' : F2} (h : OpZ K r fo) (h' : OpZ K r' fo') : OpZ K (fun x y H Q => r x y H Q ∨ r' x y H Q) (fun c d M => match fo c d M with | some z => some z | none => fo' c d M) := by
  intro bs M F H x y c d z Q w r1 r2 ez q
  simp only at ez
  cases e : fo c d M with
  | some z' =>
    rw [e] at ez
    cases ez
    exact .inl (h bs M F H x y c d _ Q w r1 r2 e q)
  | none =>
    rw [e] at ez
    exact .inr (h' bs M F H x y c d z Q w r1 r2 ez q)
theorem OpZ.imp {r : R2} {fo fo' : F2} (h : OpZ K r fo) (hf : ∀ c d M z, fo' c d M = some z → fo c d M = some z) : OpZ K r fo' :=
  fun bs M F H x y c d z Q w r1 r2 ez q => h bs M F H x y c d z Q w r1 r2 (hf _ _ _ _ ez) q

/-- a value that is True or False as a test -/
def asB : D → Mo Bool
  | .bl b => ret b
  | _ => stuck
def dTest (f : DE) : DT := fun e => bnd (f e) asB
theorem test_lift {f : DE} {σ : L2.St} {H : Hp} {Q : Bool → Hp → Prop} (h : liftT K W (dTest f) σ H Q) : liftE K W f σ H fun x H1 => ∃ k, x = .bl k ∧ Q k H1 := by
  obtain ⟨bs, M, F, e, at0, run⟩ := h
  refine ⟨bs, M, F, e, at0, run.bind.imp fun x bs1 M1 F1 H1 t1 w1 run1 v1 r1 => ?_⟩
  cases x with
  | bl k =>
    cases r1
    exact ⟨k, rfl, Run.here w1 run1⟩
  | _ => exact run1.elim
theorem zt_val {e : Expr} {f : DE} (h : ZE X W e f) (he : ∀ whole, isTrue e X.env whole = (do let v ← whole; standAt e.pos; holding [v] (truthy v)) := by intro _; rfl) : ZT X W e (dTest f) :=
  ⟨fun pins s σ H Q I q => (pt_val h he).run pins s σ H Q I (test_lift q)⟩
theorem zt_cmp {op : CmpOp} {r : R2} {fo : F2} (ho : OpR X (compareOp op) r) (hz : OpZ X.K r fo) (ha : ZE X W a fa) (hb : ZE X W b fb) (hm : behindInMarks op b = false := by first | exact nomark _ | with_unfolding_all rfl) : ZT X W (.Compare a [op] [b] pos) (dTest (dOp fo fa fb)) :=
  ⟨fun pins s σ H Q I q => (pt_cmpR ho ha hb hm).run pins s σ H Q I (op_lift hz (test_lift q))⟩
/-- a op b op' c -/
def dChain (fo fo' : F2) (fa fb fc : DE) : DE := fun e => bnd (fa e) fun x => bnd (fb e) fun y => bnd (fun M => lft (fo x y M) M) fun z => bnd (asB z) fun k => if k = true then bnd (fc e) fun w => fun M => lft (fo' y w M) M else ret (.bl false)
theorem chain_lift {r r' : R2} {fo fo' : F2} (hz : OpZ K r fo) (hz' : OpZ K r' fo') {σ : L2.St} {H : Hp} {Q : VK} (h : liftE K W (dChain fo fo' fa fb fc) σ H Q) : tChain r r' (liftE K W fa) (liftE K W fb) (liftE K W fc) σ H Q := by
  obtain ⟨bs, M, F, e, at0, run⟩ := h
  refine ⟨bs, M, F, e, at0, run.bind.imp fun x bs1 M1 F1 H1 t1 w1 run1 v1 r1 => ?_⟩
  refine ⟨bs1, M1, F1, e, at0.tr t1 w1, run1.bind.imp fun y bs2 M2 F2 H2 t2 w2 run2 v2 r2 => ?_⟩
  obtain ⟨z, ez, k⟩ := run2.bind.of_lft
  refine hz bs2 M2 F2 H2 v1 v2 x y z _ w2 (r1.tr t2) r2 ez fun v bs3 F3 H3 t3 w3 r3 => ?_
  have run3 := (k bs3 F3 H3 t3 w3)
  cases z with
  | bl b =>
    cases r3
    refine ⟨b, rfl, ?_⟩
    have run4 := Run.here w3 run3.bind
    cases b with
    | true =>
      rw [if_pos rfl] at run4 ⊢
      refine ⟨bs3, M2, F3, e, (at0.tr t1 w1).tr (t2.trans t3) w3, run4.bind.imp fun u bs4 M4 F4 H4 t4 w4 run5 v4 r4 => ?_⟩
      obtain ⟨z', ez', k'⟩ := run5.of_lft
      exact hz' bs4 M4 F4 H4 v2 v4 y u z' Q w4 (r2.tr (t3.trans t4)) r4 ez' fun v bs' F' H' t w r => k' bs' F' H' t w v r
    | false =>
      rw [if_neg Bool.false_ne_true] at run4 ⊢
      exact Run.here w3 run4 _ (.bl false)
  | _ => exact run3.elim
theorem ze_chain {op op' : CmpOp} {r r' : R2} {fo fo' : F2} (ho : OpR X (compareOp op) r) (ho' : OpR X (compareOp op') r') (hz : OpZ X.K r fo) (hz' : OpZ X.K r' fo') (ha : ZE X W a fa) (hb : ZE X W b fb) (hc : ZE X W c fc)
    (hm : lastMarks [op, op'] [b, c] = false := by with_unfolding_all rfl) : ZE X W (.Compare a [op, op'] [b, c] pos) (dChain fo fo' fa fb fc) :=
  ⟨fun pins s σ H Q I h => (pe_chain ho ho' ha hb hc hm).run pins s σ H Q I (chain_lift hz hz' h)⟩
theorem zt_chain {op op' : CmpOp} {r r' : R2} {fo fo' : F2} (ho : OpR X (compareOp op) r) (ho' : OpR X (compareOp op') r') (hz : OpZ X.K r fo) (hz' : OpZ X.K r' fo') (ha : ZE X W a fa) (hb : ZE X W b fb) (hc : ZE X W c fc)
    (hm : lastMarks [op, op'] [b, c] = false := by with_unfolding_all rfl) : ZT X W (.Compare a [op, op'] [b, c] pos) (dTest (dChain fo fo' fa fb fc)) :=
  ⟨fun pins s σ H Q I h => (pt_chain ho ho' ha hb hc hm).run pins s σ H Q I (chain_lift hz hz' (test_lift h))⟩
end

/-! ### and, or, not, if -/
def dAnd (fa fb : DE) : DE := fun e => bnd (dTest fa e) fun k => if k = true then fb e else ret (.bl false)
def dOr (fa fb : DE) : DE := fun e => bnd (dTest fa e) fun k => if k = true then ret (.bl true) else fb e
def dNot (fa : DE) : DE := fun e => bnd (dTest fa e) fun k => ret (.bl (!k))
def dAndT (fa fb : DT) : DT := fun e => bnd (fa e) fun k => if k = true then fb e else ret false
def dOrT (fa fb : DT) : DT := fun e => bnd (fa e) fun k => if k = true then ret true else fb e
def dNotT (fa : DT) : DT := fun e => bnd (fa e) fun k => ret (!k)
def dIf (ft : DT) (fa fb : DE) : DE := fun e => bnd (ft e) fun k => if k = true then fa e else fb e
section
variable {X : Cx} {W : Wi} {K : PySem.W.Frag} {a b c : Expr} {fa fb fc : DE} {pos : Pos} {rest : List Expr} {ga gb : DT}
theorem ze_one {op} (h : ZE X W a fa) : ZE X W (.BoolOp op [a] pos) fa := pe_one h
theorem ze_and (ha : ZE X W a fa) (hb : ZE X W (.BoolOp .And (b :: rest) pos) fb) : ZE X W (.BoolOp .And (a :: b :: rest) pos) (dAnd fa fb) :=
  ⟨fun pins s σ H Q I h => (pe_and ha hb).run pins s σ H Q I (by
    obtain ⟨bs, M, F, e, at0, run⟩ := h
    have q := test_lift (Q := fun k H1 => if k = true then liftE X.K W fb σ H1 Q else Q (.bl false) H1) (f := fa) (K := X.K) (W := W) (σ := σ) (H := H) ⟨bs, M, F, e, at0, run.bind.imp fun k bs1 M1 F1 H1 t1 w1 run1 => by
      cases k with
      | true =>
        rw [if_pos rfl] at run1
        simp only [qT, if_true]
        exact ⟨bs1, M1, F1, e, at0.tr t1 w1, run1⟩
      | false =>
        rw [if_neg Bool.false_ne_true] at run1
        simp only [qT, Bool.false_eq_true, if_false]
        exact (Run.here w1 run1 _ (.bl false))⟩
    exact q)⟩
theorem ze_or (ha : ZE X W a fa) (hb : ZE X W (.BoolOp .Or (b :: rest) pos) fb) : ZE X W (.BoolOp .Or (a :: b :: rest) pos) (dOr fa fb) :=
  ⟨fun pins s σ H Q I h => (pe_or ha hb).run pins s σ H Q I (by
    obtain ⟨bs, M, F, e, at0, run⟩ := h
    have q := test_lift (Q := fun k H1 => if k = true then Q (.bl true) H1 else liftE X.K W fb σ H1 Q) (f := fa) (K := X.K) (W := W) (σ := σ) (H := H) ⟨bs, M, F, e, at0, run.bind.imp fun k bs1 M1 F1 H1 t1 w1 run1 => by
      cases k with
      | true =>
        rw [if_pos rfl] at run1
        simp only [qT, if_true]
        exact (Run.here w1 run1 _ (.bl true))
      | false =>
        rw [if_neg Bool.false_ne_true] at run1
        simp only [qT, Bool.false_eq_true, if_false]
        exact ⟨bs1, M1, F1, e, at0.tr t1 w1, run1⟩⟩
    exact q)⟩
theorem ze_not (ha : ZE X W a fa) : ZE X W (.UnaryOp .Not a pos) (dNot fa) :=
  ⟨fun pins s σ H Q I h => (pe_not ha).run pins s σ H Q I (by
    obtain ⟨bs, M, F, e, at0, run⟩ := h
    exact test_lift (Q := fun k H1 => Q (.bl (!k)) H1) (f := fa) (K := X.K) (W := W) (σ := σ) (H := H) ⟨bs, M, F, e, at0, run.bind.imp fun k bs1 M1 F1 H1 t1 w1 run1 => Run.here w1 run1 _ (.bl _)⟩)⟩
theorem zw_and1 (ha : ZT X W a ga) : ZW X W (.BoolOp .And [a] pos) ga := pw_and1 ha
theorem zw_or1 (ha : ZT X W a ga) : ZW X W (.BoolOp .Or [a] pos) ga := pw_or1 ha
theorem zw_and (ha : ZT X W a ga) (hb : ZW X W (.BoolOp .And (b :: rest) pos) gb) : ZW X W (.BoolOp .And (a :: b :: rest) pos) (dAndT ga gb) :=
  ⟨fun wh pins s σ H Q I h => (pw_and ha hb).run wh pins s σ H Q I (by
    obtain ⟨bs, M, F, e, at0, run⟩ := h
    refine ⟨bs, M, F, e, at0, run.bind.imp fun k bs1 M1 F1 H1 t1 w1 run1 => ?_⟩
    cases k with
    | true =>
      rw [if_pos rfl] at run1
      simp only [qT, if_true]
      exact ⟨bs1, M1, F1, e, at0.tr t1 w1, run1⟩
    | false =>
      rw [if_neg Bool.false_ne_true] at run1
      simp only [qT, Bool.false_eq_true, if_false]
      exact (Run.here w1 run1))⟩
theorem zw_or (ha : ZT X W a ga) (hb : ZW X W (.BoolOp .Or (b :: rest) pos) gb) : ZW X W (.BoolOp .Or (a :: b :: rest) pos) (dOrT ga gb) :=
  ⟨fun wh pins s σ H Q I h => (pw_or ha hb).run wh pins s σ H Q I (by
    obtain ⟨bs, M, F, e, at0, run⟩ := h
    refine ⟨bs, M, F, e, at0, run.bind.imp fun k bs1 M1 F1 H1 t1 w1 run1 => ?_⟩
    cases k with
    | true =>
      rw [if_pos rfl] at run1
      simp only [qT, if_true]
      exact (Run.here w1 run1)
    | false =>
      rw [if_neg Bool.false_ne_true] at run1
      simp only [qT, Bool.false_eq_true, if_false]
      exact ⟨bs1, M1, F1, e, at0.tr t1 w1, run1⟩)⟩
theorem zt_not (ha : ZT X W a ga) : ZT X W (.UnaryOp .Not a pos) (dNotT ga) :=
  ⟨fun pins s σ H Q I h => (pt_not ha).run pins s σ H Q I (by
    obtain ⟨bs, M, F, e, at0, run⟩ := h
    refine ⟨bs, M, F, e, at0, run.bind.imp fun k bs1 M1 F1 H1 t1 w1 run1 => ?_⟩
    have z : qT Q (!k) bs1 M1 F1 H1 := Run.here w1 run1
    exact z)⟩
theorem ze_if (hc : ZT X W c ga) (ha : ZE X W a fa) (hb : ZE X W b fb) : ZE X W (.IfExp c a b pos) (dIf ga fa fb) :=
  ⟨fun pins s σ H Q I h => (pe_ifExp hc ha hb).run pins s σ H Q I (by
    obtain ⟨bs, M, F, e, at0, run⟩ := h
    refine ⟨bs, M, F, e, at0, run.bind.imp fun k bs1 M1 F1 H1 t1 w1 run1 => ?_⟩
    cases k with
    | true =>
      rw [if_pos rfl] at run1
      simp only [qT, if_true]
      exact ⟨bs1, M1, F1, e, at0.tr t1 w1, run1⟩
    | false =>
      rw [if_neg Bool.false_ne_true] at run1
      simp only [qT, Bool.false_eq_true, if_false]
      exact ⟨bs1, M1, F1, e, at0.tr t1 w1, run1⟩)⟩
end

/-! ### argument lists, displays, calls -/
def dNil : DA := fun _ => ret []
def dCons (f : DE) (g : DA) : DA := fun e => bnd (f e) fun x => bnd (g e) fun xs => ret (x :: xs)
def dTup (g : DA) : DE := fun e => bnd (g e) fun xs => if xs.length ≤ 100000 then ret (.tup xs) else stuck
def dLst (g : DA) : DE := fun e => bnd (g e) fun xs => if xs.length ≤ 100000 then ret (.lst xs) else stuck
/-- a new list that will be changed -/
def dObj (g : DA) : DE := fun e => bnd (g e) fun xs => if xs.length ≤ 100000 then (fun M => some (.ok (.obj M.length), M ++ [xs])) else stuck
abbrev F1 := List D → MS → Option D
def dB (fo : F1) (g : DA) : DE := fun e => bnd (g e) fun xs => fun M => lft (fo xs M) M
theorem small_ok {n : Nat} (h : n ≤ 100000) : n ≤ sizeLine := by rw [sizeLine_eq]; omega
def CallZ (K : PySem.W.Frag) (r : List V → Hp → VK → Prop) (fo : F1) : Prop :=
  ∀ (bs : List Addr) (M : MS) (F H : Hp) (xs : List V) (ds : List D) (z : D) (Q : VK), Wd K bs M F H → Reps K bs F xs ds → fo ds M = some z →
    (∀ v bs' F' H', Tr bs F H bs' F' H' → Wd K bs' M F' H' → Rep K bs' F' v z → Q v H') → r xs H Q
section
variable {X : Cx} {W : Wi} {K : PySem.W.Frag} {e : Expr} {es : List Expr} {f : DE} {g : DA} {pos p : Pos}
theorem za_nil : ZA X W [] dNil := ⟨fun pos pins s σ H Q I h => pa_nil.run pos pins s σ H Q I (by
  obtain ⟨bs, M, F, e, at0, run⟩ := h
  exact Run.here at0.1 run [] .nil)⟩
theorem za_cons (hf : ZE X W e f) (hg : ZA X W es g) (hs : starEach (e :: es) X.env = (false, eval e X.env) :: starEach es X.env := by rfl) : ZA X W (e :: es) (dCons f g) := ⟨fun pos pins s σ H Q I h => (pa_cons hf hg hs).run pos pins s σ H Q I (by
  obtain ⟨bs, M, F, e, at0, run⟩ := h
  refine ⟨bs, M, F, e, at0, run.bind.imp fun x bs1 M1 F1 H1 t1 w1 run1 v1 r1 => ?_⟩
  refine ⟨bs1, M1, F1, e, at0.tr t1 w1, run1.bind.imp fun xs bs2 M2 F2 H2 t2 w2 run2 vs r2 => ?_⟩
  exact Run.here w2 run2 _ (.cons (r1.tr t2) r2))⟩
theorem ze_tup {x1} (hg : ZA X W es g) : ZE X W (.Tuple es x1 pos) (dTup g) := ⟨fun pins s σ H Q I h => (pe_tup hg).run pins s σ H Q I (by
  obtain ⟨bs, M, F, e, at0, run⟩ := h
  refine ⟨bs, M, F, e, at0, run.bind.imp fun xs bs1 M1 F1 H1 t1 w1 run1 vs r1 => ?_⟩
  by_cases hl : xs.length ≤ 100000
  · rw [if_pos hl] at run1
    refine ⟨by rw [r1.length]; exact small_ok hl, fun q hq => ?_⟩
    obtain ⟨w2, t2⟩ := w1.laid (.tup vs) hq
    exact run1.ok _ _ _ t2 w2 _ (.tup upd_same (r1.tr t2))
  · rw [if_neg hl] at run1
    exact run1.elim)⟩
theorem ze_lst (hg : ZA X W es g) : ZE X W (.List es pos) (dLst g) := ⟨fun pins s σ H Q I h => (pe_lst hg).run pins s σ H Q I (by
  obtain ⟨bs, M, F, e, at0, run⟩ := h
  refine ⟨bs, M, F, e, at0, run.bind.imp fun xs bs1 M1 F1 H1 t1 w1 run1 vs r1 => ?_⟩
  by_cases hl : xs.length ≤ 100000
  · rw [if_pos hl] at run1
    refine ⟨by rw [r1.length]; exact small_ok hl, fun q hq => ?_⟩
    obtain ⟨w2, t2⟩ := w1.laid (.lst vs) hq
    exact run1.ok _ _ _ t2 w2 _ (.lst upd_same (r1.tr t2))
  · rw [if_neg hl] at run1
    exact run1.elim)⟩
theorem ze_obj (hg : ZA X W es g) : ZE X W (.List es pos) (dObj g) := ⟨fun pins s σ H Q I h => (pe_lst hg).run pins s σ H Q I (by
  obtain ⟨bs, M, F, e, at0, run⟩ := h
  refine ⟨bs, M, F, e, at0, run.bind.imp fun xs bs1 M1 F1 H1 t1 w1 run1 vs r1 => ?_⟩
  by_cases hl : xs.length ≤ 100000
  · rw [if_pos hl] at run1
    refine ⟨by rw [r1.length]; exact small_ok hl, fun q hq => ?_⟩
    obtain ⟨w2, t2⟩ := w1.newobj r1 hq
    refine run1.ok _ _ _ t2 w2 _ (.obj ?_)
    rw [List.getElem?_append_right (by rw [w1.len]; exact Nat.le_refl _), ← w1.len, Nat.sub_self]
    rfl
  · rw [if_neg hl] at run1
    exact run1.elim)⟩
theorem cb_lift {r : List V → Hp → VK → Prop} {fo : F1} (hz : CallZ K r fo) {σ : L2.St} {H : Hp} {Q : VK} (h : liftE K W (dB fo g) σ H Q) : tCB r (liftA K W g) σ H Q := by
  obtain ⟨bs, M, F, e, at0, run⟩ := h
  refine ⟨bs, M, F, e, at0, run.bind.imp fun xs bs1 M1 F1 H1 t1 w1 run1 vs r1 => ?_⟩
  obtain ⟨z, ez, k⟩ := run1.of_lft
  exact hz bs1 M1 F1 H1 vs xs z Q w1 r1 ez fun v bs' F' H' t w r => k bs' F' H' t w v r
theorem ze_callB {id : String} {x : Str} {r : List V → Hp → VK → Prop} {fo : F1} (hc : CallR X (.builtin id) r) (hz : CallZ X.K r fo) (hg : Gl X x) (hm : X.mg x = none) (hv : bootBuiltins x = some (.builtin id)) (ha : ZA X W (e :: es) g) (hn : x ≠ "__name__" := by decide) (hdb : (x == ("__debug__" : Str)) = false := by decide)
    (he : starEach (e :: es) X.env = (false, eval e X.env) :: starEach es X.env := by rfl) (hpl : (backTo pos (starEach es X.env)).any (·.1) = false := by rfl) : ZE X W (.Call (.Name x p) (e :: es) [] pos) (dB fo g) :=
  ⟨fun pins s σ H Q I h => (pe_callB hc hg hm hv ha hn hdb he hpl).run pins s σ H Q I (cb_lift hz h)⟩
theorem ze_callTy {T : String} {x : Str} {r : List V → Hp → VK → Prop} {fo : F1} (hc : CallR X (.type T) r) (hz : CallZ X.K r fo) (hg : Gl X x) (hm : X.mg x = none) (hv : bootBuiltins x = some (.type T)) (ha : ZA X W (e :: es) g) (hn : x ≠ "__name__" := by decide) (hdb : (x == ("__debug__" : Str)) = false := by decide)
    (he : starEach (e :: es) X.env = (false, eval e X.env) :: starEach es X.env := by rfl) (hpl : (backTo pos (starEach es X.env)).any (·.1) = false := by rfl) : ZE X W (.Call (.Name x p) (e :: es) [] pos) (dB fo g) :=
  ⟨fun pins s σ H Q I h => (pe_callTy hc hg hm hv ha hn hdb he hpl).run pins s σ H Q I (cb_lift hz h)⟩
end

/-! ### what a def promises -/
abbrev DF := List D → Mo D
/-- what a def's error means to its caller -/
abbrev WishF := XK → Str → Hp → Prop
def wf0 : WishF := fun _ _ _ => False
def wfX (mg : Str → Option Value) : WishF := fun E c H => ∀ u, mg c = some u → E u none H
def spZ (K : PySem.W.Frag) (wf : WishF) (n : Nat) (df : DF) : Sp := fun vs H Q E => ∃ bs M F ds, Wd K bs M F H ∧ Reps K bs F vs ds ∧ ds.length = n ∧ Run K (fun c _ H' => wf E c H') bs F H [] (df ds M) (qE K Q)
/-- the number of arguments -/
def LenA (g : DA) (n : Nat) : Prop := ∀ e M ds M', g e M = some (.ok ds, M') → ds.length = n
theorem lenA0 : LenA dNil 0 := fun e M ds M' h => by
  cases h
  rfl
theorem lenA1 {f : DE} {g : DA} {n : Nat} (h : LenA g n) : LenA (dCons f g) (n + 1) := fun e M ds M' q => by
  unfold dCons bnd at q
  cases e1 : f e M with
  | none =>
    rw [e1] at q
    cases q
  | some p =>
    obtain ⟨r, M1⟩ := p
    rw [e1] at q
    cases r with
    | err c => cases q
    | ok x =>
      simp only at q
      cases e2 : g e M1 with
      | none =>
        rw [e2] at q
        cases q
      | some p2 =>
        obtain ⟨r2, M2⟩ := p2
        rw [e2] at q
        cases r2 with
        | err c => cases q
        | ok xs =>
          cases q
          exact congrArg (· + 1) (h _ _ _ _ e2)
def dCall (df : DF) (g : DA) : DE := fun e => bnd (g e) df
section
variable {X : Cx} {W : Wi} {K : PySem.W.Frag} {CX : CXT} {k : Nat} {f : Addr} {fd : FuncData} {ps : List Str} {df : DF} {x : Str} {p pos : Pos} {e : Expr} {es : List Expr} {g : DA}
theorem Run.wish {α : Type} {W' : Wi} {bs : List Addr} {F H : Hp} {σ σ' : L2.St} {r : Option (Rs α × MS)} {q : QT α} (h : Run K W bs F H σ r q) (hw : ∀ c H', W c σ H' → W' c σ' H') : Run K W' bs F H σ' r q := by
  match r, h with
  | some (.ok a, M'), h => exact h
  | some (.err c, M'), h => exact fun bs' F' H' t w => hw c H' (h bs' F' H' t w)
/-- a call of a def that lets nothing out -/
theorem ze_call {n : Nat} (G : FnOk X.prog X.w X.K X.mg X.base CX0 k f fd ps (spZ X.K wf0 n df)) (hr : Room k X.A) (hg : Gl X x) (hm : X.mg x = some (.ref f)) (hk : PySem.W.keepIn X.K (.ref f) = true) (hb : Binds X.K fd ps [])
    (ha : ZA X W0 (e :: es) g) (hn : LenA g n) (hdb : (x == ("__debug__" : Str)) = false := by decide) (he : starEach (e :: es) X.env = (false, eval e X.env) :: starEach es X.env := by rfl) (hpl : (backTo pos (starEach es X.env)).any (·.1) = false := by rfl) :
    ZE X W0 (.Call (.Name x p) (e :: es) [] pos) (dCall df g) :=
  ⟨fun pins s σ H Q I h => (pe_call (E := E0) G hr hg hm hk hb .nil pass0 ha hdb he hpl).run pins s σ H Q I (by
    obtain ⟨bs, M, F, ev, at0, run⟩ := h
    have rb := run.bind
    refine ⟨bs, M, F, ev, at0, ?_⟩
    match e1 : g ev M, rb with
    | some (.ok ds, M1), rb =>
      intro bs1 F1 H1 t1 w1 vs r1
      rw [List.append_nil]
      exact ⟨bs1, M1, F1, ds, w1, r1, hn _ _ _ _ e1, (rb bs1 F1 H1 t1 w1).wish fun c H' z => z.elim⟩
    | some (.err c, M1), rb => exact rb)⟩
end
end Z

/-! Z3: operators, comparisons, subscripts, slices, built-ins by values -/
namespace Z
open PySem PySem.Spec PyProof.Rows L2
variable [Tbs]

/-! ### equality of data -/
def okN : Nat → D → Bool
  | _, .non => true
  | _, .bl _ => true
  | _, .int _ => true
  | _, .str x => PyData.strOk x
  | n + 1, .tup xs => xs.all (okN n)
  | n + 1, .lst xs => xs.all (okN n)
  | _, _ => false
def eqL (f : D → D → Bool) : List D → List D → Bool
  | [], [] => true
  | x :: xs, y :: ys => f x y && eqL f xs ys
  | _, _ => false
def eqN : Nat → D → D → Bool
  | _, .non, .non => true
  | _, .bl a, .bl b => a == b
  | _, .bl a, .int j => (if a then 1 else 0) == j
  | _, .int i, .bl b => i == (if b then 1 else 0)
  | _, .int i, .int j => i == j
  | _, .str x, .str y => x == y
  | n + 1, .lst xs, .lst ys => eqL (eqN n) xs ys
  | n + 1, .tup xs, .tup ys => eqL (eqN n) xs ys
  | _, _, _ => false
mutual
def toP : D → PyData
  | .non => .none
  | .bl b => .bool b
  | .int i => .int i
  | .str x => .str x
  | .tup xs => .tuple (toPs xs)
  | .lst xs => .list (toPs xs)
  | .dct _ _ => .none
  | .scr _ => .none
  | .obj _ => .none
  | .con _ => .none
def toPs : List D → List PyData
  | [] => []
  | x :: xs => toP x :: toPs xs
end
theorem depthAll_le {n : Nat} : ∀ {xs : List D}, (∀ x ∈ xs, (toP x).depth ≤ n) → PyData.depthAll (toPs xs) ≤ n
  | [], _ => by simp [toPs, PyData.depthAll]
  | x :: xs, h => by
    have h1 := h x (by simp)
    have h2 := depthAll_le (xs := xs) fun y hy => h y (by simp [hy])
    simp only [toPs, PyData.depthAll]
    omega
theorem canLayAll_of : ∀ {xs : List D}, (∀ x ∈ xs, (toP x).canLay0 = true) → PyData.canLayAll0 (toPs xs) = true
  | [], _ => by simp [toPs, PyData.canLayAll0]
  | x :: xs, h => by
    simp only [toPs, PyData.canLayAll0, h x (by simp), canLayAll_of (xs := xs) fun y hy => h y (by simp [hy]), Bool.and_self]
theorem okN_lay : ∀ (n : Nat) (d : D), okN n d = true → (toP d).canLay0 = true ∧ (toP d).depth ≤ n
  | n, .non, _ => by simp [toP, PyData.canLay0, PyData.depth]
  | n, .bl b, _ => by simp [toP, PyData.canLay0, PyData.depth]
  | n, .int i, _ => by simp [toP, PyData.canLay0, PyData.depth]
  | n, .str x, h => by
    have h' : PyData.strOk x = true := by
      cases n <;> simpa [okN] using h
    simp [toP, PyData.canLay0, PyData.depth, h']
  | 0, .tup xs, h => by simp [okN] at h
  | 0, .lst xs, h => by simp [okN] at h
  | n + 1, .tup xs, h => by
    have h' : ∀ x ∈ xs, okN n x = true := by simpa [okN, List.all_eq_true] using h
    have q : ∀ x ∈ xs, (toP x).canLay0 = true ∧ (toP x).depth ≤ n := fun x hx => okN_lay n x (h' x hx)
    have c := canLayAll_of fun x hx => (q x hx).1
    have d := depthAll_le fun x hx => (q x hx).2
    simp only [toP, PyData.canLay0, PyData.depth]
    exact ⟨c, by omega⟩
  | n + 1, .lst xs, h => by
    have h' : ∀ x ∈ xs, okN n x = true := by simpa [okN, List.all_eq_true] using h
    have q : ∀ x ∈ xs, (toP x).canLay0 = true ∧ (toP x).depth ≤ n := fun x hx => okN_lay n x (h' x hx)
    have c := canLayAll_of fun x hx => (q x hx).1
    have d := depthAll_le fun x hx => (q x hx).2
    simp only [toP, PyData.canLay0, PyData.depth]
    exact ⟨c, by omega⟩
  | n, .dct _ _, h => by cases n <;> simp [okN] at h
  | n, .scr _, h => by cases n <;> simp [okN] at h
  | n, .obj _, h => by cases n <;> simp [okN] at h
  | n, .con _, h => by cases n <;> simp [okN] at h
theorem eqL_eqv {n : Nat} (ih : ∀ a b, okN n a = true → okN n b = true → PyData.eqv (toP a) (toP b) = eqN n a b) : ∀ (xs ys : List D), (∀ x ∈ xs, okN n x = true) → (∀ y ∈ ys, okN n y = true) → PyData.eqvAll (toPs xs) (toPs ys) = eqL (eqN n) xs ys
  | [], [], _, _ => by simp [toPs, PyData.eqvAll, eqL]
  | [], y :: ys, _, _ => by simp [toPs, PyData.eqvAll, eqL]
  | x :: xs, [], _, _ => by simp [toPs, PyData.eqvAll, eqL]
  | x :: xs, y :: ys, h1, h2 => by
    simp only [toPs, PyData.eqvAll, eqL, ih x y (h1 x (by simp)) (h2 y (by simp)), eqL_eqv ih xs ys (fun z hz => h1 z (by simp [hz])) fun z hz => h2 z (by simp [hz])]
theorem okN_all {n : Nat} {xs : List D} (h : okN (n + 1) (.tup xs) = true ∨ okN (n + 1) (.lst xs) = true) : ∀ x ∈ xs, okN n x = true := by
  rcases h with h | h <;> simpa [okN, List.all_eq_true] using h
theorem okN_bad {n : Nat} : (∀ ks ds, okN n (.dct ks ds) = false) ∧ (∀ ns, okN n (.scr ns) = false) ∧ (∀ i, okN n (.obj i) = false) ∧ (∀ i, okN n (.con i) = false) := by
  cases n <;> exact ⟨fun _ _ => by simp [okN], fun _ => by simp [okN], fun _ => by simp [okN], fun _ => by simp [okN]⟩
theorem eqN_eqv : ∀ (n : Nat) (a b : D), okN n a = true → okN n b = true → PyData.eqv (toP a) (toP b) = eqN n a b := by
  intro n
  induction n with
  | zero =>
    intro a b h1 h2
    cases a <;> cases b <;> first | (simp [okN] at h1; done) | (simp [okN] at h2; done) | simp [toP, PyData.eqv, eqN]
  | succ n ih =>
    intro a b h1 h2
    cases a <;> cases b <;> first
      | (simp [okN] at h1; done)
      | (simp [okN] at h2; done)
      | (simp only [toP, PyData.eqv, eqN]; exact eqL_eqv ih _ _ (okN_all (.inl h1)) (okN_all (.inl h2)))
      | (simp only [toP, PyData.eqv, eqN]; exact eqL_eqv ih _ _ (okN_all (.inr h1)) (okN_all (.inr h2)))
      | simp [toP, PyData.eqv, eqN]
section
variable {K : PySem.W.Frag} {bs : List Addr} {F H : Hp}
theorem Rep.sub_tup {a : Addr} {xs : List V} (s : Same F H) (h : F a = some (.tup xs)) : SqT K H a xs := .inl (.inl (s _ _ h))
mutual
theorem Rep.dp {n : Nat} (s : Same F H) : ∀ {v : V} {d : D}, Rep K bs F v d → okN n d = true → Dp K H v (toP d)
  | _, _, .non, _ => by simp only [toP]; exact .non
  | _, _, .bl b, _ => by simp only [toP]; exact .bl b
  | _, _, .int i, _ => by simp only [toP]; exact .int i
  | _, _, .str x, _ => by simp only [toP]; exact .str x
  | _, _, .tup h r, k => by
    cases n with
    | zero => simp [okN] at k
    | succ n =>
      simp only [toP]
      exact .tup (.inl (.inl (s _ _ h))) (Reps.dp s r (okN_all (.inl k)))
  | _, _, .lst h r, k => by
    cases n with
    | zero => simp [okN] at k
    | succ n =>
      simp only [toP]
      exact .lst (.inl (.inl (s _ _ h))) (Reps.dp s r (okN_all (.inr k)))
  | _, _, .dct _ _ _, k => by rw [okN_bad.1] at k; cases k
  | _, _, .scr _, k => by rw [okN_bad.2.1] at k; cases k
  | _, _, .obj _, k => by rw [okN_bad.2.2.1] at k; cases k
  | _, _, .con _ _ _, k => by rw [okN_bad.2.2.2] at k; cases k
theorem Reps.dp {n : Nat} (s : Same F H) : ∀ {vs : List V} {ds : List D}, Reps K bs F vs ds → (∀ x ∈ ds, okN n x = true) → DpAll K H vs (toPs ds)
  | _, _, .nil, _ => by simp only [toPs]; exact .nil
  | _, _, .cons r t, k => by
    simp only [toPs]
    exact .cons (Rep.dp s r (k _ (by simp))) (Reps.dp s t fun x hx => k x (by simp [hx]))
end
end
def eqD : F2 := fun c d _ => if (okN 8 c && okN 8 d) = true then some (.bl (eqN 8 c d)) else none
def neD : F2 := fun c d _ => if (okN 8 c && okN 8 d) = true then some (.bl (!eqN 8 c d)) else none
section
variable {K : PySem.W.Frag} {X : Cx}
theorem shaped_of {d : D} (h : okN 8 d = true) : SeqAt.shaped (toP d) = true := by
  obtain ⟨h1, h2⟩ := okN_lay 8 d h
  unfold SeqAt.shaped
  rw [h1, Bool.true_and]
  exact decide_eq_true (by omega)
theorem z_eqD : OpZ K (rEqD K) eqD := by
  intro bs M F H x y c d z Q w r1 r2 ez q
  unfold eqD at ez
  split at ez
  · rename_i h
    obtain ⟨h1, h2⟩ := Bool.and_eq_true_iff.mp h
    cases ez
    exact ⟨toP c, toP d, r1.dp w.sub h1, r2.dp w.sub h2, shaped_of h1, shaped_of h2, by rw [eqN_eqv 8 c d h1 h2]; exact q _ bs F H (Tr.refl _ _ _) w (.bl _)⟩
  · cases ez
theorem z_neD : OpZ K (rNeD K) neD := by
  intro bs M F H x y c d z Q w r1 r2 ez q
  unfold neD at ez
  split at ez
  · rename_i h
    obtain ⟨h1, h2⟩ := Bool.and_eq_true_iff.mp h
    cases ez
    exact ⟨toP c, toP d, r1.dp w.sub h1, r2.dp w.sub h2, shaped_of h1, shaped_of h2, by rw [eqN_eqv 8 c d h1 h2]; exact q _ bs F H (Tr.refl _ _ _) w (.bl _)⟩
  · cases ez
end

/-! ### whole numbers -/
def i2 (C : Int → Int → Bool) (g : Int → Int → D) : F2 := fun c d _ => match c, d with
  | .int i, .int j => if C i j = true then some (g i j) else none
  | _, _ => none
section
variable {K : PySem.W.Frag} {X : Cx}
theorem z_i2 {C : Int → Int → Prop} {Cb : Int → Int → Bool} {g : Int → Int → V} {g' : Int → Int → D} (hc : ∀ i j, Cb i j = true → C i j) (hg : ∀ i j bs F, Rep K bs F (g i j) (g' i j)) : OpZ K (rI C g) (i2 Cb g') := by
  intro bs M F H x y c d z Q w r1 r2 ez q
  unfold i2 at ez
  split at ez
  · rename_i i j
    split at ez
    · rename_i hcb
      cases ez
      cases r1
      cases r2
      exact ⟨i, j, rfl, rfl, hc _ _ hcb, q _ bs F H (Tr.refl _ _ _) w (hg _ _ _ _)⟩
    · cases ez
  · cases ez
theorem z_i20 {g : Int → Int → V} {g' : Int → Int → D} (hg : ∀ i j bs F, Rep K bs F (g i j) (g' i j)) : OpZ K (rI0 g) (i2 (fun _ _ => true) g') := by
  intro bs M F H x y c d z Q w r1 r2 ez q
  unfold i2 at ez
  split at ez
  · rename_i i j
    simp only [if_true] at ez
    cases ez
    cases r1
    cases r2
    exact ⟨i, j, rfl, rfl, q _ bs F H (Tr.refl _ _ _) w (hg _ _ _ _)⟩
  · cases ez
abbrev subD : F2 := i2 (fun _ _ => true) fun i j => .int (i - j)
abbrev ltD : F2 := i2 (fun _ _ => true) fun i j => .bl (decide (i < j))
abbrev leD : F2 := i2 (fun _ _ => true) fun i j => .bl (decide (i ≤ j))
abbrev gtD : F2 := i2 (fun _ _ => true) fun i j => .bl (decide (j < i))
abbrev geD : F2 := i2 (fun _ _ => true) fun i j => .bl (decide (j ≤ i))
abbrev divD : F2 := i2 (fun _ j => decide (0 < j) && decide (j < 1073741824)) fun i j => .int (i / j)
abbrev modD : F2 := i2 (fun _ j => decide (0 < j)) fun i j => .int (i % j)
abbrev powD : F2 := i2 (fun i j => decide (0 ≤ j) && decide (j ≤ 1000000) && decide (i.natAbs < 18446744073709551616)) fun i j => .int (i ^ j.toNat)
theorem z_sub : OpZ K (rI0 fun i j => .int (i - j)) subD := z_i20 fun _ _ _ _ => .int _
theorem z_lt : OpZ K (rI0 fun i j => .bl (decide (i < j))) ltD := z_i20 fun _ _ _ _ => .bl _
theorem z_le : OpZ K (rI0 fun i j => .bl (decide (i ≤ j))) leD := z_i20 fun _ _ _ _ => .bl _
theorem z_gt : OpZ K (rI0 fun i j => .bl (decide (j < i))) gtD := z_i20 fun _ _ _ _ => .bl _
theorem z_ge : OpZ K (rI0 fun i j => .bl (decide (j ≤ i))) geD := z_i20 fun _ _ _ _ => .bl _
theorem z_div : OpZ K (rI CDiv fun i j => .int (i / j)) divD := z_i2 (fun i j h => by
  simp only [Bool.and_eq_true, decide_eq_true_eq] at h
  exact h) fun _ _ _ _ => .int _
theorem z_mod : OpZ K (rI (fun _ j => 0 < j) fun i j => .int (i % j)) modD := z_i2 (fun i j h => of_decide_eq_true h) fun _ _ _ _ => .int _
theorem z_pow : OpZ K (rI CPow fun i j => .int (i ^ j.toNat)) powD := z_i2 (fun i j h => by
  simp only [Bool.and_eq_true, decide_eq_true_eq] at h
  exact ⟨h.1.1, h.1.2, by have := h.2; omega⟩) fun _ _ _ _ => .int _

/-! ### + and * -/
def catT : F2 := fun c d _ => match c, d with
  | .tup xs, .tup ys => if xs.length + ys.length ≤ 100000 then some (.tup (xs ++ ys)) else none
  | _, _ => none
def catL : F2 := fun c d _ => match c, d with
  | .lst xs, .lst ys => if xs.length + ys.length ≤ 100000 then some (.lst (xs ++ ys)) else none
  | _, _ => none
theorem z_catT : OpZ K (rCatA K) catT := by
  intro bs M F H x y c d z Q w r1 r2 ez q
  unfold catT at ez
  split at ez
  · rename_i xs ys
    split at ez
    · rename_i hl
      cases ez
      cases r1 with
      | @tup a vs _ h1 s1 =>
        cases r2 with
        | @tup b us _ h2 s2 =>
          refine ⟨a, b, vs, us, rfl, rfl, .inl (.inl (w.sub _ _ h1)), .inl (.inl (w.sub _ _ h2)), by rw [s1.length, s2.length]; exact small_ok hl, fun e => ?_, fun _ e => ?_, fun _ _ p hp => ?_⟩
          · subst e
            cases s1
            exact q _ bs F H (Tr.refl _ _ _) w (.tup h2 s2)
          · subst e
            cases s2
            rw [List.append_nil] at q
            exact q _ bs F H (Tr.refl _ _ _) w (.tup h1 s1)
          · obtain ⟨w2, t2⟩ := w.laid (.tup (vs ++ us)) hp
            exact q _ _ _ _ t2 w2 (.tup upd_same ((s1.append s2).tr t2))
    · cases ez
  · cases ez
theorem z_catL : OpZ K rCat catL := by
  intro bs M F H x y c d z Q w r1 r2 ez q
  unfold catL at ez
  split at ez
  · rename_i xs ys
    split at ez
    · rename_i hl
      cases ez
      cases r1 with
      | @lst a vs _ h1 s1 =>
        cases r2 with
        | @lst b us _ h2 s2 =>
          refine ⟨a, b, vs, us, rfl, rfl, w.sub _ _ h1, w.sub _ _ h2, by rw [s1.length, s2.length]; exact small_ok hl, fun p hp => ?_⟩
          obtain ⟨w2, t2⟩ := w.laid (.lst (vs ++ us)) hp
          exact q _ _ _ _ t2 w2 (.lst upd_same ((s1.append s2).tr t2))
    · cases ez
  · cases ez
def addD : F2 := fun c d _ => match c, d with
  | .int i, .int j => some (.int (i + j))
  | .tup xs, .tup ys => if xs.length + ys.length ≤ 100000 then some (.tup (xs ++ ys)) else none
  | .lst xs, .lst ys => if xs.length + ys.length ≤ 100000 then some (.lst (xs ++ ys)) else none
  | _, _ => none
theorem z_add : OpZ K (fun x y H Q => rI0 (fun i j => .int (i + j)) x y H Q ∨ (rCatA K x y H Q ∨ rCat x y H Q)) addD :=
  ((z_i20 (g' := fun i j => D.int (i + j)) fun _ _ _ _ => .int _).or (z_catT.or z_catL)).imp fun c d M z h => by
    unfold addD at h
    unfold i2 catT catL
    split at h
    · simpa using h
    · simp only
      rw [h]
    · simp only
      exact h
    · cases h
theorem op_addZ : OpR X (binaryOp .Add) (fun x y H Q => rI0 (fun i j => .int (i + j)) x y H Q ∨ (rCatA X.K x y H Q ∨ rCat x y H Q)) := op_add.or (op_catA.or op_cat)
def rep (k : Nat) (xs : List D) : List D := (List.replicate k xs).flatten
theorem Reps.rep {bs : List Addr} {F : Hp} {vs : List V} {ds : List D} (r : Reps K bs F vs ds) : ∀ k : Nat, Reps K bs F (List.replicate k vs).flatten (Z.rep k ds)
  | 0 => .nil
  | k + 1 => by
    unfold Z.rep
    rw [List.replicate_succ, List.replicate_succ, List.flatten_cons, List.flatten_cons]
    exact r.append (Reps.rep r k)
def mulI : F2 := i2 (fun i j => decide (-18446744073709551616 < i) && decide (i < 18446744073709551616) || decide (-18446744073709551616 < j) && decide (j < 18446744073709551616)) fun i j => .int (i * j)
def mulL : F2 := fun c d _ => match c, d with
  | .lst xs, .int k => if (decide (-1000 ≤ k) && decide (k ≤ 1000) && decide (xs.length ≤ 1000)) = true then some (.lst (rep k.toNat xs)) else none
  | _, _ => none
theorem z_mulI : OpZ K (rI CMul fun i j => .int (i * j)) mulI := z_i2 (fun i j h => by
  simp only [Bool.and_eq_true, Bool.or_eq_true, decide_eq_true_eq] at h
  unfold CMul
  omega) fun _ _ _ _ => .int _
theorem z_mulL : OpZ K rRep mulL := by
  intro bs M F H x y c d z Q w r1 r2 ez q
  unfold mulL at ez
  split at ez
  · rename_i xs k
    split at ez
    · rename_i hl
      simp only [Bool.and_eq_true, decide_eq_true_eq] at hl
      cases ez
      cases r1 with
      | @lst a vs _ h1 s1 =>
        cases r2
        refine ⟨a, k, vs, rfl, rfl, w.sub _ _ h1, by omega, by omega, ?_, fun p hp => ?_⟩
        · rw [s1.length, sizeLine_eq]
          have : xs.length * k.toNat ≤ 1000 * 1000 := Nat.mul_le_mul hl.2 (by omega)
          omega
        · obtain ⟨w2, t2⟩ := w.laid (.lst (List.replicate k.toNat vs).flatten) hp
          exact q _ _ _ _ t2 w2 (.lst upd_same ((s1.rep _).tr t2))
    · cases ez
  · cases ez
def mulD : F2 := fun c d M => match mulI c d M with
  | some z => some z
  | none => mulL c d M
theorem z_mul : OpZ K (fun x y H Q => rI CMul (fun i j => .int (i * j)) x y H Q ∨ rRep x y H Q) mulD := z_mulI.or z_mulL
theorem op_mulZ : OpR X (binaryOp .Mult) (fun x y H Q => rI CMul (fun i j => .int (i * j)) x y H Q ∨ rRep x y H Q) := op_mul.or op_rep
end

/-! ### is, in, subscripts -/
def isNone : D → Bool
  | .non => true
  | _ => false
def isD : F2 := fun c d _ => match d with
  | .non => some (.bl (isNone c))
  | _ => none
def isnD : F2 := fun c d _ => match d with
  | .non => some (.bl (!isNone c))
  | _ => none
def isbD : F2 := fun c d _ => match c, d with
  | .bl a, .bl b => some (.bl (a == b))
  | _, _ => none
def isnbD : F2 := fun c d _ => match c, d with
  | .bl a, .bl b => some (.bl (!(a == b)))
  | _, _ => none
def flatD : D → Bool
  | .non => true
  | .bl _ => true
  | .int _ => true
  | .str _ => true
  | _ => false
def seqD : D → Option (List D)
  | .lst xs => some xs
  | .tup xs => some xs
  | _ => none
def inL (c : D) (xs : List D) : Bool := xs.any fun y => eqN 1 y c
def inD (neg : Bool) : F2 := fun c d _ => match seqD d with
  | some xs => if (flatD c && xs.all flatD) = true then some (.bl (if neg then !inL c xs else inL c xs)) else none
  | none => none
def atD (xs : List D) (i : Int) : Option D := atI xs i
def ixD : F2 := fun c d M => match c, d with
  | .lst xs, .int i => atI xs i
  | .tup xs, .int i => atI xs i
  | .obj k, .int i => match M[k]? with
    | some xs => atI xs i
    | none => none
  | _, _ => none
section
variable {K : PySem.W.Frag} {X : Cx} {bs : List Addr} {F H : Hp}
theorem Rep.isNone {v : V} {d : D} (r : Rep K bs F v d) : decide (v = V.non) = Z.isNone d := by
  cases r <;> first | rfl | exact decide_eq_false (fun z => by cases z)
theorem z_isN : OpZ K (fun x y H Q => y = .non ∧ Q (.bl (decide (x = .non))) H) isD := by
  intro bs M F H x y c d z Q w r1 r2 ez q
  unfold isD at ez
  split at ez
  · cases ez
    cases r2
    exact ⟨rfl, by rw [r1.isNone]; exact q _ bs F H (Tr.refl _ _ _) w (.bl _)⟩
  · cases ez
theorem z_notN : OpZ K (fun x y H Q => y = .non ∧ Q (.bl (!decide (x = .non))) H) isnD := by
  intro bs M F H x y c d z Q w r1 r2 ez q
  unfold isnD at ez
  split at ez
  · cases ez
    cases r2
    exact ⟨rfl, by rw [r1.isNone]; exact q _ bs F H (Tr.refl _ _ _) w (.bl _)⟩
  · cases ez
theorem z_isB : OpZ K rIsB isbD := by
  intro bs M F H x y c d z Q w r1 r2 ez q
  unfold isbD at ez
  split at ez
  · cases ez
    cases r1
    cases r2
    exact ⟨_, _, rfl, rfl, by rw [← Bool.beq_eq_decide_eq]; exact q _ bs F H (Tr.refl _ _ _) w (.bl _)⟩
  · cases ez
theorem z_notB : OpZ K rNotB isnbD := by
  intro bs M F H x y c d z Q w r1 r2 ez q
  unfold isnbD at ez
  split at ez
  · cases ez
    cases r1
    cases r2
    exact ⟨_, _, rfl, rfl, by rw [← Bool.beq_eq_decide_eq]; exact q _ bs F H (Tr.refl _ _ _) w (.bl _)⟩
  · cases ez
theorem Rep.flat {v : V} {d : D} (r : Rep K bs F v d) (h : flatD d = true) : flatV v = true := by
  cases r <;> first | rfl | (simp [flatD] at h; done)
theorem Reps.flat : ∀ {vs : List V} {ds : List D}, Reps K bs F vs ds → ds.all flatD = true → vs.all flatV = true
  | _, _, .nil, _ => rfl
  | _, _, .cons r t, h => by
    rw [List.all_cons, Bool.and_eq_true] at h ⊢
    exact ⟨r.flat h.1, t.flat h.2⟩
theorem Rep.eqV {v w : V} {d e : D} (r : Rep K bs F v d) (s : Rep K bs F w e) (h : flatD d = true) (k : flatD e = true) : L2.eqV v w = eqN 1 d e := by
  cases r <;> cases s <;> first | (simp [flatD] at h; done) | (simp [flatD] at k; done) | simp [L2.eqV, eqN]
theorem Reps.inV {x : V} {c : D} (r : Rep K bs F x c) (h : flatD c = true) : ∀ {vs : List V} {ds : List D}, Reps K bs F vs ds → ds.all flatD = true → L2.inV x vs = inL c ds
  | _, _, .nil, _ => rfl
  | _, _, .cons s t, k => by
    rw [List.all_cons, Bool.and_eq_true] at k
    have ih := Reps.inV r h t k.2
    unfold L2.inV inL at *
    rw [List.any_cons, List.any_cons, ih, s.eqV r k.1 h]
theorem z_in {neg : Bool} : OpZ K (rIn K neg) (inD neg) := by
  intro bs M F H x y c d z Q w r1 r2 ez q
  unfold inD at ez
  cases e : seqD d with
  | none =>
    rw [e] at ez
    cases ez
  | some xs =>
    rw [e] at ez
    simp only at ez
    split at ez
    · rename_i hf
      obtain ⟨h1, h2⟩ := Bool.and_eq_true_iff.mp hf
      cases ez
      have fin : ∀ {a : Addr} {vs : List V}, y = .ref a → (SqL K H a vs ∨ SqT K H a vs) → Reps K bs F vs xs → rIn K neg x y H Q := fun {a vs} ey hs s => by
        refine ⟨a, vs, ey, hs, r1.flat h1, s.flat h2, ?_⟩
        rw [Reps.inV r1 h1 s h2]
        exact q _ bs F H (Tr.refl _ _ _) w (.bl _)
      cases r2 with
      | lst h s =>
        cases e
        exact fin rfl (.inl (.inl (.inl (w.sub _ _ h)))) s
      | tup h s =>
        cases e
        exact fin rfl (.inr (.inl (.inl (w.sub _ _ h)))) s
      | _ => cases e
    · cases ez
theorem atI_rep {vs : List V} {ds : List D} (s : Reps K bs F vs ds) {i : Int} {z : D} (h : atI ds i = some z) : ∃ v, atI vs i = some v ∧ Rep K bs F v z := by
  unfold atI at h ⊢
  rw [s.length]
  cases e : ixN ds.length i with
  | none =>
    rw [e] at h
    cases h
  | some j =>
    rw [e] at h
    exact s.get (i := j) h
theorem z_ix : OpZ K (rIx K) ixD := by
  intro bs M F H x y c d z Q w r1 r2 ez q
  unfold ixD at ez
  split at ez
  · cases r1 with
    | lst h s =>
      cases r2
      obtain ⟨v, e, r⟩ := atI_rep s ez
      exact .inl ⟨_, _, _, v, rfl, rfl, .inl (.inl (w.sub _ _ h)), e, q _ bs F H (Tr.refl _ _ _) w r⟩
  · cases r1 with
    | tup h s =>
      cases r2
      obtain ⟨v, e, r⟩ := atI_rep s ez
      exact .inr (.inl ⟨_, _, _, v, rfl, rfl, .inl (.inl (w.sub _ _ h)), e, q _ bs F H (Tr.refl _ _ _) w r⟩)
  · rename_i k i
    cases r1 with
    | @obj _ b h =>
      cases r2
      cases e : M[k]? with
      | none =>
        rw [e] at ez
        cases ez
      | some xs =>
        rw [e] at ez
        obtain ⟨_, vs, e3, s⟩ := w.objs _ _ _ h e
        obtain ⟨v, e4, r⟩ := atI_rep s ez
        exact .inl ⟨_, _, _, v, rfl, rfl, .inl (.inl e3), e4, q _ bs F H (Tr.refl _ _ _) w r⟩
  · cases ez
end

/-! ### slices -/
abbrev DO := Ev → Mo (Option Int)
def dNoPart : DO := fun _ => ret none
def dPart (f : DE) : DO := fun e => bnd (f e) fun x => match x with
  | .int i => ret (some i)
  | _ => stuck
def qO (Q : Option Int → Hp → Prop) : QT (Option Int) := fun o _ _ _ H => Q o H
def liftO (K : PySem.W.Frag) (W : Wi) (f : DO) : TO := fun σ H Q => Lf K W f (qO Q) σ H
abbrev ZO (X : Cx) (W : Wi) (e : Option Expr) (f : DO) : Prop := PO X e (liftO X.K W f)
abbrev F3 := D → Option Int → Option Int → MS → Option D
def dSl (fo : F3) (f : DE) (gl gh : DO) : DE := fun e => bnd (f e) fun x => bnd (gl e) fun l => bnd (gh e) fun h => fun M => lft (fo x l h M) M
def SlZ (K : PySem.W.Frag) (r : V → Option Int → Option Int → Hp → VK → Prop) (fo : F3) : Prop :=
  ∀ (bs : List Addr) (M : MS) (F H : Hp) (x : V) (c : D) (lo hi : Option Int) (z : D) (Q : VK), Wd K bs M F H → Rep K bs F x c → fo c lo hi M = some z →
    (∀ v bs' F' H', Tr bs F H bs' F' H' → Wd K bs' M F' H' → Rep K bs' F' v z → Q v H') → r x lo hi H Q
def cutD (xs : List D) (lo hi : Option Int) : List D := (xs.drop (HT.sIx xs.length 0 lo)).take (HT.sIx xs.length xs.length hi - HT.sIx xs.length 0 lo)
def slD : F3 := fun c lo hi _ => match c with
  | .lst xs => some (.lst (cutD xs lo hi))
  | .tup xs => some (.tup (cutD xs lo hi))
  | .scr ns => some (.lst (cutD (ns.map .int) lo hi))
  | _ => none
section
variable {X : Cx} {W : Wi} {K : PySem.W.Frag} {bs : List Addr} {F H : Hp} {e : Expr} {f : DE} {pos p2 : Pos}
theorem zo_none : ZO X W none dNoPart := ⟨fun pins s σ H Q I h => po_none.run pins s σ H Q I (by
  obtain ⟨bs, M, F, e, at0, run⟩ := h
  have z : qO Q none bs M F H := Run.here at0.1 run
  exact z)⟩
theorem zo_some (h : ZE X W e f) : ZO X W (some e) (dPart f) := ⟨fun pins s σ H Q I q => (po_some h).run pins s σ H Q I (by
  obtain ⟨bs, M, F, e, at0, run⟩ := q
  refine ⟨bs, M, F, e, at0, run.bind.imp fun x bs1 M1 F1 H1 t1 w1 run1 v1 r1 => ?_⟩
  cases x with
  | int i =>
    cases r1
    have z : qO Q (some i) bs1 M1 F1 H1 := Run.here w1 run1
    exact ⟨i, rfl, z⟩
  | _ => exact run1.elim)⟩
theorem Reps.cut {vs : List V} {ds : List D} (s : Reps K bs F vs ds) (lo hi : Option Int) : Reps K bs F (cutV vs lo hi) (cutD ds lo hi) := by
  unfold cutV cutD
  rw [s.length]
  exact (s.drop _).take _
theorem cutD_whole {xs : List D} {lo hi : Option Int} (h : HT.sIx xs.length 0 lo = 0 ∧ HT.sIx xs.length xs.length hi = xs.length) : cutD xs lo hi = xs := by
  unfold cutD
  rw [h.1, h.2, List.drop_zero, Nat.sub_zero, List.take_length]
theorem z_sl : SlZ K (fun x lo hi H Q => rSlL K x lo hi H Q ∨ rSlA K x lo hi H Q) slD := by
  intro bs M F H x c lo hi z Q w r1 ez q
  unfold slD at ez
  split at ez
  · cases ez
    cases r1 with
    | @lst a vs _ h s =>
      refine .inl ⟨a, vs, rfl, .inl (.inl (w.sub _ _ h)), fun p hp => ?_⟩
      obtain ⟨w2, t2⟩ := w.laid (.lst (cutV vs lo hi)) hp
      exact q _ _ _ _ t2 w2 (.lst upd_same ((s.cut lo hi).tr t2))
  · cases ez
    cases r1 with
    | @tup a vs _ h s =>
      refine .inr ⟨a, vs, rfl, .inl (.inl (w.sub _ _ h)), fun e => ?_, fun _ p hp => ?_⟩
      · rw [s.length] at e
        rw [cutD_whole e] at q
        exact q _ bs F H (Tr.refl _ _ _) w (.tup h s)
      · obtain ⟨w2, t2⟩ := w.laid (.tup (cutV vs lo hi)) hp
        exact q _ _ _ _ t2 w2 (.tup upd_same ((s.cut lo hi).tr t2))
  · rename_i ns
    cases ez
    cases r1 with
    | @scr a _ h =>
      refine .inl ⟨a, _, rfl, w.sub.seq h, fun p hp => ?_⟩
      obtain ⟨w2, t2⟩ := w.laid (.lst (cutV (ns.map V.int) lo hi)) hp
      exact q _ _ _ _ t2 w2 (.lst upd_same (((Reps.of_ints ns).cut lo hi).tr t2))
  · cases ez
theorem sl_Z : SlR X (fun x lo hi H Q => rSlL X.K x lo hi H Q ∨ rSlA X.K x lo hi H Q) := sl_list.or sl_tupA
theorem ze_slice {lo hi : Option Expr} {gl gh : DO} (hf : ZE X W e f) (hl : ZO X W lo gl) (hh : ZO X W hi gh) : ZE X W (.Subscript e (.Slice lo hi none p2) pos) (dSl slD f gl gh) :=
  ⟨fun pins s σ H Q I h => (pe_slice sl_Z hf hl hh).run pins s σ H Q I (by
    obtain ⟨bs, M, F, e, at0, run⟩ := h
    refine ⟨bs, M, F, e, at0, run.bind.imp fun x bs1 M1 F1 H1 t1 w1 run1 v1 r1 => ?_⟩
    refine ⟨bs1, M1, F1, e, at0.tr t1 w1, run1.bind.imp fun l bs2 M2 F2 H2 t2 w2 run2 => ?_⟩
    refine ⟨bs2, M2, F2, e, (at0.tr t1 w1).tr t2 w2, run2.bind.imp fun u bs3 M3 F3 H3 t3 w3 run3 => ?_⟩
    obtain ⟨z, ez, k⟩ := run3.of_lft
    exact z_sl bs3 M3 F3 H3 v1 x l u z Q w3 (r1.tr (t2.trans t3)) ez fun v bs' F' H' t w r => k bs' F' H' t w v r)⟩
/-- xs[::-1] of a list -/
def dRevL (f : DE) : DE := fun e => bnd (f e) fun x => match x with
  | .lst xs => ret (.lst xs.reverse)
  | _ => stuck
theorem ze_revL {k : Nat} {p1 p2 p3 pos : Pos} (hf : ZE X W e f) : ZE X W (.Subscript e (.Slice none none (some (.UnaryOp .USub (.Constant (.int 1) k p1) p2)) p3) pos) (dRevL f) :=
  ⟨fun pins s σ H Q I h => (pe_revL hf).run pins s σ H Q I (by
    obtain ⟨bs, M, F, e, at0, run⟩ := h
    refine ⟨bs, M, F, e, at0, run.bind.imp fun x bs1 M1 F1 H1 t1 w1 run1 v1 r1 => ?_⟩
    cases x with
    | lst xs =>
      cases r1 with
      | @lst a vs _ h s =>
        refine ⟨a, vs, rfl, .inl (.inl (w1.sub _ _ h)), fun p hp => ?_⟩
        obtain ⟨w2, t2⟩ := w1.laid (.lst vs.reverse) hp
        exact run1.ok _ _ _ t2 w2 _ (.lst upd_same (s.reverse.tr t2))
    | _ => exact run1.elim)⟩
end

/-! ### built-ins -/
def len1 : F1 := fun ds M => match ds with
  | [.lst xs] => some (.int xs.length)
  | [.tup xs] => some (.int xs.length)
  | [.obj i] => M[i]?.map fun xs => .int xs.length
  | _ => none
def max2 : F1 := fun ds _ => match ds with
  | [.int i, .int j] => some (.int (if j > i then j else i))
  | _ => none
def min2 : F1 := fun ds _ => match ds with
  | [.int i, .int j] => some (.int (if j < i then j else i))
  | _ => none
def intsOf : List D → Option (List Int)
  | [] => some []
  | .int i :: r => (intsOf r).map (i :: ·)
  | _ => none
def blsOf : List D → Option (List Bool)
  | [] => some []
  | .bl b :: r => (blsOf r).map (b :: ·)
  | _ => none
theorem intsOf_map {ds : List D} {ns : List Int} (h : intsOf ds = some ns) : ds = ns.map D.int := by
  induction ds generalizing ns with
  | nil =>
    cases h
    rfl
  | cons d r ih =>
    cases d with
    | int i =>
      unfold intsOf at h
      cases e : intsOf r with
      | none =>
        rw [e] at h
        cases h
      | some ms =>
        rw [e] at h
        cases h
        rw [ih e]
        rfl
    | _ => cases h
theorem intsOf_ints (ns : List Int) : intsOf (ns.map D.int) = some ns := by
  induction ns with
  | nil => rfl
  | cons n r ih =>
    show (intsOf (r.map D.int)).map (n :: ·) = some (n :: r)
    rw [ih]
    rfl
theorem blsOf_map {ds : List D} {ns : List Bool} (h : blsOf ds = some ns) : ds = ns.map D.bl := by
  induction ds generalizing ns with
  | nil =>
    cases h
    rfl
  | cons d r ih =>
    cases d with
    | bl i =>
      unfold blsOf at h
      cases e : blsOf r with
      | none =>
        rw [e] at h
        cases h
      | some ms =>
        rw [e] at h
        cases h
        rw [ih e]
        rfl
    | _ => cases h
theorem blsOf_bls (ns : List Bool) : blsOf (ns.map D.bl) = some ns := by
  induction ns with
  | nil => rfl
  | cons n r ih =>
    show (blsOf (r.map D.bl)).map (n :: ·) = some (n :: r)
    rw [ih]
    rfl
theorem Reps.bls {K : PySem.W.Frag} {bs : List Addr} {F : Hp} : ∀ {vs : List V} {ns : List Bool}, Reps K bs F vs (ns.map D.bl) → vs = ns.map V.bl
  | vs, [], h => by
    cases h
    rfl
  | vs, n :: ns, h => by
    cases h with
    | cons r t =>
      cases r
      rw [Reps.bls t]
      rfl
def sum1 : F1 := fun ds _ => match ds with
  | [.lst xs] => (intsOf xs).map fun ns => .int ns.sum
  | _ => none
def sumT1 : F1 := fun ds _ => match ds with
  | [.tup xs] => (intsOf xs).map fun ns => .int ns.sum
  | _ => none
def all1 : F1 := fun ds _ => match ds with
  | [.lst xs] => (blsOf xs).map fun ns => .bl (ns.all id)
  | _ => none
def maxL : List Int → Option Int
  | [] => none
  | [x] => some x
  | x :: r => (maxL r).map fun m => if m > x then m else x
def minL : List Int → Option Int
  | [] => none
  | [x] => some x
  | x :: r => (minL r).map fun m => if m < x then m else x
def maxL1 : F1 := fun ds _ => match ds with
  | [.lst xs] => ((intsOf xs).bind maxL).map .int
  | _ => none
def minL1 : F1 := fun ds _ => match ds with
  | [.lst xs] => ((intsOf xs).bind minL).map .int
  | _ => none
theorem maxL_spec : ∀ {l : List Int} {m : Int}, maxL l = some m → m ∈ l ∧ ∀ y ∈ l, y ≤ m
  | [], _, h => by cases h
  | [x], m, h => by
    cases h
    simp
  | x :: y :: r, m, h => by
    unfold maxL at h
    cases e : maxL (y :: r) with
    | none =>
      rw [e] at h
      cases h
    | some k =>
      rw [e] at h
      obtain ⟨h1, h2⟩ := maxL_spec e
      simp only [Option.map_some, Option.some.injEq] at h
      subst h
      split
      · refine ⟨List.mem_cons_of_mem _ h1, fun z hz => ?_⟩
        rcases List.mem_cons.mp hz with q | q
        · omega
        · exact h2 z q
      · refine ⟨List.mem_cons_self, fun z hz => ?_⟩
        rcases List.mem_cons.mp hz with q | q
        · omega
        · have := h2 z q
          omega
theorem minL_spec : ∀ {l : List Int} {m : Int}, minL l = some m → m ∈ l ∧ ∀ y ∈ l, m ≤ y
  | [], _, h => by cases h
  | [x], m, h => by
    cases h
    simp
  | x :: y :: r, m, h => by
    unfold minL at h
    cases e : minL (y :: r) with
    | none =>
      rw [e] at h
      cases h
    | some k =>
      rw [e] at h
      obtain ⟨h1, h2⟩ := minL_spec e
      simp only [Option.map_some, Option.some.injEq] at h
      subst h
      split
      · refine ⟨List.mem_cons_of_mem _ h1, fun z hz => ?_⟩
        rcases List.mem_cons.mp hz with q | q
        · omega
        · exact h2 z q
      · refine ⟨List.mem_cons_self, fun z hz => ?_⟩
        rcases List.mem_cons.mp hz with q | q
        · omega
        · have := h2 z q
          omega
def insI (x : Int) : List Int → List Int
  | [] => [x]
  | y :: r => if x ≤ y then x :: y :: r else y :: insI x r
def sortI : List Int → List Int
  | [] => []
  | x :: r => insI x (sortI r)
theorem insI_perm (x : Int) : ∀ l, (insI x l).Perm (x :: l)
  | [] => .refl _
  | y :: r => by
    unfold insI
    split
    · exact .refl _
    · exact ((insI_perm x r).cons y).trans (List.Perm.swap x y r)
theorem sortI_perm : ∀ l, (sortI l).Perm l
  | [] => .refl _
  | x :: r => (insI_perm x _).trans ((sortI_perm r).cons x)
theorem insI_pw (x : Int) : ∀ l, l.Pairwise (· ≤ ·) → (insI x l).Pairwise (· ≤ ·)
  | [], _ => by
    unfold insI
    exact List.pairwise_singleton _ _
  | y :: r, h => by
    unfold insI
    obtain ⟨h1, h2⟩ := List.pairwise_cons.mp h
    split
    · rename_i q
      refine List.pairwise_cons.mpr ⟨fun z hz => ?_, h⟩
      rcases List.mem_cons.mp hz with e | e
      · omega
      · have := h1 z e
        omega
    · rename_i q
      refine List.pairwise_cons.mpr ⟨fun z hz => ?_, insI_pw x r h2⟩
      rcases List.mem_cons.mp ((insI_perm x r).mem_iff.mp hz) with e | e
      · omega
      · exact h1 z e
theorem sortI_pw : ∀ l, (sortI l).Pairwise (· ≤ ·)
  | [] => .nil
  | x :: r => insI_pw x _ (sortI_pw r)
theorem pw_eq : ∀ {l m : List Int}, l.Perm m → l.Pairwise (· ≤ ·) → m.Pairwise (· ≤ ·) → l = m
  | [], m, p, _, _ => by simpa using p.symm.eq_nil.symm
  | x :: l, [], p, _, _ => by simpa using p.eq_nil
  | x :: l, y :: m, p, h1, h2 => by
    obtain ⟨a1, a2⟩ := List.pairwise_cons.mp h1
    obtain ⟨b1, b2⟩ := List.pairwise_cons.mp h2
    have e : x = y := by
      have q1 : x ∈ y :: m := p.mem_iff.mp List.mem_cons_self
      have q2 : y ∈ x :: l := p.mem_iff.mpr List.mem_cons_self
      rcases List.mem_cons.mp q1 with z1 | z1
      · exact z1
      · rcases List.mem_cons.mp q2 with z2 | z2
        · exact z2.symm
        · have := a1 y z2
          have := b1 x z1
          omega
    subst e
    rw [pw_eq ((List.perm_cons x).mp p) a2 b2]
def sorted1 : F1 := fun ds _ => match ds with
  | [.lst xs] => (intsOf xs).bind fun ns => if ns.length ≤ 100000 then some (.lst ((sortI ns).map .int)) else none
  | _ => none
def list1 : F1 := fun ds _ => match ds with
  | [.lst xs] => some (.lst xs)
  | [.tup xs] => some (.lst xs)
  | _ => none
def tuple1 : F1 := fun ds _ => match ds with
  | [.lst xs] => some (.tup xs)
  | [.tup xs] => some (.tup xs)
  | _ => none
section
variable {K : PySem.W.Frag} {X : Cx}
theorem z_len : CallZ K (fun xs H Q => ∃ p ys, xs = [.ref p] ∧ (SqL K H p ys ∨ SqT K H p ys) ∧ Q (.int ys.length) H) len1 := by
  intro bs M F H xs ds z Q w r ez q
  unfold len1 at ez
  split at ez
  · cases ez
    obtain ⟨v, rfl, rr⟩ := r.one
    cases rr with
    | lst h s => exact ⟨_, _, rfl, .inl (.inl (.inl (w.sub _ _ h))), by rw [s.length]; exact q _ bs F H (Tr.refl _ _ _) w (.int _)⟩
  · cases ez
    obtain ⟨v, rfl, rr⟩ := r.one
    cases rr with
    | tup h s => exact ⟨_, _, rfl, .inr (.inl (.inl (w.sub _ _ h))), by rw [s.length]; exact q _ bs F H (Tr.refl _ _ _) w (.int _)⟩
  · rename_i i
    obtain ⟨v, rfl, rr⟩ := r.one
    cases rr with
    | obj hb =>
      cases em : M[i]? with
      | none =>
        rw [em] at ez
        cases ez
      | some ys =>
        rw [em] at ez
        cases ez
        obtain ⟨_, vs, e3, s⟩ := w.objs i _ ys hb em
        exact ⟨_, _, rfl, .inl (.inl (.inl e3)), by rw [s.length]; exact q _ bs F H (Tr.refl _ _ _) w (.int _)⟩
  · cases ez
theorem z_max2 : CallZ K (fun xs H Q => ∃ i j, xs = [.int i, .int j] ∧ Q (.int (if j > i then j else i)) H) max2 := by
  intro bs M F H xs ds z Q w r ez q
  unfold max2 at ez
  split at ez
  · cases ez
    obtain ⟨v, u, rfl, r1, r2⟩ := r.two
    cases r1
    cases r2
    exact ⟨_, _, rfl, q _ bs F H (Tr.refl _ _ _) w (.int _)⟩
  · cases ez
theorem z_min2 : CallZ K (fun xs H Q => ∃ i j, xs = [.int i, .int j] ∧ Q (.int (if j < i then j else i)) H) min2 := by
  intro bs M F H xs ds z Q w r ez q
  unfold min2 at ez
  split at ez
  · cases ez
    obtain ⟨v, u, rfl, r1, r2⟩ := r.two
    cases r1
    cases r2
    exact ⟨_, _, rfl, q _ bs F H (Tr.refl _ _ _) w (.int _)⟩
  · cases ez
theorem one_lst {bs : List Addr} {F H : Hp} {M : MS} {xs : List V} {es : List D} (w : Wd K bs M F H) (r : Reps K bs F xs [.lst es]) : ∃ a vs, xs = [.ref a] ∧ SqL K H a vs ∧ Reps K bs F vs es := by
  obtain ⟨v, rfl, rr⟩ := r.one
  cases rr with
  | lst h s => exact ⟨_, _, rfl, .inl (.inl (w.sub _ _ h)), s⟩
theorem z_sum : CallZ K (rSum K) sum1 := by
  intro bs M F H xs ds z Q w r ez q
  unfold sum1 at ez
  split at ez
  · rename_i es
    cases e : intsOf es with
    | none =>
      rw [e] at ez
      cases ez
    | some ns =>
      rw [e] at ez
      cases ez
      obtain ⟨a, vs, rfl, hs, s⟩ := one_lst w r
      rw [intsOf_map e] at s
      rw [s.ints] at hs
      exact ⟨a, ns, rfl, hs, q _ bs F H (Tr.refl _ _ _) w (.int _)⟩
  · cases ez
theorem z_all : CallZ K (rAll K) all1 := by
  intro bs M F H xs ds z Q w r ez q
  unfold all1 at ez
  split at ez
  · rename_i es
    cases e : blsOf es with
    | none =>
      rw [e] at ez
      cases ez
    | some ns =>
      rw [e] at ez
      cases ez
      obtain ⟨a, vs, rfl, hs, s⟩ := one_lst w r
      rw [blsOf_map e] at s
      rw [s.bls] at hs
      exact ⟨a, ns, rfl, hs, q _ bs F H (Tr.refl _ _ _) w (.bl _)⟩
  · cases ez
theorem z_maxL : CallZ K (rMax K) maxL1 := by
  intro bs M F H xs ds z Q w r ez q
  unfold maxL1 at ez
  split at ez
  · rename_i es
    cases e : intsOf es with
    | none =>
      rw [e] at ez
      cases ez
    | some ns =>
      rw [e] at ez
      cases e2 : maxL ns with
      | none =>
        rw [Option.bind_some, e2] at ez
        cases ez
      | some k =>
        rw [Option.bind_some, e2] at ez
        cases ez
        obtain ⟨h1, h2⟩ := maxL_spec e2
        obtain ⟨a, vs, rfl, hs, s⟩ := one_lst w r
        rw [intsOf_map e] at s
        rw [s.ints] at hs
        refine ⟨a, ns, rfl, hs, List.length_pos_of_mem h1, fun m hm hk => ?_⟩
        have e3 : m = k := by
          have := h2 m hm
          have := hk k h1
          omega
        rw [e3]
        exact q _ bs F H (Tr.refl _ _ _) w (.int _)
  · cases ez
theorem z_minL : CallZ K (rMin K) minL1 := by
  intro bs M F H xs ds z Q w r ez q
  unfold minL1 at ez
  split at ez
  · rename_i es
    cases e : intsOf es with
    | none =>
      rw [e] at ez
      cases ez
    | some ns =>
      rw [e] at ez
      cases e2 : minL ns with
      | none =>
        rw [Option.bind_some, e2] at ez
        cases ez
      | some k =>
        rw [Option.bind_some, e2] at ez
        cases ez
        obtain ⟨h1, h2⟩ := minL_spec e2
        obtain ⟨a, vs, rfl, hs, s⟩ := one_lst w r
        rw [intsOf_map e] at s
        rw [s.ints] at hs
        refine ⟨a, ns, rfl, hs, List.length_pos_of_mem h1, fun m hm hk => ?_⟩
        have e3 : m = k := by
          have := h2 m hm
          have := hk k h1
          omega
        rw [e3]
        exact q _ bs F H (Tr.refl _ _ _) w (.int _)
  · cases ez
theorem z_list : CallZ K (fun xs H Q => ∃ p ys, xs = [.ref p] ∧ (SqL K H p ys ∨ SqT K H p ys) ∧ ∀ l, H l = none → Q (.ref l) (upd H l (.lst ys))) list1 := by
  intro bs M F H xs ds z Q w r ez q
  have fin : ∀ {a : Addr} {vs : List V} {es : List D}, xs = [.ref a] → (SqL K H a vs ∨ SqT K H a vs) → Reps K bs F vs es → z = .lst es → ∃ p ys, xs = [.ref p] ∧ (SqL K H p ys ∨ SqT K H p ys) ∧ ∀ l, H l = none → Q (.ref l) (upd H l (.lst ys)) := by
    intro a vs es e h s e2
    refine ⟨a, vs, e, h, fun p hp => ?_⟩
    obtain ⟨w2, t2⟩ := w.laid (.lst vs) hp
    subst e2
    exact q _ _ _ _ t2 w2 (.lst upd_same (s.tr t2))
  unfold list1 at ez
  split at ez
  · cases ez
    obtain ⟨v, rfl, rr⟩ := r.one
    cases rr with
    | lst h s => exact fin rfl (.inl (.inl (.inl (w.sub _ _ h)))) s rfl
  · cases ez
    obtain ⟨v, rfl, rr⟩ := r.one
    cases rr with
    | tup h s => exact fin rfl (.inr (.inl (.inl (w.sub _ _ h)))) s rfl
  · cases ez
theorem z_tuple : CallZ K (fun xs H Q => ∃ p ys, xs = [.ref p] ∧ ((SqL K H p ys ∧ ∀ l, H l = none → Q (.ref l) (upd H l (.tup ys))) ∨ (SqT K H p ys ∧ Q (.ref p) H))) tuple1 := by
  intro bs M F H xs ds z Q w r ez q
  unfold tuple1 at ez
  split at ez
  · cases ez
    obtain ⟨v, rfl, rr⟩ := r.one
    cases rr with
    | @lst a vs _ h s =>
      refine ⟨a, vs, rfl, .inl ⟨.inl (.inl (w.sub _ _ h)), fun p hp => ?_⟩⟩
      obtain ⟨w2, t2⟩ := w.laid (.tup vs) hp
      exact q _ _ _ _ t2 w2 (.tup upd_same (s.tr t2))
  · cases ez
    obtain ⟨v, rfl, rr⟩ := r.one
    cases rr with
    | @tup a vs _ h s => exact ⟨a, vs, rfl, .inr ⟨.inl (.inl (w.sub _ _ h)), q _ bs F H (Tr.refl _ _ _) w (.tup h s)⟩⟩
  · cases ez
end

/-! ### isinstance -/
def tyName : D → Option String
  | .non => some "NoneType"
  | .bl _ => some "bool"
  | .int _ => some "int"
  | .str _ => some "str"
  | .tup _ => some "tuple"
  | .lst _ => some "list"
  | _ => none
end Z

/-! Z4: isinstance, sorted, index; statements, loops, comprehensions, defs -/
namespace Z
open PySem PySem.Spec PyProof.Rows L2
variable [Tbs]

inductive Ty where
  | int | bool | tuple | list | str
def Ty.name : Ty → String
  | .int => "int" | .bool => "bool" | .tuple => "tuple" | .list => "list" | .str => "str"
def isTy : Ty → D → Option Bool
  | T, .non => some false
  | T, .bl _ => some (match T with | .int => true | .bool => true | _ => false)
  | T, .int _ => some (match T with | .int => true | _ => false)
  | T, .str _ => some (match T with | .str => true | _ => false)
  | T, .tup _ => some (match T with | .tuple => true | _ => false)
  | T, .lst _ => some (match T with | .list => true | _ => false)
  | _, _ => none
def dIs (T : Ty) (f : DE) : DE := fun e => bnd (f e) fun x => lft ((isTy T x).map D.bl)
def isAny (x : D) : List Ty → Option Bool
  | [] => some false
  | T :: Ts => match isTy T x with
    | some true => some true
    | some false => isAny x Ts
    | none => none
def dIsT (Ts : List Ty) (f : DE) : DE := fun e => bnd (f e) fun x => lft ((isAny x Ts).map D.bl)
section
variable {X : Cx} {W : Wi} {K : PySem.W.Frag} {bs : List Addr} {F H : Hp}
theorem isTy_kit {x : V} {d : D} {T : Ty} {b : Bool} (s : Same F H) (r : Rep K bs F x d) (h : isTy T d = some b) : ∃ t, TyX K H x t ∧ PySem.W.kitOne K t (.type T.name) = some b := by
  cases r with
  | non => cases h; exact ⟨_, .base .non, by cases T <;> exact kit_ty (by decide +kernel)⟩
  | bl v => cases h; exact ⟨_, .base (.bl v), by cases T <;> exact kit_ty (by decide +kernel)⟩
  | int v => cases h; exact ⟨_, .base (.int v), by cases T <;> exact kit_ty (by decide +kernel)⟩
  | str v => cases h; exact ⟨_, .base (.str v), by cases T <;> exact kit_ty (by decide +kernel)⟩
  | tup q _ => cases h; exact ⟨_, .base (.tup (s _ _ q)), by cases T <;> exact kit_ty (by decide +kernel)⟩
  | lst q _ => cases h; exact ⟨_, .base (.lst (s _ _ q)), by cases T <;> exact kit_ty (by decide +kernel)⟩
  | _ => cases h
theorem tyX_of {x : V} {d : D} {T : Ty} {b : Bool} (s : Same F H) (r : Rep K bs F x d) (h : isTy T d = some b) : ∃ t, TyX K H x t ∧ ∀ T' b', isTy T' d = some b' → PySem.W.kitOne K t (.type T'.name) = some b' := by
  cases r with
  | non => exact ⟨_, .base .non, fun T' b' h => by cases h; cases T' <;> exact kit_ty (by decide +kernel)⟩
  | bl v => exact ⟨_, .base (.bl v), fun T' b' h => by cases h; cases T' <;> exact kit_ty (by decide +kernel)⟩
  | int v => exact ⟨_, .base (.int v), fun T' b' h => by cases h; cases T' <;> exact kit_ty (by decide +kernel)⟩
  | str v => exact ⟨_, .base (.str v), fun T' b' h => by cases h; cases T' <;> exact kit_ty (by decide +kernel)⟩
  | tup q _ => exact ⟨_, .base (.tup (s _ _ q)), fun T' b' h => by cases h; cases T' <;> exact kit_ty (by decide +kernel)⟩
  | lst q _ => exact ⟨_, .base (.lst (s _ _ q)), fun T' b' h => by cases h; cases T' <;> exact kit_ty (by decide +kernel)⟩
  | _ => cases h
/-- a built-in class's name -/
structure TyNm (X : Cx) (T : Ty) (x : Str) : Prop where
  g : Gl X x
  m : X.mg x = none
  v : bootBuiltins x = some (.type T.name)
theorem TyNm.pe {T : Ty} {x : Str} {pos : Pos} (h : TyNm X T x) (hn : x ≠ "__name__" := by decide) (hd : (x == ("__debug__" : Str)) = false := by decide) : PE X (.Name x pos) (tC (.ty T.name)) := pe_bltn h.g h.m h.v rfl hn hd
theorem ze_isi {e : Expr} {f : DE} {T : Ty} {x : Str} {p q pos : Pos} (hf : ZE X W e f) (hT : PE X (.Name x q) (tC (.ty T.name))) (hg : Gl X "isinstance") (hm : X.mg "isinstance" = none) (hs : starEach [e, .Name x q] X.env = (false, eval e X.env) :: starEach [.Name x q] X.env := by rfl) (hs2 : starEach [.Name x q] X.env = (false, eval (.Name x q) X.env) :: starEach [] X.env := by rfl)
    (hpl : (backTo pos (starEach [.Name x q] X.env)).any (·.1) = false := by rfl) : ZE X W (.Call (.Name "isinstance" p) [e, .Name x q] [] pos) (dIs T f) :=
  ⟨fun pins s σ H Q I h => (pe_callB call_isi hg hm (by decide +kernel) (pa_cons hf (pa_cons hT pa_nil hs2) hs) (by decide) (by decide) hs hpl).run pins s σ H Q I (by
    obtain ⟨bs, M, F, e, at0, run⟩ := h
    refine ⟨bs, M, F, e, at0, run.bind.imp fun x bs1 M1 F1 H1 t1 w1 run1 v1 r1 => ?_⟩
    obtain ⟨z, ez, k⟩ := run1.of_lft
    cases e1 : isTy T x with
    | none =>
      rw [e1] at ez
      cases ez
    | some b =>
      rw [e1] at ez
      cases ez
      obtain ⟨t, ty, kt⟩ := isTy_kit w1.sub r1 e1
      exact ⟨v1, .ty T.name, t, .type T.name, b, rfl, .ty _, ty, kt, k bs1 F1 H1 (Tr.refl _ _ _) w1 _ (.bl b)⟩)⟩
/-- the classes of a written tuple -/
inductive TyPA (X : Cx) : List Expr → List Ty → Prop where
  | nil : TyPA X [] []
  | cons {x : Str} {q : Pos} {es : List Expr} {T : Ty} {Ts : List Ty} (h : PE X (.Name x q) (tC (.ty T.name))) (t : TyPA X es Ts) (hs : starEach (.Name x q :: es) X.env = (false, eval (.Name x q) X.env) :: starEach es X.env) : TyPA X (.Name x q :: es) (T :: Ts)
def tTys (Ts : List Ty) : TA := fun _ H Q => Q (Ts.map fun T => V.ty T.name) H
theorem TyPA.pa : ∀ {es : List Expr} {Ts : List Ty}, TyPA X es Ts → PA X es (tTys Ts)
  | _, _, .nil => pa_nil
  | _, _, .cons h t hs => ⟨fun pos pins s σ H Q I q => (pa_cons h t.pa hs).run pos pins s σ H Q I q⟩
theorem isAny_kit {x : V} {d : D} {t : Value} (kt : ∀ T' b', isTy T' d = some b' → PySem.W.kitOne K t (.type T'.name) = some b') : ∀ {Ts : List Ty} {b : Bool}, isAny d Ts = some b → PySem.W.kitAny K t (Ts.map fun T => Value.type T.name) = some b
  | [], b, h => by
    cases h
    exact kitAny_nil
  | T :: Ts, b, h => by
    unfold isAny at h
    split at h
    · rename_i e
      cases h
      exact kitAny_cons (kt _ _ e) (fun z => by cases z) fun _ => rfl
    · rename_i e
      exact kitAny_cons (kt _ _ e) (fun _ => isAny_kit (x := x) kt h) fun z => by cases z
    · cases h
theorem ze_isiT {e : Expr} {es : List Expr} {f : DE} {T : Ty} {Ts : List Ty} {n : Nat} {p q pos : Pos} (hf : ZE X W e f) (hT : TyPA X es (T :: Ts)) (hg : Gl X "isinstance") (hm : X.mg "isinstance" = none) (hl : (T :: Ts).length ≤ 10) (hs : starEach [e, .Tuple es n q] X.env = (false, eval e X.env) :: starEach [.Tuple es n q] X.env := by rfl) (hs2 : starEach [.Tuple es n q] X.env = (false, eval (.Tuple es n q) X.env) :: starEach [] X.env := by rfl)
    (hpl : (backTo pos (starEach [.Tuple es n q] X.env)).any (·.1) = false := by rfl) : ZE X W (.Call (.Name "isinstance" p) [e, .Tuple es n q] [] pos) (dIsT (T :: Ts) f) :=
  ⟨fun pins s σ H Q I h => (pe_callB call_isiT hg hm (by decide +kernel) (pa_cons hf (pa_cons (pe_tup hT.pa) pa_nil hs2) hs) (by decide) (by decide) hs hpl).run pins s σ H Q I (by
    obtain ⟨bs, M, F, e, at0, run⟩ := h
    refine ⟨bs, M, F, e, at0, run.bind.imp fun x bs1 M1 F1 H1 t1 w1 run1 v1 r1 => ?_⟩
    obtain ⟨z, ez, k⟩ := run1.of_lft
    refine ⟨by rw [List.length_map]; exact small_ok (by omega), fun p hp => ?_⟩
    obtain ⟨w2, t2⟩ := w1.lost (.tup ((T :: Ts).map fun T => V.ty T.name)) hp
    cases e1 : isAny x (T :: Ts) with
    | none =>
      rw [e1] at ez
      cases ez
    | some b =>
      rw [e1] at ez
      cases ez
      have e2 : ∃ b0, isTy T x = some b0 := by
        unfold isAny at e1
        split at e1
        · exact ⟨_, by assumption⟩
        · exact ⟨_, by assumption⟩
        · cases e1
      obtain ⟨b0, e2⟩ := e2
      obtain ⟨t, ty, kt⟩ := tyX_of w2.sub r1 e2
      refine ⟨v1, p, _, t, (T :: Ts).map fun T => Value.type T.name, b, rfl, upd_same, ?_, ty, isAny_kit (x := v1) kt e1, k bs1 F1 _ t2 w2 _ (.bl b)⟩
      generalize (T :: Ts) = l
      induction l with
      | nil => exact .nil
      | cons a r ih => exact .cons (.ty _) ih)⟩
theorem z_sorted : CallZ K (rSortedI K) sorted1 := by
  intro bs M F H xs ds z Q w r ez q
  unfold sorted1 at ez
  split at ez
  · rename_i es
    cases e : intsOf es with
    | none =>
      rw [e] at ez
      cases ez
    | some ns =>
      rw [e, Option.bind_some] at ez
      split at ez
      · cases ez
        obtain ⟨a, vs, rfl, hs, s⟩ := one_lst w r
        rw [intsOf_map e] at s
        rw [s.ints] at hs
        refine ⟨a, ns, rfl, hs, fun ns' p h1 h2 hp => ?_⟩
        rw [pw_eq (h1.trans (sortI_perm ns).symm) h2 (sortI_pw ns)]
        obtain ⟨w2, t2⟩ := w.laid (.lst ((sortI ns).map V.int)) hp
        exact q _ _ _ _ t2 w2 (.lst upd_same ((Reps.of_ints (K := K) (bs := bs) (F := F) (sortI ns)).tr t2))
      · cases ez
  · cases ez
/-- sorted of a tuple of whole numbers is asked of the library below -/
def dIndex : F1 := fun ds _ => match ds with
  | [.lst xs, .int i] => (intsOf xs).bind fun ns => if i ∈ ns then some (.int (ns.idxOf i)) else none
  | _ => none
end

/-! ### statements -/
inductive Oc where
  | nx (e : Ev) | rt (d : D) | bk (e : Ev) | ct (e : Ev)
abbrev DS := Ev → Mo Oc
/-- a statement's state over the def's entry (bs0, F0, H0) -/
def AtS (K : PySem.W.Frag) (bs0 : List Addr) (F0 H0 : Hp) (bs : List Addr) (M : MS) (F H : Hp) (σ : L2.St) (e : Ev) : Prop :=
  Tr bs0 F0 H0 bs F H ∧ Wd K bs M F H ∧ ∃ os, Slots K bs F H σ e os ∧ ∀ a ∈ os, H0 a = none
def RunS (K : PySem.W.Frag) (W : Wi) (bs0 : List Addr) (F0 H0 : Hp) (r : Option (Rs Oc × MS)) (Dn : Ends) : Prop := match r with
  | none => False
  | some (.ok (.nx e), M') => ∀ bs F H σ, AtS K bs0 F0 H0 bs M' F H σ e → Dn.nx σ H
  | some (.ok (.bk e), M') => ∀ bs F H σ, AtS K bs0 F0 H0 bs M' F H σ e → Dn.bk σ H
  | some (.ok (.ct e), M') => ∀ bs F H σ, AtS K bs0 F0 H0 bs M' F H σ e → Dn.ct σ H
  | some (.ok (.rt d), M') => ∀ bs F H v, Tr bs0 F0 H0 bs F H → Wd K bs M' F H → Rep K bs F v d → Dn.rt v H
  | some (.err c, M') => ∀ bs F H σ, Tr bs0 F0 H0 bs F H → Wd K bs M' F H → W c σ H
def liftS (K : PySem.W.Frag) (W : Wi) (f : DS) : TS := fun Dn σ H => ∃ bs0 F0 H0 bs M F e, AtS K bs0 F0 H0 bs M F H σ e ∧ RunS K W bs0 F0 H0 (f e M) Dn
abbrev ZS (X : Cx) (W : Wi) (st : Stmt) (f : DS) : Prop := PS X st (liftS X.K W f)
abbrev ZSs (X : Cx) (W : Wi) (sts : List Stmt) (f : DS) : Prop := PSs X sts (liftS X.K W f)
section
variable {K : PySem.W.Frag} {W : Wi} {bs0 bs bs' : List Addr} {M M' : MS} {F0 H0 F H F' H' : Hp} {σ : L2.St} {e : Ev}
theorem AtS.at (a : AtS K bs0 F0 H0 bs M F H σ e) : At K bs M F H σ e := ⟨a.2.1, let ⟨os, s, _⟩ := a.2.2; ⟨os, s⟩⟩
theorem AtS.tr (a : AtS K bs0 F0 H0 bs M F H σ e) (t : Tr bs F H bs' F' H') (w : Wd K bs' M' F' H') : AtS K bs0 F0 H0 bs' M' F' H' σ e := by
  obtain ⟨t0, _, os, s, n⟩ := a
  exact ⟨t0.trans t, w, os, s.tr t, n⟩
/-- from what an expression does to what the statement does with its value -/
theorem RunS.bind {α : Type} {m : Mo α} {f : α → Mo Oc} {Dn : Ends} (h : RunS K W bs0 F0 H0 (bnd m f M) Dn) (a : AtS K bs0 F0 H0 bs M F H σ e) : Run K W bs F H σ (m M) (fun x bs1 M1 F1 H1 => AtS K bs0 F0 H0 bs1 M1 F1 H1 σ e ∧ RunS K W bs0 F0 H0 (f x M1) Dn) := by
  unfold bnd at h
  cases e1 : m M with
  | none =>
    rw [e1] at h
    exact h
  | some p =>
    obtain ⟨r, M1⟩ := p
    rw [e1] at h
    cases r with
    | err c => exact fun bs1 F1 H1 t1 w1 => h bs1 F1 H1 σ (a.1.trans t1) w1
    | ok x => exact fun bs1 F1 H1 t1 w1 => ⟨a.tr t1 w1, h⟩
theorem AtS.setv {i : Nat} {x : V} {d : D} (a : AtS K bs0 F0 H0 bs M F H σ e) (r : Rep K bs F x d) : AtS K bs0 F0 H0 bs M F H (σ.set i (some x)) (e.set i (.v d)) := by
  obtain ⟨t, w, os, s, n⟩ := a
  obtain ⟨os', s', h⟩ := s.setv r i
  exact ⟨t, w, os', s', fun b hb => n b (h b hb)⟩
theorem Slots.dom : ∀ {σ : L2.St} {e : Ev} {os : List Addr}, Slots K bs F H σ e os → ∀ a ∈ os, H a ≠ none
  | _, _, _, .nil, _, h => by simp at h
  | _, _, _, .no s, a, h => Slots.dom s a h
  | _, _, _, .v _ s, a, h => Slots.dom s a h
  | _, _, _, .own h1 _ _ _ _ s, a, h => by
    rcases List.mem_cons.mp h with q | q
    · rw [q, h1]
      simp
    · exact Slots.dom s a q
  | _, _, _, .ownD h1 _ _ _ _ _ s, a, h => by
    rcases List.mem_cons.mp h with q | q
    · rw [q, h1]
      simp
    · exact Slots.dom s a q
theorem AtS.none0 (a : AtS K bs0 F0 H0 bs M F H σ e) {p : Addr} (hp : H p = none) : H0 p = none := by
  cases q : H0 p with
  | none => rfl
  | some o => exact absurd hp (a.1.dom p (by rw [q]; simp))
/-- a new list of the frame's own -/
theorem AtS.newown {i : Nat} {p : Addr} {vs : List V} {ds : List D} (a : AtS K bs0 F0 H0 bs M F H σ e) (hi : i < e.length) (hp : H p = none) (r : Reps K bs F vs ds) : AtS K bs0 F0 H0 bs M F (upd H p (.lst vs)) (σ.set i (some (.ref p))) (e.set i (.own ds)) := by
  have h0 := a.none0 hp
  obtain ⟨t, w, os, s, n⟩ := a
  obtain ⟨w2, t2⟩ := w.lost (.lst vs) hp
  obtain ⟨os', s', k⟩ := (s.tr t2).setown upd_same (w.fnone hp) (w.notin hp) r i (fun z => s.dom p z hp) hi
  exact ⟨t.trans t2, w2, os', s', fun b hb => (k b hb).elim (fun z => by rw [z]; exact h0) (n b)⟩
theorem AtS.newownD {i : Nat} {p : Addr} (a : AtS K bs0 F0 H0 bs M F H σ e) (hi : i < e.length) (hp : H p = none) : AtS K bs0 F0 H0 bs M F (upd H p (.dK [])) (σ.set i (some (.ref p))) (e.set i (.ownD [] [])) := by
  have h0 := a.none0 hp
  obtain ⟨t, w, os, s, n⟩ := a
  obtain ⟨w2, t2⟩ := w.lost (.dK []) hp
  obtain ⟨os', s', k⟩ := (s.tr t2).setownD (kvs := []) (ks := []) (ds := []) upd_same (w.fnone hp) (w.notin hp) rfl .nil i (fun z => s.dom p z hp) hi
  exact ⟨t.trans t2, w2, os', s', fun b hb => (k b hb).elim (fun z => by rw [z]; exact h0) (n b)⟩
end
def dNil' : DS := fun e => ret (.nx e)
def dSeq (f g : DS) : DS := fun e => bnd (f e) fun o => match o with
  | .nx e' => g e'
  | o => ret o
def dSet (i : Nat) (f : DE) : DS := fun e => bnd (f e) fun d => ret (.nx (e.set i (.v d)))
def dRet (f : DE) : DS := fun e => bnd (f e) fun d => ret (.rt d)
def dDrop (f : DE) : DS := fun e => bnd (f e) fun _ => ret (.nx e)
def dIfS (c : DT) (f g : DS) : DS := fun e => bnd (c e) fun k => if k = true then f e else g e
def dBrk : DS := fun e => ret (.bk e)
def dCnt : DS := fun e => ret (.ct e)
def dNever : DS := fun _ => stuck
section
variable {X : Cx} {W : Wi} {st : Stmt} {rest sts : List Stmt} {f g : DS} {fe : DE} {ex : Expr} {pos : Pos}
theorem zs_nil : ZSs X W [] dNil' := ⟨fun pins s σ H Dn I h => pss_nil.run pins s σ H Dn I (by
  obtain ⟨bs0, F0, H0, bs, M, F, e, a, run⟩ := h
  exact run _ _ _ _ a)⟩
theorem zs_cons (h1 : ZS X W st f) (h2 : ZSs X W rest g) : ZSs X W (st :: rest) (dSeq f g) := ⟨fun pins s σ H Dn I h => (pss_cons h1 h2).run pins s σ H Dn I (by
  obtain ⟨bs0, F0, H0, bs, M, F, e, a, run⟩ := h
  refine ⟨bs0, F0, H0, bs, M, F, e, a, ?_⟩
  unfold dSeq bnd at run
  cases e1 : f e M with
  | none =>
    rw [e1] at run
    exact run
  | some p =>
    obtain ⟨r, M1⟩ := p
    rw [e1] at run
    cases r with
    | err c => exact run
    | ok o =>
      cases o with
      | nx e' => exact fun bs1 F1 H1 σ1 a1 => ⟨bs0, F0, H0, bs1, M1, F1, e', a1, run⟩
      | rt d => exact run
      | bk e' => exact run
      | ct e' => exact run)⟩
theorem zs_one (h1 : ZS X W st f) : ZSs X W [st] f := ⟨fun pins s σ H Dn I h => (pss_one h1).run pins s σ H Dn I h⟩
theorem zs_set {i : Nat} {x : Str} {pos' : Pos} (hN : X.N.Nodup) (hi : X.N[i]? = some x) (hx : Loc X.env.scope x) (he : ZE X W ex fe) (hs : swapsWith ex (some (.Name x pos')) pos.line X.env = pure false := by rfl) (hf : X.fn x = true ∨ X.env.scope.names.lookup x = some .local := by first | exact .inl rfl | exact .inr rfl | assumption) :
    ZS X W (.Assign [.Name x pos'] ex pos) (dSet i fe) := ⟨fun pins s σ H Dn I h => (ps_set hN hi hx he hs hf).run pins s σ H Dn I (by
  obtain ⟨bs0, F0, H0, bs, M, F, e, a, run⟩ := h
  refine ⟨bs, M, F, e, a.at, (run.bind a).imp fun d bs1 M1 F1 H1 t1 w1 q v r => ?_⟩
  exact q.2 _ _ _ _ (q.1.setv r))⟩
/-- a new list that this def alone will hold -/
def dSetOwn (i : Nat) (g : DA) : DS := fun e => bnd (g e) fun ds => if ds.length ≤ 100000 ∧ i < e.length then ret (.nx (e.set i (.own ds))) else stuck
theorem zs_setOwn {i : Nat} {x : Str} {es : List Expr} {g : DA} {pos' p2 : Pos} (hN : X.N.Nodup) (hi : X.N[i]? = some x) (hx : Loc X.env.scope x) (he : ZA X W es g) (hs : swapsWith (.List es p2) (some (.Name x pos')) pos.line X.env = pure false := by rfl) (hf : X.fn x = true ∨ X.env.scope.names.lookup x = some .local := by first | exact .inl rfl | exact .inr rfl | assumption) :
    ZS X W (.Assign [.Name x pos'] (.List es p2) pos) (dSetOwn i g) := ⟨fun pins s σ H Dn I h => (ps_set hN hi hx (pe_lst he) hs hf).run pins s σ H Dn I (by
  obtain ⟨bs0, F0, H0, bs, M, F, e, a, run⟩ := h
  refine ⟨bs, M, F, e, a.at, (run.bind a).imp fun ds bs1 M1 F1 H1 t1 w1 q vs r => ?_⟩
  obtain ⟨a1, run1⟩ := q
  by_cases hl : ds.length ≤ 100000 ∧ i < e.length
  · rw [if_pos hl] at run1
    refine ⟨by rw [r.length]; exact small_ok hl.1, fun p hp => ?_⟩
    exact run1 _ _ _ _ (a1.newown hl.2 hp r)
  · rw [if_neg hl] at run1
    exact run1.elim)⟩
end
end Z

/-! Z5: more statements, loops, comprehensions, defs -/
namespace Z
open PySem PySem.Spec PyProof.Rows L2
variable [Tbs]

section
variable {K : PySem.W.Frag} {W : Wi} {bs0 bs bs' bs1 : List Addr} {M M' M1 : MS} {F0 H0 F H F' H' F1 H1 : Hp} {σ : L2.St} {e : Ev}
theorem Tr.rebase (a : Tr bs0 F0 H0 bs1 F1 H1) : Tr bs1 F1 H0 bs1 F1 H1 := by
  obtain ⟨m, e, _⟩ := a.pre
  refine ⟨⟨[], by simp, by simp⟩, Same.refl _, fun _ _ h => .inl h, fun x o h hx nt => a.keep0 x o h (fun z => hx (by rw [e]; exact List.mem_append_left _ z)) nt, a.dom⟩
theorem Tr.unbase (a : Tr bs0 F0 H0 bs1 F1 H1) (b : Tr bs1 F1 H0 bs F H) : Tr bs0 F0 H0 bs F H := by
  obtain ⟨m1, e1, n1⟩ := a.pre
  obtain ⟨m2, e2, n2⟩ := b.pre
  refine ⟨⟨m1 ++ m2, by rw [e2, e1, List.append_assoc], fun x hx => (List.mem_append.mp hx).elim (n1 x) (n2 x)⟩, a.fm.trans b.fm, fun x o h => ?_, fun x o h hx nt => b.keep0 x o h (fun z => ?_) nt, b.dom⟩
  · rcases b.new x o h with z | z
    · exact a.new x o z
    · exact .inr z
  · rw [e1] at z
    rcases List.mem_append.mp z with z | z
    · exact hx z
    · rw [n1 x z] at h
      cases h
theorem AtS.rebase (a : AtS K bs0 F0 H0 bs M F H σ e) : AtS K bs F H0 bs M F H σ e := ⟨a.1.rebase, a.2.1, a.2.2⟩
theorem AtS.unbase {bs2 : List Addr} {F2 H2 : Hp} {σ2 : L2.St} {e2 : Ev} {M2 : MS} (a : Tr bs0 F0 H0 bs1 F1 H1) (b : AtS K bs1 F1 H0 bs2 M2 F2 H2 σ2 e2) : AtS K bs0 F0 H0 bs2 M2 F2 H2 σ2 e2 := ⟨a.unbase b.1, b.2.1, b.2.2⟩
theorem RunS.rebase {r : Option (Rs Oc × MS)} {Dn : Ends} (a : Tr bs0 F0 H0 bs1 F1 H1) (h : RunS K W bs0 F0 H0 r Dn) : RunS K W bs1 F1 H0 r Dn := by
  match r, h with
  | some (.ok (.nx e), M'), h => exact fun bs F H σ b => h bs F H σ (b.unbase a)
  | some (.ok (.bk e), M'), h => exact fun bs F H σ b => h bs F H σ (b.unbase a)
  | some (.ok (.ct e), M'), h => exact fun bs F H σ b => h bs F H σ (b.unbase a)
  | some (.ok (.rt d), M'), h => exact fun bs F H v t w r => h bs F H v (a.unbase t) w r
  | some (.err c, M'), h => exact fun bs F H σ t w => h bs F H σ (a.unbase t) w
end

/-! ### small statements -/
section
variable {X : Cx} {W : Wi} {st : Stmt} {rest sts : List Stmt} {f g : DS} {fe : DE} {ex c : Expr} {ft : DT} {pos : Pos} {a b : List Stmt}
theorem zs_ret (he : ZE X W ex fe) : ZS X W (.Return (some ex) pos) (dRet fe) := ⟨fun pins s σ H Dn I h => (ps_ret he).run pins s σ H Dn I (by
  obtain ⟨bs0, F0, H0, bs, M, F, e, a, run⟩ := h
  exact ⟨bs, M, F, e, a.at, (run.bind a).imp fun d bs1 M1 F1 H1 t1 w1 q v r => q.2 _ _ _ _ q.1.1 w1 r⟩)⟩
theorem zs_expr (he : ZE X W ex fe) (hs : swapsWith ex none pos.line X.env = pure false := by rfl) : ZS X W (.Expr ex pos) (dDrop fe) := ⟨fun pins s σ H Dn I h => (ps_expr he hs).run pins s σ H Dn I (by
  obtain ⟨bs0, F0, H0, bs, M, F, e, a, run⟩ := h
  exact ⟨bs, M, F, e, a.at, (run.bind a).imp fun d bs1 M1 F1 H1 t1 w1 q v r => q.2 _ _ _ _ q.1⟩)⟩
theorem zs_if (hc : ZT X W c ft) (ha : ZSs X W a f) (hb : ZSs X W b g) : ZS X W (.If c a b pos) (dIfS ft f g) := ⟨fun pins s σ H Dn I h => (ps_if hc ha hb).run pins s σ H Dn I (by
  obtain ⟨bs0, F0, H0, bs, M, F, e, a, run⟩ := h
  refine ⟨bs, M, F, e, a.at, (run.bind a).imp fun k bs1 M1 F1 H1 t1 w1 q => ?_⟩
  cases k with
  | true =>
    simp only [qT, if_true] at q ⊢
    exact ⟨bs0, F0, H0, bs1, M1, F1, e, q.1, q.2⟩
  | false =>
    simp only [qT, Bool.false_eq_true, if_false] at q ⊢
    exact ⟨bs0, F0, H0, bs1, M1, F1, e, q.1, q.2⟩)⟩
theorem zs_brk : ZS X W (.Break pos) dBrk := ⟨fun pins s σ H Dn I h => ps_break.run pins s σ H Dn I (by
  obtain ⟨bs0, F0, H0, bs, M, F, e, a, run⟩ := h
  exact run _ _ _ _ a)⟩
theorem zs_never : ZS X W st dNever := ⟨fun pins s σ H Dn I h => by
  obtain ⟨bs0, F0, H0, bs, M, F, e, a, run⟩ := h
  exact run.elim⟩
theorem zss_never : ZSs X W sts dNever := ⟨fun pins s σ H Dn I h => by
  obtain ⟨bs0, F0, H0, bs, M, F, e, a, run⟩ := h
  exact run.elim⟩
/-- a, b = x, y -/
def dPar (i j : Nat) (g : DA) : DS := fun e => bnd (g e) fun ds => match ds with
  | [c, d] => ret (.nx ((e.set i (.v c)).set j (.v d)))
  | _ => stuck
theorem zs_par {i j : Nat} {x y : Str} {a b : Expr} {g : DA} {px py pt : Pos} {kt k2 pt2} (hc : X.calm = true) (hN : X.N.Nodup) (hi : X.N[i]? = some x) (hj : X.N[j]? = some y) (hij : i ≠ j)
    (hx : X.env.scope.names.lookup x = some .local) (hy : X.env.scope.names.lookup y = some .local) (ha : ZA X W [a, b] g)
    (hw : swappedStores [.Tuple [.Name x px, .Name y py] kt pt] (.Tuple [a, b] k2 pt2) X.env = pure (some [x, y]))
    (hs : swapsWithSole [.Tuple [.Name x px, .Name y py] kt pt] (.Tuple [a, b] k2 pt2) pos.line X.env = pure false := by rfl) :
    ZS X W (.Assign [.Tuple [.Name x px, .Name y py] kt pt] (.Tuple [a, b] k2 pt2) pos) (dPar i j g) := ⟨fun pins s σ H Dn I h => (ps_par hc hN hi hj hij hx hy ha hw hs).run pins s σ H Dn I (by
  obtain ⟨bs0, F0, H0, bs, M, F, e, a, run⟩ := h
  refine ⟨bs, M, F, e, a.at, (run.bind a).imp fun ds bs1 M1 F1 H1 t1 w1 q vs r => ?_⟩
  obtain ⟨a1, run1⟩ := q
  match ds, run1, r with
  | [c, d], run1, r =>
    obtain ⟨v, w, rfl, rv, rw'⟩ := r.two
    exact ⟨v, w, rfl, run1 _ _ _ _ ((a1.setv rv).setv rw')⟩
  | [], run1, _ => exact run1.elim
  | [_], run1, _ => exact run1.elim
  | _ :: _ :: _ :: _, run1, _ => exact run1.elim)⟩
def dPar3 (i j l : Nat) (g : DA) : DS := fun e => bnd (g e) fun ds => match ds with
  | [c, d, u] => ret (.nx (((e.set i (.v c)).set j (.v d)).set l (.v u)))
  | _ => stuck
theorem zs_par3 {i j l : Nat} {x y z : Str} {a b c : Expr} {g : DA} {px py pz pt : Pos} {kt k2 pt2} (hc : X.calm = true) (hN : X.N.Nodup) (hi : X.N[i]? = some x) (hj : X.N[j]? = some y) (hl : X.N[l]? = some z) (hij : i ≠ j) (hil : i ≠ l) (hjl : j ≠ l)
    (hx : X.env.scope.names.lookup x = some .local) (hy : X.env.scope.names.lookup y = some .local) (hz : X.env.scope.names.lookup z = some .local) (ha : ZA X W [a, b, c] g)
    (hw : swappedStores [.Tuple [.Name x px, .Name y py, .Name z pz] kt pt] (.Tuple [a, b, c] k2 pt2) X.env = pure (some [x, y, z]))
    (hs : swapsWithSole [.Tuple [.Name x px, .Name y py, .Name z pz] kt pt] (.Tuple [a, b, c] k2 pt2) pos.line X.env = pure false := by rfl) :
    ZS X W (.Assign [.Tuple [.Name x px, .Name y py, .Name z pz] kt pt] (.Tuple [a, b, c] k2 pt2) pos) (dPar3 i j l g) := ⟨fun pins s σ H Dn I h => (ps_par3 hc hN hi hj hl hij hil hjl hx hy hz ha hw hs).run pins s σ H Dn I (by
  obtain ⟨bs0, F0, H0, bs, M, F, e, a, run⟩ := h
  refine ⟨bs, M, F, e, a.at, (run.bind a).imp fun ds bs1 M1 F1 H1 t1 w1 q vs r => ?_⟩
  obtain ⟨a1, run1⟩ := q
  match ds, run1, r with
  | [c, d, u], run1, r =>
    cases r with
    | cons r1 r =>
      obtain ⟨v, w, rfl, rv, rw'⟩ := r.two
      exact ⟨_, v, w, rfl, run1 _ _ _ _ (((a1.setv r1).setv rv).setv rw')⟩
  | [], run1, _ => exact run1.elim
  | [_], run1, _ => exact run1.elim
  | [_, _], run1, _ => exact run1.elim
  | _ :: _ :: _ :: _ :: _, run1, _ => exact run1.elim)⟩
end

/-! ### targets -/
inductive Tg where
  | nm (i : Nat) | tp (is : List Nat)
def gNames : List Nat → TGs
  | [] => gNil
  | i :: is => gCons (gName i) (gNames is)
def gOf (K : PySem.W.Frag) : Tg → TG
  | .nm i => gName i
  | .tp is => gTup K is.length (gNames is)
def asgs : List Nat → List D → Ev → Option Ev
  | [], [], e => some e
  | i :: is, d :: ds, e => asgs is ds (e.set i (.v d))
  | _, _, _ => none
def asg : Tg → D → Ev → Option Ev
  | .nm i, d, e => some (e.set i (.v d))
  | .tp is, .tup ds, e => asgs is ds e
  | .tp _, _, _ => none
def Tg.within (vs : List Nat) : Tg → Prop
  | .nm i => i ∈ vs
  | .tp is => ∀ i ∈ is, i ∈ vs
theorem wipe_set {i : Nat} {x : Option V} : ∀ {vs : List Nat} {σ : L2.St}, i ∈ vs → wipe (σ.set i x) vs = wipe σ vs
  | [], _, h => by simp at h
  | v :: vs, σ, h => by
    unfold wipe
    by_cases hi : i ∈ vs
    · rw [wipe_set hi]
    · have e : v = i := by
        rcases List.mem_cons.mp h with q | q
        · exact q.symm
        · exact absurd q hi
      subst e
      have comm : ∀ (us : List Nat) (σ : L2.St), v ∉ us → wipe (σ.set v x) us = (wipe σ us).set v x := by
        intro us
        induction us with
        | nil => intro σ _; rfl
        | cons u us ih =>
          intro σ hu
          unfold wipe
          rw [ih σ (fun z => hu (List.mem_cons_of_mem _ z)), List.set_comm]
          exact fun z => hu (by rw [z]; exact List.mem_cons_self)
      rw [comm vs σ hi, List.set_set]
theorem asgs_step {K : PySem.W.Frag} {bs0 bs : List Addr} {M : MS} {F0 H0 F H : Hp} {Q : L2.St → Hp → Prop} {e' : Ev} : ∀ {is : List Nat} {ds : List D} {vs : List V} {σ : L2.St} {e : Ev}, AtS K bs0 F0 H0 bs M F H σ e → Reps K bs F vs ds → asgs is ds e = some e' →
    (∀ σ', AtS K bs0 F0 H0 bs M F H σ' e' → (∀ ws, (∀ i ∈ is, i ∈ ws) → wipe σ' ws = wipe σ ws) → Q σ' H) → gNames is vs σ H Q
  | [], [], vs, σ, e, a, r, h, q => by
    cases r
    cases h
    exact ⟨rfl, q σ a fun _ _ => rfl⟩
  | i :: is, d :: ds, vs, σ, e, a, r, h, q => by
    cases r with
    | cons r t =>
      refine ⟨_, _, rfl, ?_⟩
      exact asgs_step (a.setv r) t h fun σ' a' hw => q σ' a' fun ws hi => (hw ws fun j hj => hi j (List.mem_cons_of_mem _ hj)).trans (wipe_set (hi i List.mem_cons_self))
  | [], _ :: _, _, _, _, _, _, h, _ => by cases h
  | _ :: _, [], _, _, _, _, _, h, _ => by cases h
theorem asgs_len : ∀ {is : List Nat} {ds : List D} {e e' : Ev}, asgs is ds e = some e' → ds.length = is.length
  | [], [], _, _, _ => rfl
  | i :: is, d :: ds, e, e', h => congrArg (· + 1) (asgs_len (is := is) h)
  | [], _ :: _, _, _, h => by cases h
  | _ :: _, [], _, _, h => by cases h
theorem asg_step {K : PySem.W.Frag} {bs0 bs : List Addr} {M : MS} {F0 H0 F H : Hp} {Q : L2.St → Hp → Prop} {e e' : Ev} {t : Tg} {d : D} {v : V} {σ : L2.St} (a : AtS K bs0 F0 H0 bs M F H σ e) (r : Rep K bs F v d) (h : asg t d e = some e')
    (q : ∀ σ', AtS K bs0 F0 H0 bs M F H σ' e' → (∀ ws, t.within ws → wipe σ' ws = wipe σ ws) → Q σ' H) : gOf K t v σ H Q := by
  cases t with
  | nm i =>
    cases h
    exact q _ (a.setv r) fun ws hi => wipe_set hi
  | tp is =>
    cases d with
    | tup ds =>
      cases r with
      | @tup p vs _ hp s =>
        refine ⟨p, vs, rfl, .inl (.inl (a.2.1.sub _ _ hp)), by rw [s.length]; exact asgs_len h, ?_⟩
        exact asgs_step a s h q
    | _ => cases h
abbrev ZG (X : Cx) (tg : Expr) (t : Tg) : Prop := PG X tg (gOf X.K t)
/-- target = e, the target a tuple of names -/
def dUnp (t : Tg) (f : DE) : DS := fun e => bnd (f e) fun d => bnd (lft (asg t d e)) fun e' => ret (.nx e')
theorem zs_unp {X : Cx} {W : Wi} {tg ex : Expr} {t : Tg} {fe : DE} {pos : Pos} (he : ZE X W ex fe) (hg : ZG X tg t) (hs : swapsWithSole [tg] ex pos.line X.env = pure false := by rfl) (hw : swappedStores [tg] ex X.env = pure none := by rfl)
    (h1 : (assignEach [tg] X.env).map (·.2) = [assign tg X.env] := by rfl) : ZS X W (.Assign [tg] ex pos) (dUnp t fe) := ⟨fun pins s σ H Dn I h => (ps_asg he hg hs hw h1).run pins s σ H Dn I (by
  obtain ⟨bs0, F0, H0, bs, M, F, e, a, run⟩ := h
  refine ⟨bs, M, F, e, a.at, (run.bind a).imp fun d bs1 M1 F1 H1 t1 w1 q v r => ?_⟩
  obtain ⟨a1, run1⟩ := q
  cases e1 : asg t d e with
  | none =>
    rw [e1] at run1
    exact run1.elim
  | some e' =>
    rw [e1] at run1
    exact asg_step a1 r e1 fun σ' a' _ => run1 _ _ _ _ a')⟩

/-! ### what is walked -/
structure IterOk (K : PySem.W.Frag) (J : It) (bs : List Addr) (F : Hp) (items : List D) : Prop where
  go : ∀ F' H', Same F F' → Same F' H' → ∀ i, i < items.length → J.go i H'
  stop : ∀ F' H', Same F F' → Same F' H' → J.stop items.length H'
  yld : ∀ (more : List Addr) (F' H' : Hp) (M' : MS), Same F F' → Wd K (bs ++ more) M' F' H' → ∀ i x H'' d, items[i]? = some d → J.yld i H' x H'' → ∃ F'', Tr (bs ++ more) F' H' (bs ++ more) F'' H'' ∧ Wd K (bs ++ more) M' F'' H'' ∧ Rep K (bs ++ more) F'' x d
def qI (K : PySem.W.Frag) (R : It → Hp → Prop) : QT (List D) := fun items bs _ F H => ∀ J, IterOk K J bs F items → R J H
def liftI (K : PySem.W.Frag) (W : Wi) (f : DA) : TI := fun σ H R => Lf K W f (qI K R) σ H
abbrev ZI (X : Cx) (W : Wi) (tg it : Expr) (f : DA) : Prop := PI X tg it (liftI X.K W f)
def dItems (f : DE) : DA := fun e => bnd (f e) fun x => match x with
  | .lst xs => ret xs
  | .tup xs => ret xs
  | _ => stuck
section
variable {X : Cx} {W : Wi} {K : PySem.W.Frag} {bs : List Addr} {F : Hp} {tg ex : Expr} {fe : DE}
theorem iter_lst {a : Addr} {vs : List V} {ds : List D} (h : F a = some (.lst vs)) (s : Reps K bs F vs ds) : IterOk K (Itl K a) bs F ds where
  go := fun F' H' s1 s2 i hi => ⟨vs, vs[i]'(by rw [s.length]; exact hi), .inl (.inl (s2 _ _ (s1 _ _ h))), by simp [s.length, hi]⟩
  stop := fun F' H' s1 s2 => ⟨vs, .inl (.inl (s2 _ _ (s1 _ _ h))), by rw [s.length]; exact Nat.le_refl _⟩
  yld := fun more F' H' M' s1 w i x H'' d hd y => by
    obtain ⟨rfl, y⟩ := y
    obtain ⟨v, e, r⟩ := s.get hd
    have e2 := y vs (.inl (.inl (w.sub _ _ (s1 _ _ h))))
    rw [e] at e2
    cases e2
    exact ⟨F', Tr.refl _ _ _, w, r.mono s1⟩
theorem iter_tup {a : Addr} {vs : List V} {ds : List D} (h : F a = some (.tup vs)) (s : Reps K bs F vs ds) : IterOk K (Itt K a) bs F ds where
  go := fun F' H' s1 s2 i hi => ⟨vs, vs[i]'(by rw [s.length]; exact hi), .inl (.inl (s2 _ _ (s1 _ _ h))), by simp [s.length, hi]⟩
  stop := fun F' H' s1 s2 => ⟨vs, .inl (.inl (s2 _ _ (s1 _ _ h))), by rw [s.length]; exact Nat.le_refl _⟩
  yld := fun more F' H' M' s1 w i x H'' d hd y => by
    obtain ⟨rfl, y⟩ := y
    obtain ⟨v, e, r⟩ := s.get hd
    have e2 := y vs (.inl (.inl (w.sub _ _ (s1 _ _ h))))
    rw [e] at e2
    cases e2
    exact ⟨F', Tr.refl _ _ _, w, r.mono s1⟩
theorem zi_seq (hf : ZE X W ex fe) : ZI X W tg ex (dItems fe) := ⟨fun pins s σ H R I h => by
  obtain ⟨bs, M, F, e, at0, run⟩ := h
  have rb := run.bind
  cases e1 : fe e M with
  | none =>
    rw [e1] at rb
    exact rb.elim
  | some p =>
    obtain ⟨r, M1⟩ := p
    cases r with
    | err c =>
      refine (pi_list hf).run pins s σ H R I ⟨bs, M, F, e, at0, ?_⟩
      rw [e1] at rb ⊢
      exact rb
    | ok d =>
      rw [e1] at rb
      cases d with
      | lst ds =>
        refine (pi_list hf).run pins s σ H R I ⟨bs, M, F, e, at0, ?_⟩
        rw [e1]
        intro bs1 F1 H1 t1 w1 v r
        cases r with
        | @lst a vs _ hp s => exact ⟨a, rfl, ⟨vs, .inl (.inl (w1.sub _ _ hp))⟩, Run.here w1 (rb bs1 F1 H1 t1 w1) _ (iter_lst hp s)⟩
      | tup ds =>
        refine (pi_tup hf).run pins s σ H R I ⟨bs, M, F, e, at0, ?_⟩
        rw [e1]
        intro bs1 F1 H1 t1 w1 v r
        cases r with
        | @tup a vs _ hp s => exact ⟨a, rfl, ⟨vs, .inl (.inl (w1.sub _ _ hp))⟩, Run.here w1 (rb bs1 F1 H1 t1 w1) _ (iter_tup hp s)⟩
      | _ =>
        refine (pi_list hf).run pins s σ H R I ⟨bs, M, F, e, at0, ?_⟩
        rw [e1]
        exact fun bs1 F1 H1 t1 w1 => (rb bs1 F1 H1 t1 w1).elim⟩
/-- ranges -/
def rngD (lo : Int) (n : Nat) : List D := (List.range n).map fun i : Nat => .int (lo + (i : Int))
theorem iter_rng {lo : Int} {n : Nat} : IterOk K (Itr lo n) bs F (rngD lo n) where
  go := fun F' H' s1 s2 i hi => by
    unfold rngD at hi
    rw [List.length_map, List.length_range] at hi
    exact hi
  stop := fun F' H' s1 s2 => by
    unfold rngD
    rw [List.length_map, List.length_range]
    exact Nat.le_refl _
  yld := fun more F' H' M' s1 w i x H'' d hd y => by
    obtain ⟨rfl, rfl⟩ := y
    unfold rngD at hd
    rw [List.getElem?_map] at hd
    cases e : (List.range n)[i]? with
    | none =>
      rw [e] at hd
      cases hd
    | some k =>
      rw [e] at hd
      obtain ⟨h1, h2⟩ := List.getElem?_eq_some_iff.mp e
      rw [List.getElem_range] at h2
      subst h2
      cases hd
      exact ⟨F', Tr.refl _ _ _, w, .int _⟩
def int1 : List D → Option Int
  | [.int j] => some j
  | _ => none
def int2 : List D → Option (Int × Int)
  | [.int i, .int j] => some (i, j)
  | _ => none
theorem int1_rep {ds : List D} {j : Int} {vs : List V} (h : int1 ds = some j) (r : Reps K bs F vs ds) : vs = [.int j] := by
  unfold int1 at h
  split at h
  · cases h
    obtain ⟨v, rfl, q⟩ := r.one
    cases q
    rfl
  · cases h
theorem int2_rep {ds : List D} {p : Int × Int} {vs : List V} (h : int2 ds = some p) (r : Reps K bs F vs ds) : vs = [.int p.1, .int p.2] := by
  unfold int2 at h
  split at h
  · cases h
    obtain ⟨v, u, rfl, q, q'⟩ := r.two
    cases q
    cases q'
    rfl
  · cases h
def b62 (i : Int) : Bool := decide (-4611686018427387904 ≤ i) && decide (i < 4611686018427387904)
theorem b62_of {i : Int} (h : b62 i = true) : -(2 ^ 62) ≤ i ∧ i < 2 ^ 62 := by
  unfold b62 at h
  simp only [Bool.and_eq_true, decide_eq_true_eq] at h
  omega
def dRng1 (g : DA) : DA := fun e => bnd (g e) fun ds => bnd (lft (int1 ds)) fun j => if b62 j = true then ret (rngD 0 j.toNat) else stuck
def dRng2 (g : DA) : DA := fun e => bnd (g e) fun ds => bnd (lft (int2 ds)) fun p => if (b62 p.1 && b62 p.2) = true then ret (rngD p.1 (p.2 - p.1).toNat) else stuck
theorem zi_rng1 {g : DA} {p pos : Pos} (hg : Gl X "range") (hm : X.mg "range" = none) (ha : ZA X W [ex] g) (hs : starEach [ex] X.env = [(false, eval ex X.env)] := by rfl) : ZI X W tg (.Call (.Name "range" p) [ex] [] pos) (dRng1 g) := ⟨fun pins s σ H R I h => (pi_range1 hg hm ha hs).run pins s σ H R I (by
  obtain ⟨bs, M, F, e, at0, run⟩ := h
  refine ⟨bs, M, F, e, at0, run.bind.imp fun ds bs1 M1 F1 H1 t1 w1 run1 vs r => ?_⟩
  cases e1 : int1 ds with
  | none =>
    rw [e1] at run1
    exact run1.elim
  | some j =>
    rw [e1] at run1
    have run2 := Run.here w1 run1.bind
    by_cases hj : b62 j = true
    · simp only [hj, if_true] at run2
      exact ⟨j, int1_rep e1 r, (b62_of hj).1, (b62_of hj).2, Run.here w1 run2 _ iter_rng⟩
    · simp only [hj, if_false] at run2
      exact run2.elim)⟩
theorem zi_rng2 {a b : Expr} {g : DA} {p pos : Pos} (hg : Gl X "range") (hm : X.mg "range" = none) (ha : ZA X W [a, b] g) (hs : starEach [a, b] X.env = [(false, eval a X.env), (false, eval b X.env)] := by rfl) (hs2 : starEach [b] X.env = [(false, eval b X.env)] := by rfl) : ZI X W tg (.Call (.Name "range" p) [a, b] [] pos) (dRng2 g) := ⟨fun pins s σ H R I h => (pi_range2 hg hm ha hs hs2).run pins s σ H R I (by
  obtain ⟨bs, M, F, e, at0, run⟩ := h
  refine ⟨bs, M, F, e, at0, run.bind.imp fun ds bs1 M1 F1 H1 t1 w1 run1 vs r => ?_⟩
  cases e1 : int2 ds with
  | none =>
    rw [e1] at run1
    exact run1.elim
  | some j =>
    rw [e1] at run1
    have run2 := Run.here w1 run1.bind
    by_cases hj : (b62 j.1 && b62 j.2) = true
    · simp only [hj, if_true] at run2
      rw [Bool.and_eq_true] at hj
      exact ⟨j.1, j.2, int2_rep e1 r, ⟨(b62_of hj.1).1, (b62_of hj.1).2, (b62_of hj.2).1, (b62_of hj.2).2⟩, Run.here w1 run2 _ iter_rng⟩
    · simp only [hj, if_false] at run2
      exact run2.elim)⟩
/-- enumerate of a list -/
def enmD : Nat → List D → List D
  | _, [] => []
  | k, x :: xs => .tup [.int k, x] :: enmD (k + 1) xs
theorem enmD_len : ∀ (k : Nat) (xs : List D), (enmD k xs).length = xs.length
  | _, [] => rfl
  | k, x :: xs => congrArg (· + 1) (enmD_len (k + 1) xs)
theorem enmD_get : ∀ (k : Nat) (xs : List D) (i : Nat) (d : D), (enmD k xs)[i]? = some d → ∃ x, xs[i]? = some x ∧ d = .tup [.int ((k + i : Nat) : Int), x]
  | _, [], _, _, h => by simp [enmD] at h
  | k, x :: xs, 0, d, h => by
    simp [enmD] at h
    exact ⟨x, rfl, h.symm⟩
  | k, x :: xs, i + 1, d, h => by
    obtain ⟨y, h1, h2⟩ := enmD_get (k + 1) xs i d (by simpa [enmD] using h)
    refine ⟨y, by simpa using h1, ?_⟩
    rw [h2, show k + 1 + i = k + (i + 1) by omega]
theorem iter_enm {a : Addr} {vs : List V} {ds : List D} (h : F a = some (.lst vs)) (s : Reps K bs F vs ds) : IterOk K (Ite K a) bs F (enmD 0 ds) where
  go := fun F' H' s1 s2 i hi => by
    rw [enmD_len] at hi
    exact ⟨vs, vs[i]'(by rw [s.length]; exact hi), .inl (.inl (s2 _ _ (s1 _ _ h))), by simp [s.length, hi]⟩
  stop := fun F' H' s1 s2 => ⟨vs, .inl (.inl (s2 _ _ (s1 _ _ h))), by rw [s.length, enmD_len]; exact Nat.le_refl _⟩
  yld := fun more F' H' M' s1 w i x H'' d hd y => by
    obtain ⟨T, z, rfl, hT, rfl, y⟩ := y
    obtain ⟨d', e1, rfl⟩ := enmD_get 0 ds i d hd
    obtain ⟨v, e, r⟩ := s.get e1
    have e2 := y vs (.inl (.inl (w.sub _ _ (s1 _ _ h))))
    rw [e] at e2
    cases e2
    obtain ⟨w2, t2⟩ := w.laid (.tup [.int (i : Nat), z]) hT
    refine ⟨_, t2, w2, .tup upd_same (.cons ?_ (.cons ((r.mono s1).tr t2) .nil))⟩
    rw [Nat.zero_add]
    exact .int _
def lst1 : List D → Option (List D)
  | [.lst xs] => some xs
  | _ => none
theorem lst1_rep {ds es : List D} {vs : List V} (h : lst1 ds = some es) (r : Reps K bs F vs ds) : ∃ a us, vs = [.ref a] ∧ F a = some (.lst us) ∧ Reps K bs F us es := by
  unfold lst1 at h
  split at h
  · cases h
    obtain ⟨v, rfl, q⟩ := r.one
    cases q with
    | lst hp s => exact ⟨_, _, rfl, hp, s⟩
  · cases h
def dEnm (g : DA) : DA := fun e => bnd (g e) fun ds => bnd (lft (lst1 ds)) fun xs => ret (enmD 0 xs)
theorem zi_enm {elts : List Expr} {kk : Nat} {g : DA} {p pos tpos : Pos} (hg : Gl X "enumerate") (hm : X.mg "enumerate" = none) (ha : ZA X W [ex] g) (hs : starEach [ex] X.env = [(false, eval ex X.env)] := by rfl) : ZI X W (.Tuple elts kk tpos) (.Call (.Name "enumerate" p) [ex] [] pos) (dEnm g) := ⟨fun pins s σ H R I h => (pi_enum hg hm ha hs).run pins s σ H R I (by
  obtain ⟨bs, M, F, e, at0, run⟩ := h
  refine ⟨bs, M, F, e, at0, run.bind.imp fun ds bs1 M1 F1 H1 t1 w1 run1 vs r => ?_⟩
  cases e1 : lst1 ds with
  | none =>
    rw [e1] at run1
    exact run1.elim
  | some xs =>
    rw [e1] at run1
    have run2 := Run.here w1 run1.bind
    obtain ⟨a, us, rfl, hp, s⟩ := lst1_rep e1 r
    exact ⟨a, us, rfl, .inl (.inl (w1.sub _ _ hp)), Run.here w1 run2 _ (iter_enm hp s)⟩)⟩
/-- zip -/
def zipD : List D → List D → List D
  | x :: xs, y :: ys => .tup [x, y] :: zipD xs ys
  | _, _ => []
theorem zipD_len : ∀ (xs ys : List D), (zipD xs ys).length = min xs.length ys.length
  | [], _ => by simp [zipD]
  | _ :: _, [] => by simp [zipD]
  | x :: xs, y :: ys => by
    simp only [zipD, List.length_cons, zipD_len xs ys]
    omega
theorem zipD_get : ∀ (xs ys : List D) (i : Nat) (d : D), (zipD xs ys)[i]? = some d → ∃ x y, xs[i]? = some x ∧ ys[i]? = some y ∧ d = .tup [x, y]
  | [], _, _, _, h => by simp [zipD] at h
  | _ :: _, [], _, _, h => by simp [zipD] at h
  | x :: xs, y :: ys, 0, d, h => by
    simp [zipD] at h
    exact ⟨x, y, rfl, rfl, h.symm⟩
  | x :: xs, y :: ys, i + 1, d, h => by
    obtain ⟨a, b, h1, h2, h3⟩ := zipD_get xs ys i d (by simpa [zipD] using h)
    exact ⟨a, b, by simpa using h1, by simpa using h2, h3⟩
theorem iter_zipL {a b : Addr} {vs us : List V} {ds es : List D} (h : F a = some (.lst vs)) (s : Reps K bs F vs ds) (h' : F b = some (.lst us)) (s' : Reps K bs F us es) : IterOk K (Itz K a b) bs F (zipD ds es) where
  go := fun F' H' s1 s2 i hi => by
    rw [zipD_len] at hi
    exact ⟨vs, us, vs[i]'(by rw [s.length]; omega), us[i]'(by rw [s'.length]; omega), .inl (.inl (s2 _ _ (s1 _ _ h))), .inl (.inl (s2 _ _ (s1 _ _ h'))), by simp, by simp⟩
  stop := fun F' H' s1 s2 => ⟨vs, us, .inl (.inl (s2 _ _ (s1 _ _ h))), .inl (.inl (s2 _ _ (s1 _ _ h'))), by rw [s.length, s'.length, zipD_len]; omega⟩
  yld := fun more F' H' M' s1 w i x H'' d hd y => by
    obtain ⟨T, p, q, rfl, hT, rfl, y1, y2⟩ := y
    obtain ⟨c, c', e1, e1', rfl⟩ := zipD_get ds es i d hd
    obtain ⟨v, e, r⟩ := s.get e1
    obtain ⟨v', e', r'⟩ := s'.get e1'
    have e2 := y1 vs (.inl (.inl (w.sub _ _ (s1 _ _ h))))
    have e2' := y2 us (.inl (.inl (w.sub _ _ (s1 _ _ h'))))
    rw [e] at e2
    rw [e'] at e2'
    cases e2
    cases e2'
    obtain ⟨w2, t2⟩ := w.laid (.tup [p, q]) hT
    exact ⟨_, t2, w2, .tup upd_same (.cons ((r.mono s1).tr t2) (.cons ((r'.mono s1).tr t2) .nil))⟩
theorem iter_zipT {a b : Addr} {vs us : List V} {ds es : List D} (h : F a = some (.tup vs)) (s : Reps K bs F vs ds) (h' : F b = some (.tup us)) (s' : Reps K bs F us es) : IterOk K (RZ.ItzT K a b) bs F (zipD ds es) where
  go := fun F' H' s1 s2 i hi => by
    rw [zipD_len] at hi
    exact ⟨vs, us, vs[i]'(by rw [s.length]; omega), us[i]'(by rw [s'.length]; omega), .inl (.inl (s2 _ _ (s1 _ _ h))), .inl (.inl (s2 _ _ (s1 _ _ h'))), by simp, by simp⟩
  stop := fun F' H' s1 s2 => ⟨vs, us, .inl (.inl (s2 _ _ (s1 _ _ h))), .inl (.inl (s2 _ _ (s1 _ _ h'))), by rw [s.length, s'.length, zipD_len]; omega⟩
  yld := fun more F' H' M' s1 w i x H'' d hd y => by
    obtain ⟨T, p, q, rfl, hT, rfl, y1, y2⟩ := y
    obtain ⟨c, c', e1, e1', rfl⟩ := zipD_get ds es i d hd
    obtain ⟨v, e, r⟩ := s.get e1
    obtain ⟨v', e', r'⟩ := s'.get e1'
    have e2 := y1 vs (.inl (.inl (w.sub _ _ (s1 _ _ h))))
    have e2' := y2 us (.inl (.inl (w.sub _ _ (s1 _ _ h'))))
    rw [e] at e2
    rw [e'] at e2'
    cases e2
    cases e2'
    obtain ⟨w2, t2⟩ := w.laid (.tup [p, q]) hT
    exact ⟨_, t2, w2, .tup upd_same (.cons ((r.mono s1).tr t2) (.cons ((r'.mono s1).tr t2) .nil))⟩
def zip2 : List D → Option (List D)
  | [.lst xs, .lst ys] => some (zipD xs ys)
  | [.tup xs, .tup ys] => some (zipD xs ys)
  | _ => none
def dZip (g : DA) : DA := fun e => bnd (g e) fun ds => lft (zip2 ds)
theorem zi_zip {a b : Expr} {elts : List Expr} {kk : Nat} {g : DA} {p pos tpos : Pos} (hg : Gl X "zip") (hm : X.mg "zip" = none) (ha : ZA X W [a, b] g) (hs : starEach [a, b] X.env = (false, eval a X.env) :: starEach [b] X.env := by rfl) (hpl : (backTo pos (starEach [b] X.env)).any (·.1) = false := by rfl) : ZI X W (.Tuple elts kk tpos) (.Call (.Name "zip" p) [a, b] [] pos) (dZip g) := ⟨fun pins s σ H R I h => (RZ.pi_zipA hg hm ha hs hpl).run pins s σ H R I (by
  obtain ⟨bs, M, F, e, at0, run⟩ := h
  refine ⟨bs, M, F, e, at0, run.bind.imp fun ds bs1 M1 F1 H1 t1 w1 run1 vs r => ?_⟩
  obtain ⟨z, ez, k⟩ := run1.of_lft
  have k2 := k bs1 F1 H1 (Tr.refl _ _ _) w1
  unfold zip2 at ez
  split at ez
  · cases ez
    obtain ⟨v, u, rfl, r1, r2⟩ := r.two
    cases r1 with
    | lst h1 s1 =>
      cases r2 with
      | lst h2 s2 => exact ⟨_, _, _, _, rfl, .inl ⟨.inl (.inl (w1.sub _ _ h1)), .inl (.inl (w1.sub _ _ h2)), k2 _ (iter_zipL h1 s1 h2 s2)⟩⟩
  · cases ez
    obtain ⟨v, u, rfl, r1, r2⟩ := r.two
    cases r1 with
    | tup h1 s1 =>
      cases r2 with
      | tup h2 s2 => exact ⟨_, _, _, _, rfl, .inr ⟨.inl (.inl (w1.sub _ _ h1)), .inl (.inl (w1.sub _ _ h2)), k2 _ (iter_zipT h1 s1 h2 s2)⟩⟩
  · cases ez)⟩
end

/-! ### for -/
def dLoop (t : Tg) (body : DS) : List D → DS
  | [], e => ret (.nx e)
  | x :: xs, e => bnd (lft (asg t x e)) fun e1 => bnd (body e1) fun o => match o with
    | .nx e2 => dLoop t body xs e2
    | .ct e2 => dLoop t body xs e2
    | .bk e2 => ret (.nx e2)
    | .rt d => ret (.rt d)
def dFor (fi : DA) (t : Tg) (body : DS) : DS := fun e => bnd (fi e) fun items => dLoop t body items e
theorem zs_for {X : Cx} {W : Wi} {tg iter : Expr} {body : List Stmt} {fi : DA} {t : Tg} {fb : DS} {pos : Pos} (hp : PassesOwn (model X.prog X.w) X.A X.env X.xe) (hc : X.calm = true) (hi : ZI X W tg iter fi) (hg : ZG X tg t) (hb : ZSs X W body fb)
    (hs : ∀ x, foldedSetIterable iter X.env x = pure x := by intro _; rfl) : ZS X W (.For tg iter body [] pos) (dFor fi t fb) := ⟨fun pins s σ H Dn I h => (ps_for hp hc hi hg hb hs).run pins s σ H Dn I (by
  obtain ⟨bs0, F0, H0, bs, M, F, e, a, run⟩ := h
  refine ⟨bs, M, F, e, a.at, (run.bind a).imp fun items bs1 M1 F1 H1 t1 w1 q J it => ?_⟩
  obtain ⟨a1, run1⟩ := q
  have run2 := run1.rebase a1.1
  refine ⟨fun i m σ H => m = items.length - i ∧ i ≤ items.length ∧ ∃ bs M F e, AtS X.K bs1 F1 H0 bs M F H σ e ∧ RunS X.K W bs1 F1 H0 (dLoop t fb (items.drop i) e M) Dn, ⟨_, rfl, Nat.zero_le _, bs1, M1, F1, e, a1.rebase, run2⟩, ?_⟩
  rintro i m σ2 H2 ⟨rfl, hi2, bs2, M2, F2, e2, a2, r2⟩
  obtain ⟨more, eb, _⟩ := a2.1.pre
  by_cases hlt : i < items.length
  · have ed : items.drop i = items[i] :: items.drop (i + 1) := List.drop_eq_getElem_cons hlt
    rw [ed] at r2
    refine .inr ⟨it.go F2 H2 a2.1.fm a2.2.1.sub i hlt, fun σ' H' => ∃ bs M F e, AtS X.K bs1 F1 H0 bs M F H' σ' e ∧ RunS X.K W bs1 F1 H0 (dLoop t fb (items.drop (i + 1)) e M) Dn, fun σ' H' n => ⟨_, by omega, rfl, hlt, n⟩, fun x H3 y => ?_⟩
    obtain ⟨F3, t3, w3, r3⟩ := it.yld more F2 H2 M2 a2.1.fm (eb ▸ a2.2.1) i x H3 items[i] (List.getElem?_eq_getElem hlt) y
    rw [← eb] at t3 w3 r3
    have a3 := a2.tr t3 w3
    unfold dLoop at r2
    cases e1 : asg t items[i] e2 with
    | none =>
      rw [e1] at r2
      exact r2.elim
    | some e4 =>
      rw [e1] at r2
      refine asg_step a3 r3 e1 fun σ4 a4 _ => ⟨bs1, F1, H0, bs2, M2, F3, e4, a4, ?_⟩
      unfold bnd lft at r2
      simp only at r2
      cases e5 : fb e4 M2 with
      | none =>
        rw [e5] at r2
        exact r2
      | some p =>
        obtain ⟨r, M5⟩ := p
        rw [e5] at r2
        cases r with
        | err c => exact r2
        | ok o =>
          cases o with
          | nx e6 => exact fun bs F H σ a => ⟨bs, M5, F, e6, a, r2⟩
          | ct e6 => exact fun bs F H σ a => ⟨bs, M5, F, e6, a, r2⟩
          | bk e6 => exact fun bs F H σ a => r2 bs F H σ a
          | rt d => exact r2
  · have e0 : i = items.length := by omega
    refine .inl ⟨by rw [e0]; exact it.stop F2 H2 a2.1.fm a2.2.1.sub, ?_⟩
    rw [e0, List.drop_length] at r2
    exact r2 _ _ _ _ a2)⟩

/-! ### while -/
def dWh (c : DT) (body : DS) : Nat → DS
  | 0, _ => stuck
  | n + 1, e => bnd (c e) fun k => if k = true then (bnd (body e) fun o => match o with
    | .nx e2 => dWh c body n e2
    | .ct e2 => dWh c body n e2
    | .bk e2 => ret (.nx e2)
    | .rt d => ret (.rt d)) else ret (.nx e)
theorem zs_while {X : Cx} {W : Wi} {c : Expr} {body : List Stmt} {ft : DT} {fb : DS} {pos : Pos} (n : Nat) (hp : PassesOwn (model X.prog X.w) X.A X.env X.xe) (hc : ZT X W c ft) (hb : ZSs X W body fb) : ZS X W (.While c body [] pos) (dWh ft fb n) := ⟨fun pins s σ H Dn I h => (ps_while hp hc hb).run pins s σ H Dn I (by
  obtain ⟨bs0, F0, H0, bs, M, F, e, a, run⟩ := h
  refine ⟨fun m σ H => ∃ bs M F e, AtS X.K bs0 F0 H0 bs M F H σ e ∧ RunS X.K W bs0 F0 H0 (dWh ft fb m e M) Dn, ⟨n, bs, M, F, e, a, run⟩, ?_⟩
  rintro m σ2 H2 ⟨bs2, M2, F2, e2, a2, r2⟩
  cases m with
  | zero => exact r2.elim
  | succ m =>
    unfold dWh at r2
    refine ⟨bs2, M2, F2, e2, a2.at, (r2.bind a2).imp fun k bs3 M3 F3 H3 t3 w3 q => ?_⟩
    obtain ⟨a3, r3⟩ := q
    cases k with
    | false =>
      simp only [qT, Bool.false_eq_true, if_false] at r3 ⊢
      exact r3 _ _ _ _ a3
    | true =>
      simp only [qT, if_true] at r3 ⊢
      refine ⟨fun σ' H' => ∃ bs M F e, AtS X.K bs0 F0 H0 bs M F H' σ' e ∧ RunS X.K W bs0 F0 H0 (dWh ft fb m e M) Dn, fun σ' H' q => ⟨m, Nat.lt_succ_self m, q⟩, bs0, F0, H0, bs3, M3, F3, e2, a3, ?_⟩
      unfold bnd at r3
      cases e5 : fb e2 M3 with
      | none =>
        rw [e5] at r3
        exact r3
      | some p =>
        obtain ⟨r, M5⟩ := p
        rw [e5] at r3
        cases r with
        | err c => exact r3
        | ok o =>
          cases o with
          | nx e6 => exact fun bs F H σ a => ⟨bs, M5, F, e6, a, r3⟩
          | ct e6 => exact fun bs F H σ a => ⟨bs, M5, F, e6, a, r3⟩
          | bk e6 => exact fun bs F H σ a => r3 bs F H σ a
          | rt d => exact r3)⟩
end Z

/-! Z6: comprehensions, lists of the def's own, objects, defs, calls -/
namespace Z
open PySem PySem.Spec PyProof.Rows L2
variable [Tbs]

/-! ### comprehensions -/
def wipeE (e : Ev) : List Nat → Ev
  | [] => e
  | u :: vs => (wipeE e vs).set u .no
theorem Slots.wipe {K : PySem.W.Frag} {bs : List Addr} {F H : Hp} {σ : L2.St} {e : Ev} {os : List Addr} (s : Slots K bs F H σ e os) : ∀ vs : List Nat, ∃ os', Slots K bs F H (L2.wipe σ vs) (wipeE e vs) os' ∧ ∀ a ∈ os', a ∈ os
  | [] => ⟨os, s, fun _ h => h⟩
  | u :: vs => by
    obtain ⟨os1, s1, h1⟩ := Slots.wipe s vs
    obtain ⟨os2, s2, h2⟩ := s1.setno (x := none) u
    exact ⟨os2, s2, fun a ha => h1 a (h2 a ha)⟩
theorem wipe_wipe (σ : L2.St) (vs : List Nat) : L2.wipe (L2.wipe σ vs) vs = L2.wipe σ vs := by
  have key : ∀ (us : List Nat), (∀ u ∈ us, u ∈ vs) → L2.wipe (L2.wipe σ vs) us = L2.wipe σ vs := by
    intro us
    induction us with
    | nil => intro _; rfl
    | cons u us ih =>
      intro h
      show (L2.wipe (L2.wipe σ vs) us).set u none = _
      rw [ih fun w hw => h w (List.mem_cons_of_mem _ hw)]
      have q : ∀ (ws : List Nat), u ∈ ws → (L2.wipe σ ws).set u none = L2.wipe σ ws := by
        intro ws
        induction ws with
        | nil => intro hz; simp at hz
        | cons w ws ih2 =>
          intro hz
          show ((L2.wipe σ ws).set w none).set u none = (L2.wipe σ ws).set w none
          by_cases e : w = u
          · rw [e, List.set_set]
          · rw [List.set_comm _ _ e, ih2 ((List.mem_cons.mp hz).elim (fun z => absurd z.symm e) id)]
      exact q vs (h u List.mem_cons_self)
  exact key vs fun _ h => h
theorem bnd_assoc {α β γ : Type} {m : Mo α} {f : α → Mo β} {g : β → Mo γ} : bnd (bnd m f) g = bnd m fun a => bnd (f a) g := by
  funext M
  unfold bnd
  cases e : m M with
  | none => rfl
  | some p =>
    obtain ⟨r, M'⟩ := p
    cases r <;> rfl
abbrev DTs := Ev → Mo Bool
def liftTs (K : PySem.W.Frag) (W : Wi) (f : DTs) : TT := liftT K W f
abbrev ZTs (X : Cx) (W : Wi) (ifs : List Expr) (f : DT) : Prop := PTs X ifs (liftT X.K W f)
def dYes : DT := fun _ => ret true
theorem zts_nil {X : Cx} {W : Wi} : ZTs X W [] dYes := ⟨fun pins s σ H Q I h => pts_nil.run pins s σ H Q I (by
  obtain ⟨bs, M, F, e, at0, run⟩ := h
  have z : qT Q true bs M F H := Run.here at0.1 run
  exact z)⟩
theorem zts_one {X : Cx} {W : Wi} {c : Expr} {f : DT} (h : ZT X W c f) : ZTs X W [c] f := pts_one h
/-- no error leaves -/
def noErr {α : Type} (m : Mo α) : Mo α := fun M => match m M with
  | some (.ok a, M') => some (.ok a, M')
  | _ => none
def dLcLoop (t : Tg) (ft : DT) (fe : DE) (e0 : Ev) : List D → List D → Mo (List D)
  | [], acc => ret acc
  | x :: xs, acc => bnd (lft (asg t x e0)) fun e1 => bnd (noErr (ft e1)) fun k => if k = true then bnd (noErr (fe e1)) fun y => if acc.length < 100000 then dLcLoop t ft fe e0 xs (acc ++ [y]) else stuck else dLcLoop t ft fe e0 xs acc
def dLc (fi : DA) (t : Tg) (ft : DT) (fe : DE) (vs : List Nat) : DE := fun e => bnd (fi e) fun items => bnd (dLcLoop t ft fe (wipeE e vs) items []) fun ys => ret (.lst ys)
section
variable {X : Cx} {W : Wi} {K : PySem.W.Frag}
theorem Run.noErr {α : Type} {bs : List Addr} {M : MS} {F H : Hp} {σ σ' : L2.St} {m : Mo α} {q : QT α} (h : Run K W bs F H σ (noErr m M) q) : Run K W0 bs F H σ' (m M) q := by
  unfold Z.noErr at h
  cases e : m M with
  | none =>
    rw [e] at h
    exact h
  | some p =>
    obtain ⟨r, M'⟩ := p
    rw [e] at h
    cases r with
    | ok a => exact h
    | err c => exact h.elim
theorem Run.bindB {α β : Type} {bs1 bs : List Addr} {M : MS} {F1 H1 F H : Hp} {σ : L2.St} {m : Mo α} {f : α → Mo β} {q : QT β} (h : Run K W bs1 F1 H1 σ (bnd m f M) q) (t : Tr bs1 F1 H1 bs F H) : Run K W bs F H σ (m M) (fun a _ M' _ _ => Run K W bs1 F1 H1 σ (f a M') q) := by
  unfold bnd at h
  cases e1 : m M with
  | none =>
    rw [e1] at h
    exact h
  | some p =>
    obtain ⟨r, M1⟩ := p
    rw [e1] at h
    cases r with
    | err c => exact fun bs' F' H' t' w' => h bs' F' H' (t.trans t') w'
    | ok a => exact fun bs' F' H' t' w' => h
/-- the new list is frozen -/
theorem freeze_ok {bs1 bs : List Addr} {M : MS} {F1 H1 F H : Hp} {D : Addr} {vs : List V} {acc : List Z.D} (hD : H1 D = none) (t : Tr bs1 F1 H1 bs F H) (w : Wd K bs M F H) (hd : H D = some (.lst vs)) (fd : F D = none) (nb : D ∉ bs) (rp : Reps K bs F vs acc) :
    Tr bs1 F1 H1 bs (upd F D (.lst vs)) H ∧ Wd K bs M (upd F D (.lst vs)) H ∧ Rep K bs (upd F D (.lst vs)) (.ref D) (.lst acc) := by
  have sF : Same F (upd F D (.lst vs)) := fun b u e => by rw [upd_ne (ne_of_none e fd)]; exact e
  refine ⟨⟨t.pre, t.fm.trans sF, fun a o h => ?_, t.keep0, t.dom⟩, ⟨fun b u e => ?_, w.nd, w.len, fun i b ds e1 e2 => ?_, w.tab, tabF_upd w.tabF w.tab fun _ e => by rw [hd] at e; cases e⟩, .lst upd_same ?_⟩
  · by_cases z : a = D
    · exact .inr (by rw [z]; exact hD)
    · rw [upd_ne z] at h
      exact t.new a o h
  · by_cases z : b = D
    · subst z
      rw [upd_same] at e
      rw [hd]
      exact e
    · rw [upd_ne z] at e
      exact w.sub b u e
  · obtain ⟨n1, us, e3, r⟩ := w.objs i b ds e1 e2
    have z : b ≠ D := fun z => nb (by rw [← z]; exact List.mem_of_getElem? e1)
    refine ⟨by rw [upd_ne z]; exact n1, us, e3, ?_⟩
    have := r.mono (more := []) sF
    rwa [List.append_nil] at this
  · have := rp.mono (more := []) sF
    rwa [List.append_nil] at this
/-- a list of one's own is changed -/
theorem wr_ok {bs1 bs : List Addr} {M : MS} {F1 H1 F H : Hp} {D : Addr} {o : HO} {vs : List V} (hD : H1 D = none) (t : Tr bs1 F1 H1 bs F H) (w : Wd K bs M F H) (fd : F D = none) (nb : D ∉ bs) (hs : (∃ us, H D = some (.lst us)) ∨ ∃ kvs, H D = some (.dK kvs)) : Tr bs1 F1 H1 bs F (upd H D o) ∧ Wd K bs M F (upd H D o) := by
  refine ⟨⟨t.pre, t.fm, t.new, fun a u e hx nt => ?_, fun a e => ?_⟩, ⟨fun b u e => ?_, w.nd, w.len, fun i b ds e1 e2 => ?_, hs.elim (fun ⟨_, q⟩ => tabs_lst w.tab q) fun ⟨_, q⟩ => tabs_dK w.tab q, w.tabF⟩⟩
  · rw [upd_ne (ne_of_none e hD)]
    exact t.keep0 a u e hx nt
  · by_cases z : a = D
    · subst z
      rw [upd_same]
      simp
    · rw [upd_ne z]
      exact t.dom a e
  · rw [upd_ne (ne_of_none e fd)]
    exact w.sub b u e
  · obtain ⟨n1, us, e3, r⟩ := w.objs i b ds e1 e2
    have z : b ≠ D := fun z => nb (by rw [← z]; exact List.mem_of_getElem? e1)
    exact ⟨n1, us, by rw [upd_ne z]; exact e3, r⟩
/-- the invariant of a comprehension -/
def LcI (K : PySem.W.Frag) (W : Wi) (bs1 : List Addr) (F1 H1 : Hp) (σ : L2.St) (D : Addr) (r : List Z.D → Mo (List Z.D)) (Q : VK) (H : Hp) : Prop :=
  ∃ bs M F vs acc, Tr bs1 F1 H1 bs F H ∧ Wd K bs M F H ∧ H D = some (.lst vs) ∧ F D = none ∧ D ∉ bs ∧ Reps K bs F vs acc ∧ Run K W bs1 F1 H1 σ (bnd (r acc) (fun ys => ret (Z.D.lst ys)) M) (qE K Q)
theorem lc_lift {wi : DA} {t : Tg} {ft : DT} {fe : DE} {vs : List Nat} {σ : L2.St} {H : Hp} {Q : VK} (hw : t.within vs) (h : liftE K W (dLc wi t ft fe vs) σ H Q) : tLc (liftI K W wi) (gOf K t) (liftT K W0 ft) (liftE K W0 fe) vs σ H Q := by
  obtain ⟨bs, M, F, e, at0, run⟩ := h
  refine ⟨bs, M, F, e, at0, run.bind.imp fun items bs1 M1 F1 H1 t1 w1 run1 J it D hD => ?_⟩
  have at1 := at0.tr t1 w1
  obtain ⟨w1', os1, sl1⟩ := at1
  obtain ⟨os0, sl0, _⟩ := sl1.wipe vs
  refine ⟨fun i m H => m = items.length - i ∧ i ≤ items.length ∧ LcI K W bs1 F1 H1 σ D (dLcLoop t ft fe (wipeE e vs) (items.drop i)) Q H, ⟨_, rfl, Nat.zero_le _, ?_⟩, ?_⟩
  · obtain ⟨w2, t2⟩ := w1.lost (.lst []) hD
    exact ⟨bs1, M1, F1, [], [], t2, w2, upd_same, w1.fnone hD, w1.notin hD, .nil, run1⟩
  · rintro i m H2 ⟨rfl, hi2, bs2, M2, F2, us, acc, t2, w2, hd, fd, nb, rp, r2⟩
    obtain ⟨more, eb, _⟩ := t2.pre
    by_cases hlt : i < items.length
    · have ed : items.drop i = items[i] :: items.drop (i + 1) := List.drop_eq_getElem_cons hlt
      rw [ed] at r2
      refine .inr ⟨it.go F2 H2 t2.fm w2.sub i hlt, LcI K W bs1 F1 H1 σ D (dLcLoop t ft fe (wipeE e vs) (items.drop (i + 1))) Q, fun H' n => ⟨_, by omega, rfl, hlt, n⟩, fun x H3 y => ?_⟩
      obtain ⟨F3, t3, w3, r3⟩ := it.yld more F2 H2 M2 t2.fm (eb ▸ w2) i x H3 items[i] (List.getElem?_eq_getElem hlt) y
      rw [← eb] at t3 w3 r3
      have t03 := t2.trans t3
      have a3 : AtS K bs1 F1 H1 bs2 M2 F3 H3 (L2.wipe σ vs) (wipeE e vs) ∨ True := .inr trivial
      have s3 := sl0.tr t03
      unfold dLcLoop at r2
      cases e1 : asg t items[i] (wipeE e vs) with
      | none =>
        rw [e1] at r2
        exact r2.elim
      | some e4 =>
        rw [e1] at r2
        have as3 : AtS K bs2 F3 (fun _ => none) bs2 M2 F3 H3 (L2.wipe σ vs) (wipeE e vs) := ⟨⟨⟨[], by simp, by simp⟩, Same.refl _, fun _ _ h => .inl h, fun _ _ h _ _ => (by cases h), fun _ h => absurd rfl h⟩, w3, _, s3, fun _ _ => rfl⟩
        refine asg_step as3 r3 e1 fun σ4 a4 hw4 => ⟨by rw [hw4 vs hw]; exact wipe_wipe σ vs, ?_⟩
        have r2' : Run K W bs1 F1 H1 σ (bnd (bnd (noErr (ft e4)) fun k => if k = true then bnd (noErr (fe e4)) fun y => if acc.length < 100000 then dLcLoop t ft fe (wipeE e vs) (items.drop (i + 1)) (acc ++ [y]) else stuck else dLcLoop t ft fe (wipeE e vs) (items.drop (i + 1)) acc) (fun ys => ret (Z.D.lst ys)) M2) (qE K Q) := r2
        have r5 := (bnd_assoc ▸ r2').bindB t03
        refine ⟨bs2, M2, F3, e4, a4.at, r5.noErr.imp fun k bs6 M6 F6 H6 t6 w6 r6 => ?_⟩
        have t06 := t03.trans t6
        have hd6 := t6.keep _ _ (t3.keep _ _ hd nb) nb
        have fd6 := t6.free (t3.keep _ _ hd nb) (t3.free hd fd)
        have nb6 := t6.notin (t3.keep _ _ hd nb) nb
        cases k with
        | false =>
          simp only [qT, Bool.false_eq_true, if_false] at r6 ⊢
          exact ⟨bs6, M6, F6, us, acc, t06, w6, hd6, fd6, nb6, (rp.tr t3).tr t6, r6⟩
        | true =>
          simp only [qT, if_true] at r6 ⊢
          have r7 := (bnd_assoc ▸ r6).bindB t06
          refine ⟨bs6, M6, F6, e4, a4.at.tr t6 w6, r7.noErr.imp fun y bs8 M8 F8 H8 t8 w8 r8 v8 rv8 => ?_⟩
          by_cases hl : acc.length < 100000
          · rw [if_pos hl] at r8
            have t08 := t06.trans t8
            have hd8 := t8.keep _ _ hd6 nb6
            have fd8 := t8.free hd6 fd6
            have nb8 := t8.notin hd6 nb6
            have rp8 := ((rp.tr t3).tr t6).tr t8
            obtain ⟨t9, w9⟩ := wr_ok (o := .lst (us ++ [v8])) (vs := us) hD t08 w8 fd8 nb8 (.inl ⟨_, hd8⟩)
            exact ⟨us, hd8, by rw [rp8.length, sizeLine_eq]; omega, bs8, M8, F8, us ++ [v8], acc ++ [y], t9, w9, upd_same, fd8, nb8, rp8.append (.cons rv8 .nil), r8⟩
          · rw [if_neg hl] at r8
            exact r8.elim
    · have e0 : i = items.length := by omega
      refine .inl ⟨by rw [e0]; exact it.stop F2 H2 t2.fm w2.sub, ?_⟩
      rw [e0, List.drop_length] at r2
      obtain ⟨t9, w9, rr⟩ := freeze_ok hD t2 w2 hd fd nb rp
      exact r2 _ _ _ t9 w9 _ rr
theorem ze_lc {elt tg iter : Expr} {ifs : List Expr} {scope : Scope} {own : List (Str × Nat)} {pos : Pos} {fi : DA} {t : Tg} {ft : DT} {fe : DE} (hw : t.within (own.map (·.2))) (hc : X.calm = true) (hN : X.N.Nodup) (hi : ZI X W tg iter fi) (ok : BlkOk X.N X.env.scope scope own)
    (hg : ∀ (s : Shared) (H : Hp) (C : Addr) (cl : List (Str × Addr)) (fp : List Addr), ZG (X.blk s H scope (compEnvC scope cl C X.env) fp) tg t) (ht : ∀ (s : Shared) (H : Hp) (C : Addr) (cl : List (Str × Addr)) (fp : List Addr), ZTs (X.blk s H scope (compEnvC scope cl C X.env) fp) W0 ifs ft)
    (he : ∀ (s : Shared) (H : Hp) (C : Addr) (cl : List (Str × Addr)) (fp : List Addr), ZE (X.blk s H scope (compEnvC scope cl C X.env) fp) W0 elt fe) (hs : ∀ x, foldedSetIterable iter X.env x = pure x := by intro _; rfl) :
    ZE X W (.ListComp elt [⟨tg, iter, ifs, 0⟩] scope pos) (dLc fi t ft fe (own.map (·.2))) :=
  ⟨fun pins s σ H Q I h => (pe_lc hc hN hi ok hg ht he hs).run pins s σ H Q I (lc_lift hw h)⟩
/-- x = [.. for ..], on one line -/
theorem zs_setLc {i : Nat} {y : Str} {py : Pos} {elt tg iter : Expr} {ifs : List Expr} {scope : Scope} {own : List (Str × Nat)} {pos spos : Pos} {fi : DA} {t : Tg} {ft : DT} {fe : DE} (hw : t.within (own.map (·.2))) (hc : X.calm = true) (hN : X.N.Nodup) (hy : X.N[i]? = some y) (hyl : X.env.scope.names.lookup y = some .local)
    (hsw : swapsWith (.ListComp elt [⟨tg, iter, ifs, 0⟩] scope pos) (some (.Name y py)) spos.line X.env = pure true) (hi : ZI X W tg iter fi) (ok : BlkOk X.N X.env.scope scope own)
    (hg : ∀ (s : Shared) (H : Hp) (C : Addr) (cl : List (Str × Addr)) (fp : List Addr), ZG (X.blk s H scope (compEnvC scope cl C X.env) fp) tg t) (ht : ∀ (s : Shared) (H : Hp) (C : Addr) (cl : List (Str × Addr)) (fp : List Addr), ZTs (X.blk s H scope (compEnvC scope cl C X.env) fp) W0 ifs ft)
    (he : ∀ (s : Shared) (H : Hp) (C : Addr) (cl : List (Str × Addr)) (fp : List Addr), ZE (X.blk s H scope (compEnvC scope cl C X.env) fp) W0 elt fe) (hs : ∀ x, foldedSetIterable iter X.env x = pure x := by intro _; rfl) :
    ZS X W (.Assign [.Name y py] (.ListComp elt [⟨tg, iter, ifs, 0⟩] scope pos) spos) (dSet i (dLc fi t ft fe (own.map (·.2)))) :=
  ⟨fun pins s σ H Dn I h => (ps_setLc hc hN hy hyl hsw hi ok hg ht he hs).run pins s σ H Dn I (by
    obtain ⟨bs0, F0, H0, bs, M, F, e, a, run⟩ := h
    exact lc_lift hw ⟨bs, M, F, e, a.at, (run.bind a).imp fun d bs1 M1 F1 H1 t1 w1 q v r => q.2 _ _ _ _ (q.1.setv r)⟩)⟩
end
end Z

/-! Z7: lists of the def's own, mutable lists, defs, the law's end -/
namespace Z
open PySem PySem.Spec PyProof.Rows L2
variable [Tbs]

/-! ### a list of one's own becomes a value -/
def frz (j : Nat) (e : Ev) : Ev := match e[j]? with
  | some (.own ds) => e.set j (.v (.lst ds))
  | some (.ownD ks ds) => e.set j (.v (.dct ks ds))
  | _ => e
theorem frz_succ (x : Sl) (e : Ev) (j : Nat) : frz (j + 1) (x :: e) = x :: frz j e := by
  unfold frz
  rw [List.getElem?_cons_succ]
  cases e[j]? with
  | none => rfl
  | some s => cases s <;> rfl
def dFrz (j : Nat) (g : DS) : DS := fun e => g (frz j e)
section
variable {K : PySem.W.Frag} {W : Wi} {bs0 bs : List Addr} {M : MS} {F0 H0 F H : Hp} {σ : L2.St} {e : Ev}
theorem Slots.other {a : Addr} {o : HO} (fa : F a = none) : ∀ {σ : L2.St} {e : Ev} {os : List Addr}, a ∉ os → Slots K bs F H σ e os → Slots K bs (upd F a o) H σ e os := by
  have sF : Same F (upd F a o) := fun b u q => by rw [upd_ne (ne_of_none q fa)]; exact q
  have mono : ∀ {v : V} {d : Z.D}, Rep K bs F v d → Rep K bs (upd F a o) v d := fun r => by
    have := r.mono (more := []) sF
    rwa [List.append_nil] at this
  have monos : ∀ {v : List V} {d : List Z.D}, Reps K bs F v d → Reps K bs (upd F a o) v d := fun r => by
    have := r.mono (more := []) sF
    rwa [List.append_nil] at this
  intro σ e os ha s
  induction s with
  | nil => exact .nil
  | no t ih => exact .no (ih ha)
  | v r t ih => exact .v (mono r) (ih ha)
  | own h hf hb ho r t ih => exact .own h (by rw [upd_ne (fun z => ha (by rw [z]; exact List.mem_cons_self))]; exact hf) hb ho (monos r) (ih fun z => ha (List.mem_cons_of_mem _ z))
  | ownD h hf hb ho hk r t ih => exact .ownD h (by rw [upd_ne (fun z => ha (by rw [z]; exact List.mem_cons_self))]; exact hf) hb ho hk (monos r) (ih fun z => ha (List.mem_cons_of_mem _ z))
theorem Slots.frz : ∀ {σ : L2.St} {e : Ev} {os : List Addr} (j : Nat), Slots K bs F H σ e os → ∃ F' os', Slots K bs F' H σ (Z.frz j e) os' ∧ (∀ a ∈ os', a ∈ os) ∧ (F' = F ∨ ∃ a o, a ∈ os ∧ F a = none ∧ a ∉ bs ∧ H a = some o ∧ F' = upd F a o ∧ ∀ ps, o ≠ .tbl ps) := by
  intro σ e os j s
  have key : ∀ {σ : L2.St} {e : Ev} {os : List Addr} (j : Nat), Slots K bs F H σ e os → (∃ ds, e[j]? = some (.own ds)) ∨ (∃ ks ds, e[j]? = some (.ownD ks ds)) → ∃ F' os', Slots K bs F' H σ (Z.frz j e) os' ∧ (∀ a ∈ os', a ∈ os) ∧ (∃ a o, a ∈ os ∧ F a = none ∧ a ∉ bs ∧ H a = some o ∧ F' = upd F a o ∧ ∀ ps, o ≠ .tbl ps) := by
    intro σ e os j s
    induction s generalizing j with
    | nil => intro h; rcases h with ⟨_, h⟩ | ⟨_, _, h⟩ <;> simp at h
    | no t ih =>
      intro h
      cases j with
      | zero => rcases h with ⟨_, h⟩ | ⟨_, _, h⟩ <;> simp at h
      | succ j =>
        obtain ⟨F', os', q1, q2, q3⟩ := ih j (by simpa using h)
        refine ⟨F', os', ?_, q2, q3⟩
        rw [frz_succ]
        exact .no q1
    | v r t ih =>
      intro h
      cases j with
      | zero => rcases h with ⟨_, h⟩ | ⟨_, _, h⟩ <;> simp at h
      | succ j =>
        obtain ⟨F', os', q1, q2, q3⟩ := ih j (by simpa using h)
        refine ⟨F', os', ?_, q2, q3⟩
        obtain ⟨a, o, _, fa, _, _, rfl, _⟩ := q3
        have sF : Same F (upd F a o) := fun b u q => by rw [upd_ne (ne_of_none q fa)]; exact q
        have r' := r.mono (more := []) sF
        rw [List.append_nil] at r'
        rw [frz_succ]
        exact .v r' q1
    | @own a vs ds σ e os h1 hf hb ho r t ih =>
      intro h
      cases j with
      | zero =>
        have sF : Same F (upd F a (.lst vs)) := fun b u q => by rw [upd_ne (ne_of_none q hf)]; exact q
        have r' := r.mono (more := []) sF
        rw [List.append_nil] at r'
        exact ⟨upd F a (.lst vs), os, .v (.lst upd_same r') (t.other hf ho), fun b hb => List.mem_cons_of_mem _ hb, a, _, List.mem_cons_self, hf, hb, h1, rfl, fun _ z => by cases z⟩
      | succ j =>
        obtain ⟨F', os', q1, q2, a2, o, m2, fa, nb, h2, rfl, hto⟩ := ih j (by simpa using h)
        have sF : Same F (upd F a2 o) := fun b u q => by rw [upd_ne (ne_of_none q fa)]; exact q
        have r' := r.mono (more := []) sF
        rw [List.append_nil] at r'
        have ne : a ≠ a2 := fun z => ho (by rw [z]; exact m2)
        refine ⟨_, a :: os', ?_, fun b hb => (List.mem_cons.mp hb).elim (fun z => by rw [z]; exact List.mem_cons_self) fun z => List.mem_cons_of_mem _ (q2 b z), a2, o, List.mem_cons_of_mem _ m2, fa, nb, h2, rfl, hto⟩
        rw [frz_succ]
        exact .own h1 (by rw [upd_ne ne]; exact hf) hb (fun z => ho (q2 _ z)) r' q1
    | @ownD a kvs ks ds σ e os h1 hf hb ho hk r t ih =>
      intro h
      cases j with
      | zero =>
        have sF : Same F (upd F a (.dK kvs)) := fun b u q => by rw [upd_ne (ne_of_none q hf)]; exact q
        have r' := r.mono (more := []) sF
        rw [List.append_nil] at r'
        exact ⟨upd F a (.dK kvs), os, .v (.dct upd_same hk r') (t.other hf ho), fun b hb => List.mem_cons_of_mem _ hb, a, _, List.mem_cons_self, hf, hb, h1, rfl, fun _ z => by cases z⟩
      | succ j =>
        obtain ⟨F', os', q1, q2, a2, o, m2, fa, nb, h2, rfl, hto⟩ := ih j (by simpa using h)
        have sF : Same F (upd F a2 o) := fun b u q => by rw [upd_ne (ne_of_none q fa)]; exact q
        have r' := r.mono (more := []) sF
        rw [List.append_nil] at r'
        have ne : a ≠ a2 := fun z => ho (by rw [z]; exact m2)
        refine ⟨_, a :: os', ?_, fun b hb => (List.mem_cons.mp hb).elim (fun z => by rw [z]; exact List.mem_cons_self) fun z => List.mem_cons_of_mem _ (q2 b z), a2, o, List.mem_cons_of_mem _ m2, fa, nb, h2, rfl, hto⟩
        rw [frz_succ]
        exact .ownD h1 (by rw [upd_ne ne]; exact hf) hb (fun z => ho (q2 _ z)) hk r' q1
  by_cases h : (∃ ds, e[j]? = some (.own ds)) ∨ (∃ ks ds, e[j]? = some (.ownD ks ds))
  · obtain ⟨F', os', q1, q2, q3⟩ := key j s h
    exact ⟨F', os', q1, q2, .inr q3⟩
  · refine ⟨F, os, ?_, fun _ h => h, .inl rfl⟩
    unfold Z.frz
    split
    · rename_i ds q
      exact absurd (.inl ⟨ds, q⟩) h
    · rename_i ks ds q
      exact absurd (.inr ⟨ks, ds, q⟩) h
    · exact s
theorem Wd.frz (w : Wd K bs M F H) {a : Addr} {o : HO} (fa : F a = none) (nb : a ∉ bs) (ha : H a = some o) (ho : ∀ ps, o ≠ .tbl ps) : Wd K bs M (upd F a o) H := by
  have sF : Same F (upd F a o) := fun b u e => by rw [upd_ne (ne_of_none e fa)]; exact e
  refine ⟨fun b u e => ?_, w.nd, w.len, fun i b ds e1 e2 => ?_, w.tab, tabF_upd w.tabF w.tab fun ps e => ho ps (by rw [ha] at e; exact Option.some.inj e)⟩
  · by_cases z : b = a
    · subst z
      rw [upd_same] at e
      rw [ha]
      exact e
    · rw [upd_ne z] at e
      exact w.sub b u e
  · obtain ⟨n1, us, e3, r⟩ := w.objs i b ds e1 e2
    have z : b ≠ a := fun z => nb (by rw [← z]; exact List.mem_of_getElem? e1)
    refine ⟨by rw [upd_ne z]; exact n1, us, e3, ?_⟩
    have := r.mono (more := []) sF
    rwa [List.append_nil] at this
theorem AtS.frz (j : Nat) (a : AtS K bs0 F0 H0 bs M F H σ e) : ∃ F', AtS K bs0 F0 H0 bs M F' H σ (Z.frz j e) := by
  obtain ⟨t, w, os, s, n⟩ := a
  obtain ⟨F', os', s', m, q⟩ := s.frz j
  rcases q with rfl | ⟨p, o, mp, fp, nb, hp, rfl, ho⟩
  · exact ⟨_, t, w, os', s', fun b hb => n b (m b hb)⟩
  · have sF : Same F (upd F p o) := fun b u e => by rw [upd_ne (ne_of_none e fp)]; exact e
    refine ⟨_, ⟨t.pre, t.fm.trans sF, fun b u h => ?_, t.keep0, t.dom⟩, w.frz fp nb hp ho, os', s', fun b hb => n b (m b hb)⟩
    by_cases z : b = p
    · exact .inr (by rw [z]; exact n p mp)
    · rw [upd_ne z] at h
      exact t.new b u h
end
theorem zss_frz {X : Cx} {W : Wi} {sts : List Stmt} {g : DS} (j : Nat) (h : ZSs X W sts g) : ZSs X W sts (dFrz j g) := ⟨fun pins s σ H Dn I q => h.run pins s σ H Dn I (by
  obtain ⟨bs0, F0, H0, bs, M, F, e, a, run⟩ := q
  obtain ⟨F', a'⟩ := a.frz j
  exact ⟨bs0, F0, H0, bs, M, F', _, a', run⟩)⟩

/-! ### append to a list of one's own, its items -/
def dApp (i : Nat) (fe : DE) : DS := fun e => match e[i]? with
  | some (.own ds) => bnd (fe e) fun d => if ds.length < 100000 then ret (.nx (e.set i (.own (ds ++ [d])))) else stuck
  | _ => stuck
def dIxOwn (i : Nat) (fb : DE) : DE := fun e => match e[i]? with
  | some (.own ds) => bnd (fb e) fun y => fun M => lft (ixD (.lst ds) y M) M
  | some (.v d) => bnd (fb e) fun y => fun M => lft (ixD d y M) M
  | _ => stuck
def dLenOwn (i : Nat) : DE := fun e => match e[i]? with
  | some (.own ds) => ret (.int ds.length)
  | _ => stuck
section
variable {K : PySem.W.Frag} {W : Wi} {bs0 bs : List Addr} {M : MS} {F0 H0 F H : Hp} {σ : L2.St} {e : Ev}
/-- the list in a slot is changed -/
theorem Slots.put {a : Addr} {us : List V} {es : List Z.D} (o : HO) (ho' : o = .lst us) (rr : Reps K bs F us es) : ∀ {σ : L2.St} {e : Ev} {os : List Addr} (i : Nat), Slots K bs F H σ e os → σ[i]? = some (some (.ref a)) → (∃ ds, e[i]? = some (.own ds)) → Slots K bs F (upd H a o) σ (e.set i (.own es)) os := by
  subst ho'
  intro σ e os i s h1 h2
  have keep : ∀ {σ : L2.St} {e : Ev} {os : List Addr}, a ∉ os → Slots K bs F H σ e os → Slots K bs F (upd H a (.lst us)) σ e os := by
    intro σ e os ha s
    induction s with
    | nil => exact .nil
    | no t ih => exact .no (ih ha)
    | v r t ih => exact .v r (ih ha)
    | own h hf hb ho r t ih => exact .own (by rw [upd_ne (fun z => ha (by rw [z]; exact List.mem_cons_self))]; exact h) hf hb ho r (ih fun z => ha (List.mem_cons_of_mem _ z))
    | ownD h hf hb ho hk r t ih => exact .ownD (by rw [upd_ne (fun z => ha (by rw [z]; exact List.mem_cons_self))]; exact h) hf hb ho hk r (ih fun z => ha (List.mem_cons_of_mem _ z))
  induction s generalizing i with
  | nil => simp at h1
  | no t ih =>
    cases i with
    | zero =>
      obtain ⟨ds, h2⟩ := h2
      simp at h2
    | succ i => exact .no (ih i (by simpa using h1) (by simpa using h2))
  | v r t ih =>
    cases i with
    | zero =>
      obtain ⟨ds, h2⟩ := h2
      simp at h2
    | succ i => exact .v r (ih i (by simpa using h1) (by simpa using h2))
  | @own b vs ds σ e os h hf hb ho r t ih =>
    cases i with
    | zero =>
      simp at h1
      subst h1
      exact .own upd_same hf hb ho rr (keep ho t)
    | succ i =>
      have t' := ih i (by simpa using h1) (by simpa using h2)
      have ma : a ∈ os := by
        obtain ⟨ds', h2⟩ := h2
        obtain ⟨a', vs', q1, _, _, _, q5, _⟩ := t.getOwn (i := i) (by simpa using h2)
        have h1' : σ[i]? = some (some (V.ref a)) := by simpa using h1
        rw [h1'] at q1
        cases q1
        exact q5
      exact .own (by rw [upd_ne (fun z => ho (by rw [z]; exact ma))]; exact h) hf hb ho r t'
  | @ownD b kvs ks ds σ e os h hf hb ho hk r t ih =>
    cases i with
    | zero =>
      obtain ⟨ds, h2⟩ := h2
      simp at h2
    | succ i =>
      have t' := ih i (by simpa using h1) (by simpa using h2)
      have ma : a ∈ os := by
        obtain ⟨ds', h2⟩ := h2
        obtain ⟨a', vs', q1, _, _, _, q5, _⟩ := t.getOwn (i := i) (by simpa using h2)
        have h1' : σ[i]? = some (some (V.ref a)) := by simpa using h1
        rw [h1'] at q1
        cases q1
        exact q5
      exact .ownD (by rw [upd_ne (fun z => ho (by rw [z]; exact ma))]; exact h) hf hb ho hk r t'
theorem AtS.put {i : Nat} {a : Addr} {us : List V} {ds es : List Z.D} (at0 : AtS K bs0 F0 H0 bs M F H σ e) (h1 : σ[i]? = some (some (.ref a))) (h2 : e[i]? = some (.own ds)) (rr : Reps K bs F us es) : AtS K bs0 F0 H0 bs M F (upd H a (.lst us)) σ (e.set i (.own es)) := by
  obtain ⟨t, w, os, s, n⟩ := at0
  obtain ⟨a', vs', q1, q2, q3, q4, q5, _⟩ := s.getOwn h2
  rw [h1] at q1
  cases q1
  obtain ⟨t', w'⟩ := wr_ok (o := .lst us) (vs := us) (n a q5) t w q3 q4 (.inl ⟨_, q2⟩)
  exact ⟨t', w', os, s.put _ rfl rr i h1 ⟨ds, h2⟩, n⟩
end
section
variable {X : Cx} {W : Wi} {ex b : Expr} {fe fb : DE} {pos pos' p p2 : Pos} {x : Str}
theorem zs_app {i : Nat} (hx : PE X (.Name x p) (tVar i)) (he : ZE X W ex fe) (hs : swapsWith (.Call (.Attribute (.Name x p) "append" p2) [ex] [] pos') none pos.line X.env = pure false := by rfl)
    (hb : attributeBase (.Name x p) "append" X.env (eval (.Name x p) X.env) = eval (.Name x p) X.env := by rfl) (he1 : starEach [ex] X.env = (false, eval ex X.env) :: starEach [] X.env := by rfl) (hline : (p2.endLine == pos'.line) = true := by rfl)
    (hfew : ((backTo pos' (starEach (ex :: []) X.env)).all (fun x => !x.1) && (backToKw pos' (keywordEach [] X.env)).all (fun x => x.1.isSome)
      && decide ((ex :: []).length + ([] : List Keyword).length + (if ([] : List Keyword).isEmpty then 0 else 1) < 30)) = true := by rfl) :
    ZS X W (.Expr (.Call (.Attribute (.Name x p) "append" p2) [ex] [] pos') pos) (dApp i fe) := ⟨fun pins s σ H Dn I h => (ps_expr (pe_bm PySem.F.plainAttrs_list PySem.F.slot_list_append PySem.F.type_list_append mt_append hx (pa_cons he pa_nil he1) (hline := hline) (hfew := hfew) (hs := he1)) hs).run pins s σ H Dn I (by
  obtain ⟨bs0, F0, H0, bs, M, F, e, a, run⟩ := h
  unfold dApp at run
  cases e1 : e[i]? with
  | none =>
    rw [e1] at run
    exact run.elim
  | some sl0 =>
    rw [e1] at run
    cases sl0 with
    | own ds =>
      obtain ⟨_, _, os, sl, _⟩ := id a
      obtain ⟨p, vs, q1, q2, q3, q4, q5, q6⟩ := sl.getOwn e1
      refine ⟨.ref p, q1, .inl ⟨rfl, vs, .inl (.inl q2)⟩, bs, M, F, e, a.at, (run.bind a).imp fun d bs1 M1 F1 H1 t1 w1 q v r => ?_⟩
      obtain ⟨a1, run1⟩ := q
      by_cases hl : ds.length < 100000
      · rw [if_pos hl] at run1
        have k2 := t1.keep _ _ q2 q4
        have rr := (q6.tr t1).append (.cons r .nil)
        exact ⟨p, vs, v, rfl, rfl, k2, by rw [q6.length, sizeLine_eq]; omega, run1 _ _ _ _ (a1.put q1 e1 rr)⟩
      · rw [if_neg hl] at run1
        exact run1.elim
    | _ => exact run.elim)⟩
theorem ze_ixOwn {i : Nat} (hx : PE X (.Name x p) (tVar i)) (hb : ZE X W b fb) (hs : PlainIx b := by exact fun _ _ => rfl) : ZE X W (.Subscript (.Name x p) b pos) (dIxOwn i fb) := ⟨fun pins s σ H Q I h => (pe_ix ix_seq hx hb hs).run pins s σ H Q I (by
  obtain ⟨bs, M, F, e, ⟨w, os, sl⟩, run⟩ := h
  unfold dIxOwn at run
  cases e1 : e[i]? with
  | none =>
    rw [e1] at run
    exact run.elim
  | some sl0 =>
    rw [e1] at run
    cases sl0 with
    | own ds =>
      obtain ⟨p, vs, q1, q2, q3, q4, q5, q6⟩ := sl.getOwn e1
      refine ⟨.ref p, q1, bs, M, F, e, ⟨w, os, sl⟩, run.bind.imp fun y bs1 M1 F1 H1 t1 w1 run1 v r => ?_⟩
      obtain ⟨z, ez, k⟩ := run1.of_lft
      have k2 := t1.keep _ _ q2 q4
      cases y with
      | int j =>
        cases r
        obtain ⟨u, e3, r3⟩ := atI_rep (q6.tr t1) (show atI ds j = some z from ez)
        exact .inl ⟨p, vs, j, u, rfl, rfl, .inl (.inl k2), e3, k _ _ _ (Tr.refl _ _ _) w1 _ r3⟩
      | _ => cases ez
    | v d =>
      obtain ⟨v0, q1, r0⟩ := sl.get e1
      refine ⟨v0, q1, bs, M, F, e, ⟨w, os, sl⟩, run.bind.imp fun y bs1 M1 F1 H1 t1 w1 run1 v r => ?_⟩
      obtain ⟨z, ez, k⟩ := run1.of_lft
      exact z_ix bs1 M1 F1 H1 _ _ _ _ z Q w1 (r0.tr t1) r ez fun v bs' F' H' t w r => k bs' F' H' t w v r
    | _ => exact run.elim)⟩
/-- a mutable list's item is stored -/
def dPut (fo fi fe : DE) : DS := fun e => bnd (fe e) fun d => bnd (fo e) fun o => bnd (fi e) fun k => fun M => match o, k with
  | .obj n, .int j => match M[n]? with
    | some xs => match ixN xs.length j with
      | some q => some (.ok (.nx e), M.set n (xs.set q d))
      | none => none
    | none => none
  | _, _ => none
theorem zs_put {o i : Expr} {fo fi : DE} (he : ZE X W ex fe) (ho : ZE X W o fo) (hi : ZE X W i fi) (ha : ∀ v, assign (.Subscript o i p) X.env v = (do
      let ov ← holding [v] (eval o X.env)
      let iv ← holding [v, ov] (eval i X.env)
      standAt p
      holding [v, ov, iv] (setItem ov iv v)
      release [v, ov, iv] []) := by intro _; rfl) (hs : swapsWithSole [.Subscript o i p] ex pos.line X.env = pure false := by rfl) (hw : swappedStores [.Subscript o i p] ex X.env = pure none := by rfl)
    (h1 : (assignEach [.Subscript o i p] X.env).map (·.2) = [assign (.Subscript o i p) X.env] := by rfl) : ZS X W (.Assign [.Subscript o i p] ex pos) (dPut fo fi fe) := ⟨fun pins s σ H Dn I h => (ps_asg he (pg_sub ho hi set_list ha) hs hw h1).run pins s σ H Dn I (by
  obtain ⟨bs0, F0, H0, bs, M, F, e, a, run⟩ := h
  refine ⟨bs, M, F, e, a.at, (run.bind a).imp fun d bs1 M1 F1 H1 t1 w1 q v r => ?_⟩
  obtain ⟨a1, run1⟩ := q
  refine ⟨bs1, M1, F1, e, a1.at, (run1.bind a1).imp fun o bs2 M2 F2 H2 t2 w2 q2 v2 r2 => ?_⟩
  obtain ⟨a2, run2⟩ := q2
  refine ⟨bs2, M2, F2, e, a2.at, (run2.bind a2).imp fun k bs3 M3 F3 H3 t3 w3 q3 v3 r3 => ?_⟩
  obtain ⟨a3, run3⟩ := q3
  have r1' := (r.tr t2).tr t3
  have r2' := r2.tr t3
  cases o with
  | obj n =>
    cases k with
    | int j =>
      simp only at run3
      cases r2' with
      | @obj _ b hb =>
        cases r3
        cases e1 : M3[n]? with
        | none =>
          rw [e1] at run3
          exact run3.elim
        | some xs =>
          rw [e1] at run3
          simp only at run3
          cases e2 : ixN xs.length j with
          | none =>
            rw [e2] at run3
            exact run3.elim
          | some q =>
            rw [e2] at run3
            obtain ⟨_, vs, e3, s3⟩ := w3.objs n b xs hb e1
            obtain ⟨w4, t4⟩ := w3.write hb (s3.set r1' q)
            refine ⟨b, vs, j, q, rfl, rfl, e3, by rw [s3.length]; exact e2, ?_⟩
            exact run3 _ _ _ _ (a3.tr t4 w4)
    | _ => exact run3.elim
  | _ => exact run3.elim)⟩
end

/-! ### defs -/
def mkDF (n : Nat) (f : DS) : DF := fun ds M => match f (ds.map Sl.v ++ List.replicate (n - ds.length) .no) M with
  | some (.ok (.nx _), M') => some (.ok .non, M')
  | some (.ok (.rt d), M') => some (.ok d, M')
  | some (.err c, M') => some (.err c, M')
  | _ => none
theorem slots_no {K : PySem.W.Frag} {bs : List Addr} {F H : Hp} : ∀ n : Nat, Slots K bs F H (List.replicate n none) (List.replicate n .no) []
  | 0 => .nil
  | n + 1 => .no (slots_no n)
theorem slots_start {K : PySem.W.Frag} {bs : List Addr} {F H : Hp} {N : List Str} : ∀ {vs : List V} {ds : List Z.D} (n : Nat), Reps K bs F vs ds → Slots K bs F H (vs.map some ++ List.replicate n none) (ds.map Sl.v ++ List.replicate n .no) []
  | _, _, n, .nil => slots_no n
  | _, _, n, .cons r t => .v r (slots_start (N := N) n t)
section
variable {P : Program} {w : World} {K : PySem.W.Frag} {mg : Str → Option Value} {base : Heap}
theorem def_lift {N : List Str} {W : Wi} {wf : WishF} {f : DS} {n : Nat} {vs : List V} {H : Hp} {Q : VK} {E : XK} (hW : ∀ c σ H, wf E c H → W c σ H) (h : spZ K wf n (mkDF N.length f) vs H Q E) : liftS K W f { nx := fun _ H' => Q .non H', rt := Q } (L2.start N vs) H := by
  obtain ⟨bs, M, F, ds, wd, r, hn, run⟩ := h
  refine ⟨bs, F, H, bs, M, F, ds.map Sl.v ++ List.replicate (N.length - ds.length) .no, ⟨Tr.refl _ _ _, wd, [], ?_, by simp⟩, ?_⟩
  · unfold L2.start
    rw [r.length]
    exact slots_start (N := N) _ r
  · unfold mkDF at run
    split at run
    · rename_i o M' e1
      rw [e1]
      exact fun bs' F' H' σ' a => run bs' F' H' a.1 a.2.1 _ .non
    · rename_i d M' e1
      rw [e1]
      exact fun bs' F' H' v t w r => run bs' F' H' t w v r
    · rename_i c M' e1
      rw [e1]
      exact fun bs' F' H' σ' t w => hW _ _ _ (run bs' F' H' t w)
    · exact run.elim
theorem spZ_len {wf : WishF} {n : Nat} {df : DF} {vs : List V} {H : Hp} {Q : VK} {E : XK} (q : spZ K wf n df vs H Q E) : vs.length = n := by
  obtain ⟨bs, M, F, ds, wd, r, hn, run⟩ := q
  rw [r.length]
  exact hn
/-- a def that lets nothing out -/
theorem defZ {x qual : Str} {st : Stmt} {f : Addr} {fd : FuncData} {N ps : List Str} {k : Nat} {fb : DS} (G : Fun K x qual st f fd) (S : FnScope N ps (defScope st))
    (h : ∀ (cdv : Value) (A : Around) (outer : List Env) (s : Shared) (H : Hp) (E : XK), Room k (A.deeper (envOfC qual (defScope st) s.heap.objs.size f cdv)) → ZSs (cxOf CX0 P w K mg base N qual (defScope st) f cdv A outer s H E).nox W0 (defBody st) fb) :
    FnOk P w K mg base CX0 (k + 1) f fd ps (spZ K wf0 ps.length (mkDF N.length fb)) :=
  G.ok S (fun vs H Q E q => spZ_len q) fun cdv A outer s H vs Q E hr q => ⟨_, h cdv A outer s H E hr, def_lift (fun _ _ _ z => z) q⟩
/-- the law's promise -/
def spLaw (K : PySem.W.Frag) : Sp := fun vs H Q _ => ∃ (a : Addr) (ns : List Int), vs = [.ref a] ∧ SqL K H a (ns.map V.int) ∧ ns.length ≤ 63 ∧ LamX.Tabs Tbs.tb H ∧ ∀ H', Q (.bl true) H'
/-- all but the tables -/
def noTab (H : Hp) : Hp := fun a => match H a with
  | some (.tbl _) => none
  | x => x
theorem noTab_same {H : Hp} : Same (noTab H) H := fun a o e => by
  unfold noTab at e
  split at e
  · cases e
  · exact e
theorem noTab_of {H : Hp} {a : Addr} {o : HO} (e : H a = some o) (n : ∀ ps, o ≠ .tbl ps) : noTab H a = some o := by
  unfold noTab
  rw [e]
  cases o <;> first | rfl | exact absurd rfl (n _)
theorem noTab_seq {H : Hp} {a : Addr} {xs : List V} (h : SqL K H a xs) : SqL K (noTab H) a xs := by
  rcases h with (h | ⟨o, h⟩) | h
  · exact .inl (.inl (noTab_of h fun _ z => by cases z))
  · exact .inl (.inr ⟨o, noTab_of h fun _ z => by cases z⟩)
  · exact .inr h
theorem lawZ {CX : CXT} {k : Nat} {f : Addr} {fd : FuncData} {ps : List Str} {wf : WishF} {df : DF} (G : FnOk P w K mg base CX k f fd ps (spZ K wf 1 df)) (h : ∀ ns : List Int, ns.length ≤ 63 → ∃ M', df [.scr ns] [] = some (.ok (.bl true), M')) : FnOk P w K mg base CX k f fd ps (spLaw K) := G.imp fun vs H Q E q => by
  obtain ⟨a, ns, rfl, hS, hl, hT, q⟩ := q
  obtain ⟨M', e⟩ := h ns hl
  refine ⟨[], [], noTab H, [.scr ns], ⟨noTab_same, List.nodup_nil, rfl, fun i b ds e1 _ => by simp at e1, hT, fun p hp => by
    obtain ⟨ps, e1, _⟩ := hT p hp
    unfold noTab
    rw [e1]⟩, .cons (.scr (noTab_seq hS)) .nil, rfl, ?_⟩
  rw [e]
  exact fun bs' F' H' t w v r => by
    cases r
    exact q H'
end
end Z

/-! Z8: more rules -/
namespace Z
open PySem PySem.Spec PyProof.Rows L2
variable [Tbs]

def dNeg (f : DE) : DE := fun e => bnd (f e) fun x => match x with
  | .int i => ret (.int (-i))
  | _ => stuck
def dParOwn0 (i j : Nat) (fb : DE) : DS := fun e => bnd (fb e) fun d => if i < e.length then ret (.nx ((e.set i (.own [])).set j (.v d))) else stuck
def dParOwn1 (i j : Nat) (fa : DE) : DS := fun e => bnd (fa e) fun d => if j < e.length then ret (.nx ((e.set i (.v d)).set j (.own []))) else stuck
section
variable {X : Cx} {W : Wi} {a b : Expr} {fa fb : DE} {pos : Pos}
theorem ze_neg (h : ZE X W a fa) : ZE X W (.UnaryOp .USub a pos) (dNeg fa) := ⟨fun pins s σ H Q I q => (pe_un un_neg h).run pins s σ H Q I (by
  obtain ⟨bs, M, F, e, at0, run⟩ := q
  refine ⟨bs, M, F, e, at0, run.bind.imp fun x bs1 M1 F1 H1 t1 w1 run1 v1 r1 => ?_⟩
  cases x with
  | int i =>
    cases r1
    exact ⟨i, rfl, Run.here w1 run1 _ (.int _)⟩
  | _ => exact run1.elim)⟩
section
variable {K : PySem.W.Frag} {bs0 bs bs' : List Addr} {M M' : MS} {F0 H0 F H F' H' : Hp} {σ : L2.St} {e : Ev}
/-- a list made ahead of another expression goes to its slot behind it -/
theorem AtS.lateown {i : Nat} {p : Addr} (a : AtS K bs0 F0 H0 bs M F H σ e) (hp : H p = none) (t : Tr bs F (upd H p (.lst [])) bs' F' H') (w' : Wd K bs' M' F' H') (hi : i < e.length) : AtS K bs0 F0 H0 bs' M' F' H' (σ.set i (some (.ref p))) (e.set i (.own [])) := by
  have h0 := a.none0 hp
  obtain ⟨t0, w, os, s, n⟩ := a
  obtain ⟨w2, t2⟩ := w.lost (.lst []) hp
  have s' := (s.tr t2).tr t
  have k := t.keep p _ upd_same (w.notin hp)
  obtain ⟨os', s2, h2⟩ := s'.setown k (t.free upd_same (w.fnone hp)) (t.notin upd_same (w.notin hp)) .nil i (fun z => s.dom p z hp) hi
  exact ⟨t0.trans (t2.trans t), w', os', s2, fun b hb => (h2 b hb).elim (fun z => by rw [z]; exact h0) (n b)⟩
end
theorem zs_parOwn0 {i j : Nat} {x y : Str} {px py pt pl : Pos} {kt k2 pt2} (hc : X.calm = true) (hN : X.N.Nodup) (hi : X.N[i]? = some x) (hj : X.N[j]? = some y) (hij : i ≠ j)
    (hx : X.env.scope.names.lookup x = some .local) (hy : X.env.scope.names.lookup y = some .local) (hb : ZE X W b fb)
    (hw : swappedStores [.Tuple [.Name x px, .Name y py] kt pt] (.Tuple [.List [] pl, b] k2 pt2) X.env = pure (some [x, y]))
    (hs : swapsWithSole [.Tuple [.Name x px, .Name y py] kt pt] (.Tuple [.List [] pl, b] k2 pt2) pos.line X.env = pure false := by rfl) (h1 : starEach [.List [] pl, b] X.env = (false, eval (.List [] pl) X.env) :: starEach [b] X.env := by rfl) (h2 : starEach [b] X.env = (false, eval b X.env) :: starEach [] X.env := by rfl) :
    ZS X W (.Assign [.Tuple [.Name x px, .Name y py] kt pt] (.Tuple [.List [] pl, b] k2 pt2) pos) (dParOwn0 i j fb) := ⟨fun pins s σ H Dn I h => (ps_par hc hN hi hj hij hx hy (pa_cons (pe_lst pa_nil) (pa_cons hb pa_nil h2) h1) hw hs).run pins s σ H Dn I (by
  obtain ⟨bs0, F0, H0, bs, M, F, e, a, run⟩ := h
  refine ⟨Nat.zero_le _, fun p hp => ?_⟩
  obtain ⟨w2, t2⟩ := a.2.1.lost (.lst []) hp
  have a2 := a.tr t2 w2
  refine ⟨bs, M, F, e, a2.at, (run.bind a2).imp fun d bs1 M1 F1 H1 t1 w1 q v r => ?_⟩
  obtain ⟨a1, run1⟩ := q
  by_cases hl : i < e.length
  · rw [if_pos hl] at run1
    exact ⟨_, _, rfl, run1 _ _ _ _ ((a.lateown hp t1 w1 hl).setv r)⟩
  · rw [if_neg hl] at run1
    exact run1.elim)⟩
theorem zs_parOwn1 {i j : Nat} {x y : Str} {px py pt pl : Pos} {kt k2 pt2} (hc : X.calm = true) (hN : X.N.Nodup) (hi : X.N[i]? = some x) (hj : X.N[j]? = some y) (hij : i ≠ j)
    (hx : X.env.scope.names.lookup x = some .local) (hy : X.env.scope.names.lookup y = some .local) (ha : ZE X W a fa)
    (hw : swappedStores [.Tuple [.Name x px, .Name y py] kt pt] (.Tuple [a, .List [] pl] k2 pt2) X.env = pure (some [x, y]))
    (hs : swapsWithSole [.Tuple [.Name x px, .Name y py] kt pt] (.Tuple [a, .List [] pl] k2 pt2) pos.line X.env = pure false := by rfl) (h1 : starEach [a, .List [] pl] X.env = (false, eval a X.env) :: starEach [.List [] pl] X.env := by rfl) (h2 : starEach [.List [] pl] X.env = (false, eval (.List [] pl) X.env) :: starEach [] X.env := by rfl) :
    ZS X W (.Assign [.Tuple [.Name x px, .Name y py] kt pt] (.Tuple [a, .List [] pl] k2 pt2) pos) (dParOwn1 i j fa) := ⟨fun pins s σ H Dn I h => (ps_par hc hN hi hj hij hx hy (pa_cons ha (pa_cons (pe_lst pa_nil) pa_nil h2) h1) hw hs).run pins s σ H Dn I (by
  obtain ⟨bs0, F0, H0, bs, M, F, e, a, run⟩ := h
  refine ⟨bs, M, F, e, a.at, (run.bind a).imp fun d bs1 M1 F1 H1 t1 w1 q v r => ?_⟩
  obtain ⟨a1, run1⟩ := q
  by_cases hl : j < e.length
  · rw [if_pos hl] at run1
    refine ⟨Nat.zero_le _, fun p hp => ?_⟩
    exact ⟨_, _, rfl, run1 _ _ _ _ ((a1.setv r).newown (by rw [List.length_set]; exact hl) hp .nil)⟩
  · rw [if_neg hl] at run1
    exact run1.elim)⟩
end

/-! ### defs with *args -/
/-- what such a def promises: n parameters, then the rest as a tuple -/
def spS (K : PySem.W.Frag) (wf : WishF) (n : Nat) (df : DF) : Sp := fun vs H Q E => ∃ bs M F ds es, Wd K bs M F H ∧ Reps K bs F vs (ds ++ es) ∧ ds.length = n ∧ es.length ≤ 100000 ∧ Run K (fun c _ H' => wf E c H') bs F H [] (df (ds ++ [.tup es]) M) (qE K Q)
def dCallS (n : Nat) (df : DF) (g : DA) : DE := fun e => bnd (g e) fun xs => if n ≤ xs.length ∧ xs.length ≤ 1000 then df (xs.take n ++ [.tup (xs.drop n)]) else stuck
theorem Reps.split {K : PySem.W.Frag} {bs : List Addr} {F : Hp} : ∀ {ds : List Z.D} {vs : List V} {es : List Z.D}, Reps K bs F vs (ds ++ es) → ∃ v1 v2, vs = v1 ++ v2 ∧ Reps K bs F v1 ds ∧ Reps K bs F v2 es
  | [], vs, es, h => ⟨[], vs, rfl, .nil, h⟩
  | d :: ds, vs, es, h => by
    cases h with
    | cons r t =>
      obtain ⟨v1, v2, rfl, h1, h2⟩ := Reps.split (ds := ds) t
      exact ⟨_ :: v1, v2, rfl, .cons r h1, h2⟩
theorem Run.late {α : Type} {K : PySem.W.Frag} {W : Wi} {bs bs' : List Addr} {F H F' H' : Hp} {σ : L2.St} {r : Option (Rs α × MS)} {q : QT α} (h : Run K W bs F H σ r q) (t : Tr bs F H bs' F' H') : Run K W bs' F' H' σ r q := by
  match r, h with
  | some (.ok a, M'), h => exact fun bs2 F2 H2 t2 w => h bs2 F2 H2 (t.trans t2) w
  | some (.err c, M'), h => exact fun bs2 F2 H2 t2 w => h bs2 F2 H2 (t.trans t2) w
theorem pe_callR {X : Cx} {CX : CXT} {k : Nat} {f : Addr} {sp : Sp} {E : XK} {x : Str} {p pos : Pos} {e : Expr} {es : List Expr} {t : TA} (F : FnR X.prog X.w X.K X.mg X.base CX k f sp) (hr : Room k X.A) (hg : Gl X x) (hm : X.mg x = some (.ref f)) (hk : PySem.W.keepIn X.K (.ref f) = true) (hx : Passes CX X E)
    (ha : PA X (e :: es) t) (hdb : (x == ("__debug__" : Str)) = false := by decide) (he : starEach (e :: es) X.env = (false, eval e X.env) :: starEach es X.env := by rfl) (hpl : (backTo pos (starEach es X.env)).any (·.1) = false := by rfl) :
    PE X (.Call (.Name x p) (e :: es) [] pos) (fun σ H Q => t σ H fun vs H1 => sp vs H1 Q E) := by
  refine ⟨fun pins s σ H Q I h => ?_⟩
  refine wpAny_Call_Name_kw (ld_glob I hg hm ?_ hdb)
  refine PySem.W.callWith_K (h₀ := X.base) I.ok.mod.kin hk (thn (ha.run pos pins s σ H _ I h) fun us s1 ⟨vs, H1, I1, r, q⟩ => ⟨I1.kIn, ?_⟩) he hpl
  exact wpAny_call (run_fnR F hr hx I1 r q)
section
variable {P : Program} {w : World} {K : PySem.W.Frag} {mg : Str → Option Value} {base : Heap}
theorem defS {x qual pv : Str} {st : Stmt} {f : Addr} {fd : FuncData} {N ps : List Str} {k : Nat} {fb : DS} (G : Fun K x qual st f fd) (S : FnScope N (ps ++ [pv]) (defScope st))
    (hb : ∀ (kV doc pm : Value) (an : Option Addr) (cdv ct : Value) (us rest : List Value), us.length = ps.length → bindArgs (PySem.W.fnOf x qual (defArgs st) (defBody st) (defScope st) .none kV doc pm an cdv ct) ⟨us ++ rest, []⟩ = (newTuple rest >>= fun t => pure (ps.zip us ++ [(pv, t)])))
    (h : ∀ (cdv : Value) (A : Around) (outer : List Env) (s : Shared) (H : Hp) (E : XK), Room k (A.deeper (envOfC qual (defScope st) s.heap.objs.size f cdv)) → ZSs (cxOf CX0 P w K mg base N qual (defScope st) f cdv A outer s H E).nox W0 (defBody st) fb) :
    FnR P w K mg base CX0 (k + 1) f (spS K wf0 ps.length (mkDF N.length fb)) := by
  obtain ⟨oc, od, kV, doc, pm, an, cdv, ct, osl, rfl, lk, hcd⟩ := G.ex
  have z := StX.fn_star (P := P) (w := w) (mg := mg) (base := base) (k := k) (sp := spZ K wf0 (ps.length + 1) (mkDF N.length fb)) lk hcd S StX.cxUp_none (hb kV doc pm an cdv ct) fun A outer s H vs Q E hr q => ⟨_, (h cdv A outer s H E hr).nox, def_lift (fun _ _ _ z => z) q⟩
  refine fun A outer s H us vs Q E hr e0 r q => z A outer s H us vs Q E hr e0 r ?_
  obtain ⟨bs, M, F, ds, es, wd, rr, hn, hm, run⟩ := q
  obtain ⟨v1, v2, rfl, r1, r2⟩ := rr.split
  refine ⟨v1, v2, rfl, by rw [r1.length]; exact hn, by rw [r2.length]; exact small_ok hm, fun p hp => ?_⟩
  obtain ⟨w2, t2⟩ := wd.laid (.tup v2) hp
  refine ⟨bs, M, upd F p (.tup v2), ds ++ [.tup es], w2, (r1.tr t2).append (.cons (.tup upd_same (r2.tr t2)) .nil), by rw [List.length_append, hn]; rfl, ?_⟩
  exact run.late t2
end
section
variable {X : Cx} {W : Wi} {k : Nat} {f : Addr} {df : DF} {x : Str} {p pos : Pos} {e : Expr} {es : List Expr} {g : DA}
theorem ze_callS (n : Nat) {m : Nat} (G : FnR X.prog X.w X.K X.mg X.base CX0 k f (spS X.K wf0 n df)) (hr : Room k X.A) (hg : Gl X x) (hm : X.mg x = some (.ref f)) (hk : PySem.W.keepIn X.K (.ref f) = true)
    (ha : ZA X W0 (e :: es) g) (hn : LenA g m) (hdb : (x == ("__debug__" : Str)) = false := by decide) (he : starEach (e :: es) X.env = (false, eval e X.env) :: starEach es X.env := by rfl) (hpl : (backTo pos (starEach es X.env)).any (·.1) = false := by rfl) :
    ZE X W0 (.Call (.Name x p) (e :: es) [] pos) (dCallS n df g) :=
  ⟨fun pins s σ H Q I h => (pe_callR (E := E0) G hr hg hm hk pass0 ha hdb he hpl).run pins s σ H Q I (by
    obtain ⟨bs, M, F, ev, at0, run⟩ := h
    have rb := run.bind
    refine ⟨bs, M, F, ev, at0, ?_⟩
    match e1 : g ev M, rb with
    | some (.ok ds, M1), rb =>
      intro bs1 F1 H1 t1 w1 vs r1
      have rb2 := rb bs1 F1 H1 t1 w1
      by_cases hl : n ≤ ds.length ∧ ds.length ≤ 1000
      · simp only [hl, and_self, if_true] at rb2
        exact ⟨bs1, M1, F1, ds.take n, ds.drop n, w1, by rw [List.take_append_drop]; exact r1, by rw [List.length_take]; omega, by rw [List.length_drop]; omega, rb2.wish fun c H' z => z.elim⟩
      · simp only [hl, if_false] at rb2
        exact rb2.elim
    | some (.err c, M1), rb => exact rb)⟩
end
end Z

/-! ZA: built-ins over tuples -/
namespace Z
open PySem PySem.Spec PyProof.Rows L2
variable [Tbs]
section
variable {prog : Program} {w : World} {A : Around} {E : Value → Shared → Prop} {s : Shared}
theorem ints_at {vs : List Value} {ns : List Int} (h : IntsAre vs ns) : ∀ {i : Nat} {v : Value}, vs.toArray[i]? = some v → ∃ t, v = .int (ns.getD i 0) t := by
  induction h with
  | nil => intro i v e; simp at e
  | cons n t h ih =>
    intro i v e
    cases i with
    | zero =>
      simp at e
      exact ⟨t, e.symm⟩
    | succ i =>
      simp at e
      exact ih (i := i) (by simpa using e)
theorem sumT_raw {l : Addr} {its : List Value} {ns : List Int} {Q : Value → Shared → Prop} (hh : A.handled = none) (hl : IsTup s.heap l its.toArray) (hi : IntsAre its ns)
    (h : ∀ h' tk t', (∀ b o, s.heap.get? b = some o → h'.get? b = some o) → Q (.int ns.sum t') { s with heap := h', toks := tk }) : wpAny (model prog w) A (call (.builtin "sum") [.ref l]) Q E s := by
  refine PySem.call_sum_walkAnyS (PySem.W.iter_tupleW (A := A.in1) hh hl fun s₂ e W st hfp h1 h2 => ⟨_, _, _, _, _, _, _, fun i => ns.getD i 0, rfl, W, st, hfp, fun i v hv => ints_at hi hv, fun s' t' m => ?_⟩)
  obtain ⟨h', tk, rfl, hk⟩ := PySem.W.moved_old e rfl m
  have hp : preSum (fun i => ns.getD i 0) its.toArray.size = ns.sum := by
    rw [preSum_getD, List.take_of_length_le (by rw [List.size_toArray, hi.length]; omega)]
  rw [hp]
  exact h h' tk t' hk
theorem sortedT_raw {t : Addr} {its : List Value} {ns : List Int} {Q : Value → Shared → Prop} (ht : IsTup s.heap t its.toArray) (hi : IntsAre its ns) (hz : its.length ≤ sizeLine)
    (h : ∀ (D : Addr) (h1 h' : Heap) (out : List Value) (ms : List Int) (n : Nat), h1.objs.size ≤ D → (∀ b o, s.heap.get? b = some o → h1.get? b = some o) → (∀ b o, h1.get? b = some o → h'.get? b = some o) → h'.get? D = some (seqObj "list" out.toArray n) → IntsAre out ms → ms.Perm ns → ms.Pairwise (· ≤ ·) →
      Q (.ref D) { s with heap := h' }) : wpAny (model prog w) A (call (.builtin "sorted") [.ref t]) Q E s := by
  obtain ⟨⟨cls, dd, data, sl⟩, ho, hc, n, hd⟩ := id ht
  refine Calls.call_function_entry kind_sorted plain_sorted entry_sorted (args_sorted1 _) (?_ : wpAny _ _ (Builtin.«sorted» _) _ _ _)
  unfold Builtin.«sorted»
  refine wpAny_bind (m := checkCount "sorted" 1 1 _) (wpAny_pure (wpAny_bind (wpAny_collect_seq t (.inr rfl) ho hc hd (fun h1 k1 => wpAny_bind (wpAny_newList ?_ hz)) (by rw [List.size_toArray]; exact hz))))
  have hoL : (h1.push (seqObj "list" its.toArray 0)).get? h1.objs.size = some (seqObj "list" its.toArray 0) := Heap.get?_push_size _ rfl
  refine wpAny_bind (wpAny_holding (wpAny_call_entry slot_list_sort ⟨_, hoL, rfl⟩ entry_list_sort (SrtO.list_sort_ord SrtO.swo_int hoL hz (fun h2 => SrtO.ints_sortable hi h2) fun out q1 q2 => ⟨_, rfl, wpAny_pure ⟨_, rfl, ?_⟩⟩) (args_list_sort _)))
  obtain ⟨p1, p2, p3⟩ := SrtO.ints_out hi q1 q2
  obtain ⟨ep, he⟩ := sortedHeap_at (vs := its) (out := out.toArray) hoL
  refine h _ h1 _ out _ ep (Nat.le_refl _) k1 (fun b o q => ?_) he p1 p2 p3
  have hb := Heap.lt_size q
  rw [sortedHeap_old (Nat.ne_of_lt hb) (by rw [size_push']; exact Nat.lt_succ_of_lt hb), Heap.get?_push_ne _ _ _ (Nat.ne_of_lt hb)]
  exact q
end
section
variable {X : Cx} {K : PySem.W.Frag} {bs : List Addr} {F H : Hp} {M : MS}
def rSumT (K : PySem.W.Frag) : List V → Hp → VK → Prop := fun vs H Q => ∃ (a : Addr) (ns : List Int), vs = [V.ref a] ∧ SqT K H a (ns.map V.int) ∧ Q (.int ns.sum) H
theorem cr_sumT (hc : X.calm = true) : CallR X (.builtin "sum") (rSumT X.K) := by
  intro pins s σ H vs us Q I r h
  obtain ⟨a, ns, rfl, hs, q⟩ := h
  obtain ⟨its, rv, hl, _⟩ := I.tuple hs
  rw [Vals.ref1 r]
  exact sumT_raw (I.ok.hd hc) hl rv.ints fun h' tk t' hk => ⟨.int _, H, I.kept hk, ⟨_, rfl⟩, q⟩
theorem one_tup {xs : List V} {es : List D} (w : Wd K bs M F H) (r : Reps K bs F xs [.tup es]) : ∃ a vs, xs = [.ref a] ∧ SqT K H a vs ∧ Reps K bs F vs es := by
  obtain ⟨v, rfl, rr⟩ := r.one
  cases rr with
  | tup h s => exact ⟨_, _, rfl, .inl (.inl (w.sub _ _ h)), s⟩
theorem z_sumT : CallZ K (rSumT K) sumT1 := by
  intro bs M F H xs ds z Q w r ez q
  unfold sumT1 at ez
  split at ez
  · rename_i es
    cases e : intsOf es with
    | none =>
      rw [e] at ez
      cases ez
    | some ns =>
      rw [e] at ez
      cases ez
      obtain ⟨a, vs, rfl, hs, s⟩ := one_tup w r
      rw [intsOf_map e] at s
      rw [s.ints] at hs
      exact ⟨a, ns, rfl, hs, q _ bs F H (Tr.refl _ _ _) w (.int _)⟩
  · cases ez
def rSortT (K : PySem.W.Frag) : List V → Hp → VK → Prop := fun vs H Q => ∃ (a : Addr) (ns : List Int), vs = [V.ref a] ∧ SqT K H a (ns.map V.int) ∧ ∀ (ms : List Int) (p : Addr), ms.Perm ns → ms.Pairwise (· ≤ ·) → H p = none → Q (.ref p) (upd H p (.lst (ms.map V.int)))
theorem cr_sortT : CallR X (.builtin "sorted") (rSortT X.K) := by
  intro pins s σ H vs us Q I r h
  obtain ⟨a, ns, rfl, hs, q⟩ := h
  obtain ⟨its, rv, hl, hz⟩ := I.tuple hs
  rw [Vals.ref1 r]
  refine sortedT_raw hl rv.ints (by rw [← rv.length]; exact hz) fun D h1 h' out ms n le k1 k hD p1 p2 p3 => ?_
  have hlen : (ms.map V.int).length ≤ sizeLine := by
    rw [List.length_map] at hz ⊢
    rw [p2.length_eq]
    exact hz
  exact ⟨.ref D, upd H D (.lst (ms.map V.int)), (I.kept (t' := s.toks) k1).laid (t' := s.toks) k le ⟨hlen, out, n, vals_of_ints p1, hD⟩, rfl, q ms D p2 p3 ((I.hok.kept k1).fresh le)⟩
def sortedT1 : F1 := fun ds _ => match ds with
  | [.tup xs] => (intsOf xs).bind fun ns => if ns.length ≤ 100000 then some (.lst ((sortI ns).map .int)) else none
  | _ => none
theorem z_sortT : CallZ K (rSortT K) sortedT1 := by
  intro bs M F H xs ds z Q w r ez q
  unfold sortedT1 at ez
  split at ez
  · rename_i es
    cases e : intsOf es with
    | none =>
      rw [e] at ez
      cases ez
    | some ns =>
      rw [e, Option.bind_some] at ez
      split at ez
      · cases ez
        obtain ⟨a, vs, rfl, hs, s⟩ := one_tup w r
        rw [intsOf_map e] at s
        rw [s.ints] at hs
        refine ⟨a, ns, rfl, hs, fun ms p h1 h2 hp => ?_⟩
        rw [pw_eq (h1.trans (sortI_perm ns).symm) h2 (sortI_pw ns)]
        obtain ⟨w2, t2⟩ := w.laid (.lst ((sortI ns).map V.int)) hp
        exact q _ _ _ _ t2 w2 (.lst upd_same ((Reps.of_ints (K := K) (bs := bs) (F := F) (sortI ns)).tr t2))
      · cases ez
  · cases ez
end
end Z

/-! Z9: reckoning with denotations -/
namespace Z
open PySem PySem.Spec PyProof.Rows L2

section
variable {α β γ : Type}
@[simp] theorem bnd_ret {a : α} {f : α → Mo β} : bnd (ret a) f = f a := rfl
@[simp] theorem bnd_stuck {f : α → Mo β} : bnd stuck f = stuck := rfl
@[simp] theorem lft_some {a : α} : lft (some a) = ret a := rfl
@[simp] theorem lft_none : lft (none : Option α) = stuck := rfl
@[simp] theorem lft_ite {c : Prop} [Decidable c] {a b : Option α} : lft (if c then a else b) = if c then lft a else lft b := by split <;> rfl
@[simp] theorem bnd_ite {c : Prop} [Decidable c] {a b : Mo α} {f : α → Mo β} : bnd (if c then a else b) f = if c then bnd a f else bnd b f := by split <;> rfl
theorem ite_app {c : Prop} [Decidable c] {a b : Mo α} {M : MS} : (if c then a else b) M = if c then a M else b M := by split <;> rfl
@[simp] theorem ret_eta {a : α} : (fun M => ret a M) = ret a := rfl
theorem bnd_ext {m : Mo α} {f g : α → Mo β} (h : ∀ a, f a = g a) : bnd m f = bnd m g := by rw [funext h]
@[simp] theorem noErr_ret {a : α} : noErr (ret a) = ret a := rfl
@[simp] theorem noErr_ite {c : Prop} [Decidable c] {a b : Mo α} : noErr (if c then a else b) = if c then noErr a else noErr b := by split <;> rfl
end
/-- what a def's body hands back -/
def fin : Oc → Mo D
  | .nx _ => ret .non
  | .rt d => ret d
  | _ => stuck
@[simp] theorem fin_nx {e : Ev} : fin (.nx e) = ret .non := rfl
@[simp] theorem fin_rt {d : D} : fin (.rt d) = ret d := rfl
@[simp] theorem mkDF_eq {n : Nat} {f : DS} {ds : List D} : mkDF n f ds = bnd (f (ds.map Sl.v ++ List.replicate (n - ds.length) .no)) fin := by
  funext M
  unfold mkDF bnd
  cases f (ds.map Sl.v ++ List.replicate (n - ds.length) .no) M with
  | none => rfl
  | some p =>
    obtain ⟨r, M'⟩ := p
    cases r with
    | err c => rfl
    | ok o => cases o <;> rfl
/-- what comes behind a statement -/
def seqK (g : DS) : Oc → Mo Oc
  | .nx e => g e
  | o => ret o
@[simp] theorem dSeq_eq {f g : DS} {e : Ev} : dSeq f g e = bnd (f e) (seqK g) := by
  unfold dSeq
  exact congrArg (bnd (f e)) (funext fun o => by cases o <;> rfl)
@[simp] theorem seqK_nx {g : DS} {e : Ev} : seqK g (.nx e) = g e := rfl
@[simp] theorem seqK_rt {g : DS} {d : D} : seqK g (.rt d) = ret (.rt d) := rfl
@[simp] theorem seqK_bk {g : DS} {e : Ev} : seqK g (.bk e) = ret (.bk e) := rfl
@[simp] theorem seqK_ct {g : DS} {e : Ev} : seqK g (.ct e) = ret (.ct e) := rfl
def varK : Option Sl → Mo D
  | some (.v d) => ret d
  | _ => stuck
@[simp] theorem dVar_eq {i : Nat} {e : Ev} : dVar i e = varK e[i]? := by
  unfold dVar varK
  funext M
  cases e[i]? with
  | none => rfl
  | some s => cases s <;> rfl
@[simp] theorem varK_v {d : D} : varK (some (.v d)) = ret d := rfl
@[simp] theorem asB_bl {b : Bool} : asB (.bl b) = ret b := rfl
@[simp] theorem asB_ite {c : Prop} [Decidable c] {a b : D} : asB (if c then a else b) = if c then asB a else asB b := by split <;> rfl
/-! operators -/
@[simp] theorem i2_int {C : Int → Int → Bool} {g : Int → Int → D} {i j : Int} {M : MS} : i2 C g (.int i) (.int j) M = if C i j = true then some (g i j) else none := rfl
@[simp] theorem addD_int {i j : Int} {M : MS} : addD (.int i) (.int j) M = some (.int (i + j)) := rfl
@[simp] theorem addD_tup {xs ys : List D} {M : MS} : addD (.tup xs) (.tup ys) M = if xs.length + ys.length ≤ 100000 then some (.tup (xs ++ ys)) else none := rfl
@[simp] theorem addD_lst {xs ys : List D} {M : MS} : addD (.lst xs) (.lst ys) M = if xs.length + ys.length ≤ 100000 then some (.lst (xs ++ ys)) else none := rfl
theorem mulD_int {i j : Int} {M : MS} (h : -18446744073709551616 < i ∧ i < 18446744073709551616 ∨ -18446744073709551616 < j ∧ j < 18446744073709551616) : mulD (.int i) (.int j) M = some (.int (i * j)) := by
  unfold mulD mulI
  rw [i2_int, if_pos]
  simpa using h
@[simp] theorem isD_non {c : D} {M : MS} : isD c .non M = some (.bl (isNone c)) := rfl
@[simp] theorem isnD_non {c : D} {M : MS} : isnD c .non M = some (.bl (!isNone c)) := rfl
@[simp] theorem isbD_bl {a b : Bool} {M : MS} : isbD (.bl a) (.bl b) M = some (.bl (a == b)) := rfl
@[simp] theorem isnbD_bl {a b : Bool} {M : MS} : isnbD (.bl a) (.bl b) M = some (.bl (!(a == b))) := rfl
@[simp] theorem isNone_non : isNone .non = true := rfl
@[simp] theorem isNone_int {i : Int} : isNone (.int i) = false := rfl
@[simp] theorem isNone_bl {i : Bool} : isNone (.bl i) = false := rfl
@[simp] theorem isNone_str {i : Str} : isNone (.str i) = false := rfl
@[simp] theorem isNone_tup {i : List D} : isNone (.tup i) = false := rfl
@[simp] theorem isNone_lst {i : List D} : isNone (.lst i) = false := rfl
@[simp] theorem okN_non {n : Nat} : okN n .non = true := by cases n <;> rfl
@[simp] theorem okN_bl {n : Nat} {b : Bool} : okN n (.bl b) = true := by cases n <;> rfl
@[simp] theorem okN_int {n : Nat} {b : Int} : okN n (.int b) = true := by cases n <;> rfl
@[simp] theorem okN_tup {n : Nat} {xs : List D} : okN (n + 1) (.tup xs) = xs.all (okN n) := rfl
@[simp] theorem okN_lst {n : Nat} {xs : List D} : okN (n + 1) (.lst xs) = xs.all (okN n) := rfl
@[simp] theorem eqN_int {n : Nat} {i j : Int} : eqN n (.int i) (.int j) = (i == j) := by cases n <;> rfl
@[simp] theorem eqN_bl {n : Nat} {i j : Bool} : eqN n (.bl i) (.bl j) = (i == j) := by cases n <;> rfl
@[simp] theorem eqN_nn {n : Nat} : eqN n .non .non = true := by cases n <;> rfl
@[simp] theorem eqN_ni {n : Nat} {i : Int} : eqN n .non (.int i) = false := by cases n <;> rfl
@[simp] theorem eqN_in {n : Nat} {i : Int} : eqN n (.int i) .non = false := by cases n <;> rfl
@[simp] theorem eqN_nt {n : Nat} {i : List D} : eqN n .non (.tup i) = false := by cases n <;> rfl
@[simp] theorem eqN_tn {n : Nat} {i : List D} : eqN n (.tup i) .non = false := by cases n <;> rfl
@[simp] theorem eqN_nb {n : Nat} {i : Bool} : eqN n .non (.bl i) = false := by cases n <;> rfl
@[simp] theorem eqN_bn {n : Nat} {i : Bool} : eqN n (.bl i) .non = false := by cases n <;> rfl
@[simp] theorem eqN_tup {n : Nat} {xs ys : List D} : eqN (n + 1) (.tup xs) (.tup ys) = eqL (eqN n) xs ys := rfl
@[simp] theorem eqN_lst {n : Nat} {xs ys : List D} : eqN (n + 1) (.lst xs) (.lst ys) = eqL (eqN n) xs ys := rfl
@[simp] theorem eqL_nil {f : D → D → Bool} : eqL f [] [] = true := rfl
@[simp] theorem eqL_cons {f : D → D → Bool} {x y : D} {xs ys : List D} : eqL f (x :: xs) (y :: ys) = (f x y && eqL f xs ys) := rfl
@[simp] theorem eqL_nc {f : D → D → Bool} {y : D} {ys : List D} : eqL f [] (y :: ys) = false := rfl
@[simp] theorem eqL_cn {f : D → D → Bool} {y : D} {ys : List D} : eqL f (y :: ys) [] = false := rfl
theorem eqD_eq {c d : D} {M : MS} (h1 : okN 8 c = true) (h2 : okN 8 d = true) : eqD c d M = some (.bl (eqN 8 c d)) := by
  unfold eqD
  rw [h1, h2]
  rfl
theorem neD_eq {c d : D} {M : MS} (h1 : okN 8 c = true) (h2 : okN 8 d = true) : neD c d M = some (.bl (!eqN 8 c d)) := by
  unfold neD
  rw [h1, h2]
  rfl
@[simp] theorem eqD_int {i j : Int} {M : MS} : eqD (.int i) (.int j) M = some (.bl (i == j)) := eqD_eq okN_int okN_int
@[simp] theorem neD_int {i j : Int} {M : MS} : neD (.int i) (.int j) M = some (.bl (!(i == j))) := neD_eq okN_int okN_int
@[simp] theorem eqD_bl {i j : Bool} {M : MS} : eqD (.bl i) (.bl j) M = some (.bl (i == j)) := eqD_eq okN_bl okN_bl
@[simp] theorem neD_bl {i j : Bool} {M : MS} : neD (.bl i) (.bl j) M = some (.bl (!(i == j))) := neD_eq okN_bl okN_bl
@[simp] theorem ixD_lst {xs : List D} {i : Int} {M : MS} : ixD (.lst xs) (.int i) M = atI xs i := rfl
@[simp] theorem ixD_tup {xs : List D} {i : Int} {M : MS} : ixD (.tup xs) (.int i) M = atI xs i := rfl
@[simp] theorem atI_0 {α : Type} {x : α} {xs : List α} : atI (x :: xs) 0 = some x := atI_nat (j := 0) rfl
@[simp] theorem atI_1 {α : Type} {x y : α} {xs : List α} : atI (x :: y :: xs) 1 = some y := atI_nat (j := 1) rfl
@[simp] theorem atI_2 {α : Type} {x y z : α} {xs : List α} : atI (x :: y :: z :: xs) 2 = some z := atI_nat (j := 2) rfl
@[simp] theorem atI_3 {α : Type} {x y z w : α} {xs : List α} : atI (x :: y :: z :: w :: xs) 3 = some w := atI_nat (j := 3) rfl
@[simp] theorem isTy_non {T : Ty} : isTy T .non = some false := by cases T <;> rfl
@[simp] theorem isTy_ii {i : Int} : isTy .int (.int i) = some true := rfl
@[simp] theorem isTy_ib {i : Bool} : isTy .int (.bl i) = some true := rfl
@[simp] theorem isTy_it {i : List D} : isTy .int (.tup i) = some false := rfl
@[simp] theorem isTy_il {i : List D} : isTy .int (.lst i) = some false := rfl
@[simp] theorem isTy_is {i : Str} : isTy .int (.str i) = some false := rfl
@[simp] theorem isTy_bi {i : Int} : isTy .bool (.int i) = some false := rfl
@[simp] theorem isTy_bb {i : Bool} : isTy .bool (.bl i) = some true := rfl
@[simp] theorem isTy_bt {i : List D} : isTy .bool (.tup i) = some false := rfl
@[simp] theorem isTy_bL {i : List D} : isTy .bool (.lst i) = some false := rfl
@[simp] theorem isTy_bs {i : Str} : isTy .bool (.str i) = some false := rfl
@[simp] theorem isTy_ti {i : Int} : isTy .tuple (.int i) = some false := rfl
@[simp] theorem isTy_tb {i : Bool} : isTy .tuple (.bl i) = some false := rfl
@[simp] theorem isTy_tt {i : List D} : isTy .tuple (.tup i) = some true := rfl
@[simp] theorem isTy_tl {i : List D} : isTy .tuple (.lst i) = some false := rfl
@[simp] theorem isTy_ts {i : Str} : isTy .tuple (.str i) = some false := rfl
@[simp] theorem isTy_li {i : Int} : isTy .list (.int i) = some false := rfl
@[simp] theorem isTy_lb {i : Bool} : isTy .list (.bl i) = some false := rfl
@[simp] theorem isTy_lt {i : List D} : isTy .list (.tup i) = some false := rfl
@[simp] theorem isTy_ll {i : List D} : isTy .list (.lst i) = some true := rfl
@[simp] theorem isTy_ls {i : Str} : isTy .list (.str i) = some false := rfl
@[simp] theorem isTy_si {i : Int} : isTy .str (.int i) = some false := rfl
@[simp] theorem isTy_sb {i : Bool} : isTy .str (.bl i) = some false := rfl
@[simp] theorem isTy_st {i : List D} : isTy .str (.tup i) = some false := rfl
@[simp] theorem isTy_sl {i : List D} : isTy .str (.lst i) = some false := rfl
@[simp] theorem isTy_ss {i : Str} : isTy .str (.str i) = some true := rfl
@[simp] theorem max2_eq {i j : Int} {M : MS} : max2 [.int i, .int j] M = some (.int (max i j)) := by
  unfold max2
  simp only [Option.some.injEq, D.int.injEq]
  split <;> omega
@[simp] theorem min2_eq {i j : Int} {M : MS} : min2 [.int i, .int j] M = some (.int (min i j)) := by
  unfold min2
  simp only [Option.some.injEq, D.int.injEq]
  split <;> omega
@[simp] theorem len1_tup {xs : List D} {M : MS} : len1 [.tup xs] M = some (.int xs.length) := rfl
@[simp] theorem len1_lst {xs : List D} {M : MS} : len1 [.lst xs] M = some (.int xs.length) := rfl
/-- lists of whole numbers, of truth values -/
def iL (ns : List Int) : List D := ns.map D.int
def bL (ns : List Bool) : List D := ns.map D.bl
@[simp] theorem iL_length {ns : List Int} : (iL ns).length = ns.length := by simp [iL]
@[simp] theorem bL_length {ns : List Bool} : (bL ns).length = ns.length := by simp [bL]
@[simp] theorem iL_nil : iL [] = [] := rfl
theorem iL_cons {n : Int} {ns : List Int} : iL (n :: ns) = .int n :: iL ns := rfl
theorem iL_append {a b : List Int} : iL (a ++ b) = iL a ++ iL b := by simp [iL]
theorem iL_get {ns : List Int} {i : Nat} {d : D} (h : (iL ns)[i]? = some d) : ∃ n, ns[i]? = some n ∧ d = .int n := by
  unfold iL at h
  rw [List.getElem?_map] at h
  cases e : ns[i]? with
  | none =>
    rw [e] at h
    cases h
  | some n =>
    rw [e] at h
    cases h
    exact ⟨n, rfl, rfl⟩
@[simp] theorem sum1_iL {ns : List Int} {M : MS} : sum1 [.lst (iL ns)] M = some (.int ns.sum) := by
  unfold sum1 iL
  simp only [intsOf_ints]
  rfl
@[simp] theorem sumT1_iL {ns : List Int} {M : MS} : sumT1 [.tup (iL ns)] M = some (.int ns.sum) := by
  unfold sumT1 iL
  simp only [intsOf_ints]
  rfl
@[simp] theorem all1_bL {ns : List Bool} {M : MS} : all1 [.lst (bL ns)] M = some (.bl (ns.all id)) := by
  unfold all1 bL
  simp only [blsOf_bls]
  rfl
@[simp] theorem okN_iL {n : Nat} {ns : List Int} : (iL ns).all (okN n) = true := by
  unfold iL
  induction ns with
  | nil => rfl
  | cons a r ih => simp only [List.map_cons, List.all_cons, okN_int, ih, Bool.and_self]
@[simp] theorem sum1_eq {ns : List Int} {M : MS} : sum1 [.lst (ns.map D.int)] M = some (.int ns.sum) := by
  unfold sum1
  simp only [intsOf_ints]
  rfl
@[simp] theorem sumT1_eq {ns : List Int} {M : MS} : sumT1 [.tup (ns.map D.int)] M = some (.int ns.sum) := by
  unfold sumT1
  simp only [intsOf_ints]
  rfl
@[simp] theorem all1_eq {ns : List Bool} {M : MS} : all1 [.lst (ns.map D.bl)] M = some (.bl (ns.all id)) := by
  unfold all1
  simp only [blsOf_bls]
  rfl
/-! targets -/
@[simp] theorem asg_nm {i : Nat} {d : D} {e : Ev} : asg (.nm i) d e = some (e.set i (.v d)) := rfl
@[simp] theorem asg_tp {is : List Nat} {ds : List D} {e : Ev} : asg (.tp is) (.tup ds) e = asgs is ds e := rfl
@[simp] theorem asgs_nil {e : Ev} : asgs [] [] e = some e := rfl
@[simp] theorem asgs_cons {i : Nat} {is : List Nat} {d : D} {ds : List D} {e : Ev} : asgs (i :: is) (d :: ds) e = asgs is ds (e.set i (.v d)) := rfl
/-! what the pieces are -/
@[simp] theorem dOp_eq {fo : F2} {fa fb : DE} {e : Ev} : dOp fo fa fb e = bnd (fa e) fun x => bnd (fb e) fun y => fun M => lft (fo x y M) M := rfl
@[simp] theorem dTest_eq {f : DE} {e : Ev} : dTest f e = bnd (f e) asB := rfl
@[simp] theorem dC_eq {d : D} {e : Ev} : dC d e = ret d := rfl
@[simp] theorem dChain_eq {fo fo' : F2} {fa fb fc : DE} {e : Ev} : dChain fo fo' fa fb fc e = bnd (fa e) fun x => bnd (fb e) fun y => bnd (fun M => lft (fo x y M) M) fun z => bnd (asB z) fun k => if k = true then bnd (fc e) fun w => fun M => lft (fo' y w M) M else ret (.bl false) := rfl
@[simp] theorem dAnd_eq {fa fb : DE} {e : Ev} : dAnd fa fb e = bnd (dTest fa e) fun k => if k = true then fb e else ret (.bl false) := rfl
@[simp] theorem dOr_eq {fa fb : DE} {e : Ev} : dOr fa fb e = bnd (dTest fa e) fun k => if k = true then ret (.bl true) else fb e := rfl
@[simp] theorem dNot_eq {fa : DE} {e : Ev} : dNot fa e = bnd (dTest fa e) fun k => ret (.bl (!k)) := rfl
@[simp] theorem dAndT_eq {fa fb : DT} {e : Ev} : dAndT fa fb e = bnd (fa e) fun k => if k = true then fb e else ret false := rfl
@[simp] theorem dOrT_eq {fa fb : DT} {e : Ev} : dOrT fa fb e = bnd (fa e) fun k => if k = true then ret true else fb e := rfl
@[simp] theorem dNotT_eq {fa : DT} {e : Ev} : dNotT fa e = bnd (fa e) fun k => ret (!k) := rfl
@[simp] theorem dIf_eq {ft : DT} {fa fb : DE} {e : Ev} : dIf ft fa fb e = bnd (ft e) fun k => if k = true then fa e else fb e := rfl
@[simp] theorem dNil_eq {e : Ev} : dNil e = ret [] := rfl
@[simp] theorem dCons_eq {f : DE} {g : DA} {e : Ev} : dCons f g e = bnd (f e) fun x => bnd (g e) fun xs => ret (x :: xs) := rfl
@[simp] theorem dTup_eq {g : DA} {e : Ev} : dTup g e = bnd (g e) fun xs => if xs.length ≤ 100000 then ret (.tup xs) else stuck := rfl
@[simp] theorem dLst_eq {g : DA} {e : Ev} : dLst g e = bnd (g e) fun xs => if xs.length ≤ 100000 then ret (.lst xs) else stuck := rfl
@[simp] theorem dB_eq {fo : F1} {g : DA} {e : Ev} : dB fo g e = bnd (g e) fun xs => fun M => lft (fo xs M) M := rfl
@[simp] theorem dCall_eq {df : DF} {g : DA} {e : Ev} : dCall df g e = bnd (g e) df := rfl
@[simp] theorem dCallS_eq {n : Nat} {df : DF} {g : DA} {e : Ev} : dCallS n df g e = bnd (g e) fun xs => if n ≤ xs.length ∧ xs.length ≤ 1000 then df (xs.take n ++ [.tup (xs.drop n)]) else stuck := rfl
@[simp] theorem dNoPart_eq {e : Ev} : dNoPart e = ret none := rfl
def partK : D → Mo (Option Int)
  | .int i => ret (some i)
  | _ => stuck
@[simp] theorem dPart_eq {f : DE} {e : Ev} : dPart f e = bnd (f e) partK := by
  exact congrArg (bnd (f e)) (funext fun x => by cases x <;> rfl)
@[simp] theorem partK_int {i : Int} : partK (.int i) = ret (some i) := rfl
@[simp] theorem dSl_eq {fo : F3} {f : DE} {gl gh : DO} {e : Ev} : dSl fo f gl gh e = bnd (f e) fun x => bnd (gl e) fun l => bnd (gh e) fun h => fun M => lft (fo x l h M) M := rfl
def revK : D → Mo D
  | .lst xs => ret (.lst xs.reverse)
  | _ => stuck
@[simp] theorem dRevL_eq {f : DE} {e : Ev} : dRevL f e = bnd (f e) revK := by
  exact congrArg (bnd (f e)) (funext fun x => by cases x <;> rfl)
@[simp] theorem revK_lst {xs : List D} : revK (.lst xs) = ret (.lst xs.reverse) := rfl
def negK : D → Mo D
  | .int i => ret (.int (-i))
  | _ => stuck
@[simp] theorem dNeg_eq {f : DE} {e : Ev} : dNeg f e = bnd (f e) negK := by
  exact congrArg (bnd (f e)) (funext fun x => by cases x <;> rfl)
@[simp] theorem negK_int {i : Int} : negK (.int i) = ret (.int (-i)) := rfl
@[simp] theorem dIs_eq {T : Ty} {f : DE} {e : Ev} : dIs T f e = bnd (f e) fun x => lft ((isTy T x).map D.bl) := rfl
@[simp] theorem dIsT_eq {Ts : List Ty} {f : DE} {e : Ev} : dIsT Ts f e = bnd (f e) fun x => lft ((isAny x Ts).map D.bl) := rfl
@[simp] theorem isAny_nil {x : D} : isAny x [] = some false := rfl
@[simp] theorem isAny_cons {x : D} {T : Ty} {Ts : List Ty} : isAny x (T :: Ts) = match isTy T x with
  | some true => some true
  | some false => isAny x Ts
  | none => none := rfl
@[simp] theorem dNil'_eq {e : Ev} : dNil' e = ret (.nx e) := rfl
@[simp] theorem dSet_eq {i : Nat} {f : DE} {e : Ev} : dSet i f e = bnd (f e) fun d => ret (.nx (e.set i (.v d))) := rfl
@[simp] theorem dRet_eq {f : DE} {e : Ev} : dRet f e = bnd (f e) fun d => ret (.rt d) := rfl
@[simp] theorem dDrop_eq {f : DE} {e : Ev} : dDrop f e = bnd (f e) fun _ => ret (.nx e) := rfl
@[simp] theorem dIfS_eq {c : DT} {f g : DS} {e : Ev} : dIfS c f g e = bnd (c e) fun k => if k = true then f e else g e := rfl
@[simp] theorem dBrk_eq {e : Ev} : dBrk e = ret (.bk e) := rfl
@[simp] theorem dNever_eq {e : Ev} : dNever e = stuck := rfl
@[simp] theorem dFrz_eq {i : Nat} {f : DS} {e : Ev} : dFrz i f e = f (frz i e) := rfl
@[simp] theorem dSetOwn_eq {i : Nat} {g : DA} {e : Ev} : dSetOwn i g e = bnd (g e) fun ds => if ds.length ≤ 100000 ∧ i < e.length then ret (.nx (e.set i (.own ds))) else stuck := rfl
def parK (i j : Nat) (e : Ev) : List D → Mo Oc
  | [c, d] => ret (.nx ((e.set i (.v c)).set j (.v d)))
  | _ => stuck
@[simp] theorem dPar_eq {i j : Nat} {g : DA} {e : Ev} : dPar i j g e = bnd (g e) (parK i j e) := by
  exact congrArg (bnd (g e)) (funext fun x => match x with
    | [] => rfl
    | [_] => rfl
    | [_, _] => rfl
    | _ :: _ :: _ :: _ => rfl)
@[simp] theorem parK_2 {i j : Nat} {e : Ev} {c d : D} : parK i j e [c, d] = ret (.nx ((e.set i (.v c)).set j (.v d))) := rfl
def par3K (i j l : Nat) (e : Ev) : List D → Mo Oc
  | [c, d, u] => ret (.nx (((e.set i (.v c)).set j (.v d)).set l (.v u)))
  | _ => stuck
@[simp] theorem dPar3_eq {i j l : Nat} {g : DA} {e : Ev} : dPar3 i j l g e = bnd (g e) (par3K i j l e) := by
  exact congrArg (bnd (g e)) (funext fun x => match x with
    | [] => rfl
    | [_] => rfl
    | [_, _] => rfl
    | [_, _, _] => rfl
    | _ :: _ :: _ :: _ :: _ => rfl)
@[simp] theorem par3K_3 {i j l : Nat} {e : Ev} {c d u : D} : par3K i j l e [c, d, u] = ret (.nx (((e.set i (.v c)).set j (.v d)).set l (.v u))) := rfl
@[simp] theorem dParOwn0_eq {i j : Nat} {f : DE} {e : Ev} : dParOwn0 i j f e = bnd (f e) fun d => if i < e.length then ret (.nx ((e.set i (.own [])).set j (.v d))) else stuck := rfl
@[simp] theorem dParOwn1_eq {i j : Nat} {f : DE} {e : Ev} : dParOwn1 i j f e = bnd (f e) fun d => if j < e.length then ret (.nx ((e.set i (.v d)).set j (.own []))) else stuck := rfl
@[simp] theorem dUnp_eq {t : Tg} {f : DE} {e : Ev} : dUnp t f e = bnd (f e) fun d => bnd (lft (asg t d e)) fun e' => ret (.nx e') := rfl
def itemsK : D → Mo (List D)
  | .lst xs => ret xs
  | .tup xs => ret xs
  | _ => stuck
@[simp] theorem dItems_eq {f : DE} {e : Ev} : dItems f e = bnd (f e) itemsK := by
  exact congrArg (bnd (f e)) (funext fun x => by cases x <;> rfl)
@[simp] theorem itemsK_lst {xs : List D} : itemsK (.lst xs) = ret xs := rfl
@[simp] theorem itemsK_tup {xs : List D} : itemsK (.tup xs) = ret xs := rfl
@[simp] theorem dRng1_eq {g : DA} {e : Ev} : dRng1 g e = bnd (g e) fun ds => bnd (lft (int1 ds)) fun j => if b62 j = true then ret (rngD 0 j.toNat) else stuck := rfl
@[simp] theorem dRng2_eq {g : DA} {e : Ev} : dRng2 g e = bnd (g e) fun ds => bnd (lft (int2 ds)) fun p => if (b62 p.1 && b62 p.2) = true then ret (rngD p.1 (p.2 - p.1).toNat) else stuck := rfl
@[simp] theorem int1_int {i : Int} : int1 [.int i] = some i := rfl
@[simp] theorem int2_int {i j : Int} : int2 [.int i, .int j] = some (i, j) := rfl
theorem b62_ok {i : Int} (h : -4611686018427387904 ≤ i) (h' : i < 4611686018427387904) : b62 i = true := by
  unfold b62
  simp [h, h']
@[simp] theorem dEnm_eq {g : DA} {e : Ev} : dEnm g e = bnd (g e) fun ds => bnd (lft (lst1 ds)) fun xs => ret (enmD 0 xs) := rfl
@[simp] theorem lst1_lst {xs : List D} : lst1 [.lst xs] = some xs := rfl
@[simp] theorem dZip_eq {g : DA} {e : Ev} : dZip g e = bnd (g e) fun ds => lft (zip2 ds) := rfl
@[simp] theorem zip2_l {xs ys : List D} : zip2 [.lst xs, .lst ys] = some (zipD xs ys) := rfl
@[simp] theorem zip2_t {xs ys : List D} : zip2 [.tup xs, .tup ys] = some (zipD xs ys) := rfl
@[simp] theorem dFor_eq {fi : DA} {t : Tg} {body : DS} {e : Ev} : dFor fi t body e = bnd (fi e) fun items => dLoop t body items e := rfl
@[simp] theorem dLoop_nil {t : Tg} {body : DS} {e : Ev} : dLoop t body [] e = ret (.nx e) := rfl
/-- what comes behind a turn -/
def loopK (t : Tg) (body : DS) (xs : List D) : Oc → Mo Oc
  | .nx e2 => dLoop t body xs e2
  | .ct e2 => dLoop t body xs e2
  | .bk e2 => ret (.nx e2)
  | .rt d => ret (.rt d)
theorem dLoop_cons {t : Tg} {body : DS} {x : D} {xs : List D} {e : Ev} : dLoop t body (x :: xs) e = bnd (lft (asg t x e)) fun e1 => bnd (body e1) (loopK t body xs) := by
  unfold dLoop
  exact congrArg (bnd (lft (asg t x e))) (funext fun e1 => congrArg (bnd (body e1)) (funext fun o => by cases o <;> rfl))
@[simp] theorem loopK_nx {t : Tg} {body : DS} {xs : List D} {e : Ev} : loopK t body xs (.nx e) = dLoop t body xs e := rfl
@[simp] theorem loopK_rt {t : Tg} {body : DS} {xs : List D} {d : D} : loopK t body xs (.rt d) = ret (.rt d) := rfl
@[simp] theorem loopK_bk {t : Tg} {body : DS} {xs : List D} {e : Ev} : loopK t body xs (.bk e) = ret (.nx e) := rfl
@[simp] theorem dLc_eq {fi : DA} {t : Tg} {ft : DT} {fe : DE} {vs : List Nat} {e : Ev} : dLc fi t ft fe vs e = bnd (fi e) fun items => bnd (dLcLoop t ft fe (wipeE e vs) items []) fun ys => ret (.lst ys) := rfl
@[simp] theorem wipeE_nil {e : Ev} : wipeE e [] = e := rfl
@[simp] theorem wipeE_cons {e : Ev} {u : Nat} {vs : List Nat} : wipeE e (u :: vs) = (wipeE e vs).set u .no := rfl
@[simp] theorem ite_retb {P : Prop} [Decidable P] {a b : Bool} : (if P then ret a else ret b) = ret (if P then a else b) := by split <;> rfl
@[simp] theorem ite_retD {P : Prop} [Decidable P] {a b : D} : (if P then ret a else ret b) = ret (if P then a else b) := by split <;> rfl
@[simp] theorem ite_Dbl {P : Prop} [Decidable P] {a b : Bool} : (if P then D.bl a else D.bl b) = D.bl (if P then a else b) := by split <;> rfl
@[simp] theorem ite_Dint {P : Prop} [Decidable P] {a b : Int} : (if P then D.int a else D.int b) = D.int (if P then a else b) := by split <;> rfl
/-- comprehensions over pure elements -/
theorem lc_pure {t : Tg} {ft : DT} {fe : DE} {e0 : Ev} {p : D → Bool} {h : D → D} : ∀ {items acc : List D}, (∀ x ∈ items, ∃ e1, asg t x e0 = some e1 ∧ ft e1 = ret (p x) ∧ (p x = true → fe e1 = ret (h x))) → acc.length + items.length ≤ 100000 →
    dLcLoop t ft fe e0 items acc = ret (acc ++ (items.filter p).map h)
  | [], acc, _, _ => by simp [dLcLoop]
  | x :: xs, acc, H, hl => by
    obtain ⟨e1, h1, h2, h3⟩ := H x (by simp)
    have ih := fun acc hl => lc_pure (t := t) (ft := ft) (fe := fe) (e0 := e0) (p := p) (h := h) (items := xs) (acc := acc) (fun y hy => H y (by simp [hy])) hl
    rw [List.length_cons] at hl
    unfold dLcLoop
    rw [h1, lft_some, bnd_ret, h2, noErr_ret, bnd_ret]
    by_cases hp : p x = true
    · rw [if_pos hp, h3 hp, noErr_ret, bnd_ret, if_pos (by omega), ih _ (by rw [List.length_append]; simp; omega), List.filter_cons_of_pos hp]
      simp
    · rw [if_neg hp, ih _ (by omega), List.filter_cons_of_neg hp]
theorem lc_map {t : Tg} {fe : DE} {e0 : Ev} {h : D → D} {items : List D} (H : ∀ x ∈ items, ∃ e1, asg t x e0 = some e1 ∧ fe e1 = ret (h x)) (hl : items.length ≤ 100000) : dLcLoop t dYes fe e0 items [] = ret (items.map h) := by
  rw [lc_pure (ft := dYes) (p := fun _ => true) (h := h) (fun x hx => let ⟨e1, h1, h2⟩ := H x hx; ⟨e1, h1, rfl, fun _ => h2⟩) (by simpa using hl), List.filter_eq_self.mpr (fun _ _ => rfl)]
  rfl
/-! ### runs with draws: m takes at most c draws of the bag k -/
def PR : Int := 2305843009213693951
def BagAt (M : MS) (k n : Nat) : Prop := ∃ a b c : Int, M[k]? = some [.int a, .int b, .int c] ∧ 0 ≤ b ∧ b < 2305843009213693951 ∧ 0 ≤ c ∧ c + n ≤ 1099511627776
def Oth (k : Nat) (M M' : MS) : Prop := ∀ j, j ≠ k → M'[j]? = M[j]?
theorem Oth.refl (k : Nat) (M : MS) : Oth k M M := fun _ _ => rfl
theorem Oth.trans {k : Nat} {M M' M'' : MS} (a : Oth k M M') (b : Oth k M' M'') : Oth k M M'' := fun j h => (b j h).trans (a j h)
theorem BagAt.mono {M : MS} {k n m : Nat} (b : BagAt M k n) (h : m ≤ n) : BagAt M k m := by
  obtain ⟨x, y, z, h1, h2, h3, h4, h5⟩ := b
  exact ⟨x, y, z, h1, h2, h3, h4, by omega⟩
def Tk {α : Type} (k c : Nat) (m : Mo α) (post : α → Prop) : Prop := ∀ n M, BagAt M k (n + c) → ∃ a M', m M = some (.ok a, M') ∧ BagAt M' k n ∧ Oth k M M' ∧ post a
section
variable {α β : Type} {k c c1 c2 : Nat}
theorem Tk.ret {a : α} {post : α → Prop} (h : post a) : Tk k c (Z.ret a) post := fun n M b => ⟨a, M, rfl, b.mono (by omega), Oth.refl _ _, h⟩
theorem Tk.bind {m : Mo α} {f : α → Mo β} {p : α → Prop} {post : β → Prop} (h1 : Tk k c1 m p) (h2 : ∀ a, p a → Tk k c2 (f a) post) : Tk k (c1 + c2) (bnd m f) post := fun n M b => by
  obtain ⟨a, M1, e1, b1, o1, pa⟩ := h1 (n + c2) M (b.mono (by omega))
  obtain ⟨z, M2, e2, b2, o2, pz⟩ := h2 a pa n M1 b1
  exact ⟨z, M2, by unfold bnd; rw [e1]; exact e2, b2, o1.trans o2, pz⟩
theorem Tk.mono {m : Mo α} {p post : α → Prop} (h : Tk k c1 m p) (hc : c1 ≤ c) (hp : ∀ a, p a → post a) : Tk k c m post := fun n M b => by
  obtain ⟨a, M1, e1, b1, o1, pa⟩ := h (n + (c - c1)) M (b.mono (by omega))
  exact ⟨a, M1, e1, b1.mono (by omega), o1, hp a pa⟩
theorem Tk.ite {P : Prop} [Decidable P] {m m' : Mo α} {post : α → Prop} (h1 : P → Tk k c m post) (h2 : ¬ P → Tk k c m' post) : Tk k c (if P then m else m') post := by
  split
  · exact h1 (by assumption)
  · exact h2 (by assumption)
end
end Z

/-! ZB: tuple * int of any size, enumerate of a tuple, a tuple backwards -/
namespace Z
open PySem PySem.Spec PyProof.Rows L2
variable [Tbs]

/-! ### tuple * int -/
section
open AutoSeq1 (wpAny_loadPart')
set_option maxHeartbeats 4000000
/-- no times, or fewer -/
theorem mulT_none (l : Addr) (items : Array Value) (n : Nat) (dd : Option Addr) (sl : Array (Option Value)) (x : Int) (u : Tok) (c0 : (decide (x < -(2 ^ 63)) || decide (x ≥ 2 ^ 63)) = false) (c1 : (items.isEmpty || x == 1) = false) (c2 : (decide (x ≤ 0) || items.isEmpty) = true) :
    Meets (Builtin.«tuple.__mul__» ⟨[.ref l, .int x u], []⟩) (fun _ R s => s.heap.get? l = some { cls := .type "tuple", dict := dd, data := .seq items n, slots := sl } ∧
      R (.ok (.ret (Value.ref s.heap.objs.size))) { s with heap := s.heap.push { cls := Value.type "tuple", data := Data.seq #[] }, toks := s.toks }) :=
  .of_wp fun prog w A R s h => by
    obtain ⟨hp, g, d, tk, os⟩ := s
    obtain ⟨hl, h⟩ := h
    have f1 := AutoSeq1.idx_int
    wp_walk using wpAny_loadPart' hl
    repeat (first
      | (refine wpAny_ite_false (decide_eq_false (by rw [c0]; exact Bool.false_ne_true)) ?_; wp_walk using wpAny_loadPart' hl)
      | (refine wpAny_ite_false (decide_eq_false (by rw [c1]; exact Bool.false_ne_true)) ?_; wp_walk using wpAny_loadPart' hl)
      | (refine wpAny_ite_true (decide_eq_true (by rw [c2])) ?_; wp_walk using wpAny_loadPart' hl))
    exact ⟨_, rfl, h⟩
/-- once: the tuple itself -/
theorem mulT_once (l : Addr) (items : Array Value) (n : Nat) (dd : Option Addr) (sl : Array (Option Value)) (x : Int) (u : Tok) (c0 : (decide (x < -(2 ^ 63)) || decide (x ≥ 2 ^ 63)) = false) (c1 : (items.isEmpty || x == 1) = true) :
    Meets (Builtin.«tuple.__mul__» ⟨[.ref l, .int x u], []⟩) (fun _ R s => s.heap.get? l = some { cls := .type "tuple", dict := dd, data := .seq items n, slots := sl } ∧
      R (.ok (.ret (Value.ref l))) s) :=
  .of_wp fun prog w A R s h => by
    obtain ⟨hp, g, d, tk, os⟩ := s
    obtain ⟨hl, h⟩ := h
    have f1 := AutoSeq1.idx_int
    wp_walk using wpAny_loadPart' hl
    repeat (first
      | (refine wpAny_ite_false (decide_eq_false (by rw [c0]; exact Bool.false_ne_true)) ?_; wp_walk using wpAny_loadPart' hl)
      | (refine wpAny_ite_true (decide_eq_true (by rw [c1])) ?_; wp_walk using wpAny_loadPart' hl))
    exact ⟨_, rfl, h⟩
end
section
variable {prog : Program} {w : World} {A : Around} {E : Value → Shared → Prop} {s : Shared}
theorem mulT_op {l : Addr} {k : Int} {t : Tok} {its : Array Value} {n : Nat} {dd : Option Addr} {sl : Array (Option Value)} {Q : Value → Shared → Prop} (ho : s.heap.get? l = some { cls := .type "tuple", dict := dd, data := .seq its n, slots := sl })
    (h : wpAny (model prog w) A (call (.builtin "tuple.__mul__") [.ref l, .int k t]) Q E s) : wpAny (model prog w) A (binaryOp .Mult (.ref l) (.int k t)) Q E s :=
  wpAny_binaryOp_repeat_ref (T := "tuple") (U := "int") (by decide) ⟨_, ho, rfl⟩ (fun s' => typeIs_int s' k t) noFill_tuple_mul F.fills_int_mul F.slot_int_rmul repeat_tuple F.slot_int_index.lookup
    (call_meets F.slot_int_rmul (typeIs_int s k t) F.entry_int_rmul (F.args_int_rmul_2 _ _) (int_rmul_tuple k t l its n dd sl) ⟨ho, rfl, ⟨_, ho, rfl⟩, h⟩)
end
def rMulT (K : PySem.W.Frag) : R2 := fun x y H Q => ∃ (l : Addr) (k : Int) (xs : List V), x = .ref l ∧ y = .int k ∧ SqT K H l xs ∧ xs ≠ [] ∧ xs.length ≤ 100 ∧ -100000 ≤ k ∧ k ≤ 100000 ∧
  (k = 1 → Q (.ref l) H) ∧ (k ≠ 1 → ∀ p, H p = none → Q (.ref p) (upd H p (.tup (List.replicate k.toNat xs).flatten)))
theorem len_repl {α : Type} (xs : List α) : ∀ m : Nat, (List.replicate m xs).flatten.length = m * xs.length
  | 0 => by simp
  | m + 1 => by rw [List.replicate_succ, List.flatten_cons, List.length_append, len_repl xs m, Nat.add_mul, Nat.one_mul, Nat.add_comm]
theorem op_mulTZ {X : Cx} : OpR X (binaryOp .Mult) (rMulT X.K) := by
  intro pins s σ H x y v u Q I rx ry h
  obtain ⟨l, k, xs, rfl, rfl, hT, hne, hz, k1, k2, q1, q2⟩ := h
  cases rx
  obtain ⟨t, rfl⟩ := ry
  obtain ⟨its, r, ⟨⟨cls, dd, data, sl⟩, ho, hc, n, hd⟩, hs⟩ := I.tuple hT
  simp only at hc hd
  subst hc hd
  have hle : its.length = xs.length := r.length.symm
  have hi : its.toArray.isEmpty = false := by
    cases its with
    | nil => exact absurd (List.eq_nil_of_length_eq_zero hle.symm) hne
    | cons a b => rfl
  have c0 : (decide (k < -(2 ^ 63)) || decide (k ≥ 2 ^ 63)) = false := by
    rw [decide_eq_false (by omega), decide_eq_false (by omega)] <;> rfl
  refine mulT_op ho ?_
  by_cases e1 : k = 1
  · refine call_meets F.slot_tuple_mul ⟨_, ho, rfl⟩ F.entry_tuple_mul (F.args_tuple_mul_2 _ _) (mulT_once l its.toArray n dd sl k t c0 (by rw [hi, e1]; rfl)) ⟨ho, ?_⟩
    exact ⟨.ref l, H, I, rfl, q1 e1⟩
  · have c1 : (its.toArray.isEmpty || k == 1) = false := by
      rw [hi, Bool.false_or]
      exact beq_eq_false_iff_ne.mpr e1
    have q := q2 e1 _ (I.hok.fresh (Nat.le_refl _))
    by_cases e2 : k ≤ 0
    · refine call_meets F.slot_tuple_mul ⟨_, ho, rfl⟩ F.entry_tuple_mul (F.args_tuple_mul_2 _ _) (mulT_none l its.toArray n dd sl k t c0 c1 (by rw [decide_eq_true e2]; rfl)) ⟨ho, ?_⟩
      rw [show k.toNat = 0 by omega] at q
      refine ⟨.ref s.heap.objs.size, _, I.laid (t' := s.toks) (o := .tup []) (fun b ob z => Heap.get?_push_of_some _ z) (Nat.le_refl _) ?_, rfl, q⟩
      exact ⟨Nat.zero_le _, [], .nil, IsTup.new _ _⟩
    · have hsz0 : its.toArray.size = xs.length := by rw [List.size_toArray, hle]
      have a1 : k.toNat * xs.length ≤ 100000 * 100 := Nat.mul_le_mul (by omega) hz
      have hm : ((its.toArray.size : Nat) : Int) * k ≤ 10000000 := by
        rw [hsz0]
        have z : ((k.toNat * xs.length : Nat) : Int) ≤ 10000000 := by omega
        rw [Int.natCast_mul, Int.toNat_of_nonneg (by omega), Int.mul_comm] at z
        exact z
      have c2 : (decide (k ≤ 0) || its.toArray.isEmpty) = false := by
        rw [hi, Bool.or_false]
        exact decide_eq_false e2
      have c4 : Builtin.Tuple.tupleTooMany (((its.toArray.size : Nat) : Int) * k) = false := by
        unfold Builtin.Tuple.tupleTooMany
        rw [sizeLine_eq]
        exact decide_eq_false (by omega)
      have flen : (List.replicate k.toNat its).flatten.length ≤ sizeLine := by
        rw [len_repl, hle, sizeLine_eq]
        omega
      refine call_meets F.slot_tuple_mul ⟨_, ho, rfl⟩ F.entry_tuple_mul (F.args_tuple_mul_2 _ _) (tuple_mulW l its.toArray n dd sl k t c0 c1 c2 (by omega) c4 (by rw [size_rep, List.size_toArray]; exact flen)) ⟨ho, ?_⟩
      rw [size_rep]
      refine ⟨.ref s.heap.objs.size, _, I.laid (t' := s.toks) (o := .tup (List.replicate k.toNat xs).flatten) (fun b ob z => Heap.get?_push_of_some _ z) (Nat.le_refl _) ?_, rfl, q⟩
      exact ⟨by rw [len_repl, sizeLine_eq]; omega, _, r.rep k.toNat, IsTup.new _ _⟩
def mulTD : F2 := fun c d _ => match c, d with
  | .tup xs, .int k => if (!xs.isEmpty && decide (xs.length ≤ 100) && decide (-100000 ≤ k) && decide (k ≤ 100000)) = true then some (.tup (rep k.toNat xs)) else none
  | _, _ => none
theorem z_mulT {K : PySem.W.Frag} : OpZ K (rMulT K) mulTD := by
  intro bs M F H x y c d z Q w r1 r2 ez q
  unfold mulTD at ez
  split at ez
  · rename_i xs k
    split at ez
    · rename_i hl
      simp only [Bool.and_eq_true, Bool.not_eq_true', decide_eq_true_eq] at hl
      obtain ⟨⟨⟨h0, h1⟩, h2⟩, h3⟩ := hl
      cases ez
      cases r1 with
      | @tup a vs _ hp s1 =>
        cases r2
        have hl := s1.length
        refine ⟨a, k, vs, rfl, rfl, .inl (.inl (w.sub _ _ hp)), fun e => ?_, by omega, h2, h3, fun e => ?_, fun _ p hq => ?_⟩
        · subst e
          cases s1
          cases h0
        · subst e
          have e2 : rep (1 : Int).toNat xs = xs := by
            show (List.replicate 1 xs).flatten = xs
            simp
          rw [e2] at q
          exact q _ bs F H (Tr.refl _ _ _) w (.tup hp s1)
        · obtain ⟨w2, t2⟩ := w.laid (.tup (List.replicate k.toNat vs).flatten) hq
          exact q _ _ _ _ t2 w2 (.tup upd_same ((s1.rep _).tr t2))
    · cases ez
  · cases ez
theorem mulTD_tup {xs : List D} {k : Int} {M : MS} (h0 : xs.isEmpty = false) (h1 : xs.length ≤ 100) (h2 : -100000 ≤ k) (h3 : k ≤ 100000) : mulTD (.tup xs) (.int k) M = some (.tup (rep k.toNat xs)) := by
  show (if (!xs.isEmpty && decide (xs.length ≤ 100) && decide (-100000 ≤ k) && decide (k ≤ 100000)) = true then some (D.tup (rep k.toNat xs)) else none) = _
  rw [h0, decide_eq_true h1, decide_eq_true h2, decide_eq_true h3]
  rfl

/-! ### enumerate of a tuple -/
section
variable {prog : Program} {w : World} {A : Around} {E : Value → Shared → Prop} {s : Shared}
set_option maxHeartbeats 1000000 in
theorem meets_enumB {v : Value} {o : Obj} {G : Heap → Prop} (B : Begins v o G) :
    Meets (Builtin.«enumerate.__new__» ⟨[.type "enumerate", v], []⟩) (fun _ R s => G s.heap ∧
      R (.ok (.ret (.ref (s.heap.push o).objs.size))) { s with heap := (s.heap.push o).push { cls := .type "enumerate", data := .fields #[.none, .bool false, .ref s.heap.objs.size, rawInt 0, .none, .none] } }) :=
  .of_wp fun prog w A R s h => by
    obtain ⟨hp, g, d, tk, os⟩ := s
    obtain ⟨h1, h⟩ := h
    have hsub := sub_enumerate
    have q1 : ∀ {A' : Around} {E : Value → Shared → Prop} {Q : Value → Shared → Prop}, Q (.ref hp.objs.size) ⟨hp.push o, g, d, tk, os⟩ → wpAny (model prog w) A' (pyIter v) Q E ⟨hp, g, d, tk, os⟩ :=
      fun q => B.iter prog w _ _ ⟨hp, g, d, tk, os⟩ _ h1 q
    wp_walk
    refine wpAny_stack_any fun st => wpAny_pure ?_
    split
    · rename_i c _ _ _ _ _
      cases (c == Value.type "enumerate")
      · wp_walk using q1
        exact ⟨_, rfl, h⟩
      · wp_walk using q1
        exact ⟨_, rfl, h⟩
    · wp_walk using q1
      exact ⟨_, rfl, h⟩
theorem call_enumB {v : Value} {o : Obj} {G : Heap → Prop} {Q : Value → Shared → Prop} (B : Begins v o G) (hG : G s.heap)
    (h : ∀ h', IsEnum h' (s.heap.objs.size + 1) s.heap.objs.size 0 .none → h'.get? s.heap.objs.size = some o → h'.objs.size = s.heap.objs.size + 2 →
      (∀ b u, s.heap.get? b = some u → h'.get? b = some u) → Q (.ref (s.heap.objs.size + 1)) { s with heap := h' }) : wpAny (model prog w) A (call (.type "enumerate") [v]) Q E s := by
  refine callType_new F.called_enumerate (by decide) (F.typeCall_enumerate_1 _) (F.newCall_enumerate_1 _) (fun obj => F.args_object_init_2 obj _) F.entry_enumerate_new (meets_enumB B) ⟨hG, ?_⟩
  have hz : (s.heap.push o).objs.size = s.heap.objs.size + 1 := Heap.size_push ..
  show _ ∧ _
  rw [hz]
  have he : IsEnum ((s.heap.push o).push { cls := .type "enumerate", data := .fields #[.none, .bool false, .ref s.heap.objs.size, rawInt 0, .none, .none] }) (s.heap.objs.size + 1) s.heap.objs.size 0 .none := by
    have z := Heap.get?_push_size (s.heap.push o) (o := { cls := .type "enumerate", data := .fields #[.none, .bool false, .ref s.heap.objs.size, rawInt 0, .none, .none] }) rfl
    rw [hz] at z
    exact z
  exact ⟨⟨_, he, rfl⟩, h _ he (Heap.get?_push_of_some _ (Heap.get?_push_size _ B.free)) (by rw [Heap.size_push, hz]) fun b u z => Heap.get?_push_of_some _ (Heap.get?_push_of_some _ z)⟩
end
def ItT (K : PySem.W.Frag) (a : Addr) : It :=
  ⟨fun i H => ∃ (xs : List V) (x : V), SqT K H a xs ∧ xs[i]? = some x, fun i H v H' => ∃ T x, v = .ref T ∧ H T = none ∧ H' = upd H T (.tup [.int (i : Nat), x]) ∧ ∀ xs, SqT K H a xs → xs[i]? = some x, fun i H => ∃ xs : List V, SqT K H a xs ∧ xs.length = i⟩
theorem cls_ne {h : Heap} {a b : Addr} {o u : Obj} (e : h.get? a = some o) (f : h.get? b = some u) (n : o.cls ≠ u.cls) : a ≠ b := fun z => by
  rw [z, f] at e
  cases e
  exact n rfl
theorem turn_enumT {P : Program} {w : World} {K : PySem.W.Frag} {elts : List Expr} {kk : Nat} {tpos : Pos} (a e it : Addr) :
    Turn P w K (.Tuple elts kk tpos) (ItT K a) [e, it] e (fun i h => (∃ old, IsEnum h e it ((i : Nat) : Int) old) ∧ h.IsTupleIter it a i ∧ e ≠ it) where
  mem := by simp
  obj := fun i h st b hb => by
    obtain ⟨⟨old, he⟩, ⟨o, ho, hc, hd⟩, _⟩ := st
    rcases List.mem_cons.mp hb with z | z
    · rw [z]
      exact ⟨_, he, fun v q => nomatch q⟩
    · rw [List.mem_singleton.mp z]
      exact ⟨o, ho, fun v q => by rw [hd] at q; cases q⟩
  keep := fun i h h' st k => let ⟨⟨old, he⟩, hi, hne⟩ := st; ⟨⟨old, k e (by simp) _ he⟩, hi.at fun o q => k it (by simp) o q, hne⟩
  item := by
    intro X hP hw hK hc i pins s σ H E I hf st hg
    subst hP hw hK
    obtain ⟨⟨old, he⟩, hit, hne⟩ := st
    obtain ⟨xs, x, hq, hx⟩ := hg
    obtain ⟨its, rv, p, hz⟩ := I.tuple hq
    obtain ⟨u, hu, ru⟩ := rv.get hx
    have hu' : its.toArray[i]? = some u := by simpa using hu
    have hlt : i < its.toArray.size := (Array.getElem?_eq_some_iff.mp hu').1
    have hel : e < s.heap.objs.size := Heap.lt_size he
    have hil : it < s.heap.objs.size := by obtain ⟨_, q, _⟩ := hit; exact Heap.lt_size q
    have nai : a ≠ it := by
      obtain ⟨o1, z1, z2, _⟩ := id p
      obtain ⟨o2, z3, z4, _⟩ := id hit
      exact cls_ne z1 z3 (by rw [z2, z4]; decide)
    have nae : e ≠ a := by
      obtain ⟨o1, z1, z2, _⟩ := id p
      exact cls_ne he z1 (by rw [z2]; show Value.type "enumerate" ≠ Value.type "tuple"; decide)
    have D := Draws.tuple (prog := X.prog) (w := X.w) (A := X.A.in1) (show X.A.in1.handled = none from I.ok.hd hc) it a nai its.toArray
    refine wpAny_pyNext_enum_itemD D he ⟨hit, p⟩ hlt hne (by simp [hne, nae]) fun x2 h' tk hP ho hs hT hsz hk => ?_
    obtain rfl : x2 = u := Option.some.inj (hP.symm.trans hu')
    refine ⟨_, rfl, wpAny_letOwnedTupleGo_enum (s := { s with heap := h', toks := tk + 1 }) ho fun h'' he' sb => ?_⟩
    have hT2 : h''.get? s.heap.objs.size = some { cls := .type "tuple", data := .seq #[.int i tk, x2] } := (sb.2 _ (Nat.ne_of_gt hel)).trans hT
    have new : ObjOk X.prog X.w (upd H s.heap.objs.size (.tup [.int (i : Nat), x])) h'' s.heap.objs.size (.tup [.int (i : Nat), x]) :=
      ⟨by show 2 ≤ sizeLine; decide, [.int i tk, x2], .cons ⟨_, rfl⟩ (.cons ru .nil), ⟨_, hT2, rfl, _, rfl⟩⟩
    have I1 : Inv X pins σ (upd H s.heap.objs.size (.tup [.int (i : Nat), x])) { s with heap := h'', toks := tk + 1 } :=
      I.turnedNew (ch := [e, it]) (fun b ob hb q => (sb.2 b (fun z => hb (by simp [z]))).trans (hk b ob (fun z => hb (by simp [z])) (fun z => hb (by simp [z])) q)) hf (Nat.le_refl _) new
    refine ⟨.ref s.heap.objs.size, _, I1, rfl, ⟨_, x, rfl, I.hok.fresh (Nat.le_refl _), rfl, fun ys hy => by rw [I.tuple_inj hy hq]; exact hx⟩, ⟨⟨x2, ?_⟩, hs.1.at fun o q => (sb.2 it (Ne.symm hne)).trans q, hne⟩, fun b hb => ?_⟩
    · have e1 : ((i + 1 : Nat) : Int) = (i : Int) + 1 := by omega
      rw [e1]
      exact he'
    · have hb' : b < s.heap.objs.size := by
        rcases List.mem_cons.mp hb with z | z
        · rw [z]
          exact hel
        · rw [List.mem_singleton.mp z]
          exact hil
      rw [upd_ne (Nat.ne_of_lt hb')]
      exact (hf b hb).1
  done := by
    intro X hP hw hK hc i pins s σ H E I hf st hg
    subst hP hw hK
    obtain ⟨⟨old, he⟩, hit, hne⟩ := st
    obtain ⟨xs, hq, hx⟩ := hg
    obtain ⟨its, rv, p, hz⟩ := I.tuple hq
    obtain ⟨f0, f1, f2, f3, f4, f5⟩ := hf it (by simp)
    have hl := rv.length
    have nai : a ≠ it := by
      obtain ⟨o1, z1, z2, _⟩ := id p
      obtain ⟨o2, z3, z4, _⟩ := id hit
      exact cls_ne z1 z3 (by rw [z2, z4]; decide)
    have D := Draws.tuple (prog := X.prog) (w := X.w) (A := X.A.in1) (show X.A.in1.handled = none from I.ok.hd hc) it a nai its.toArray
    have e0 : its.toArray.size = i := by rw [List.size_toArray]; omega
    refine wpAny_pyNext_enum_endD D he ⟨by rw [e0]; exact hit, p⟩ fun h' eb => ⟨rfl, ?_⟩
    exact I.turned (t' := s.toks) (fun b o hb q => eb b o hb q) f0 f1 f3 f4 f5
  self := fun A i s Q E st h => let ⟨⟨_, he⟩, _⟩ := st; wpAny_pyIter_enum he h
def iEnmT (K : PySem.W.Frag) (ta : TA) : TI := fun σ H R => ta σ H fun vs H1 => ∃ a xs, vs = [.ref a] ∧ SqT K H1 a xs ∧ R (ItT K a) H1
section
variable {X : Cx} {W : Wi} {K : PySem.W.Frag} {bs : List Addr} {F : Hp} {ex : Expr}
theorem pi_enmT {e : Expr} {ta : TA} {p pos tpos : Pos} {elts : List Expr} {kk : Nat} (hg : Gl X "enumerate") (hm : X.mg "enumerate" = none) (ha : PA X [e] ta) (hs : starEach [e] X.env = [(false, eval e X.env)] := by rfl) :
    PI X (.Tuple elts kk tpos) (.Call (.Name "enumerate" p) [e] [] pos) (iEnmT X.K ta) := by
  refine ⟨fun pins s σ H R I h => ?_⟩
  refine Call_ (ld_blt I hg hm boot_enumerate (PyProof.Rows.callWith_type1 (thn (ha.run pos pins s σ H _ I h) fun us s1 ⟨vs, H1, I1, r1, q1⟩ => ?_) hs rfl))
  obtain ⟨a, xs, rfl, hq, q⟩ := q1
  rw [Vals.ref1 r1]
  obtain ⟨its, rv, p', hz⟩ := I1.tuple hq
  refine call_enumB (begins_tuple a its.toArray) p' fun h' he hit hsz hk => wpAny_pyIter_enum he ?_
  have I2 : Inv X pins σ H1 { s1 with heap := h' } := I1.kept (t' := s1.toks) hk
  refine ⟨s1.heap.objs.size + 1, [s1.heap.objs.size + 1, s1.heap.objs.size], _, _, H1, rfl, I2, turn_enumT a (s1.heap.objs.size + 1) s1.heap.objs.size, ⟨⟨.none, he⟩, ⟨_, hit, rfl, rfl⟩, Nat.succ_ne_self _⟩, fun b hb => ?_, q⟩
  have hle : s1.heap.objs.size ≤ b := by
    rcases List.mem_cons.mp hb with z | z
    · rw [z]
      exact Nat.le_succ _
    · rw [List.mem_singleton.mp z]
      exact Nat.le_refl _
  exact I1.fpOk hle (I1.hok.fresh hle)
theorem iter_enmT {a : Addr} {vs : List V} {ds : List D} (h : F a = some (.tup vs)) (s : Reps K bs F vs ds) : IterOk K (ItT K a) bs F (enmD 0 ds) where
  go := fun F' H' s1 s2 i hi => by
    rw [enmD_len] at hi
    exact ⟨vs, vs[i]'(by rw [s.length]; exact hi), .inl (.inl (s2 _ _ (s1 _ _ h))), by simp [s.length, hi]⟩
  stop := fun F' H' s1 s2 => ⟨vs, .inl (.inl (s2 _ _ (s1 _ _ h))), by rw [s.length, enmD_len]⟩
  yld := fun more F' H' M' s1 w i x H'' d hd y => by
    obtain ⟨T, z, rfl, hT, rfl, y⟩ := y
    obtain ⟨d', e1, rfl⟩ := enmD_get 0 ds i d hd
    obtain ⟨v, e, r⟩ := s.get e1
    have e2 := y vs (.inl (.inl (w.sub _ _ (s1 _ _ h))))
    rw [e] at e2
    cases e2
    obtain ⟨w2, t2⟩ := w.laid (.tup [.int (i : Nat), z]) hT
    refine ⟨_, t2, w2, .tup upd_same (.cons ?_ (.cons ((r.mono s1).tr t2) .nil))⟩
    rw [Nat.zero_add]
    exact .int _
def tup1 : List D → Option (List D)
  | [.tup xs] => some xs
  | _ => none
theorem tup1_rep {ds es : List D} {vs : List V} (h : tup1 ds = some es) (r : Reps K bs F vs ds) : ∃ a us, vs = [.ref a] ∧ F a = some (.tup us) ∧ Reps K bs F us es := by
  unfold tup1 at h
  split at h
  · cases h
    obtain ⟨v, rfl, q⟩ := r.one
    cases q with
    | tup hp s => exact ⟨_, _, rfl, hp, s⟩
  · cases h
def dEnmT (g : DA) : DA := fun e => bnd (g e) fun ds => bnd (lft (tup1 ds)) fun xs => ret (enmD 0 xs)
theorem zi_enmT {elts : List Expr} {kk : Nat} {g : DA} {p pos tpos : Pos} (hg : Gl X "enumerate") (hm : X.mg "enumerate" = none) (ha : ZA X W [ex] g) (hs : starEach [ex] X.env = [(false, eval ex X.env)] := by rfl) : ZI X W (.Tuple elts kk tpos) (.Call (.Name "enumerate" p) [ex] [] pos) (dEnmT g) := ⟨fun pins s σ H R I h => (pi_enmT hg hm ha hs).run pins s σ H R I (by
  obtain ⟨bs, M, F, e, at0, run⟩ := h
  refine ⟨bs, M, F, e, at0, run.bind.imp fun ds bs1 M1 F1 H1 t1 w1 run1 vs r => ?_⟩
  cases e1 : tup1 ds with
  | none =>
    rw [e1] at run1
    exact run1.elim
  | some xs =>
    rw [e1] at run1
    have run2 := Run.here w1 run1.bind
    obtain ⟨a, us, rfl, hp, s⟩ := tup1_rep e1 r
    exact ⟨a, us, rfl, .inl (.inl (w1.sub _ _ hp)), Run.here w1 run2 _ (iter_enmT hp s)⟩)⟩
end
end Z

/-! ZC: min of a list of data, list.index, sorted(set(list)), calls whose list is kept as one's own -/
namespace Z
open PySem PySem.Spec PyProof.Rows L2
variable [Tbs]

theorem hu65 {k : Nat} {A : Around} (hr : Room k A) : A.units + 65 < cLine := by
  have := hr.un
  omega
/-! ### data are told apart by what they are read as -/
theorem toP_inj : ∀ (n : Nat) (c d : D), okN n c = true → okN n d = true → toP c = toP d → c = d := by
  have all : ∀ (n : Nat), (∀ c d, okN n c = true → okN n d = true → toP c = toP d → c = d) → ∀ xs ys : List D, (∀ x ∈ xs, okN n x = true) → (∀ y ∈ ys, okN n y = true) → toPs xs = toPs ys → xs = ys := by
    intro n ih xs
    induction xs with
    | nil =>
      intro ys h1 h2 e
      cases ys with
      | nil => rfl
      | cons y ys => simp [toPs] at e
    | cons x xs ihl =>
      intro ys h1 h2 e
      cases ys with
      | nil => simp [toPs] at e
      | cons y ys =>
        simp only [toPs, List.cons.injEq] at e
        rw [ih x y (h1 x (by simp)) (h2 y (by simp)) e.1, ihl ys (fun z hz => h1 z (by simp [hz])) (fun z hz => h2 z (by simp [hz])) e.2]
  intro n
  induction n with
  | zero =>
    intro c d h1 h2 e
    cases c <;> cases d <;> first
      | (simp [okN] at h1; done)
      | (simp [okN] at h2; done)
      | (simp [toP] at e; done)
      | rfl
      | (simp [toP] at e; rw [e])
  | succ n ih =>
    intro c d h1 h2 e
    cases c <;> cases d <;> first
      | (simp [okN] at h1; done)
      | (simp [okN] at h2; done)
      | (simp [toP] at e; done)
      | rfl
      | (simp only [toP, PyData.tuple.injEq] at e; rw [all n ih _ _ (okN_all (.inl h1)) (okN_all (.inl h2)) e])
      | (simp only [toP, PyData.list.injEq] at e; rw [all n ih _ _ (okN_all (.inr h1)) (okN_all (.inr h2)) e])
      | (simp [toP] at e; rw [e])
theorem toPs_map : ∀ xs : List D, toPs xs = xs.map toP
  | [] => by simp [toPs]
  | x :: xs => by simp [toPs, toPs_map xs]

/-! ### min of a list of data -/
section
variable {K : PySem.W.Frag} {X : Cx}
theorem minD_mem (d : PyData) : ∀ ds : List PyData, PySem.W.minD d ds ∈ d :: ds := by
  intro ds
  unfold PySem.W.minD
  induction ds generalizing d with
  | nil => simp
  | cons e r ih =>
    rw [List.foldl_cons]
    have z := ih (if PySem.W.dataLt e d = true then e else d)
    rcases List.mem_cons.mp z with q | q
    · rw [q]
      split <;> simp
    · exact List.mem_cons_of_mem _ (List.mem_cons_of_mem _ q)
theorem Vals.back : ∀ {xs : List V} {us : List Value} {i : Nat} {u : Value}, Vals xs us → us[i]? = some u → ∃ x, xs[i]? = some x ∧ RelV x u
  | _, _, _, _, .nil, e => by simp at e
  | _, _, 0, _, .cons r _, e => by
    simp at e
    subst e
    exact ⟨_, rfl, r⟩
  | _, _, i + 1, u, .cons _ t, e => by
    obtain ⟨x, h1, h2⟩ := Vals.back (i := i) (u := u) t (by simpa using e)
    exact ⟨x, by simpa using h1, h2⟩
def rMinD (K : PySem.W.Frag) : List V → Hp → VK → Prop := fun vs H Q => ∃ (a : Addr) (xs : List V) (d : PyData) (ds : List PyData), vs = [.ref a] ∧ SqL K H a xs ∧ DpAll K H xs (d :: ds) ∧ PySem.W.AlikeAll (d :: ds) ∧ PyData.depthAll (d :: ds) ≤ 60 ∧
  ∀ (i : Nat) (x : V), xs[i]? = some x → (d :: ds)[i]? = some (PySem.W.minD d ds) → Q x H
theorem cr_minD (hc : X.calm = true) (hu : X.A.units + 64 < cLine) : CallR X (.builtin "min") (rMinD X.K) := by
  intro pins s σ H vs us Q I r h
  obtain ⟨a, xs, d, ds, rfl, hs, hd, ha, hp, q⟩ := h
  obtain ⟨its, rv, pl, hz⟩ := I.list hs
  rw [Vals.ref1 r]
  obtain ⟨as, h4⟩ := Dp.readsAll I (d :: ds) xs its hd rv
  refine PySem.W.min_list_data (vs := its.toArray) (I.ok.hd hc) pl.isList h4 ha (by omega) fun i v h' tk bs hv hr hk => ?_
  have hv' : its[i]? = some v := by simpa using hv
  obtain ⟨x, hx, rx⟩ := Vals.back rv hv'
  obtain ⟨bs2, r2, hlt, hmem, _⟩ := PySem.W.readsAll_at h4 i v hv'
  have e : (d :: ds).getD i .none = PySem.W.minD d ds := PySem.W.alike_unique _ _ v _ _ (ha.1 _ hmem _ (minD_mem d ds)) (Reads.keeps hk r2) hr
  refine ⟨x, H, I.kept hk, rx, q i x hx ?_⟩
  rw [List.getD_eq_getElem?_getD, List.getElem?_eq_getElem hlt] at e
  rw [List.getElem?_eq_getElem hlt, ← e]
  rfl
/-- the first of the least -/
def minBy (d : D) (ds : List D) : D := ds.foldl (fun a y => if PySem.W.dataLt (toP y) (toP a) = true then y else a) d
theorem minBy_toP (d : D) (ds : List D) : toP (minBy d ds) = PySem.W.minD (toP d) (ds.map toP) := by
  unfold minBy PySem.W.minD
  induction ds generalizing d with
  | nil => rfl
  | cons e r ih =>
    rw [List.foldl_cons, List.map_cons, List.foldl_cons, ih]
    congr 1
    split <;> rfl
theorem minBy_mem (d : D) : ∀ ds : List D, minBy d ds ∈ d :: ds := by
  intro ds
  unfold minBy
  induction ds generalizing d with
  | nil => simp
  | cons e r ih =>
    rw [List.foldl_cons]
    have z := ih (if PySem.W.dataLt (toP e) (toP d) = true then e else d)
    rcases List.mem_cons.mp z with q | q
    · rw [q]
      split <;> simp
    · exact List.mem_cons_of_mem _ (List.mem_cons_of_mem _ q)
def alikeD (xs : List D) : Bool := xs.all fun x => !isNone x && xs.all fun y => PySem.W.alike (toP x) (toP y)
def minD1 : F1 := fun ds _ => match ds with
  | [.lst (x :: xs)] => if ((x :: xs).all (okN 8) && alikeD (x :: xs)) = true then some (minBy x xs) else none
  | _ => none
theorem toP_non {n : Nat} {d : D} (h : okN n d = true) (e : toP d = .none) : d = .non := toP_inj n d .non h (by cases n <;> rfl) (by rw [e]; simp [toP])
theorem z_minD : CallZ K (rMinD K) minD1 := by
  intro bs M F H xs ds z Q w r ez q
  unfold minD1 at ez
  split at ez
  · rename_i x l
    split at ez
    · rename_i hc
      rw [Bool.and_eq_true] at hc
      obtain ⟨h1, h2⟩ := hc
      have h1' : ∀ y ∈ x :: l, okN 8 y = true := List.all_eq_true.mp h1
      have h2' := List.all_eq_true.mp h2
      cases ez
      obtain ⟨v, rfl, rr⟩ := r.one
      cases rr with
      | @lst a vs _ hp s =>
        have dp := Reps.dp w.sub s h1'
        rw [toPs_map, List.map_cons] at dp
        refine ⟨a, vs, toP x, l.map toP, rfl, .inl (.inl (w.sub _ _ hp)), dp, ⟨fun y hy u hu => ?_, fun y hy e => ?_⟩, ?_, fun i y hi hm => ?_⟩
        · rw [← List.map_cons] at hy hu
          obtain ⟨y', hy', rfl⟩ := List.mem_map.mp hy
          obtain ⟨u', hu', rfl⟩ := List.mem_map.mp hu
          have k := h2' y' hy'
          rw [Bool.and_eq_true] at k
          exact List.all_eq_true.mp k.2 u' hu'
        · rw [← List.map_cons] at hy
          obtain ⟨y', hy', rfl⟩ := List.mem_map.mp hy
          have k := h2' y' hy'
          rw [toP_non (h1' y' hy') e] at k
          simp at k
        · rw [← List.map_cons, ← toPs_map]
          have := depthAll_le (n := 8) (xs := x :: l) fun y hy => (okN_lay 8 y (h1' y hy)).2
          omega
        · have e1 : (x :: l)[i]? = some (minBy x l) := by
            rw [← List.map_cons, List.getElem?_map] at hm
            cases e : (x :: l)[i]? with
            | none =>
              rw [e] at hm
              cases hm
            | some c =>
              rw [e] at hm
              have em : toP c = toP (minBy x l) := by
                rw [minBy_toP]
                exact Option.some.inj hm
              rw [toP_inj 8 c (minBy x l) (h1' c (List.mem_of_getElem? e)) (h1' _ (minBy_mem x l)) em]
          obtain ⟨v', e2, r2⟩ := s.get e1
          rw [hi] at e2
          cases e2
          exact q _ bs F H (Tr.refl _ _ _) w r2
    · cases ez
  · cases ez
end

/-! ### list.index -/
/-- the first place of an equal one -/
def idxOf (y : D) : List D → Option Nat
  | [] => none
  | x :: xs => if eqN 8 x y = true then some 0 else (idxOf y xs).map (· + 1)
theorem idxOf_spec {y : D} : ∀ {xs : List D} {j : Nat}, idxOf y xs = some j → (∃ z, xs[j]? = some z ∧ eqN 8 z y = true) ∧ ∀ m z, m < j → xs[m]? = some z → eqN 8 z y = false
  | [], _, h => by cases h
  | x :: xs, j, h => by
    unfold idxOf at h
    split at h
    · rename_i e
      cases h
      exact ⟨⟨x, rfl, e⟩, fun m z hm => absurd hm (Nat.not_lt_zero _)⟩
    · rename_i e
      cases q : idxOf y xs with
      | none =>
        rw [q] at h
        cases h
      | some i =>
        rw [q] at h
        cases h
        obtain ⟨⟨z, h1, h2⟩, h3⟩ := idxOf_spec q
        refine ⟨⟨z, h1, h2⟩, fun m u hm hu => ?_⟩
        cases m with
        | zero =>
          simp at hu
          rw [← hu]
          simpa using e
        | succ m => exact h3 m u (Nat.lt_of_succ_lt_succ hm) (by simpa using hu)
def dIdx (fa fb : DE) : DE := fun e => bnd (fa e) fun x => match x with
  | .lst xs => bnd (fb e) fun y => if (xs.all (okN 7) && xs.all (okN 8) && okN 8 y) = true then lft ((idxOf y xs).map fun j => D.int (j : Int)) else stuck
  | _ => stuck
section
variable {X : Cx} {W : Wi} {o ex : Expr} {fa fb : DE} {apos cpos : Pos}
theorem ze_index (hu : X.A.units + 65 < cLine) (ho : ZE X W o fa) (he : ZE X W ex fb) (hb : attributeBase o "index" X.env (eval o X.env) = eval o X.env := by rfl) (he1 : starEach [ex] X.env = (false, eval ex X.env) :: starEach [] X.env := by rfl) (hline : (apos.endLine == cpos.line) = true := by rfl)
    (hfew : ((backTo cpos (starEach (ex :: []) X.env)).all (fun x => !x.1) && (backToKw cpos (keywordEach [] X.env)).all (fun x => x.1.isSome)
      && decide ((ex :: []).length + ([] : List Keyword).length + (if ([] : List Keyword).isEmpty then 0 else 1) < 30)) = true := by rfl) :
    ZE X W (.Call (.Attribute o "index" apos) [ex] [] cpos) (dIdx fa fb) := ⟨fun pins s σ H Q I h => (pe_bm PySem.F.plainAttrs_list PySem.F.slot_list_index PySem.F.type_list_index (mt_indexD hu) ho (pa_cons he pa_nil he1) (hbase := hb) (hline := hline) (hfew := hfew) (hs := he1)).run pins s σ H Q I (by
  obtain ⟨bs, M, F, e, at0, run⟩ := h
  refine ⟨bs, M, F, e, at0, run.bind.imp fun x bs1 M1 F1 H1 t1 w1 run1 v1 r1 => ?_⟩
  cases x with
  | lst xs =>
    cases r1 with
    | @lst a vs _ hp s =>
      refine ⟨.inl ⟨rfl, _, .inl (.inl (w1.sub _ _ hp))⟩, bs1, M1, F1, e, at0.tr t1 w1, run1.bind.imp fun y bs2 M2 F2 H2 t2 w2 run2 v2 r2 => ?_⟩
      by_cases hc : (xs.all (okN 7) && xs.all (okN 8) && okN 8 y) = true
      · rw [if_pos hc] at run2
        rw [Bool.and_eq_true, Bool.and_eq_true] at hc
        obtain ⟨⟨c1, c2⟩, c3⟩ := hc
        obtain ⟨z, ez, k⟩ := run2.of_lft
        cases ej : idxOf y xs with
        | none =>
          rw [ej] at ez
          cases ez
        | some j =>
          rw [ej] at ez
          cases ez
          obtain ⟨⟨z, h1, h2⟩, h3⟩ := idxOf_spec ej
          have rl : Rep X.K bs2 F2 (.ref a) (.lst xs) := (Rep.lst hp s).tr t2
          have d1 := Rep.dp (n := 8) w2.sub rl (show okN 8 (.lst xs) = true from c1)
          have s1 := shaped_of (d := .lst xs) (show okN 8 (.lst xs) = true from c1)
          simp only [toP] at d1 s1
          have at_ : ∀ (m : Nat) (u : D), xs[m]? = some u → (toPs xs)[m]? = some (toP u) := fun m u e => by rw [toPs_map, List.getElem?_map, e]; rfl
          have ok_ : ∀ (m : Nat) (u : D), xs[m]? = some u → okN 8 u = true := fun m u e => List.all_eq_true.mp c2 u (List.mem_of_getElem? e)
          refine ⟨a, v2, toP y, toPs xs, j, toP z, rfl, rfl, d1, r2.dp w2.sub c3, s1, shaped_of c3, at_ j z h1, by rw [eqN_eqv 8 z y (ok_ j z h1) c3]; exact h2, fun m u hm hu => ?_, k _ _ _ (Tr.refl _ _ _) w2 _ (.int _)⟩
          rw [toPs_map, List.getElem?_map] at hu
          cases e : xs[m]? with
          | none =>
            rw [e] at hu
            cases hu
          | some u' =>
            rw [e] at hu
            cases hu
            rw [eqN_eqv 8 u' y (ok_ m u' e) c3]
            exact h3 m u' hm e
      · rw [if_neg hc] at run2
        exact run2.elim
  | _ => exact run1.elim)⟩
end

/-! ### a call's new list is kept as one's own -/
/-- data without lists -/
def noL : Nat → D → Bool
  | _, .non => true
  | _, .bl _ => true
  | _, .int _ => true
  | _, .str _ => true
  | _, .obj _ => true
  | n + 1, .tup xs => xs.all (noL n)
  | _, _ => false
def dropL (F : Hp) : Hp := fun a => match F a with
  | some (.lst _) => none
  | o => o
theorem dropL_sub {F : Hp} {a : Addr} {o : HO} (h : dropL F a = some o) : F a = some o := by
  unfold dropL at h
  split at h
  · cases h
  · exact h
theorem dropL_tup {F : Hp} {a : Addr} {vs : List V} (h : F a = some (.tup vs)) : dropL F a = some (.tup vs) := by
  unfold dropL
  rw [h]
theorem dropL_lst {F : Hp} {a : Addr} {vs : List V} : dropL F a ≠ some (.lst vs) := fun h => by
  have q := dropL_sub h
  unfold dropL at h
  rw [q] at h
  cases h
theorem dropL_none {F : Hp} {a : Addr} (h : F a = none) : dropL F a = none := by
  unfold dropL
  rw [h]
def flatM (M : MS) : Bool := M.all fun ds => ds.all flatD
section
variable {K : PySem.W.Frag} {bs bs' : List Addr} {F F' H H' : Hp}
mutual
theorem Rep.bare {n : Nat} : ∀ {v : V} {d : D}, Rep K bs F v d → noL n d = true → Rep K bs (dropL F) v d
  | _, _, .non, _ => .non
  | _, _, .bl b, _ => .bl b
  | _, _, .int i, _ => .int i
  | _, _, .str x, _ => .str x
  | _, _, .tup h r, k => by
    cases n with
    | zero => simp [noL] at k
    | succ n => exact .tup (dropL_tup h) (Reps.bare r (show _ from k))
  | _, _, .lst _ _, k => by cases n <;> simp [noL] at k
  | _, _, .dct _ _ _, k => by cases n <;> simp [noL] at k
  | _, _, .scr _, k => by cases n <;> simp [noL] at k
  | _, _, .obj h, _ => .obj h
  | _, _, .con _ _ _, k => by cases n <;> simp [noL] at k
theorem Reps.bare {n : Nat} : ∀ {vs : List V} {ds : List D}, Reps K bs F vs ds → ds.all (noL n) = true → Reps K bs (dropL F) vs ds
  | _, _, .nil, _ => .nil
  | _, _, .cons r t, k => by
    rw [List.all_cons, Bool.and_eq_true] at k
    exact .cons (Rep.bare r k.1) (Reps.bare t k.2)
end
theorem Rep.flatAny {v : V} {d : D} (r : Rep K bs F v d) (h : flatD d = true) : Rep K bs' F' v d := by
  cases r <;> first | exact .non | exact .bl _ | exact .int _ | exact .str _ | (simp [flatD] at h; done)
theorem Reps.flatAny : ∀ {vs : List V} {ds : List D}, Reps K bs F vs ds → ds.all flatD = true → Reps K bs' F' vs ds
  | _, _, .nil, _ => .nil
  | _, _, .cons r t, k => by
    rw [List.all_cons, Bool.and_eq_true] at k
    exact .cons (r.flatAny k.1) (t.flatAny k.2)
theorem flatM_at {M : MS} {i : Nat} {ds : List D} (h : flatM M = true) (e : M[i]? = some ds) : ds.all flatD = true := List.all_eq_true.mp h ds (List.mem_of_getElem? e)
theorem Wd.bare {M : MS} (w : Wd K bs M F H) (hM : flatM M = true) : Wd K bs M (dropL F) H :=
  ⟨fun b u e => w.sub b u (dropL_sub e), w.nd, w.len, fun i b ds e1 e2 => let ⟨n1, vs, e3, r⟩ := w.objs i b ds e1 e2; ⟨dropL_none n1, vs, e3, r.flatAny (flatM_at hM e2)⟩, w.tab, fun p hp => dropL_none (w.tabF p hp)⟩
def clean (e : Ev) : Ev := e.map fun s => match s with
  | .v d => if noL 6 d = true then .v d else .no
  | .own ds => if ds.all (noL 6) = true then .own ds else .no
  | _ => .no
theorem Slots.bare : ∀ {σ : L2.St} {e : Ev} {os : List Addr}, Slots K bs F H σ e os → ∃ os', Slots K bs (dropL F) H σ (clean e) os' ∧ ∀ a ∈ os', a ∈ os
  | _, _, _, .nil => ⟨[], .nil, fun _ h => h⟩
  | _, _, _, .no s => let ⟨os', q, h⟩ := Slots.bare s; ⟨os', .no q, h⟩
  | _, _, _, .v (d := d) r s => by
    obtain ⟨os', q, h⟩ := Slots.bare s
    by_cases hc : noL 6 d = true
    · refine ⟨os', ?_, h⟩
      show Slots K bs (dropL F) H _ ((if noL 6 d = true then Sl.v d else .no) :: clean _) os'
      rw [if_pos hc]
      exact .v (r.bare hc) q
    · refine ⟨os', ?_, h⟩
      show Slots K bs (dropL F) H _ ((if noL 6 d = true then Sl.v d else .no) :: clean _) os'
      rw [if_neg hc]
      exact .no q
  | _, _, _, .own (ds := ds) h1 h2 h3 h4 r s => by
    obtain ⟨os', q, h⟩ := Slots.bare s
    by_cases hc : ds.all (noL 6) = true
    · refine ⟨_ :: os', ?_, fun b hb => (List.mem_cons.mp hb).elim (fun z => by rw [z]; exact List.mem_cons_self) fun z => List.mem_cons_of_mem _ (h b z)⟩
      show Slots K bs (dropL F) H _ ((if ds.all (noL 6) = true then Sl.own ds else .no) :: clean _) _
      rw [if_pos hc]
      exact .own h1 (dropL_none h2) h3 (fun z => h4 (h _ z)) (r.bare hc) q
    · refine ⟨os', ?_, fun b hb => List.mem_cons_of_mem _ (h b hb)⟩
      show Slots K bs (dropL F) H _ ((if ds.all (noL 6) = true then Sl.own ds else .no) :: clean _) os'
      rw [if_neg hc]
      exact .no q
  | _, _, _, .ownD h1 h2 h3 h4 hk r s => by
    obtain ⟨os', q, h⟩ := Slots.bare s
    exact ⟨os', .no q, fun b hb => List.mem_cons_of_mem _ (h b hb)⟩
/-- what was laid meanwhile is forgotten -/
theorem back_tr {F1 F2 : Hp} {M M' : MS} (w : Wd K bs M F H) (h1 : ∀ a ps, F a = some (.tbl ps) → F1 a = some (.tbl ps)) (t : Tr bs F1 H bs' F2 H') (w' : Wd K bs' M' F2 H') (hM : flatM M' = true) : Tr bs F H bs' F H' ∧ Wd K bs' M' F H' := by
  have notin : ∀ a o, F a = some o → a ∉ bs' := fun a o e z => by
    obtain ⟨more, eb, hm⟩ := t.pre
    have hH := w.sub _ _ e
    rw [eb] at z
    rcases List.mem_append.mp z with z | z
    · obtain ⟨i, hi, ei⟩ := List.mem_iff_getElem.mp z
      have e1 : bs[i]? = some a := List.getElem?_eq_some_iff.mpr ⟨hi, ei⟩
      have hi2 : i < M.length := by rw [← w.len]; exact hi
      obtain ⟨n1, _⟩ := w.objs i a _ e1 (List.getElem?_eq_getElem hi2)
      rw [n1] at e
      cases e
    · rw [hm a z] at hH
      cases hH
  have notin0 : ∀ a o, F a = some o → a ∉ bs := fun a o e z => by
    obtain ⟨more, eb, _⟩ := t.pre
    exact notin a o e (by rw [eb]; exact List.mem_append_left _ z)
  refine ⟨⟨t.pre, Same.refl _, fun a o e => .inl e, t.keep0, t.dom⟩, ⟨fun a o e => ?_, w'.nd, w'.len, fun i b ds e1 e2 => ?_, w'.tab, w.tabF⟩⟩
  · cases o with
    | tbl ps => exact w'.sub _ _ (t.fm _ _ (h1 _ _ e))
    | _ => exact t.keep a _ (w.sub _ _ e) (notin0 a _ e)
  obtain ⟨_, vs, e3, r⟩ := w'.objs i b ds e1 e2
  refine ⟨?_, vs, e3, r.flatAny (flatM_at hM e2)⟩
  cases q : F b with
  | none => rfl
  | some o => exact absurd (List.mem_of_getElem? e1) (notin b o q)
end
def dSetOwnC (i : Nat) (fe : DE) : DS := fun e M => if flatM M = true then match fe (clean e) M with
    | some (.ok (.lst ds), M') => if (flatM M' = true ∧ ds.all flatD = true) ∧ i < e.length then some (.ok (.nx (e.set i (.own ds))), M') else none
    | some (.err c, M') => if flatM M' = true then some (.err c, M') else none
    | _ => none
  else none
section
variable {X : Cx} {W : Wi} {ex : Expr} {fe : DE} {pos : Pos}
theorem zs_setOwnC {i : Nat} {x : Str} {pos' : Pos} (hN : X.N.Nodup) (hi : X.N[i]? = some x) (hx : Loc X.env.scope x) (he : ZE X W ex fe) (hs : swapsWith ex (some (.Name x pos')) pos.line X.env = pure false := by rfl) (hf : X.fn x = true ∨ X.env.scope.names.lookup x = some .local := by first | exact .inl rfl | exact .inr rfl | assumption) :
    ZS X W (.Assign [.Name x pos'] ex pos) (dSetOwnC i fe) := ⟨fun pins s σ H Dn I h => (ps_set hN hi hx he hs hf).run pins s σ H Dn I (by
  obtain ⟨bs0, F0, H0, bs, M, F, e, a, run⟩ := h
  obtain ⟨t0, w, os, sl, no⟩ := id a
  unfold dSetOwnC at run
  by_cases hM : flatM M = true
  · rw [if_pos hM] at run
    obtain ⟨os1, sl1, _⟩ := sl.bare
    refine ⟨bs, M, dropL F, clean e, ⟨w.bare hM, os1, sl1⟩, ?_⟩
    match ef : fe (clean e) M, run with
    | some (.ok d, M'), run =>
      intro bs' F' H' t w' v r
      cases d with
      | lst ds =>
        simp only at run
        by_cases hc : (flatM M' = true ∧ ds.all flatD = true) ∧ i < e.length
        · rw [if_pos hc] at run
          obtain ⟨⟨hM', hd⟩, hi'⟩ := hc
          cases r with
          | @lst p vs _ hp s =>
            have hn : H p = none := by
              rcases t.new p _ hp with z | z
              · exact absurd z dropL_lst
              · exact z
            obtain ⟨t2, w2⟩ := back_tr (F1 := dropL F) w (fun a ps e => by unfold dropL; rw [e]) t w' hM'
            have nb : p ∉ bs' := fun z => by
              obtain ⟨j, hj, ej⟩ := List.mem_iff_getElem.mp z
              have e1 : bs'[j]? = some p := List.getElem?_eq_some_iff.mpr ⟨hj, ej⟩
              have hj2 : j < M'.length := by rw [← w'.len]; exact hj
              obtain ⟨n1, _⟩ := w'.objs j p _ e1 (List.getElem?_eq_getElem hj2)
              rw [n1] at hp
              cases hp
            obtain ⟨os2, s2, k2⟩ := (sl.tr t2).setown (w'.sub _ _ hp) (w.fnone hn) nb (s.flatAny hd) i (fun z => sl.dom p z hn) hi'
            exact run bs' F H' _ ⟨t0.trans t2, w2, os2, s2, fun b hb => (k2 b hb).elim (fun z => by rw [z]; exact a.none0 hn) (no b)⟩
        · rw [if_neg hc] at run
          exact run.elim
      | _ => exact run.elim
    | some (.err c, M'), run =>
      intro bs' F' H' t w'
      simp only at run
      by_cases hM' : flatM M' = true
      · rw [if_pos hM'] at run
        obtain ⟨t2, w2⟩ := back_tr (F1 := dropL F) w (fun a ps e => by unfold dropL; rw [e]) t w' hM'
        exact run bs' F H' _ (t0.trans t2) w2
      · rw [if_neg hM'] at run
        exact run.elim
    | none, run => exact run.elim
  · rw [if_neg hM] at run
    exact run.elim)⟩
/-- a list of one's own is read for a test and stays one's own -/
def dTmp (j : Nat) (f : DT) : DT := fun e M => match f (frz j e) M with
  | some (.ok b, M') => if flatM M' = true then some (.ok b, M') else none
  | some (.err c, M') => if flatM M' = true then some (.err c, M') else none
  | none => none
theorem zt_tmp {c : Expr} {f : DT} (j : Nat) (h : ZT X W c f) : ZT X W c (dTmp j f) := ⟨fun pins s σ H Q I q => h.run pins s σ H Q I (by
  obtain ⟨bs, M, F, e, ⟨w, os, sl⟩, run⟩ := q
  obtain ⟨F1, os1, sl1, _, hF⟩ := sl.frz j
  have w1 : Wd X.K bs M F1 H := by
    rcases hF with rfl | ⟨p, o, _, fp, nb, hp, rfl, ho⟩
    · exact w
    · exact w.frz fp nb hp ho
  have sF : Same F F1 := by
    rcases hF with rfl | ⟨p, o, _, fp, nb, hp, rfl, _⟩
    · exact Same.refl _
    · exact fun b u q => by rw [upd_ne (ne_of_none q fp)]; exact q
  refine ⟨bs, M, F1, frz j e, ⟨w1, os1, sl1⟩, ?_⟩
  unfold dTmp at run
  match ef : f (frz j e) M, run with
  | some (.ok b, M'), run =>
    intro bs' F' H' t w'
    simp only at run
    by_cases hM' : flatM M' = true
    · rw [if_pos hM'] at run
      obtain ⟨t2, w2⟩ := back_tr w (fun a ps e => sF _ _ e) t w' hM'
      exact run bs' F H' t2 w2
    · rw [if_neg hM'] at run
      exact run.elim
  | some (.err c, M'), run =>
    intro bs' F' H' t w'
    simp only at run
    by_cases hM' : flatM M' = true
    · rw [if_pos hM'] at run
      obtain ⟨t2, w2⟩ := back_tr w (fun a ps e => sF _ _ e) t w' hM'
      exact run bs' F H' t2 w2
    · rw [if_neg hM'] at run
      exact run.elim
  | none, run => exact run.elim)⟩
end
end Z

/-! ZD: sorted(set(list of whole numbers)) -/
namespace Z
open PySem PySem.Spec PyProof.Rows L2
variable [Tbs]
section
variable {P : Program} {w : World} {A : Around} {E : Value → Shared → Prop} {s : Shared}
/-- a new, empty set -/
abbrev set0 (w : World) : Obj := { cls := .type "set", dict := none, data := .set #[] 0 (.fresh 0 0 (!w.params.followText "set-order")) }
theorem int_of {items : Array Value} {ns : List Int} (h : IntsAre items.toList ns) (i : Nat) (v : Value) (hv : items[i]? = some v) : ∃ k t, ns[i]? = some k ∧ v = .int k t := by
  have z := IntsAre.length h
  rw [Array.length_toList] at z
  have hi : i < ns.length := by
    rw [← z]
    exact (Array.getElem?_eq_some_iff.mp hv).1
  obtain ⟨t, e⟩ := PyProof.Rows.IntsAre.int_at h i v (by rw [Array.getElem?_toList]; exact hv)
  refine ⟨ns[i], t, List.getElem?_eq_getElem hi, ?_⟩
  rw [e, List.getD_eq_getElem?_getD, List.getElem?_eq_getElem hi]
  rfl
set_option maxHeartbeats 3200000 in
/-- the new set at S takes a list's numbers -/
theorem init_setL {l S : Addr} {items : Array Value} (ns : List Int) {Q : Value → Shared → Prop} (hh : A.handled = none) (hS : s.heap.get? S = some (set0 w)) (hl : s.heap.IsList l items) (hit : IntsAre items.toList ns) (hb : ns.length + 1 < scanBound) (hlS : l ≠ S)
    (h : ∀ (h' : Heap) (tk c : Nat), SetR w h' S (fun j => decide (j ∈ ns)) c → c ≤ ns.length → (∀ b o, b ≠ S → s.heap.get? b = some o → h'.get? b = some o) → Q .none { s with heap := h', toks := tk }) :
    wpAny (model P w) A.in1 (Builtin.«set.__init__» ⟨[.ref S, .ref l], []⟩) (fun fin s' => ∃ v, fin = .done (.ret v) ∧ Q v s') E s := by
  have hz := IntsAre.length hit
  rw [Array.length_toList] at hz
  obtain ⟨⟨ocls, odict, odata, oslots⟩, hol, hcl, nl, hdl⟩ := id hl
  simp only at hcl hdl
  subst hcl hdl
  have hT : s.TypeIs (.ref S) "set" := ⟨_, hS, rfl⟩
  have hsub := F.called_set.sub
  have n1 := F.sub_list_set
  have n2 := F.sub_list_frozenset
  have n3 : (Value.type "list" == Value.type "dict") = false := by decide
  have hSsz : S < s.heap.objs.size := Heap.lt_size hS
  have hlsz : l < s.heap.objs.size := Heap.lt_size hol
  unfold Builtin.«set.__init__» noKeywords Builtin.Frozenset.updateFrom
  generalize hPI : pyIter = PI
  wp_walk
  subst hPI
  refine wpAny_pyIter_list hl ?_
  refine wpAny_bind (wpAny_runValue ?_)
  have neI : l ≠ s.heap.objs.size := Nat.ne_of_lt hlsz
  have nSf : S ∉ [s.heap.objs.size, l] := fun z => by
    rcases List.mem_cons.mp z with z | z
    · exact Nat.ne_of_lt hSsz z
    · exact hlS (List.mem_singleton.mp z).symm
  refine set_update_ints ((Walks.list (show A.in1.in1.handled = none from hh) _ l neI items).toS) S nSf ns hz hb (int_of hit) (items.size - 0) 0 _ (by omega) (Nat.zero_le _) ⟨⟨_, Heap.get?_push_size _ rfl, rfl, rfl⟩, hl.push _⟩ ⟨0, Nat.le_refl 0, setR_new_at (Heap.get?_push_of_some _ hS)⟩ fun s' c hm hc hR => ?_
  obtain ⟨h', g2, d', tk', os'⟩ := s'
  have eg : g2 = s.gens := hm.gens
  have ed : d' = s.drawn := hm.drawn
  have eo : os' = s.os := hm.os
  subst eg ed eo
  rw [hz] at hc
  refine wpAny_pure (wpAny_pure ⟨_, rfl, h h' tk' c hR hc fun b o hbS e => ?_⟩)
  refine hm.heap b o (fun z => ?_) (Heap.get?_push_of_some _ e)
  rcases List.mem_cons.mp z with z | z
  · exact hbS z
  · exact Nat.ne_of_lt (Heap.lt_size e) (List.mem_singleton.mp z)
set_option maxHeartbeats 3200000 in
/-- set(l) -/
theorem call_setL {l : Addr} {items : Array Value} (ns : List Int) {Q : Value → Shared → Prop} (hh : A.handled = none) (hl : s.heap.IsList l items) (hit : IntsAre items.toList ns) (hb : ns.length + 1 < scanBound)
    (h : ∀ (h' : Heap) (tk c : Nat), SetR w h' s.heap.objs.size (fun j => decide (j ∈ ns)) c → c ≤ ns.length → (∀ b o, s.heap.get? b = some o → h'.get? b = some o) → Q (.ref s.heap.objs.size) { s with heap := h', toks := tk }) :
    wpAny (model P w) A (call (.type "set") [.ref l]) Q E s := by
  obtain ⟨c, tl, hmro⟩ := F.called_set.mro
  have q1 := F.called_set.made
  have q2 := F.called_set.sub
  have q3 := F.called_set.notType
  have q4 := F.called_set.canCreate
  have q5 := F.typeCall_set_1 (.ref l)
  have hlS : l ≠ s.heap.objs.size := by
    obtain ⟨o, ho, _⟩ := id hl
    exact Nat.ne_of_lt (Heap.lt_size ho)
  have hS : (s.heap.push (set0 w)).get? s.heap.objs.size = some (set0 w) := Heap.get?_push_size _ rfl
  refine wpAny_call (codeAny_of_tree ?_)
  show wpAny _ _ (callAny (.type "set") _) _ _ _
  refine wpAny_pure ⟨Code.quiet_builtin _ (by decide +kernel), codeAny_builtin F.entry_type_call ?_⟩
  rw [Around.under_plain (weight_type_call_type "set" [.ref l] []) rfl]
  repeat (any_goals (first | assumption | wp_step))
  refine codeAny_mono (code_set_led1 (.ref l) (E := E) (Q₁ := fun obj s₁ => obj = .ref s.heap.objs.size ∧ s₁ = { s with heap := s.heap.push (set0 w) }) ⟨rfl, rfl⟩) fun r s₁ hr => ?_
  match r, hr with
  | .error e, hr => exact hr
  | .ok (.ret obj), hr =>
    obtain ⟨rfl, rfl⟩ := hr
    have hT : Shared.TypeIs { s with heap := s.heap.push (set0 w) } (.ref s.heap.objs.size) "set" := ⟨_, hS, rfl⟩
    have q6 := F.called_set.init.lookup
    have q7 := F.called_set.init.bind (.ref s.heap.objs.size)
    repeat (any_goals (first | assumption | wp_step))
    refine codeAny_mono (codeAny_call_builtin (R := wants (fun r s₂ => r = .none ∧ ∃ h' tk c, s₂ = { s with heap := h', toks := tk } ∧ SetR w h' s.heap.objs.size (fun j => decide (j ∈ ns)) c ∧ c ≤ ns.length ∧ (∀ b o, s.heap.get? b = some o → h'.get? b = some o)) E) F.called_set.init.plain F.entry_set_init (check_set_init_1 hT ?_)) fun r₂ s₂ hr₂ => ?_
    · refine wpAny_mono (init_setL (A := A.in1) (s := { s with heap := s.heap.push (set0 w) }) (Q := fun r s₂ => r = .none ∧ ∃ h' tk c, s₂ = { s with heap := h', toks := tk } ∧ SetR w h' s.heap.objs.size (fun j => decide (j ∈ ns)) c ∧ c ≤ ns.length ∧ (∀ b o, s.heap.get? b = some o → h'.get? b = some o)) ns hh hS (hl.push _) hit hb hlS
        fun h' tk c R hc hk => ⟨rfl, h', tk, c, rfl, R, hc, fun b o e => hk b o (Nat.ne_of_lt (Heap.lt_size e)) (Heap.get?_push_of_some _ e)⟩) (fun fin s' q => ?_) fun _ _ q => q
      obtain ⟨v, rfl, q⟩ := q
      exact q
    · match r₂, hr₂ with
      | .error e, hr₂ => exact hr₂
      | .ok (.ret r), hr₂ =>
        obtain ⟨rfl, h', tk, c', rfl, R, hc, hk⟩ := hr₂
        repeat (any_goals (first | assumption | wp_step))
        exact h _ _ _ R hc hk
      | .ok .next, hr₂ => exact hr₂.elim
      | .ok .brk, hr₂ => exact hr₂.elim
      | .ok .cont, hr₂ => exact hr₂.elim
  | .ok .next, hr => exact hr.elim
  | .ok .brk, hr => exact hr.elim
  | .ok .cont, hr => exact hr.elim
/-- sorted of a set of any size -/
theorem sorted_setN {a : Addr} {S : Int → Bool} {n : Nat} {Q : Value → Shared → Prop} (R : SetR w s.heap a S n) (hh : A.handled = none) (hn : n ≤ 4096)
    (hQ : ∀ s' p (out : List Value) (c : Nat) (ns : List Int), (∀ b o, s.heap.get? b = some o → s'.heap.get? b = some o) → s'.gens = s.gens → s'.os = s.os → s.heap.objs.size ≤ p →
      s'.heap.get? p = some (seqObj "list" out.toArray c) → IntsAre out ns → ns.Pairwise (· < ·) → (∀ k, k ∈ ns ↔ S k = true) → ns.length = n → Q (.ref p) s') :
    wpAny (model P w) A (call (.builtin "sorted") [.ref a]) Q E s := by
  obtain ⟨o, es, ep, t, ho, hex, hd, g, nd, hm, hb, hf, hn2, hr, hl⟩ := R
  refine Calls.call_function_entry kind_sorted plain_sorted entry_sorted (args_sorted1 _) (?_ : wpAny _ _ (Builtin.«sorted» _) _ _ _)
  unfold Builtin.«sorted»
  refine wpAny_bind (m := checkCount "sorted" 1 1 _) (wpAny_pure (wpAny_bind (collect_set (A := A.in1) hh ⟨o, ho, hex.1, hd⟩ hf hb hr hl fun s1 vs k1 hz g1 o1 pm => ?_)))
  have hvl : vs.length = n := by rw [pm.length_eq, List.length_map, Array.length_toList]; exact hn2
  have hI : IntsAre vs (vs.map Builtin.Re.reRawOf) := ints_of vs fun v hv => by
    obtain ⟨e, he, q⟩ := List.mem_map.mp (pm.mem_iff.mp hv)
    obtain ⟨k, tk, h1, _⟩ := g e he
    exact ⟨k, tk, by rw [← q]; exact h1⟩
  have pk : (vs.map Builtin.Re.reRawOf).Perm (es.toList.map keyOf) := by
    have q := pm.map Builtin.Re.reRawOf
    rw [List.map_map] at q
    exact q
  have hz2 : vs.length ≤ sizeLine := by rw [hvl, sizeLine_eq]; omega
  refine wpAny_bind (wpAny_newList ?_ hz2)
  have hoL : (s1.heap.push (seqObj "list" vs.toArray 0)).get? s1.heap.objs.size = some (seqObj "list" vs.toArray 0) := Heap.get?_push_size _ rfl
  refine wpAny_bind (wpAny_holding (wpAny_call_entry slot_list_sort ⟨_, hoL, rfl⟩ entry_list_sort (SrtO.list_sort_ord SrtO.swo_int hoL hz2 (fun h2 => SrtO.ints_sortable hI h2) fun out a1 a2 => ⟨_, rfl, wpAny_pure ⟨_, rfl, ?_⟩⟩) (args_list_sort _)))
  obtain ⟨p1, p2, p3⟩ := SrtO.ints_out hI a1 a2
  obtain ⟨c, hc⟩ := sortedHeap_at (vs := vs) (out := out.toArray) hoL
  have pn := p2.trans pk
  refine hQ _ s1.heap.objs.size out c _ (fun b u e => ?_) g1 o1 hz hc p1 (lt_of_le_nodup _ p3 (pn.nodup_iff.mpr nd)) (fun k => by rw [pn.mem_iff, ← hm k]) (by rw [pn.length_eq, List.length_map, Array.length_toList]; exact hn2)
  have q := k1 b u e
  have hlt := Heap.lt_size q
  show (sortedHeap (s1.heap.push (seqObj "list" vs.toArray 0)) s1.heap.objs.size vs out.toArray).get? b = some u
  rw [sortedHeap_old (Nat.ne_of_lt hlt) (by rw [size_push']; exact Nat.lt_succ_of_lt hlt)]
  exact Heap.get?_push_of_some _ q
end

/-! ### strictly ascending, each once -/
def insU (x : Int) : List Int → List Int
  | [] => [x]
  | y :: r => if x < y then x :: y :: r else if x = y then y :: r else y :: insU x r
def sortU : List Int → List Int
  | [] => []
  | x :: r => insU x (sortU r)
theorem mem_insU {x z : Int} : ∀ {l : List Int}, z ∈ insU x l ↔ z = x ∨ z ∈ l
  | [] => by simp [insU]
  | y :: r => by
    unfold insU
    split
    · simp
    · split
      · rename_i e
        subst e
        simp
      · rw [List.mem_cons, mem_insU, List.mem_cons]
        constructor
        · rintro (h | h | h)
          · exact .inr (.inl h)
          · exact .inl h
          · exact .inr (.inr h)
        · rintro (h | h | h)
          · exact .inr (.inl h)
          · exact .inl h
          · exact .inr (.inr h)
theorem mem_sortU {z : Int} : ∀ {l : List Int}, z ∈ sortU l ↔ z ∈ l
  | [] => by simp [sortU]
  | x :: r => by
    unfold sortU
    rw [mem_insU, mem_sortU, List.mem_cons]
theorem insU_pw (x : Int) : ∀ {l : List Int}, l.Pairwise (· < ·) → (insU x l).Pairwise (· < ·)
  | [], _ => List.pairwise_singleton _ _
  | y :: r, h => by
    obtain ⟨h1, h2⟩ := List.pairwise_cons.mp h
    unfold insU
    split
    · rename_i q
      refine List.pairwise_cons.mpr ⟨fun z hz => ?_, h⟩
      rcases List.mem_cons.mp hz with e | e
      · omega
      · have := h1 z e
        omega
    · split
      · exact h
      · rename_i q1 q2
        refine List.pairwise_cons.mpr ⟨fun z hz => ?_, insU_pw x h2⟩
        rcases mem_insU.mp hz with e | e
        · omega
        · exact h1 z e
theorem sortU_pw : ∀ l : List Int, (sortU l).Pairwise (· < ·)
  | [] => .nil
  | x :: r => insU_pw x (sortU_pw r)
theorem pwlt_eq : ∀ {l m : List Int}, (∀ k, k ∈ l ↔ k ∈ m) → l.Pairwise (· < ·) → m.Pairwise (· < ·) → l = m
  | [], [], _, _, _ => rfl
  | [], y :: m, h, _, _ => absurd ((h y).mpr List.mem_cons_self) (by simp)
  | x :: l, [], h, _, _ => absurd ((h x).mp List.mem_cons_self) (by simp)
  | x :: l, y :: m, h, h1, h2 => by
    obtain ⟨a1, a2⟩ := List.pairwise_cons.mp h1
    obtain ⟨b1, b2⟩ := List.pairwise_cons.mp h2
    have e : x = y := by
      have q1 := (h x).mp List.mem_cons_self
      have q2 := (h y).mpr List.mem_cons_self
      rcases List.mem_cons.mp q1 with z1 | z1
      · exact z1
      · rcases List.mem_cons.mp q2 with z2 | z2
        · exact z2.symm
        · have := a1 y z2
          have := b1 x z1
          omega
    subst e
    congr 1
    refine pwlt_eq (fun k => ?_) a2 b2
    have q := h k
    rw [List.mem_cons, List.mem_cons] at q
    constructor
    · intro z
      rcases q.mp (.inr z) with e | e
      · have := a1 k z
        omega
      · exact e
    · intro z
      rcases q.mpr (.inr z) with e | e
      · have := b1 k z
        omega
      · exact e

/-! ### the rule -/
section
variable {X : Cx} {K : PySem.W.Frag} {W : Wi}
def rSetL (K : PySem.W.Frag) (w : World) : List V → Hp → VK → Prop := fun vs H Q => ∃ (a : Addr) (ns : List Int), vs = [V.ref a] ∧ SqL K H a (ns.map V.int) ∧ ns.length ≤ 4000 ∧
  ∀ (p : Addr) (c : Nat), H p = none → c ≤ ns.length → Q (.ref p) (upd H p (SetO w p (fun j => decide (j ∈ ns)) c))
theorem cr_setL (hc : X.calm = true) : CallR X (.type "set") (rSetL X.K X.w) := by
  intro pins s σ H vs us Q I r h
  obtain ⟨a, ns, rfl, hs, hn, q⟩ := h
  obtain ⟨its, rv, pl, hz⟩ := I.list hs
  rw [Vals.ref1 r]
  refine call_setL (items := its.toArray) ns (I.ok.hd hc) pl.isList (ints_of_vals rv) (by show ns.length + 1 < 4096; omega) fun h' tk c R hc' hk => ?_
  exact ⟨.ref s.heap.objs.size, _, I.laid (t' := tk) hk (Nat.le_refl _) (setO_new R), rfl, q _ c (I.hok.fresh (Nat.le_refl _)) hc'⟩
def rSortN (w : World) : List V → Hp → VK → Prop := fun vs H Q => ∃ (a : Addr) (S : Int → Bool) (n : Nat), vs = [V.ref a] ∧ H a = some (SetO w a S n) ∧ n ≤ 4096 ∧
  ∀ (ns : List Int) (p : Addr), ns.Pairwise (· < ·) → (∀ k : Int, k ∈ ns ↔ S k = true) → ns.length = n → H p = none → Q (.ref p) (upd H p (.lst (ns.map V.int)))
theorem cr_sortN (hc : X.calm = true) : CallR X (.builtin "sorted") (rSortN X.w) := by
  intro pins s σ H vs us Q I r h
  obtain ⟨a, S, n, rfl, ha, hn, q⟩ := h
  have R := setO_get I ha
  rw [Vals.ref1 r]
  refine sorted_setN R (I.ok.hd hc) hn fun s' p out c ns k g o hp hg hi hs hm hl => ?_
  have hlen : (ns.map V.int).length ≤ sizeLine := by rw [List.length_map, hl, sizeLine_eq]; omega
  have hf : H p = none := I.hok.fresh hp
  have J : Inv X pins σ (upd H p (.lst (ns.map V.int))) { s with heap := s'.heap, gens := s'.gens, drawn := s'.drawn, toks := s'.toks } :=
    I.call (ch := []) (Un.laid k hp hf) (I.hok.laid k hp ⟨hlen, out, c, vals_of_ints hi, hg⟩) (by rw [g]; exact I.bare) (fun _ z => nomatch z)
  have e : s' = { s with heap := s'.heap, gens := s'.gens, drawn := s'.drawn, toks := s'.toks } := by
    cases s'
    cases s
    cases o
    rfl
  rw [e]
  exact ⟨.ref p, _, J, rfl, q ns p hs hm hl hf⟩
def ssetK : D → Mo D
  | .lst xs => match intsOf xs with
    | some ns => if ns.length ≤ 4000 then ret (.lst ((sortU ns).map .int)) else stuck
    | none => stuck
  | _ => stuck
theorem ssetK_lst {xs : List D} : ssetK (.lst xs) = match intsOf xs with
    | some ns => if ns.length ≤ 4000 then ret (.lst ((sortU ns).map .int)) else stuck
    | none => stuck := rfl
theorem ssetK_ints {ns : List Int} (h : ns.length ≤ 4000) : ssetK (.lst (ns.map D.int)) = ret (.lst ((sortU ns).map .int)) := by
  rw [ssetK_lst, intsOf_ints]
  exact if_pos h
def dSortedSet (f : DE) : DE := fun e => bnd (f e) ssetK
theorem ze_sortedset {e : Expr} {f : DE} {p1 p2 q1 q2 : Pos} (hf : ZE X W e f) (hc : X.calm = true) (hg : Gl X "sorted") (hm : X.mg "sorted" = none) (hg2 : Gl X "set") (hm2 : X.mg "set" = none)
    (he : starEach [e] X.env = (false, eval e X.env) :: starEach [] X.env := by rfl) (he2 : starEach [.Call (.Name "set" p2) [e] [] q2] X.env = (false, eval (.Call (.Name "set" p2) [e] [] q2) X.env) :: starEach [] X.env := by rfl) :
    ZE X W (.Call (.Name "sorted" p1) [.Call (.Name "set" p2) [e] [] q2] [] q1) (dSortedSet f) :=
  ⟨fun pins s σ H Q I h => (pe_callB (cr_sortN hc) hg hm (by decide +kernel) (pa_cons (pe_callTy (cr_setL hc) hg2 hm2 (by decide +kernel) (pa_cons hf pa_nil he) (by decide) (by decide) he) pa_nil he2) (by decide) (by decide) he2).run pins s σ H Q I (by
    obtain ⟨bs, M, F, ev, at0, run⟩ := h
    refine ⟨bs, M, F, ev, at0, run.bind.imp fun x bs1 M1 F1 H1 t1 w1 run1 v1 r1 => ?_⟩
    cases x with
    | lst xs =>
      rw [ssetK_lst] at run1
      cases ei : intsOf xs with
      | none =>
        rw [ei] at run1
        exact run1.elim
      | some ns =>
        rw [ei] at run1
        simp only at run1
        by_cases hl : ns.length ≤ 4000
        · rw [if_pos hl] at run1
          cases r1 with
          | @lst a vs _ hp s =>
            rw [intsOf_map ei] at s
            have ev := s.ints
            subst ev
            refine ⟨a, ns, rfl, .inl (.inl (w1.sub _ _ hp)), hl, fun p c hn hcl => ?_⟩
            obtain ⟨w2, t2⟩ := w1.lost (SetO X.w p (fun j => decide (j ∈ ns)) c) hn
            refine ⟨p, fun j => decide (j ∈ ns), c, rfl, upd_same, by omega, fun ms q h1 h2 h3 hq => ?_⟩
            have e : ms = sortU ns := pwlt_eq (fun k => by rw [h2, mem_sortU, decide_eq_true_eq]) h1 (sortU_pw ns)
            subst e
            obtain ⟨w3, t3⟩ := w2.laid (.lst ((sortU ns).map V.int)) hq
            exact run1.ok _ _ _ (t2.trans t3) w3 _ (.lst upd_same (Reps.of_ints (sortU ns)))
        · rw [if_neg hl] at run1
          exact run1.elim
    | _ => exact run1.elim)⟩
end
end Z

/-! ZE: list(range(a, b)), range(a, b) with expressions of its own -/
namespace Z
open PySem PySem.Spec PyProof.Rows L2
variable [Tbs]
def rngK : D → D → Mo D
  | .int i, .int j => if (b62 i && b62 j && decide ((j - i).toNat ≤ 100000)) = true then ret (.lst (rngD i (j - i).toNat)) else stuck
  | _, _ => stuck
theorem rngK_int {i j : Int} : rngK (.int i) (.int j) = if (b62 i && b62 j && decide ((j - i).toNat ≤ 100000)) = true then ret (.lst (rngD i (j - i).toNat)) else stuck := rfl
/-- list(range(a, b)) -/
def dLstR2 (fa fb : DE) : DE := fun e => bnd (fa e) fun x => bnd (fb e) fun y => rngK x y
section
variable {X : Cx} {W : Wi} {a b : Expr} {fa fb : DE} {p p2 pos pos2 : Pos} {K : PySem.W.Frag} {bs : List Addr} {F : Hp}
theorem rgV_ints {i j : Int} : rgV i j = ((List.range (j - i).toNat).map fun k : Nat => i + (k : Int)).map V.int := by
  unfold rgV
  rw [List.map_map]
  rfl
theorem rngD_ints {i : Int} {n : Nat} : rngD i n = ((List.range n).map fun k : Nat => i + (k : Int)).map D.int := by
  unfold rngD
  rw [List.map_map]
  rfl
theorem ze_listrng (hc : X.calm = true) (hg : Gl X "list") (hm : X.mg "list" = none) (hg2 : Gl X "range") (hm2 : X.mg "range" = none) (ha : ZE X W a fa) (hb : ZE X W b fb)
    (na : starEach [a, b] X.env = (false, eval a X.env) :: starEach [b] X.env := by rfl) (nb : starEach [b] X.env = (false, eval b X.env) :: starEach [] X.env := by rfl)
    (ne : starEach [.Call (.Name "range" p2) [a, b] [] pos2] X.env = (false, eval (.Call (.Name "range" p2) [a, b] [] pos2) X.env) :: starEach [] X.env := by rfl)
    (hp : (backTo pos2 (starEach [b] X.env)).any (·.1) = false := by rfl) :
    ZE X W (.Call (.Name "list" p) [.Call (.Name "range" p2) [a, b] [] pos2] [] pos) (dLstR2 fa fb) := ⟨fun pins s σ H Q I h => (pe_listRg hc hg hm (prg_2 hg2 hm2 ha hb na nb hp) ne).run pins s σ H Q I (by
  obtain ⟨bs, M, F, e, at0, run⟩ := h
  refine ⟨bs, M, F, e, at0, run.bind.imp fun x bs1 M1 F1 H1 t1 w1 run1 v1 r1 => ?_⟩
  refine ⟨bs1, M1, F1, e, at0.tr t1 w1, run1.bind.imp fun y bs2 M2 F2 H2 t2 w2 run2 v2 r2 => ?_⟩
  cases x with
  | int i =>
    cases y with
    | int j =>
      cases r1 with
      | int =>
        cases r2 with
        | int =>
          rw [rngK_int] at run2
          by_cases hj : (b62 i && b62 j && decide ((j - i).toNat ≤ 100000)) = true
          · rw [if_pos hj] at run2
            rw [Bool.and_eq_true, Bool.and_eq_true, decide_eq_true_eq] at hj
            obtain ⟨⟨h1, h2⟩, h3⟩ := hj
            refine ⟨i, j, rfl, rfl, ⟨(b62_of h1).1, (b62_of h1).2, (b62_of h2).1, (b62_of h2).2, by omega⟩, fun q hq => ?_⟩
            obtain ⟨w3, t3⟩ := w2.laid (.lst (rgV i j)) hq
            refine run2.ok _ _ _ t3 w3 _ (.lst upd_same ?_)
            rw [rgV_ints, rngD_ints]
            exact Reps.of_ints _
          · rw [if_neg hj] at run2
            exact run2.elim
    | _ => exact run2.elim
  | _ => exact run2.elim)⟩
end
end Z

/-! ZF: dicts with whole numbers for keys -/
namespace Z
open PySem PySem.Spec PyProof.Rows L2
variable [Tbs]
theorem hu1 {k : Nat} {A : Around} (hr : Room k A) : A.units + 1 < cLine := by
  have := hu65 hr
  omega
/-! ### reading -/
def lookD : List Int → List D → Int → Option D
  | k :: ks, d :: ds, j => if k = j then some d else lookD ks ds j
  | _, _, _ => none
section
variable {K : PySem.W.Frag} {bs : List Addr} {F : Hp}
theorem lookD_rep : ∀ {kvs : List (Key × V)} {ks : List Int} {ds : List D} {j : Int} {d : D}, kvs.map (·.1) = ks.map Sum.inl → Reps K bs F (kvs.map (·.2)) ds → lookD ks ds j = some d → ∃ v, valV kvs (Sum.inl j : Key) = some v ∧ Rep K bs F v d
  | [], [], ds, j, d, _, _, h => by cases ds <;> cases h
  | [], k :: ks, ds, j, d, hk, _, _ => by cases hk
  | p :: kvs, [], ds, j, d, hk, _, _ => by cases hk
  | p :: kvs, k :: ks, [], j, d, hk, _, h => by cases h
  | p :: kvs, k :: ks, d0 :: ds, j, d, hk, r, h => by
    rw [List.map_cons, List.map_cons] at hk
    obtain ⟨h1, h2⟩ := List.cons.inj hk
    rw [List.map_cons] at r
    cases r with
    | cons r1 r2 =>
      unfold lookD at h
      by_cases e : k = j
      · rw [if_pos e] at h
        cases h
        exact ⟨p.2, valV_pos (by rw [h1, e]), r1⟩
      · rw [if_neg e] at h
        obtain ⟨v, e1, rv⟩ := lookD_rep h2 r2 h
        refine ⟨v, ?_, rv⟩
        rw [valV_neg (fun z => e ?_)]
        · exact e1
        · rw [h1] at z
          exact Sum.inl.inj z
theorem valV_no : ∀ {kvs : List (Key × V)} {ks : List Int} {j : Int}, kvs.map (·.1) = ks.map Sum.inl → j ∉ ks → valV kvs (Sum.inl j : Key) = none
  | [], _, _, _, _ => rfl
  | p :: kvs, [], j, hk, _ => by cases hk
  | p :: kvs, k :: ks, j, hk, h => by
    rw [List.map_cons, List.map_cons] at hk
    obtain ⟨h1, h2⟩ := List.cons.inj hk
    rw [valV_neg (fun z => h ?_)]
    · exact valV_no h2 fun z => h (List.mem_cons_of_mem _ z)
    · rw [h1] at z
      rw [Sum.inl.inj z]
      exact List.mem_cons_self
end
def dgetK : D → D → Mo D
  | .dct ks ds, .int j => lft (lookD ks ds j)
  | _, _ => stuck
theorem dgetK_int {ks : List Int} {ds : List D} {j : Int} : dgetK (.dct ks ds) (.int j) = lft (lookD ks ds j) := rfl
def dDget (fd fi : DE) : DE := fun e => bnd (fd e) fun x => bnd (fi e) fun y => dgetK x y
section
variable {X : Cx} {W : Wi} {o i : Expr} {fd fi : DE} {pos : Pos}
theorem ze_dget (hu : X.A.units + 1 < cLine) (ho : ZE X W o fd) (hi : ZE X W i fi) (hs : NoSl i := by exact fun _ _ => rfl) : ZE X W (.Subscript o i pos) (dDget fd fi) := ⟨fun pins s σ H Q I h => (pe_dget hu ho hi hs).run pins s σ H Q I (by
  obtain ⟨bs, M, F, e, at0, run⟩ := h
  refine ⟨bs, M, F, e, at0, run.bind.imp fun x bs1 M1 F1 H1 t1 w1 run1 v1 r1 => ?_⟩
  refine ⟨bs1, M1, F1, e, at0.tr t1 w1, run1.bind.imp fun y bs2 M2 F2 H2 t2 w2 run2 v2 r2 => ?_⟩
  cases x with
  | dct ks ds =>
    cases y with
    | int j =>
      rw [dgetK_int] at run2
      obtain ⟨z, ez, k⟩ := run2.of_lft
      have r := r1.tr t2
      cases r2 with
      | int =>
        cases r with
        | @dct a kvs _ _ hp hk rr =>
          obtain ⟨v, e1, rv⟩ := lookD_rep hk rr ez
          exact ⟨a, v, rfl, by rw [← e1]; exact DGet.k (k := (Sum.inl j : Key)) (w2.sub _ _ hp), k _ _ _ (Tr.refl _ _ _) w2 _ rv⟩
    | _ => exact run2.elim
  | _ => exact run2.elim)⟩
end
/-! ### a dict of one's own -/
def dSetOwnD (i : Nat) : DS := fun e => if i < e.length then ret (.nx (e.set i (.ownD [] []))) else stuck
section
variable {X : Cx} {W : Wi} {pos : Pos}
theorem zs_setOwnD {i : Nat} {x : Str} {pos' p2 : Pos} (hN : X.N.Nodup) (hi : X.N[i]? = some x) (hx : Loc X.env.scope x) (hs : swapsWith (.Dict [] [] p2) (some (.Name x pos')) pos.line X.env = pure false := by rfl) (hf : X.fn x = true ∨ X.env.scope.names.lookup x = some .local := by first | exact .inl rfl | exact .inr rfl | assumption) :
    ZS X W (.Assign [.Name x pos'] (.Dict [] [] p2) pos) (dSetOwnD i) := ⟨fun pins s σ H Dn I h => (ps_set hN hi hx pe_dnewK hs hf).run pins s σ H Dn I (by
  obtain ⟨bs0, F0, H0, bs, M, F, e, a, run⟩ := h
  unfold dSetOwnD at run
  by_cases hl : i < e.length
  · rw [if_pos hl] at run
    exact fun p hp => run _ _ _ _ (a.newownD hl hp)
  · rw [if_neg hl] at run
    exact run.elim)⟩
end
def putKD (i : Nat) (e : Ev) (ks : List Int) (ds : List D) (d : D) : D → Mo Oc
  | .int j => if ks.length < 1000 ∧ j ∉ ks then ret (.nx (e.set i (.ownD (ks ++ [j]) (ds ++ [d])))) else stuck
  | _ => stuck
theorem putKD_int {i : Nat} {e : Ev} {ks : List Int} {ds : List D} {d : D} {j : Int} : putKD i e ks ds d (.int j) = if ks.length < 1000 ∧ j ∉ ks then ret (.nx (e.set i (.ownD (ks ++ [j]) (ds ++ [d])))) else stuck := rfl
def dputS (i : Nat) (fk fv : DE) (e : Ev) : Option Sl → Mo Oc
  | some (.ownD ks ds) => bnd (fv e) fun d => bnd (fk e) fun k => putKD i e ks ds d k
  | _ => stuck
def dDput (i : Nat) (fk fv : DE) : DS := fun e => dputS i fk fv e e[i]?
section
variable {K : PySem.W.Frag} {W : Wi} {bs0 bs : List Addr} {M : MS} {F0 H0 F H : Hp} {σ : L2.St} {e : Ev}
theorem Slots.putD {a : Addr} {kvs' : List (Key × V)} {ks' : List Int} {ds' : List Z.D} (o : HO) (ho' : o = .dK kvs') (hk' : kvs'.map (·.1) = ks'.map Sum.inl) (rr : Reps K bs F (kvs'.map (·.2)) ds') : ∀ {σ : L2.St} {e : Ev} {os : List Addr} (i : Nat), Slots K bs F H σ e os → σ[i]? = some (some (.ref a)) → (∃ ks ds, e[i]? = some (.ownD ks ds)) → Slots K bs F (upd H a o) σ (e.set i (.ownD ks' ds')) os := by
  subst ho'
  intro σ e os i s h1 h2
  have keep : ∀ {σ : L2.St} {e : Ev} {os : List Addr}, a ∉ os → Slots K bs F H σ e os → Slots K bs F (upd H a (.dK kvs')) σ e os := by
    intro σ e os ha s
    induction s with
    | nil => exact .nil
    | no t ih => exact .no (ih ha)
    | v r t ih => exact .v r (ih ha)
    | own h hf hb ho r t ih => exact .own (by rw [upd_ne (fun z => ha (by rw [z]; exact List.mem_cons_self))]; exact h) hf hb ho r (ih fun z => ha (List.mem_cons_of_mem _ z))
    | ownD h hf hb ho hk r t ih => exact .ownD (by rw [upd_ne (fun z => ha (by rw [z]; exact List.mem_cons_self))]; exact h) hf hb ho hk r (ih fun z => ha (List.mem_cons_of_mem _ z))
  induction s generalizing i with
  | nil => simp at h1
  | no t ih =>
    cases i with
    | zero =>
      obtain ⟨ks, ds, h2⟩ := h2
      simp at h2
    | succ i => exact .no (ih i (by simpa using h1) (by simpa using h2))
  | v r t ih =>
    cases i with
    | zero =>
      obtain ⟨ks, ds, h2⟩ := h2
      simp at h2
    | succ i => exact .v r (ih i (by simpa using h1) (by simpa using h2))
  | @own b vs ds σ e os h hf hb ho r t ih =>
    cases i with
    | zero =>
      obtain ⟨ks, ds, h2⟩ := h2
      simp at h2
    | succ i =>
      have t' := ih i (by simpa using h1) (by simpa using h2)
      have ma : a ∈ os := by
        obtain ⟨ks', ds', h2⟩ := h2
        obtain ⟨a', vs', q1, _, _, _, q5, _⟩ := t.getOwnD (i := i) (by simpa using h2)
        have h1' : σ[i]? = some (some (V.ref a)) := by simpa using h1
        rw [h1'] at q1
        cases q1
        exact q5
      exact .own (by rw [upd_ne (fun z => ho (by rw [z]; exact ma))]; exact h) hf hb ho r t'
  | @ownD b kvs ks ds σ e os h hf hb ho hk r t ih =>
    cases i with
    | zero =>
      simp at h1
      subst h1
      exact .ownD upd_same hf hb ho hk' rr (keep ho t)
    | succ i =>
      have t' := ih i (by simpa using h1) (by simpa using h2)
      have ma : a ∈ os := by
        obtain ⟨ks', ds', h2⟩ := h2
        obtain ⟨a', vs', q1, _, _, _, q5, _⟩ := t.getOwnD (i := i) (by simpa using h2)
        have h1' : σ[i]? = some (some (V.ref a)) := by simpa using h1
        rw [h1'] at q1
        cases q1
        exact q5
      exact .ownD (by rw [upd_ne (fun z => ho (by rw [z]; exact ma))]; exact h) hf hb ho hk r t'
theorem AtS.putD {i : Nat} {a : Addr} {kvs' : List (Key × V)} {ks ks' : List Int} {ds ds' : List Z.D} (at0 : AtS K bs0 F0 H0 bs M F H σ e) (h1 : σ[i]? = some (some (.ref a))) (h2 : e[i]? = some (.ownD ks ds)) (hk' : kvs'.map (·.1) = ks'.map Sum.inl) (rr : Reps K bs F (kvs'.map (·.2)) ds') : AtS K bs0 F0 H0 bs M F (upd H a (.dK kvs')) σ (e.set i (.ownD ks' ds')) := by
  obtain ⟨t, w, os, s, n⟩ := at0
  obtain ⟨a', vs', q1, q2, q3, q4, q5, _⟩ := s.getOwnD h2
  rw [h1] at q1
  cases q1
  obtain ⟨t', w'⟩ := wr_ok (o := .dK kvs') (vs := []) (n a q5) t w q3 q4 (.inr ⟨_, q2⟩)
  exact ⟨t', w', os, s.putD _ rfl hk' rr i h1 ⟨ks, ds, h2⟩, n⟩
end
section
variable {X : Cx} {W : Wi} {k ex : Expr} {fk fe : DE} {pos pos' p : Pos} {x : Str}
theorem zs_dput {i : Nat} (hu : X.A.units + 1 < cLine) (hx : PE X (.Name x p) (tVar i)) (hk : ZE X W k fk) (he : ZE X W ex fe) (hs : swapsWith ex (some (.Subscript (.Name x p) k pos')) pos.line X.env = pure false := by rfl) :
    ZS X W (.Assign [.Subscript (.Name x p) k pos'] ex pos) (dDput i fk fe) := ⟨fun pins s σ H Dn I h => (ps_dput hu hx hk he hs).run pins s σ H Dn I (by
  obtain ⟨bs0, F0, H0, bs, M, F, e, a, run⟩ := h
  unfold dDput at run
  cases e1 : e[i]? with
  | none =>
    rw [e1] at run
    exact run.elim
  | some sl0 =>
    rw [e1] at run
    cases sl0 with
    | ownD ks ds =>
      obtain ⟨_, _, os, sl, _⟩ := id a
      obtain ⟨q, kvs, q1, q2, q3, q4, q5, q6, q7⟩ := sl.getOwnD e1
      refine ⟨bs, M, F, e, a.at, (run.bind a).imp fun d bs1 M1 F1 H1 t1 w1 q v r => ?_⟩
      obtain ⟨a1, run1⟩ := q
      refine ⟨.ref _, q1, bs1, M1, F1, e, a1.at, (run1.bind a1).imp fun y bs2 M2 F2 H2 t2 w2 q v2 r2 => ?_⟩
      obtain ⟨a2, run2⟩ := q
      cases y with
      | int j =>
        rw [putKD_int] at run2
        by_cases hl : ks.length < 1000 ∧ j ∉ ks
        · rw [if_pos hl] at run2
          cases r2 with
          | int =>
            have t12 := t1.trans t2
            have k2 := t12.keep _ _ q2 q4
            have no := valV_no q6 hl.2
            have len : kvs.length = ks.length := by
              have := congrArg List.length q6
              rw [List.length_map, List.length_map] at this
              exact this
            refine ⟨_, _, rfl, DPut.k (k := (Sum.inl j : Key)) k2 (by rw [len, sizeLine_eq]; omega), ?_⟩
            rw [putK_new v no]
            refine run2 _ _ _ _ (a2.putD q1 e1 ?_ ?_)
            · rw [List.map_append, q6, List.map_append]
              rfl
            · rw [List.map_append]
              exact (q7.tr t12).append (.cons (r.tr t2) .nil)
        · rw [if_neg hl] at run2
          exact run2.elim
      | _ => exact run2.elim
    | _ => exact run.elim)⟩
end
/-! ### dict comprehensions -/
def dDcLoop (t : Tg) (fk fv : DE) (e0 : Ev) : List D → List Int → List D → Mo D
  | [], ks, ds => ret (.dct ks ds)
  | x :: xs, ks, ds => bnd (lft (asg t x e0)) fun e1 => bnd (noErr (fk e1)) fun k => bnd (noErr (fv e1)) fun v => match k with
    | .int j => if ks.length < 1000 ∧ j ∉ ks then dDcLoop t fk fv e0 xs (ks ++ [j]) (ds ++ [v]) else stuck
    | _ => stuck
def dDc (fi : DA) (t : Tg) (fk fv : DE) (vs : List Nat) : DE := fun e => bnd (fi e) fun items => dDcLoop t fk fv (wipeE e vs) items [] []
section
variable {X : Cx} {W : Wi} {K : PySem.W.Frag}
theorem freeze_okD {bs1 bs : List Addr} {M : MS} {F1 H1 F H : Hp} {D : Addr} {kvs : List (Key × V)} {ks : List Int} {acc : List Z.D} (hD : H1 D = none) (t : Tr bs1 F1 H1 bs F H) (w : Wd K bs M F H) (hd : H D = some (.dK kvs)) (fd : F D = none) (nb : D ∉ bs) (hk : kvs.map (·.1) = ks.map Sum.inl) (rp : Reps K bs F (kvs.map (·.2)) acc) :
    Tr bs1 F1 H1 bs (upd F D (.dK kvs)) H ∧ Wd K bs M (upd F D (.dK kvs)) H ∧ Rep K bs (upd F D (.dK kvs)) (.ref D) (.dct ks acc) := by
  have sF : Same F (upd F D (.dK kvs)) := fun b u e => by rw [upd_ne (ne_of_none e fd)]; exact e
  refine ⟨⟨t.pre, t.fm.trans sF, fun a o h => ?_, t.keep0, t.dom⟩, ⟨fun b u e => ?_, w.nd, w.len, fun i b ds e1 e2 => ?_, w.tab, tabF_upd w.tabF w.tab fun _ e => by rw [hd] at e; cases e⟩, .dct upd_same hk ?_⟩
  · by_cases z : a = D
    · exact .inr (by rw [z]; exact hD)
    · rw [upd_ne z] at h
      exact t.new a o h
  · by_cases z : b = D
    · subst z
      rw [upd_same] at e
      rw [hd]
      exact e
    · rw [upd_ne z] at e
      exact w.sub b u e
  · obtain ⟨n1, us, e3, r⟩ := w.objs i b ds e1 e2
    have z : b ≠ D := fun z => nb (by rw [← z]; exact List.mem_of_getElem? e1)
    refine ⟨by rw [upd_ne z]; exact n1, us, e3, ?_⟩
    have := r.mono (more := []) sF
    rwa [List.append_nil] at this
  · have := rp.mono (more := []) sF
    rwa [List.append_nil] at this
def DcI (K : PySem.W.Frag) (W : Wi) (bs1 : List Addr) (F1 H1 : Hp) (σ : L2.St) (D : Addr) (r : List Int → List Z.D → Mo Z.D) (Q : VK) (H : Hp) : Prop :=
  ∃ bs M F kvs ks acc, Tr bs1 F1 H1 bs F H ∧ Wd K bs M F H ∧ H D = some (.dK kvs) ∧ F D = none ∧ D ∉ bs ∧ kvs.map (·.1) = ks.map Sum.inl ∧ Reps K bs F (kvs.map (·.2)) acc ∧ Run K W bs1 F1 H1 σ (r ks acc M) (qE K Q)
theorem dc_lift {wi : DA} {t : Tg} {fk fe : DE} {vs : List Nat} {σ : L2.St} {H : Hp} {Q : VK} (hw : t.within vs) (h : liftE K W (dDc wi t fk fe vs) σ H Q) : tDc (liftI K W wi) (gOf K t) (liftT K W0 dYes) (liftE K W0 fk) (liftE K W0 fe) vs σ H Q := by
  obtain ⟨bs, M, F, e, at0, run⟩ := h
  refine ⟨bs, M, F, e, at0, run.bind.imp fun items bs1 M1 F1 H1 t1 w1 run1 J it D hD => ?_⟩
  have at1 := at0.tr t1 w1
  obtain ⟨w1', os1, sl1⟩ := at1
  obtain ⟨os0, sl0, _⟩ := sl1.wipe vs
  refine ⟨fun i m H => m = items.length - i ∧ i ≤ items.length ∧ DcI K W bs1 F1 H1 σ D (dDcLoop t fk fe (wipeE e vs) (items.drop i)) Q H, ⟨_, rfl, Nat.zero_le _, ?_⟩, ?_⟩
  · obtain ⟨w2, t2⟩ := w1.lost (.dK []) hD
    exact ⟨bs1, M1, F1, [], [], [], t2, w2, upd_same, w1.fnone hD, w1.notin hD, rfl, .nil, run1⟩
  · rintro i m H2 ⟨rfl, hi2, bs2, M2, F2, kvs, ks, acc, t2, w2, hd, fd, nb, hk, rp, r2⟩
    obtain ⟨more, eb, _⟩ := t2.pre
    by_cases hlt : i < items.length
    · have ed : items.drop i = items[i] :: items.drop (i + 1) := List.drop_eq_getElem_cons hlt
      rw [ed] at r2
      refine .inr ⟨it.go F2 H2 t2.fm w2.sub i hlt, DcI K W bs1 F1 H1 σ D (dDcLoop t fk fe (wipeE e vs) (items.drop (i + 1))) Q, fun H' n => ⟨_, by omega, rfl, hlt, n⟩, fun x H3 y => ?_⟩
      obtain ⟨F3, t3, w3, r3⟩ := it.yld more F2 H2 M2 t2.fm (eb ▸ w2) i x H3 items[i] (List.getElem?_eq_getElem hlt) y
      rw [← eb] at t3 w3 r3
      have t03 := t2.trans t3
      have s3 := sl0.tr t03
      unfold dDcLoop at r2
      cases e1 : asg t items[i] (wipeE e vs) with
      | none =>
        rw [e1] at r2
        exact r2.elim
      | some e4 =>
        rw [e1] at r2
        have as3 : AtS K bs2 F3 (fun _ => none) bs2 M2 F3 H3 (L2.wipe σ vs) (wipeE e vs) := ⟨⟨⟨[], by simp, by simp⟩, Same.refl _, fun _ _ h => .inl h, fun _ _ h _ _ => (by cases h), fun _ h => absurd rfl h⟩, w3, _, s3, fun _ _ => rfl⟩
        refine asg_step as3 r3 e1 fun σ4 a4 hw4 => ⟨by rw [hw4 vs hw]; exact wipe_wipe σ vs, ?_⟩
        refine ⟨bs2, M2, F3, e4, a4.at, fun bs6 F6 H6 t6 w6 => ?_⟩
        have t06 := t03.trans t6
        have hd6 := t6.keep _ _ (t3.keep _ _ hd nb) nb
        have fd6 := t6.free (t3.keep _ _ hd nb) (t3.free hd fd)
        have nb6 := t6.notin (t3.keep _ _ hd nb) nb
        simp only [qT, if_true]
        have r7 : Run K W bs1 F1 H1 σ (bnd (noErr (fk e4)) (fun k => bnd (noErr (fe e4)) fun v => match k with
          | .int j => if ks.length < 1000 ∧ j ∉ ks then dDcLoop t fk fe (wipeE e vs) (items.drop (i + 1)) (ks ++ [j]) (acc ++ [v]) else stuck
          | _ => stuck) M2) (qE K Q) := r2
        have r7 := r7.bindB t06
        refine ⟨bs6, M2, F6, e4, a4.at.tr t6 w6, r7.noErr.imp fun y bs8 M8 F8 H8 t8 w8 r8 v8 rv8 => ?_⟩
        have t08 := t06.trans t8
        have hd8 := t8.keep _ _ hd6 nb6
        have fd8 := t8.free hd6 fd6
        have nb8 := t8.notin hd6 nb6
        have r9 := r8.bindB t08
        refine ⟨bs8, M8, F8, e4, (a4.at.tr t6 w6).tr t8 w8, r9.noErr.imp fun z bs10 M10 F10 H10 t10 w10 r10 v10 rv10 => ?_⟩
        have t010 := t08.trans t10
        have hd10 := t10.keep _ _ hd8 nb8
        have fd10 := t10.free hd8 fd8
        have nb10 := t10.notin hd8 nb8
        cases y with
        | int j =>
          simp only at r10
          by_cases hl : ks.length < 1000 ∧ j ∉ ks
          · rw [if_pos hl] at r10
            cases rv8 with
            | int =>
              have no := valV_no hk hl.2
              have len : kvs.length = ks.length := by
                have := congrArg List.length hk
                rw [List.length_map, List.length_map] at this
                exact this
              refine ⟨kvs, (Sum.inl j : Key), rfl, hd10, by rw [len, sizeLine_eq]; omega, ?_⟩
              rw [putK_new v10 no]
              obtain ⟨t9, w9⟩ := wr_ok (o := .dK (kvs ++ [((Sum.inl j : Key), v10)])) (vs := []) hD t010 w10 fd10 nb10 (.inr ⟨_, hd10⟩)
              refine ⟨bs10, M10, F10, _, ks ++ [j], acc ++ [z], t9, w9, upd_same, fd10, nb10, ?_, ?_, r10⟩
              · rw [List.map_append, hk, List.map_append]
                rfl
              · rw [List.map_append]
                exact ((((rp.tr t3).tr t6).tr t8).tr t10).append (.cons rv10 .nil)
          · rw [if_neg hl] at r10
            exact r10.elim
        | _ => exact r10.elim
    · have e0 : i = items.length := by omega
      refine .inl ⟨by rw [e0]; exact it.stop F2 H2 t2.fm w2.sub, ?_⟩
      rw [e0, List.drop_length] at r2
      obtain ⟨t9, w9, rr⟩ := freeze_okD hD t2 w2 hd fd nb hk rp
      exact r2 _ _ _ t9 w9 _ rr
theorem ze_dc {kx vx tg iter : Expr} {scope : Scope} {own : List (Str × Nat)} {pos : Pos} {fi : DA} {t : Tg} {fk fe : DE} (hw : t.within (own.map (·.2))) (hc : X.calm = true) (hN : X.N.Nodup) (hi : ZI X W tg iter fi) (ok : BlkOk X.N X.env.scope scope own)
    (hg : ∀ (s : Shared) (H : Hp) (C : Addr) (cl : List (Str × Addr)) (fp : List Addr), ZG (X.blk s H scope (compEnvC scope cl C X.env) fp) tg t)
    (hk : ∀ (s : Shared) (H : Hp) (C : Addr) (cl : List (Str × Addr)) (fp : List Addr), ZE (X.blk s H scope (compEnvC scope cl C X.env) fp) W0 kx fk)
    (he : ∀ (s : Shared) (H : Hp) (C : Addr) (cl : List (Str × Addr)) (fp : List Addr), ZE (X.blk s H scope (compEnvC scope cl C X.env) fp) W0 vx fe) (hs : ∀ x, foldedSetIterable iter X.env x = pure x := by intro _; rfl) :
    ZE X W (.DictComp kx vx [⟨tg, iter, [], 0⟩] scope pos) (dDc fi t fk fe (own.map (·.2))) :=
  ⟨fun pins s σ H Q I h => (pe_dc hc hN hi ok hg (fun _ _ _ _ _ => zts_nil) hk he hs).run pins s σ H Q I (dc_lift hw h)⟩
end
end Z

/-! ZG: t[::-1] of a tuple -/
namespace Z
open PySem PySem.Spec PyProof.Rows L2 HT
variable [Tbs]
section
variable {prog : Program} {w : World} {A : Around} {E : Value → Shared → Prop} {s : Shared}
theorem adjust_rev (n : Nat) : Builtin.Slice.sliceAdjust none none (-1) (n : Int) = ((n : Int) - 1, -1) := by
  unfold Builtin.Slice.sliceAdjust
  simp
theorem places_rev (n : Nat) : Builtin.Slice.slicePlaces ((n : Int) - 1) (-1) (-1) = n := by
  unfold Builtin.Slice.slicePlaces
  have h1 : ¬ ((-1 : Int) > 0) := by omega
  simp only [h1, if_false]
  have h2 : (-(-1) : Int) = 1 := rfl
  rw [h2, Int.ediv_one]
  split <;> omega
theorem sliceApplied_rev {sl : Addr} {vl vu vs : Value} {n : Nat} {Q : Int × Int × Nat → Shared → Prop} (hs : s.heap.IsSliceOf sl vl vu vs) (pl : IsPart vl none) (pu : IsPart vu none) (ps : IsPart vs (some (-1)))
    (h : Q ((n : Int) - 1, -1, n) s) : wpAny (model prog w) A (Builtin.Slice.sliceApplied (.ref sl) (pure (n : Int))) Q E s := by
  obtain ⟨os, hos, hcs, hds⟩ := id hs
  unfold Builtin.Slice.sliceApplied Builtin.Slice.sliceFields
  refine wpAny_bind (wpAny_bind (wpAny_field hos hds (x := vl) rfl (wpAny_bind (wpAny_field hos hds (x := vu) rfl (wpAny_bind (wpAny_field hos hds (x := vs) rfl (wpAny_pure ?_)))))))
  refine wpAny_bind (slicePart_ ps ?_)
  show wpAny _ _ (if ((-1 : Int) == 0) = true then _ else _) _ _ s
  rw [if_neg (by decide)]
  refine wpAny_bind (slicePart_ pl (wpAny_bind (slicePart_ pu (wpAny_bind (wpAny_pure ?_)))))
  show wpAny _ _ (match Builtin.Slice.sliceAdjust none none (-1) (n : Int) with | (lo, hi) => pure (lo, (-1 : Int), Builtin.Slice.slicePlaces lo hi (-1))) _ _ s
  rw [adjust_rev n]
  show wpAny _ _ (pure ((n : Int) - 1, (-1 : Int), Builtin.Slice.slicePlaces ((n : Int) - 1) (-1) (-1))) _ _ s
  rw [places_rev]
  exact wpAny_pure h
theorem range_back (n : Nat) : (List.range n).map (fun k => n - 1 - k) = (List.range n).reverse := by
  apply List.ext_getElem
  · simp
  · intro i h1 h2
    simp
theorem pick_rev (xs : Array Value) : ((List.range xs.size).filterMap fun (k : Nat) => xs[((xs.size : Int) - 1 + (k : Int) * (-1)).toNat]?).toArray = xs.toList.reverse.toArray := by
  have e : ((List.range xs.size).filterMap fun (k : Nat) => xs[((xs.size : Int) - 1 + (k : Int) * (-1)).toNat]?) = ((List.range xs.size).map fun k => xs.size - 1 - k).filterMap (xs[·]?) := by
    rw [List.filterMap_map]
    congr 1
    funext k
    have : ((xs.size : Int) - 1 + (k : Int) * (-1)).toNat = xs.size - 1 - k := by omega
    rw [this]
    rfl
  rw [e, range_back, List.filterMap_reverse, PySem.W.krv_all]
theorem getItem_tuple_rev {t sl : Addr} {items : Array Value} {vl vu vs : Value} {Q : Value → Shared → Prop} (ht : IsTup s.heap t items) (hs : s.heap.IsSliceOf sl vl vu vs) (pl : IsPart vl none) (pu : IsPart vu none) (ps : IsPart vs (some (-1)))
    (h : Q (.ref s.heap.objs.size) { s with heap := s.heap.push { cls := .type "tuple", data := .seq items.toList.reverse.toArray } })
    (hsz : items.size ≤ sizeLine) : wpAny (model prog w) A (getItem (.ref t) (.ref sl)) Q E s := by
  have htake : sizeOk (.seq items.toList.reverse.toArray) := by
    show items.toList.reverse.toArray.size ≤ sizeLine
    rw [List.size_toArray, List.length_reverse, Array.length_toList]
    exact hsz
  obtain ⟨os, hos, hcs, hds⟩ := id hs
  have hTs : s.TypeIs (.ref sl) "slice" := ⟨os, hos, hcs⟩
  unfold getItem
  try with_reducible refine wpAny_holding ?_
  first | refine wpAny_bind (wpAny_pure ?_) | skip
  refine wpAny_bind (wpAny_sequenceKey ht.typeIs (by decide) ?_)
  refine wpAny_bind (wpAny_callSpecial?_slot (name := Str.ofString "__getitem__") ht.typeIs PyProof.Rows.slot_tuple_getitem
    (wpAny_call_entry PyProof.Rows.slot_tuple_getitem ht.typeIs entry_tuple_getitem ?_ (args_tuple_getitem _ _)))
  show wpAny _ _ (Builtin.Tuple.tupleItemsOf (.ref t) >>= _) _ _ s
  refine wpAny_bind (tupleItemsOf_ ht ?_)
  refine wpAny_bind (wpAny_typeOf hTs ?_)
  rw [if_pos (by decide)]
  refine wpAny_bind (sliceApplied_rev hs pl pu ps ?_)
  have hno : ¬ (((items.size : Int) - 1 == 0 && (-1 : Int) == 1 && items.size == items.size) = true) := by
    intro q
    rw [Bool.and_eq_true, Bool.and_eq_true] at q
    have q1 : (-1 : Int) = 1 := eq_of_beq q.1.2
    omega
  show wpAny _ _ (if ((items.size : Int) - 1 == 0 && (-1 : Int) == 1 && items.size == items.size) = true then _ else _) _ _ s
  rw [if_neg hno, pick_rev]
  first
    | exact wpAny_bind (m := Builtin.Tuple.tupleExact _) (wpAny_newObj_type (wpAny_pure ⟨_, rfl, wpAny_pure h⟩) htake)
    | exact wpAny_bind (m := Builtin.Tuple.tupleExact _) (wpAny_newObj_type (wpAny_bind (wpAny_pure (wpAny_pure ⟨_, rfl, wpAny_pure h⟩))) htake)
    | exact wpAny_bind (wpAny_bind (m := Builtin.Tuple.tupleExact _) (wpAny_newObj_type (wpAny_pure (wpAny_pure ⟨_, rfl, wpAny_pure h⟩)) htake))
    | exact wpAny_bind (wpAny_bind (m := Builtin.Tuple.tupleExact _) (wpAny_newObj_type (wpAny_pure ⟨_, rfl, wpAny_pure h⟩) htake))
end
section
variable {X : Cx} {W : Wi} {e : Expr} {f : DE}
def tRevT (K : PySem.W.Frag) (te : TE) : TE := fun σ H Q => te σ H fun x H1 => ∃ a xs, x = .ref a ∧ SqT K H1 a xs ∧ ∀ p, H1 p = none → Q (.ref p) (upd H1 p (.tup xs.reverse))
theorem pe_revT {te : TE} {k : Nat} {p1 p2 p3 pos : Pos} (he : PE X e te) : PE X (.Subscript e (.Slice none none (some (.UnaryOp .USub (.Constant (.int 1) k p1) p2)) p3) pos) (tRevT X.K te) := by
  refine ⟨fun pins s σ H Q I h => ?_⟩
  refine Subscript_ (thn (he.run pins s σ H _ I h) fun v s1 ⟨x, H1, I1, r1, q1⟩ => ?_)
  obtain ⟨a, xs, ex, hx, q⟩ := q1
  subst ex
  cases r1
  have hst : PO X (some (.UnaryOp .USub (.Constant (.int 1) k p1) p2)) (tPart (tUn (rU fun i => .int (-i)) (tC (.int 1)))) := po_some (pe_un un_neg pe_int)
  refine wpAny_Slice (thn (po_none.run pins s1 σ H1 (fun o H2 => o = none ∧ H2 = H1) I1 ⟨rfl, rfl⟩) fun vl s2 ⟨l, H2, I2, pl, el, e2⟩ => ?_)
  subst el e2
  refine thn (po_none.run pins s2 σ H2 (fun o H3 => o = none ∧ H3 = H2) I2 ⟨rfl, rfl⟩) fun vu s3 ⟨u, H3, I3, pu, eu, e3⟩ => ?_
  subst eu e3
  refine thn (hst.run pins s3 σ H3 (fun o H4 => o = some (-1) ∧ H4 = H3) I3 ⟨1, rfl, -1, rfl, rfl, rfl⟩) fun vs s4 ⟨o, H4, I4, ps, eo, e4⟩ => ?_
  subst eo e4
  have I5 : Inv X pins σ H4 { s4 with heap := s4.heap.push { cls := .type "slice", data := .fields #[vl, vu, vs] } } := I4.kept (t' := s4.toks) fun b ob q => Heap.get?_push_of_some _ q
  obtain ⟨its, r, ht, hz⟩ := I5.tuple hx
  have hlen := r.length
  show wpAny (model X.prog X.w) X.A (subscriptTail e (.Slice none none (some (.UnaryOp .USub (.Constant (.int 1) k p1) p2)) p3) (.ref a) (.ref s4.heap.objs.size)) (EP X pins σ Q) X.xe { s4 with heap := s4.heap.push { cls := .type "slice", data := .fields #[vl, vu, vs] } }
  refine tail_any (ops := [.ref a, .ref s4.heap.objs.size]) ht.typeIs PyProof.Rows.slot_tuple_getitem.lookup ?_ (by with_unfolding_all rfl)
  refine getItem_tuple_rev ht (Heap.IsSliceOf.new _ vl vu vs) pl pu ps ?_ (by rw [List.size_toArray]; omega)
  refine ⟨.ref _, _, I5.laid (t' := s4.toks) (o := .tup xs.reverse) (fun b ob q => Heap.get?_push_of_some _ q) (Nat.le_refl _) (show ObjOk X.prog X.w _ _ _ (.tup xs.reverse) from ⟨by rw [List.length_reverse]; exact hz, its.reverse, r.reverse, ?_⟩), rfl, q _ (I5.hok.fresh (Nat.le_refl _))⟩
  exact IsTup.new _ _
def dRevT (f : DE) : DE := fun e => bnd (f e) fun x => match x with
  | .tup xs => ret (.tup xs.reverse)
  | _ => stuck
def revTK : D → Mo D
  | .tup xs => ret (.tup xs.reverse)
  | _ => stuck
@[simp] theorem revTK_tup {xs : List D} : revTK (.tup xs) = ret (.tup xs.reverse) := rfl
@[simp] theorem dRevT_eq {e : Ev} : dRevT f e = bnd (f e) revTK := by
  exact congrArg (bnd (f e)) (funext fun x => by cases x <;> rfl)
theorem ze_revT {k : Nat} {p1 p2 p3 pos : Pos} (hf : ZE X W e f) : ZE X W (.Subscript e (.Slice none none (some (.UnaryOp .USub (.Constant (.int 1) k p1) p2)) p3) pos) (dRevT f) :=
  ⟨fun pins s σ H Q I h => (pe_revT hf).run pins s σ H Q I (by
    obtain ⟨bs, M, F, e, at0, run⟩ := h
    refine ⟨bs, M, F, e, at0, run.bind.imp fun x bs1 M1 F1 H1 t1 w1 run1 v1 r1 => ?_⟩
    cases x with
    | tup xs =>
      cases r1 with
      | @tup a vs _ h s =>
        refine ⟨a, vs, rfl, .inl (.inl (w1.sub _ _ h)), fun p hp => ?_⟩
        obtain ⟨w2, t2⟩ := w1.laid (.tup vs.reverse) hp
        exact run1.ok _ _ _ t2 w2 _ (.tup upd_same (s.reverse.tr t2))
    | _ => exact run1.elim)⟩
end
/-! ### name = {.. for ..} on one line -/
section
variable {X : Cx} {W : Wi}
theorem ps_setDc {i : Nat} {y : Str} {py : Pos} {kx vx tg iter : Expr} {ifs : List Expr} {scope : Scope} {own : List (Str × Nat)} {pos spos : Pos} {wi : TI} {g : TG} {tt : TT} {tk tv : TE} (hc : X.calm = true) (hN : X.N.Nodup) (hy : X.N[i]? = some y) (hyl : X.env.scope.names.lookup y = some .local)
    (hsw : swapsWith (.DictComp kx vx [⟨tg, iter, ifs, 0⟩] scope pos) (some (.Name y py)) spos.line X.env = pure true) (hi : PI X tg iter wi) (ok : BlkOk X.N X.env.scope scope own)
    (hg : ∀ (s : Shared) (H : Hp) (C : Addr) (cl : List (Str × Addr)) (fp : List Addr), PG (X.blk s H scope (compEnvC scope cl C X.env) fp) tg g) (ht : ∀ (s : Shared) (H : Hp) (C : Addr) (cl : List (Str × Addr)) (fp : List Addr), PTs (X.blk s H scope (compEnvC scope cl C X.env) fp) ifs tt)
    (hk : ∀ (s : Shared) (H : Hp) (C : Addr) (cl : List (Str × Addr)) (fp : List Addr), PE (X.blk s H scope (compEnvC scope cl C X.env) fp) kx tk)
    (he : ∀ (s : Shared) (H : Hp) (C : Addr) (cl : List (Str × Addr)) (fp : List Addr), PE (X.blk s H scope (compEnvC scope cl C X.env) fp) vx tv) (hs : ∀ x, foldedSetIterable iter X.env x = pure x := by intro _; rfl) :
    PS X (.Assign [.Name y py] (.DictComp kx vx [⟨tg, iter, ifs, 0⟩] scope pos) spos) (tAsg (tDc wi g tt tk tv (own.map (·.2))) (gName i)) := by
  refine ⟨fun pins s σ H D I h => ?_⟩
  rw [exec_Assign_Name_used _ _ _ _ hsw]
  refine wpAny_bind (wpAny_standAt (wpAny_bind ?_))
  show wpAny _ X.A (do let _ ← comprehension (.DictComp kx vx [⟨tg, iter, ifs, 0⟩] scope pos) scope X.env (firstIterPos [⟨tg, iter, ifs, 0⟩] pos) newDict false (eval iter X.env) (some (assign (.Name y py) X.env))) _ _ s
  have h : tDc wi g tt tk tv (own.map (·.2)) σ H (fun x H1 => gName i x σ H1 D.nx) := h
  refine wpAny_bind (thn (dc_core (Qf := fun _ s' => SP X pins D .next s') hc hN I hi ok hg ht hk he hs h fun L C s' m H' I' q hn f => ?_) fun _ s' hq => wpAny_pure (wpAny_pure hq))
  show wpAny _ _ (assign (.Name y py) X.env (.ref L)) _ _ _
  refine wpAny_assign_Name (store_ok2 (v := V.ref L) I' hN hy (.inl hyl) rfl (fun s2 I2 ⟨a, sb, ha⟩ => ?_) (.inr hyl))
  obtain ⟨f0, f1, f2, f3, f4, f5⟩ := f
  have haC : C ≠ a := by
    rcases ha with z | z
    · rw [z]; exact f1
    · exact fun e => f4 y a z e.symm
  refine ⟨m, hn.sameBut sb haC, fun h3 sb3 => ?_⟩
  exact ⟨_, H', I2.turned (t' := s2.toks) (fun b o hb e => (sb3.2 b hb).trans e) f0 f1 f3 f4 f5, q⟩
theorem swD_true {kx vx : Expr} {gs : List Comprehension} {scope : Scope} {pos py : Pos} {y : Str} {l : Nat} {env : Env} (hk : env.scope.kind = .function) (hy : env.scope.names.lookup y = some .local) (hl : (py.line == pos.line) = true)
    (ha : (scope.names.any fun (n, k) => n == y && (k == .local || k == .cell)) = false) : swapsWith (.DictComp kx vx gs scope pos) (some (.Name y py)) l env = pure true := by
  have ky : env.kindOf y = some .local := hy
  have hb : env.blockKind = .function := by unfold Env.blockKind; rw [hk]; rfl
  unfold swapsWith
  simp only [hb, ky, ha, Expr.pos, hl]
  rfl
theorem zs_setDc {i : Nat} {y : Str} {py : Pos} {kx vx tg iter : Expr} {scope : Scope} {own : List (Str × Nat)} {pos spos : Pos} {fi : DA} {t : Tg} {fk fe : DE} (hw : t.within (own.map (·.2))) (hc : X.calm = true) (hN : X.N.Nodup) (hy : X.N[i]? = some y) (hyl : X.env.scope.names.lookup y = some .local)
    (hsw : swapsWith (.DictComp kx vx [⟨tg, iter, [], 0⟩] scope pos) (some (.Name y py)) spos.line X.env = pure true) (hi : ZI X W tg iter fi) (ok : BlkOk X.N X.env.scope scope own)
    (hg : ∀ (s : Shared) (H : Hp) (C : Addr) (cl : List (Str × Addr)) (fp : List Addr), ZG (X.blk s H scope (compEnvC scope cl C X.env) fp) tg t)
    (hk : ∀ (s : Shared) (H : Hp) (C : Addr) (cl : List (Str × Addr)) (fp : List Addr), ZE (X.blk s H scope (compEnvC scope cl C X.env) fp) W0 kx fk)
    (he : ∀ (s : Shared) (H : Hp) (C : Addr) (cl : List (Str × Addr)) (fp : List Addr), ZE (X.blk s H scope (compEnvC scope cl C X.env) fp) W0 vx fe) (hs : ∀ x, foldedSetIterable iter X.env x = pure x := by intro _; rfl) :
    ZS X W (.Assign [.Name y py] (.DictComp kx vx [⟨tg, iter, [], 0⟩] scope pos) spos) (dSet i (dDc fi t fk fe (own.map (·.2)))) :=
  ⟨fun pins s σ H Dn I h => (ps_setDc hc hN hy hyl hsw hi ok hg (fun _ _ _ _ _ => zts_nil) hk he hs).run pins s σ H Dn I (by
    obtain ⟨bs0, F0, H0, bs, M, F, e, a, run⟩ := h
    exact dc_lift hw ⟨bs, M, F, e, a.at, (run.bind a).imp fun d bs1 M1 F1 H1 t1 w1 q v r => q.2 _ _ _ _ (q.1.setv r)⟩)⟩
end
end Z

/-! ZH1: while an exception is handled: zip of two lists to its end, a comprehension over it -/
namespace ZH
open PySem PySem.Spec PyProof.Rows L2 HotX L2H
section
variable {prog : Program} {w : World} {A : Around} {E : Value → Shared → Prop} {s : Shared}
/-- a list's iterator at its end -/
theorem li_end_hot {it l x1 : Addr} {i : Nat} {its : Array Value} {Q : Value → Shared → Prop} (hot : HotAt A x1 s.heap) (hn : x1 ≠ it) (a : s.heap.IsListIter it l i) (b : s.heap.IsList l its) (c : its[i]? = none)
    (k : ∀ h' e, Heap.ExtBut it s.heap h' → (∃ o, h'.get? e = some o ∧ o.cls = .type "StopIteration") → E (.ref e) { s with heap := h' }) : wpAny (model prog w) A (Builtin.SmallTypes.nextOf (.ref it)) Q E s := by
  obtain ⟨oi, e1, e2, e3⟩ := id a
  obtain ⟨ol, f1, _, fn, f2⟩ := b
  obtain ⟨hh, o1, v1, g1, g2, g3⟩ := hot
  unfold Builtin.SmallTypes.nextOf
  refine wpAny_bind (wpAny_callSpecial?_slot (name := Str.ofString "__next__") a.typeIs slot_listiter_next (wpAny_call_entry slot_listiter_next a.typeIs entry_listiter_next ?_ (args_listiter_next _)))
  show wpAny _ _ (field (.ref it) 0 >>= _) _ _ s
  refine wpAny_bind (wpAny_field e1 e3 (x := .ref l) rfl ?_)
  show wpAny _ _ (if (Value.ref l == Value.none) = true then _ else _) _ _ s
  rw [if_neg (show ¬ ((Value.ref l == Value.none) = true) from Bool.false_ne_true)]
  show wpAny _ _ (field (.ref it) 1 >>= _) _ _ s
  refine wpAny_bind (wpAny_field e1 e3 (x := .int i 0) rfl ?_)
  show wpAny _ _ (seqItems? (.ref l) >>= _) _ _ s
  refine wpAny_bind (wpAny_seqItems f1 f2 ?_)
  simp only [Int.toNat_natCast, c]
  refine wpAny_bind (wpAny_rule (wpAny_bind (wpAny_setField e1 e3 (by simp) ?_)))
  show wpAny _ _ (newExc (.type "StopIteration") [] >>= _) _ _ _
  refine wpAny_bind ?_
  simp only [newExc, newTuple]
  refine wpAny_bind (wpAny_newObj_type ?_ (by size_fits))
  refine wpAny_bind (m := firstArgMember _ _) (wpAny_of_eq (a := Value.none) (by first | rfl | (simp only [firstArgMember]; rfl)) ?_)
  refine wpAny_newObj_type ?_ (by size_fits)
  have g1' := (Heap.get?_update_other s.heap (Obj.mapFields (·.setIfInBounds 0 Value.none)) (Ne.symm hn)).trans g1
  refine raiseNew_hot ⟨hh, o1, v1, Heap.get?_push_of_some _ (Heap.get?_push_of_some _ g1'), g2, g3⟩ (Nat.ne_of_lt (Heap.lt_size (Heap.get?_push_of_some _ g1'))) (Heap.get?_push_size _ rfl) rfl (by first | (simp; done) | (simp; omega) | (simp only [Array.size_append]; simp; omega)) ?_
  refine k _ _ (fun q o hq e => ?_) ⟨_, Heap.get?_update_self _ (Heap.get?_push_size _ rfl) rfl, rfl⟩
  have e' := (Heap.get?_update_other s.heap (Obj.mapFields (·.setIfInBounds 0 Value.none)) (Ne.symm hq)).trans e
  rw [Heap.get?_update_other _ _ (Nat.ne_of_gt (Heap.lt_size (Heap.get?_push_of_some _ e')))]
  exact Heap.get?_push_of_some _ (Heap.get?_push_of_some _ e')
/-- zip at its end: the first list is at its end -/
theorem zip_end_hot {z TI TO i1 i2 l1 l2 x1 : Addr} {k1 : Nat} {xs : Array Value} {Q : Option Value → Shared → Prop} (hot : HotAt A x1 s.heap) (n1 : x1 ≠ z) (n2 : x1 ≠ i1) (D : ZipApart z TI TO i1 i2 l1 l2)
    (hz : IsZip s.heap z TI TO .none) (p : IsPair s.heap TI (.ref i1) (.ref i2)) (c1 : s.heap.IsListIter i1 l1 k1) (d1 : s.heap.IsList l1 xs) (en : xs[k1]? = none)
    (k : ∀ h', (∀ c o, c ≠ z → c ≠ i1 → s.heap.get? c = some o → h'.get? c = some o) → Q none { s with heap := h' }) : wpAny (model prog w) A (pyNext (.ref z)) Q E s := by
  have ty : s.TypeIs (.ref z) "zip" := ⟨_, hz, rfl⟩
  have inner : ∀ {Q' : PySem.Fin → Shared → Prop} {E' : Value → Shared → Prop}, (∀ h' e, (∀ c o, c ≠ z → c ≠ i1 → s.heap.get? c = some o → h'.get? c = some o) → (∃ o, h'.get? e = some o ∧ o.cls = .type "StopIteration") → E' (.ref e) { s with heap := h' }) →
      wpAny (model prog w) A.in1 (Builtin.«zip.__next__» ⟨[.ref z], []⟩) Q' E' s := by
    intro Q' E' kk
    have step : ∀ {m : Sem Value} {f : Value → Sem PySem.Fin} {v : Value}, (∀ {R : Value → Shared → Prop}, R v s → wpAny (model prog w) A.in1 m R E' s) → wpAny (model prog w) A.in1 (f v) Q' E' s → wpAny (model prog w) A.in1 (m >>= f) Q' E' s := fun hm hf => wpAny_bind (hm hf)
    show wpAny _ _ (field (.ref z) 2 >>= _) _ _ _
    refine step (fun r => wpAny_field hz rfl (x := .bool false) rfl r) ?_
    show wpAny _ _ (field (.ref z) 3 >>= _) _ _ _
    refine step (fun r => wpAny_field hz rfl (x := .ref TI) rfl r) ?_
    refine wpAny_bind (wpAny_seqItems p rfl ?_)
    show wpAny _ _ (Builtin.SmallTypes.ownedTupleIsFree (.ref z) >>= _) _ _ _
    refine wpAny_bind (show wpAny _ _ (Builtin.SmallTypes.ownedTupleIsFree (.ref z)) _ _ _ from ?_)
    unfold Builtin.SmallTypes.ownedTupleIsFree
    refine wpAny_bind (wpAny_field hz rfl (x := .none) rfl (wpAny_pure ?_))
    simp only [if_true]
    refine wpAny_bind (wpAny_rule (wpAny_bind (wpAny_field hz rfl (x := .ref TO) rfl ?_)))
    refine wpAny_bind (wpAny_setField_rec hz (by simp) fun h1 z1 s1 => ?_)
    replace z1 : IsZip h1 z TI TO .ellipsis := z1
    refine wpAny_bind (show wpAny _ _ _ _ _ _ from ?_)
    simp only [List.zipIdx_cons, List.zipIdx_nil, List.forIn_cons, List.forIn_nil]
    refine wpAny_bind (wpAny_bind (wpAny_onRaise ?_))
    show wpAny _ _ (Builtin.SmallTypes.nextOf (.ref i1) >>= _) _ _ _
    obtain ⟨hh, o1, v1, g1, g2, g3⟩ := hot
    refine wpAny_bind (li_end_hot (A := A.in1) ⟨hh, o1, v1, s1.extBut _ _ n1 g1, g2, g3⟩ n2 (c1.extBut s1.extBut D.i1z) (d1.extBut s1.extBut D.l1z) en fun h2 e s2 he => ?_)
    obtain ⟨oe, q1, q2⟩ := he
    have z2 : IsZip h2 z TI TO .ellipsis := s2 _ _ D.i1z.symm z1
    have ez : e ≠ z := fun x => by
      subst x
      rw [z2] at q1
      cases q1
      simp at q2
    refine wpAny_setField_rec z2 (by simp) fun h3 _ s3 => kk h3 e (fun c o m1 m2 x => s3.extBut _ _ m1 (s2 _ _ m2 (s1.extBut _ _ m1 x))) ⟨oe, s3.extBut _ _ ez q1, q2⟩
  unfold pyNext
  refine wpAny_bind (wpAny_attempt (wpAny_callSpecial?_slot (name := Str.ofString "__next__") ty F.slot_zip_next (wpAny_call_entry F.slot_zip_next ty F.entry_zip_next (inner fun h' e hk he => ?_) (F.args_zip_next_1 _))))
  obtain ⟨o, q1, q2⟩ := he
  exact wpAny_bind (wpAny_isInstance (T := "StopIteration") (b := true) ⟨o, q1, q2⟩ isSubtype_stop (wpAny_pure (k _ hk)))
/-- a tuple's iterator at its end -/
theorem ti_end_hot {it t x1 : Addr} {i : Nat} {its : Array Value} {Q : Option Value → Shared → Prop} (hot : HotAt A x1 s.heap) (hn : x1 ≠ it) (a : s.heap.IsTupleIter it t i) (b : s.heap.IsTuple t its) (c : its[i]? = none)
    (k : ∀ h', Heap.ExtBut it s.heap h' → Q none { s with heap := h' }) : wpAny (model prog w) A (pyNext (.ref it)) Q E s := by
  obtain ⟨oi, e1, e2, e3⟩ := id a
  obtain ⟨ot, f1, _, fn, f2⟩ := b
  obtain ⟨hh, o1, v1, g1, g2, g3⟩ := hot
  unfold pyNext
  refine wpAny_bind (wpAny_attempt (wpAny_callSpecial?_slot (name := Str.ofString "__next__") a.typeIs F.slot_tuple_iterator_next (wpAny_call_entry F.slot_tuple_iterator_next a.typeIs F.entry_tuple_iterator_next ?_ (F.args_tuple_iterator_next_1 _))))
  show wpAny _ _ (field (.ref it) 0 >>= _) _ _ s
  refine wpAny_bind (wpAny_field e1 e3 (x := .ref t) rfl ?_)
  show wpAny _ _ (if (Value.ref t == Value.none) = true then _ else _) _ _ s
  rw [if_neg (show ¬ ((Value.ref t == Value.none) = true) from fun z => Bool.false_ne_true z)]
  show wpAny _ _ (field (.ref it) 1 >>= _) _ _ s
  refine wpAny_bind (wpAny_field e1 e3 (x := .int i 0) rfl ?_)
  show wpAny _ _ (seqItems? (.ref t) >>= _) _ _ s
  refine wpAny_bind (wpAny_seqItems f1 f2 ?_)
  simp only [Int.toNat_natCast, c]
  refine wpAny_bind (wpAny_rule (wpAny_bind (wpAny_setField e1 e3 (by simp) ?_)))
  show wpAny _ _ (newExc (.type "StopIteration") [] >>= _) _ _ _
  refine wpAny_bind (show wpAny _ _ (newExc (.type "StopIteration") []) _ _ _ from ?_)
  simp only [newExc, newTuple]
  refine wpAny_bind (wpAny_newObj_type (wpAny_bind (m := firstArgMember _ _) (wpAny_of_eq (a := Value.none) (by first | rfl | (simp only [firstArgMember]; rfl)) ?_)) (by size_fits))
  refine wpAny_newObj_type ?_ (by size_fits)
  have g1' := (Heap.get?_update_other s.heap (Obj.mapFields (·.setIfInBounds 0 Value.none)) (Ne.symm hn)).trans g1
  refine raiseNew_hot ⟨hh, o1, v1, Heap.get?_push_of_some _ (Heap.get?_push_of_some _ g1'), g2, g3⟩ (Nat.ne_of_lt (Heap.lt_size (Heap.get?_push_of_some _ g1'))) (Heap.get?_push_size _ rfl) rfl (by first | (simp; done) | (simp; omega) | (simp only [Array.size_append]; simp; omega)) ?_
  refine wpAny_bind (wpAny_isInstance (T := "StopIteration") (b := true) ⟨_, Heap.get?_update_self _ (Heap.get?_push_size _ rfl) rfl, rfl⟩ isSubtype_stop (wpAny_pure (k _ fun q o hq e => ?_)))
  have e' := (Heap.get?_update_other s.heap (Obj.mapFields (·.setIfInBounds 0 Value.none)) (Ne.symm hq)).trans e
  rw [Heap.get?_update_other _ _ (Nat.ne_of_gt (Heap.lt_size (Heap.get?_push_of_some _ e')))]
  exact Heap.get?_push_of_some _ (Heap.get?_push_of_some _ e')
/-- (a, b) = t -/
theorem asg_tup_hot {env : Env} {elts : List Expr} {n : Nat} {pos : Pos} {t x1 : Addr} {its : Array Value} {Q : Unit → Shared → Prop} (hot : HotAt A x1 s.heap) (ht : s.heap.IsTuple t its) (hn : (assignEach elts env).length = its.size) (hst : (assignEach elts env).findIdx? (·.1) = none)
    (h : ∀ h', Heap.ExtBut s.heap.objs.size s.heap h' → wpAny (model prog w) A (assignInOrder ((assignEach elts env).map (·.2)) its.toList) Q E { s with heap := h' }) : wpAny (model prog w) A (assign (.Tuple elts n pos) env (.ref t)) Q E s := by
  have tl : t ≠ s.heap.objs.size := by
    obtain ⟨o, ho, _⟩ := ht
    exact Nat.ne_of_lt (Heap.lt_size ho)
  obtain ⟨hh, o1, v1, g1, g2, g3⟩ := hot
  have xl : x1 ≠ s.heap.objs.size := Nat.ne_of_lt (Heap.lt_size g1)
  rw [arm_assign_Tuple]
  refine wpAny_bind (wpAny_standAt ?_)
  unfold unpack
  rw [hn, hst]
  refine wpAny_bind (wpAny_holding ?_)
  unfold unpackItems
  refine wpAny_bind (show wpAny _ _ (notIterableAtAll _) _ _ _ from ?_)
  unfold notIterableAtAll
  refine wpAny_bind (wpAny_specialOf ht.typeIs F.slot_tuple_iter.lookup (wpAny_pure ?_))
  simp only [Bool.false_eq_true, if_false]
  refine wpAny_bind (wpAny_holding (wpAny_pyIter_tuple ht ?_))
  refine wpAny_bind (wpAny_holding (wpAny_draw_tuple tl its.size 0 _ _ ⟨_, Heap.get?_push_size _ rfl, rfl, rfl⟩ (ht.push _) (by omega) fun h1 a1 s1 => ?_))
  have whole : List.take its.size (List.drop 0 its.toList) = its.toList := by
    rw [List.drop_zero]
    exact List.take_of_length_le (Nat.le_of_eq (by simp))
  rw [whole, if_neg (by simp)]
  have b1 : h1.IsTuple t its := (ht.push _).extBut s1.extBut tl
  refine wpAny_bind (wpAny_holding (ti_end_hot ⟨hh, o1, v1, s1.extBut _ _ xl (Heap.get?_push_of_some _ g1), g2, g3⟩ xl a1 b1 (by simp) fun h2 e2 => ?_))
  simp only [Option.isSome_none, Bool.false_eq_true, if_false]
  exact wpAny_pure (h h2 fun b o hb e => e2 b o hb (s1.extBut b o hb (Heap.get?_push_of_some _ e)))
end
end ZH

set_option maxHeartbeats 2000000
/-! ZH2: a list comprehension over zip(l, m) while an exception is handled -/
namespace ZH
open PySem PySem.Spec PyProof.Rows L2 HotX L2H
abbrev Fz (z TI TO i1 i2 : Addr) : List Addr := [z, TI, TO, i1, i2]
/-- where the zip over the lists a and b stands -/
structure ZSt (z TI TO i1 i2 a b : Addr) (i : Nat) (h : Heap) : Prop where
  z : IsZip h z TI TO .none
  ti : IsPair h TI (.ref i1) (.ref i2)
  to : ∃ x y, IsPair h TO x y
  l1 : h.IsListIter i1 a i
  l2 : h.IsListIter i2 b i
section
variable {X : Cx} {pins : List (Addr × Obj)} {σ : L2.St} {H : Hp} {s : Shared} {E : Value → Shared → Prop} {z TI TO i1 i2 a b : Addr} {i : Nat}
theorem ZSt.obj {h : Heap} (t : ZSt z TI TO i1 i2 a b i h) : ∀ c ∈ Fz z TI TO i1 i2, ∃ o, h.get? c = some o ∧ ∀ v, o.data ≠ .cell v := by
  obtain ⟨q1, q2, ⟨x, y, q3⟩, ⟨o1, e1, _, d1⟩, ⟨o2, e2, _, d2⟩⟩ := t
  intro c hc
  simp only [List.mem_cons, List.not_mem_nil, or_false] at hc
  rcases hc with rfl | rfl | rfl | rfl | rfl
  · exact ⟨_, q1, fun v q => nomatch q⟩
  · exact ⟨_, q2, fun v q => nomatch q⟩
  · exact ⟨_, q3, fun v q => nomatch q⟩
  · exact ⟨o1, e1, fun v q => by rw [d1] at q; cases q⟩
  · exact ⟨o2, e2, fun v q => by rw [d2] at q; cases q⟩
theorem ZSt.keep {h h' : Heap} (t : ZSt z TI TO i1 i2 a b i h) (k : ∀ c ∈ Fz z TI TO i1 i2, ∀ o, h.get? c = some o → h'.get? c = some o) : ZSt z TI TO i1 i2 a b i h' := by
  obtain ⟨q1, q2, ⟨x, y, q3⟩, q4, q5⟩ := t
  exact ⟨k z (by simp) _ q1, k TI (by simp) _ q2, ⟨x, y, k TO (by simp) _ q3⟩, q4.at fun o q => k i1 (by simp) o q, q5.at fun o q => k i2 (by simp) o q⟩
theorem z_item {elts : List Expr} {kk : Nat} {tpos : Pos} {xs ys : List V} {x y : V} (D : ZipApart z TI TO i1 i2 a b) (I : Inv X pins σ H s) (hf : ∀ c ∈ Fz z TI TO i1 i2, FpOk X pins H c) (t : ZSt z TI TO i1 i2 a b i s.heap) (ha : SqL X.K H a xs) (hb : SqL X.K H b ys) (hx : xs[i]? = some x) (hy : ys[i]? = some y) :
    wpAny (model X.prog X.w) X.A (pyNext (.ref z)) (fun r s1 => ∃ u, r = some u ∧
      wpAny (model X.prog X.w) X.A (letOwnedTupleGo (.Tuple elts kk tpos) (.ref z) u) (fun _ s2 => ∃ T, H T = none ∧ u = .ref T ∧ Inv X pins σ (upd H T (.tup [x, y])) s2 ∧ ZSt z TI TO i1 i2 a b (i + 1) s2.heap ∧ ∀ c ∈ Fz z TI TO i1 i2, upd H T (.tup [x, y]) c = none) E s1) E s := by
  obtain ⟨q1, q2, ⟨x0, y0, q3⟩, q4, q5⟩ := t
  obtain ⟨us, ru, pu, _⟩ := I.list ha
  obtain ⟨vs, rv, pv, _⟩ := I.list hb
  obtain ⟨u, hu, r1⟩ := ru.get hx
  obtain ⟨v, hv, r2⟩ := rv.get hy
  have zl : z < s.heap.objs.size := Heap.lt_size q1
  refine wpAny_pyNext_zip_item D q1 q2 q3 q4 q5 pu.isList pv.isList (x := u) (y := v) (by simpa using hu) (by simpa using hv) fun h1 w1 w2 w3 w4 w5 _ k1 => ⟨_, rfl, ?_⟩
  refine wpAny_letOwnedTupleGo_zip (s := { s with heap := h1 }) w1 fun h2 y1 sb => ?_
  have tp : h2.get? s.heap.objs.size = some { cls := .type "tuple", data := .seq #[u, v] } := (sb.2 _ (Nat.ne_of_gt zl)).trans w5
  have ob : ObjOk X.prog X.w (upd H s.heap.objs.size (.tup [x, y])) h2 s.heap.objs.size (.tup [x, y]) := ⟨by show 2 ≤ sizeLine; decide, [u, v], .cons r1 (.cons r2 .nil), ⟨_, tp, rfl, _, rfl⟩⟩
  have hn : H s.heap.objs.size = none := I.hok.fresh (Nat.le_refl _)
  have J := I.turnedNew (t' := s.toks) (ch := Fz z TI TO i1 i2) (fun c o hc q => (sb.2 c (fun e => hc (by simp [e]))).trans (k1 c o (fun e => hc (by simp [e])) (fun e => hc (by simp [e])) (fun e => hc (by simp [e])) (fun e => hc (by simp [e])) q)) hf (Nat.le_refl _) ob
  refine ⟨s.heap.objs.size, hn, rfl, J, ⟨y1, (sb.2 _ D.TIz).trans (k1 _ _ D.TIz D.TITO D.TIi1 D.TIi2 q2), ⟨u, v, (sb.2 _ D.TOz).trans w2⟩, w3.at fun o q => (sb.2 _ D.i1z).trans q, w4.at fun o q => (sb.2 _ D.i2z).trans q⟩, fun c hc => ?_⟩
  obtain ⟨o, eo, _⟩ := ZSt.obj ⟨q1, q2, ⟨x0, y0, q3⟩, q4, q5⟩ c hc
  rw [upd_ne (Nat.ne_of_lt (Heap.lt_size eo))]
  exact (hf c hc).1
theorem z_done {x1 : Addr} {xs : List V} (hot : HotAt X.A x1 s.heap) (nh : ∀ c ∈ Fz z TI TO i1 i2, x1 ≠ c) (D : ZipApart z TI TO i1 i2 a b) (I : Inv X pins σ H s) (hf : ∀ c ∈ Fz z TI TO i1 i2, FpOk X pins H c) (t : ZSt z TI TO i1 i2 a b i s.heap) (ha : SqL X.K H a xs) (hl : xs.length ≤ i) :
    wpAny (model X.prog X.w) X.A (pyNext (.ref z)) (fun r s1 => r = none ∧ Inv X pins σ H s1) E s := by
  obtain ⟨us, ru, pu, _⟩ := I.list ha
  have l1 := ru.length
  refine zip_end_hot hot (nh z (by simp)) (nh i1 (by simp)) D t.z t.ti t.l1 pu.isList (by simp; omega) fun h' k => ⟨rfl, I.turnedL (t' := s.toks) (ch := Fz z TI TO i1 i2) (fun c o hc q => k c o (fun e => hc (by simp [e])) (fun e => hc (by simp [e])) q) hf⟩
end
section
variable {X : Cx} {elts : List Expr} {kk : Nat} {tpos ipos zp : Pos} {e1 e2 : Expr} {ta : TA}
/-- the items of zip(a, b), the lists standing still: W by the turn -/
def tLcZ (K : PySem.W.Frag) (ta : TA) (g : TGs) (tt : TT) (te : TE) (vs : List Nat) : TE := fun σ H Q => ta σ H fun us H1 => ∃ a b xs ys, us = [V.ref a, V.ref b] ∧ SqL K H1 a xs ∧ SqL K H1 b ys ∧ xs.length = ys.length ∧ ∀ D, H1 D = none → ∃ W : Nat → Hp → Prop, W 0 (upd H1 D (.lst [])) ∧
  (∀ i H, W i H → SqL K H a xs ∧ SqL K H b ys) ∧ (∀ H, W xs.length H → Q (.ref D) H) ∧
  ∀ i x y H T, W i H → xs[i]? = some x → ys[i]? = some y → H T = none → g [x, y] (wipe σ vs) (upd H T (.tup [x, y])) fun σ2 H2 => wipe σ2 vs = wipe σ vs ∧ tt σ2 H2 fun k H3 =>
    if k = true then te σ2 H3 fun v H4 => ∃ acc, H4 D = some (.lst acc) ∧ acc.length < sizeLine ∧ W (i + 1) (upd H4 D (.lst (acc ++ [v]))) else W (i + 1) H3
theorem pe_lcZ {elt : Expr} {ifs : List Expr} {scope : Scope} {own : List (Str × Nat)} {pos : Pos} {g : TGs} {tt : TT} {te : TE} (hc : HotC X) (hN : X.N.Nodup) (hgz : Gl X "zip") (hmz : X.mg "zip" = none) (ha : PA X [e1, e2] ta) (ok : BlkOk X.N X.env.scope scope own)
    (hg : ∀ (s : Shared) (H : Hp) (C : Addr) (cl : List (Str × Addr)) (fp : List Addr), PGs (X.blk s H scope (compEnvC scope cl C X.env) fp) elts g) (ht : ∀ (s : Shared) (H : Hp) (C : Addr) (cl : List (Str × Addr)) (fp : List Addr), PTs (X.blk s H scope (compEnvC scope cl C X.env) fp) ifs tt)
    (he : ∀ (s : Shared) (H : Hp) (C : Addr) (cl : List (Str × Addr)) (fp : List Addr), PE (X.blk s H scope (compEnvC scope cl C X.env) fp) elt te)
    (hn2 : ∀ env : Env, (assignEach elts env).length = 2 := by intro _; rfl) (hn3 : ∀ env : Env, (assignEach elts env).findIdx? (·.1) = none := by intro _; rfl) (hst : starEach [e1, e2] X.env = (false, eval e1 X.env) :: starEach [e2] X.env := by rfl) (hpl : (backTo ipos (starEach [e2] X.env)).any (·.1) = false := by rfl) (hs : ∀ x, foldedSetIterable (.Call (.Name "zip" zp) [e1, e2] [] ipos) X.env x = pure x := by intro _; rfl) :
    PE X (.ListComp elt [⟨.Tuple elts kk tpos, .Call (.Name "zip" zp) [e1, e2] [] ipos, ifs, 0⟩] scope pos) (tLcZ X.K ta g tt te (own.map (·.2))) := by
  refine ⟨fun pins s σ H Q I h => ?_⟩
  rw [eval_ListComp]
  have hasc : ∀ y ∈ scope.names, y.2 = .free → ∃ c, X.env.cells.lookup y.1 = some c := fun y hy e => (ok.free y hy e).elim (fun k => I.ok.has _ (.inl k)) fun k => I.ok.has _ (.inr k)
  refine wpAny_comprehension_free (use := none) rfl hs (closure_ok hasc) ok.kind (fun y hy e => by rw [ok.uniq y hy, e]) ?_
  refine Call_ (ld_blt I hgz hmz PyProof.Rows.boot_zip (PyProof.Rows.callWith_type1 (thn (ha.run ipos pins s σ H _ I h) fun us s1 ⟨vs, H1, I1, r1, q1⟩ => ?_) hst hpl))
  obtain ⟨a, b, xs, ys, ex, ha1, hb1, hxy, q⟩ := q1
  subst ex
  obtain ⟨its, rv1, p1, _⟩ := I1.list ha1
  obtain ⟨its2, rv2, p2, _⟩ := I1.list hb1
  have eu : us = [Value.ref a, Value.ref b] := by
    cases r1 with
    | cons r rr =>
      cases rr with
      | cons r' rr =>
        cases rr
        cases r
        cases r'
        rfl
  rw [eu]
  have la : a < s1.heap.objs.size := p1.lt
  have lb : b < s1.heap.objs.size := p2.lt
  refine call_zip_2 p1.isList p2.isList fun h2 hz hTI hTO m1 m2 hsz hk => wpAny_pyIter_zip hz ?_
  generalize hZ : s1.heap.objs.size + 4 = z at hz
  generalize hTi : s1.heap.objs.size + 2 = TI at hz hTI
  generalize hTo : s1.heap.objs.size + 3 = TO at hz hTO
  generalize hi2 : s1.heap.objs.size + 1 = i2 at hTI m2
  generalize hi1 : s1.heap.objs.size = i1 at hTI m1
  have D : ZipApart z TI TO i1 i2 a b := by
    have := PySem.W.ktu_apart s1.heap.objs.size a b la lb
    rw [hZ, hTi, hTo, hi2] at this
    rw [hi1] at this
    exact this
  have big : ∀ c ∈ Fz z TI TO i1 i2, s1.heap.objs.size ≤ c := by
    intro c hcm
    simp only [List.mem_cons, List.not_mem_nil, or_false] at hcm
    rcases hcm with e | e | e | e | e
    · exact e ▸ hZ ▸ Nat.le_add_right _ _
    · exact e ▸ hTi ▸ Nat.le_add_right _ _
    · exact e ▸ hTo ▸ Nat.le_add_right _ _
    · exact e ▸ hi1 ▸ Nat.le_refl _
    · exact e ▸ hi2 ▸ Nat.le_add_right _ _
  have I2 : Inv X pins σ H1 { s1 with heap := h2 } := I1.kept (t' := s1.toks) hk
  have st2 : ZSt z TI TO i1 i2 a b 0 h2 := ⟨hz, hTI, ⟨_, _, hTO⟩, m1, m2⟩
  have f2 : ∀ c ∈ Fz z TI TO i1 i2, FpOk X pins H1 c := fun c hcm => I1.fpOk (big c hcm) (I1.hok.fresh (big c hcm))
  -- the handled exception stands
  obtain ⟨pe0, ⟨hh, vs0, ed, ec⟩, hpe⟩ := hc
  have P1 := I1.pin pe0 (List.mem_append_left _ hpe)
  have nh : ∀ c ∈ Fz z TI TO i1 i2, pe0.1 ≠ c := fun c hcm e => absurd (Nat.lt_of_lt_of_le (Heap.lt_size P1.1) (e ▸ big c hcm)) (Nat.lt_irrefl _)
  refine wpAny_newObj_type (newEnv_comp ?_) (by show 0 ≤ sizeLine; decide)
  generalize hD : ({ s1 with heap := h2 } : Shared).heap.objs.size = L
  have hD' : h2.objs.size = L := hD
  have nL : H1 L = none := I2.hok.fresh (Nat.le_of_eq hD)
  obtain ⟨W, w0, wk, wq, turn⟩ := q L nL
  generalize hs3 : ({ s1 with heap := h2.push { cls := .type "list", data := .seq ([] : List Value).toArray } } : Shared) = s3
  have h3 : s3.heap = h2.push { cls := .type "list", data := .seq ([] : List Value).toArray } := by rw [← hs3]
  have I3 : Inv X pins σ (upd H1 L (.lst [])) s3 := by
    rw [← hs3]
    refine I2.laid (t' := s1.toks) (fun b o e => Heap.get?_push_of_some _ e) (Nat.le_of_eq hD) ⟨Nat.zero_le _, [], 0, .nil, ?_⟩
    rw [← hD']
    exact Heap.get?_push_size _ rfl
  have f3 : ∀ c ∈ Fz z TI TO i1 i2, FpOk X pins (upd H1 L (.lst [])) c ∧ c < s3.heap.objs.size := fun c hcm => by
    obtain ⟨o, eo, _⟩ := st2.obj c hcm
    have lt := Heap.lt_size eo
    refine ⟨⟨?_, (f2 c hcm).2⟩, by rw [h3, Heap.size_push]; exact Nat.lt_succ_of_lt lt⟩
    rw [upd_ne (by rw [← hD']; exact Nat.ne_of_lt lt)]
    exact (f2 c hcm).1
  have st3 : ZSt z TI TO i1 i2 a b 0 s3.heap := st2.keep fun c _ o e => by
    rw [h3]
    exact Heap.get?_push_of_some _ e
  have I4 := block_start I3 ok hN f3
  have pg := hg s3 (upd H1 L (.lst [])) s3.heap.objs.size (cellsFrom (s3.heap.objs.size + 1) scope.names (cloFrom X.env.cells scope.names [])) (Fz z TI TO i1 i2)
  have pt := ht s3 (upd H1 L (.lst [])) s3.heap.objs.size (cellsFrom (s3.heap.objs.size + 1) scope.names (cloFrom X.env.cells scope.names [])) (Fz z TI TO i1 i2)
  have pe := he s3 (upd H1 L (.lst [])) s3.heap.objs.size (cellsFrom (s3.heap.objs.size + 1) scope.names (cloFrom X.env.cells scope.names [])) (Fz z TI TO i1 i2)
  have P3 := I3.pin pe0 (List.mem_append_left _ hpe)
  show codeAny _ _ (.compStart _ 0 (.ref z) (.ref L) (compEnvC scope (cellsFrom (s3.heap.objs.size + 1) scope.names (cloFrom X.env.cells scope.names [])) s3.heap.objs.size X.env)) (compPost (model X.prog X.w) X.A X.xe none _ (.ref L) s3.heap.objs.size) { s3 with heap := pushCells (s3.heap.push { cls := .type "dict", data := .dict #[] }) scope.names }
  have nf : ∀ c ∈ Fz z TI TO i1 i2, (upd H1 L (.lst [])) c = none := fun c hcm => (f3 c hcm).1.1
  generalize hce : compEnvC scope (cellsFrom (s3.heap.objs.size + 1) scope.names (cloFrom X.env.cells scope.names [])) s3.heap.objs.size X.env = ce at I4 pg pt pe ⊢
  have cL : ce.locals = s3.heap.objs.size := by
    subst hce
    rfl
  generalize hH3 : upd H1 L (.lst []) = H3 at I3 I4 pg pt pe w0 nf f3 P3
  generalize hs4 : ({ s3 with heap := pushCells (s3.heap.push { cls := .type "dict", data := .dict #[] }) scope.names } : Shared) = s4 at I4 ⊢
  have st4 : ZSt z TI TO i1 i2 a b 0 s4.heap := st3.keep fun c _ o e => by
    rw [← hs4]
    exact pushCells_keeps _ _ _ _ (Heap.get?_push_of_some _ e)
  have stat : ∀ {σ' : L2.St} {H' : Hp} {s' : Shared}, Inv (X.blk s3 H3 scope ce (Fz z TI TO i1 i2)) [] σ' H' s' → (∀ c ∈ Fz z TI TO i1 i2, H' c = none) → ∀ c ∈ Fz z TI TO i1 i2, FpOk (X.blk s3 H3 scope ce (Fz z TI TO i1 i2)) [] H' c := fun {σ' H' s'} I' hn c hcm =>
    ⟨hn c hcm, (I'.ok.exf c hcm).1, I'.ok.exfs c hcm, .inl hcm, fun x d e => (I'.ok.exf c hcm).2 x d e, fun p hp => absurd (show p ∈ ([] : List (Addr × Obj)) ++ [] from hp) (by simp)⟩
  have hotAt : ∀ {pins' : List (Addr × Obj)} {σ' : L2.St} {H' : Hp} {s' : Shared}, Inv (X.blk s3 H3 scope ce (Fz z TI TO i1 i2)) pins' σ' H' s' → HotAt (X.blk s3 H3 scope ce (Fz z TI TO i1 i2)).A pe0.1 s'.heap := fun {pins' σ' H' s'} J => by
    refine ⟨hh, pe0.2, vs0, J.base.keep pe0.1 pe0.2 P3.1 P3.2.1 (fun hm => ?_) (fun hm => nh _ hm rfl), ed, ec⟩
    exact (List.mem_cons.mp (I3.stkSub pe0.1 hm)).elim P3.2.2.1 P3.2.2.2.1
  have loop : codeAny (model X.prog X.w) X.A (.compLoop (.ListComp elt [⟨.Tuple elts kk tpos, .Call (.Name "zip" zp) [e1, e2] [] ipos, ifs, 0⟩] scope pos) 0 (.ref z) (.ref L) ce) (compPost (model X.prog X.w) X.A X.xe none (EP X pins σ Q) (.ref L) s3.heap.objs.size) s4 := by
    refine compLoop_any (fun n s' => ∃ i H', n = xs.length - i ∧ i ≤ xs.length ∧ Inv (X.blk s3 H3 scope ce (Fz z TI TO i1 i2)) [] (wipe σ (own.map (·.2))) H' s' ∧ ZSt z TI TO i1 i2 a b i s'.heap ∧ (∀ c ∈ Fz z TI TO i1 i2, H' c = none) ∧ W i H') ?_ xs.length ⟨0, H3, by omega, Nat.zero_le _, I4, st4, nf, w0⟩
    rintro n s5 ⟨i, H5, rfl, hi, I5, st5, n5, w5⟩
    obtain ⟨sa, sb⟩ := wk i H5 w5
    by_cases hlt : i < xs.length
    · refine thnF (z_item (X := X.blk s3 H3 scope ce (Fz z TI TO i1 i2)) (elts := elts) (kk := kk) (tpos := tpos) (E := fun _ _ => False) D I5 (stat I5 n5) st5 sa sb (List.getElem?_eq_getElem hlt) (List.getElem?_eq_getElem (by omega : i < ys.length))) fun r s6 ⟨u, hr, h6⟩ => ?_
      subst hr
      refine thnF h6 fun _ s7 ⟨T, hT, hu, I7, st7, n7⟩ => ?_
      subst hu
      have I7' := I7.pinned (stat I7 n7) st7.obj
      obtain ⟨us7, rv7, ht7⟩ := (I7.hok T _ upd_same).2
      have len7 := rv7.length
      refine asg_tup_hot (hotAt I7) ht7 (by rw [hn2]; simpa using len7) (hn3 _) fun h8 e8 => ?_
      have I8' : Inv (X.blk s3 H3 scope ce (Fz z TI TO i1 i2)) ([] ++ pinsAt (Fz z TI TO i1 i2) s7.heap) (wipe σ (own.map (·.2))) _ { s7 with heap := h8 } := I7'.kept (t' := s7.toks) fun b o e => e8 b o (Nat.ne_of_lt (Heap.lt_size e)) e
      refine thnF (pg.run _ _ _ _ _ _ _ I8' (by simpa using rv7) (turn i _ _ H5 T w5 (List.getElem?_eq_getElem hlt) (List.getElem?_eq_getElem (by omega : i < ys.length)) hT)) fun _ s8 ⟨σ8, H8, I8, hw8, q8⟩ => ?_
      refine thnF (pt.run _ s8 σ8 H8 _ I8 q8) fun k s9 ⟨H9, I9, q9⟩ => ?_
      have fin : ∀ {s' : Shared} {H' : Hp}, Inv (X.blk s3 H3 scope ce (Fz z TI TO i1 i2)) ([] ++ pinsAt (Fz z TI TO i1 i2) s7.heap) σ8 H' s' → W (i + 1) H' → ∃ m, m < xs.length - i ∧ ∃ i H', m = xs.length - i ∧ i ≤ xs.length ∧ Inv (X.blk s3 H3 scope ce (Fz z TI TO i1 i2)) [] (wipe σ (own.map (·.2))) H' s' ∧ ZSt z TI TO i1 i2 a b i s'.heap ∧ (∀ c ∈ Fz z TI TO i1 i2, H' c = none) ∧ W i H' := fun {s' H'} I' nx => by
        have pin' : ∀ c ∈ Fz z TI TO i1 i2, ∀ o, s7.heap.get? c = some o → s'.heap.get? c = some o ∧ H' c = none := fun c hcm o e => by
          have zz := I'.pin (c, o) (List.mem_append_right _ (List.mem_append_right _ (mem_pinsAt hcm e)))
          exact ⟨zz.1, zz.2.1⟩
        refine ⟨xs.length - (i + 1), by omega, i + 1, H', rfl, hlt, (I'.unpinned (pins := [])).weak (by rw [← hw8, wipe_length]) (fun j v e => ?_), st7.keep fun c hcm o e => (pin' c hcm o e).1, fun c hcm => ?_, nx⟩
        · rw [← hw8] at e
          exact (wipe_some e).1
        · obtain ⟨o, e, _⟩ := st7.obj c hcm
          exact (pin' c hcm o e).2
      cases k with
      | false =>
        simp only [Bool.false_eq_true, if_false] at q9 ⊢
        exact fin I9 q9
      | true =>
        simp only [if_true] at q9 ⊢
        refine thnF (pe.run _ s9 σ8 H9 _ I9 q9) fun v s10 ⟨yv, H10, I10, r10, acc, aD, az, nx⟩ => ?_
        exact app_ok (X := X.blk s3 H3 scope ce (Fz z TI TO i1 i2)) I10 aD az r10 fun s11 I11 => fin I11 nx
    · have e0 : i = xs.length := by omega
      have hot5 := hotAt I5
      refine thnF (z_done (X := X.blk s3 H3 scope ce (Fz z TI TO i1 i2)) (E := fun _ _ => False) hot5 nh D I5 (stat I5 n5) st5 sa (by omega)) fun r s6 ⟨hr, I6⟩ => ?_
      subst hr
      have I7 : Inv X pins σ H5 s6 := I3.call' (ch := Fz z TI TO i1 i2) I6.os I6.base I6.hok I6.bare fun c hcm => ⟨(f3 c hcm).1.2.2.2.1, (f3 c hcm).1.2.1, (f3 c hcm).1.2.2.2.2.1, (f3 c hcm).1.2.2.2.2.2⟩
      have nC : H5 s3.heap.objs.size = none := by
        have zz : H5 ce.locals = none := I6.free
        rw [cL] at zz
        exact zz
      obtain ⟨m, hn, _⟩ := I6.loc
      have hn : s6.heap.Ns ce.locals m := hn
      rw [cL] at hn
      rw [e0] at w5
      refine ⟨m, hn, fun h'' sb => ?_⟩
      obtain ⟨g0, g1, g2, g3, g4, g5⟩ := I3.fpOk (Nat.le_refl _) nC
      exact ⟨.ref L, H5, I7.turned (t' := s6.toks) (fun b o hb e => (sb.2 b hb).trans e) g0 g1 g3 g4 g5, rfl, wq H5 w5⟩
  refine codeAny_compStart_list loop ?_
  exact wpAny_pyIter_zip st4.z loop
end
end ZH

set_option maxHeartbeats 2000000
/-! ZH3: the program's error classes; isinstance of a handled error; a def that is called with the handled error -/
namespace ZH
open PySem PySem.Spec PyProof.Rows L2 HotX L2H
abbrev veL : List Value := [.type "ValueError", .type "Exception", .type "BaseException", .type "object"]
/-- all that is asked of the class at c, an error below the one at S -/
def errB (K : PySem.W.Frag) (S c : Addr) : Bool :=
  PySem.W.excIn K c veL "ValueError.__new__" && PySem.W.keepIn K (.ref c) && (PySem.W.subIn K (.ref c) (.type "BaseException") == some true) && (PySem.W.typeIn K (.ref c) == some (.type "type")) && (PySem.W.exmOne K (.ref c) (.ref S) == some true) &&
  (PySem.W.findIn K (.ref c) "__getattribute__" == some (some (.builtin "BaseException.__getattribute__"))) && (PySem.W.findIn K (.ref c) "__getattr__" == some none) && PySem.W.hasDictIn K c && (PySem.W.findIn K (.ref c) "__class__" == some (some (.builtin "object.__class__"))) &&
  (PySem.W.specialIn K (.builtin "object.__class__") "__get__" == some (some (.builtin "getset_descriptor.__get__"))) && (PySem.W.takesIn K (.builtin "object.__class__") == some true) && (PySem.W.mroIn K c (.type "object") == some true)
def kitB7 (K : PySem.W.Frag) (cs : List Addr) : Bool := (List.range 7).all fun i => (List.range 7).all fun j => match cs[i]?, cs[j]? with
  | some c, some d => PySem.W.kitOne K (.ref c) (.ref d) == some (i == j)
  | _, _ => false
def errAll (K : PySem.W.Frag) (S : Addr) (cs : List Addr) : Bool := decide (cs.length = 7) && cs.all (errB K S) && kitB7 K cs
def errN : List Str := ["InvalidPolicy", "InvalidYear", "InvalidMenu", "InvalidScheme", "InvalidNumber", "InvalidDamage", "NothingToUndo"]
structure Errs (K : PySem.W.Frag) (mg : Str → Option Value) where
  S : Addr
  cs : List Addr
  gS : mg "ShareError" = some (.ref S)
  g : ∀ (i : Nat) (c : Addr) (n : Str), cs[i]? = some c → errN[i]? = some n → mg n = some (.ref c)
  ok : errAll K S cs = true
section
variable {K : PySem.W.Frag} {mg : Str → Option Value} {i j : Nat} {c d : Addr}
theorem Errs.len (T : Errs K mg) : T.cs.length = 7 := by
  have h := T.ok
  unfold errAll at h
  simp only [Bool.and_eq_true, decide_eq_true_eq] at h
  exact h.1.1
theorem Errs.one (T : Errs K mg) (h : T.cs[i]? = some c) : errB K T.S c = true := by
  have q := T.ok
  unfold errAll at q
  simp only [Bool.and_eq_true, decide_eq_true_eq, List.all_eq_true] at q
  exact q.1.2 c (List.mem_of_getElem? h)
theorem Errs.lt (T : Errs K mg) (h : T.cs[i]? = some c) : i < 7 := by
  have := (List.getElem?_eq_some_iff.mp h).1
  rw [T.len] at this
  exact this
theorem Errs.kit (T : Errs K mg) (h : T.cs[i]? = some c) (h' : T.cs[j]? = some d) : PySem.W.kitOne K (.ref c) (.ref d) = some (i == j) := by
  have q := T.ok
  unfold errAll kitB7 at q
  simp only [Bool.and_eq_true, List.all_eq_true, List.mem_range] at q
  have z := q.2 i (T.lt h) j (T.lt h')
  rw [h, h'] at z
  exact beq_iff_eq.mp z
theorem Errs.excC (T : Errs K mg) (h : T.cs[i]? = some c) : ExcC K c := by
  have q := T.one h
  unfold errB at q
  simp only [Bool.and_eq_true, beq_iff_eq] at q
  exact ⟨q.1.1.1.1.1.1.2, q.1.1.1.1.1.2, q.1.1.1.1.1.1.1.1.1.2, q.1.1.1.1.2, q.1.1.1.2, q.1.1.2, q.1.2, q.2⟩
theorem Errs.exm (T : Errs K mg) (h : T.cs[i]? = some c) : PySem.W.exmOne K (.ref c) (.ref T.S) = some true := by
  have q := T.one h
  unfold errB at q
  simp only [Bool.and_eq_true, beq_iff_eq] at q
  exact q.1.1.1.1.1.1.1.2
theorem Errs.exc (T : Errs K mg) (h : T.cs[i]? = some c) : PySem.W.excIn K c veL "ValueError.__new__" = true ∧ PySem.W.keepIn K (.ref c) = true ∧ PySem.W.subIn K (.ref c) (.type "BaseException") = some true ∧ PySem.W.typeIn K (.ref c) = some (.type "type") := by
  have q := T.one h
  unfold errB at q
  simp only [Bool.and_eq_true, beq_iff_eq] at q
  exact ⟨q.1.1.1.1.1.1.1.1.1.1.1, q.1.1.1.1.1.1.1.1.1.1.2, q.1.1.1.1.1.1.1.1.1.2, q.1.1.1.1.1.1.1.1.2⟩
end
/-- isinstance(e, c) where e is the pinned error of the class D -/
theorem call_isP {X : Cx} {a D : Addr} {oe : Obj} (hp : (a, oe) ∈ X.pn) (C : ExcC X.K D) (hz : Zc (.ref D) none oe) (hf : ∃ vs, oe.data = .fields vs) : CallR X (.builtin "isinstance") (rIsE X.K D a) := by
  intro pins s σ H xs us Q I r h
  obtain ⟨c, cv, b, rfl, hcv, e, q⟩ := h
  obtain ⟨u, v, rfl, rx, rt⟩ : ∃ u v, us = [u, v] ∧ RelV (.ref a) u ∧ RelV c v := by
    cases r with
    | cons rx rr =>
      cases rr with
      | cons rt rr =>
        cases rr
        exact ⟨_, _, rfl, rx, rt⟩
  cases rx
  rw [hcv _ rt]
  have gp := (I.pin (a, oe) (List.mem_append_left _ hp)).1
  have J : PySem.W.InstAt s.heap a oe D none := by
    obtain ⟨vs, hv⟩ := hf
    obtain ⟨oc, od, oda, osl⟩ := oe
    obtain ⟨h1, h2⟩ := hz
    dsimp only at h1 h2 hv
    subst h1 h2 hv
    exact ⟨gp, rfl, rfl, trivial⟩
  exact PySem.W.kia_one (PySem.W.handS_kitx_exc C.hg C.hk C.hs C.hd C.ha C.hn C.ht C.hm) I.kIn J e (fun z => nomatch z) fun tk => ⟨.bl b, H, I.kept (t' := tk) fun _ _ w => w, rfl, q⟩
/-- the same as an expression: both arguments are names -/
theorem pe_isP {X : Cx} {a D d : Addr} {oe : Obj} {b : Bool} {i : Nat} {x y : Str} {p q r pos : Pos} (hp : (a, oe) ∈ X.pn) (C : ExcC X.K D) (hz : Zc (.ref D) none oe) (hf : ∃ vs, oe.data = .fields vs) (hk : PySem.W.kitOne X.K (.ref D) (.ref d) = some b)
    (hx : PE X (.Name x q) (tVar i)) (hy : Gl X y) (hm : X.mg y = some (.ref d)) (hg : Gl X "isinstance") (hm2 : X.mg "isinstance" = none) (hd : (y == ("__debug__" : Str)) = false := by decide) :
    PE X (.Call (.Name "isinstance" p) [.Name x q, .Name y r] [] pos) (fun σ H Q => σ[i]? = some (some (.ref a)) ∧ Q (.bl b) H) := by
  have pc : PE X (.Name y r) (tC (.ref d)) := pe_glob (v := .ref d) hy hm rfl hd
  exact ⟨fun pins s σ H Q I h => (pe_callB (call_isP hp C hz hf) hg hm2 (by decide +kernel) (pa_cons hx (pa_cons pc pa_nil))).run pins s σ H Q I ⟨_, h.1, .ref d, .ref d, b, rfl, fun u e => e, hk, h.2⟩⟩
/-! ### a def that is called with what is handled -/
structure FnE (P : Program) (w : World) (K : PySem.W.Frag) (mg : Str → Option Value) (base : Heap) (k : Nat) (f : Addr) (sp : (Addr × Obj) → Hp → VK → Prop) : Prop where
  run : ∀ (A : Around) (outer : List Env) (s : Shared) (H : Hp) (Q : VK) (p : Addr × Obj), RoomH k A → Hot1 A p → PinOk outer H s p → Env0 P w K mg base A outer s H → sp p H Q →
    codeAny (model P w) A (.call (.ref f) ⟨[.ref p.1], []⟩) (CR CX0 outer P w H s Q E0) s
theorem fnE_of {P : Program} {w : World} {K : PySem.W.Frag} {mg : Str → Option Value} {base : Heap} {k : Nat} {f : Addr} {x qual : Str} {st : Stmt} {fd : FuncData} {N : List Str} {y : Str} {sp : (Addr × Obj) → Hp → VK → Prop} (F : Fun K x qual st f fd) (S : FnScope N [y] (defScope st)) (hb : Binds K fd [y] [])
    (hbody : ∀ (cdv : Value) (A : Around) (outer : List Env) (s : Shared) (H : Hp) (Q : VK) (p : Addr × Obj), Hot1 A p → RoomH k (A.deeper (envOfC qual (defScope st) s.heap.objs.size f cdv)) → sp p H Q →
      ∃ t, PSs (cxH CX0 P w K mg base N qual (defScope st) f cdv A outer s H E0 p) (defBody st) t ∧ t { nx := fun _ H' => Q .non H', rt := Q } (L2.start N [.ref p.1]) H) : FnE P w K mg base (k + 1) f sp := by
  obtain ⟨oc, od, kV, doc, pm, an, cdv, ct, osl, rfl, lk, hcd⟩ := F.ex
  refine ⟨fun A outer s H Q p hr hot hpin e0 hsp => ?_⟩
  have KX : K.In s.heap := e0.mod.kin.keeps fun b o e => (e0.bs b o e).1
  have nl : s.heap.NoLimit := e0.mod.nolimit.keeps fun b o e => (e0.bs b o e).1
  have rv : Vals [V.ref p.1] [Value.ref p.1] := .cons rfl .nil
  have kinds : ∀ q ∈ [y].zip [Value.ref p.1], (defScope st).names.lookup q.1 = some .local ∨ ((defScope st).names.lookup q.1 = some .cell ∧ ((cellsFrom (s.heap.objs.size + 1) (defScope st).names []).lookup q.1).isSome = true) := fun ⟨n, v⟩ hq =>
    (S.par n (List.of_mem_zip hq).1).elim .inl fun e => .inr ⟨e, PySem.W.cellsFrom_some _ _ _ (.inl e)⟩
  have bt := hb s [.ref p.1] KX rfl
  refine codeAny_call_function hr.depth (KX _ _ lk) rfl S.co S.gen rfl (PySem.W.codeRec_of KX hcd) (bt _ _ _ _ (wpAny_newFunctionEnv_cells S.kind kinds fun env he s1 x1 => ?_))
  subst he
  refine ⟨nl.keeps x1.toInCall.keep, codeAny_func ?_⟩
  obtain ⟨t, ht, hq⟩ := hbody cdv A outer s H Q p hot (hr.deeper _) hsp
  have I := inv_startH (CX := CX0) (P := P) (w := w) (E := E0) S hpin e0 rfl rv x1
  have done : ∀ {σ' : L2.St} {H' : Hp} {v : V} {u : Value} {s' : Shared}, Inv (cxH CX0 P w K mg base N qual (defScope st) f cdv A outer s H E0 p) [] σ' H' s' → RelV v u → Q v H' → CE outer P w H s Q u s' := fun {σ' H' v u s'} J r q => ⟨v, H', J.os, J.bare, J.base, J.hok, r, q⟩
  refine wpAny_mono (ht.run [] s1 _ H _ I hq) (fun fl s' hs => ?_) fun _ _ z => z
  cases fl with
  | next => exact let ⟨_, _, J, q⟩ := hs; done (v := V.non) (u := Value.none) J rfl q
  | ret u => exact let ⟨_, _, _, J, r, q⟩ := hs; done J r q
  | brk => exact let ⟨_, _, _, q⟩ := hs; q.elim
  | cont => exact let ⟨_, _, _, q⟩ := hs; q.elim
/-- f(e) in the suite that holds the error as e -/
theorem pe_callE {X : Cx} {k : Nat} {f : Addr} {p0 : Addr × Obj} {sp : (Addr × Obj) → Hp → VK → Prop} {x y : Str} {i : Nat} {p q pos : Pos} (F : FnE X.prog X.w X.K X.mg X.base k f sp) (hr : RoomH k X.A) (hot : Hot1 X.A p0) (hp : p0 ∈ X.pn) (hg : Gl X x) (hm : X.mg x = some (.ref f)) (hk : PySem.W.keepIn X.K (.ref f) = true)
    (hy : PE X (.Name y q) (tVar i)) (hdb : (x == ("__debug__" : Str)) = false := by decide) : PE X (.Call (.Name x p) [.Name y q] [] pos) (fun σ H Q => σ[i]? = some (some (.ref p0.1)) ∧ sp p0 H Q) := by
  refine ⟨fun pins s σ H Q I h => ?_⟩
  refine wpAny_Call_Name_kw (ld_glob I hg hm ?_ hdb)
  refine PySem.W.callWith_K (h₀ := X.base) I.ok.mod.kin hk (thn ((pa_cons hy pa_nil).run pos pins s σ H (fun vs H1 => vs = [V.ref p0.1] ∧ H1 = H) I ⟨_, h.1, rfl, rfl⟩) fun us s1 ⟨vs, H1, I1, r, ev, eH⟩ => ?_)
  subst ev eH
  refine ⟨I1.kIn, ?_⟩
  obtain rfl : us = [Value.ref p0.1] := by
    cases r with
    | cons ru rn =>
      cases rn
      cases ru
      rfl
  have P1 := I1.pin p0 (List.mem_append_left _ hp)
  have pin : PinOk X.stack H1 s1 p0 := ⟨P1.1, P1.2.1, fun hm => (List.mem_cons.mp (I1.stkSub p0.1 hm)).elim P1.2.2.1 P1.2.2.2.1, P1.2.2.2.2⟩
  refine wpAny_call (codeAny_mono (F.run X.A X.stack s1 H1 Q p0 hr hot pin I1.env0 h.2) fun r s' hq => ?_)
  cases r with
  | error e => exact hq.elim
  | ok fl =>
    cases fl with
    | ret u => exact I1.after hq
    | next => exact False.elim hq
    | brk => exact False.elim hq
    | cont => exact False.elim hq
end ZH

set_option maxHeartbeats 2000000
/-! ZH4: the name of a handled error: what the law's own def for it computes -/
namespace ZH
open PySem PySem.Spec PyProof.Rows L2 HotX L2H
def isr (a : Addr) (b : Bool) : TE := fun σ H Q => σ[0]? = some (some (.ref a)) ∧ Q (.bl b) H
def joinR (K : PySem.W.Frag) : V → List V → Hp → VK → Prop := fun x xs H Q => ∃ a p, ∃ ys : List Str, x = .str a ∧ xs = [.ref p] ∧ (SqL K H p (ys.map V.str) ∨ SqT K H p (ys.map V.str)) ∧
      (ys.map (·.length)).sum + ys.length * a.length ≤ 16777216 ∧ Q (.str (Txt.join a ys)) H
/-- the reading of that def's body: i, the error's class -/
def tLE (K : PySem.W.Frag) (a : Addr) (b0 b1 b2 b3 b4 b5 b6 : Bool) : TS :=
  tSeq (tAsg (tLst (tCons (isr a b0) (tCons (isr a b1) (tCons (isr a b2) tNil)))) (gName 1))
  (tSeq (tAsg (tOp rCat (tVar 1) (tLst (tCons (isr a b3) (tCons (isr a b4) (tCons (isr a b5) tNil))))) (gName 1))
  (tSeq (tAsg (tLst (tCons (tC (.str "InvalidPolicy")) (tCons (tC (.str "InvalidYear")) (tCons (tC (.str "InvalidMenu")) (tCons (tC (.str "InvalidScheme")) (tCons (tC (.str "InvalidNumber")) tNil)))))) (gName 2))
  (tSeq (tAsg (tOp rCat (tVar 2) (tLst (tCons (tC (.str "InvalidDamage")) (tCons (tC (.str "NothingToUndo")) tNil)))) (gName 2))
  (tRet (tM1 (joinR K) (tC (.str "")) (tLcZ K (tCons (tVar 2) (tCons (tOp rCat (tVar 1) (tLst (tCons (isr a b6) tNil))) tNil)) (gCons (gName 3) (gCons (gName 4) gNil)) (tB (tVar 4)) (tVar 3) [3, 4]))))))
def selB : List Str → List Bool → List Str
  | w :: ws, true :: bs => w :: selB ws bs
  | _ :: ws, false :: bs => selB ws bs
  | _, _ => []
theorem selB_take : ∀ (ws : List Str) (bs : List Bool) (i : Nat) (w : Str) (b : Bool), ws[i]? = some w → bs[i]? = some b → selB (ws.take (i + 1)) (bs.take (i + 1)) = selB (ws.take i) (bs.take i) ++ (if b then [w] else [])
  | [], _, _, _, _, h, _ => by simp at h
  | _ :: _, [], _, _, _, _, h => by simp at h
  | w :: ws, b :: bs, 0, w', b', h, h' => by
    simp at h h'
    subst h h'
    cases b <;> simp [selB]
  | w :: ws, b :: bs, i + 1, w', b', h, h' => by
    have ih := selB_take ws bs i w' b' (by simpa using h) (by simpa using h')
    rw [List.take_succ_cons, List.take_succ_cons, List.take_succ_cons, List.take_succ_cons]
    cases b with
    | true => simp only [selB, ih, List.cons_append]
    | false => simp only [selB, ih]
def wN : List Str := ["InvalidPolicy", "InvalidYear", "InvalidMenu", "InvalidScheme", "InvalidNumber", "InvalidDamage", "NothingToUndo"]
theorem le_read {K : PySem.W.Frag} {a : Addr} {b0 b1 b2 b3 b4 b5 b6 : Bool} {H : Hp} {D : Ends} {r : Str} (hr : Txt.join "" (selB wN [b0, b1, b2, b3, b4, b5, b6]) = r) (h : ∀ H', Same H H' → D.rt (.str r) H') :
    tLE K a b0 b1 b2 b3 b4 b5 b6 D [some (.ref a), none, none, none, none] H := by
  have sz : ∀ n : Nat, n ≤ 1000 → n ≤ sizeLine := fun n hn => by
    rw [sizeLine_eq]
    omega
  refine ⟨rfl, rfl, rfl, sz 3 (by omega), fun p1 n1 => ?_⟩
  refine ⟨_, rfl, rfl, rfl, rfl, sz 3 (by omega), fun p2 n2 => ⟨_, _, _, _, rfl, rfl, (upd_ne (ne_of_none upd_same n2)).trans upd_same, upd_same, sz 6 (by omega), fun p3 n3 => ?_⟩⟩
  generalize hG3 : upd (upd (upd H p1 _) p2 _) p3 _ = G3
  have e3 : G3 p3 = some (.lst ([b0, b1, b2, b3, b4, b5].map V.bl)) := by
    rw [← hG3]
    exact upd_same
  have s3 : Same H G3 := fun b u e => by
    have m1 := ne_of_none e n1
    have e1 : upd H p1 (.lst [V.bl b0, .bl b1, .bl b2]) b = some u := (upd_ne m1).trans e
    have m2 := ne_of_none e1 n2
    have e2 := (upd_ne (o := .lst [V.bl b3, .bl b4, .bl b5]) m2).trans e1
    rw [← hG3]
    exact (upd_ne (ne_of_none e2 n3)).trans e2
  clear hG3 n3
  refine ⟨sz 5 (by omega), fun p4 n4 => ?_⟩
  refine ⟨_, rfl, sz 2 (by omega), fun p5 n5 => ⟨_, _, _, _, rfl, rfl, (upd_ne (ne_of_none upd_same n5)).trans upd_same, upd_same, sz 7 (by omega), fun p6 n6 => ?_⟩⟩
  generalize hG6 : upd (upd (upd G3 p4 _) p5 _) p6 _ = G6
  have e6 : G6 p6 = some (.lst (wN.map V.str)) := by
    rw [← hG6]
    exact upd_same
  have s6 : Same G3 G6 := fun b u e => by
    have m4 := ne_of_none e n4
    have e4 : upd G3 p4 (.lst [V.str "InvalidPolicy", .str "InvalidYear", .str "InvalidMenu", .str "InvalidScheme", .str "InvalidNumber"]) b = some u := (upd_ne m4).trans e
    have m5 := ne_of_none e4 n5
    have e5 := (upd_ne (o := .lst [V.str "InvalidDamage", .str "NothingToUndo"]) m5).trans e4
    rw [← hG6]
    exact (upd_ne (ne_of_none e5 n6)).trans e5
  clear hG6 n6
  have e36 := s6 _ _ e3
  refine ⟨⟨_, rfl⟩, _, rfl, _, rfl, rfl, sz 1 (by omega), fun p7 n7 => ⟨_, _, _, _, rfl, rfl, (upd_ne (ne_of_none e36 n7)).trans e36, upd_same, sz 7 (by omega), fun p8 n8 => ?_⟩⟩
  generalize hG8 : upd (upd G6 p7 _) p8 _ = G8
  have e8 : G8 p8 = some (.lst ([b0, b1, b2, b3, b4, b5, b6].map V.bl)) := by
    rw [← hG8]
    exact upd_same
  have s8 : Same G6 G8 := fun b u e => by
    have m7 := ne_of_none e n7
    have e7 : upd G6 p7 (.lst [V.bl b6]) b = some u := (upd_ne m7).trans e
    rw [← hG8]
    exact (upd_ne (ne_of_none e7 n8)).trans e7
  clear hG8 n8
  have s0 : Same H G8 := s3.trans (s6.trans s8)
  have w8 := s8 _ _ e6
  refine ⟨p6, p8, wN.map V.str, [b0, b1, b2, b3, b4, b5, b6].map V.bl, rfl, .inl (.inl w8), .inl (.inl e8), rfl, fun L nL => ?_⟩
  have kL : Same G8 (upd G8 L (.lst [])) := fun b u e => (upd_ne (ne_of_none e nL)).trans e
  refine ⟨fun i H' => (∀ b u, G8 b = some u → H' b = some u) ∧ H' L = some (.lst ((selB (wN.take i) ([b0, b1, b2, b3, b4, b5, b6].take i)).map V.str)), ⟨kL, upd_same⟩, fun i H' hw => ⟨.inl (.inl (hw.1 _ _ w8)), .inl (.inl (hw.1 _ _ e8))⟩, fun H' hw => ?_, ?_⟩
  · have full : selB (wN.take (wN.map V.str).length) ([b0, b1, b2, b3, b4, b5, b6].take (wN.map V.str).length) = selB wN [b0, b1, b2, b3, b4, b5, b6] := rfl
    obtain ⟨h1, h2⟩ := hw
    rw [full] at h2
    refine ⟨"", L, selB wN [b0, b1, b2, b3, b4, b5, b6], rfl, rfl, .inl (.inl (.inl h2)), ?_, ?_⟩
    · clear hr h2 h1 e8 w8 s8 e36 s6 e6 s3 e3 h
      cases b0 <;> cases b1 <;> cases b2 <;> cases b3 <;> cases b4 <;> cases b5 <;> cases b6 <;> decide
    · rw [hr]
      exact h H' fun b u e => h1 b u (s0 b u e)
  · intro i x y H' T hw hx hy nT
    obtain ⟨h1, h2⟩ := hw
    rw [List.getElem?_map] at hx hy
    cases ew : wN[i]? with
    | none =>
      rw [ew] at hx
      cases hx
    | some w =>
      rw [ew] at hx
      cases hx
      cases eb : [b0, b1, b2, b3, b4, b5, b6][i]? with
      | none =>
        rw [eb] at hy
        cases hy
      | some b =>
        rw [eb] at hy
        cases hy
        have st := selB_take wN [b0, b1, b2, b3, b4, b5, b6] i w b ew eb
        have neL : L ≠ T := ne_of_none h2 nT
        refine ⟨_, _, rfl, _, _, rfl, rfl, rfl, _, rfl, b, rfl, ?_⟩
        cases b with
        | true =>
          simp only [if_true] at st ⊢
          refine ⟨_, rfl, _, (upd_ne neL).trans h2, ?_, fun c u e => ?_, ?_⟩
          · rw [List.length_map]
            have : ∀ (l : List Str) (m : List Bool), (selB l m).length ≤ l.length := by
              intro l
              induction l with
              | nil => intro m; cases m <;> simp [selB]
              | cons a l ih =>
                intro m
                cases m with
                | nil => simp [selB]
                | cons c m =>
                  cases c <;> simp only [selB, List.length_cons] <;> have := ih m <;> omega
            have q1 := this (wN.take i) ([b0, b1, b2, b3, b4, b5, b6].take i)
            have q2 : (wN.take i).length ≤ 7 := by
              rw [List.length_take]
              exact Nat.min_le_right _ _
            rw [sizeLine_eq]
            omega
          · have ce := h1 c u e
            have cL : c ≠ L := ne_of_none e nL
            rw [upd_ne cL, upd_ne (ne_of_none ce nT)]
            exact ce
          · rw [upd_same, st, List.map_append]
            rfl
        | false =>
          simp only [Bool.false_eq_true, if_false] at st ⊢
          refine ⟨fun c u e => ?_, ?_⟩
          · have ce := h1 c u e
            rw [upd_ne (ne_of_none ce nT)]
            exact ce
          · rw [upd_ne neL, h2, st, List.append_nil]
end ZH

set_option maxHeartbeats 2000000
/-! ZL1: a lambda called by the def that got it, what it raises has no context; the law's own def for outcomes -/
namespace ZH
open PySem PySem.Spec PyProof.Rows L2 HotX L2H LamX
/-- the context of a lambda's body: what it raises -/
def lamN (X : Cx) (A : Around) (outer : List Env) (s : Shared) (H : Hp) (E : XK) (scope : Scope) (f c' : Addr) : Cx :=
  (lamCx X A outer s H E scope f c').wish fun e s' => wpAny (model X.prog X.w) (A.deeper (lamEnv X scope s.heap.objs.size f c')) (leaving (lamEnv X scope s.heap.objs.size f c') e) (fun _ s'' => L2N.CX X.prog X.w outer H s E e s'') (fun e' s'' => L2N.CX X.prog X.w outer H s E e' s'') s'
theorem lamN_takes {X : Cx} {A : Around} {outer : List Env} {s : Shared} {H : Hp} {E : XK} {scope : Scope} {f c' : Addr} : L2N.Takes (lamN X A outer s H E scope f c') (fun cls d _ H => E cls d H) := L2N.takes_of rfl rfl rfl rfl
section
variable {X : Cx} {pins : List (Addr × Obj)} {σ : L2.St} {H : Hp} {s : Shared}
/-- a() in the def g that got the lambda as a: X is the maker's context, at s; g was entered at s0, later than s -/
theorem pe_actN {CXg : CXT} {Eg : XK} {Ng : List Str} {qg : Str} {sg : Scope} {g f c' : Addr} {cdg pm ctv : Value} {params : Arguments} {body : Expr} {scope : Scope} {k i : Nat} {a : Str} {pn : List (Addr × Obj)} {xe : Value → Shared → Prop} {W : WX} {tb : XK → TE} {p1 p2 : Pos} {A0 : Around} {o0 : List Env} {s0 : Shared} {H0 : Hp}
    (I : Inv X pins σ H s) (L : LamS X.env.scope scope) (of : s.heap.get? f = some (PySem.W.kla_obj "<lambda>" (X.env.qual ++ "<lambda>") params body scope (cloFrom X.env.cells scope.names []) pm c' ctv)) (nf : H f = none) (ff : f ∉ frs X.stack)
    (hb : bindArgs (PySem.W.kla_fn "<lambda>" (X.env.qual ++ "<lambda>") params body scope (cloFrom X.env.cells scope.names []) pm (.ref c') ctv) ⟨[], []⟩ = pure [])
    (tk : L2N.Takes ((cxOf CXg X.prog X.w X.K X.mg X.base Ng qg sg g cdg A0 o0 s0 H0 Eg).tr pn xe) W) (hr : Room (k + 1) (A0.deeper (envOfC qg sg s0.heap.objs.size g cdg)))
    (hun : ∀ (pinsZ : List (Addr × Obj)) (σZ : L2.St) (HZ : Hp) (sZ : Shared), Inv ((cxOf CXg X.prog X.w X.K X.mg X.base Ng qg sg g cdg A0 o0 s0 H0 Eg).tr pn xe) pinsZ σZ HZ sZ → Un (frs X.stack) [] H HZ s.heap sZ.heap)
    (hbody : ∀ (A : Around) (outer : List Env) (s : Shared) (H : Hp) (E : XK), Room k (A.deeper (lamEnv X scope s.heap.objs.size f c')) → PE (lamN X A outer s H E scope f c') body (tb E))
    (hN : Ng[i]? = some a) (hv : Vis sg a) (hd : (a == ("__debug__" : Str)) = false := by decide) (hcd : (a == ("__classdict__" : Str)) = false := by decide) :
    PE ((cxOf CXg X.prog X.w X.K X.mg X.base Ng qg sg g cdg A0 o0 s0 H0 Eg).tr pn xe) (.Call (.Name a p1) [] [] p2)
      (fun σZ HZ Q => σZ[i]? = some (some (.ref f)) ∧ HZ c' = some (CodeO c' (X.env.qual ++ "<lambda>")) ∧ ∃ E : XK, (∀ cls d H', E cls d H' → W cls d σZ H') ∧ tb E σ HZ Q) := by
  refine ⟨fun pinsZ sZ σZ HZ Q IZ ⟨q1, q2, E, q3, q4⟩ => ?_⟩
  refine wpAny_Call_Name_kw (thn ((pe_var (pos := p1) (i := i) hN hv hd hcd).run pinsZ sZ σZ HZ (fun v H1 => v = .ref f ∧ H1 = HZ) IZ ⟨.ref f, q1, rfl, rfl⟩) fun u s1 ⟨v, H1, I1, r1, ev, eH⟩ => ?_)
  subst ev eH
  obtain rfl : u = Value.ref f := r1
  have un := hun pinsZ σZ H1 s1 I1
  have fs1 := un.keep f _ of nf ff (fun z => nomatch (show f ∈ ([] : List Addr) from z))
  refine PySem.W.callWith_F0 ⟨_, _, _, _, fs1⟩ ?_
  obtain ⟨⟨oc, vs, t, hoc, hdc, hvc⟩, _, _⟩ := I1.hok c' _ q2
  have run : codeAny (model X.prog X.w) (A0.deeper (envOfC qg sg s0.heap.objs.size g cdg)) (.call (.ref f) ⟨[], []⟩) (CR (L2N.CX X.prog X.w) (envOfC qg sg s0.heap.objs.size g cdg :: o0) X.prog X.w H1 s1 Q E) s1 := by
    refine PySem.W.kla_callFunE hr.depth fs1 rfl L.co L.gen rfl ⟨c', oc, vs, t, rfl, hoc, hdc, hvc⟩ ?_
    rw [hb]
    refine wpAny_pure (wpAny_newFunctionEnv (fun y hy => (L.own y hy).2) (fun y hy => absurd hy (by simp)) (fun h1 hns hsb => ⟨I1.nolimit.fresh _ hsb, ?_⟩) L.kind)
    show codeAny _ _ (.expr body (lamEnv X scope s1.heap.objs.size f c')) _ _
    have kp : ∀ b o, s1.heap.get? b = some o → h1.get? b = some o := fun b o e => hsb.extBut b o (Nat.ne_of_lt (Heap.lt_size e)) (Heap.get?_push_of_some _ e)
    have J := (lam_start2 (E := E) (c' := c') (f := f) (tk := s1.toks + ([] : List (Str × Value)).length) I L I1.env0 hr.hd un hns kp).wish fun e s' => wpAny (model X.prog X.w) ((A0.deeper (envOfC qg sg s0.heap.objs.size g cdg)).deeper (lamEnv X scope s1.heap.objs.size f c')) (leaving (lamEnv X scope s1.heap.objs.size f c') e)
      (fun _ s'' => L2N.CX X.prog X.w (envOfC qg sg s0.heap.objs.size g cdg :: o0) H1 s1 E e s'') (fun e' s'' => L2N.CX X.prog X.w (envOfC qg sg s0.heap.objs.size g cdg :: o0) H1 s1 E e' s'') s'
    refine PySem.W.kla_codeExpr (wpAny_mono ((hbody _ _ s1 H1 E (hr.deeper _)).run [] _ _ H1 Q J q4) (fun v s' hq => ?_) fun e s' hq => hq)
    obtain ⟨w', H', J', rv, q⟩ := hq
    exact ⟨w', H', J'.os, J'.bare, J'.base, J'.hok, rv, q⟩
  refine wpAny_call (codeAny_mono run fun r s' hq => ?_)
  cases r with
  | error e => exact tk _ _ (L2N.XE.of_call I1 q3 hq)
  | ok fl =>
    cases fl with
    | ret u => exact I1.after hq
    | next => exact False.elim hq
    | brk => exact False.elim hq
    | cont => exact False.elim hq
end
/-! ### the law's own def: what a call returns, or the name of its error -/
/-- the def's text -/
structure OutTxt (sg : Scope) (bg : List Stmt) : Prop where
  sc : FnScope ["call", "found", "e"] ["call"] sg
  g1 : sg.names.lookup ("ShareError" : Str) = some .globalImplicit
  g2 : sg.names.lookup ("_law_error" : Str) = some .globalImplicit
  l0 : sg.names.lookup ("call" : Str) = some .local
  l1 : sg.names.lookup ("found" : Str) = some .local
  l2 : sg.names.lookup ("e" : Str) = some .local
  bd : ∃ (q1 q2 q3 q4 q5 q6 q7 q8 q9 q10 q11 q12 q13 q14 q15 q16 q17 q18 q19 q20 q21 : Pos) (j1 j2 n1 n2 n3 : Nat), bg = [.Assign [.Name "found" q1] (.Tuple [.Constant (.str "nothing") j1 q2] n1 q3) q4,
    .Try [.Assign [.Name "found" q5] (.Tuple [.Constant (.str "value") j2 q6, .Call (.Name "call" q7) [] [] q8] n2 q9) q10] [.ExceptHandler (some (.Name "ShareError" q11)) (some "e") [.Assign [.Name "found" q12] (.Tuple [.Call (.Name "_law_error" q13) [.Name "e" q14] [] q15] n3 q16) q17] q18] [] [] q19,
    .Return (some (.Name "found" q20)) q21]
/-- what is wanted of an error, of a value -/
def outE {K : PySem.W.Frag} {mg : Str → Option Value} (T : Errs K mg) (Q : VK) : XK := fun cls d H' => ∃ (i : Nat) (c : Addr) (n : Str), T.cs[i]? = some c ∧ errN[i]? = some n ∧ cls = .ref c ∧ d = none ∧ ∀ H'' p, Same H' H'' → H'' p = none → Q (.ref p) (upd H'' p (.tup [.str n]))
def outV (Q : VK) : VK := fun v H' => ∀ p, H' p = none → Q (.ref p) (upd H' p (.tup [.str "value", v]))
/-- the handled error's name -/
def spErr {K : PySem.W.Frag} {mg : Str → Option Value} (T : Errs K mg) : (Addr × Obj) → Hp → VK → Prop := fun p H Q => ∃ (i : Nat) (c : Addr) (n : Str), T.cs[i]? = some c ∧ errN[i]? = some n ∧ Zc (.ref c) none p.2 ∧ ∀ H', Same H H' → Q (.str n) H'
theorem takesN0 {X : Cx} : L2N.Takes X (fun _ _ _ _ => False) := fun _ _ x => by
  obtain ⟨_, _, _, _, _, _, _, _, _, _, _, _, _, _, _, _, z⟩ := x
  exact z.elim
section
variable {X : Cx} {K : PySem.W.Frag} {mg : Str → Option Value}
theorem out_body {P : Program} {w : World} {base : Heap} {sg : Scope} {bg : List Stmt} {qg : Str} {g fe : Addr} {cdg : Value} {ke : Nat} {A0 : Around} {o0 : List Env} {s0 : Shared} {H0 : Hp} {f c' : Addr} {q : Str} {Q : VK} {tl : XK → Hp → VK → Prop} (B : OutTxt sg bg) (T : Errs K mg) (FE : FnE P w K mg base ke fe (spErr T)) (ge : mg "_law_error" = some (.ref fe)) (ke' : PySem.W.keepIn K (.ref fe) = true)
    (hr : Room ke (A0.deeper (envOfC qg sg s0.heap.objs.size g cdg)))
    (act : ∀ (W : WX) (pn : List (Addr × Obj)) (xe : Value → Shared → Prop) (p1 p2 : Pos), L2N.Takes ((cxOf L2.CX0 P w K mg base ["call", "found", "e"] qg sg g cdg A0 o0 s0 H0 L2.E0).tr pn xe) W →
      PE ((cxOf L2.CX0 P w K mg base ["call", "found", "e"] qg sg g cdg A0 o0 s0 H0 L2.E0).tr pn xe) (.Call (.Name "call" p1) [] [] p2) (fun σZ HZ Q => σZ[0]? = some (some (.ref f)) ∧ HZ c' = some (CodeO c' q) ∧ ∃ E : XK, (∀ cls d H', E cls d H' → W cls d σZ H') ∧ tl E HZ Q))
    (hc : H0 c' = some (CodeO c' q)) (h : ∀ p, H0 p = none → tl (outE T Q) (upd H0 p (.tup [.str "nothing"])) (outV Q)) :
    ∃ t, PSs (cxOf L2.CX0 P w K mg base ["call", "found", "e"] qg sg g cdg A0 o0 s0 H0 L2.E0).nox bg t ∧ t { nx := fun _ H' => Q .non H', rt := Q } (L2.start ["call", "found", "e"] [.ref f]) H0 := by
  obtain ⟨q1, q2, q3, q4, q5, q6, q7, q8, q9, q10, q11, q12, q13, q14, q15, q16, q17, q18, q19, q20, q21, j1, j2, n1, n2, n3, rfl⟩ := B.bd
  have nd := B.sc.nd
  have gS : Gl (cxOf L2.CX0 P w K mg base ["call", "found", "e"] qg sg g cdg A0 o0 s0 H0 L2.E0).nox "ShareError" := B.g1
  refine ⟨_, pss_cons (ps_set (i := 1) nd rfl (.inl B.l1) (pe_tup (pa_cons pe_str pa_nil)) rfl (.inr B.l1)) (pss_cons (L2N.ps_try_as (X := (cxOf L2.CX0 P w K mg base ["call", "found", "e"] qg sg g cdg A0 o0 s0 H0 L2.E0).nox) (i := 2) (c := .ref T.S)
    (tb := fun W D σ H => tAsg (tTup (tCons (tC (.str "value")) (tCons (fun σZ HZ Q => σZ[0]? = some (some (.ref f)) ∧ HZ c' = some (CodeO c' q) ∧ ∃ E : XK, (∀ cls d H', E cls d H' → W cls d σZ H') ∧ tl E HZ Q) tNil))) (gName 1) D σ H)
    (ts := fun a cls d => tAsg (tTup (tCons (fun σ H Q => σ[2]? = some (some (.ref a)) ∧ ∃ (i : Nat) (c : Addr) (n : Str), T.cs[i]? = some c ∧ errN[i]? = some n ∧ cls = .ref c ∧ d = none ∧ ∀ H', Same H H' → Q (.str n) H') tNil)) (gName 1))
    rfl rfl nd rfl B.l2 ⟨gS, by decide, .inl T.gS⟩ takesN0 (fun W pn xe tk _ => ?_) (fun a oe cls d pn hz hf => ?_)) (pss_one (ps_ret (pe_var (i := 1) rfl (.inl B.l1))))), ?_⟩
  · exact pss_one (ps_set (i := 1) nd rfl (.inl B.l1) (pe_tup (pa_cons pe_str (pa_cons (act W pn xe q7 q8 tk) pa_nil))) rfl (.inr B.l1))
  · refine pss_one (ps_set (i := 1) nd rfl (.inl B.l1) (pe_tup (pa_cons ⟨fun pins s σ H Q I hq => ?_⟩ pa_nil)) rfl (.inr B.l1))
    obtain ⟨k1, i, c, n, k2, k3, k4, k5, k6⟩ := hq
    subst k4 k5
    have gL : Gl ((cxOf L2.CX0 P w K mg base ["call", "found", "e"] qg sg g cdg A0 o0 s0 H0 L2.E0).nox.suite a ((a, oe) :: pn)) "_law_error" := B.g2
    obtain ⟨vs, hv⟩ := hf
    have hot : Hot1 ((cxOf L2.CX0 P w K mg base ["call", "found", "e"] qg sg g cdg A0 o0 s0 H0 L2.E0).nox.suite a ((a, oe) :: pn)).A (a, oe) := ⟨rfl, vs, hv, hz.2.2 vs hv⟩
    have rh : RoomH ke ((cxOf L2.CX0 P w K mg base ["call", "found", "e"] qg sg g cdg A0 o0 s0 H0 L2.E0).nox.suite a ((a, oe) :: pn)).A := ⟨hr.dp, hr.un⟩
    exact (pe_callE (X := (cxOf L2.CX0 P w K mg base ["call", "found", "e"] qg sg g cdg A0 o0 s0 H0 L2.E0).nox.suite a ((a, oe) :: pn)) (p0 := (a, oe)) FE rh hot List.mem_cons_self gL ge ke' (pe_var (i := 2) rfl (.inl B.l2))).run pins s σ H Q I ⟨k1, i, c, n, k2, k3, hz.zc, k6⟩
  · have one : ∀ n : Nat, n ≤ 5 → n ≤ sizeLine := fun n hn => by
      rw [sizeLine_eq]
      omega
    refine ⟨one 1 (by omega), fun p hp => ?_⟩
    refine ⟨rfl, (upd_ne (ne_of_none hc hp)).trans hc, outE T Q, fun cls d H' hE => ?_, ?_⟩
    · obtain ⟨i, c, n, k1, k2, k3, k4, k5⟩ := hE
      subst k3 k4
      refine ⟨true, T.exm k1, fun _ a ha => ⟨rfl, i, c, n, k1, k2, rfl, rfl, fun H2 s2 => ⟨one 1 (by omega), fun p2 hp2 => ⟨_, rfl, k5 H2 p2 s2 hp2⟩⟩⟩, fun z => Bool.noConfusion z⟩
    · have hh := h p hp
      have e : outV Q = fun v H' => (tNil (L2.start ["call", "found", "e"] [.ref f]) H' fun xs H2 => [V.str "value", v].length ≤ sizeLine ∧ ∀ p, H2 p = none → Q (.ref p) (upd H2 p (.tup [V.str "value", v]))) := by
        funext v H'
        exact propext ⟨fun z => ⟨one 2 (by omega), z⟩, fun z => z.2⟩
      rw [e] at hh
      refine cast ?_ hh
      congr 1
      funext v H'
      refine propext ⟨fun z => ⟨z.1, fun p hp => ⟨_, rfl, z.2 p hp⟩⟩, fun z => ⟨z.1, fun p hp => ?_⟩⟩
      obtain ⟨v', e1, e2⟩ := z.2 p hp
      cases e1
      exact e2
end
/-- all but the table at P stays -/
structure ExtP (P : Addr) (H H' : Hp) : Prop where
  keep : ∀ b o, b ≠ P → H b = some o → H' b = some o
  tbl : ∃ ps, H' P = some (.tbl ps)
/-- a lambda is made: what becomes of the tracked heap -/
theorem lam_make3 {X : Cx} {pins : List (Addr × Obj)} {σ : L2.St} {H : Hp} {s : Shared} {Tb : List (Addr × Str)} {c P : Addr} {params : Arguments} {body : Expr} {scope : Scope} {pos : Pos} {E Q : Value → Shared → Prop} (I : Inv X pins σ H s) (B : TabB X.base X.mg c P) (hcd : X.env.code = .ref c)
    (hm : (P, X.env.qual ++ "<lambda>") ∈ Tb) (hu : ∀ p ∈ Tb, p.1 = P → p.2 = X.env.qual ++ "<lambda>") (hT : Tabs Tb H) (hdf : defaultsOf params X.env = ([], [])) (hfr : ∀ y ∈ scope.names, y.2 = .free → ∃ c, X.env.cells.lookup y.1 = some c)
    (h : ∀ (f c' : Addr) (pm ctv : Value) (H1 : Hp) (s' : Shared), Inv X pins σ H1 s' → ExtP P H H1 → Tabs Tb H1 →
      s'.heap.get? f = some (PySem.W.kla_obj "<lambda>" (X.env.qual ++ "<lambda>") params body scope (cloFrom X.env.cells scope.names []) pm c' ctv) → H1 f = none → f ∉ frs X.stack → H1 c' = some (CodeO c' (X.env.qual ++ "<lambda>")) → s.heap.objs.size ≤ f → Q (.ref f) s') :
    wpAny (model X.prog X.w) X.A (eval (.Lambda params body scope pos) X.env) Q E s := by
  obtain ⟨ps, hP, tr, al⟩ := hT _ hm
  refine PySem.W.kla_eval hdf ?_
  have bi : s.heap.BuiltinsAt X.mg P := B.bm.keeps I.bk
  have oP : s.heap.get? P = some { cls := .none, data := .fields ps } := I.hok P _ hP
  have young : ∀ f, s.heap.objs.size ≤ f → f ∉ frs X.stack := fun f hf z => (List.mem_cons.mp (I.stkSub _ z)).elim (fun e => Nat.lt_irrefl _ (Nat.lt_of_lt_of_le (e ▸ I.lt) hf)) fun e => I.nofs hf e
  cases hc : codeAmong pos ps.toList with
  | some cv =>
    obtain ⟨c', rfl, co⟩ := al pos cv hc
    refine PySem.W.kla_makeFunctionHit (mg := X.mg) (c := c) (P := P) (ps := ps) (closure_ok hfr) I.ok.glob (I.mod.glob.keeps I.bk) hcd (B.code.keeps I.bk) oP tr hc bi fun ctv h' tk hx hsz => ?_
    exact h h'.objs.size c' ((X.mg "__name__").getD .none) ctv H _ (I.kept (t' := tk) fun b o e => Heap.get?_push_of_some _ (hx b o e)) ⟨fun _ _ _ e => e, ps, hP⟩ hT (Heap.get?_push_size _ rfl) (I.hok.fresh hsz) (young _ hsz) co hsz
  | none =>
    refine PySem.W.kla_makeFunction (mg := X.mg) (c := c) (P := P) (ps := ps) (closure_ok hfr) I.ok.glob (I.mod.glob.keeps I.bk) hcd (B.code.keeps I.bk) oP tr hc B.gP bi fun c' ctv h' tk hx hge hlt hrec htb => ?_
    obtain ⟨c2, oc, vs, t, ec2, hoc, hd, hv⟩ := hrec
    cases ec2
    have big : s.heap.objs.size ≤ h'.objs.size := Nat.le_trans hge (Nat.le_of_lt hlt)
    have nC : H c' = none := I.hok.fresh hge
    have J := inv_table (t' := tk) (more := #[rawInt pos.line, rawInt pos.col, .ref c']) (h' := h'.push (PySem.W.kla_obj "<lambda>" (X.env.qual ++ "<lambda>") params body scope (cloFrom X.env.cells scope.names []) ((X.mg "__name__").getD .none) c' ctv)) I hP
      (fun b o hb e => Heap.get?_push_of_some _ (hx b o hb e)) (Heap.get?_push_of_some _ htb) hge ⟨oc, vs, t, Heap.get?_push_of_some _ hoc, hd, hv⟩
    have kp : ∀ b o, b ≠ P → H b = some o → upd (upd H P (.tbl (ps ++ #[rawInt pos.line, rawInt pos.col, .ref c']))) c' (CodeO c' (X.env.qual ++ "<lambda>")) b = some o := fun b o nb e => by
      rw [upd_ne (ne_of_none e nC), upd_ne nb]
      exact e
    have pc : P ≠ c' := ne_of_none hP nC
    have el : (ps ++ #[rawInt pos.line, rawInt pos.col, .ref c']).toList = ps.toList ++ [rawInt pos.line, rawInt pos.col, .ref c'] := by simp
    refine h h'.objs.size c' ((X.mg "__name__").getD .none) ctv _ _ J ⟨kp, _, by rw [upd_ne pc, upd_same]⟩ (fun p hp => ?_) (Heap.get?_push_size _ rfl) ?_ (young _ big) upd_same big
    · by_cases hb : p.1 = P
      · rw [hu p hp hb, hb]
        refine ⟨_, by rw [upd_ne pc, upd_same], by rw [el]; exact PySem.TriplesOk_snoc _ _ _ _ tr, fun p' cv hcv => ?_⟩
        rw [el] at hcv
        rcases among_app _ tr hcv with w | w
        · obtain ⟨c0, e1, e2⟩ := al p' cv w
          exact ⟨c0, e1, kp _ _ (fun z => codeO_ne ps (Option.some.inj (e2.symm.trans (z ▸ hP)))) e2⟩
        · exact ⟨c', w, upd_same⟩
      · obtain ⟨ps', a1, a2, a3⟩ := hT p hp
        refine ⟨ps', kp _ _ hb a1, a2, fun p' cv hcv => ?_⟩
        obtain ⟨c0, e1, e2⟩ := a3 p' cv hcv
        exact ⟨c0, e1, kp _ _ (fun z => codeO_ne ps (Option.some.inj (e2.symm.trans (z ▸ hP)))) e2⟩
    · have n1 : h'.objs.size ≠ c' := Nat.ne_of_gt hlt
      have n2 : h'.objs.size ≠ P := Nat.ne_of_gt (Nat.lt_of_lt_of_le (Heap.lt_size oP) big)
      rw [upd_ne n1, upd_ne n2]
      exact I.hok.fresh big
/-- _law_outcome(lambda: body) -/
def tOutc {K : PySem.W.Frag} {mg : Str → Option Value} (T : Errs K mg) (Tb : List (Addr × Str)) (P : Addr) (t : XK → TE) : TE := fun σ H Q => Tabs Tb H ∧ ∀ H1, ExtP P H H1 → Tabs Tb H1 → t (outE T Q) σ H1 (outV Q)
section
variable {X : Cx}
theorem pe_outcome {st : Stmt} {g fe c P : Addr} {fd : FuncData} {k ke : Nat} {Tb : List (Addr × Str)} {T : Errs X.K X.mg} {params : Arguments} {body : Expr} {scope : Scope} {t : XK → TE} {p lpos pos : Pos} (hg : Gl X "_law_outcome") (hm : X.mg "_law_outcome" = some (.ref g)) (hk : PySem.W.keepIn X.K (.ref g) = true)
    (F : Fun X.K "_law_outcome" "_law_outcome" st g fd) (hb : L2.Binds X.K fd ["call"] []) (B : OutTxt (defScope st) (defBody st)) (FE : FnE X.prog X.w X.K X.mg X.base ke fe (spErr T)) (ge : X.mg "_law_error" = some (.ref fe)) (ke' : PySem.W.keepIn X.K (.ref fe) = true) (le : ke ≤ k + 1)
    (TB : TabB X.base X.mg c P) (hcode : X.env.code = .ref c) (hmT : (P, X.env.qual ++ "<lambda>") ∈ Tb) (hu : ∀ p ∈ Tb, p.1 = P → p.2 = X.env.qual ++ "<lambda>") (hr : Room (k + 2) X.A) (L : LamS X.env.scope scope) (hdef : defaultsOf params X.env = ([], []))
    (hbind : ∀ (q : Str) (cl : List (Str × Addr)) (pm cv ctv : Value), bindArgs (PySem.W.kla_fn "<lambda>" q params body scope cl pm cv ctv) ⟨[], []⟩ = pure [])
    (hbody : ∀ (A : Around) (outer : List Env) (s : Shared) (H : Hp) (E : XK) (f c' : Addr), Room k (A.deeper (lamEnv X scope s.heap.objs.size f c')) → PE (lamN X A outer s H E scope f c') body (t E)) :
    PE X (.Call (.Name "_law_outcome" p) [.Lambda params body scope lpos] [] pos) (tOutc T Tb P t) := by
  obtain ⟨oc, od, kV, doc, pm, an, cdv, ct, osl, rfl, lk, hcg⟩ := F.ex
  refine ⟨fun pins s σ H Q I ⟨hT, h⟩ => ?_⟩
  refine wpAny_Call_Name_kw (ld_glob I hg hm (PySem.W.callWith_K (h₀ := X.base) I.ok.mod.kin hk ?_ (by rfl) (by rfl)) (by decide))
  show wpAny _ _ (spliced ((false, eval (.Lambda params body scope lpos) X.env) :: backTo pos (starEach [] X.env))) _ _ s
  refine Calls.spliced_cons (lam_make3 I TB hcode hmT hu hT hdef (L.has I.ok) fun f c' pm' ctv H1 s' I1 eN T1 hf hfn hfr hco _ => Calls.spliced_nil ⟨I1.kIn, ?_⟩)
  have rc : codeAny (model X.prog X.w) X.A (.call (.ref g) ⟨[.ref f], []⟩) (CR L2.CX0 X.stack X.prog X.w H1 s' Q L2.E0) s' := by
    refine run_ofS (CX := L2.CX0) (N := ["call", "found", "e"]) (ps := ["call"]) (us := [.ref f]) (vs := [.ref f]) lk hcg B.sc hr I1.env0 (hb s' [.ref f] I1.kIn rfl) (.cons rfl .nil) rfl fun hr' => ?_
    obtain ⟨tt, ht, hq⟩ := out_body (P := X.prog) (w := X.w) (base := X.base) (f := f) (c' := c') (q := X.env.qual ++ "<lambda>") (Q := Q) (tl := fun E H' Q' => t E σ H' Q') B T FE ge ke' (hr'.mono le)
      (fun W pn xe p1 p2 tk => pe_actN (i := 0) I1 L hf hfn hfr (hbind _ _ _ _ _) tk hr' (fun pinsZ σZ HZ sZ IZ => IZ.base) (fun A outer s H E hr2 => hbody A outer s H E f c' hr2) rfl (.inl B.l0)) hco
      (fun p hp => h _ ⟨fun b o nb e => by rw [upd_ne (ne_of_none (eN.keep b o nb e) hp)]; exact eN.keep b o nb e, let ⟨ps, e⟩ := eN.tbl; ⟨ps, by rw [upd_ne (ne_of_none e hp)]; exact e⟩⟩ (T1.ext fun b o e => by rw [upd_ne (ne_of_none e hp)]; exact e))
    exact ⟨tt, ht.nox, hq⟩
  refine wpAny_call (codeAny_mono rc fun r s2 hq => ?_)
  cases r with
  | error e => exact (show False from hq).elim
  | ok fl =>
    cases fl with
    | ret u => exact I1.after hq
    | next => exact False.elim hq
    | brk => exact False.elim hq
    | cont => exact False.elim hq
end
end ZH

/-! ZX: defs that raise, keyword-only parameters, the outcome of a lambda -/
namespace ZH
open PySem PySem.Spec PyProof.Rows L2
section
variable {K : PySem.W.Frag} {mg : Str → Option Value}
def Errs.c (T : Errs K mg) (i : Nat) : Addr := T.cs.getD i 0
theorem Errs.at (T : Errs K mg) {i : Nat} (h : i < 7) : T.cs[i]? = some (T.c i) := by
  have hl : i < T.cs.length := by rw [T.len]; exact h
  unfold Errs.c
  rw [List.getElem?_eq_getElem hl, List.getD_eq_getElem?_getD, List.getElem?_eq_getElem hl]
  rfl
theorem Errs.gAt (T : Errs K mg) {n : Str} (i : Nat) (h : i < 7) (hn : errN[i]? = some n) : mg n = some (.ref (T.c i)) := T.g i _ n (T.at h) hn
theorem le_name : ∀ (i : Nat) (n : Str), errN[i]? = some n → Txt.join "" (selB wN [i == 0, i == 1, i == 2, i == 3, i == 4, i == 5, i == 6]) = n
  | 0, _, h => by cases h; decide
  | 1, _, h => by cases h; decide
  | 2, _, h => by cases h; decide
  | 3, _, h => by cases h; decide
  | 4, _, h => by cases h; decide
  | 5, _, h => by cases h; decide
  | 6, _, h => by cases h; decide
  | _ + 7, _, h => by cases h
theorem errs_g {c0 c1 c2 c3 c4 c5 c6 : Addr} (g0 : mg "InvalidPolicy" = some (.ref c0)) (g1 : mg "InvalidYear" = some (.ref c1)) (g2 : mg "InvalidMenu" = some (.ref c2)) (g3 : mg "InvalidScheme" = some (.ref c3)) (g4 : mg "InvalidNumber" = some (.ref c4)) (g5 : mg "InvalidDamage" = some (.ref c5)) (g6 : mg "NothingToUndo" = some (.ref c6)) :
    ∀ (i : Nat) (c : Addr) (n : Str), [c0, c1, c2, c3, c4, c5, c6][i]? = some c → errN[i]? = some n → mg n = some (.ref c)
  | 0, _, _, h, h' => by cases h; cases h'; exact g0
  | 1, _, _, h, h' => by cases h; cases h'; exact g1
  | 2, _, _, h, h' => by cases h; cases h'; exact g2
  | 3, _, _, h, h' => by cases h; cases h'; exact g3
  | 4, _, _, h, h' => by cases h; cases h'; exact g4
  | 5, _, _, h, h' => by cases h; cases h'; exact g5
  | 6, _, _, h, h' => by cases h; cases h'; exact g6
  | _ + 7, _, _, h, _ => by cases h
end
end ZH
namespace Z
open PySem PySem.Spec PyProof.Rows L2
variable [Tbs]

/-! ### what is raised -/
def dErr (x : Str) : DS := fun _ M => some (.err x, M)
abbrev WE' (mg : Str → Option Value) (E : XK) : Wi := fun c _ H => wfX mg E c H
/-- a context takes what a def raises -/
structure Wh (X : Cx) (W : Wi) : Prop where
  ex : ∃ E : XK, Passes (L2N.CX X.prog X.w) X E ∧ ∀ c σ H, W c σ H → wfX X.mg E c H
theorem wh0 {X : Cx} : Wh X W0 := ⟨E0, fun _ _ _ _ _ _ _ h => by
  obtain ⟨_, _, _, _, _, _, _, _, _, _, _, _, z⟩ := h
  exact z.elim, fun _ _ _ z => z.elim⟩
section
variable {P : Program} {w : World} {K : PySem.W.Frag} {mg : Str → Option Value} {base : Heap}
theorem whX {N : List Str} {qual : Str} {scope : Scope} {f : Addr} {cd : Value} {A : Around} {outer : List Env} {s : Shared} {H : Hp} {E : XK} : Wh (cxOf (L2N.CX P w) P w K mg base N qual scope f cd A outer s H E) (WE' mg E) :=
  ⟨E, L2N.passes_call (L2N.takes_of rfl rfl rfl rfl) fun _ _ _ _ h => h, fun _ _ _ h => h⟩
theorem takesX {N : List Str} {qual : Str} {scope : Scope} {f : Addr} {cd : Value} {A : Around} {outer : List Env} {s : Shared} {H : Hp} {E : XK} : L2N.Takes (cxOf (L2N.CX P w) P w K mg base N qual scope f cd A outer s H E) (fun cls d _ H => E cls d H) := L2N.takes_of rfl rfl rfl rfl
theorem ownX {N : List Str} {qual : Str} {scope : Scope} {f : Addr} {cd : Value} {A : Around} {outer : List Env} {s : Shared} {H : Hp} {E : XK} : PassesOwn (model P w) (cxOf (L2N.CX P w) P w K mg base N qual scope f cd A outer s H E).A (cxOf (L2N.CX P w) P w K mg base N qual scope f cd A outer s H E).env (cxOf (L2N.CX P w) P w K mg base N qual scope f cd A outer s H E).xe :=
  L2.passes_of (X := cxOf (L2N.CX P w) P w K mg base N qual scope f cd A outer s H E) rfl
/-- a def that may raise -/
theorem defZX {x qual : Str} {st : Stmt} {f : Addr} {fd : FuncData} {N ps : List Str} {k : Nat} {fb : DS} (G : Fun K x qual st f fd) (S : FnScope N ps (defScope st))
    (h : ∀ (cdv : Value) (A : Around) (outer : List Env) (s : Shared) (H : Hp) (E : XK), Room k (A.deeper (envOfC qual (defScope st) s.heap.objs.size f cdv)) → ZSs (cxOf (L2N.CX P w) P w K mg base N qual (defScope st) f cdv A outer s H E) (WE' mg E) (defBody st) fb) :
    FnOk P w K mg base (L2N.CX P w) (k + 1) f fd ps (spZ K (wfX mg) ps.length (mkDF N.length fb)) := by
  obtain ⟨oc, od, kV, doc, pm, an, cdv, ct, osl, rfl, lk, hcd⟩ := G.ex
  exact fn_of lk hcd S (fun vs H Q E q => spZ_len q) fun A outer s H vs Q E hr q => ⟨_, h cdv A outer s H E hr, def_lift (fun _ _ _ z => z) q⟩
end
section
variable {X : Cx} {W : Wi} {k n : Nat} {f : Addr} {fd : FuncData} {ps ks : List Str} {df : DF} {x : Str} {p pos : Pos} {e : Expr} {es : List Expr} {kws : List Keyword} {g gk : DA}
/-- a call of a def that may raise -/
theorem ze_callU (wh : Wh X W) (G : FnOk X.prog X.w X.K X.mg X.base (L2N.CX X.prog X.w) k f fd ps (spZ X.K (wfX X.mg) n df)) (hr : Room k X.A) (hg : Gl X x) (hm : X.mg x = some (.ref f)) (hk : PySem.W.keepIn X.K (.ref f) = true) (hb : Binds X.K fd ps [])
    (ha : ZA X W (e :: es) g) (hn : LenA g n) (hdb : (x == ("__debug__" : Str)) = false := by decide) (he : starEach (e :: es) X.env = (false, eval e X.env) :: starEach es X.env := by rfl) (hpl : (backTo pos (starEach es X.env)).any (·.1) = false := by rfl) :
    ZE X W (.Call (.Name x p) (e :: es) [] pos) (dCall df g) :=
  ⟨fun pins s σ H Q I h => by
    obtain ⟨E, hx, hW⟩ := wh.ex
    refine (pe_call (E := E) G hr hg hm hk hb .nil hx ha hdb he hpl).run pins s σ H Q I ?_
    obtain ⟨bs, M, F, ev, at0, run⟩ := h
    have rb := run.bind
    refine ⟨bs, M, F, ev, at0, ?_⟩
    match e1 : g ev M, rb with
    | some (.ok ds, M1), rb =>
      intro bs1 F1 H1 t1 w1 vs r1
      rw [List.append_nil]
      exact ⟨bs1, M1, F1, ds, w1, r1, hn _ _ _ _ e1, (rb bs1 F1 H1 t1 w1).wish fun c H' z => hW c σ H' z⟩
    | some (.err c, M1), rb => exact rb⟩
/-- the keyword-only parameters that lack -/
def dCallD (df : DF) (dvs : List D) (g : DA) : DE := fun e => bnd (g e) fun xs => df (xs ++ dvs)
theorem ze_callD {m : Nat} {dv : List V} {dd : List D} (wh : Wh X W) (G : FnOk X.prog X.w X.K X.mg X.base (L2N.CX X.prog X.w) k f fd ps (spZ X.K (wfX X.mg) n df)) (hr : Room k X.A) (hg : Gl X x) (hm : X.mg x = some (.ref f)) (hk : PySem.W.keepIn X.K (.ref f) = true) (hb : ∃ ds, Vals dv ds ∧ Binds X.K fd ps ds) (hd : ∀ bs F, Reps X.K bs F dv dd)
    (ha : ZA X W (e :: es) g) (hn : LenA g m) (hmn : m + dd.length = n) (hdb : (x == ("__debug__" : Str)) = false := by decide) (he : starEach (e :: es) X.env = (false, eval e X.env) :: starEach es X.env := by rfl) (hpl : (backTo pos (starEach es X.env)).any (·.1) = false := by rfl) :
    ZE X W (.Call (.Name x p) (e :: es) [] pos) (dCallD df dd g) :=
  ⟨fun pins s σ H Q I h => by
    obtain ⟨E, hx, hW⟩ := wh.ex
    obtain ⟨ds, hv, hb⟩ := hb
    refine (pe_call (E := E) G hr hg hm hk hb hv hx ha hdb he hpl).run pins s σ H Q I ?_
    obtain ⟨bs, M, F, ev, at0, run⟩ := h
    have rb := run.bind
    refine ⟨bs, M, F, ev, at0, ?_⟩
    match e1 : g ev M, rb with
    | some (.ok ds, M1), rb =>
      intro bs1 F1 H1 t1 w1 vs r1
      exact ⟨bs1, M1, F1, ds ++ dd, w1, r1.append (hd _ _), by rw [List.length_append, hn _ _ _ _ e1]; exact hmn, (rb bs1 F1 H1 t1 w1).wish fun c H' z => hW c σ H' z⟩
    | some (.err c, M1), rb => exact rb⟩
/-- f(e, .., k = v) -/
def dCallK (df : DF) (g gk : DA) : DE := fun e => bnd (g e) fun xs => bnd (gk e) fun zs => df (xs ++ zs)
theorem zk_nil : PK X [] (liftA X.K W dNil) := ⟨fun pos pins s σ H Q I h => pk_nil.run pos pins s σ H Q I (by
  obtain ⟨bs, M, F, e, at0, run⟩ := h
  exact Run.here at0.1 run [] .nil)⟩
theorem zk_cons {nm : Option Str} {kpos : Pos} {f : DE} (hf : ZE X W e f) (hg : PK X kws (liftA X.K W gk)) : PK X (⟨nm, e, kpos⟩ :: kws) (liftA X.K W (dCons f gk)) := ⟨fun pos pins s σ H Q I h => (pk_cons hf hg).run pos pins s σ H Q I (by
  obtain ⟨bs, M, F, e, at0, run⟩ := h
  refine ⟨bs, M, F, e, at0, run.bind.imp fun x bs1 M1 F1 H1 t1 w1 run1 v1 r1 => ?_⟩
  refine ⟨bs1, M1, F1, e, at0.tr t1 w1, run1.bind.imp fun xs bs2 M2 F2 H2 t2 w2 run2 vs r2 => ?_⟩
  exact Run.here w2 run2 _ (.cons (r1.tr t2) r2))⟩
theorem ze_callK {m mk : Nat} (wh : Wh X W) (G : FnOk X.prog X.w X.K X.mg X.base (L2N.CX X.prog X.w) k f fd ps (spZ X.K (wfX X.mg) n df)) (hr : Room k X.A) (hg : Gl X x) (hm : X.mg x = some (.ref f)) (hk : PySem.W.keepIn X.K (.ref f) = true) (hb : KBn X.K fd ps m ks (fun us ws => us ++ ws) (fun vs zs => vs ++ zs))
    (ha : ZA X W (e :: es) g) (hn : LenA g m) (hkw : PK X kws (liftA X.K W gk)) (hnk : LenA gk mk) (hl : ks.length = mk) (hmn : m + mk = n) (hall : (backToKw pos (keywordEach kws X.env)).all (·.1.isSome) = true := by rfl) (hks : (backToKw pos (keywordEach kws X.env)).filterMap (·.1) = ks := by rfl)
    (hdb : (x == ("__debug__" : Str)) = false := by decide) (he : starEach (e :: es) X.env = (false, eval e X.env) :: starEach es X.env := by rfl)
    (hpl : ((backTo pos (starEach (e :: es) X.env)).any (·.1) || (backToKw pos (keywordEach kws X.env)).any (·.1.isNone)) = false := by rfl) :
    ZE X W (.Call (.Name x p) (e :: es) kws pos) (dCallK df g gk) :=
  ⟨fun pins s σ H Q I h => by
    obtain ⟨E, hx, hW⟩ := wh.ex
    refine (pe_callN (E := E) G hr hg hm hk hb hx ha hkw hall hks hdb he hpl).run pins s σ H Q I ?_
    obtain ⟨bs, M, F, ev, at0, run⟩ := h
    have rb := run.bind
    refine ⟨bs, M, F, ev, at0, ?_⟩
    match e1 : g ev M, rb with
    | some (.err c, M1), rb => exact rb
    | some (.ok ds, M1), rb =>
      intro bs1 F1 H1 t1 w1 vs r1
      have rb2 := (rb bs1 F1 H1 t1 w1).bind
      refine ⟨bs1, M1, F1, ev, at0.tr t1 w1, ?_⟩
      match e2 : gk ev M1, rb2 with
      | some (.err c, M2), rb2 => exact rb2
      | some (.ok zs, M2), rb2 =>
        intro bs2 F2 H2 t2 w2 us r2
        refine ⟨by rw [r1.length]; exact hn _ _ _ _ e1, by rw [r2.length, hl]; exact hnk _ _ _ _ e2, bs2, M2, F2, ds ++ zs, w2, (r1.tr t2).append r2, by rw [List.length_append, hn _ _ _ _ e1, hnk _ _ _ _ e2]; exact hmn, (rb2 bs2 F2 H2 t2 w2).wish fun c H' z => hW c σ H' z⟩⟩
end
/-- raise X('..') -/
theorem zs_raise {X : Cx} {E : XK} {x m : Str} {i j : Nat} {c : Addr} {p p2 pos pos' : Pos} (T : ZH.Errs X.K X.mg) (hc : X.calm = true) (tk : L2N.Takes X (fun cls d _ H => E cls d H)) (hi : T.cs[i]? = some c) (hx : ZH.errN[i]? = some x) (hg : Gl X x) (hdb : (x == ("__debug__" : Str)) = false := by decide) :
    ZS X (WE' X.mg E) (.Raise (some (.Call (.Name x p) [.Constant (.str m) j p2] [] pos)) none pos') (dErr x) := by
  obtain ⟨h1, h2, h3, h4⟩ := T.exc hi
  have gx := T.g i c x hi hx
  refine ⟨fun pins s σ H Dn I h => (L2N.ps_raise hc tk (L2N.pmk_own PySem.F.excBase_ValueError h1 gx h2 (raises_own h3 h4) hg hdb)).run pins s σ H Dn I ?_⟩
  obtain ⟨bs0, F0, H0, bs, M, F, e, a, run⟩ := h
  exact run bs F H σ a.1 a.2.1 _ gx
/-! ### keyword-only parameters -/
theorem kbn_of {K : PySem.W.Frag} {fd : FuncData} {ps ks : List Str} {n : Nat} (h : ∀ us ws : List Value, us.length = n → ws.length = ks.length → bindArgs fd ⟨us, ks.zip ws⟩ = pure (ps.zip (us ++ ws))) : KBn K fd ps n ks (fun us ws => us ++ ws) (fun vs zs => vs ++ zs) :=
  ⟨fun s us ws _ h1 h2 => .of_eq (h us ws h1 h2), fun a b => a.append b⟩
theorem fund_mk {K : PySem.W.Frag} {x qual : Str} {st : Stmt} {f D : Addr} {oc : Value} {od an : Option Addr} {osl : Array (Option Value)} {doc pm cdv ct : Value} {kws : List (Str × V)} (l : K.lookup f = some ⟨oc, od, .func (PySem.W.fnOf x qual (defArgs st) (defBody st) (defScope st) .none (.ref D) doc pm an cdv ct), osl⟩)
    (c : PySem.W.codeIn K cdv qual = true) (k : PySem.W.keepIn K (.ref f) = true) (d : ∀ q ∈ kws, ∃ u, PySem.W.nsIn K D q.1 = some (some u) ∧ RelV q.2 u) : FunD K x qual (defArgs st) (defBody st) (defScope st) [] kws f (PySem.W.fnOf x qual (defArgs st) (defBody st) (defScope st) .none (.ref D) doc pm an cdv ct) :=
  ⟨⟨oc, od, .none, .ref D, doc, pm, an, cdv, ct, osl, rfl, l, c, .inl ⟨rfl, rfl⟩, .inr ⟨D, rfl, d⟩⟩, k⟩
/-! ### _law_outcome(lambda: e) -/
def dOutc (fb : DE) : DE := fun e M => match fb e M with
  | some (.ok d, M') => some (.ok (.tup [.str "value", d]), M')
  | some (.err c, M') => if ZH.errN.contains c = true then some (.ok (.tup [.str c]), M') else none
  | none => none
section
variable {K : PySem.W.Frag} {bs : List Addr} {M : MS} {F H H' : Hp}
/-- the heap has grown -/
theorem Wd.ext (w : Wd K bs M F H) (s : Same H H') : Wd K bs M F H' ∧ Tr bs F H bs F H' :=
  ⟨⟨w.sub.trans s, w.nd, w.len, fun i b ds e1 e2 => let ⟨n, vs, e3, r⟩ := w.objs i b ds e1 e2; ⟨n, vs, s _ _ e3, r⟩, w.tab.ext s, w.tabF⟩, ⟨[], by simp, by simp⟩, Same.refl _, fun _ _ e => .inl e, fun a o e _ _ => s _ _ e, fun a e => by
    cases q : H a with
    | none => exact absurd q e
    | some o => rw [s _ _ q]; simp⟩
/-- a table has grown -/
theorem Wd.extP {P : Addr} {q : Str} (w : Wd K bs M F H) (hP : (P, q) ∈ (Tbs.tb : List (Addr × Str))) (x : ZH.ExtP P H H') (hT : LamX.Tabs Tbs.tb H') : Wd K bs M F H' ∧ Tr bs F H bs F H' := by
  obtain ⟨ps, e0, _⟩ := w.tab _ hP
  have fP : F P = none := w.tabF _ hP
  refine ⟨⟨fun b o e => x.keep b o (ne_of_none e fP) (w.sub _ _ e), w.nd, w.len, fun i b ds e1 e2 => ?_, hT, w.tabF⟩, ⟨[], by simp, by simp⟩, Same.refl _, fun _ _ e => .inl e, fun a o e _ nt => x.keep a o (fun z => nt ps (Option.some.inj (e.symm.trans (z ▸ e0)))) e, fun a e => ?_⟩
  · obtain ⟨n, vs, e3, r⟩ := w.objs i b ds e1 e2
    exact ⟨n, vs, x.keep _ _ (fun z => by rw [z, e0] at e3; cases e3) e3, r⟩
  · by_cases z : a = P
    · obtain ⟨ps', e'⟩ := x.tbl
      rw [z, e']
      simp
    · cases q : H a with
      | none => exact absurd q e
      | some o => rw [x.keep a o z q]; simp
end
theorem errN_at {c : Str} (h : ZH.errN.contains c = true) : ∃ i : Nat, ZH.errN[i]? = some c := by
  have : c ∈ ZH.errN := by simpa using h
  obtain ⟨i, hi, e⟩ := List.mem_iff_getElem.mp this
  exact ⟨i, List.getElem?_eq_some_iff.mpr ⟨hi, e⟩⟩
section
variable {X : Cx} {W : Wi}
theorem whL {A : Around} {outer : List Env} {s : Shared} {H : Hp} {E : XK} {scope : Scope} {f c' : Addr} : Wh (ZH.lamN X A outer s H E scope f c') (WE' X.mg E) := ⟨E, L2N.passes_call ZH.lamN_takes fun _ _ _ _ h => h, fun _ _ _ h => h⟩
/-- what the outcome's def and the error's name's def are -/
structure OutOk (P : Program) (w : World) (K : PySem.W.Frag) (mg : Str → Option Value) (base : Heap) (T : ZH.Errs K mg) (ke : Nat) : Prop where
  ex : ∃ (st : Stmt) (g fe : Addr) (fd : FuncData), mg "_law_outcome" = some (.ref g) ∧ PySem.W.keepIn K (.ref g) = true ∧ Fun K "_law_outcome" "_law_outcome" st g fd ∧ Binds K fd ["call"] [] ∧ ZH.OutTxt (defScope st) (defBody st) ∧ ZH.FnE P w K mg base ke fe (ZH.spErr T) ∧ mg "_law_error" = some (.ref fe) ∧ PySem.W.keepIn K (.ref fe) = true
theorem ze_outc {c P : Addr} {k ke : Nat} {T : ZH.Errs X.K X.mg} {params : Arguments} {body : Expr} {scope : Scope} {fb : DE} {p lpos pos : Pos} (O : OutOk X.prog X.w X.K X.mg X.base T ke) (hg : Gl X "_law_outcome") (le : ke ≤ k + 1)
    (TB : LamX.TabB X.base X.mg c P) (hcode : X.env.code = .ref c) (hmT : (P, X.env.qual ++ "<lambda>") ∈ (Tbs.tb : List (Addr × Str))) (hu : ∀ p ∈ (Tbs.tb : List (Addr × Str)), p.1 = P → p.2 = X.env.qual ++ "<lambda>") (hr : Room (k + 2) X.A) (L : LamX.LamS X.env.scope scope) (hdef : defaultsOf params X.env = ([], []))
    (hbind : ∀ (q : Str) (cl : List (Str × Addr)) (pm cv ctv : Value), bindArgs (PySem.W.kla_fn "<lambda>" q params body scope cl pm cv ctv) ⟨[], []⟩ = pure [])
    (hbody : ∀ (A : Around) (outer : List Env) (s : Shared) (H : Hp) (E : XK) (f c' : Addr), Room k (A.deeper (LamX.lamEnv X scope s.heap.objs.size f c')) → ZE (ZH.lamN X A outer s H E scope f c') (WE' X.mg E) body fb) :
    ZE X W (.Call (.Name "_law_outcome" p) [.Lambda params body scope lpos] [] pos) (dOutc fb) := by
  obtain ⟨st, g, fe, fd, h1, h2, F, h3, B, FE, h4, h5⟩ := O.ex
  refine ⟨fun pins s σ H Q I h => (ZH.pe_outcome (T := T) (Tb := Tbs.tb) (t := fun E => liftE X.K (WE' X.mg E) fb) hg h1 h2 F h3 B FE h4 h5 le TB hcode hmT hu hr L hdef hbind hbody).run pins s σ H Q I ?_⟩
  obtain ⟨bs, M, F, e, at0, run⟩ := h
  refine ⟨at0.1.tab, fun H1 x1 T1 => ?_⟩
  obtain ⟨w1, t1⟩ := at0.1.extP hmT x1 T1
  refine ⟨bs, M, F, e, at0.tr t1 w1, ?_⟩
  unfold dOutc at run
  cases e1 : fb e M with
  | none =>
    rw [e1] at run
    exact run.elim
  | some pr =>
    obtain ⟨r, M1⟩ := pr
    rw [e1] at run
    cases r with
    | ok d =>
      intro bs2 F2 H2 t2 w2 v rv q hq
      obtain ⟨w3, t3⟩ := w2.laid (.tup [.str "value", v]) hq
      exact run _ _ _ ((t1.trans t2).trans t3) w3 _ (.tup upd_same (.cons (.str _) (.cons (rv.tr t3) .nil)))
    | err n =>
      intro bs2 F2 H2 t2 w2 u hu2
      by_cases hn : ZH.errN.contains n = true
      · simp only [hn, if_true] at run
        obtain ⟨i, hi⟩ := errN_at hn
        have hl : i < T.cs.length := by
          rw [T.len]
          exact (List.getElem?_eq_some_iff.mp hi).1
        have hc : T.cs[i]? = some T.cs[i] := List.getElem?_eq_getElem hl
        have gu := T.g i _ n hc hi
        rw [gu] at hu2
        cases hu2
        refine ⟨i, _, n, hc, hi, rfl, rfl, fun H3 q s3 hq => ?_⟩
        obtain ⟨w3, t3⟩ := w2.ext s3
        obtain ⟨w4, t4⟩ := w3.laid (.tup [.str n]) hq
        exact run _ _ _ (((t1.trans t2).trans t3).trans t4) w4 _ (.tup upd_same (.cons (.str _) .nil))
      · simp only [hn, if_false] at run
        exact run.elim
end
end Z

/-! ZY: the end of a law whose defs make lambdas -/
namespace Z
open PySem PySem.Spec PyProof.Rows L2
theorem tabIn_of {K : PySem.W.Frag} {x : Str} {f c P : Addr} {fd : FuncData} {oc oc2 : Value} {od od2 : Option Addr} {sl sl2 : Array (Option Value)} {vs : Array Value} (a : PySem.W.nsIn K mainGlobals x = some (some (.ref f))) (l : K.lookup f = some ⟨oc, od, .func fd, sl⟩) (hc : fd.code = .ref c) (lc : K.lookup c = some ⟨oc2, od2, .fields vs, sl2⟩) (hv : vs[11]? = some (.ref P)) : PySem.W.tabIn K x = some (c, P) := by
  unfold PySem.W.tabIn
  rw [a]
  simp only
  rw [l]
  simp only
  rw [hc]
  simp only
  rw [lc]
  simp only
  rw [hv]
theorem noTab_lookup {K : PySem.W.Frag} {h : Heap} {P : Addr} (X : K.In h) (n : PySem.W.noTabs K = true) (e : h.get? P = some (PySem.W.tabObj #[])) : K.lookup P = none := by
  cases q : K.lookup P with
  | none => rfl
  | some o =>
    have e2 := X P o q
    rw [e] at e2
    cases e2
    have h2 := List.all_eq_true.mp n (P, PySem.W.tabObj #[]) (PySem.W.mem_of_lookupK q)
    exact absurd (show false = true from h2) Bool.false_ne_true
theorem walk_ofTT {l : PySem.W.OpenLaw} {n k : Nat} {q : Program} {loose : List Str} {XP : (Str → Option Value) → Heap → Prop} {YP : World → Heap → Prop} {d : DefRec} {K : Params → PySem.W.Frag} {x : Str}
    (hn : l.most = some n) (hn2 : n ≤ sizeLine) (hdf : d.params.defaults = []) (hr : Room k callerA) (hY : ∀ (w : World) (h : Heap), YP w h → (K w.params).In h) (hK : ∀ w : World, PySem.W.noTabs (K w.params) = true)
    (F : ∀ (w : World) (mg : Str → Option Value) (fa : Addr) (h : Heap), (K w.params).In h → h.Ns mainGlobals mg → mg d.name = some (.ref fa) →
      ∃ (fd : FuncData) (cs : List (Addr × Addr)) (sp : Sp), (∀ p ∈ cs, ∃ (y : Str) (e : DefRec), (recsOf q).find? (fun e => e.name == y) = some e ∧ PySem.W.tabIn (K w.params) y = some p) ∧ (∀ (s : Shared) (u : Value), BindsTo s fd ⟨[u], []⟩ [(x, u)]) ∧
        (∀ (H : Hp) (a : Addr) (ns : List Int), ns.length ≤ n → (∀ p ∈ cs, H p.2 = some (.tbl #[])) → SqL (K w.params) H a (ns.map V.int) → sp [.ref a] H (fun v _ => v = .bl true) fun _ _ _ => False) ∧
        ∀ base : Heap, (K w.params).In base → base.Ns mainGlobals mg → (∀ p ∈ cs, LamX.TabB base mg p.1 p.2) → FnOk l.prog w (K w.params) mg base CX0 k fa fd [x] sp) :
    PySem.W.WalkO q loose XP YP l.row.toRowW d [] (fun f vs => PySem.call f vs) := by
  refine Att.attach_callB hn hdf fun w s₀ s₁ mg mb fa o pm cd doc a vs ns G Y ho hd hcd hmg hobj hints hlen hbits hg => ?_
  have KX := hY w _ Y
  obtain ⟨fd, cs, sp, hT, hb, hsp, hF⟩ := F w mg fa _ KX G.T.g hmg
  have both : ∀ p ∈ cs, PySem.W.CodeHd s₁.heap p.1 p.2 ∧ s₁.heap.get? p.2 = some (PySem.W.tabObj #[]) := fun p hp => by
    obtain ⟨y, e, e1, e2⟩ := hT p hp
    exact PySem.W.tab_of (c := p.1) (P := p.2) G.T KX e1 e2
  exact LamX.law_callTs (CX := CX0) KX G.T.g G.T.b G.T.builtins G.T.nolimit hg (fun p hp => (both p hp).2) (fun p hp => noTab_lookup KX (hK w) (both p hp).2) (fun p hp => (both p hp).1) G.T.bmain hobj hints (Nat.le_trans hlen hn2) hr hF hb (fun H hH hS => hsp H a ns hlen hH hS) fun H e s' h => h
/-- a def that makes lambdas: its code object is told -/
structure FunC (K : PySem.W.Frag) (x qual : Str) (st : Stmt) (f c : Addr) (fd : FuncData) : Prop where
  ex : ∃ (oc : Value) (od : Option Addr) (kV doc pm : Value) (an : Option Addr) (ct : Value) (osl : Array (Option Value)),
    fd = PySem.W.fnOf x qual (defArgs st) (defBody st) (defScope st) .none kV doc pm an (.ref c) ct ∧ K.lookup f = some ⟨oc, od, .func fd, osl⟩ ∧ PySem.W.codeIn K (.ref c) qual = true
section
variable {P : Program} {w : World} {K : PySem.W.Frag} {mg : Str → Option Value} {base : Heap}
theorem func_mk {x qual : Str} {st : Stmt} {f c : Addr} {oc : Value} {od an : Option Addr} {osl : Array (Option Value)} {kV doc pm cdv ct : Value} (l : K.lookup f = some ⟨oc, od, .func (PySem.W.fnOf x qual (defArgs st) (defBody st) (defScope st) .none kV doc pm an cdv ct), osl⟩)
    (h : PySem.W.codeIn K cdv qual = true) (e : cdv = .ref c) : FunC K x qual st f c (PySem.W.fnOf x qual (defArgs st) (defBody st) (defScope st) .none kV doc pm an cdv ct) := by
  subst e
  exact ⟨oc, od, kV, doc, pm, an, ct, osl, rfl, l, h⟩
variable [Tbs]
theorem defZXC {x qual : Str} {st : Stmt} {f c : Addr} {fd : FuncData} {N ps : List Str} {k : Nat} {fb : DS} (G : FunC K x qual st f c fd) (S : FnScope N ps (defScope st))
    (h : ∀ (A : Around) (outer : List Env) (s : Shared) (H : Hp) (E : XK), Room k (A.deeper (envOfC qual (defScope st) s.heap.objs.size f (.ref c))) → ZSs (cxOf (L2N.CX P w) P w K mg base N qual (defScope st) f (.ref c) A outer s H E) (WE' mg E) (defBody st) fb) :
    FnOk P w K mg base (L2N.CX P w) (k + 1) f fd ps (spZ K (wfX mg) ps.length (mkDF N.length fb)) := by
  obtain ⟨oc, od, kV, doc, pm, an, ct, osl, rfl, lk, hcd⟩ := G.ex
  exact fn_of lk hcd S (fun vs H Q E q => spZ_len q) fun A outer s H vs Q E hr q => ⟨_, h A outer s H E hr, def_lift (fun _ _ _ z => z) q⟩
/-- the law itself -/
theorem defZC {x qual : Str} {st : Stmt} {f c : Addr} {fd : FuncData} {N ps : List Str} {k : Nat} {fb : DS} (G : FunC K x qual st f c fd) (S : FnScope N ps (defScope st))
    (h : ∀ (A : Around) (outer : List Env) (s : Shared) (H : Hp) (E : XK), Room k (A.deeper (envOfC qual (defScope st) s.heap.objs.size f (.ref c))) → ZSs (cxOf CX0 P w K mg base N qual (defScope st) f (.ref c) A outer s H E).nox W0 (defBody st) fb) :
    FnOk P w K mg base CX0 (k + 1) f fd ps (spZ K wf0 ps.length (mkDF N.length fb)) := by
  obtain ⟨oc, od, kV, doc, pm, an, ct, osl, rfl, lk, hcd⟩ := G.ex
  exact fn_of lk hcd S (fun vs H Q E q => spZ_len q) fun A outer s H vs Q E hr q => ⟨_, (h A outer s H E hr).nox, def_lift (fun _ _ _ z => z) q⟩
end
/-- the name that a def's lambdas bear -/
def lamQ (x : Str) : Str := (envOfC x (⟨.function, [], false, false, []⟩ : Scope) 0 0 .none).qual ++ "<lambda>"
end Z

/-! ZW1: a for in a generator -/
namespace ZH
open PySem PySem.Spec PyProof.Rows L2 GenW
section
variable {prog : Program} {w : World} {A : Around} {R : GenEnd} {Y : Protocol} {n : Nat} {s₀ s : Shared} {fs : List Frame} {env : Env}
/-- one turn of the loop's code -/
theorem seg_turn {tg : Expr} {it : Value} {body : List Stmt} {EE : Value → Shared → Prop}
    (hE : ∀ x s1, EE x s1 → Seg (model prog w) A R Y n s₀ (.forLoop tg it body [] env) ((do noteFrame x env; theTreesLotGoes x : Sem Unit).wrap (fun _ => .raise x) .raise id id) fs s1)
    (h : wpAny (model prog w) (A.over (.forLoop tg it body [] env) fs) (pyNext it) (fun r s1 => (r = none ∧ Seg (model prog w) A R Y n s₀ (.block [] env) (.pure (.done .next)) fs s1) ∨
      ∃ v, r = some v ∧ wpAny (model prog w) (A.over (.forLoop tg it body [] env) fs) (letOwnedTupleGo tg it v) (fun _ s2 => wpAny (model prog w) (A.over (.forLoop tg it body [] env) fs) (assign tg env v) (fun _ s3 =>
        Seg (model prog w) A R Y n s₀ (.forLoop tg it body [] env) ((execs body env).wrap (fun f => match f with
          | .ret v => .pure (.done (.ret v))
          | .brk => .pure (.done .next)
          | _ => .pure (.again (.forLoop tg it body [] env))) (fun e => (do noteFrame e env; theTreesLotGoes e : Sem Unit).wrap (fun _ => .raise e) .raise id id) id id) fs s3) EE s2) EE s1) (fun _ _ => False) s) :
    Seg (model prog w) A R Y n s₀ (.forLoop tg it body [] env) ((model prog w).den (.forLoop tg it body [] env)) fs s := by
  have tail : ∀ x s1, EE x s1 → Seg (model prog w) A R Y n s₀ (.forLoop tg it body [] env) ((do noteFrame x env; theTreesLotGoes x : Sem Unit).bind fun _ => (.raise x : Sem PySem.Fin)) fs s1 := fun x s1 hx => by
    rw [Sem.bind_eq_wrap]
    exact hE x s1 hx
  show Seg _ A R Y n s₀ _ ((forTurn tg it body [] env).onRaise _) fs s
  rw [Sem.onRaise_eq_wrap, forTurn]
  refine seg_bind_wrap (wpAny_standAt ?_)
  refine seg_bind_wrap (wpAny_onRaise (wpAny_mono h (fun r s1 h1 => ?_) fun _ _ z => z.elim))
  rcases h1 with ⟨rfl, h1⟩ | ⟨v, rfl, h1⟩
  · refine seg_again rfl ?_
    exact h1
  · refine seg_bind_wrap (wpAny_mono h1 (fun _ s2 h2 => ?_) tail)
    refine seg_bind_wrap (wpAny_mono h2 (fun _ s3 h3 => ?_) tail)
    rw [Sem.bind_eq_wrap', Sem.wrap_wrap]
    refine cast (congrArg (fun t => Seg (model prog w) A R Y n s₀ (.forLoop tg it body [] env) t fs s3) (Sem.wrap_congr (execs body env) id id (K := fun f => match f with
          | .ret v => .pure (.done (.ret v))
          | .brk => .pure (.done .next)
          | _ => .pure (.again (.forLoop tg it body [] env))) (H := fun e => (do noteFrame e env; theTreesLotGoes e : Sem Unit).wrap (fun _ => .raise e) .raise id id) (fun f => ?_) fun e => ?_)) h3
    · cases f <;> rfl
    · exact (Sem.bind_eq_wrap _ _).symm
end
section
variable {X : Cx} {S : Addr} {ip pl : List (Addr × Obj)} {ys : List V} {σ : L2.St} {H : Hp} {s : Shared}
theorem gi_less (h : GI X S (ip ++ pl) ys σ H s) : GI X S ip ys σ H s := by
  obtain ⟨acc, c, r, I⟩ := h
  exact ⟨acc, c, r, Inv.unpinned (pins := (S, lstObj acc c) :: ip) I⟩
theorem gsp_less {D D' : GEnds} {f : Flow} (hb : ∀ σ H, D'.bk ys σ H → D.nx ys σ H) (hr : ∀ v H, D'.rt ys v H → D.rt ys v H) (h : GSP X S (ip ++ pl) D' ys f s) : (f = .brk → GSP X S ip D ys .next s) ∧ ∀ u, f = .ret u → GSP X S ip D ys (.ret u) s := by
  refine ⟨fun e => ?_, fun u e => ?_⟩
  · subst e
    obtain ⟨σ1, H1, I, q⟩ := h
    exact ⟨σ1, H1, gi_less I, hb _ _ q⟩
  · subst e
    obtain ⟨v, σ1, H1, I, rv, q⟩ := h
    exact ⟨v, σ1, H1, gi_less I, rv, hr _ _ q⟩
end
/-- W: what holds by the turn, a measure and what is out; N: what the body is to reach -/
def tGFor (wi : TI) (g : TG) (tb : TGn) : TGn := fun D ys σ H => wi σ H fun J H1 => ∃ W : Nat → Nat → List V → L2.St → Hp → Prop, (∃ m, W 0 m ys σ H1) ∧ ∀ i m zs σ H, W i m zs σ H →
  (J.stop i H ∧ D.nx zs σ H) ∨ (J.go i H ∧ ∃ N : List V → L2.St → Hp → Prop, (∀ zs' σ' H', N zs' σ' H' → ∃ m', m' < m ∧ W (i + 1) m' zs' σ' H') ∧ ∀ x H', J.yld i H x H' → g x σ H' fun σ2 H2 => tb { nx := N, rt := D.rt, bk := D.nx, ct := N } zs σ2 H2)
theorem gs_for {X : Cx} {tg iter : Expr} {body : List Stmt} {wi : TI} {g : TG} {tb : TGn} {pos : Pos} (hp : PassesOwn (model X.prog X.w) X.A X.env X.xe) (hc : X.calm = true) (hi : PI X tg iter wi) (hg : PG X tg g) (hb : GSs X body tb)
    (hs : ∀ x, foldedSetIterable iter X.env x = pure x := by intro _; rfl) : GS X (.For tg iter body [] pos) (tGFor wi g tb) := by
  refine ⟨fun A S ip R n ys s₀ c fs K J gd lv s σ H D gc hn k hI ht => ?_⟩
  obtain ⟨acc, cc, r, I⟩ := hI
  rw [exec_For]
  refine seg_bind_wrap (wpAny_standAt ?_)
  refine seg_bind_wrap ?_
  rw [gc.over]
  refine wpAny_mono (hi.run _ s σ H _ I ht) (fun v s1 h1 => ?_) fun x s1 hx => k.exc _ _ x s1 hx
  refine seg_bind_wrap (wpAny_of_eq (hs v) ?_)
  refine seg_bind_wrap (wpAny_standAt ?_)
  refine seg_bind_wrap (wpAny_holding ?_)
  rw [gc.over]
  refine wpAny_mono h1 (fun itv s2 h2 => ?_) fun x s2 hx => k.exc _ _ x s2 hx
  obtain ⟨it, fp, tn, J1, H2, rfl, I2, T, st2, f2, W, ⟨m0, w0⟩, turns⟩ := h2
  refine seg_call fun p => ?_
  have gl := fun (kk : Result → Sem PySem.Fin) => gc_loop (k := kk) (c' := .forLoop tg (.ref it) body [] X.env) (l := lv []) (kp := []) (p := p) gc rfl rfl
  have hS : ∀ b ∈ fp, b ≠ S := fun b hb e => (f2 b hb).2.2.2.2.2 (S, lstObj acc cc) (List.mem_append_right _ List.mem_cons_self) e.symm
  have stat : ∀ {acc : Array Value} {cc : Nat} {H' : Hp}, (∀ b ∈ fp, H' b = none) → ∀ b ∈ fp, FpOk X ((S, lstObj acc cc) :: ip) H' b := fun {_ _ _} hn b hb => by
    obtain ⟨_, e1, e2, e3, e4, e5⟩ := f2 b hb
    refine ⟨hn b hb, e1, e2, e3, e4, fun q hq => ?_⟩
    rcases List.mem_append.mp hq with z | z
    · exact e5 q (List.mem_append_left _ z)
    · rcases List.mem_cons.mp z with z | z
      · rw [z]
        exact (hS b hb).symm
      · exact e5 q (List.mem_append_right _ (List.mem_cons_of_mem _ z))
  have main : ∀ (m i n : Nat) (zs : List V) (s₀ s : Shared) (σ : L2.St) (H : Hp), n + zs.length = sizeLine → W i m zs σ H → GI X S ip zs σ H s → tn i s.heap → (∀ b ∈ fp, H b = none) →
      Seg (model X.prog X.w) A R (GY X S) n s₀ (.forLoop tg (.ref it) body [] X.env) ((model X.prog X.w).den (.forLoop tg (.ref it) body [] X.env))
        (.ret (fun r => ((match r with | .ok f => (.pure f : Sem Flow) | .error e => .raise e).onRaise (cameBack X.env)).wrap K J gd lv) none (gd false) (lv []) c p [] :: fs) s := by
    intro m
    induction m using Nat.strongRecOn with
    | ind m ih =>
      intro i n zs s₀ s σ H hn w hI st fr
      have ee : ∀ (n : Nat) (s₀ : Shared) (x : Value) (s1 : Shared), X.xe x s1 → Seg (model X.prog X.w) A R (GY X S) n s₀ (.forLoop tg (.ref it) body [] X.env)
          ((do noteFrame x X.env; theTreesLotGoes x : Sem Unit).wrap (fun _ => .raise x) .raise id id)
          (.ret (fun r => ((match r with | .ok f => (.pure f : Sem Flow) | .error e => .raise e).onRaise (cameBack X.env)).wrap K J gd lv) none (gd false) (lv []) c p [] :: fs) s1 := fun n s₀ x s1 hx => by
        refine seg_wrap ?_
        rw [(gl _).over]
        refine wpAny_bind (wpAny_mono (hp x s1 hx) (fun _ s3 hcb => wpAny_theTreesLotGoes ?_) fun y s3 hcb => ?_)
        · exact seg_leaf (.error x) (seg_cameBack gc k hcb)
        · exact seg_leaf (.error y) (seg_cameBack gc k hcb)
      obtain ⟨acc, cc, r, I⟩ := hI
      refine seg_turn (EE := X.xe) (fun x s1 hx => ee n s₀ x s1 hx) ?_
      rw [(gl _).over]
      rcases turns i m zs σ H w with ⟨stop, q⟩ | ⟨go, N, hN, step⟩
      · refine wpAny_mono (T.done X rfl rfl rfl hc i _ s σ H (fun _ _ => False) I (stat fr) st stop) (fun r1 s1 ⟨e1, I1⟩ => .inl ⟨e1, ?_⟩) fun _ _ z => z
        exact seg_leaf (.ok .next) (k.ok n zs s₀ s1 .next hn ⟨σ, H, ⟨acc, cc, r, I1⟩, q⟩)
      · refine wpAny_mono (T.item X rfl rfl rfl hc i _ s σ H (fun _ _ => False) I (stat fr) st go) (fun r1 s1 ⟨u, e1, h4⟩ => .inr ⟨u, e1, ?_⟩) fun _ _ z => z
        refine wpAny_mono h4 (fun _ s5 ⟨x, H5, I5, r5, y5, st5, fr5⟩ => ?_) fun _ _ z => z.elim
        have I6 := I5.pinned (stat fr5) (T.obj _ _ st5)
        refine wpAny_mono (hg.run _ s5 σ H5 x u _ I6 r5 (step x H5 y5)) (fun _ s6 ⟨σ6, H6, I7, q6⟩ => ?_) fun _ _ z => z
        have gb := gl (fun r => ((match r with | .ok f => (.pure f : Sem Flow) | .error e => .raise e).onRaise (cameBack X.env)).wrap K J gd lv)
        refine hb.run A S (ip ++ pinsAt fp s5.heap) R n zs s₀ _ _ _ _ id id s6 σ6 H6 { nx := N, rt := D.rt, bk := D.nx, ct := N } ⟨gb.pn, fun q hq => ?_, gb.apart, gb.over, gb.split, gb.guard, rfl⟩ hn ⟨fun n' zs' s₀' s7 f hn' hf => ?_, fun n' s₀' x s7 hx => ee n' s₀' x s7 hx⟩ ⟨acc, cc, r, I7⟩ q6
        · rcases List.mem_append.mp hq with z | z
          · exact gc.ip q z
          · exact hS _ (of_pinsAt z).1
        · have again : ∀ {σ7 : L2.St} {H7 : Hp}, GI X S (ip ++ pinsAt fp s5.heap) zs' σ7 H7 s7 → N zs' σ7 H7 → Seg (model X.prog X.w) A R (GY X S) n' s₀' (.forLoop tg (.ref it) body [] X.env) (.pure (.again (.forLoop tg (.ref it) body [] X.env)))
              (.ret (fun r => ((match r with | .ok f => (.pure f : Sem Flow) | .error e => .raise e).onRaise (cameBack X.env)).wrap K J gd lv) none (gd false) (lv []) c p [] :: fs) s7 := fun {σ7 H7} G7 n7 => by
            obtain ⟨m', hm, w7⟩ := hN zs' σ7 H7 n7
            have hpin : ∀ b ∈ fp, ∀ o, s5.heap.get? b = some o → s7.heap.get? b = some o ∧ H7 b = none := fun b hb o e => by
              obtain ⟨_, _, _, J7⟩ := G7
              have z := J7.pin (b, o) (List.mem_append_right _ (List.mem_cons_of_mem _ (List.mem_append_right _ (mem_pinsAt hb e))))
              exact ⟨z.1, z.2.1⟩
            refine seg_again rfl (ih m' hm (i + 1) n' zs' s₀' s7 σ7 H7 hn' w7 (gi_less G7) (T.keep _ _ _ st5 fun b hb o e => (hpin b hb o e).1) fun b hb => ?_)
            obtain ⟨o, e, _⟩ := T.obj _ _ st5 b hb
            exact (hpin b hb o e).2
          cases f with
          | next =>
            obtain ⟨σ7, H7, G7, n7⟩ := hf
            exact again G7 n7
          | cont =>
            obtain ⟨σ7, H7, G7, n7⟩ := hf
            exact again G7 n7
          | brk => exact seg_leaf (.ok .next) (k.ok n' zs' s₀' s7 .next hn' ((gsp_less (D := D) (D' := { nx := N, rt := D.rt, bk := D.nx, ct := N }) (fun _ _ z => z) (fun _ _ z => z) hf).1 rfl))
          | ret v => exact seg_leaf (.ok (.ret v)) (k.ok n' zs' s₀' s7 (.ret v) hn' ((gsp_less (D := D) (D' := { nx := N, rt := D.rt, bk := D.nx, ct := N }) (fun _ _ z => z) (fun _ _ z => z) hf).2 v rfl))
  exact main m0 0 n ys s₀ s2 σ H2 hn w0 ⟨acc, cc, r, I2⟩ st2 fun b hb => (f2 b hb).1
end ZH

/-! ZW2: what a generator computes: whole numbers, one after another -/
namespace Z
open PySem PySem.Spec PyProof.Rows L2
variable [Tbs]
inductive OcG where
  | nx (e : Ev) (zs : List Int) | rt (zs : List Int) | bk (e : Ev) (zs : List Int) | ct (e : Ev) (zs : List Int)
abbrev DG := Ev → List Int → Mo OcG
def gV (zs : List Int) : List V := zs.map V.int
def RunG (K : PySem.W.Frag) (W : Wi) (bs0 : List Addr) (F0 H0 : Hp) (r : Option (Rs OcG × MS)) (Dn : GEnds) : Prop := match r with
  | some (.ok (.nx e zs), M') => ∀ bs F H σ, AtS K bs0 F0 H0 bs M' F H σ e → Dn.nx (gV zs) σ H
  | some (.ok (.bk e zs), M') => ∀ bs F H σ, AtS K bs0 F0 H0 bs M' F H σ e → Dn.bk (gV zs) σ H
  | some (.ok (.ct e zs), M') => ∀ bs F H σ, AtS K bs0 F0 H0 bs M' F H σ e → Dn.ct (gV zs) σ H
  | some (.ok (.rt zs), M') => ∀ bs F H, Tr bs0 F0 H0 bs F H → Wd K bs M' F H → Dn.rt (gV zs) .non H
  | some (.err c, M') => ∀ bs F H σ, Tr bs0 F0 H0 bs F H → Wd K bs M' F H → W c σ H
  | none => False
def liftG (K : PySem.W.Frag) (W : Wi) (f : DG) : TGn := fun Dn ys σ H => ∃ bs0 F0 H0 bs M F e zs, ys = gV zs ∧ AtS K bs0 F0 H0 bs M F H σ e ∧ RunG K W bs0 F0 H0 (f e zs M) Dn
abbrev ZY1 (X : Cx) (W : Wi) (st : Stmt) (f : DG) : Prop := GS X st (liftG X.K W f)
abbrev ZYs (X : Cx) (W : Wi) (sts : List Stmt) (f : DG) : Prop := GSs X sts (liftG X.K W f)
section
variable {X : Cx} {st : Stmt} {sts : List Stmt} {t u : TGn}
theorem gs_imp (a : GS X st t) (h : ∀ D ys σ H, u D ys σ H → t D ys σ H) : GS X st u := ⟨fun A S ip R n ys s₀ c fs K J gd lv s σ H D g hn k I q => a.run A S ip R n ys s₀ c fs K J gd lv s σ H D g hn k I (h _ _ _ _ q)⟩
theorem gss_imp (a : GSs X sts t) (h : ∀ D ys σ H, u D ys σ H → t D ys σ H) : GSs X sts u := ⟨fun A S ip R n ys s₀ c fs K J gd lv s σ H D g hn k I q => a.run A S ip R n ys s₀ c fs K J gd lv s σ H D g hn k I (h _ _ _ _ q)⟩
end
section
variable {K : PySem.W.Frag} {W : Wi} {bs0 bs1 bs bs' : List Addr} {M M' : MS} {F0 H0 F1 H1 F H F' H' : Hp} {σ : L2.St} {e : Ev}
theorem RunG.bind {α : Type} {m : Mo α} {f : α → Mo OcG} {Dn : GEnds} (h : RunG K W bs0 F0 H0 (bnd m f M) Dn) (a : AtS K bs0 F0 H0 bs M F H σ e) : Run K W bs F H σ (m M) (fun x bs1 M1 F1 H1 => AtS K bs0 F0 H0 bs1 M1 F1 H1 σ e ∧ RunG K W bs0 F0 H0 (f x M1) Dn) := by
  unfold bnd at h
  cases e1 : m M with
  | none =>
    rw [e1] at h
    exact h
  | some p =>
    obtain ⟨r, M1⟩ := p
    rw [e1] at h
    cases r with
    | ok x => exact fun bs1 F1 H1 t1 w1 => ⟨a.tr t1 w1, h⟩
    | err c => exact fun bs1 F1 H1 t1 w1 => h bs1 F1 H1 σ (a.1.trans t1) w1
theorem RunG.rebase {r : Option (Rs OcG × MS)} {Dn : GEnds} (a : Tr bs0 F0 H0 bs1 F1 H1) (h : RunG K W bs0 F0 H0 r Dn) : RunG K W bs1 F1 H0 r Dn := by
  match r, h with
  | some (.ok (.ct e zs), M'), h => exact fun bs F H σ b => h bs F H σ (b.unbase a)
  | some (.ok (.bk e zs), M'), h => exact fun bs F H σ b => h bs F H σ (b.unbase a)
  | some (.ok (.nx e zs), M'), h => exact fun bs F H σ b => h bs F H σ (b.unbase a)
  | some (.ok (.rt zs), M'), h => exact fun bs F H t w => h bs F H (a.unbase t) w
  | some (.err c, M'), h => exact fun bs F H σ t w => h bs F H σ (a.unbase t) w
end
/-! ### what it is made of -/
def gPlain (f : DS) : DG := fun e zs => bnd (f e) fun o => match o with
  | .nx e' => ret (.nx e' zs)
  | .bk e' => ret (.bk e' zs)
  | .ct e' => ret (.ct e' zs)
  | .rt .non => ret (.rt zs)
  | .rt _ => stuck
def gNil : DG := fun e zs => ret (.nx e zs)
def gSeq (f g : DG) : DG := fun e zs => bnd (f e zs) fun o => match o with
  | .nx e' zs' => g e' zs'
  | o => ret o
def gYield (fe : DE) : DG := fun e zs => if zs.length < 1000 then bnd (fe e) fun d => match d with
    | .int i => ret (.nx e (zs ++ [i]))
    | _ => stuck
  else stuck
def gLoop (t : Tg) (body : DG) : List D → DG
  | [], e, zs => ret (.nx e zs)
  | x :: xs, e, zs => bnd (lft (asg t x e)) fun e1 => bnd (body e1 zs) fun o => match o with
    | .nx e2 zs2 => gLoop t body xs e2 zs2
    | .ct e2 zs2 => gLoop t body xs e2 zs2
    | .bk e2 zs2 => ret (.nx e2 zs2)
    | .rt zs2 => ret (.rt zs2)
def gFor (fi : DA) (t : Tg) (body : DG) : DG := fun e zs => bnd (fi e) fun items => gLoop t body items e zs
section
variable {X : Cx} {W : Wi} {st : Stmt} {rest sts : List Stmt} {f g : DG} {fs : DS} {fe : DE} {ex : Expr} {pos yp : Pos}
theorem plain_conv {Dn : GEnds} {ys : List V} {σ : L2.St} {H : Hp} (h : liftG X.K W (gPlain fs) Dn ys σ H) : tPlain (liftS X.K W fs) Dn ys σ H := by
  obtain ⟨bs0, F0, H0, bs, M, F, e, zs, rfl, a, run⟩ := h
  refine ⟨bs0, F0, H0, bs, M, F, e, a, ?_⟩
  unfold gPlain bnd at run
  cases e1 : fs e M with
  | none =>
    rw [e1] at run
    exact run
  | some p =>
    obtain ⟨r, M1⟩ := p
    rw [e1] at run
    cases r with
    | err c => exact run
    | ok o =>
      cases o with
      | nx e' => exact run
      | bk e' => exact run
      | ct e' => exact run
      | rt d =>
        cases d with
        | non =>
          intro bs F H v t w r
          cases r
          exact run bs F H t w
        | _ => exact run.elim
theorem zy_plain (h : ZS X W st fs) : ZY1 X W st (gPlain fs) := gs_imp (gs_ps h) fun _ _ _ _ q => plain_conv q
theorem zy_nil : ZYs X W [] gNil := gss_imp gss_nil fun D ys σ H h => by
  obtain ⟨bs0, F0, H0, bs, M, F, e, zs, rfl, a, run⟩ := h
  exact run _ _ _ _ a
theorem zy_cons (h1 : ZY1 X W st f) (h2 : ZYs X W rest g) : ZYs X W (st :: rest) (gSeq f g) := gss_imp (gss_cons h1 h2) fun D ys σ H h => by
  obtain ⟨bs0, F0, H0, bs, M, F, e, zs, rfl, a, run⟩ := h
  refine ⟨bs0, F0, H0, bs, M, F, e, zs, rfl, a, ?_⟩
  unfold gSeq bnd at run
  cases e1 : f e zs M with
  | none =>
    rw [e1] at run
    exact run
  | some p =>
    obtain ⟨r, M1⟩ := p
    rw [e1] at run
    cases r with
    | err c => exact run
    | ok o =>
      cases o with
      | nx e' zs' => exact fun bs1 F1 H1 σ1 a1 => ⟨bs0, F0, H0, bs1, M1, F1, e', zs', rfl, a1, run⟩
      | rt zs' => exact run
      | bk e' zs' => exact run
      | ct e' zs' => exact run
theorem zy_yield (he : ZE X W ex fe) (hco : X.env.scope.isCoroutine = false := by rfl) (hi : interactive X.env = false := by rfl) : ZY1 X W (.Expr (.Yield (some ex) yp) pos) (gYield fe) := gs_imp (gs_yield he hco hi) fun D ys σ H h => by
  obtain ⟨bs0, F0, H0, bs, M, F, e, zs, rfl, a, run⟩ := h
  unfold gYield at run
  by_cases hl : zs.length < 1000
  · rw [if_pos hl] at run
    refine ⟨?_, bs, M, F, e, a.at, (run.bind a).imp fun d bs1 M1 F1 H1 t1 w1 q v r => ?_⟩
    · show (zs.map V.int).length < sizeLine
      rw [List.length_map, sizeLine_eq]
      omega
    · obtain ⟨a1, run1⟩ := q
      cases d with
      | int i =>
        cases r
        have := run1 _ _ _ _ a1
        unfold gV at this
        rw [List.map_append] at this
        exact this
      | _ => exact run1.elim
  · rw [if_neg hl] at run
    exact run.elim
theorem zy_for {tg iter : Expr} {body : List Stmt} {fi : DA} {t : Tg} {fb : DG} (hp : PassesOwn (model X.prog X.w) X.A X.env X.xe) (hc : X.calm = true) (hi : ZI X W tg iter fi) (hg : ZG X tg t) (hb : ZYs X W body fb)
    (hs : ∀ x, foldedSetIterable iter X.env x = pure x := by intro _; rfl) : ZY1 X W (.For tg iter body [] pos) (gFor fi t fb) := gs_imp (ZH.gs_for hp hc hi hg hb hs) fun Dn ys σ H h => by
  obtain ⟨bs0, F0, H0, bs, M, F, e, zs, rfl, a, run⟩ := h
  refine ⟨bs, M, F, e, a.at, (run.bind a).imp fun items bs1 M1 F1 H1 t1 w1 q J it => ?_⟩
  obtain ⟨a1, run1⟩ := q
  have run2 := run1.rebase a1.1
  refine ⟨fun i m ys σ H => m = items.length - i ∧ i ≤ items.length ∧ ∃ bs M F e zs, ys = gV zs ∧ AtS X.K bs1 F1 H0 bs M F H σ e ∧ RunG X.K W bs1 F1 H0 (gLoop t fb (items.drop i) e zs M) Dn, ⟨_, rfl, Nat.zero_le _, bs1, M1, F1, e, zs, rfl, a1.rebase, run2⟩, ?_⟩
  rintro i m ys2 σ2 H2 ⟨rfl, hi2, bs2, M2, F2, e2, zs2, rfl, a2, r2⟩
  obtain ⟨more, eb, _⟩ := a2.1.pre
  by_cases hlt : i < items.length
  · have ed : items.drop i = items[i] :: items.drop (i + 1) := List.drop_eq_getElem_cons hlt
    rw [ed] at r2
    refine .inr ⟨it.go F2 H2 a2.1.fm a2.2.1.sub i hlt, fun ys' σ' H' => ∃ bs M F e zs, ys' = gV zs ∧ AtS X.K bs1 F1 H0 bs M F H' σ' e ∧ RunG X.K W bs1 F1 H0 (gLoop t fb (items.drop (i + 1)) e zs M) Dn, fun ys' σ' H' n => ⟨_, by omega, rfl, hlt, n⟩, fun x H3 y => ?_⟩
    obtain ⟨F3, t3, w3, r3⟩ := it.yld more F2 H2 M2 a2.1.fm (eb ▸ a2.2.1) i x H3 items[i] (List.getElem?_eq_getElem hlt) y
    rw [← eb] at t3 w3 r3
    have a3 := a2.tr t3 w3
    unfold gLoop at r2
    cases e1 : asg t items[i] e2 with
    | none =>
      rw [e1] at r2
      exact r2.elim
    | some e4 =>
      rw [e1] at r2
      refine asg_step a3 r3 e1 fun σ4 a4 _ => ⟨bs1, F1, H0, bs2, M2, F3, e4, zs2, rfl, a4, ?_⟩
      unfold bnd lft at r2
      simp only at r2
      cases e5 : fb e4 zs2 M2 with
      | none =>
        rw [e5] at r2
        exact r2
      | some p =>
        obtain ⟨r, M5⟩ := p
        rw [e5] at r2
        cases r with
        | err c => exact r2
        | ok o =>
          cases o with
          | bk e6 zs6 => exact fun bs F H σ a => r2 bs F H σ a
          | nx e6 zs6 => exact fun bs F H σ a => ⟨bs, M5, F, e6, zs6, rfl, a, r2⟩
          | ct e6 zs6 => exact fun bs F H σ a => ⟨bs, M5, F, e6, zs6, rfl, a, r2⟩
          | rt zs6 => exact r2
  · have e0 : i = items.length := by omega
    refine .inl ⟨by rw [e0]; exact it.stop F2 H2 a2.1.fm a2.2.1.sub, ?_⟩
    rw [e0, List.drop_length] at r2
    exact r2 _ _ _ _ a2
end
/-! ### generator defs -/
abbrev DF' := List D → MS → Option (List Int × MS)
def mkGF (n : Nat) (f : DG) : DF' := fun ds M => match f (ds.map Sl.v ++ List.replicate (n - ds.length) .no) [] M with
  | some (.ok (.nx _ zs), M') => some (zs, M')
  | some (.ok (.rt zs), M') => some (zs, M')
  | _ => none
def spG (K : PySem.W.Frag) (n : Nat) (gf : DF') : SpG := fun vs H Q _ => ∃ bs M F ds, Wd K bs M F H ∧ Reps K bs F vs ds ∧ ds.length = n ∧ match gf ds M with
  | some (zs, M') => ∀ bs' F' H', Tr bs F H bs' F' H' → Wd K bs' M' F' H' → Q (gV zs) H'
  | none => False
section
variable {P : Program} {w : World} {K : PySem.W.Frag} {mg : Str → Option Value} {base : Heap}
theorem gen_lift {N : List Str} {f : DG} {n : Nat} {vs : List V} {H : Hp} {Q : List V → Hp → Prop} {E : XK} (h : spG K n (mkGF N.length f) vs H Q E) : liftG K W0 f { nx := fun ys _ H' => Q ys H', rt := fun ys v H' => v = .non ∧ Q ys H' } [] (L2.start N vs) H := by
  obtain ⟨bs, M, F, ds, wd, r, hn, run⟩ := h
  refine ⟨bs, F, H, bs, M, F, ds.map Sl.v ++ List.replicate (N.length - ds.length) .no, [], rfl, ⟨Tr.refl _ _ _, wd, [], ?_, by simp⟩, ?_⟩
  · unfold L2.start
    rw [r.length]
    exact slots_start (N := N) _ r
  · unfold mkGF at run
    split at run
    · rename_i zs M' e0
      split at e0
      · rename_i e' zs' M2 e1
        cases e0
        rw [e1]
        exact fun bs' F' H' σ' a => run bs' F' H' a.1 a.2.1
      · rename_i zs' M2 e1
        cases e0
        rw [e1]
        exact fun bs' F' H' t w => ⟨rfl, run bs' F' H' t w⟩
      · cases e0
    · exact run.elim
/-- a generator def -/
theorem genZ {x qual : Str} {st : Stmt} {f : Addr} {fd : FuncData} {N ps : List Str} {k : Nat} {fb : DG} (G : Fun K x qual st f fd) (S : GScope N ps (defScope st))
    (h : ∀ (cdv : Value) (A : Around) (outer : List Env) (s : Shared) (H : Hp) (E : XK) (pn : List (Addr × Obj)), Room k (A.deeper (envOfC qual (defScope st) s.heap.objs.size f cdv)) → ZYs (gcxOf P w K mg base N qual (defScope st) f cdv A outer s H E pn) W0 (defBody st) fb) :
    GFn P w K mg base (k + 1) f fd ps (spG K ps.length (mkGF N.length fb)) := by
  obtain ⟨oc, od, kV, doc, pm, an, cdv, ct, osl, rfl, lk, hcd⟩ := G.ex
  refine gfn_of lk hcd S (fun vs H Q E q => ?_) fun A outer s H vs Q E pn hr q => ⟨_, h cdv A outer s H E pn hr, gen_lift q⟩
  obtain ⟨bs, M, F, ds, wd, r, hn, run⟩ := q
  rw [r.length]
  exact hn
end
def outG (o : Option (List Int × MS)) : Option (Rs D × MS) := match o with
  | some (zs, M) => some (.ok (.lst (zs.map .int)), M)
  | none => none
def dListG (gf : DF') (g : DA) : DE := fun e => bnd (g e) fun xs M => outG (gf xs M)
section
variable {X : Cx} {W : Wi} {k n : Nat} {f : Addr} {fd : FuncData} {ps : List Str} {gf : DF'} {x : Str} {p pos p2 pos2 : Pos} {e : Expr} {es : List Expr} {g : DA}
/-- list(f(..)) -/
theorem ze_listG (G : GFn X.prog X.w X.K X.mg X.base k f fd ps (spG X.K n gf)) (hr : Room (k + 3) X.A) (hg : Gl X x) (hm : X.mg x = some (.ref f)) (hk : PySem.W.keepIn X.K (.ref f) = true) (hb : Binds X.K fd ps []) (hgl : Gl X "list") (hml : X.mg "list" = none)
    (ha : ZA X W (e :: es) g) (hn : LenA g n) (hdb : (x == ("__debug__" : Str)) = false := by decide) (he : starEach (e :: es) X.env = (false, eval e X.env) :: starEach es X.env := by rfl) (hpl : (backTo pos (starEach es X.env)).any (·.1) = false := by rfl)
    (he2 : starEach [.Call (.Name x p) (e :: es) [] pos] X.env = (false, eval (.Call (.Name x p) (e :: es) [] pos) X.env) :: starEach [] X.env := by rfl) :
    ZE X W (.Call (.Name "list" p2) [.Call (.Name x p) (e :: es) [] pos] [] pos2) (dListG gf g) :=
  ⟨fun pins s σ H Q I h => (pe_listG (E := E0) (pgen_call G (hr.mono (Nat.le_add_right _ _)) hg hm hk hb .nil ha hdb he hpl) (fun _ _ _ _ _ _ _ h => by
    obtain ⟨_, _, _, _, _, _, _, _, _, _, _, _, z⟩ := h
    exact z.elim) (fun _ _ _ z => z.elim) hr hgl hml (by decide +kernel) (by decide) (by decide) he2).run pins s σ H Q I (by
    obtain ⟨bs, M, F, ev, at0, run⟩ := h
    have rb := run.bind
    refine ⟨bs, M, F, ev, at0, ?_⟩
    match e1 : g ev M, rb with
    | some (.err c, M1), rb => exact rb
    | some (.ok ds, M1), rb =>
      intro bs1 F1 H1 t1 w1 vs r1
      rw [List.append_nil]
      refine ⟨bs1, M1, F1, ds, w1, r1, hn _ _ _ _ e1, ?_⟩
      have rb2 : Run X.K W bs1 F1 H1 σ (outG (gf ds M1)) (qE X.K Q) := rb bs1 F1 H1 t1 w1
      cases e2 : gf ds M1 with
      | none =>
        rw [e2] at rb2
        exact rb2.elim
      | some p =>
        obtain ⟨zs, M2⟩ := p
        rw [e2] at rb2
        intro bs2 F2 H2 t2 w2 q hq
        obtain ⟨w3, t3⟩ := w2.laid (.lst (gV zs)) hq
        exact rb2 _ _ _ (t2.trans t3) w3 _ (.lst upd_same (Reps.of_ints zs)))⟩
end
end Z

/-! ZV1: bool(o), len(o) of an own class -/
namespace ZH
open PySem PySem.Spec PyProof.Rows L2
section
variable {X : Cx} {CX : CXT} {k : Nat} {C g a dx : Addr} {fd : FuncData} {ps : List Str} {sp : Sp} {pins : List (Addr × Obj)} {σ : L2.St} {H : Hp} {s : Shared} {fs : List (Str × V)}
/-- a def that lets nothing out, called deeper -/
theorem run_at {A : Around} {us : List Value} {vs : List V} {Q : VK} {E' : Value → Shared → Prop} (Fn : FnOk X.prog X.w X.K X.mg X.base CX k g fd ps sp) (hr : Room k A) (e0 : Env0 X.prog X.w X.K X.mg X.base A X.stack s H) (hb : Binds X.K fd ps []) (hx : Passes CX X.nox E0)
    (I : Inv X pins σ H s) (r : Vals vs us) (h : sp vs H Q E0) : wpAny (model X.prog X.w) A (call (.ref g) us) (EP X pins σ Q) E' s := by
  have hl : us.length = ps.length := by
    rw [← r.length]
    exact Fn.len _ _ _ _ h
  have bt := hb s us I.kIn (by simpa using hl)
  rw [List.append_nil] at bt
  refine wpAny_call (codeAny_mono (Fn.run A X.stack s H ⟨us, []⟩ us vs Q E0 hr e0 bt r h) fun res s1 hq => ?_)
  match res, hq with
  | .ok (.ret u), hq => exact I.after hq
  | .error er, hq => exact (hx pins σ H s er s1 (I.wish _) hq).elim
  | .ok .next, hq => exact hq.elim
  | .ok .brk, hq => exact hq.elim
  | .ok .cont, hq => exact hq.elim
/-- an own __bool__ -/
theorem truth_own {A : Around} {Q : VK} {R : Bool → Shared → Prop} {E' : Value → Shared → Prop} (Fn : FnOk X.prog X.w X.K X.mg X.base CX k g fd ps sp) (hr : Room k A) (e0 : Env0 X.prog X.w X.K X.mg X.base A X.stack s H) (hb : Binds X.K fd ps []) (hx : Passes CX X.nox E0) (I : Inv X pins σ H s)
    (ea : H a = some (.ins C dx fs)) (hs : PySem.W.findIn X.K (.ref C) "__bool__" = some (some (.ref g))) (hf : PySem.W.isFn X.K (.ref g) = true) (h : sp [.ref a] H (fun v H' => ∃ b, v = .bl b ∧ Q (.bl b) H') E0)
    (hQ : ∀ b s1 H1, Inv X pins σ H1 s1 → Q (.bl b) H1 → R b s1) : wpAny (model X.prog X.w) A (truthy (.ref a)) R E' s := by
  obtain ⟨mA, O, _⟩ := ins_get I.hok ea
  obtain ⟨od, J, _⟩ := O.look
  obtain ⟨m, hF⟩ := I.fr
  refine PySem.W.truthy_K hF I.ok.mod.kin J hs hf (wpAny_mono (run_at (us := [.ref a]) (vs := [.ref a]) Fn hr e0 hb hx I (.cons rfl .nil) h) (fun u s1 hu => ?_) fun _ _ z => z)
  obtain ⟨v, H1, I1, rv, b, rfl, q⟩ := hu
  cases rv
  exact hQ b s1 H1 I1 q
/-- bool(o) -/
theorem call_boolO (Fn : FnOk X.prog X.w X.K X.mg X.base CX k g fd ps sp) (hr : Room (k + 2) X.A) (hb : Binds X.K fd ps []) (hx : Passes CX X.nox E0) (hs : PySem.W.findIn X.K (.ref C) "__bool__" = some (some (.ref g))) (hf : PySem.W.isFn X.K (.ref g) = true) :
    CallR X (.type "bool") (fun xs H Q => ∃ a dx fs, xs = [.ref a] ∧ H a = some (.ins C dx fs) ∧ sp [.ref a] H (fun v H' => ∃ b, v = .bl b ∧ Q (.bl b) H') E0) := by
  intro pins s σ H xs us Q I r h
  obtain ⟨a, dx, fs, rfl, ea, h⟩ := h
  rw [Vals.ref1 r]
  refine callType_codes (Q₁ := fun obj s1 => ∃ b H1, obj = .bool b ∧ Inv X pins σ H1 s1 ∧ Q (.bl b) H1) PySem.F.called_bool (PySem.F.typeCall_bool_1 _) PySem.F.entry_object_init
    (codeAny_call_builtin PySem.F.called_bool.plain PySem.F.entry_bool_new (wpAny_of_eq (PySem.F.newCall_bool_1 _) ?_)) fun obj s1 h1 => ?_
  · have key : wpAny (model X.prog X.w) X.A.in1.in1 (truthy (.ref a)) (fun b s1 => ∃ H1, Inv X pins σ H1 s1 ∧ Q (.bl b) H1) X.xe s := truth_own Fn (hr.in1.in1) I.env0.in1.in1 hb hx I ea hs hf h fun b s1 H1 I1 q => ⟨H1, I1, q⟩
    have f1 := PySem.F.conv_sub_bool
    show wpAny (model X.prog X.w) X.A.in1.in1 (Builtin.«bool.__new__» ⟨[.type "bool", .ref a], []⟩) _ _ s
    unfold Builtin.«bool.__new__»
    refine wpAny_bind (m := isType (.type "bool")) (wpAny_of_eq (a := true) (by first | rfl | kernel_rfl) ?_)
    refine wpAny_bind (wpAny_of_eq f1 ?_)
    refine wpAny_bind (wpAny_of_eq (a := [Value.ref a]) (by first | rfl | kernel_rfl) ?_)
    refine wpAny_bind (wpAny_mono key (fun b s1 ⟨H1, I1, q⟩ => ?_) fun _ _ z => z)
    exact wpAny_pure ⟨b, H1, rfl, I1, q⟩
  · obtain ⟨b, H1, rfl, I1, q⟩ := h1
    refine ⟨rfl, PySem.F.args_object_init_2 _ _, ?_⟩
    exact object_init_meets (T := "bool") (self := .bool b) (rest := [.ref a]) PySem.F.called_bool.init.lookup PySem.F.called_bool.made PySem.F.newNe_bool X.prog X.w X.A.in1 _ s1 ⟨rfl, rfl, .bl b, H1, I1, rfl, q⟩
/-- len(o) -/
theorem call_lenO (Fn : FnOk X.prog X.w X.K X.mg X.base CX k g fd ps sp) (hr : Room (k + 1) X.A) (hb : Binds X.K fd ps []) (hx : Passes CX X.nox E0) (hs : PySem.W.findIn X.K (.ref C) "__len__" = some (some (.ref g))) (hf : PySem.W.isFn X.K (.ref g) = true) :
    CallR X (.builtin "len") (fun xs H Q => ∃ a dx fs, xs = [.ref a] ∧ H a = some (.ins C dx fs) ∧ sp [.ref a] H (fun v H' => ∃ n : Int, v = .int n ∧ (0 ≤ n ∧ n < 2 ^ 63) ∧ Q (.int n) H') E0) := by
  intro pins s σ H xs us Q I r h
  obtain ⟨a, dx, fs, rfl, ea, h⟩ := h
  rw [Vals.ref1 r]
  obtain ⟨mA, O, _⟩ := ins_get I.hok ea
  obtain ⟨od, J, _⟩ := O.look
  obtain ⟨m, hF⟩ := I.fr
  refine PySem.W.len_K hF I.ok.mod.kin J hs hf (wpAny_mono (run_at (us := [.ref a]) (vs := [.ref a]) Fn hr.in1 I.env0.in1 hb hx I (.cons rfl .nil) h) (fun u s1 hu => ?_) fun _ _ z => z)
  obtain ⟨v, H1, I1, rv, n, rfl, hn, q⟩ := hu
  obtain ⟨t, rfl⟩ := rv
  exact ⟨hn, .int n, H1, I1.tok _, ⟨_, rfl⟩, q⟩
end
end ZH

/-! ZV2: contracts: objects of one class whose only attribute is a list of states -/
namespace Z
open PySem PySem.Spec PyProof.Rows L2
variable [Tbs]
/-- a context takes what such defs let out -/
structure WhC (CX : CXT) (wf : WishF) (X : Cx) (W : Wi) : Prop where
  ex : ∃ E, Passes CX X E ∧ ∀ c σ H, W c σ H → wf E c H
theorem whC0 {X : Cx} : WhC CX0 wf0 X W0 := ⟨E0, pass0, fun _ _ _ z => z.elim⟩
/-- the class -/
structure ClsK (K : PySem.W.Frag) (mg : Str → Option Value) (C : Addr) : Prop where
  c : Cls K C
  g : mg "Contract" = some (.ref C)
  n : PySem.W.nsIn K mainGlobals "Contract" = some (some (.ref C))
  s : NoAttr K C "states"
section
variable {K : PySem.W.Frag} {mg : Str → Option Value} {C : Addr} {bs : List Addr} {F : Hp} {v : V} {i : Nat}
theorem con_inv (c : ClsK K mg C) (r : Rep K bs F v (.con i)) : ∃ a dx b, v = .ref a ∧ F a = some (.ins C dx [(("states" : Str), .ref b)]) ∧ bs[i]? = some b := by
  cases r with
  | con hC h hb =>
    rw [c.n] at hC
    cases hC
    exact ⟨_, _, _, rfl, h, hb⟩
end
def dStates (f : DE) : DE := fun e => bnd (f e) fun x => match x with
  | .con i => ret (.obj i)
  | _ => stuck
def dMeth (df : DF) (dds : List D) (f : DE) (g : DA) : DE := fun e => bnd (f e) fun x => match x with
  | .con i => bnd (g e) fun xs => df (.con i :: (xs ++ dds))
  | _ => stuck
def dMethS (df : DF) (f : DE) (g : DA) : DE := fun e => bnd (f e) fun x => match x with
  | .con i => bnd (g e) fun xs => if xs.length ≤ 1000 then df [.con i, .tup xs] else stuck
  | _ => stuck
def dProp (df : DF) (f : DE) : DE := fun e => bnd (f e) fun x => match x with
  | .con i => noErr (df [.con i])
  | _ => stuck
def asBl (d : D) : Mo D := match d with
  | .bl b => ret (.bl b)
  | _ => stuck
def asLen (d : D) : Mo D := match d with
  | .int n => if 0 ≤ n ∧ n < 1000000 then ret (.int n) else stuck
  | _ => stuck
def dBoolO (df : DF) (f : DE) : DE := fun e => bnd (dProp df f e) asBl
def dLenO (df : DF) (f : DE) : DE := fun e => bnd (dProp df f e) asLen
def bool1 : F1 := fun ds _ => match ds with
  | [.bl b] => some (.bl b)
  | _ => none
section
variable {X : Cx} {W : Wi} {CX : CXT} {wf : WishF} {k n : Nat} {C ga pr : Addr} {fd : FuncData} {ps : List Str} {df : DF} {m : Str} {o e : Expr} {es : List Expr} {f : DE} {g : DA} {p apos pos : Pos}
/-- o.states -/
theorem ze_states (c : ClsK X.K X.mg C) (hf : ZE X W e f) (hb : attributeBase e "states" X.env (eval e X.env) = eval e X.env := by rfl) : ZE X W (.Attribute e "states" pos) (dStates f) :=
  ⟨fun pins s σ H Q I h => (pe_fld hf hb).run pins s σ H Q I (by
    obtain ⟨bs, M, F, ev, at0, run⟩ := h
    refine ⟨bs, M, F, ev, at0, run.bind.imp fun x bs1 M1 F1 H1 t1 w1 run1 v r => ?_⟩
    cases x with
    | con i =>
      obtain ⟨a, dx, b, rfl, ha, hb⟩ := con_inv c r
      exact ⟨a, C, dx, _, .ref b, rfl, w1.sub _ _ ha, c.c, c.s, rfl, Run.here w1 run1 _ (.obj hb)⟩
    | _ => exact run1.elim)⟩
theorem look_no {b : Addr} (h : (m == ("states" : Str)) = false) : ([(("states" : Str), V.ref b)] : List (Str × V)).lookup m = none := by
  simp only [List.lookup, h]
/-- o.m(e, ..) -/
theorem ze_meth {mm : Nat} {dvs : List V} {ds : List Value} {dds : List D} (wh : WhC CX wf X W) (c : ClsK X.K X.mg C) (hm : Meth X.K C m ga) (G : FnOk X.prog X.w X.K X.mg X.base CX k ga fd ps (spZ X.K wf n df)) (hr : Room k X.A) (hb : Binds X.K fd ps ds) (hd : Vals dvs ds) (hdd : ∀ bs F, Reps X.K bs F dvs dds)
    (ho : ZE X W o f) (ha : ZA X W (e :: es) g) (hn : LenA g mm) (hmn : mm + dds.length + 1 = n) (hms : (m == ("states" : Str)) = false := by decide) {pl : Sem Bool}
    (hst : starEach (e :: es) X.env = (false, eval e X.env) :: starEach es X.env := by rfl) (hpl : (backTo pos (starEach es X.env)).any (·.1) = false := by rfl)
    (ht : eval (.Call (.Attribute o m apos) (e :: es) [] pos) X.env = (do
      let ov ← eval o X.env
      standAt apos.atName
      let (f, first) ← holding [ov] (getMethod ov m pl)
      callWith pos f first (backTo pos (starEach (e :: es) X.env)) (backToKw pos (keywordEach [] X.env))) := by rfl) :
    ZE X W (.Call (.Attribute o m apos) (e :: es) [] pos) (dMeth df dds f g) :=
  ⟨fun pins s σ H Q I h => by
    obtain ⟨E, hx, hW⟩ := wh.ex
    refine (pe_meth (E := E) ho c.c hm G hr hb hd hx ha hst hpl ht).run pins s σ H Q I ?_
    obtain ⟨bs, M, F, ev, at0, run⟩ := h
    refine ⟨bs, M, F, ev, at0, run.bind.imp fun x bs1 M1 F1 H1 t1 w1 run1 v r => ?_⟩
    cases x with
    | con i =>
      obtain ⟨a, dx, b, rfl, hF, hb⟩ := con_inv c r
      refine ⟨a, dx, _, rfl, w1.sub _ _ hF, look_no hms, bs1, M1, F1, ev, at0.tr t1 w1, ?_⟩
      have rb := run1.bind
      match e1 : g ev M1, rb with
      | some (.err cc, M2), rb => exact rb
      | some (.ok xs, M2), rb =>
        intro bs2 F2 H2 t2 w2 us r2
        exact ⟨bs2, M2, F2, .con i :: (xs ++ dds), w2, .cons (r.tr t2) (r2.append (hdd _ _)), by rw [List.length_cons, List.length_append, hn _ _ _ _ e1]; exact hmn, (rb bs2 F2 H2 t2 w2).wish fun c H' z => hW c σ H' z⟩
    | _ => exact run1.elim⟩
/-- o.m() -/
theorem ze_meth0 {dvs : List V} {ds : List Value} {dds : List D} (wh : WhC CX wf X W) (c : ClsK X.K X.mg C) (hm : Meth X.K C m ga) (G : FnOk X.prog X.w X.K X.mg X.base CX k ga fd ps (spZ X.K wf n df)) (hr : Room k X.A) (hb : Binds X.K fd ps ds) (hd : Vals dvs ds) (hdd : ∀ bs F, Reps X.K bs F dvs dds)
    (ho : ZE X W o f) (hmn : dds.length + 1 = n) (hms : (m == ("states" : Str)) = false := by decide) {pl : Sem Bool}
    (ht : eval (.Call (.Attribute o m apos) [] [] pos) X.env = (do
      let ov ← eval o X.env
      standAt apos.atName
      let (f, first) ← holding [ov] (getMethod ov m pl)
      callWith pos f first (backTo pos (starEach [] X.env)) (backToKw pos (keywordEach [] X.env))) := by rfl) :
    ZE X W (.Call (.Attribute o m apos) [] [] pos) (dMeth df dds f dNil) :=
  ⟨fun pins s σ H Q I h => by
    obtain ⟨E, hx, hW⟩ := wh.ex
    refine (pe_meth0 (E := E) ho c.c hm G hr hb hd hx ht).run pins s σ H Q I ?_
    obtain ⟨bs, M, F, ev, at0, run⟩ := h
    refine ⟨bs, M, F, ev, at0, run.bind.imp fun x bs1 M1 F1 H1 t1 w1 run1 v r => ?_⟩
    cases x with
    | con i =>
      obtain ⟨a, dx, b, rfl, hF, hb⟩ := con_inv c r
      refine ⟨a, dx, _, rfl, w1.sub _ _ hF, look_no hms, ?_⟩
      exact ⟨bs1, M1, F1, .con i :: ([] ++ dds), w1, .cons r (hdd _ _), by rw [List.length_cons, List.nil_append]; exact hmn, (show Run X.K W bs1 F1 H1 σ (df (.con i :: ([] ++ dds)) M1) (qE X.K Q) from run1).wish fun c H' z => hW c σ H' z⟩
    | _ => exact run1.elim⟩
/-- o.m(e, ..), m with *args -/
theorem ze_methS (wh : WhC CX wf X W) (c : ClsK X.K X.mg C) (hm : Meth X.K C m ga) (G : FnR X.prog X.w X.K X.mg X.base CX k ga (spS X.K wf 1 df)) (hr : Room k X.A)
    (ho : ZE X W o f) (ha : ZA X W (e :: es) g) (hms : (m == ("states" : Str)) = false := by decide) {pl : Sem Bool}
    (hst : starEach (e :: es) X.env = (false, eval e X.env) :: starEach es X.env := by rfl) (hpl : (backTo pos (starEach es X.env)).any (·.1) = false := by rfl)
    (ht : eval (.Call (.Attribute o m apos) (e :: es) [] pos) X.env = (do
      let ov ← eval o X.env
      standAt apos.atName
      let (f, first) ← holding [ov] (getMethod ov m pl)
      callWith pos f first (backTo pos (starEach (e :: es) X.env)) (backToKw pos (keywordEach [] X.env))) := by rfl) :
    ZE X W (.Call (.Attribute o m apos) (e :: es) [] pos) (dMethS df f g) :=
  ⟨fun pins s σ H Q I h => by
    obtain ⟨E, hx, hW⟩ := wh.ex
    refine (pe_methR (E := E) ho c.c hm G hr hx ha hst hpl ht).run pins s σ H Q I ?_
    obtain ⟨bs, M, F, ev, at0, run⟩ := h
    refine ⟨bs, M, F, ev, at0, run.bind.imp fun x bs1 M1 F1 H1 t1 w1 run1 v r => ?_⟩
    cases x with
    | con i =>
      obtain ⟨a, dx, b, rfl, hF, hb⟩ := con_inv c r
      refine ⟨a, dx, _, rfl, w1.sub _ _ hF, look_no hms, bs1, M1, F1, ev, at0.tr t1 w1, ?_⟩
      have rb := run1.bind
      match e1 : g ev M1, rb with
      | some (.err cc, M2), rb => exact rb
      | some (.ok xs, M2), rb =>
        intro bs2 F2 H2 t2 w2 us r2
        have rb2 := rb bs2 F2 H2 t2 w2
        by_cases hl : xs.length ≤ 1000
        · simp only [hl, if_true] at rb2
          exact ⟨bs2, M2, F2, [.con i], xs, w2, .cons (r.tr t2) r2, rfl, by omega, rb2.wish fun c H' z => hW c σ H' z⟩
        · simp only [hl, if_false] at rb2
          exact rb2.elim
    | _ => exact run1.elim⟩
/-- o.f, a property -/
theorem ze_prop {x : Str} (hx : Passes CX X.nox E0) (c : ClsK X.K X.mg C) (hp : PropOf X.K C x pr ga) (G : FnOk X.prog X.w X.K X.mg X.base CX k ga fd ps (spZ X.K wf 1 df)) (hr : Room (k + 1) X.A) (hb : Binds X.K fd ps []) (hf : ZE X W e f)
    (hab : attributeBase e x X.env (eval e X.env) = eval e X.env := by rfl) : ZE X W (.Attribute e x pos) (dProp df f) :=
  ⟨fun pins s σ H Q I h => (pe_prop (E := E0) hf c.c hp G hr hb .nil hx hab).run pins s σ H Q I (by
    obtain ⟨bs, M, F, ev, at0, run⟩ := h
    refine ⟨bs, M, F, ev, at0, run.bind.imp fun x bs1 M1 F1 H1 t1 w1 run1 v r => ?_⟩
    cases x with
    | con i =>
      obtain ⟨a, dx, b, rfl, hF, hb⟩ := con_inv c r
      exact ⟨a, dx, _, rfl, w1.sub _ _ hF, bs1, M1, F1, [.con i], w1, .cons r .nil, rfl, (Run.noErr (σ' := []) run1).wish fun c H' z => z.elim⟩
    | _ => exact run1.elim)⟩
end
end Z

/-! ZV3: contracts: truth and length, states behind one another, new contracts -/
namespace Z
open PySem PySem.Spec PyProof.Rows L2
variable [Tbs]
section
variable {X : Cx} {W : Wi} {CX : CXT} {wf : WishF} {k n : Nat} {C ga pr : Addr} {fd : FuncData} {ps : List Str} {df : DF} {m : Str} {o e : Expr} {es : List Expr} {f fe : DE} {g : DA} {p apos pos pos' : Pos}
theorem cr_bool1 : CallR X (.type "bool") (fun xs H Q => ∃ b, xs = [.bl b] ∧ Q (.bl b) H) := by
  intro pins s σ H xs us Q I r h
  obtain ⟨b, rfl, q⟩ := h
  cases r with
  | cons r1 r2 =>
    cases r1
    cases r2
    exact call_bool_bool ⟨.bl b, H, I, rfl, q⟩
theorem z_bool1 : CallZ X.K (fun xs H Q => ∃ b, xs = [.bl b] ∧ Q (.bl b) H) bool1 := by
  intro bs M F H xs ds z Q w r ez q
  unfold bool1 at ez
  split at ez
  · cases ez
    obtain ⟨v, rfl, rr⟩ := r.one
    cases rr
    exact ⟨_, rfl, q _ bs F H (Tr.refl _ _ _) w (.bl _)⟩
  · cases ez
/-- bool(o) -/
theorem ze_boolO (hx : Passes CX X.nox E0) (c : ClsK X.K X.mg C) (hs : PySem.W.findIn X.K (.ref C) "__bool__" = some (some (.ref ga))) (hfn : PySem.W.isFn X.K (.ref ga) = true) (G : FnOk X.prog X.w X.K X.mg X.base CX k ga fd ps (spZ X.K wf 1 df)) (hr : Room (k + 2) X.A) (hb : Binds X.K fd ps []) (hg : Gl X "bool") (hm : X.mg "bool" = none) (hf : ZE X W e f)
    (he : starEach [e] X.env = (false, eval e X.env) :: starEach [] X.env := by rfl) (hpl : (backTo pos (starEach [] X.env)).any (·.1) = false := by rfl) : ZE X W (.Call (.Name "bool" p) [e] [] pos) (dBoolO df f) :=
  ⟨fun pins s σ H Q I h => (pe_callTy (ZH.call_boolO (C := C) G hr hb hx hs hfn) hg hm (by decide +kernel) (pa_cons hf pa_nil he) (by decide) (by decide) he hpl).run pins s σ H Q I (by
    obtain ⟨bs, M, F, ev, at0, run⟩ := h
    have rc : Run X.K W bs F H σ (bnd (f ev) (fun x => bnd (match x with
      | .con i => noErr (df [.con i])
      | _ => stuck) asBl) M) (qE X.K Q) := by
      have := run
      unfold dBoolO dProp at this
      rw [bnd_assoc] at this
      exact this
    refine ⟨bs, M, F, ev, at0, rc.bind.imp fun x bs1 M1 F1 H1 t1 w1 run1 v r => ?_⟩
    cases x with
    | con i =>
      obtain ⟨a, dx, b, rfl, hF, hb⟩ := con_inv c r
      refine ⟨a, dx, _, rfl, w1.sub _ _ hF, bs1, M1, F1, [.con i], w1, .cons r .nil, rfl, ?_⟩
      refine ((Run.noErr (σ' := []) run1.bind).imp fun d bs2 M2 F2 H2 t2 w2 q v rv => ?_).wish fun c H' z => z.elim
      cases d with
      | bl b =>
        cases rv
        exact ⟨b, rfl, Run.here w2 q _ (.bl b)⟩
      | _ => exact q.elim
    | _ => exact run1.elim)⟩
/-- len(o) -/
theorem ze_lenO (hx : Passes CX X.nox E0) (c : ClsK X.K X.mg C) (hs : PySem.W.findIn X.K (.ref C) "__len__" = some (some (.ref ga))) (hfn : PySem.W.isFn X.K (.ref ga) = true) (G : FnOk X.prog X.w X.K X.mg X.base CX k ga fd ps (spZ X.K wf 1 df)) (hr : Room (k + 1) X.A) (hb : Binds X.K fd ps []) (hg : Gl X "len") (hm : X.mg "len" = none) (hf : ZE X W e f)
    (he : starEach [e] X.env = (false, eval e X.env) :: starEach [] X.env := by rfl) (hpl : (backTo pos (starEach [] X.env)).any (·.1) = false := by rfl) : ZE X W (.Call (.Name "len" p) [e] [] pos) (dLenO df f) :=
  ⟨fun pins s σ H Q I h => (pe_callB (ZH.call_lenO (C := C) G hr hb hx hs hfn) hg hm (by decide +kernel) (pa_cons hf pa_nil he) (by decide) (by decide) he hpl).run pins s σ H Q I (by
    obtain ⟨bs, M, F, ev, at0, run⟩ := h
    have rc : Run X.K W bs F H σ (bnd (f ev) (fun x => bnd (match x with
      | .con i => noErr (df [.con i])
      | _ => stuck) asLen) M) (qE X.K Q) := by
      have := run
      unfold dLenO dProp at this
      rw [bnd_assoc] at this
      exact this
    refine ⟨bs, M, F, ev, at0, rc.bind.imp fun x bs1 M1 F1 H1 t1 w1 run1 v r => ?_⟩
    cases x with
    | con i =>
      obtain ⟨a, dx, b, rfl, hF, hb⟩ := con_inv c r
      refine ⟨a, dx, _, rfl, w1.sub _ _ hF, bs1, M1, F1, [.con i], w1, .cons r .nil, rfl, ?_⟩
      refine ((Run.noErr (σ' := []) run1.bind).imp fun d bs2 M2 F2 H2 t2 w2 q v rv => ?_).wish fun c H' z => z.elim
      cases d with
      | int j =>
        cases rv
        have q : Run X.K W bs2 F2 H2 σ ((if 0 ≤ j ∧ j < 1000000 then ret (.int j) else stuck) M2) (qE X.K Q) := q
        by_cases hj : 0 ≤ j ∧ j < 1000000
        · rw [if_pos hj] at q
          exact ⟨j, rfl, ⟨by omega, by omega⟩, Run.here w2 q _ (.int j)⟩
        · rw [if_neg hj] at q
          exact q.elim
      | _ => exact q.elim
    | _ => exact run1.elim)⟩
/-! ### states behind one another -/
def pushK (e : Ev) (i : Nat) (d : D) : Mo Oc := fun M => match M[i]? with
  | some xs => if xs.length < 100000 then some (.ok (.nx e), M.set i (xs ++ [d])) else none
  | none => none
def dPush (fo fe : DE) : DS := fun e => bnd (fo e) fun x => match x with
  | .obj i => bnd (fe e) fun d => pushK e i d
  | _ => stuck
def popK (e : Ev) (i : Nat) : Mo Oc := fun M => match M[i]? with
  | some xs => match xs with
    | [] => none
    | y :: ys => some (.ok (.nx e), M.set i (y :: ys).dropLast)
  | none => none
def dPop (fo : DE) : DS := fun e => bnd (fo e) fun x => match x with
  | .obj i => popK e i
  | _ => stuck
theorem Reps.dropLast {K : PySem.W.Frag} {bs : List Addr} {F : Hp} {vs : List V} {ds : List Z.D} (r : Reps K bs F vs ds) : Reps K bs F vs.dropLast ds.dropLast := by
  rw [List.dropLast_eq_take, List.dropLast_eq_take, r.length]
  exact r.take _
/-- l.append(e) as a statement, l an expression -/
theorem zs_push {ex : Expr} (ho : ZE X W o f) (he : ZE X W ex fe) (hs : swapsWith (.Call (.Attribute o "append" apos) [ex] [] pos') none pos.line X.env = pure false := by rfl)
    (hb : attributeBase o "append" X.env (eval o X.env) = eval o X.env := by rfl) (he1 : starEach [ex] X.env = (false, eval ex X.env) :: starEach [] X.env := by rfl) (hline : (apos.endLine == pos'.line) = true := by rfl)
    (hfew : ((backTo pos' (starEach (ex :: []) X.env)).all (fun x => !x.1) && (backToKw pos' (keywordEach [] X.env)).all (fun x => x.1.isSome)
      && decide ((ex :: []).length + ([] : List Keyword).length + (if ([] : List Keyword).isEmpty then 0 else 1) < 30)) = true := by rfl) :
    ZS X W (.Expr (.Call (.Attribute o "append" apos) [ex] [] pos') pos) (dPush f fe) := ⟨fun pins s σ H Dn I h => (ps_expr (pe_bm PySem.F.plainAttrs_list PySem.F.slot_list_append PySem.F.type_list_append mt_append ho (pa_cons he pa_nil he1) (hbase := hb) (hline := hline) (hfew := hfew) (hs := he1)) hs).run pins s σ H Dn I (by
  obtain ⟨bs0, F0, H0, bs, M, F, e, a, run⟩ := h
  refine ⟨bs, M, F, e, a.at, (run.bind a).imp fun x bs1 M1 F1 H1 t1 w1 q v r => ?_⟩
  obtain ⟨a1, run1⟩ := q
  cases x with
  | obj i =>
    have r2 := run1.bind a1
    cases r with
    | @obj _ b hb =>
      obtain ⟨ds, hm⟩ : ∃ ds, M1[i]? = some ds := by
        have hi : i < bs1.length := (List.getElem?_eq_some_iff.mp hb).1
        exact ⟨_, List.getElem?_eq_getElem (by rw [← w1.len]; exact hi)⟩
      obtain ⟨_, vs0, e0, _⟩ := w1.objs i b ds hb hm
      refine ⟨.inl ⟨rfl, vs0, .inl (.inl e0)⟩, bs1, M1, F1, e, a1.at, r2.imp fun d bs2 M2 F2 H2 t2 w2 q2 u ru => ?_⟩
      obtain ⟨a2, run2⟩ := q2
      have hb2 : bs2[i]? = some b := by
        obtain ⟨more, rfl, _⟩ := t2.pre
        exact getElem?_pre hb
      unfold pushK at run2
      cases hm2 : M2[i]? with
      | none =>
        rw [hm2] at run2
        exact run2.elim
      | some xs =>
        rw [hm2] at run2
        simp only at run2
        by_cases hl : xs.length < 100000
        · rw [if_pos hl] at run2
          obtain ⟨_, vs, e2, rr⟩ := w2.objs i b xs hb2 hm2
          obtain ⟨w3, t3⟩ := w2.write hb2 (rr.append (.cons ru .nil))
          exact ⟨b, vs, u, rfl, rfl, e2, by rw [rr.length, sizeLine_eq]; omega, run2 _ _ _ _ (a2.tr t3 w3)⟩
        · rw [if_neg hl] at run2
          exact run2.elim
  | _ => exact run1.elim)⟩
/-- l.pop() as a statement -/
theorem zs_pop (ho : ZE X W o f) (hs : swapsWith (.Call (.Attribute o "pop" apos) [] [] pos') none pos.line X.env = pure false := by rfl)
    (hb : attributeBase o "pop" X.env (eval o X.env) = eval o X.env := by rfl) (hline : (apos.endLine == pos'.line) = true := by rfl) :
    ZS X W (.Expr (.Call (.Attribute o "pop" apos) [] [] pos') pos) (dPop f) := ⟨fun pins s σ H Dn I h => (ps_expr (pe_bm0 PySem.F.plainAttrs_list PySem.F.slot_list_pop PySem.F.type_list_pop mt_pop ho (hbase := hb) (hline := hline)) hs).run pins s σ H Dn I (by
  obtain ⟨bs0, F0, H0, bs, M, F, e, a, run⟩ := h
  refine ⟨bs, M, F, e, a.at, (run.bind a).imp fun x bs1 M1 F1 H1 t1 w1 q v r => ?_⟩
  obtain ⟨a1, run1⟩ := q
  cases x with
  | obj i =>
    cases r with
    | @obj _ b hb =>
      have run1 : RunS X.K W bs0 F0 H0 (popK e i M1) Dn := run1
      unfold popK at run1
      cases hm : M1[i]? with
      | none =>
        rw [hm] at run1
        exact run1.elim
      | some xs =>
        rw [hm] at run1
        cases xs with
        | nil => exact run1.elim
        | cons y ys =>
          obtain ⟨_, vs, e2, rr⟩ := w1.objs i b _ hb hm
          obtain ⟨w3, t3⟩ := w1.write hb rr.dropLast
          have hne : vs ≠ [] := fun z => by
            rw [z] at rr
            cases rr
          refine ⟨.inl ⟨rfl, vs, .inl (.inl e2)⟩, b, vs, vs.getLast hne, rfl, rfl, e2, ?_, run1 _ _ _ _ (a1.tr t3 w3)⟩
          rw [List.getLast_eq_getElem]
          exact List.getElem?_eq_getElem _
  | _ => exact run1.elim)⟩
end
/-! ### a new contract -/
theorem Tr.put {bs bs' : List Addr} {F H F' H' : Hp} (t : Tr bs F H bs' F' H') {y : Addr} (o : HO) (hy : H y = none) (fy : F' y = none) : Tr bs F H bs' (upd F' y o) (upd H' y o) := by
  refine ⟨t.pre, fun b u e => ?_, fun a u e => ?_, fun a u e n nt => ?_, fun a e => ?_⟩
  · have := t.fm b u e
    rw [upd_ne (ne_of_none this fy)]
    exact this
  · by_cases q : a = y
    · rw [q]
      exact .inr hy
    · rw [upd_ne q] at e
      exact t.new a u e
  · rw [upd_ne (ne_of_none e hy)]
    exact t.keep0 a u e n nt
  · by_cases q : a = y
    · rw [q] at e
      exact absurd hy e
    · rw [upd_ne q]
      exact t.dom a e
theorem Wd.frozen {K : PySem.W.Frag} {bs : List Addr} {M : MS} {F H : Hp} (w : Wd K bs M F H) {y C dx : Addr} {fs : List (Str × V)} (o : HO) (hy : H y = some (.ins C dx fs)) (fy : F y = none) : Wd K bs M (upd F y o) (upd H y o) := by
  have sF : Same F (upd F y o) := fun b u e => by
    rw [upd_ne (ne_of_none e fy)]
    exact e
  refine ⟨fun b u e => ?_, w.nd, w.len, fun i b ds e1 e2 => ?_, tabs_upd w.tab (fun _ e => by rw [hy] at e; cases e) (fun _ e => by rw [hy] at e; cases e), tabF_upd w.tabF w.tab fun _ e => by rw [hy] at e; cases e⟩
  · by_cases q : b = y
    · subst q
      rw [upd_same] at e ⊢
      exact e
    · rw [upd_ne q] at e ⊢
      exact w.sub b u e
  · obtain ⟨n1, vs, e3, r⟩ := w.objs i b ds e1 e2
    have q : b ≠ y := fun z => by
      rw [z, hy] at e3
      cases e3
    refine ⟨by rw [upd_ne q]; exact n1, vs, by rw [upd_ne q]; exact e3, ?_⟩
    have := r.mono (more := []) sF
    rwa [List.append_nil] at this
/-- what __init__ does: fe, then the list of g is the states -/
def mkI (n : Nat) (fe : DE) (g : DA) : List D → Mo (List D) := fun ds => bnd (fe (.no :: (ds.map Sl.v ++ List.replicate (n - 1 - ds.length) .no))) fun _ => bnd (g (.no :: (ds.map Sl.v ++ List.replicate (n - 1 - ds.length) .no))) fun ys => if ys.length ≤ 100000 then ret ys else stuck
def newC (ys : List D) : Mo D := fun M => some (.ok (.con M.length), M ++ [ys])
def dMake (I : List D → Mo (List D)) (g : DA) : DE := fun e => bnd (g e) fun xs => bnd (I xs) newC
def spI (K : PySem.W.Frag) (wf : WishF) (C : Addr) (n : Nat) (I : List D → Mo (List D)) : Sp := fun vs H Q E => ∃ bs M F y dx us ds, vs = .ref y :: us ∧ Wd K bs M F H ∧ Reps K bs F us ds ∧ ds.length + 1 = n ∧ H y = some (.ins C dx []) ∧ y ∉ bs ∧ F y = none ∧
  Run K (fun c _ H' => wf E c H') bs F H [] (I ds M) (fun ys bs' M' F' H' => ∀ ws, Reps K bs' F' ws ys → ∀ q, H' q = none → Q .non (upd (upd H' q (.lst ws)) y (.ins C dx [(("states" : Str), .ref q)])))
section
variable {X : Cx} {W : Wi} {CX : CXT} {wf : WishF} {k n mm : Nat} {C ga : Addr} {fd : FuncData} {ps : List Str} {I : List D → Mo (List D)} {e : Expr} {es : List Expr} {g : DA} {p pos : Pos}
theorem make_lift {σ : L2.St} {H : Hp} {Q : VK} {E : XK} (c : ClsK X.K X.mg C) (hW : ∀ c σ H, W c σ H → wf E c H) (hn : LenA g mm) (hmn : mm + 1 = n) (h : liftE X.K W (dMake I g) σ H Q) : tMake C (spI X.K wf C n I) [] E (liftA X.K W g) σ H Q := by
  obtain ⟨bs, M, F, ev, at0, run⟩ := h
  have rb := run.bind
  refine ⟨bs, M, F, ev, at0, ?_⟩
  match e1 : g ev M, rb with
  | some (.err cc, M1), rb => exact rb
  | some (.ok ds, M1), rb =>
    intro bs1 F1 H1 t1 w1 us r1 y dx hy hdx ne
    have hy2 : upd H1 dx (.own y) y = none := by
      rw [upd_ne (Ne.symm ne)]
      exact hy
    obtain ⟨w2, t2⟩ := w1.lost (.own y) hdx
    obtain ⟨w3, t3⟩ := w2.lost (.ins C dx []) hy2
    have t13 := t2.trans t3
    have fy : F1 y = none := w1.fnone hy
    rw [List.append_nil]
    refine ⟨bs1, M1, F1, y, dx, us, ds, rfl, w3, r1, by rw [hn _ _ _ _ e1]; exact hmn, upd_same, w1.notin hy, fy, ?_⟩
    have rr := Run.bindB (m := I ds) (f := newC) (rb bs1 F1 H1 t1 w1) t13
    refine (rr.wish (W' := fun c _ H' => wf E c H') fun c H' z => hW c σ H' z).imp fun ys bs4 M4 F4 H4 t4 w4 q ws rw4 u hu => ⟨rfl, ?_⟩
    have fy4 : F4 y = none := t4.free upd_same fy
    have ky : H4 y = some (.ins C dx []) := t4.keep _ _ upd_same (w1.notin hy)
    have hyu : y ≠ u := fun z => by
      rw [z, hu] at ky
      cases ky
    obtain ⟨w5, t5⟩ := w4.newobj rw4 hu
    have t05 := (t13.trans t4).trans t5
    have t6 := t05.put (.ins C dx [(("states" : Str), V.ref u)]) hy fy4
    have w6 := w5.frozen (.ins C dx [(("states" : Str), V.ref u)]) (by rw [upd_ne hyu]; exact ky) fy4
    exact q _ _ _ t6 w6 _ (.con c.n upd_same (by rw [List.getElem?_append_right (by rw [w4.len]; exact Nat.le_refl _), w4.len, Nat.sub_self]; rfl))
/-- Contract(e, ..) -/
theorem ze_make (wh : WhC CX wf X W) (c : ClsK X.K X.mg C) (M : Mk X.K C ga) (G : FnOk X.prog X.w X.K X.mg X.base CX k ga fd ps (spI X.K wf C n I)) (hr : Room (k + 1) X.A) (hb : Binds X.K fd ps []) (hg : Gl X "Contract")
    (ha : ZA X W (e :: es) g) (hn : LenA g mm) (hmn : mm + 1 = n) (he : starEach (e :: es) X.env = (false, eval e X.env) :: starEach es X.env := by rfl) (hpl : (backTo pos (starEach es X.env)).any (·.1) = false := by rfl) :
    ZE X W (.Call (.Name "Contract" p) (e :: es) [] pos) (dMake I g) :=
  ⟨fun pins s σ H Q J h => by
    obtain ⟨E, hx, hW⟩ := wh.ex
    exact (pe_make (E := E) M G hr hg c.g hb .nil hx ha (by decide) he hpl).run pins s σ H Q J (make_lift c hW hn hmn h)⟩
end
section
variable {X : Cx} {W : Wi} {wf : WishF} {C : Addr} {ex : Expr} {es : List Expr} {fe : DE} {g : DA} {p1 p2 p3 q1 q2 : Pos} {N : List Str} {n : Nat}
theorem init_body (c : ClsK X.K X.mg C) (h1 : ZE X W ex fe) (hx : PE X (.Name "self" p1) (tVar 0)) (hg : ZA X W es g) (hs1 : swapsWith ex none q1.line X.env = pure false := by rfl)
    (hs2 : swapsWith (.List es p3) (some (.Attribute (.Name "self" p1) "states" p2)) q2.line X.env = pure false := by rfl) :
    ∃ t, PSs X [.Expr ex q1, .Assign [.Attribute (.Name "self" p1) "states" p2] (.List es p3) q2] t ∧ ∀ (vs : List V) (H : Hp) (Q : VK) (E : XK), (∀ c σ H, wf E c H → W c σ H) → spI X.K wf C n (mkI N.length fe g) vs H Q E → t { nx := fun _ H' => Q .non H', rt := Q } (L2.start N vs) H := by
  refine ⟨_, pss_cons (ps_expr h1 hs1) (pss_one (ps_fld hx (pe_lst hg) hs2)), fun vs H Q E hW h => ?_⟩
  obtain ⟨bs, M, F, y, dx, us, ds, rfl, wd, r, hn, ey, ny, fy, run⟩ := h
  have at0 : At X.K bs M F H (L2.start N (.ref y :: us)) (.no :: (ds.map Sl.v ++ List.replicate (N.length - 1 - ds.length) .no)) := by
    refine ⟨wd, [], ?_⟩
    unfold L2.start
    rw [List.map_cons, List.cons_append, List.length_cons, r.length, show N.length - (ds.length + 1) = N.length - 1 - ds.length by omega]
    exact .no (slots_start (N := N) _ r)
  have rw1 : Run X.K W bs F H (L2.start N (.ref y :: us)) (mkI N.length fe g ds M) _ := run.wish fun c H' z => hW c _ H' z
  refine ⟨bs, M, F, _, at0, rw1.bind.imp fun d bs1 M1 F1 H1 t1 w1 run1 v rv => ?_⟩
  refine ⟨bs1, M1, F1, _, at0.tr t1 w1, run1.bind.imp fun ys bs2 M2 F2 H2 t2 w2 run2 ws r2 => ?_⟩
  by_cases hl : ys.length ≤ 100000
  · rw [if_pos hl] at run2
    refine ⟨by rw [r2.length]; exact small_ok hl, fun p hp => ⟨.ref y, rfl, ?_⟩⟩
    have t02 := t1.trans t2
    have ky : H2 y = some (.ins C dx []) := t02.keep _ _ ey ny
    have hyp : y ≠ p := fun z => by
      rw [z, hp] at ky
      cases ky
    exact ⟨y, C, dx, [], rfl, by rw [upd_ne hyp]; exact ky, c.c, c.s, Nat.zero_lt_succ _, Run.here w2 run2 ws r2 p hp⟩
  · rw [if_neg hl] at run2
    exact run2.elim
end
section
variable {P : Program} {w : World} {K : PySem.W.Frag} {mg : Str → Option Value} {base : Heap}
theorem spI_len {wf : WishF} {C : Addr} {n : Nat} {I : List Z.D → Mo (List Z.D)} {vs : List V} {H : Hp} {Q : VK} {E : XK} (q : spI K wf C n I vs H Q E) : vs.length = n := by
  obtain ⟨bs, M, F, y, dx, us, ds, rfl, wd, r, hn, _⟩ := q
  rw [List.length_cons, r.length]
  exact hn
/-- __init__(self, ..), it lets nothing out -/
theorem initZ {x qual : Str} {st : Stmt} {f C : Addr} {fd : FuncData} {N ps : List Str} {k : Nat} {fe : DE} {g : DA} {ex : Expr} {es : List Expr} {p1 p2 p3 q1 q2 : Pos} (G : Fun K x qual st f fd) (S : FnScope N ps (defScope st)) (c : ClsK K mg C)
    (hbd : defBody st = [.Expr ex q1, .Assign [.Attribute (.Name "self" p1) "states" p2] (.List es p3) q2])
    (h : ∀ (cdv : Value) (A : Around) (outer : List Env) (s : Shared) (H : Hp) (E : XK), Room k (A.deeper (envOfC qual (defScope st) s.heap.objs.size f cdv)) →
      let X := (cxOf CX0 P w K mg base N qual (defScope st) f cdv A outer s H E).nox
      ZE X W0 ex fe ∧ PE X (.Name "self" p1) (tVar 0) ∧ ZA X W0 es g ∧ swapsWith ex none q1.line X.env = pure false ∧ swapsWith (.List es p3) (some (.Attribute (.Name "self" p1) "states" p2)) q2.line X.env = pure false) :
    FnOk P w K mg base CX0 (k + 1) f fd ps (spI K wf0 C ps.length (mkI N.length fe g)) :=
  G.ok S (fun vs H Q E q => spI_len q) fun cdv A outer s H vs Q E hr q => by
    obtain ⟨h1, h2, h3, h4, h5⟩ := h cdv A outer s H E hr
    obtain ⟨t, ht, hq⟩ := init_body (wf := wf0) (N := N) (n := ps.length) (X := (cxOf CX0 P w K mg base N qual (defScope st) f cdv A outer s H E).nox) c h1 h2 h3 h4 h5
    refine ⟨t, ?_, hq vs H Q E (fun _ _ _ z => z) q⟩
    rw [hbd]
    exact ht
end
end Z

/-! ZV4: defs of contracts that raise; keyword-only methods; isinstance and == of contracts -/
namespace Z
open PySem PySem.Spec PyProof.Rows L2
variable [Tbs]
theorem pass0X {X : Cx} {P : Program} {w : World} : Passes (L2N.CX P w) X E0 := fun _ _ _ _ _ _ _ h => by
  obtain ⟨_, _, _, _, _, _, _, _, _, _, _, _, z⟩ := h
  exact z.elim
theorem whCX {X : Cx} {W : Wi} (wh : Wh X W) : WhC (L2N.CX X.prog X.w) (wfX X.mg) X W := ⟨wh.ex⟩
theorem cxUpN {P : Program} {w : World} : StX.CXUp (L2N.CX P w) := fun outer s H s2 H2 E e s' un kp ho h => by
  obtain ⟨a, B, H', cls, d, ea, fl, hok, ub, na, os, ag, he⟩ := h
  refine ⟨a, B, H', cls, d, ea, fl, hok, ⟨fun b o q n hb => ?_, fun b o q hb => ?_, fun b o q n => ?_, fun b o q hb => ?_, fun b xs q => ?_, fun b o xs q => ?_, fun b ps q => ?_⟩, na, os.trans ho, ag, he⟩
  · exact ub.keep b o (kp b o q) (un.free b o q n (by simp)) hb
  · exact ub.slot b o (kp b o q) hb
  · exact ub.free b o (kp b o q) (un.free b o q n (by simp))
  · exact ub.there b o (kp b o q) hb
  · exact ub.tups b xs (un.tups b xs q)
  · exact ub.frzs b o xs (un.frzs b o xs q)
  · obtain ⟨m1, e1⟩ := un.tbls b ps q
    obtain ⟨m2, e2⟩ := ub.tbls b _ e1
    exact ⟨m1 ++ m2, by rw [e2, Array.append_assoc]⟩
section
variable {P : Program} {w : World} {K : PySem.W.Frag} {mg : Str → Option Value} {base : Heap}
/-- a def with *args that may raise -/
theorem defSX {x qual pv : Str} {st : Stmt} {f : Addr} {fd : FuncData} {N ps : List Str} {k : Nat} {fb : DS} (G : Fun K x qual st f fd) (S : FnScope N (ps ++ [pv]) (defScope st))
    (hb : ∀ (kV doc pm : Value) (an : Option Addr) (cdv ct : Value) (us rest : List Value), us.length = ps.length → bindArgs (PySem.W.fnOf x qual (defArgs st) (defBody st) (defScope st) .none kV doc pm an cdv ct) ⟨us ++ rest, []⟩ = (newTuple rest >>= fun t => pure (ps.zip us ++ [(pv, t)])))
    (h : ∀ (cdv : Value) (A : Around) (outer : List Env) (s : Shared) (H : Hp) (E : XK), Room k (A.deeper (envOfC qual (defScope st) s.heap.objs.size f cdv)) → ZSs (cxOf (L2N.CX P w) P w K mg base N qual (defScope st) f cdv A outer s H E) (WE' mg E) (defBody st) fb) :
    FnR P w K mg base (L2N.CX P w) (k + 1) f (spS K (wfX mg) ps.length (mkDF N.length fb)) := by
  obtain ⟨oc, od, kV, doc, pm, an, cdv, ct, osl, rfl, lk, hcd⟩ := G.ex
  have z := StX.fn_star (P := P) (w := w) (mg := mg) (base := base) (k := k) (sp := spZ K (wfX mg) (ps.length + 1) (mkDF N.length fb)) lk hcd S cxUpN (hb kV doc pm an cdv ct) fun A outer s H vs Q E hr q => ⟨_, h cdv A outer s H E hr, def_lift (fun _ _ _ z => z) q⟩
  refine fun A outer s H us vs Q E hr e0 r q => z A outer s H us vs Q E hr e0 r ?_
  obtain ⟨bs, M, F, ds, es, wd, rr, hn, hm, run⟩ := q
  obtain ⟨v1, v2, rfl, r1, r2⟩ := rr.split
  refine ⟨v1, v2, rfl, by rw [r1.length]; exact hn, by rw [r2.length]; exact small_ok hm, fun p hp => ?_⟩
  obtain ⟨w2, t2⟩ := wd.laid (.tup v2) hp
  exact ⟨bs, M, upd F p (.tup v2), ds ++ [.tup es], w2, (r1.tr t2).append (.cons (.tup upd_same (r2.tr t2)) .nil), by rw [List.length_append, hn]; rfl, run.late t2⟩
/-- __init__(self, ..) that may raise -/
theorem initZX {x qual : Str} {st : Stmt} {f C : Addr} {fd : FuncData} {N ps : List Str} {k : Nat} {fe : DE} {g : DA} {ex : Expr} {es : List Expr} {p1 p2 p3 q1 q2 : Pos} (G : Fun K x qual st f fd) (S : FnScope N ps (defScope st)) (c : ClsK K mg C)
    (hbd : defBody st = [.Expr ex q1, .Assign [.Attribute (.Name "self" p1) "states" p2] (.List es p3) q2])
    (h : ∀ (cdv : Value) (A : Around) (outer : List Env) (s : Shared) (H : Hp) (E : XK), Room k (A.deeper (envOfC qual (defScope st) s.heap.objs.size f cdv)) →
      let X := cxOf (L2N.CX P w) P w K mg base N qual (defScope st) f cdv A outer s H E
      ZE X (WE' mg E) ex fe ∧ PE X (.Name "self" p1) (tVar 0) ∧ ZA X (WE' mg E) es g ∧ swapsWith ex none q1.line X.env = pure false ∧ swapsWith (.List es p3) (some (.Attribute (.Name "self" p1) "states" p2)) q2.line X.env = pure false) :
    FnOk P w K mg base (L2N.CX P w) (k + 1) f fd ps (spI K (wfX mg) C ps.length (mkI N.length fe g)) := by
  obtain ⟨oc, od, kV, doc, pm, an, cdv, ct, osl, rfl, lk, hcd⟩ := G.ex
  refine fn_of lk hcd S (fun vs H Q E q => spI_len q) fun A outer s H vs Q E hr q => ?_
  obtain ⟨h1, h2, h3, h4, h5⟩ := h cdv A outer s H E hr
  obtain ⟨t, ht, hq⟩ := init_body (wf := wfX mg) (N := N) (n := ps.length) (X := cxOf (L2N.CX P w) P w K mg base N qual (defScope st) f cdv A outer s H E) c h1 h2 h3 h4 h5
  refine ⟨t, ?_, hq vs H Q E (fun _ _ _ z => z) q⟩
  rw [hbd]
  exact ht
end
section
variable {X : Cx} {W : Wi} {CX : CXT} {wf : WishF} {k n : Nat} {C ga : Addr} {fd : FuncData} {ps ks : List Str} {df : DF} {m x : Str} {o e a b : Expr} {es : List Expr} {kws : List Keyword} {f fa fb : DE} {g gk : DA} {p q apos pos : Pos}
/-- f(e, ..), f with *args -/
theorem ze_callSX (n : Nat) {mm : Nat} (wh : WhC CX wf X W) (G : FnR X.prog X.w X.K X.mg X.base CX k ga (spS X.K wf n df)) (hr : Room k X.A) (hg : Gl X x) (hm : X.mg x = some (.ref ga)) (hk : PySem.W.keepIn X.K (.ref ga) = true)
    (ha : ZA X W (e :: es) g) (hn : LenA g mm) (hdb : (x == ("__debug__" : Str)) = false := by decide) (he : starEach (e :: es) X.env = (false, eval e X.env) :: starEach es X.env := by rfl) (hpl : (backTo pos (starEach es X.env)).any (·.1) = false := by rfl) :
    ZE X W (.Call (.Name x p) (e :: es) [] pos) (dCallS n df g) :=
  ⟨fun pins s σ H Q I h => by
    obtain ⟨E, hx, hW⟩ := wh.ex
    refine (pe_callR (E := E) G hr hg hm hk hx ha hdb he hpl).run pins s σ H Q I ?_
    obtain ⟨bs, M, F, ev, at0, run⟩ := h
    have rb := run.bind
    refine ⟨bs, M, F, ev, at0, ?_⟩
    match e1 : g ev M, rb with
    | some (.err c, M1), rb => exact rb
    | some (.ok ds, M1), rb =>
      intro bs1 F1 H1 t1 w1 vs r1
      have rb2 := rb bs1 F1 H1 t1 w1
      by_cases hl : n ≤ ds.length ∧ ds.length ≤ 1000
      · simp only [hl, and_self, if_true] at rb2
        exact ⟨bs1, M1, F1, ds.take n, ds.drop n, w1, by rw [List.take_append_drop]; exact r1, by rw [List.length_take]; omega, by rw [List.length_drop]; omega, rb2.wish fun c H' z => hW c σ H' z⟩
      · simp only [hl, if_false] at rb2
        exact rb2.elim⟩
/-- o.m(k = e, ..), m's other parameters are keyword-only -/
theorem pe_methK0 {sp : Sp} {E : XK} {ta : TE} {tk : TA} {g1 : List Value → List Value → List Value} {gV : List V → List V → List V} {pl : Sem Bool} (he : PE X o ta) (c : Cls X.K C) (hm : Meth X.K C m ga) (Fn : FnOk X.prog X.w X.K X.mg X.base CX k ga fd ps sp) (hr : Room k X.A) (hb : KBn X.K fd ps 1 ks g1 gV) (hx : Passes CX X E) (hkw : PK X kws tk)
    (hall : (backToKw pos (keywordEach kws X.env)).all (·.1.isSome) = true := by rfl) (hks : (backToKw pos (keywordEach kws X.env)).filterMap (·.1) = ks := by rfl)
    (hpl : ((backTo pos (starEach [] X.env)).any (·.1) || (backToKw pos (keywordEach kws X.env)).any (·.1.isNone)) = false := by rfl)
    (ht : eval (.Call (.Attribute o m apos) [] kws pos) X.env = (do
      let ov ← eval o X.env
      standAt apos.atName
      let (f, first) ← holding [ov] (getMethod ov m pl)
      callWith pos f first (backTo pos (starEach [] X.env)) (backToKw pos (keywordEach kws X.env))) := by rfl) :
    PE X (.Call (.Attribute o m apos) [] kws pos) (fun σ H Q => ta σ H fun x H1 => ∃ a dx fs, x = .ref a ∧ H1 a = some (.ins C dx fs) ∧ fs.lookup m = none ∧ tk σ H1 fun zs H2 => zs.length = ks.length ∧ sp (gV [x] zs) H2 Q E) := by
  refine ⟨fun pins s σ H Q I h => ?_⟩
  refine PySem.W.methodCall_KW (pl := pl) (thn (he.run pins s σ H _ I h) fun u s1 h1 => ?_) ht
  obtain ⟨x, H1, I1, rx, a, dx, fs, ex, ea, l, q⟩ := h1
  subst ex
  obtain rfl : u = Value.ref a := rx
  refine getmeth_ok I1 ea c hm l ?_
  refine PySem.W.callWith_KW0 (first := [.ref a]) (h₀ := X.base) I.ok.mod.kin hm.kp hall (thn (hkw.run pos pins s1 σ H1 _ I1 q) fun ws s2 h2 => ?_) hpl
  obtain ⟨zs, H2, I2, rz, l2, q2⟩ := h2
  refine ⟨I2.kIn, ?_⟩
  rw [hks]
  exact run_fnN (us := [.ref a]) (vs := [.ref a]) Fn hr hb hx I2 (.cons rfl .nil) rz rfl l2 q2
def dMethK (df : DF) (f : DE) (gk : DA) : DE := fun e => bnd (f e) fun x => match x with
  | .con i => bnd (gk e) fun zs => df (.con i :: zs)
  | _ => stuck
theorem ze_methK {mk : Nat} {pl : Sem Bool} (wh : WhC CX wf X W) (c : ClsK X.K X.mg C) (hm : Meth X.K C m ga) (G : FnOk X.prog X.w X.K X.mg X.base CX k ga fd ps (spZ X.K wf n df)) (hr : Room k X.A) (hb : KBn X.K fd ps 1 ks (fun us ws => us ++ ws) (fun vs zs => vs ++ zs))
    (ho : ZE X W o f) (hkw : PK X kws (liftA X.K W gk)) (hnk : LenA gk mk) (hl : ks.length = mk) (hmn : mk + 1 = n) (hms : (m == ("states" : Str)) = false := by decide)
    (hall : (backToKw pos (keywordEach kws X.env)).all (·.1.isSome) = true := by rfl) (hks : (backToKw pos (keywordEach kws X.env)).filterMap (·.1) = ks := by rfl)
    (hpl : ((backTo pos (starEach [] X.env)).any (·.1) || (backToKw pos (keywordEach kws X.env)).any (·.1.isNone)) = false := by rfl)
    (ht : eval (.Call (.Attribute o m apos) [] kws pos) X.env = (do
      let ov ← eval o X.env
      standAt apos.atName
      let (f, first) ← holding [ov] (getMethod ov m pl)
      callWith pos f first (backTo pos (starEach [] X.env)) (backToKw pos (keywordEach kws X.env))) := by rfl) :
    ZE X W (.Call (.Attribute o m apos) [] kws pos) (dMethK df f gk) :=
  ⟨fun pins s σ H Q I h => by
    obtain ⟨E, hx, hW⟩ := wh.ex
    refine (pe_methK0 (E := E) ho c.c hm G hr hb hx hkw hall hks hpl ht).run pins s σ H Q I ?_
    obtain ⟨bs, M, F, ev, at0, run⟩ := h
    refine ⟨bs, M, F, ev, at0, run.bind.imp fun x bs1 M1 F1 H1 t1 w1 run1 v r => ?_⟩
    cases x with
    | con i =>
      obtain ⟨a, dx, b, rfl, hF, hb⟩ := con_inv c r
      refine ⟨a, dx, _, rfl, w1.sub _ _ hF, look_no hms, bs1, M1, F1, ev, at0.tr t1 w1, ?_⟩
      have rb := run1.bind
      match e1 : gk ev M1, rb with
      | some (.err cc, M2), rb => exact rb
      | some (.ok zs, M2), rb =>
        intro bs2 F2 H2 t2 w2 us r2
        exact ⟨by rw [r2.length, hl]; exact hnk _ _ _ _ e1, bs2, M2, F2, .con i :: zs, w2, .cons (r.tr t2) r2, by rw [List.length_cons, hnk _ _ _ _ e1]; exact hmn, (rb bs2 F2 H2 t2 w2).wish fun c H' z => hW c σ H' z⟩
    | _ => exact run1.elim⟩
end
end Z

/-! ZV5: contracts compared, asked for their class, made by a class method -/
namespace Z
open PySem PySem.Spec PyProof.Rows L2
variable [Tbs]
/-- what isinstance and == ask of the class -/
structure IsK (K : PySem.W.Frag) (C : Addr) : Prop where
  kT : PySem.W.kitOne K (.type "tuple") (.ref C) = some false
  kC : PySem.W.kitOne K (.ref C) (.ref C) = some true
  ha : PySem.W.findIn K (.ref C) "__class__" = some (some (.builtin "object.__class__"))
  hn : PySem.W.specialIn K (.builtin "object.__class__") "__get__" = some (some (.builtin "getset_descriptor.__get__"))
  htk : PySem.W.takesIn K (.builtin "object.__class__") = some true
  hm : PySem.W.mroIn K C (.type "object") = some true
  nT : PySem.W.notFirst K C (.type "tuple") = true
def isCon : D → Option Bool
  | .con _ => some true
  | .tup _ => some false
  | _ => none
def dIsCon (f : DE) : DE := fun e => bnd (f e) fun x => lft ((isCon x).map D.bl)
def boolOf (d : D) : Mo D := match d with
  | .bl b => ret (.bl b)
  | _ => stuck
def eqK (df : DF) (x y : D) : Mo D := match x with
  | .con i => match y with
    | .con j => bnd (noErr (df [.con i, .con j])) boolOf
    | .tup ys => bnd (noErr (df [.con i, .tup ys])) boolOf
    | _ => stuck
  | _ => stuck
def dEqC (df : DF) (fa fb : DE) : DE := fun e => bnd (fa e) fun x => bnd (fb e) fun y => eqK df x y
section
variable {X : Cx} {W : Wi} {CX : CXT} {wf : WishF} {k n : Nat} {C ga pr : Addr} {fd : FuncData} {ps : List Str} {df : DF} {m : Str} {o e a b : Expr} {es : List Expr} {f fa fb : DE} {g : DA} {p q r pos apos : Pos}
/-- isinstance(e, Contract) -/
theorem ze_isCon (c : ClsK X.K X.mg C) (K : IsK X.K C) (hf : ZE X W e f) (hgC : Gl X "Contract") (hg : Gl X "isinstance") (hm : X.mg "isinstance" = none) (hs : starEach [e, .Name "Contract" q] X.env = (false, eval e X.env) :: starEach [.Name "Contract" q] X.env := by rfl) (hs2 : starEach [.Name "Contract" q] X.env = (false, eval (.Name "Contract" q) X.env) :: starEach [] X.env := by rfl)
    (hpl : (backTo pos (starEach [.Name "Contract" q] X.env)).any (·.1) = false := by rfl) : ZE X W (.Call (.Name "isinstance" p) [e, .Name "Contract" q] [] pos) (dIsCon f) :=
  ⟨fun pins s σ H Q I h => (pe_callB call_isi hg hm (by decide +kernel) (pa_cons hf (pa_cons (pe_glob (v := .ref C) hgC c.g rfl (by decide)) pa_nil hs2) hs) (by decide) (by decide) hs hpl).run pins s σ H Q I (by
    obtain ⟨bs, M, F, ev, at0, run⟩ := h
    refine ⟨bs, M, F, ev, at0, run.bind.imp fun x bs1 M1 F1 H1 t1 w1 run1 v1 r1 => ?_⟩
    obtain ⟨z, ez, kk⟩ := run1.of_lft
    cases x with
    | con i =>
      cases ez
      obtain ⟨a, dx, b, rfl, ha, hb⟩ := con_inv c r1
      exact ⟨.ref a, .ref C, .ref C, .ref C, true, rfl, .own C, .base (.ins (w1.sub _ _ ha) c.c K.ha K.hn K.htk K.hm), K.kC, kk bs1 F1 H1 (Tr.refl _ _ _) w1 _ (.bl true)⟩
    | tup xs =>
      cases ez
      cases r1 with
      | tup h1 s1 => exact ⟨_, .ref C, .type "tuple", .ref C, false, rfl, .own C, .base (.tup (w1.sub _ _ h1)), K.kT, kk bs1 F1 H1 (Tr.refl _ _ _) w1 _ (.bl false)⟩
    | _ => cases ez)⟩
/-- == by an own __eq__ -/
theorem op_eqC {sp : Sp} (Fn : FnOk X.prog X.w X.K X.mg X.base CX k ga fd ps sp) (K : IsK X.K C) (hs : PySem.W.findIn X.K (.ref C) "__eq__" = some (some (.ref ga))) (hfn : PySem.W.isFn X.K (.ref ga) = true) (hb : Binds X.K fd ps []) (hx : Passes CX X.nox E0) (hr : Room k X.A) :
    OpR X (compareOp .Eq) (fun x y H Q => ∃ a dx fs b, x = .ref a ∧ H a = some (.ins C dx fs) ∧ y = .ref b ∧ ((∃ dy gs, H b = some (.ins C dy gs)) ∨ ∃ ys, H b = some (.tup ys)) ∧ sp [.ref a, .ref b] H (fun v H' => ∃ t, v = .bl t ∧ Q (.bl t) H') E0) := by
  intro pins s σ H x y v u Q I rx ry h
  obtain ⟨a, dx, fs, b, rfl, ea, rfl, hy, h⟩ := h
  cases rx
  cases ry
  obtain ⟨mA, O, _⟩ := ins_get I.hok ea
  obtain ⟨od, J, _⟩ := O.look
  obtain ⟨m, hF⟩ := I.fr
  show wpAny (model X.prog X.w) X.A (richCompare .Eq (.ref a) (.ref b)) (EP X pins σ Q) X.xe s
  have run : wpAny (model X.prog X.w) X.A (call (.ref ga) [.ref a, .ref b]) (PySem.W.CmpBack fun u s1 => EP X pins σ Q u s1) X.xe s :=
    wpAny_mono (ZH.run_at (us := [.ref a, .ref b]) (vs := [.ref a, .ref b]) Fn hr I.env0 hb hx I (.cons rfl (.cons rfl .nil)) h) (fun u s1 hu => by
      obtain ⟨v, H1, I1, rv, t, rfl, q⟩ := hu
      cases rv
      exact ⟨.bl t, H1, I1, rfl, q⟩) fun _ _ z => z
  rcases hy with ⟨dy, gs, eb⟩ | ⟨ys, eb⟩
  · obtain ⟨mB, O2, _⟩ := ins_get I.hok eb
    obtain ⟨od2, J2, _⟩ := O2.look
    exact PySem.W.cmp_K (op := .Eq) (tb := .ref C) hr.units0 hF I.ok.mod.kin J J2.type (by simp [PySem.W.notFirst]) hs hfn run
  · obtain ⟨_, its, rv, o, h1, h2, nn, h3⟩ := (show ObjOk X.prog X.w H s.heap b (.tup ys) from I.hok b _ eb)
    have L : PySem.W.Looks (model X.prog X.w) s.heap (typeOf (.ref b)) (.type "tuple") := by
      have z : PySem.W.Looks (model X.prog X.w) s.heap (typeOf (.ref b)) o.cls := (PySem.W.Looks.ld h1).andThen .now
      rw [h2] at z
      exact z
    exact PySem.W.cmp_K (op := .Eq) (tb := .type "tuple") hr.units0 hF I.ok.mod.kin J L K.nT hs hfn run
theorem eqC_lift {σ : L2.St} {H : Hp} {Q : VK} (c : ClsK X.K X.mg C) (h : liftE X.K W (dEqC df fa fb) σ H Q) : tOp (fun x y H Q => ∃ a dx fs b, x = .ref a ∧ H a = some (.ins C dx fs) ∧ y = .ref b ∧ ((∃ dy gs, H b = some (.ins C dy gs)) ∨ ∃ ys, H b = some (.tup ys)) ∧ spZ X.K wf 2 df [.ref a, .ref b] H (fun v H' => ∃ t, v = .bl t ∧ Q (.bl t) H') E0) (liftE X.K W fa) (liftE X.K W fb) σ H Q := by
  obtain ⟨bs, M, F, ev, at0, run⟩ := h
  refine ⟨bs, M, F, ev, at0, run.bind.imp fun x bs1 M1 F1 H1 t1 w1 run1 v1 r1 => ?_⟩
  refine ⟨bs1, M1, F1, ev, at0.tr t1 w1, run1.bind.imp fun y bs2 M2 F2 H2 t2 w2 run2 v2 r2 => ?_⟩
  have r12 := r1.tr t2
  cases x with
  | con i =>
    obtain ⟨a, dx, b, rfl, ha, hb⟩ := con_inv c r12
    have fin : ∀ d3, Run X.K W bs2 F2 H2 σ (bnd (noErr (df [.con i, d3])) boolOf M2) (qE X.K Q) → ∀ v3, Rep X.K bs2 F2 v3 d3 → spZ X.K wf 2 df [.ref a, v3] H2 (fun v H' => ∃ t, v = .bl t ∧ Q (.bl t) H') E0 := fun d3 rn v3 r3 => by
      refine ⟨bs2, M2, F2, [.con i, d3], w2, .cons r12 (.cons r3 .nil), rfl, ?_⟩
      refine ((Run.noErr (σ' := []) rn.bind).imp fun d bs4 M4 F4 H4 t4 w4 q v rv => ?_).wish fun c H' z => z.elim
      cases d with
      | bl t =>
        cases rv
        exact ⟨t, rfl, Run.here w4 q _ (.bl t)⟩
      | _ => exact q.elim
    cases y with
    | con j =>
      obtain ⟨a2, dx2, b2, rfl, ha2, hb2⟩ := con_inv c r2
      exact ⟨a, dx, _, a2, rfl, w2.sub _ _ ha, rfl, .inl ⟨_, _, w2.sub _ _ ha2⟩, fin _ run2 _ r2⟩
    | tup ys =>
      have r2' := r2
      cases r2 with
      | tup h1 s1 => exact ⟨a, dx, _, _, rfl, w2.sub _ _ ha, rfl, .inr ⟨_, w2.sub _ _ h1⟩, fin _ run2 _ r2'⟩
    | _ => exact run2.elim
  | _ => exact run2.elim
theorem ze_eqC (c : ClsK X.K X.mg C) (K : IsK X.K C) (hm : Meth X.K C "__eq__" ga) (G : FnOk X.prog X.w X.K X.mg X.base CX k ga fd ps (spZ X.K wf 2 df)) (hb : Binds X.K fd ps []) (hx : Passes CX X.nox E0) (hr : Room k X.A) (ha : ZE X W a fa) (hbb : ZE X W b fb) (hmk : behindInMarks .Eq b = false := by first | exact nomark _ | with_unfolding_all rfl) :
    ZE X W (.Compare a [.Eq] [b] pos) (dEqC df fa fb) := ⟨fun pins s σ H Q I h => (pe_cmpR (op_eqC G K hm.at_ hm.fn hb hx hr) ha hbb hmk).run pins s σ H Q I (eqC_lift c h)⟩
theorem zt_eqC (c : ClsK X.K X.mg C) (K : IsK X.K C) (hm : Meth X.K C "__eq__" ga) (G : FnOk X.prog X.w X.K X.mg X.base CX k ga fd ps (spZ X.K wf 2 df)) (hb : Binds X.K fd ps []) (hx : Passes CX X.nox E0) (hr : Room k X.A) (ha : ZE X W a fa) (hbb : ZE X W b fb) (hmk : behindInMarks .Eq b = false := by first | exact nomark _ | with_unfolding_all rfl) :
    ZT X W (.Compare a [.Eq] [b] pos) (dTest (dEqC df fa fb)) := ⟨fun pins s σ H Q I h => (pt_cmpR (op_eqC G K hm.at_ hm.fn hb hx hr) ha hbb hmk).run pins s σ H Q I (eqC_lift c (by
  obtain ⟨bs, M, F, ev, at0, run⟩ := h
  refine ⟨bs, M, F, ev, at0, run.bind.imp fun x bs1 M1 F1 H1 t1 w1 run1 v r => ?_⟩
  cases x with
  | bl t =>
    cases r
    exact ⟨t, rfl, Run.here w1 run1⟩
  | _ => exact run1.elim))⟩
/-- o.m() of a def with *args -/
theorem pe_methR0 {sp : Sp} {E : XK} {ta : TE} {pl : Sem Bool} (he : PE X o ta) (c : Cls X.K C) (hm : Meth X.K C m ga) (Fn : FnR X.prog X.w X.K X.mg X.base CX k ga sp) (hr : Room k X.A) (hx : Passes CX X E)
    (ht : eval (.Call (.Attribute o m apos) [] [] pos) X.env = (do
      let ov ← eval o X.env
      standAt apos.atName
      let (f, first) ← holding [ov] (getMethod ov m pl)
      callWith pos f first (backTo pos (starEach [] X.env)) (backToKw pos (keywordEach [] X.env))) := by rfl) :
    PE X (.Call (.Attribute o m apos) [] [] pos) (tMethR C m sp E ta tNil) := by
  refine ⟨fun pins s σ H Q I h => ?_⟩
  refine PySem.W.methodCall_KW (pl := pl) (thn (he.run pins s σ H _ I h) fun u s1 h1 => ?_) ht
  obtain ⟨x, H1, I1, rx, a, dx, fs, ex, ea, l, q⟩ := h1
  subst ex
  obtain rfl : u = Value.ref a := rx
  refine getmeth_ok I1 ea c hm l ?_
  exact PySem.W.callWith_K0 (first := [.ref a]) I1.kIn hm.kp (wpAny_call (run_fnR (us := [.ref a]) (vs := [.ref a]) Fn hr hx I1 (.cons rfl .nil) q))
theorem ze_methS0 {pl : Sem Bool} (wh : WhC CX wf X W) (c : ClsK X.K X.mg C) (hm : Meth X.K C m ga) (G : FnR X.prog X.w X.K X.mg X.base CX k ga (spS X.K wf 1 df)) (hr : Room k X.A) (ho : ZE X W o f) (hms : (m == ("states" : Str)) = false := by decide)
    (ht : eval (.Call (.Attribute o m apos) [] [] pos) X.env = (do
      let ov ← eval o X.env
      standAt apos.atName
      let (f, first) ← holding [ov] (getMethod ov m pl)
      callWith pos f first (backTo pos (starEach [] X.env)) (backToKw pos (keywordEach [] X.env))) := by rfl) :
    ZE X W (.Call (.Attribute o m apos) [] [] pos) (dMethS df f dNil) :=
  ⟨fun pins s σ H Q I h => by
    obtain ⟨E, hx, hW⟩ := wh.ex
    refine (pe_methR0 (E := E) ho c.c hm G hr hx ht).run pins s σ H Q I ?_
    obtain ⟨bs, M, F, ev, at0, run⟩ := h
    refine ⟨bs, M, F, ev, at0, run.bind.imp fun x bs1 M1 F1 H1 t1 w1 run1 v r => ?_⟩
    cases x with
    | con i =>
      obtain ⟨a, dx, b, rfl, hF, hb⟩ := con_inv c r
      refine ⟨a, dx, _, rfl, w1.sub _ _ hF, look_no hms, ?_⟩
      exact ⟨bs1, M1, F1, [.con i], [], w1, .cons r .nil, rfl, by simp, (show Run X.K W bs1 F1 H1 σ (df ([.con i] ++ [.tup []]) M1) (qE X.K Q) from run1).wish fun c H' z => hW c σ H' z⟩
    | _ => exact run1.elim⟩
end
end Z

/-! ZV6: a class method that makes a contract; a constant of the class -/
namespace Z
open PySem PySem.Spec PyProof.Rows L2 ClX
variable [Tbs]
section
variable {X : Cx} {CX : CXT} {k i : Nat} {C ga : Addr} {fd : FuncData} {ps : List Str} {sp : Sp} {dvs : List V} {ds : List Value} {E : XK} {x : Str} {p pos : Pos} {e : Expr} {es : List Expr} {t : TA}
/-- cls(e, ..), cls a parameter -/
theorem pe_makeL (M : Mk X.K C ga) (Fn : FnOk X.prog X.w X.K X.mg X.base CX k ga fd ps sp) (hr : Room (k + 1) X.A) (hN : X.N[i]? = some x) (hv : Vis X.env.scope x) (hb : Binds X.K fd ps ds) (hd : Vals dvs ds) (hx : Passes CX X E) (ha : PA X (e :: es) t)
    (hdb : (x == ("__debug__" : Str)) = false := by decide) (hcd : (x == ("__classdict__" : Str)) = false := by decide)
    (he : starEach (e :: es) X.env = (false, eval e X.env) :: starEach es X.env := by rfl) (hpl : (backTo pos (starEach es X.env)).any (·.1) = false := by rfl) : PE X (.Call (.Name x p) (e :: es) [] pos) (fun σ H Q => σ[i]? = some (some (.ref C)) ∧ tMake C sp dvs E t σ H Q) := by
  refine ⟨fun pins s σ H Q I h => ?_⟩
  obtain ⟨hs, ht⟩ := h
  refine wpAny_Call_Name_kw (thn ((pe_var (pos := p) hN hv hdb hcd).run pins s σ H (fun v H1 => v = .ref C ∧ H1 = H) I ⟨.ref C, hs, rfl, rfl⟩) fun u s1 h1 => ?_)
  obtain ⟨v, H1, I1, r1, rfl, rfl⟩ := h1
  cases r1
  refine PySem.W.callWith_K (h₀ := X.base) I.ok.mod.kin M.kp (thn (ha.run pos pins s1 σ _ _ I1 ht) fun us s2 h2 => ?_) he hpl
  obtain ⟨vs, H2, I2, r, q⟩ := h2
  exact ⟨I2.kIn, run_make M Fn hr hb hd hx I2 r q⟩
end
/-- what such a method promises: the class is handed in first -/
def spF (K : PySem.W.Frag) (wf : WishF) (C : Addr) (n : Nat) (df : DF) : Sp := fun vs H Q E => ∃ bs M F us ds, vs = .ref C :: us ∧ Wd K bs M F H ∧ Reps K bs F us ds ∧ ds.length + 1 = n ∧ Run K (fun c _ H' => wf E c H') bs F H [] (df ds M) (qE K Q)
/-- the def: the first slot is the class -/
def mkF (n : Nat) (fe : DE) : DF := fun ds => fe (.no :: (ds.map Sl.v ++ List.replicate (n - 1 - ds.length) .no))
section
variable {P : Program} {w : World} {K : PySem.W.Frag} {mg : Str → Option Value} {base : Heap}
theorem fullZX {x qual : Str} {st : Stmt} {f C fI : Addr} {fd fdI : FuncData} {N ps psI : List Str} {k n mm : Nat} {g : DA} {I : List Z.D → Mo (List Z.D)} {e : Expr} {es : List Expr} {p1 q1 q2 : Pos} {cn : Str} (G : Fun K x qual st f fd) (S : FnScope N ps (defScope st)) (c : ClsK K mg C) (M : Mk K C fI) (GI : FnOk P w K mg base (L2N.CX P w) k fI fdI psI (spI K (wfX mg) C n I)) (bI : Binds K fdI psI [])
    (hbd : defBody st = [.Return (some (.Call (.Name cn p1) (e :: es) [] q1)) q2]) (hcn : N[0]? = some cn) (hb : Binds K fd ps []) (hn : LenA g mm) (hmn : mm + 1 = n)
    (h : ∀ (cdv : Value) (A : Around) (outer : List Env) (s : Shared) (H : Hp) (E : XK), Room (k + 1) (A.deeper (envOfC qual (defScope st) s.heap.objs.size f cdv)) →
      let X := cxOf (L2N.CX P w) P w K mg base N qual (defScope st) f cdv A outer s H E
      ZA X (WE' mg E) (e :: es) g ∧ Vis X.env.scope cn ∧ (cn == ("__debug__" : Str)) = false ∧ (cn == ("__classdict__" : Str)) = false ∧ starEach (e :: es) X.env = (false, eval e X.env) :: starEach es X.env ∧ (backTo q1 (starEach es X.env)).any (·.1) = false) :
    FnR P w K mg base (L2N.CX P w) (k + 2) f (spF K (wfX mg) C ps.length (mkF N.length (dMake I g))) := by
  have F : FnOk P w K mg base (L2N.CX P w) (k + 2) f fd ps (spF K (wfX mg) C ps.length (mkF N.length (dMake I g))) := by
    obtain ⟨oc, od, kV, doc, pm, an, cdv, ct, osl, rfl, lk, hcd⟩ := G.ex
    refine fn_of lk hcd S (fun vs H Q E q => ?_) fun A outer s H vs Q E hr q => ?_
    · obtain ⟨bs, M, F, us, ds, rfl, wd, r, hl, _⟩ := q
      rw [List.length_cons, r.length]
      exact hl
    · obtain ⟨h1, h2, h3, h4, h5, h6⟩ := h cdv A outer s H E hr
      rw [hbd]
      obtain ⟨E1, hx, hW⟩ := (whX (P := P) (w := w) (K := K) (mg := mg) (base := base) (N := N) (qual := qual) (scope := defScope st) (f := f) (cd := cdv) (A := A) (outer := outer) (s := s) (H := H) (E := E)).ex
      refine ⟨_, pss_one (ps_ret (pe_makeL (i := 0) (E := E1) M GI hr hcn h2 bI .nil hx h1 h3 h4 h5 h6)), ?_⟩
      obtain ⟨bs, M2, F, us, ds, rfl, wd, r, hl, run⟩ := q
      have rn : Run K (WE' mg E) bs F H (L2.start N (.ref C :: us)) (dMake I g (Sl.no :: (ds.map Sl.v ++ List.replicate (N.length - 1 - ds.length) Sl.no)) M2) (qE K Q) := Run.wish (W := fun c _ H' => wfX mg E c H') (σ := []) run fun c H' z => z
      refine ⟨rfl, make_lift (X := cxOf (L2N.CX P w) P w K mg base N qual (defScope st) f cdv A outer s H E) (W := WE' mg E) (wf := wfX mg) c hW hn hmn ⟨bs, M2, F, Sl.no :: (ds.map Sl.v ++ List.replicate (N.length - 1 - ds.length) Sl.no), ⟨wd, [], ?_⟩, rn⟩⟩
      unfold L2.start
      rw [List.map_cons, List.cons_append, List.length_cons, r.length, show N.length - (ds.length + 1) = N.length - 1 - ds.length by omega]
      exact .no (slots_start (N := N) _ r)
  exact fun A outer s H us vs Q E hr e0 r q => by
    have hl : us.length = ps.length := by
      rw [← r.length]
      exact F.len _ _ _ _ q
    have bt := hb s us (e0.mod.kin.keeps fun b o e => (e0.bs b o e).1) (by simpa using hl)
    rw [List.append_nil] at bt
    exact F.run A outer s H ⟨us, []⟩ us vs Q E hr e0 bt r q
end
section
variable {X : Cx} {W : Wi} {CX : CXT} {wf : WishF} {k n mm : Nat} {C ga pr : Addr} {mc : Value} {df : DF} {m : Str} {e : Expr} {es : List Expr} {g : DA} {p apos pos : Pos}
def dFull (df : DF) (g : DA) : DE := fun e => bnd (g e) df
/-- Contract.m(e, ..) -/
theorem ze_full {pl : Sem Bool} (wh : WhC CX wf X W) (c : ClsK X.K X.mg C) (r : CRead X.K C mc) (cm : CMet X.K C mc m pr ga) (G : FnR X.prog X.w X.K X.mg X.base CX k ga (spF X.K wf C n df)) (hr : Room k X.A) (hgC : Gl X "Contract") (ha : ZA X W (e :: es) g) (hn : LenA g mm) (hmn : mm + 1 = n)
    (hst : starEach (e :: es) X.env = (false, eval e X.env) :: starEach es X.env := by rfl) (hpl : (backTo pos (starEach es X.env)).any (·.1) = false := by rfl)
    (ht : eval (.Call (.Attribute (.Name "Contract" p) m apos) (e :: es) [] pos) X.env = (do
      let ov ← eval (.Name "Contract" p) X.env
      standAt apos.atName
      let (f, first) ← holding [ov] (getMethod ov m pl)
      callWith pos f first (backTo pos (starEach (e :: es) X.env)) (backToKw pos (keywordEach [] X.env))) := by rfl) :
    ZE X W (.Call (.Attribute (.Name "Contract" p) m apos) (e :: es) [] pos) (dFull df g) :=
  ⟨fun pins s σ H Q I h => by
    obtain ⟨E, hx, hW⟩ := wh.ex
    refine (pe_cmeth (E := E) (pe_glob (v := .ref C) hgC c.g rfl (by decide)) r cm G hr hx ha hst hpl ht).run pins s σ H Q I ⟨rfl, ?_⟩
    obtain ⟨bs, M, F, ev, at0, run⟩ := h
    have rb := run.bind
    refine ⟨bs, M, F, ev, at0, ?_⟩
    match e1 : g ev M, rb with
    | some (.err cc, M1), rb => exact rb
    | some (.ok ds, M1), rb =>
      intro bs1 F1 H1 t1 w1 us r1
      exact ⟨bs1, M1, F1, us, ds, rfl, w1, r1, by rw [hn _ _ _ _ e1]; exact hmn, (rb bs1 F1 H1 t1 w1).wish fun c H' z => hW c σ H' z⟩⟩
/-- Contract.F, a whole number -/
theorem ze_cconst {j : Int} {tk : Tok} (c : ClsK X.K X.mg C) (r : CRead X.K C mc) (cv : CVal X.K C mc m (.int j) (.int j tk)) (hgC : Gl X "Contract") (hb : attributeBase (.Name "Contract" p) m X.env (eval (.Name "Contract" p) X.env) = eval (.Name "Contract" p) X.env := by rfl) : ZE X W (.Attribute (.Name "Contract" p) m pos) (dC (.int j)) :=
  ⟨fun pins s σ H Q I h => (pe_cval (pe_glob (v := .ref C) hgC c.g rfl (by decide)) hb).run pins s σ H Q I (by
    obtain ⟨bs, M, F, ev, at0, run⟩ := h
    exact ⟨C, mc, .int j, .int j tk, rfl, r, cv, Run.here at0.1 run _ (.int j)⟩)⟩
end
end Z

set_option maxHeartbeats 2000000
/-! ZK1: lambdas that are held (in a list) and tried by another def -/
namespace ZK
open PySem PySem.Spec PyProof.Rows L2 HotX L2H LamX ZH
theorem un_in {fs fs' ex' : List Addr} {H1 H2 H3 : Hp} {h1 h2 h3 : Heap} (a : Un fs [] H1 H2 h1 h2) (b : Un fs' ex' H2 H3 h2 h3) (hf : ∀ x ∈ fs', x ∈ fs ∨ h1.get? x = none) (he : ∀ x ∈ ex', h1.get? x = none) : Un fs [] H1 H3 h1 h3 := by
  have no : ∀ x : Addr, x ∉ ([] : List Addr) := fun x z => by cases z
  have nx : ∀ x o, h1.get? x = some o → x ∉ ex' := fun x o e z => by rw [he x z] at e; cases e
  refine ⟨fun x o e n hx _ => ?_, fun x o e n hx _ => ?_, fun x o e n _ => ?_, fun x o e _ => ?_, fun x xs e => b.tups x xs (a.tups x xs e), fun x o u e => b.frzs x o u (a.frzs x o u e), fun x ps e => ?_⟩
  · refine b.keep x o (a.keep x o e n hx (no x)) (a.free x o e n (no x)) (fun z => ?_) (nx x o e)
    rcases hf x z with q | q
    · exact hx q
    · rw [q] at e
      cases e
  · obtain ⟨sl, e2⟩ := a.slot x o e n hx (no x)
    obtain ⟨sl2, e3⟩ := b.any e2 (a.free x o e n (no x)) (nx x o e)
    exact ⟨sl2, e3⟩
  · obtain ⟨o2, e2⟩ := a.there x o e (no x)
    exact b.free x o2 e2 (a.free x o e n (no x)) (nx x o e)
  · obtain ⟨o2, e2⟩ := a.there x o e (no x)
    exact b.there x o2 e2 (nx x o e)
  · obtain ⟨m1, e1⟩ := a.tbls x ps e
    obtain ⟨m2, e2⟩ := b.tbls x _ e1
    exact ⟨m1 ++ m2, by rw [e2, Array.append_assoc]⟩
/-- the object at f is o -/
def LamO (f : Addr) (o : Obj) : HO := .ext fun h => h.get? f = some o
theorem lamO_ne {f : Addr} {o : Obj} (ps : Array Value) : LamO f o ≠ .tbl ps := fun z => by
  unfold LamO at z
  cases z
theorem lamO_lst {f : Addr} {o : Obj} (xs : List V) : LamO f o ≠ .lst xs := fun z => by
  unfold LamO at z
  cases z
theorem lamO_at {P : Program} {w : World} {H : Hp} {h : Heap} {f : Addr} {o : Obj} (hok : HOk P w H h) (e : H f = some (LamO f o)) : h.get? f = some o := (hok f _ e).1
section
variable {X : Cx} {pins : List (Addr × Obj)} {σ : L2.St} {H : Hp} {s : Shared}
/-- an object younger than all that is told is told from now on -/
theorem inv_track {s0 : Shared} {H0 : Hp} {f : Addr} {o : Obj} (I0 : Inv X pins σ H0 s0) (I : Inv X pins σ H s) (e : s.heap.get? f = some o) (hf : s0.heap.objs.size ≤ f) (hn : H f = none) : Inv X pins σ (upd H f (LamO f o)) s := by
  obtain ⟨hh, g, d, t, os⟩ := s
  have old : ∀ {b : Addr} {u : Obj}, s0.heap.get? b = some u → b ≠ f := fun {b u} q z => by
    have := Heap.lt_size q
    rw [z] at this
    exact Nat.lt_irrefl _ (Nat.lt_of_lt_of_le this hf)
  have neH : ∀ b u, H b = some u → b ≠ f := fun b u q => ne_of_none q hn
  refine I.step (g' := g) (t' := t) (d' := d) (ch := [f]) (fun b hb => ?_) (fun b ob _ _ _ q _ => q) (fun b ob _ _ _ q _ => ⟨ob.slots, q⟩) (fun b ob hc _ n => ?_) (fun b ob _ q => ⟨ob, q⟩) (fun b xs q => by rw [upd_ne (neH b _ q)]; exact q) (fun b ob u q => by rw [upd_ne (neH b _ q)]; exact q)
    (fun b ps q => ⟨#[], by rw [upd_ne (neH b _ q), q]; simp⟩) (fun m hm => hm) (fun b u q => ?_) I.bare
  · rw [List.mem_singleton.mp hb]
    refine ⟨.inr (Nat.le_trans I0.sz hf), Nat.ne_of_gt (Nat.lt_of_lt_of_le I0.lt hf), fun x c q => ?_, fun p hp => old (I0.pin p hp).1⟩
    obtain ⟨v, z⟩ := I0.cell x c q
    exact Nat.ne_of_lt (Nat.lt_of_lt_of_le z.lt hf)
  · rw [upd_ne (fun z => hc (by rw [z]; exact List.mem_singleton.mpr rfl))]
    exact n
  · by_cases z : b = f
    · subst z
      rw [upd_same] at q
      cases q
      exact ⟨e, ⟨o, e⟩, fun h1 h2 a st => st _ a⟩
    · rw [upd_ne z] at q
      exact (I.hok b u q).stay (fun _ _ _ y => y) (fun c y => by rw [upd_ne (neH c _ y)]; exact y) fun c xs y => by rw [upd_ne (neH c _ y)]; exact y
end
/-! ### lambdas -/
abbrev lamObj (X : Cx) (pr : Arguments) (b : Expr) (sc : Scope) (pm : Value) (c' : Addr) (ctv : Value) : Obj := PySem.W.kla_obj "<lambda>" (X.env.qual ++ "<lambda>") pr b sc (cloFrom X.env.cells sc.names []) pm c' ctv
/-- at f stands the lambda of this maker -/
def LamAt (X : Cx) (pr : Arguments) (b : Expr) (sc : Scope) (H : Hp) (f : Addr) : Prop := ∃ (c' : Addr) (pm ctv : Value), H f = some (LamO f (lamObj X pr b sc pm c' ctv)) ∧ H c' = some (CodeO c' (X.env.qual ++ "<lambda>"))
structure GoodL (X : Cx) (k : Nat) (pr : Arguments) (b : Expr) (sc : Scope) (t : XK → TE) : Prop where
  L : LamS X.env.scope sc
  bind : ∀ (q : Str) (cl : List (Str × Addr)) (pm cv ctv : Value), bindArgs (PySem.W.kla_fn "<lambda>" q pr b sc cl pm cv ctv) ⟨[], []⟩ = pure []
  run : ∀ (A : Around) (outer : List Env) (s : Shared) (H : Hp) (E : XK) (f c' : Addr), Room k (A.deeper (lamEnv X sc s.heap.objs.size f c')) → PE (lamN X A outer s H E sc f c') b (t E)
/-- the making of a lambda -/
def tLam (X : Cx) (Tb : List (Addr × Str)) (P : Addr) (pr : Arguments) (b : Expr) (sc : Scope) : TE := fun _ H Q => Tabs Tb H ∧ ∀ (f c' : Addr) (pm ctv : Value) (H1 : Hp), ExtP P H H1 → Tabs Tb H1 → H1 f = none → H1 c' = some (CodeO c' (X.env.qual ++ "<lambda>")) → Q (.ref f) (upd H1 f (LamO f (lamObj X pr b sc pm c' ctv)))
theorem pe_lam {X : Cx} {Tb : List (Addr × Str)} {c P : Addr} {pr : Arguments} {b : Expr} {sc : Scope} {pos : Pos} (B : TabB X.base X.mg c P) (hcd : X.env.code = .ref c) (hm : (P, X.env.qual ++ "<lambda>") ∈ Tb) (hu : ∀ p ∈ Tb, p.1 = P → p.2 = X.env.qual ++ "<lambda>") (L : LamS X.env.scope sc) (hdf : defaultsOf pr X.env = ([], [])) :
    PE X (.Lambda pr b sc pos) (tLam X Tb P pr b sc) := ⟨fun pins s σ H Q I ⟨hT, h⟩ => lam_make3 I B hcd hm hu hT hdf (L.has I.ok) fun f c' pm ctv H1 s' I1 eN T1 hf hn _ hc hsz =>
  ⟨.ref f, _, inv_track I I1 hf hsz hn, rfl, h f c' pm ctv H1 eN T1 hn hc⟩⟩
section
variable {X : Cx} {pins : List (Addr × Obj)} {σ : L2.St} {H : Hp} {s : Shared}
/-- a() in a def that was reached from the maker's call -/
theorem pe_actT {CXg : CXT} {Eg : XK} {Ng : List Str} {qg : Str} {sg : Scope} {g : Addr} {cdg : Value} {pr : Arguments} {body : Expr} {scope : Scope} {k i : Nat} {a : Str} {pn : List (Addr × Obj)} {xe : Value → Shared → Prop} {W : WX} {tb : XK → TE} {p1 p2 : Pos} {A0 : Around} {o0 : List Env} {s0 : Shared} {H0 : Hp} {f : Addr}
    (I : Inv X pins σ H s) (G : GoodL X k pr body scope tb) (tk : L2N.Takes ((cxOf CXg X.prog X.w X.K X.mg X.base Ng qg sg g cdg A0 o0 s0 H0 Eg).tr pn xe) W) (hr : Room (k + 1) (A0.deeper (envOfC qg sg s0.heap.objs.size g cdg)))
    (hun : ∀ (pinsZ : List (Addr × Obj)) (σZ : L2.St) (HZ : Hp) (sZ : Shared), Inv ((cxOf CXg X.prog X.w X.K X.mg X.base Ng qg sg g cdg A0 o0 s0 H0 Eg).tr pn xe) pinsZ σZ HZ sZ → Un (frs X.stack) [] H HZ s.heap sZ.heap)
    (hN : Ng[i]? = some a) (hv : Vis sg a) (hd : (a == ("__debug__" : Str)) = false := by decide) (hcd : (a == ("__classdict__" : Str)) = false := by decide) :
    PE ((cxOf CXg X.prog X.w X.K X.mg X.base Ng qg sg g cdg A0 o0 s0 H0 Eg).tr pn xe) (.Call (.Name a p1) [] [] p2)
      (fun σZ HZ Q => σZ[i]? = some (some (.ref f)) ∧ LamAt X pr body scope HZ f ∧ ∃ E : XK, (∀ cls d H', E cls d H' → W cls d σZ H') ∧ tb E σ HZ Q) := by
  refine ⟨fun pinsZ sZ σZ HZ Q IZ ⟨q1, ⟨c', pm, ctv, q0, q2⟩, E, q3, q4⟩ => ?_⟩
  refine wpAny_Call_Name_kw (thn ((pe_var (pos := p1) (i := i) hN hv hd hcd).run pinsZ sZ σZ HZ (fun v H1 => v = .ref f ∧ H1 = HZ) IZ ⟨.ref f, q1, rfl, rfl⟩) fun u s1 ⟨v, H1, I1, r1, ev, eH⟩ => ?_)
  subst ev eH
  obtain rfl : u = Value.ref f := r1
  have un := hun pinsZ σZ H1 s1 I1
  have fs1 := lamO_at I1.hok q0
  refine PySem.W.callWith_F0 ⟨_, _, _, _, fs1⟩ ?_
  obtain ⟨⟨oc, vs, t, hoc, hdc, hvc⟩, _, _⟩ := I1.hok c' _ q2
  have run : codeAny (model X.prog X.w) (A0.deeper (envOfC qg sg s0.heap.objs.size g cdg)) (.call (.ref f) ⟨[], []⟩) (CR (L2N.CX X.prog X.w) (envOfC qg sg s0.heap.objs.size g cdg :: o0) X.prog X.w H1 s1 Q E) s1 := by
    refine PySem.W.kla_callFunE hr.depth fs1 rfl G.L.co G.L.gen rfl ⟨c', oc, vs, t, rfl, hoc, hdc, hvc⟩ ?_
    rw [G.bind]
    refine wpAny_pure (wpAny_newFunctionEnv (fun y hy => (G.L.own y hy).2) (fun y hy => absurd hy (by simp)) (fun h1 hns hsb => ⟨I1.nolimit.fresh _ hsb, ?_⟩) G.L.kind)
    show codeAny _ _ (.expr body (lamEnv X scope s1.heap.objs.size f c')) _ _
    have kp : ∀ b o, s1.heap.get? b = some o → h1.get? b = some o := fun b o e => hsb.extBut b o (Nat.ne_of_lt (Heap.lt_size e)) (Heap.get?_push_of_some _ e)
    have J := (lam_start2 (E := E) (c' := c') (f := f) (tk := s1.toks + ([] : List (Str × Value)).length) I G.L I1.env0 hr.hd un hns kp).wish fun e s' => wpAny (model X.prog X.w) ((A0.deeper (envOfC qg sg s0.heap.objs.size g cdg)).deeper (lamEnv X scope s1.heap.objs.size f c')) (leaving (lamEnv X scope s1.heap.objs.size f c') e)
      (fun _ s'' => L2N.CX X.prog X.w (envOfC qg sg s0.heap.objs.size g cdg :: o0) H1 s1 E e s'') (fun e' s'' => L2N.CX X.prog X.w (envOfC qg sg s0.heap.objs.size g cdg :: o0) H1 s1 E e' s'') s'
    refine PySem.W.kla_codeExpr (wpAny_mono ((G.run _ _ s1 H1 E f c' (hr.deeper _)).run [] _ _ H1 Q J q4) (fun v s' hq => ?_) fun e s' hq => hq)
    obtain ⟨w', H', J', rv, q⟩ := hq
    exact ⟨w', H', J'.os, J'.bare, J'.base, J'.hok, rv, q⟩
  refine wpAny_call (codeAny_mono run fun r s' hq => ?_)
  cases r with
  | error e => exact tk _ _ (L2N.XE.of_call I1 q3 hq)
  | ok fl =>
    cases fl with
    | ret u => exact I1.after hq
    | next => exact False.elim hq
    | brk => exact False.elim hq
    | cont => exact False.elim hq
end
/-- the context of the def that tries -/
abbrev RX (X : Cx) (Ng : List Str) (qg : Str) (sg : Scope) (gg : Addr) (cdg : Value) (s1 : Shared) (H1 : Hp) : Cx := (cxOf L2.CX0 X.prog X.w X.K X.mg X.base Ng qg sg gg cdg X.A X.stack s1 H1 L2.E0).nox
theorem frs_in {X : Cx} {qg : Str} {sg : Scope} {s1 : Shared} {gg : Addr} {cdg : Value} : ∀ x ∈ frs (envOfC qg sg s1.heap.objs.size gg cdg :: X.stack), x ∈ frs X.stack ∨ s1.heap.get? x = none := fun x hx => by
  rcases List.mem_cons.mp hx with z | z
  · exact .inr (by rw [z]; exact Heap.get?_none_of_le (Nat.le_refl _))
  · exact .inl z
/-- what is wanted of the outcome of the lambda in slot i -/
def tOutV (X : Cx) (k : Nat) (T : Errs X.K X.mg) (σ1 : L2.St) (i : Nat) : TE := fun σB HB Q => ∃ (pr : Arguments) (b : Expr) (sc : Scope) (t : XK → TE) (f : Addr), GoodL X k pr b sc t ∧ σB[i]? = some (some (.ref f)) ∧ LamAt X pr b sc HB f ∧ ∀ p, HB p = none → t (outE T Q) σ1 (upd HB p (.tup [.str "nothing"])) (outV Q)
section
variable {X : Cx} {pins1 : List (Addr × Obj)} {σ1 : L2.St} {H1 : Hp} {s1 : Shared}
theorem pe_outV {Ng : List Str} {qg : Str} {sg : Scope} {gg : Addr} {cdg : Value} {s3 : Shared} {H3 : Hp} {scope : Scope} {ce : Env} {fp : List Addr} {st : Stmt} {g fe : Addr} {fd : FuncData} {k ke i : Nat} {a : Str} {T : Errs X.K X.mg} {p p3 pos : Pos} (I1 : Inv X pins1 σ1 H1 s1) (hg : Gl ((RX X Ng qg sg gg cdg s1 H1).blk s3 H3 scope ce fp) "_law_outcome")
    (hm : X.mg "_law_outcome" = some (.ref g)) (hk : PySem.W.keepIn X.K (.ref g) = true) (F : Fun X.K "_law_outcome" "_law_outcome" st g fd) (hb : L2.Binds X.K fd ["call"] []) (Bt : OutTxt (defScope st) (defBody st)) (FE : FnE X.prog X.w X.K X.mg X.base ke fe (spErr T)) (ge : X.mg "_law_error" = some (.ref fe)) (ke' : PySem.W.keepIn X.K (.ref fe) = true) (le : ke ≤ k + 1)
    (hr : Room (k + 2) (X.A.deeper (envOfC qg sg s1.heap.objs.size gg cdg))) (l3 : Un (frs X.stack) [] H1 H3 s1.heap s3.heap) (hfp : ∀ b ∈ fp, s1.heap.get? b = none) (hN : Ng[i]? = some a) (hv : Vis ce.scope a) (hd : (a == ("__debug__" : Str)) = false) (hcd : (a == ("__classdict__" : Str)) = false)
    (he : starEach [.Name a p3] ce = (false, eval (.Name a p3) ce) :: starEach [] ce := by rfl) :
    PE ((RX X Ng qg sg gg cdg s1 H1).blk s3 H3 scope ce fp) (.Call (.Name "_law_outcome" p) [.Name a p3] [] pos) (tOutV X k T σ1 i) := by
  obtain ⟨oc, od, kV, doc, pm, an, cdv, ct, osl, rfl, lk, hcg⟩ := F.ex
  refine ⟨fun pins s σ H Q I ⟨pr, b, sc, t, f, G, e1, la, h⟩ => ?_⟩
  refine wpAny_Call_Name_kw (ld_glob I hg hm (PySem.W.callWith_K (h₀ := X.base) I.ok.mod.kin hk ?_ he (by rfl)) (by decide))
  show wpAny _ _ (spliced ((false, eval (.Name a p3) ce) :: backTo pos (starEach [] ce))) _ _ s
  refine Calls.spliced_cons (thn ((pe_var (pos := p3) (i := i) hN hv hd hcd).run pins s σ H (fun v H8 => v = .ref f ∧ H8 = H) I ⟨.ref f, e1, rfl, rfl⟩) fun u s8 ⟨v, H8, I8, r8, ev, eH⟩ => Calls.spliced_nil ⟨I8.kIn, ?_⟩)
  subst ev eH
  obtain rfl : u = Value.ref f := r8
  have u8 : Un (frs X.stack) [] H1 H8 s1.heap s8.heap := un_in l3 I8.base frs_in hfp
  obtain ⟨c', pm', ctv, q0, q2⟩ := id la
  have rc : codeAny (model X.prog X.w) (X.A.deeper (envOfC qg sg s1.heap.objs.size gg cdg)) (.call (.ref g) ⟨[.ref f], []⟩) (CR L2.CX0 (envOfC qg sg s1.heap.objs.size gg cdg :: X.stack) X.prog X.w H8 s8 Q L2.E0) s8 := by
    refine run_ofS (CX := L2.CX0) (N := ["call", "found", "e"]) (ps := ["call"]) (us := [.ref f]) (vs := [.ref f]) lk hcg Bt.sc hr I8.env0 (hb s8 [.ref f] I8.kIn rfl) (.cons rfl .nil) rfl fun hr' => ?_
    obtain ⟨tt, ht, hq⟩ := out_body (P := X.prog) (w := X.w) (base := X.base) (f := f) (c' := c') (q := X.env.qual ++ "<lambda>") (Q := Q) (tl := fun E H' Q' => LamAt X pr b sc H' f ∧ t E σ1 H' Q') Bt T FE ge ke' (hr'.mono le)
      (fun W pn xe p1 p2 tk => ⟨fun pinsZ sZ σZ HZ QZ IZ ⟨z1, z2, E, z3, z4, z5⟩ => (pe_actT (i := 0) (f := f) I1 G tk hr' (fun _ _ _ _ JZ => un_in u8 JZ.base frs_in fun b hb => by cases hb) rfl (.inl Bt.l0)).run pinsZ sZ σZ HZ QZ IZ ⟨z1, z4, E, z3, z5⟩⟩) q2
      (fun p hp => ⟨⟨c', pm', ctv, by rw [upd_ne (ne_of_none q0 hp)]; exact q0, by rw [upd_ne (ne_of_none q2 hp)]; exact q2⟩, h p hp⟩)
    exact ⟨tt, ht.nox, hq⟩
  refine wpAny_call (codeAny_mono rc fun r s2 hq => ?_)
  cases r with
  | error e => exact (show False from hq).elim
  | ok fl =>
    cases fl with
    | ret u => exact I8.after hq
    | next => exact False.elim hq
    | brk => exact False.elim hq
    | cont => exact False.elim hq
end
end ZK

set_option maxHeartbeats 2000000
/-! ZK2: [.. for x in l if c] where no c holds; the def that tries a list of lambdas -/
namespace ZK
open PySem PySem.Spec PyProof.Rows L2 HotX L2H LamX ZH
/-- no test holds: the list stays empty -/
def tLcA (wi : TI) (g : TG) (tt : TT) (vs : List Nat) : TE := fun σ H Q => wi σ H fun J H1 => ∀ D, H1 D = none → ∃ (W : Nat → Hp → Prop) (n : Nat), W 0 (upd H1 D (.lst [])) ∧ ∀ i H', i ≤ n → W i H' → (J.stop i H' ∧ Q (.ref D) H') ∨ (i < n ∧ J.go i H' ∧ ∀ x H2, J.yld i H' x H2 → g x (wipe σ vs) H2 fun σ3 H3 => wipe σ3 vs = wipe σ vs ∧ tt σ3 H3 fun b H4 => b = false ∧ W (i + 1) H4)
section
variable {Z : Cx} {pins : List (Addr × Obj)} {σ : L2.St} {H : Hp} {s : Shared}
theorem lcA_core {Q : VK} {elt tg iter cond : Expr} {scope : Scope} {own : List (Str × Nat)} {pos pos' : Pos} {wi : TI} {g : TG} {tt : TT} (hc : Z.calm = true) (hN : Z.N.Nodup) (I : Inv Z pins σ H s) (hi : PI Z tg iter wi) (ok : BlkOk Z.N Z.env.scope scope own)
    (hg : ∀ (s : Shared) (H : Hp) (C : Addr) (cl : List (Str × Addr)) (fp : List Addr), PG (Z.blk s H scope (compEnvC scope cl C Z.env) fp) tg g)
    (ht : ∀ (s3 : Shared) (H3 : Hp) (C : Addr) (cl : List (Str × Addr)) (fp : List Addr), Inv Z pins σ H3 s3 → (∀ b ∈ fp, FpOk Z pins H3 b) → PT (Z.blk s3 H3 scope (compEnvC scope cl C Z.env) fp) cond tt)
    (hs : ∀ x, foldedSetIterable iter Z.env x = pure x) (h : tLcA wi g tt (own.map (·.2)) σ H Q) :
    wpAny (model Z.prog Z.w) Z.A (comprehension (.ListComp elt [⟨tg, iter, [cond], 0⟩] scope pos) scope Z.env pos' (newList []) false (eval iter Z.env) none) (EP Z pins σ Q) Z.xe s := by
  have fr : ∀ y ∈ scope.names, y.2 = .free → ∃ c, Z.env.cells.lookup y.1 = some c := fun y hy e => (ok.free y hy e).elim (fun q => I.ok.has _ (.inl q)) fun q => I.ok.has _ (.inr q)
  refine wpAny_comprehension_free (use := none) rfl hs (closure_ok fr) ok.kind (fun y hy e => by rw [ok.uniq y hy, e]) (thn (hi.run pins s σ H _ I h) fun xv s1 hx => thn hx fun itv s2 ⟨it, fp, tn, J, H2, ei, I2, T, t2, f2, q⟩ => ?_)
  subst ei
  refine wpAny_newObj_type (newEnv_comp ?_) (by show 0 ≤ sizeLine; decide)
  generalize hB : s2.heap.objs.size = B
  obtain ⟨W, n, w0, turn⟩ := q B (I2.hok.fresh (Nat.le_of_eq hB))
  generalize e3 : ({ s2 with heap := s2.heap.push { cls := .type "list", data := .seq ([] : List Value).toArray } } : Shared) = s3
  have hp3 : s3.heap = s2.heap.push { cls := .type "list", data := .seq ([] : List Value).toArray } := by rw [← e3]
  have I3 : Inv Z pins σ (upd H2 B (.lst [])) s3 := by
    rw [← e3]
    refine I2.laid (t' := s2.toks) (fun b o e => Heap.get?_push_of_some _ e) (Nat.le_of_eq hB) ⟨Nat.zero_le _, [], 0, .nil, ?_⟩
    rw [← hB]
    exact Heap.get?_push_size _ rfl
  generalize eH3 : upd H2 B (.lst []) = H3 at I3 w0
  have lt2 : ∀ b ∈ fp, b < s2.heap.objs.size := fun b hb => let ⟨o, e, _⟩ := T.obj _ _ t2 b hb; Heap.lt_size e
  have f3 : ∀ b ∈ fp, FpOk Z pins H3 b ∧ b < s3.heap.objs.size := fun b hb => ⟨⟨by rw [← eH3, upd_ne (by rw [← hB]; exact Nat.ne_of_lt (lt2 b hb))]; exact (f2 b hb).1, (f2 b hb).2⟩, by rw [hp3, Heap.size_push]; exact Nat.lt_succ_of_lt (lt2 b hb)⟩
  have t3 : tn 0 s3.heap := T.keep _ _ _ t2 fun b _ o e => by rw [hp3]; exact Heap.get?_push_of_some _ e
  have I4 := block_start I3 ok hN f3
  have pg := hg s3 H3 s3.heap.objs.size (cellsFrom (s3.heap.objs.size + 1) scope.names (cloFrom Z.env.cells scope.names [])) fp
  have pt := pts_one (ht s3 H3 s3.heap.objs.size (cellsFrom (s3.heap.objs.size + 1) scope.names (cloFrom Z.env.cells scope.names [])) fp I3 fun b hb => (f3 b hb).1)
  show codeAny _ _ (.compStart (.ListComp elt [⟨tg, iter, [cond], 0⟩] scope pos) 0 (.ref it) (.ref B) (compEnvC scope (cellsFrom (s3.heap.objs.size + 1) scope.names (cloFrom Z.env.cells scope.names [])) s3.heap.objs.size Z.env)) (compPost (model Z.prog Z.w) Z.A Z.xe none (EP Z pins σ Q) (.ref B) s3.heap.objs.size) { s3 with heap := pushCells (s3.heap.push { cls := .type "dict", data := .dict #[] }) scope.names }
  generalize hce : compEnvC scope (cellsFrom (s3.heap.objs.size + 1) scope.names (cloFrom Z.env.cells scope.names [])) s3.heap.objs.size Z.env = ce at I4 pg pt ⊢
  have cL : ce.locals = s3.heap.objs.size := by rw [← hce]; rfl
  generalize e4 : ({ s3 with heap := pushCells (s3.heap.push { cls := .type "dict", data := .dict #[] }) scope.names } : Shared) = s4 at I4 ⊢
  have t4 : tn 0 s4.heap := T.keep _ _ _ t3 fun b _ o e => by rw [← e4]; exact pushCells_keeps _ _ _ _ (Heap.get?_push_of_some _ e)
  have fps : ∀ {σ' : L2.St} {H' : Hp} {s' : Shared}, Inv (Z.blk s3 H3 scope ce fp) [] σ' H' s' → (∀ b ∈ fp, H' b = none) → ∀ b ∈ fp, FpOk (Z.blk s3 H3 scope ce fp) [] H' b := fun {_ _ _} J hn b hb =>
    ⟨hn b hb, (J.ok.exf b hb).1, J.ok.exfs b hb, .inl hb, fun x c e => (J.ok.exf b hb).2 x c e, fun p hp => absurd (show p ∈ ([] : List (Addr × Obj)) ++ [] from hp) (by simp)⟩
  have loop : codeAny (model Z.prog Z.w) Z.A (.compLoop (.ListComp elt [⟨tg, iter, [cond], 0⟩] scope pos) 0 (.ref it) (.ref B) ce) (compPost (model Z.prog Z.w) Z.A Z.xe none (EP Z pins σ Q) (.ref B) s3.heap.objs.size) s4 := by
    refine compLoop_any (fun m s' => ∃ i H', m = n - i ∧ i ≤ n ∧ Inv (Z.blk s3 H3 scope ce fp) [] (wipe σ (own.map (·.2))) H' s' ∧ tn i s'.heap ∧ (∀ b ∈ fp, H' b = none) ∧ W i H') ?_ n ⟨0, H3, rfl, Nat.zero_le _, I4, t4, fun b hb => (f3 b hb).1.1, w0⟩
    rintro m s5 ⟨i, H5, rfl, hin, I5, t5, n5, w5⟩
    rcases turn i H5 hin w5 with ⟨stop, qq⟩ | ⟨lt, go, step⟩
    · refine thnF (T.done (Z.blk s3 H3 scope ce fp) rfl rfl rfl hc i [] s5 _ H5 (fun _ _ => False) I5 (fps I5 n5) t5 stop) fun r s6 ⟨er, I6⟩ => ?_
      subst er
      have I7 : Inv Z pins σ H5 s6 := I3.call' (ch := fp) I6.os I6.base I6.hok I6.bare fun b hb => ⟨(f3 b hb).1.2.2.2.1, (f3 b hb).1.2.1, (f3 b hb).1.2.2.2.2.1, (f3 b hb).1.2.2.2.2.2⟩
      have nC : H5 s3.heap.objs.size = none := by
        have z : H5 ce.locals = none := I6.free
        rwa [cL] at z
      obtain ⟨m, hn, _⟩ := I6.loc
      obtain ⟨g0, g1, g2, g3, g4, g5⟩ := I3.fpOk (Nat.le_refl _) nC
      exact ⟨m, by rw [← cL]; exact hn, fun h7 sb => ⟨.ref B, H5, I7.turned (t' := s6.toks) (fun b o hb e => (sb.2 b hb).trans e) g0 g1 g3 g4 g5, rfl, qq⟩⟩
    · refine thnF (T.item (Z.blk s3 H3 scope ce fp) rfl rfl rfl hc i [] s5 _ H5 (fun _ _ => False) I5 (fps I5 n5) t5 go) fun r s6 ⟨u, er, h6⟩ => ?_
      subst er
      refine thnF h6 fun _ s7 ⟨x, H7, I7, r7, y7, t7, n7⟩ => ?_
      refine thnF (pg.run _ s7 _ H7 x u _ (I7.pinned (fps I7 n7) (T.obj _ _ t7)) r7 (step x H7 y7)) fun _ s8 ⟨σ8, H8, I8, hw8, q8⟩ => ?_
      refine thnF (pt.run _ s8 σ8 H8 _ I8 q8) fun b s9 ⟨H9, I9, eb, q9⟩ => ?_
      subst eb
      rw [if_neg Bool.false_ne_true]
      have pin9 : ∀ b ∈ fp, ∀ o, s7.heap.get? b = some o → s9.heap.get? b = some o ∧ H9 b = none := fun b hb o e =>
        let z := I9.pin (b, o) (List.mem_append_right _ (List.mem_append_right _ (mem_pinsAt hb e)))
        ⟨z.1, z.2.1⟩
      refine ⟨n - (i + 1), by omega, i + 1, H9, rfl, lt, (I9.unpinned (pins := [])).weak (by rw [← hw8, wipe_length]) (fun j v e => ?_), T.keep _ _ _ t7 fun b hb o e => (pin9 b hb o e).1, fun b hb => ?_, q9⟩
      · rw [← hw8] at e
        exact (wipe_some e).1
      · obtain ⟨o, e, _⟩ := T.obj _ _ t7 b hb
        exact (pin9 b hb o e).2
  exact codeAny_compStart_list loop (T.self Z.A 0 _ _ _ t4 loop)
theorem pe_lcA {elt tg iter cond : Expr} {scope : Scope} {own : List (Str × Nat)} {pos : Pos} {wi : TI} {g : TG} {tt : L2.St → TT} (hc : Z.calm = true) (hN : Z.N.Nodup) (hi : PI Z tg iter wi) (ok : BlkOk Z.N Z.env.scope scope own)
    (hg : ∀ (s : Shared) (H : Hp) (C : Addr) (cl : List (Str × Addr)) (fp : List Addr), PG (Z.blk s H scope (compEnvC scope cl C Z.env) fp) tg g)
    (ht : ∀ (pins : List (Addr × Obj)) (σ : L2.St) (s3 : Shared) (H3 : Hp) (C : Addr) (cl : List (Str × Addr)) (fp : List Addr), Inv Z pins σ H3 s3 → (∀ b ∈ fp, FpOk Z pins H3 b) → PT (Z.blk s3 H3 scope (compEnvC scope cl C Z.env) fp) cond (tt σ))
    (hs : ∀ x, foldedSetIterable iter Z.env x = pure x := by intro _; rfl) : PE Z (.ListComp elt [⟨tg, iter, [cond], 0⟩] scope pos) (fun σ H Q => tLcA wi g (tt σ) (own.map (·.2)) σ H Q) := ⟨fun pins s σ H Q I h => by
  rw [eval_ListComp]
  exact lcA_core hc hN I hi ok hg (ht pins σ) hs h⟩
end
end ZK

set_option maxHeartbeats 2000000
/-! ZK3: _law_all_raise(calls, word) -/
namespace ZK
open PySem PySem.Spec PyProof.Rows L2 HotX L2H LamX ZH
/-- the def's text -/
structure AllTxt (sg : Scope) (bg : List Stmt) : Prop where
  sc : FnScope ["calls", "word", "call"] ["calls", "word"] sg
  v0 : Vis sg "calls"
  bd : ∃ (cs : Scope) (q1 q2 q3 q4 q5 q6 q7 q8 q9 q10 q11 q12 q13 : Pos) (j1 n1 : Nat), bg = [.Return (some (.Compare (.ListComp (.Constant (.int 1) j1 q1) [⟨.Name "call" q2, .Name "calls" q3, [.Compare (.Call (.Name "_law_outcome" q4) [.Name "call" q5] [] q6) [.NotEq] [.Tuple [.Name "word" q7] n1 q8] q9], 0⟩] cs q10) [.Eq] [.List [] q11] q12)) q13] ∧
    BlkOk ["calls", "word", "call"] sg cs [("call", 2)] ∧ (relS cs sg).names.lookup ("_law_outcome" : Str) = some .globalImplicit ∧ (relS cs sg).names.lookup ("call" : Str) = some .local ∧ Vis (relS cs sg) "word"
/-- the two defs -/
structure AllOkP (P : Program) (w : World) (K : PySem.W.Frag) (mg : Str → Option Value) (base : Heap) (T : Errs K mg) (ke : Nat) : Prop where
  ex : ∃ (sa so : Stmt) (ga g fe : Addr) (fda fd : FuncData), mg "_law_all_raise" = some (.ref ga) ∧ PySem.W.keepIn K (.ref ga) = true ∧ Fun K "_law_all_raise" "_law_all_raise" sa ga fda ∧ L2.Binds K fda ["calls", "word"] [] ∧ AllTxt (defScope sa) (defBody sa) ∧
    mg "_law_outcome" = some (.ref g) ∧ PySem.W.keepIn K (.ref g) = true ∧ Fun K "_law_outcome" "_law_outcome" so g fd ∧ L2.Binds K fd ["call"] [] ∧ OutTxt (defScope so) (defBody so) ∧ FnE P w K mg base ke fe (spErr T) ∧ mg "_law_error" = some (.ref fe) ∧ PySem.W.keepIn K (.ref fe) = true
abbrev AllOk (X : Cx) (T : Errs X.K X.mg) (ke : Nat) : Prop := AllOkP X.prog X.w X.K X.mg X.base T ke
/-- behind the outcome: it is no other tuple than (word,) -/
def outQ (K : PySem.W.Frag) (wd : Str) (S : Hp → Prop) : VK := fun x H => ∀ q, H q = none → rNeD K x (.ref q) (upd H q (.tup [.str wd])) fun v H' => v = .bl false ∧ S H'
def tAllR (X : Cx) (k : Nat) (T : Errs X.K X.mg) (tA : TE) (wd : Str) : TE := fun σ H Q => tA σ H fun v H1 => ∃ (b : Addr) (fs : List Addr), v = .ref b ∧ SqL X.K H1 b (fs.map V.ref) ∧ ∀ D, H1 D = none → ∃ S : Nat → Hp → Prop, S 0 (upd H1 D (.lst [])) ∧ (∀ i H', i ≤ fs.length → S i H' → SqL X.K H' b (fs.map V.ref)) ∧
  (∀ i f H', fs[i]? = some f → S i H' → ∃ (pr : Arguments) (bo : Expr) (sc : Scope) (t : XK → TE), GoodL X k pr bo sc t ∧ LamAt X pr bo sc H' f ∧ ∀ p, H' p = none → t (outE T (outQ X.K wd (S (i + 1)))) σ (upd H' p (.tup [.str "nothing"])) (outV (outQ X.K wd (S (i + 1))))) ∧
  ∀ H', S fs.length H' → ∀ p, H' p = none → rEqD X.K (.ref D) (.ref p) (upd H' p (.lst [])) Q
theorem sql_len {P : Program} {w : World} {K : PySem.W.Frag} {H : Hp} {b : Addr} {xs ys : List V} {i : Nat} {x : V} (a : SqL K H b xs) (h : ∀ zs, SqL K H b zs → zs[i]? = some x) : xs[i]? = some x := h xs a
section
variable {X : Cx}
theorem pe_allR {T : Errs X.K X.mg} {k ke j : Nat} {eArg : Expr} {tA : TE} {wd : Str} {p p2 pos : Pos} (O : AllOk X T ke) (le : ke ≤ k + 1) (hg : Gl X "_law_all_raise") (hr : Room (k + 3) X.A) (hA : PE X eArg tA)
    (he : starEach [eArg, .Constant (.str wd) j p2] X.env = (false, eval eArg X.env) :: starEach [.Constant (.str wd) j p2] X.env) (he2 : starEach [.Constant (.str wd) j p2] X.env = (false, eval (.Constant (.str wd) j p2) X.env) :: starEach [] X.env) (hpl : (backTo pos (starEach [.Constant (.str wd) j p2] X.env)).any (·.1) = false) :
    PE X (.Call (.Name "_law_all_raise" p) [eArg, .Constant (.str wd) j p2] [] pos) (tAllR X k T tA wd) := by
  obtain ⟨sa, so, ga, g, fe, fda, fd, a1, a2, FA, a3, TA, b1, b2, FO, b3, TO, FE, b4, b5⟩ := O.ex
  obtain ⟨oc, od, kV, doc, pm, an, cdv, ct, osl, rfl, lk, hcg⟩ := FA.ex
  refine ⟨fun pins s σ H Q I h => ?_⟩
  refine wpAny_Call_Name_kw (ld_glob I hg a1 ?_ (by decide))
  refine PySem.W.callWith_K (h₀ := X.base) I.ok.mod.kin a2 (thn ((pa_cons hA (pa_cons pe_str pa_nil he2) he).run pos pins s σ H (fun vs H1 => ∃ v, vs = [v, .str wd] ∧ ∃ (b : Addr) (fs : List Addr), v = .ref b ∧ SqL X.K H1 b (fs.map V.ref) ∧ ∀ D, H1 D = none → ∃ S : Nat → Hp → Prop, S 0 (upd H1 D (.lst [])) ∧ (∀ i H', i ≤ fs.length → S i H' → SqL X.K H' b (fs.map V.ref)) ∧
      (∀ i f H', fs[i]? = some f → S i H' → ∃ (pr : Arguments) (bo : Expr) (sc : Scope) (t : XK → TE), GoodL X k pr bo sc t ∧ LamAt X pr bo sc H' f ∧ ∀ p, H' p = none → t (outE T (outQ X.K wd (S (i + 1)))) σ (upd H' p (.tup [.str "nothing"])) (outV (outQ X.K wd (S (i + 1))))) ∧
      ∀ H', S fs.length H' → ∀ p, H' p = none → rEqD X.K (.ref D) (.ref p) (upd H' p (.lst [])) Q) I ?_) fun us s1 ⟨vs, H1, I1, r, v, ev, b, fs, eb, hb, hq⟩ => ⟨I1.kIn, ?_⟩) he hpl
  · show tA σ H fun x H1 => _
    have h' : tA σ H fun v H1 => _ := h
    refine cast ?_ h'
    congr 1
    funext x H1
    exact propext ⟨fun z => ⟨x, rfl, z⟩, fun ⟨v, e, z⟩ => by
      obtain ⟨rfl, _⟩ := List.cons.inj e
      exact z⟩
  subst ev eb
  have lus : us.length = 2 := r.length.symm
  have hr2 : Room (k + 2) (X.A.deeper (envOfC "_law_all_raise" (defScope sa) s1.heap.objs.size ga cdv)) := hr.deeper _
  have hu : (X.A.deeper (envOfC "_law_all_raise" (defScope sa) s1.heap.objs.size ga cdv)).units + 64 < cLine := hr2.units
  have rc : codeAny (model X.prog X.w) X.A (.call (.ref ga) ⟨us, []⟩) (CR L2.CX0 X.stack X.prog X.w H1 s1 Q L2.E0) s1 := by
    refine run_ofS (CX := L2.CX0) (N := ["calls", "word", "call"]) (ps := ["calls", "word"]) (us := us) (vs := [.ref b, .str wd]) lk hcg TA.sc hr I1.env0 (by have := a3 s1 us I1.kIn (by simp [lus]); rwa [List.append_nil] at this) r rfl fun _ => ?_
    obtain ⟨cs, q1, q2, q3, q4, q5, q6, q7, q8, q9, q10, q11, q12, q13, j1, n1, ebd, bk, g1, g2, g3⟩ := TA.bd
    have gl : ∀ s3 H3 C cl fp, Gl ((RX X ["calls", "word", "call"] "_law_all_raise" (defScope sa) ga cdv s1 H1).blk s3 H3 cs (compEnvC cs cl C (RX X ["calls", "word", "call"] "_law_all_raise" (defScope sa) ga cdv s1 H1).env) fp) "_law_outcome" := fun _ _ _ _ _ => g1
    have nd : (["calls", "word", "call"] : List Str).Nodup := TA.sc.nd
    have cmp := pe_lcA (Z := RX X ["calls", "word", "call"] "_law_all_raise" (defScope sa) ga cdv s1 H1) (elt := .Constant (.int 1) j1 q1) (pos := q10) (own := [("call", 2)]) (tt := fun _ => tTest (tOp (rNeD X.K) (tOutV X k T σ 2) (tTup (tCons (tVar 1) tNil)))) rfl nd
      (pi_list (tg := .Name "call" q2) (pe_var (pos := q3) (i := 0) rfl TA.v0)) bk (fun _ _ _ _ _ => pg_name (pos := q2) (i := 2) nd rfl (.inl g2) (.inr g2))
      (fun pins0 σ0 s3 H3 C cl fp I3 hfp => pt_cmpR (pos := q9) (op_neD hu) (pe_outV (p := q4) (p3 := q5) (pos := q6) (i := 2) I1 (gl s3 H3 C cl fp) b1 b2 FO b3 TO FE b4 b5 le hr2 I3.base (fun x hx => by
        rcases (hfp x hx).2.2.2.1 with z | z
        · exact absurd (show x ∈ ([] : List Addr) from z) (by simp)
        · exact Heap.get?_none_of_le z) rfl (.inl g2) (by decide) (by decide)) (pe_tup (x1 := n1) (pos := q8) (pa_cons (pe_var (pos := q7) (i := 1) rfl g3) pa_nil)) (by rfl))
    refine ⟨_, PSs.nox (by rw [ebd]; exact pss_one (ps_ret (pe_cmpR (op_eqD hu) cmp (pe_lst (pos := q11) pa_nil) (by rfl)))), ?_⟩
    refine ⟨.ref b, rfl, b, rfl, ⟨fs.map V.ref, hb⟩, fun D hD => ?_⟩
    obtain ⟨S, s0, sq, step, fin⟩ := hq D hD
    refine ⟨S, fs.length, s0, fun i H' hi w => ?_⟩
    by_cases lt : i < fs.length
    · refine .inr ⟨lt, ⟨fs.map V.ref, .ref fs[i], sq i H' hi w, by simp [lt]⟩, fun x H2 ⟨eH, hx⟩ => ?_⟩
      subst eH
      have ex : x = .ref fs[i] := by
        have := hx _ (sq i _ hi w)
        rw [List.getElem?_map, List.getElem?_eq_getElem lt] at this
        exact (Option.some.inj this).symm
      subst ex
      obtain ⟨pr, bo, sc, t, G, la, q⟩ := step i fs[i] _ (List.getElem?_eq_getElem lt) w
      refine ⟨rfl, pr, bo, sc, t, fs[i], G, rfl, la, fun p hp => cast ?_ (q p hp)⟩
      have e : outQ X.K wd (S (i + 1)) = fun x H1 => tTup (tCons (tVar 1) tNil) ((wipe (L2.start ["calls", "word", "call"] [.ref b, .str wd]) [2]).set 2 (some (.ref fs[i]))) H1 fun y H2 => rNeD X.K x y H2 fun x H' => ∃ k, x = .bl k ∧ k = false ∧ S (i + 1) H' := by
        funext x H
        refine propext ⟨fun z => ⟨.str wd, rfl, (show 1 ≤ sizeLine by rw [sizeLine_eq]; decide), fun p hp => ?_⟩, fun ⟨v, ev, _, z⟩ p hp => ?_⟩
        · obtain ⟨d, e, h1, h2, h3, h4, h5, h6⟩ := z p hp
          exact ⟨d, e, h1, h2, h3, h4, _, rfl, by simpa using h5, h6⟩
        · cases ev
          obtain ⟨d, e, h1, h2, h3, h4, kk, h5, h6, h7⟩ := z p hp
          exact ⟨d, e, h1, h2, h3, h4, by rw [h5, h6], h7⟩
      rw [e]
      rfl
    · have ei : i = fs.length := by omega
      subst ei
      exact .inl ⟨⟨_, sq _ _ hi w, by rw [List.length_map]; exact Nat.le_refl _⟩, Nat.zero_le _, fun p hp => fin _ w p hp⟩
  refine wpAny_call (codeAny_mono rc fun r s2 hq => ?_)
  cases r with
  | error e => exact (show False from hq).elim
  | ok fl =>
    cases fl with
    | ret u => exact I1.after hq
    | next => exact False.elim hq
    | brk => exact False.elim hq
    | cont => exact False.elim hq
end
end ZK

set_option maxHeartbeats 2000000
/-! ZK4: lists of lambdas, by what the lambdas compute -/
namespace Z
open PySem PySem.Spec PyProof.Rows L2 ZK
variable [Tbs]
/-- at f stands a lambda that computes fb -/
def LR (X : Cx) (k : Nat) (H : Hp) (f : Addr) (fb : DE) : Prop := ∃ (pr : Arguments) (b : Expr) (sc : Scope), GoodL X k pr b sc (fun E => liftE X.K (WE' X.mg E) fb) ∧ LamAt X pr b sc H f
inductive LRs (X : Cx) (k : Nat) (H : Hp) : List Addr → List DE → Prop
  | nil : LRs X k H [] []
  | cons {f : Addr} {fs : List Addr} {fb : DE} {fbs : List DE} (h : LR X k H f fb) (t : LRs X k H fs fbs) : LRs X k H (f :: fs) (fb :: fbs)
theorem codeO_lst {c : Addr} {q : Str} (xs : List V) : LamX.CodeO c q ≠ .lst xs := fun z => by
  unfold LamX.CodeO at z
  cases z
section
variable {X : Cx} {k : Nat} {K : PySem.W.Frag} {bs bs' : List Addr} {M M' : MS} {F F' H H' : Hp} {σ : L2.St} {e : Ev}
theorem Wd.nolst (w : Wd K bs M F H) {a : Addr} {o : HO} (h : H a = some o) (n : ∀ xs, o ≠ .lst xs) : a ∉ bs := fun z => by
  obtain ⟨i, hi, e⟩ := List.mem_iff_getElem.mp z
  obtain ⟨_, vs, e3, _⟩ := w.objs i a _ (List.getElem?_eq_some_iff.mpr ⟨hi, e⟩) (List.getElem?_eq_getElem (by rw [← w.len]; exact hi))
  rw [h] at e3
  exact n vs (Option.some.inj e3)
theorem LR.of {f : Addr} {fb : DE} (l : LR X k H f fb) (h : ∀ a o, H a = some o → (∀ xs, o ≠ .lst xs) → (∀ ps, o ≠ .tbl ps) → H' a = some o) : LR X k H' f fb := by
  obtain ⟨pr, b, sc, G, c', pm, ctv, e1, e2⟩ := l
  exact ⟨pr, b, sc, G, c', pm, ctv, h _ _ e1 lamO_lst lamO_ne, h _ _ e2 codeO_lst LamX.codeO_ne⟩
theorem LRs.of {fs : List Addr} {fbs : List DE} (l : LRs X k H fs fbs) (h : ∀ a o, H a = some o → (∀ xs, o ≠ .lst xs) → (∀ ps, o ≠ .tbl ps) → H' a = some o) : LRs X k H' fs fbs := by
  induction l with
  | nil => exact .nil
  | cons q _ ih => exact .cons (q.of h) ih
theorem Tr.lams (t : Tr bs F H bs' F' H') (w : Wd K bs M F H) : ∀ a o, H a = some o → (∀ xs, o ≠ .lst xs) → (∀ ps, o ≠ .tbl ps) → H' a = some o := fun a o h n1 n2 => t.keep a o h (w.nolst h n1) n2
theorem LRs.append {fs gs : List Addr} {fbs gbs : List DE} (l : LRs X k H fs fbs) (m : LRs X k H gs gbs) : LRs X k H (fs ++ gs) (fbs ++ gbs) := by
  induction l with
  | nil => exact m
  | cons q _ ih => exact .cons q ih
theorem LRs.length {fs : List Addr} {fbs : List DE} (l : LRs X k H fs fbs) : fs.length = fbs.length := by
  induction l with
  | nil => rfl
  | cons _ _ ih => exact congrArg (· + 1) ih
theorem LRs.at {fs : List Addr} {fbs : List DE} (l : LRs X k H fs fbs) : ∀ {i : Nat} {f : Addr}, fs[i]? = some f → ∃ fb rest, fbs.drop i = fb :: rest ∧ rest = fbs.drop (i + 1) ∧ LR X k H f fb := by
  induction l with
  | nil => intro i f h; simp at h
  | cons q _ ih =>
    intro i f h
    cases i with
    | zero =>
      cases h
      exact ⟨_, _, rfl, rfl, q⟩
    | succ i => exact ih (i := i) (by simpa using h)
/-! ### a list of lambdas is made -/
def tLams (X : Cx) (k : Nat) (fbs : List DE) : TA := fun σ H Q => ∃ bs M F, Wd X.K bs M F H ∧ ∀ H' fs, Tr bs F H bs F H' → Wd X.K bs M F H' → LRs X k H' fs fbs → Q (fs.map V.ref) H'
theorem pl_nil : PA X [] (tLams X k []) := ⟨fun pos pins s σ H Q I ⟨bs, M, F, w, h⟩ => pa_nil.run pos pins s σ H Q I (h H [] (Tr.refl _ _ _) w .nil)⟩
theorem pl_cons {c P : Addr} {pr : Arguments} {b : Expr} {sc : Scope} {pos : Pos} {es : List Expr} {fb : DE} {fbs : List DE} (B : LamX.TabB X.base X.mg c P) (hcd : X.env.code = .ref c) (hm : (P, X.env.qual ++ "<lambda>") ∈ (Tbs.tb : List (Addr × Str))) (hu : ∀ p ∈ (Tbs.tb : List (Addr × Str)), p.1 = P → p.2 = X.env.qual ++ "<lambda>")
    (hdf : defaultsOf pr X.env = ([], [])) (G : GoodL X k pr b sc (fun E => liftE X.K (WE' X.mg E) fb)) (ht : PA X es (tLams X k fbs)) (hs : starEach (.Lambda pr b sc pos :: es) X.env = (false, eval (.Lambda pr b sc pos) X.env) :: starEach es X.env := by rfl) : PA X (.Lambda pr b sc pos :: es) (tLams X k (fb :: fbs)) :=
  ⟨fun ps pins s σ H Q I ⟨bs, M, F, w, h⟩ => (pa_cons (pe_lam B hcd hm hu G.L hdf) ht hs).run ps pins s σ H Q I ⟨w.tab, fun f c' pm ctv H1 x1 T1 nf hc => by
    obtain ⟨w1, t1⟩ := w.extP hm x1 T1
    obtain ⟨w2, t2⟩ := w1.lost (LamO f (lamObj X pr b sc pm c' ctv)) nf
    exact ⟨bs, M, F, w2, fun H' fs t3 w3 ls => h H' (f :: fs) ((t1.trans t2).trans t3) w3 (.cons (LR.of ⟨pr, b, sc, G, c', pm, ctv, upd_same, by rw [upd_ne (ne_of_none hc nf)]; exact hc⟩ (t3.lams w2)) ls)⟩⟩⟩
def tLamL (X : Cx) (k : Nat) (fbs : List DE) : TE := fun σ H Q => ∃ bs M F, Wd X.K bs M F H ∧ ∀ H' b fs, Tr bs F H bs F H' → Wd X.K bs M F H' → H b = none → H' b = some (.lst (fs.map V.ref)) → LRs X k H' fs fbs → Q (.ref b) H'
theorem pl_list {es : List Expr} {pos : Pos} {fbs : List DE} (ha : PA X es (tLams X k fbs)) (hl : fbs.length ≤ 1000) : PE X (.List es pos) (tLamL X k fbs) := ⟨fun pins s σ H Q I ⟨bs, M, F, w, h⟩ => (pe_lst ha).run pins s σ H Q I ⟨bs, M, F, w, fun H' fs t w' ls => ⟨by
  rw [List.length_map, ls.length, sizeLine_eq]
  omega, fun p hp => by
    obtain ⟨w2, t2⟩ := w'.lost (.lst (fs.map V.ref)) hp
    have h0 : H p = none := by
      cases q : H p with
      | none => rfl
      | some o => exact absurd hp (t.dom p (by rw [q]; simp))
    exact h _ p fs (t.trans t2) w2 h0 upd_same (ls.of (t2.lams w'))⟩⟩⟩
end
/-! ### the list in a slot -/
def LAt (X : Cx) (k i : Nat) (bs0 : List Addr) (F0 H0 : Hp) (bs : List Addr) (M : MS) (F H : Hp) (σ : L2.St) (e : Ev) (fbs : List DE) : Prop :=
  Tr bs0 F0 H0 bs F H ∧ Wd X.K bs M F H ∧ ∃ os, Slots X.K bs F H σ e os ∧ (∀ a ∈ os, H0 a = none) ∧ e[i]? = some .no ∧ ∃ b fs, σ[i]? = some (some (.ref b)) ∧ H b = some (.lst (fs.map V.ref)) ∧ F b = none ∧ b ∉ bs ∧ b ∉ os ∧ H0 b = none ∧ LRs X k H fs fbs ∧ fbs.length ≤ 1000
section
variable {X : Cx} {k i : Nat} {bs0 bs bs' : List Addr} {M M' : MS} {F0 H0 F F' H H' : Hp} {σ : L2.St} {e : Ev} {fbs add : List DE}
theorem LAt.ats (a : LAt X k i bs0 F0 H0 bs M F H σ e fbs) : AtS X.K bs0 F0 H0 bs M F H σ e := let ⟨t, w, os, s, n, _⟩ := a; ⟨t, w, os, s, n⟩
theorem LAt.tr (a : LAt X k i bs0 F0 H0 bs M F H σ e fbs) (t : Tr bs F H bs' F' H') (w : Wd X.K bs' M' F' H') : LAt X k i bs0 F0 H0 bs' M' F' H' σ e fbs := by
  obtain ⟨t0, w0, os, s, n, e0, b, fs, h1, h2, h3, h4, h5, h6, h7, h8⟩ := a
  exact ⟨t0.trans t, w, os, s.tr t, n, e0, b, fs, h1, t.keep _ _ h2 h4, t.free h2 h3, t.notin h2 h4, h5, h6, h7.of (t.lams w0), h8⟩
theorem Slots.setno2 {x : Option V} : ∀ {σ : L2.St} {e : Ev} {os : List Addr} (i : Nat), Slots X.K bs F H σ e os → e[i]? = some .no → Slots X.K bs F H (σ.set i x) e os
  | _, _, _, _, .nil, h => by simp at h
  | _, _, _, 0, .no s, _ => .no s
  | _, _, _, 0, .v _ s, h => by simp at h
  | _, _, _, 0, .own _ _ _ _ _ s, h => by simp at h
  | _, _, _, 0, .ownD _ _ _ _ _ _ s, h => by simp at h
  | _, _, _, i + 1, .no s, h => .no (Slots.setno2 i s (by simpa using h))
  | _, _, _, i + 1, .v r s, h => .v r (Slots.setno2 i s (by simpa using h))
  | _, _, _, i + 1, .own h1 h2 h3 h4 r s, h => .own h1 h2 h3 h4 r (Slots.setno2 i s (by simpa using h))
  | _, _, _, i + 1, .ownD h1 h2 h3 h4 h5 r s, h => .ownD h1 h2 h3 h4 h5 r (Slots.setno2 i s (by simpa using h))
theorem Slots.beside {b : Addr} {o : HO} : ∀ {σ : L2.St} {e : Ev} {os : List Addr}, Slots X.K bs F H σ e os → b ∉ os → Slots X.K bs F (upd H b o) σ e os
  | _, _, _, .nil, _ => .nil
  | _, _, _, .no s, h => .no (Slots.beside s h)
  | _, _, _, .v r s, h => .v r (Slots.beside s h)
  | _, _, _, .own h1 h2 h3 h4 r s, h => .own (by rw [upd_ne (fun z => h (by rw [← z]; exact List.mem_cons_self))]; exact h1) h2 h3 h4 r (Slots.beside s fun z => h (List.mem_cons_of_mem _ z))
  | _, _, _, .ownD h1 h2 h3 h4 h5 r s, h => .ownD (by rw [upd_ne (fun z => h (by rw [← z]; exact List.mem_cons_self))]; exact h1) h2 h3 h4 h5 r (Slots.beside s fun z => h (List.mem_cons_of_mem _ z))
/-- a new list of lambdas comes into the slot -/
theorem LAt.new {b : Addr} {fs : List Addr} (a : AtS X.K bs0 F0 H0 bs M F H σ e) (e0 : e[i]? = some .no) (t : Tr bs F H bs F H') (w : Wd X.K bs M F H') (hn : H b = none) (hb : H' b = some (.lst (fs.map V.ref))) (l : LRs X k H' fs fbs) (hl : fbs.length ≤ 1000) : LAt X k i bs0 F0 H0 bs M F H' (σ.set i (some (.ref b))) e fbs := by
  have b0 := a.none0 hn
  obtain ⟨t0, w0, os, s, n⟩ := a
  have hi : i < σ.length := by
    rw [s.length]
    exact (List.getElem?_eq_some_iff.mp e0).1
  exact ⟨t0.trans t, w, os, Slots.setno2 i (s.tr t) e0, n, e0, b, fs, List.getElem?_set_self hi, hb, w0.fnone hn, w0.notin hn, fun z => s.dom b z hn, b0, l, hl⟩
/-- the slot's own value is forgotten -/
theorem Slots.clear : ∀ {σ : L2.St} {e : Ev} {os : List Addr} (i : Nat), Slots X.K bs F H σ e os → ∃ os', Slots X.K bs F H σ (e.set i .no) os' ∧ ∀ a ∈ os', a ∈ os
  | _, _, _, _, .nil => ⟨[], .nil, fun _ h => h⟩
  | _, _, _, 0, .no s => ⟨_, .no s, fun _ h => h⟩
  | _, _, _, 0, .v _ s => ⟨_, .no s, fun _ h => h⟩
  | _, _, _, 0, .own _ _ _ _ _ s => ⟨_, .no s, fun _ h => List.mem_cons_of_mem _ h⟩
  | _, _, _, 0, .ownD _ _ _ _ _ _ s => ⟨_, .no s, fun _ h => List.mem_cons_of_mem _ h⟩
  | _, _, _, i + 1, .no s => let ⟨os', q, h⟩ := Slots.clear i s; ⟨os', .no q, h⟩
  | _, _, _, i + 1, .v z s => let ⟨os', q, h⟩ := Slots.clear i s; ⟨os', .v z q, h⟩
  | _, _, _, i + 1, .own h1 h2 h3 h4 z s => let ⟨os', q, h⟩ := Slots.clear i s; ⟨_ :: os', .own h1 h2 h3 (fun k => h4 (h _ k)) z q, fun a ha => (List.mem_cons.mp ha).elim (fun k => by rw [k]; exact List.mem_cons_self) fun k => List.mem_cons_of_mem _ (h _ k)⟩
  | _, _, _, i + 1, .ownD h1 h2 h3 h4 hk z s => let ⟨os', q, h⟩ := Slots.clear i s; ⟨_ :: os', .ownD h1 h2 h3 (fun k => h4 (h _ k)) hk z q, fun a ha => (List.mem_cons.mp ha).elim (fun k => by rw [k]; exact List.mem_cons_self) fun k => List.mem_cons_of_mem _ (h _ k)⟩
theorem AtS.clear (a : AtS X.K bs0 F0 H0 bs M F H σ e) (i : Nat) : AtS X.K bs0 F0 H0 bs M F H σ (e.set i .no) := by
  obtain ⟨t, w, os, s, n⟩ := a
  obtain ⟨os', s', h⟩ := Slots.clear i s
  exact ⟨t, w, os', s', fun b hb => n b (h b hb)⟩
end
end Z

set_option maxHeartbeats 2000000
/-! ZK5: statements over a list of lambdas -/
namespace Z
open PySem PySem.Spec PyProof.Rows L2 ZK
variable [Tbs]
/-- every lambda raises wd: the state behind them -/
def allR (wd : Str) (e : Ev) : List DE → MS → Option MS
  | [], M => some M
  | fb :: fbs, M => match fb e M with
    | some (.err c, M') => if c = wd ∧ ZH.errN.contains c = true then allR wd e fbs M' else none
    | _ => none
theorem ne_err {c : Str} (h : ZH.errN.contains c = true) {M : MS} : neD (.tup [.str c]) (.tup [.str c]) M = some (.bl false) := by
  obtain ⟨i, hi⟩ := errN_at h
  have two : ∀ c : Str, okN 8 (.tup [.str c]) = true → eqN 8 (.tup [.str c]) (.tup [.str c]) = true → neD (.tup [.str c]) (.tup [.str c]) M = some (.bl false) := fun c h1 h2 => by rw [neD_eq h1 h1, h2]; rfl
  match i, hi with
  | 0, hi => cases hi; exact two _ (by decide +kernel) (by decide +kernel)
  | 1, hi => cases hi; exact two _ (by decide +kernel) (by decide +kernel)
  | 2, hi => cases hi; exact two _ (by decide +kernel) (by decide +kernel)
  | 3, hi => cases hi; exact two _ (by decide +kernel) (by decide +kernel)
  | 4, hi => cases hi; exact two _ (by decide +kernel) (by decide +kernel)
  | 5, hi => cases hi; exact two _ (by decide +kernel) (by decide +kernel)
  | 6, hi => cases hi; exact two _ (by decide +kernel) (by decide +kernel)
  | _ + 7, hi => cases hi
section
variable {X : Cx} {W : Wi} {k i : Nat} {bs0 bs : List Addr} {M M' : MS} {F0 H0 F H : Hp} {σ : L2.St} {e : Ev} {fbs add : List DE} {os : List Addr}
theorem all_conv {T : ZH.Errs X.K X.mg} {wd : Str} {Q : VK} {b : Addr} {fs : List Addr} (w : Wd X.K bs M F H) (sl : Slots X.K bs F H σ e os) (hb : H b = some (.lst (fs.map V.ref))) (nb : b ∉ bs) (l : LRs X k H fs fbs) (run : allR wd e fbs M = some M') (q : ∀ bs' F' H', Tr bs F H bs' F' H' → Wd X.K bs' M' F' H' → Q (.bl true) H') :
    ∃ (b' : Addr) (fs : List Addr), V.ref b = .ref b' ∧ SqL X.K H b' (fs.map V.ref) ∧ ∀ D, H D = none → ∃ S : Nat → Hp → Prop, S 0 (upd H D (.lst [])) ∧ (∀ i H', i ≤ fs.length → S i H' → SqL X.K H' b' (fs.map V.ref)) ∧
      (∀ i f H', fs[i]? = some f → S i H' → ∃ (pr : Arguments) (bo : Expr) (sc : Scope) (t : XK → TE), GoodL X k pr bo sc t ∧ LamAt X pr bo sc H' f ∧ ∀ p, H' p = none → t (ZH.outE T (outQ X.K wd (S (i + 1)))) σ (upd H' p (.tup [.str "nothing"])) (ZH.outV (outQ X.K wd (S (i + 1))))) ∧
      ∀ H', S fs.length H' → ∀ p, H' p = none → rEqD X.K (.ref D) (.ref p) (upd H' p (.lst [])) Q := by
  refine ⟨b, fs, rfl, .inl (.inl hb), fun D hD => ?_⟩
  obtain ⟨wD, tD⟩ := w.laid (.lst []) hD
  refine ⟨fun i H' => ∃ bs' Mi F', Tr bs (upd F D (.lst [])) (upd H D (.lst [])) bs' F' H' ∧ Wd X.K bs' Mi F' H' ∧ allR wd e (fbs.drop i) Mi = some M', ⟨bs, M, _, Tr.refl _ _ _, wD, run⟩, fun i H' hi ⟨bs', Mi, F', t, w', r⟩ => .inl (.inl (t.keep _ _ (tD.keep _ _ hb nb) nb)), fun i f H' hf ⟨bs', Mi, F', t, w', r⟩ => ?_, fun H' ⟨bs', Mi, F', t, w', r⟩ p hp => ?_⟩
  · obtain ⟨fb, rest, e1, e2, lr⟩ := l.at hf
    rw [e1] at r
    unfold allR at r
    obtain ⟨pr, bo, sc, G, la⟩ := (lr.of (tD.lams w)).of (t.lams wD)
    refine ⟨pr, bo, sc, _, G, la, fun p hp => ?_⟩
    obtain ⟨wp, tp⟩ := w'.lost (.tup [.str "nothing"]) hp
    refine ⟨bs', Mi, F', e, ⟨wp, os, sl.tr ((tD.trans t).trans tp)⟩, ?_⟩
    cases e3 : fb e Mi with
    | none =>
      rw [e3] at r
      cases r
    | some pr2 =>
      obtain ⟨rs, M2⟩ := pr2
      rw [e3] at r
      cases rs with
      | ok d => cases r
      | err c =>
        simp only at r
        by_cases hc : c = wd ∧ ZH.errN.contains c = true
        · rw [if_pos hc] at r
          obtain ⟨ec, hn⟩ := hc
          subst ec
          intro bs2 F2 H2 t2 w2 u hu2
          obtain ⟨j, hj⟩ := errN_at hn
          have hl : j < T.cs.length := by
            rw [T.len]
            exact (List.getElem?_eq_some_iff.mp hj).1
          have hc : T.cs[j]? = some T.cs[j] := List.getElem?_eq_getElem hl
          have gu := T.g j _ c hc hj
          rw [gu] at hu2
          cases hu2
          refine ⟨j, _, c, hc, hj, rfl, rfl, fun H3 p3 s3 h3 q3 hq3 => ?_⟩
          obtain ⟨w3, t3⟩ := w2.ext s3
          obtain ⟨w4, t4⟩ := w3.laid (.tup [.str c]) h3
          obtain ⟨w5, t5⟩ := w4.laid (.tup [.str c]) hq3
          have n3 : p3 ≠ q3 := fun z => by
            rw [← z, upd_same] at hq3
            cases hq3
          exact z_neD _ M2 _ _ (.ref p3) (.ref q3) (.tup [.str c]) (.tup [.str c]) (.bl false) _ w5 (.tup (by rw [upd_ne n3]; exact upd_same) (.cons (.str _) .nil)) (.tup upd_same (.cons (.str _) .nil)) (ne_err hn)
            fun v bs6 F6 H6 t6 w6 r6 => ⟨by cases r6; rfl, bs6, M2, F6, ((((((t.trans tp).trans t2).trans t3).trans t4).trans t5).trans t6), w6, by rw [← e2]; exact r⟩
        · rw [if_neg hc] at r
          cases r
  · rw [l.length, List.drop_length] at r
    have em : Mi = M' := Option.some.inj r
    subst em
    obtain ⟨wp, tp⟩ := w'.laid (.lst []) hp
    have fD : F' D = some (.lst []) := t.fm _ _ upd_same
    have nD : D ≠ p := ne_of_none (w'.sub _ _ fD) hp
    exact z_eqD _ Mi _ _ (.ref D) (.ref p) (.lst []) (.lst []) (.bl true) Q wp (.lst (by rw [upd_ne nD]; exact fD) .nil) (.lst upd_same .nil) rfl fun v bs2 F2 H2 t2 w2 r2 => by
      cases r2
      exact q _ _ _ (((tD.trans t).trans tp).trans t2) w2
/-! ### the call, by what it is handed -/
structure ArgL (X : Cx) (k i : Nat) (wd : Str) (call : Expr) (add : List DE) : Prop where
  ex : ∃ t : TE, PE X call t ∧ ∀ (σ : L2.St) (H : Hp) (Q : VK) (bs0 : List Addr) (F0 H0 : Hp) (bs : List Addr) (M : MS) (F : Hp) (e : Ev) (fbs : List DE) (M' : MS), LAt X k i bs0 F0 H0 bs M F H σ e fbs → allR wd e (fbs ++ add) M = some M' → (∀ bs' F' H', AtS X.K bs0 F0 H0 bs' M' F' H' σ e → Q (.bl true) H') → t σ H Q
structure Arg0 (X : Cx) (wd : Str) (call : Expr) (add : List DE) : Prop where
  ex : ∃ t : TE, PE X call t ∧ ∀ (σ : L2.St) (H : Hp) (Q : VK) (bs0 : List Addr) (F0 H0 : Hp) (bs : List Addr) (M : MS) (F : Hp) (e : Ev) (M' : MS), AtS X.K bs0 F0 H0 bs M F H σ e → allR wd e add M = some M' → (∀ bs' F' H', AtS X.K bs0 F0 H0 bs' M' F' H' σ e → Q (.bl true) H') → t σ H Q
variable {T : ZH.Errs X.K X.mg} {ke j : Nat} {wd x : Str} {p p1 p2 p3 p4 p5 pos : Pos} {es : List Expr}
theorem argN (O : AllOk X T ke) (le : ke ≤ k + 1) (hg : Gl X "_law_all_raise") (hr : Room (k + 3) X.A) (hx : PE X (.Name x p1) (tVar i))
    (he : starEach [.Name x p1, .Constant (.str wd) j p2] X.env = (false, eval (.Name x p1) X.env) :: starEach [.Constant (.str wd) j p2] X.env := by rfl) (he2 : starEach [.Constant (.str wd) j p2] X.env = (false, eval (.Constant (.str wd) j p2) X.env) :: starEach [] X.env := by rfl) (hpl : (backTo pos (starEach [.Constant (.str wd) j p2] X.env)).any (·.1) = false := by rfl) :
    ArgL X k i wd (.Call (.Name "_law_all_raise" p) [.Name x p1, .Constant (.str wd) j p2] [] pos) [] :=
  ⟨_, pe_allR O le hg hr hx he he2 hpl, fun σ H Q bs0 F0 H0 bs M F e fbs M' a run q => by
    have ats := a.ats
    obtain ⟨t, w, os, s, n, e0, b, fs, h1, h2, h3, h4, h5, h6, h7, h8⟩ := a
    rw [List.append_nil] at run
    exact ⟨.ref b, h1, all_conv w s h2 h4 h7 run fun bs' F' H' t' w' => q _ _ _ (ats.tr t' w')⟩⟩
theorem argC (O : AllOk X T ke) (le : ke ≤ k + 1) (hg : Gl X "_law_all_raise") (hr : Room (k + 3) X.A) (hx : PE X (.Name x p1) (tVar i)) (ha : PA X es (tLams X k add)) (hl : add.length ≤ 1000)
    (he : starEach [.BinOp (.Name x p1) .Add (.List es p3) p4, .Constant (.str wd) j p2] X.env = (false, eval (.BinOp (.Name x p1) .Add (.List es p3) p4) X.env) :: starEach [.Constant (.str wd) j p2] X.env := by rfl) (he2 : starEach [.Constant (.str wd) j p2] X.env = (false, eval (.Constant (.str wd) j p2) X.env) :: starEach [] X.env := by rfl) (hpl : (backTo pos (starEach [.Constant (.str wd) j p2] X.env)).any (·.1) = false := by rfl) :
    ArgL X k i wd (.Call (.Name "_law_all_raise" p) [.BinOp (.Name x p1) .Add (.List es p3) p4, .Constant (.str wd) j p2] [] pos) add :=
  ⟨_, pe_allR O le hg hr (pe_op op_cat hx (pl_list ha hl)) he he2 hpl, fun σ H Q bs0 F0 H0 bs M F e fbs M' a run q => by
    have ats := a.ats
    obtain ⟨t, w, os, s, n, e0, b, fs, h1, h2, h3, h4, h5, h6, h7, h8⟩ := a
    refine ⟨.ref b, h1, bs, M, F, w, fun H' b2 gs t2 w2 hn hb2 ls => ⟨b, b2, fs.map V.ref, gs.map V.ref, rfl, rfl, t2.keep _ _ h2 h4, hb2, ?_, fun c hc => ?_⟩⟩
    · rw [List.length_map, List.length_map, h7.length, ls.length, sizeLine_eq]
      omega
    · obtain ⟨w3, t3⟩ := w2.lost (.lst (fs.map V.ref ++ gs.map V.ref)) hc
      have l3 : LRs X k (upd H' c (.lst (fs.map V.ref ++ gs.map V.ref))) (fs ++ gs) (fbs ++ add) := ((h7.of (t2.lams w)).append ls).of (t3.lams w2)
      exact all_conv w3 (s.tr (t2.trans t3)) (fs := fs ++ gs) (by rw [List.map_append]; exact upd_same) (w2.notin hc) l3 run fun bs' F' H' t' w' => q _ _ _ (ats.tr ((t2.trans t3).trans t') w')⟩
theorem arg0 (O : AllOk X T ke) (le : ke ≤ k + 1) (hg : Gl X "_law_all_raise") (hr : Room (k + 3) X.A) (ha : PA X es (tLams X k add)) (hl : add.length ≤ 1000)
    (he : starEach [.List es p3, .Constant (.str wd) j p2] X.env = (false, eval (.List es p3) X.env) :: starEach [.Constant (.str wd) j p2] X.env := by rfl) (he2 : starEach [.Constant (.str wd) j p2] X.env = (false, eval (.Constant (.str wd) j p2) X.env) :: starEach [] X.env := by rfl) (hpl : (backTo pos (starEach [.Constant (.str wd) j p2] X.env)).any (·.1) = false := by rfl) :
    Arg0 X wd (.Call (.Name "_law_all_raise" p) [.List es p3, .Constant (.str wd) j p2] [] pos) add :=
  ⟨_, pe_allR (k := k) O le hg hr (pl_list ha hl) he he2 hpl, fun σ H Q bs0 F0 H0 bs M F e M' a run q => by
    obtain ⟨t, w, os, s, n⟩ := id a
    exact ⟨bs, M, F, w, fun H' b gs t2 w2 hn hb ls => all_conv w2 (s.tr t2) hb (w.notin hn) ls run fun bs' F' H' t' w' => q _ _ _ (a.tr (t2.trans t') w')⟩⟩
/-! ### statements -/
abbrev LF := Ev → List DE → Mo Oc
def liftL (X : Cx) (W : Wi) (k i : Nat) (f : LF) : TS := fun Dn σ H => ∃ bs0 F0 H0 bs M F e fbs, LAt X k i bs0 F0 H0 bs M F H σ e fbs ∧ RunS X.K W bs0 F0 H0 (f e fbs M) Dn
abbrev ZLs (X : Cx) (W : Wi) (k i : Nat) (sts : List Stmt) (f : LF) : Prop := PSs X sts (liftL X W k i f)
def lAll (wd : Str) (add : List DE) (f : DS) : LF := fun e fbs M => match allR wd e (fbs ++ add) M with
  | some M' => f e M'
  | none => none
def lAll0 (wd : Str) (add : List DE) (f : DS) : DS := fun e M => match allR wd e add M with
  | some M' => f e M'
  | none => none
def lCat (add : List DE) (f : LF) : LF := fun e fbs => if (fbs ++ add).length ≤ 1000 then f e (fbs ++ add) else stuck
def lIf (ft : DT) (add : List DE) (f : LF) : LF := fun e fbs => bnd (ft e) fun c => if c = true then lCat add f e fbs else f e fbs
def lBegin (i : Nat) (add : List DE) (f : LF) : DS := fun e => if i < e.length then f (e.set i .no) add else stuck
variable {st : Stmt} {rest body : List Stmt} {f : DS} {g : LF} {call c e2 : Expr} {add2 : List DE} {ft : DT} {fE : DE} {j2 : Nat}
theorem zl_allif (A : ArgL X k i wd call add) (hr : ZSs X W rest f) (he : ∀ whole, isTrue call X.env whole = (do let v ← whole; standAt call.pos; holding [v] (truthy v)) := by intro _; rfl) : ZLs X W k i (.If (.UnaryOp .Not call p1) [.Return (some (.Constant (.bool false) j2 p2)) p3] [] p4 :: rest) (lAll wd add f) := by
  obtain ⟨t, ht, conv⟩ := A.ex
  refine ⟨fun pins s σ H Dn I ⟨bs0, F0, H0, bs, M, F, e, fbs, a, run⟩ => (pss_cons (ps_if (pt_not (pt_val ht he)) (pss_one (ps_ret pe_bl)) pss_nil) hr).run pins s σ H Dn I ?_⟩
  unfold lAll at run
  cases e1 : allR wd e (fbs ++ add) M with
  | none =>
    rw [e1] at run
    exact run.elim
  | some M' =>
    rw [e1] at run
    exact conv σ H _ bs0 F0 H0 bs M F e fbs M' a e1 fun bs' F' H' a' => ⟨true, rfl, by
      simp only [Bool.not_true, Bool.false_eq_true, if_false]
      exact ⟨bs0, F0, H0, bs', M', F', e, a', run⟩⟩
theorem zs_allif0 (A : Arg0 X wd call add) (hr : ZSs X W rest f) (he : ∀ whole, isTrue call X.env whole = (do let v ← whole; standAt call.pos; holding [v] (truthy v)) := by intro _; rfl) : ZSs X W (.If (.UnaryOp .Not call p1) [.Return (some (.Constant (.bool false) j2 p2)) p3] [] p4 :: rest) (lAll0 wd add f) := by
  obtain ⟨t, ht, conv⟩ := A.ex
  refine ⟨fun pins s σ H Dn I ⟨bs0, F0, H0, bs, M, F, e, a, run⟩ => (pss_cons (ps_if (pt_not (pt_val ht he)) (pss_one (ps_ret pe_bl)) pss_nil) hr).run pins s σ H Dn I ?_⟩
  unfold lAll0 at run
  cases e1 : allR wd e add M with
  | none =>
    rw [e1] at run
    exact run.elim
  | some M' =>
    rw [e1] at run
    exact conv σ H _ bs0 F0 H0 bs M F e M' a e1 fun bs' F' H' a' => ⟨true, rfl, by
      simp only [Bool.not_true, Bool.false_eq_true, if_false]
      exact ⟨bs0, F0, H0, bs', M', F', e, a', run⟩⟩
theorem zl_allret (A : ArgL X k i wd call add) : ZLs X W k i [.Return (some call) p1] (lAll wd add fun _ => ret (.rt (.bl true))) := by
  obtain ⟨t, ht, conv⟩ := A.ex
  refine ⟨fun pins s σ H Dn I ⟨bs0, F0, H0, bs, M, F, e, fbs, a, run⟩ => (pss_one (ps_ret ht)).run pins s σ H Dn I ?_⟩
  unfold lAll at run
  cases e1 : allR wd e (fbs ++ add) M with
  | none =>
    rw [e1] at run
    exact run.elim
  | some M' =>
    rw [e1] at run
    exact conv σ H _ bs0 F0 H0 bs M F e fbs M' a e1 fun bs' F' H' a' => run bs' F' H' _ a'.1 a'.2.1 (.bl true)
theorem zl_alland (A : ArgL X k i wd call add) (h2 : ZE X W e2 fE) : ZLs X W k i [.Return (some (.BoolOp .And [call, e2] p2)) p1] (lAll wd add (dRet fE)) := by
  obtain ⟨t, ht, conv⟩ := A.ex
  refine ⟨fun pins s σ H Dn I ⟨bs0, F0, H0, bs, M, F, e, fbs, a, run⟩ => (pss_one (ps_ret (pe_and ht (pe_one h2)))).run pins s σ H Dn I ?_⟩
  unfold lAll at run
  cases e1 : allR wd e (fbs ++ add) M with
  | none =>
    rw [e1] at run
    exact run.elim
  | some M' =>
    rw [e1] at run
    exact conv σ H _ bs0 F0 H0 bs M F e fbs M' a e1 fun bs' F' H' a' => ⟨true, rfl, by
      rw [if_pos rfl]
      exact ⟨bs', M', F', e, a'.at, (run.bind a').imp fun d bs1 M1 F1 H1 t1 w1 q v r => q.2 _ _ _ v (q.1.1) w1 r⟩⟩
/-- a statement that makes the list longer -/
def tAdd (X : Cx) (k i : Nat) (add : List DE) : TS := fun Dn σ H => ∃ bs0 F0 H0 bs M F e fbs, LAt X k i bs0 F0 H0 bs M F H σ e fbs ∧ (fbs ++ add).length ≤ 1000 ∧ ∀ H' σ', LAt X k i bs0 F0 H0 bs M F H' σ' e (fbs ++ add) → Dn.nx σ' H'
theorem zl_step (hs : PS X st (tAdd X k i add)) (hr : ZLs X W k i rest g) : ZLs X W k i (st :: rest) (lCat add g) := by
  refine ⟨fun pins s σ H Dn I ⟨bs0, F0, H0, bs, M, F, e, fbs, a, run⟩ => (pss_cons hs hr).run pins s σ H Dn I ?_⟩
  unfold lCat at run
  by_cases hl : (fbs ++ add).length ≤ 1000
  · rw [if_pos hl] at run
    exact ⟨bs0, F0, H0, bs, M, F, e, fbs, a, hl, fun H' σ' a' => ⟨bs0, F0, H0, bs, M, F, e, _, a', run⟩⟩
  · rw [if_neg hl] at run
    exact run.elim
theorem zb_nil : PSs X [] (tAdd X k i []) := ⟨fun pins s σ H Dn I ⟨bs0, F0, H0, bs, M, F, e, fbs, a, hl, q⟩ => pss_nil.run pins s σ H Dn I (q H σ (by rw [List.append_nil]; exact a))⟩
theorem zb_cons (hs : PS X st (tAdd X k i add)) (hr : PSs X rest (tAdd X k i add2)) : PSs X (st :: rest) (tAdd X k i (add ++ add2)) := ⟨fun pins s σ H Dn I ⟨bs0, F0, H0, bs, M, F, e, fbs, a, hl, q⟩ => (pss_cons hs hr).run pins s σ H Dn I
  ⟨bs0, F0, H0, bs, M, F, e, fbs, a, by simp only [List.length_append] at hl ⊢; omega, fun H' σ' a' => ⟨bs0, F0, H0, bs, M, F, e, _, a', by rw [List.append_assoc]; exact hl, fun H2 σ2 a2 => q H2 σ2 (by rw [← List.append_assoc]; exact a2)⟩⟩⟩
theorem zl_if (ht : ZT X W c ft) (hb : PSs X body (tAdd X k i add)) (hr : ZLs X W k i rest g) : ZLs X W k i (.If c body [] p1 :: rest) (lIf ft add g) := by
  refine ⟨fun pins s σ H Dn I ⟨bs0, F0, H0, bs, M, F, e, fbs, a, run⟩ => (pss_cons (ps_if ht hb pss_nil) hr).run pins s σ H Dn I ?_⟩
  refine ⟨bs, M, F, e, a.ats.at, (RunS.bind (f := fun c => if c = true then lCat add g e fbs else g e fbs) run a.ats).imp fun d bs1 M1 F1 H1 t1 w1 q => ?_⟩
  have a1 := a.tr t1 w1
  have run1 := q.2
  cases d with
  | true =>
    simp only [if_true] at run1
    unfold lCat at run1
    by_cases hl : (fbs ++ add).length ≤ 1000
    · rw [if_pos hl] at run1
      simp only [qT, if_true]
      exact ⟨bs0, F0, H0, bs1, M1, F1, e, fbs, a1, hl, fun H' σ' a' => ⟨bs0, F0, H0, bs1, M1, F1, e, _, a', run1⟩⟩
    · rw [if_neg hl] at run1
      exact run1.elim
  | false =>
    simp only [Bool.false_eq_true, if_false] at run1
    simp only [qT, Bool.false_eq_true, if_false]
    exact ⟨bs0, F0, H0, bs1, M1, F1, e, fbs, a1, run1⟩
theorem zl_begin (hN : X.N.Nodup) (hi : X.N[i]? = some x) (hx : Loc X.env.scope x) (ha : PA X es (tLams X k add)) (hl : add.length ≤ 1000) (hr : ZLs X W k i rest g) (hs : swapsWith (.List es p3) (some (.Name x p1)) pos.line X.env = pure false := by rfl) (hf : X.fn x = true ∨ X.env.scope.names.lookup x = some .local := by first | exact .inl rfl | exact .inr rfl | assumption) :
    ZSs X W (.Assign [.Name x p1] (.List es p3) pos :: rest) (lBegin i add g) := by
  refine ⟨fun pins s σ H Dn I ⟨bs0, F0, H0, bs, M, F, e, a, run⟩ => (pss_cons (ps_set hN hi hx (pl_list ha hl) hs hf) hr).run pins s σ H Dn I ?_⟩
  unfold lBegin at run
  by_cases h : i < e.length
  · rw [if_pos h] at run
    exact ⟨bs, M, F, a.2.1, fun H' b fs t w hn hb l => ⟨bs0, F0, H0, bs, M, F, _, add, LAt.new (a.clear i) (List.getElem?_set_self h) t w hn hb l hl, run⟩⟩
  · rw [if_neg h] at run
    exact run.elim
theorem za_cat (hN : X.N.Nodup) (hi : X.N[i]? = some x) (hx : Loc X.env.scope x) (hv : PE X (.Name x p2) (tVar i)) (ha : PA X es (tLams X k add)) (hl : add.length ≤ 1000) (hs : swapsWith (.BinOp (.Name x p2) .Add (.List es p3) p4) (some (.Name x p1)) pos.line X.env = pure false := by rfl) (hf : X.fn x = true ∨ X.env.scope.names.lookup x = some .local := by first | exact .inl rfl | exact .inr rfl | assumption) :
    PS X (.Assign [.Name x p1] (.BinOp (.Name x p2) .Add (.List es p3) p4) pos) (tAdd X k i add) := by
  refine ⟨fun pins s σ H Dn I ⟨bs0, F0, H0, bs, M, F, e, fbs, a, hlen, q⟩ => (ps_set hN hi hx (pe_op op_cat hv (pl_list ha hl)) hs hf).run pins s σ H Dn I ?_⟩
  have ats := a.ats
  obtain ⟨t, w, os, sl, n, e0, b, fs, h1, h2, h3, h4, h5, h6, h7, h8⟩ := a
  refine ⟨.ref b, h1, bs, M, F, w, fun H' b2 gs t2 w2 hn hb2 ls => ⟨b, b2, fs.map V.ref, gs.map V.ref, rfl, rfl, t2.keep _ _ h2 h4, hb2, ?_, fun d hd => ?_⟩⟩
  · rw [List.length_map, List.length_map, h7.length, ls.length, sizeLine_eq]
    omega
  · obtain ⟨w3, t3⟩ := w2.lost (.lst (fs.map V.ref ++ gs.map V.ref)) hd
    have hd0 : H d = none := by
      cases z : H d with
      | none => rfl
      | some o => exact absurd hd (t2.dom d (by rw [z]; simp))
    exact q _ _ (LAt.new (fs := fs ++ gs) ats e0 (t2.trans t3) w3 hd0 (by rw [List.map_append]; exact upd_same) (((h7.of (t2.lams w)).append ls).of (t3.lams w2)) hlen)
theorem za_app (hv : PE X (.Name x p1) (tVar i)) {fb : DE} (ha : PA X [e2] (tLams X k [fb])) (hs : swapsWith (.Call (.Attribute (.Name x p1) "append" p2) [e2] [] p3) none pos.line X.env = pure false := by rfl)
    (hb : attributeBase (.Name x p1) "append" X.env (eval (.Name x p1) X.env) = eval (.Name x p1) X.env := by rfl) (he1 : starEach [e2] X.env = (false, eval e2 X.env) :: starEach [] X.env := by rfl) (hline : (p2.endLine == p3.line) = true := by rfl)
    (hfew : ((backTo p3 (starEach (e2 :: []) X.env)).all (fun x => !x.1) && (backToKw p3 (keywordEach [] X.env)).all (fun x => x.1.isSome)
      && decide ((e2 :: []).length + ([] : List Keyword).length + (if ([] : List Keyword).isEmpty then 0 else 1) < 30)) = true := by rfl) :
    PS X (.Expr (.Call (.Attribute (.Name x p1) "append" p2) [e2] [] p3) pos) (tAdd X k i [fb]) := by
  refine ⟨fun pins s σ H Dn I ⟨bs0, F0, H0, bs, M, F, e, fbs, a, hlen, q⟩ => (ps_expr (pe_bm PySem.F.plainAttrs_list PySem.F.slot_list_append PySem.F.type_list_append mt_append hv ha (hline := hline) (hfew := hfew) (hs := he1)) hs).run pins s σ H Dn I ?_⟩
  obtain ⟨t, w, os, sl, n, e0, b, fs, h1, h2, h3, h4, h5, h6, h7, h8⟩ := a
  have key : ∀ H' gs, Tr bs F H bs F H' → Wd X.K bs M F H' → LRs X k H' gs [fb] → ∀ f, gs = [f] → LAt X k i bs0 F0 H0 bs M F (upd H' b (.lst (fs.map V.ref ++ [.ref f]))) σ e (fbs ++ [fb]) := fun H' gs t2 w2 ls f eg => by
    subst eg
    have hb2 := t2.keep _ _ h2 h4
    have ne : ∀ a o, H' a = some o → (∀ xs, o ≠ .lst xs) → a ≠ b := fun a o ha hn z => by
      rw [z, hb2] at ha
      exact hn _ (Option.some.inj ha).symm
    refine ⟨?_, ?_, os, Slots.beside (sl.tr t2) h5, n, e0, b, fs ++ [f], h1, by rw [List.map_append]; exact upd_same, h3, h4, h5, h6, ((h7.of (t2.lams w)).append ls).of fun a o ha n1 n2 => by rw [upd_ne (ne a o ha n1)]; exact ha, hlen⟩
    · have tt := t.trans t2
      exact ⟨tt.pre, tt.fm, tt.new, fun a o ha na nt => by
        rw [upd_ne (ne_of_none ha h6)]
        exact tt.keep0 a o ha na nt, fun a ha => by
        by_cases z : a = b
        · rw [z, upd_same]
          simp
        · rw [upd_ne z]
          exact tt.dom a ha⟩
    · refine ⟨fun a u ha => ?_, w2.nd, w2.len, fun j a ds e1 e2 => ?_, tabs_lst w2.tab hb2, w2.tabF⟩
      · rw [upd_ne (ne_of_none ha h3)]
        exact w2.sub a u ha
      · obtain ⟨n1, vs, e3, r⟩ := w2.objs j a ds e1 e2
        exact ⟨n1, vs, by rw [upd_ne (fun z => h4 (by rw [← z]; exact List.mem_of_getElem? e1))]; exact e3, r⟩
  refine ⟨.ref b, h1, .inl ⟨rfl, fs.map V.ref, .inl (.inl h2)⟩, bs, M, F, w, fun H' gs t2 w2 ls => ?_⟩
  have k2 := key H' gs t2 w2 ls
  cases ls with
  | cons l1 lt =>
    cases lt
    rename_i f
    exact ⟨b, fs.map V.ref, .ref f, rfl, rfl, t2.keep _ _ h2 h4, by rw [List.length_map, h7.length, sizeLine_eq]; omega, q _ σ (k2 f rfl)⟩
end
end Z

/-! ZK6: calls with some of the keyword-only parameters -/
namespace L2
open PySem PySem.Spec PyProof.Rows
theorem FunD.kbinds0 {K : PySem.W.Frag} {x qual : Str} {params : Arguments} {body : List Stmt} {scope : Scope} {kws : List (Str × V)} {f : Addr} {fd : FuncData} {ps : List Str} (F : FunD K x qual params body scope [] kws f fd) (n : Nat) (ks : List Str) (ms : List (Str × V)) (g : {α : Type} → List α → List α → List α → List α) (hk : kws ≠ [])
    (hms : ∀ q ∈ ms, q ∈ kws) (hrel : ∀ {vs mz zs : List V} {us mv ws : List Value}, Vals vs us → Vals mz mv → Vals zs ws → Vals (g vs mz zs) (g us mv ws))
    (h : ∀ (D : Addr) (doc pm : Value) (an : Option Addr) (cdv ct : Value) (us mv ws : List Value), us.length = n → mv.length = ms.length → ws.length = ks.length →
      KwChain D ((ms.map (·.1)).zip mv) (bindArgs (PySem.W.fnOf x qual params body scope .none (.ref D) doc pm an cdv ct) ⟨us, ks.zip ws⟩) (ps.zip (g us mv ws))) :
    ∃ gg, KBn K fd ps n ks gg (fun vs zs => g vs (ms.map (·.2)) zs) := by
  obtain ⟨oc, od, dV, kV, doc, pm, an, cdv, ct, osl, rfl, lk, hcd, hD, hK⟩ := F.ex
  rcases hD with ⟨_, rfl⟩ | ⟨e, _⟩
  · rcases hK with e | ⟨D, rfl, hq⟩
    · exact absurd e hk
    · obtain ⟨mv, hl, rk, hks⟩ := kwd_vals (ms := ms) fun q hm => hq q (hms q hm)
      exact ⟨fun us ws => g us mv ws, fun s us ws X l1 l2 => BindsTo.of_looks fun M => KwChain.looks X hks (h D doc pm an cdv ct us mv ws l1 hl l2), fun r1 r2 => hrel r1 rk r2⟩
  · exact absurd rfl e
end L2
namespace Z
open PySem PySem.Spec PyProof.Rows L2
variable [Tbs]
/-- f(e, .., k = v), some keywords lack -/
def dCallG (df : DF) (gD : List D → List D → List D) (g gk : DA) : DE := fun e => bnd (g e) fun xs => bnd (gk e) fun zs => df (gD xs zs)
theorem ze_callG {X : Cx} {W : Wi} {k n m mk : Nat} {f : Addr} {fd : FuncData} {ps ks : List Str} {df : DF} {x : Str} {p pos : Pos} {e : Expr} {es : List Expr} {kws : List Keyword} {g gk : DA} {gV : List V → List V → List V} (gD : List D → List D → List D) (wh : Wh X W) (G : FnOk X.prog X.w X.K X.mg X.base (L2N.CX X.prog X.w) k f fd ps (spZ X.K (wfX X.mg) n df)) (hr : Room k X.A) (hg : Gl X x) (hm : X.mg x = some (.ref f)) (hk : PySem.W.keepIn X.K (.ref f) = true)
    (hb : ∃ gg, KBn X.K fd ps m ks gg gV) (hgD : ∀ bs F vs xs zs ys, Reps X.K bs F vs xs → Reps X.K bs F zs ys → Reps X.K bs F (gV vs zs) (gD xs ys)) (hlen : ∀ xs ys, xs.length = m → ys.length = mk → (gD xs ys).length = n)
    (ha : ZA X W (e :: es) g) (hn : LenA g m) (hkw : PK X kws (liftA X.K W gk)) (hnk : LenA gk mk) (hl : ks.length = mk) (hall : (backToKw pos (keywordEach kws X.env)).all (·.1.isSome) = true := by rfl) (hks : (backToKw pos (keywordEach kws X.env)).filterMap (·.1) = ks := by rfl)
    (hdb : (x == ("__debug__" : Str)) = false := by decide) (he : starEach (e :: es) X.env = (false, eval e X.env) :: starEach es X.env := by rfl)
    (hpl : ((backTo pos (starEach (e :: es) X.env)).any (·.1) || (backToKw pos (keywordEach kws X.env)).any (·.1.isNone)) = false := by rfl) :
    ZE X W (.Call (.Name x p) (e :: es) kws pos) (dCallG df gD g gk) := by
  obtain ⟨gg, hb⟩ := hb
  refine ⟨fun pins s σ H Q I h => ?_⟩
  obtain ⟨E, hx, hW⟩ := wh.ex
  refine (pe_callN (E := E) G hr hg hm hk hb hx ha hkw hall hks hdb he hpl).run pins s σ H Q I ?_
  obtain ⟨bs, M, F, ev, at0, run⟩ := h
  have rb := run.bind
  refine ⟨bs, M, F, ev, at0, ?_⟩
  match e1 : g ev M, rb with
  | some (.err c, M1), rb => exact rb
  | some (.ok ds, M1), rb =>
    intro bs1 F1 H1 t1 w1 vs r1
    have rb2 := (rb bs1 F1 H1 t1 w1).bind
    refine ⟨bs1, M1, F1, ev, at0.tr t1 w1, ?_⟩
    match e2 : gk ev M1, rb2 with
    | some (.err c, M2), rb2 => exact rb2
    | some (.ok zs, M2), rb2 =>
      intro bs2 F2 H2 t2 w2 us r2
      exact ⟨by rw [r1.length]; exact hn _ _ _ _ e1, by rw [r2.length, hl]; exact hnk _ _ _ _ e2, bs2, M2, F2, gD ds zs, w2, hgD _ _ _ _ _ _ (r1.tr t2) r2, hlen _ _ (hn _ _ _ _ e1) (hnk _ _ _ _ e2), (rb2 bs2 F2 H2 t2 w2).wish fun c H' z => hW c σ H' z⟩
end Z

/-! the text: made by zgen.py from the linked law claimshares_k02_other_arguments -/
namespace W
open PySem PySem.Spec PyProof.Rows L2 Z
def topS (i : Nat) : Stmt := PySem.Challenge.pw_claimshares_k02_other_arguments.main.body.getD i (.Pass ⟨0, 0, 0, 0⟩)
def clsS (i j : Nat) : Stmt := match topS i with
  | .ClassDef _ _ _ body _ _ _ _ _ _ _ => body.getD j (.Pass ⟨0, 0, 0, 0⟩)
  | _ => .Pass ⟨0, 0, 0, 0⟩
abbrev s__law_well : Stmt := topS 62
abbrev N__law_well : List PySem.Str := ["cell", "turn"]
theorem sc__law_well : FnScope N__law_well ["cell", "turn"] (defScope s__law_well) := ⟨rfl, rfl, rfl, by decide +kernel, rfl, by decide +kernel, by decide +kernel⟩
def body__law_well : DS := (dSeq (dIfS (dTest (dOp geD (dVar 0) (dOp powD (dC (.int 10)) (dC (.int 18))))) (dRet (dObj (dCons (dOp subD (dVar 0) (dOp powD (dC (.int 10)) (dC (.int 18)))) (dCons (dOp modD (dVar 0) (dC (.int 2305843009213693951))) (dCons (dVar 1) dNil))))) dNil') (dRet (dObj (dCons (dC (.int 0)) (dCons (dOp modD (dVar 0) (dC (.int 2305843009213693951))) (dCons (dVar 1) dNil))))))
def df__law_well : DF := mkDF 2 body__law_well
abbrev s__law_bags : Stmt := topS 64
abbrev N__law_bags : List PySem.Str := ["script", "most", "k", "cell"]
theorem sc__law_bags : FnScope N__law_bags ["script", "most"] (defScope s__law_bags) := ⟨rfl, rfl, rfl, by decide +kernel, rfl, by decide +kernel, by decide +kernel⟩
def body__law_bags : DS := (dRet (dLc (dEnm (dCons (dOp addD (dSl slD (dVar 0) dNoPart (dPart (dVar 1))) (dLst (dCons (dC (.int 0)) dNil))) dNil)) (.tp [2, 3]) dYes (dCall df__law_well (dCons (dVar 3) (dCons (dOp mulD (dC (.int 977)) (dVar 2)) dNil))) [2, 3]))
def df__law_bags : DF := mkDF 4 body__law_bags
abbrev s__law_take : Stmt := topS 63
abbrev N__law_take : List PySem.Str := ["bag", "many", "found", "p", "n"]
theorem sc__law_take : FnScope N__law_take ["bag", "many"] (defScope s__law_take) := ⟨rfl, rfl, rfl, by decide +kernel, rfl, by decide +kernel, by decide +kernel⟩
def body__law_take : DS := (dSeq (dIfS (dTest (dOp gtD (dOp ixD (dVar 0) (dC (.int 0))) (dC (.int 0)))) (dSeq (dSet 2 (dOp modD (dOp ixD (dVar 0) (dC (.int 0))) (dVar 1))) (dSeq (dPut (dVar 0) (dC (.int 0)) (dOp divD (dOp ixD (dVar 0) (dC (.int 0))) (dVar 1))) (dRet (dVar 2)))) dNil') (dSeq (dPut (dVar 0) (dC (.int 2)) (dOp addD (dOp ixD (dVar 0) (dC (.int 2))) (dC (.int 1)))) (dSeq (dSet 3 (dC (.int 2305843009213693951))) (dSeq (dSet 4 (dOp modD (dOp addD (dOp ixD (dVar 0) (dC (.int 1))) (dOp mulD (dC (.int 1000003)) (dOp ixD (dVar 0) (dC (.int 2))))) (dVar 3))) (dSeq (dSet 4 (dOp modD (dOp addD (dOp addD (dOp mulD (dVar 4) (dVar 4)) (dOp mulD (dC (.int 7919)) (dOp powD (dOp ixD (dVar 0) (dC (.int 2))) (dC (.int 2))))) (dC (.int 5))) (dVar 3))) (dRet (dOp modD (dOp divD (dOp modD (dOp powD (dVar 4) (dC (.int 3))) (dVar 3)) (dC (.int 13))) (dVar 1))))))))
def df__law_take : DF := mkDF 5 body__law_take
abbrev s__law_policy : Stmt := topS 68
abbrev N__law_policy : List PySem.Str := ["bag", "way", "premium", "excess1", "cap1"]
theorem sc__law_policy : FnScope N__law_policy ["bag"] (defScope s__law_policy) := ⟨rfl, rfl, rfl, by decide +kernel, rfl, by decide +kernel, by decide +kernel⟩
def body__law_policy : DS := (dSeq (dSet 1 (dCall df__law_take (dCons (dVar 0) (dCons (dC (.int 4)) dNil)))) (dSeq (dPar 2 3 (dCons (dCall df__law_take (dCons (dVar 0) (dCons (dOp ixD (dLst (dCons (dC (.int 12)) (dCons (dC (.int 10001)) dNil))) (dOp divD (dVar 1) (dC (.int 3)))) dNil))) (dCons (dCall df__law_take (dCons (dVar 0) (dCons (dOp ixD (dLst (dCons (dC (.int 5)) (dCons (dC (.int 12)) (dCons (dC (.int 60)) (dCons (dC (.int 1001)) dNil))))) (dVar 1)) dNil))) dNil))) (dSeq (dSet 4 (dLst (dCons (dC .non) (dCons (dOp addD (dOp mulD (dVar 3) (dCall df__law_take (dCons (dVar 0) (dCons (dC (.int 6)) dNil)))) (dCall df__law_take (dCons (dVar 0) (dCons (dC (.int 4)) dNil)))) (dCons (dCall df__law_take (dCons (dVar 0) (dCons (dC (.int 40)) dNil))) (dCons (dCall df__law_take (dCons (dVar 0) (dCons (dC (.int 10001)) dNil))) dNil)))))) (dRet (dTup (dCons (dVar 2) (dCons (dVar 3) (dCons (dOp ixD (dVar 4) (dCall df__law_take (dCons (dVar 0) (dCons (dC (.int 4)) dNil)))) dNil))))))))
def df__law_policy : DF := mkDF 5 body__law_policy
abbrev s__law_year : Stmt := topS 69
abbrev N__law_year : List PySem.Str := ["bag", "most", "policy1", "found", "turn", "near", "some"]
theorem sc__law_year : FnScope N__law_year ["bag", "most", "policy1"] (defScope s__law_year) := ⟨rfl, rfl, rfl, by decide +kernel, rfl, by decide +kernel, by decide +kernel⟩
def lb__law_year_1 : DS := (dSeq (dSet 5 (dB max2 (dCons (dC (.int 1)) (dCons (dOp subD (dOp addD (dOp ixD (dVar 2) (dC (.int 1))) (dCall df__law_take (dCons (dVar 0) (dCons (dC (.int 3)) dNil)))) (dC (.int 1))) dNil)))) (dSeq (dSet 6 (dLst (dCons (dOp addD (dC (.int 1)) (dCall df__law_take (dCons (dVar 0) (dCons (dC (.int 5)) dNil)))) (dCons (dVar 5) (dCons (dOp addD (dC (.int 1)) (dCall df__law_take (dCons (dVar 0) (dCons (dOp addD (dOp mulD (dC (.int 2)) (dOp ixD (dVar 2) (dC (.int 1)))) (dC (.int 3))) dNil)))) (dCons (dOp addD (dC (.int 1)) (dCall df__law_take (dCons (dVar 0) (dCons (dOp powD (dC (.int 10)) (dC (.int 6))) dNil)))) dNil)))))) (dSet 3 (dOp addD (dVar 3) (dTup (dCons (dOp ixD (dVar 6) (dCall df__law_take (dCons (dVar 0) (dCons (dC (.int 4)) dNil)))) dNil))))))
def body__law_year : DS := (dSeq (dSet 3 (dTup dNil)) (dSeq (dFor (dRng1 (dCons (dCall df__law_take (dCons (dVar 0) (dCons (dOp addD (dVar 1) (dC (.int 1))) dNil))) dNil)) (.nm 4) lb__law_year_1) (dRet (dVar 3))))
def df__law_year : DF := mkDF 7 body__law_year
abbrev s__law_error : Stmt := topS 66
abbrev N__law_error : List PySem.Str := ["e", "some", "words", "word", "good"]
theorem sc__law_error : FnScope N__law_error ["e"] (defScope s__law_error) := ⟨rfl, rfl, rfl, by decide +kernel, rfl, by decide +kernel, by decide +kernel⟩
abbrev s__law_outcome : Stmt := topS 67
abbrev N__law_outcome : List PySem.Str := ["call", "found", "e"]
theorem sc__law_outcome : FnScope N__law_outcome ["call"] (defScope s__law_outcome) := ⟨rfl, rfl, rfl, by decide +kernel, rfl, by decide +kernel, by decide +kernel⟩
abbrev s_in_range : Stmt := topS 15
abbrev N_in_range : List PySem.Str := ["value", "low", "high"]
theorem sc_in_range : FnScope N_in_range ["value", "low", "high"] (defScope s_in_range) := ⟨rfl, rfl, rfl, by decide +kernel, rfl, by decide +kernel, by decide +kernel⟩
def body_in_range : DS := (dRet (dAnd (dIs .int (dVar 0)) (dAnd (dNot (dIs .bool (dVar 0))) (dChain leD leD (dVar 1) (dVar 0) (dVar 2)))))
def df_in_range : DF := mkDF 3 body_in_range
abbrev s_is_policy : Stmt := topS 16
abbrev N_is_policy : List PySem.Str := ["value"]
theorem sc_is_policy : FnScope N_is_policy ["value"] (defScope s_is_policy) := ⟨rfl, rfl, rfl, by decide +kernel, rfl, by decide +kernel, by decide +kernel⟩
def body_is_policy : DS := (dSeq (dIfS (dOrT (dNotT (dTest (dIs .tuple (dVar 0)))) (dTest (dOp neD (dB len1 (dCons (dVar 0) dNil)) (dC (.int 3))))) (dRet (dC (.bl false))) dNil') (dSeq (dIfS (dOrT (dNotT (dTest (dCall df_in_range (dCons (dOp ixD (dVar 0) (dC (.int 0))) (dCons (dC (.int 0)) (dCons (dC (.int 10000)) dNil)))))) (dNotT (dTest (dCall df_in_range (dCons (dOp ixD (dVar 0) (dC (.int 1))) (dCons (dC (.int 0)) (dCons (dC (.int 1000)) dNil))))))) (dRet (dC (.bl false))) dNil') (dRet (dOr (dOp isD (dOp ixD (dVar 0) (dC (.int 2))) (dC .non)) (dCall df_in_range (dCons (dOp ixD (dVar 0) (dC (.int 2))) (dCons (dC (.int 0)) (dCons (dC (.int 10000)) dNil))))))))
def df_is_policy : DF := mkDF 1 body_is_policy
abbrev s_check_policy : Stmt := topS 18
abbrev N_check_policy : List PySem.Str := ["value"]
theorem sc_check_policy : FnScope N_check_policy ["value"] (defScope s_check_policy) := ⟨rfl, rfl, rfl, by decide +kernel, rfl, by decide +kernel, by decide +kernel⟩
def body_check_policy : DS := (dIfS (dNotT (dTest (dCall df_is_policy (dCons (dVar 0) dNil)))) (dErr "InvalidPolicy") dNil')
def df_check_policy : DF := mkDF 1 body_check_policy
abbrev s_policy_of : Stmt := topS 22
abbrev N_policy_of : List PySem.Str := ["premium", "excess", "cap"]
theorem sc_policy_of : FnScope N_policy_of ["premium", "excess", "cap"] (defScope s_policy_of) := ⟨rfl, rfl, rfl, by decide +kernel, rfl, by decide +kernel, by decide +kernel⟩
def body_policy_of : DS := (dSeq (dDrop (dCall df_check_policy (dCons (dTup (dCons (dVar 0) (dCons (dVar 1) (dCons (dVar 2) dNil)))) dNil))) (dRet (dTup (dCons (dVar 0) (dCons (dVar 1) (dCons (dVar 2) dNil))))))
def df_policy_of : DF := mkDF 3 body_policy_of
abbrev s__law_all_raise : Stmt := topS 65
abbrev N__law_all_raise : List PySem.Str := ["calls", "word", "call"]
theorem sc__law_all_raise : FnScope N__law_all_raise ["calls", "word"] (defScope s__law_all_raise) := ⟨rfl, rfl, rfl, by decide +kernel, rfl, by decide +kernel, by decide +kernel⟩
abbrev s_is_scheme : Stmt := topS 31
abbrev N_is_scheme : List PySem.Str := ["value", "premiums", "premium"]
theorem sc_is_scheme : FnScope N_is_scheme ["value"] (defScope s_is_scheme) := ⟨rfl, rfl, rfl, by decide +kernel, rfl, by decide +kernel, by decide +kernel⟩
def body_is_scheme : DS := (dSeq (dIfS (dOrT (dNotT (dTest (dIs .tuple (dVar 0)))) (dOrT (dTest (dOp neD (dB len1 (dCons (dVar 0) dNil)) (dC (.int 2)))) (dNotT (dTest (dCall df_in_range (dCons (dOp ixD (dVar 0) (dC (.int 1))) (dCons (dC (.int 1)) (dCons (dC (.int 5)) dNil)))))))) (dRet (dC (.bl false))) dNil') (dSeq (dSet 1 (dOp ixD (dVar 0) (dC (.int 0)))) (dSeq (dIfS (dOrT (dNotT (dTest (dIs .tuple (dVar 1)))) (dNotT (dTest (dChain leD leD (dC (.int 1)) (dB len1 (dCons (dVar 1) dNil)) (dC (.int 12)))))) (dRet (dC (.bl false))) dNil') (dRet (dAnd (dB all1 (dCons (dLc (dItems (dVar 1)) (.nm 2) dYes (dCall df_in_range (dCons (dVar 2) (dCons (dC (.int 0)) (dCons (dC (.int 10000)) dNil)))) [2]) dNil)) (dOp eqD (dB list1 (dCons (dVar 1) dNil)) (dB sortedT1 (dCons (dVar 1) dNil))))))))
def df_is_scheme : DF := mkDF 3 body_is_scheme
abbrev s_check_scheme : Stmt := topS 32
abbrev N_check_scheme : List PySem.Str := ["value"]
theorem sc_check_scheme : FnScope N_check_scheme ["value"] (defScope s_check_scheme) := ⟨rfl, rfl, rfl, by decide +kernel, rfl, by decide +kernel, by decide +kernel⟩
def body_check_scheme : DS := (dIfS (dNotT (dTest (dCall df_is_scheme (dCons (dVar 0) dNil)))) (dErr "InvalidScheme") dNil')
def df_check_scheme : DF := mkDF 1 body_check_scheme
abbrev s_check_number : Stmt := topS 20
abbrev N_check_number : List PySem.Str := ["value", "low", "high"]
theorem sc_check_number : FnScope N_check_number ["value", "low", "high"] (defScope s_check_number) := ⟨rfl, rfl, rfl, by decide +kernel, rfl, by decide +kernel, by decide +kernel⟩
def body_check_number : DS := (dIfS (dNotT (dTest (dCall df_in_range (dCons (dVar 0) (dCons (dVar 1) (dCons (dVar 2) dNil)))))) (dErr "InvalidNumber") dNil')
def df_check_number : DF := mkDF 3 body_check_number
abbrev s_later : Stmt := topS 33
abbrev N_later : List PySem.Str := ["scheme", "level", "claims"]
theorem sc_later : FnScope N_later ["scheme", "level", "claims"] (defScope s_later) := ⟨rfl, rfl, rfl, by decide +kernel, rfl, by decide +kernel, by decide +kernel⟩
def body_later : DS := (dSeq (dIfS (dTest (dOp eqD (dVar 2) (dC (.int 0)))) (dRet (dB max2 (dCons (dC (.int 0)) (dCons (dOp subD (dVar 1) (dC (.int 1))) dNil)))) dNil') (dRet (dB min2 (dCons (dOp subD (dB len1 (dCons (dOp ixD (dVar 0) (dC (.int 0))) dNil)) (dC (.int 1))) (dCons (dOp addD (dVar 1) (dOp mulD (dVar 2) (dOp ixD (dVar 0) (dC (.int 1))))) dNil)))))
def df_later : DF := mkDF 3 body_later
abbrev s_class_after : Stmt := topS 34
abbrev N_class_after : List PySem.Str := ["scheme", "start", "claims", "number", "level"]
theorem sc_class_after : FnScope N_class_after ["scheme", "start", "claims"] (defScope s_class_after) := ⟨rfl, rfl, rfl, by decide +kernel, rfl, by decide +kernel, by decide +kernel⟩
def lb_class_after_1 : DS := (dDrop (dCall df_check_number (dCons (dVar 3) (dCons (dC (.int 0)) (dCons (dC (.int 1000)) dNil)))))
def lb_class_after_2 : DS := (dSet 4 (dCall df_later (dCons (dVar 0) (dCons (dVar 4) (dCons (dVar 3) dNil)))))
def body_class_after : DS := (dSeq (dDrop (dCall df_check_scheme (dCons (dVar 0) dNil))) (dSeq (dDrop (dCall df_check_number (dCons (dVar 1) (dCons (dC (.int 0)) (dCons (dOp subD (dB len1 (dCons (dOp ixD (dVar 0) (dC (.int 0))) dNil)) (dC (.int 1))) dNil))))) (dSeq (dFor (dItems (dVar 2)) (.nm 3) lb_class_after_1) (dSeq (dSet 4 (dVar 1)) (dSeq (dFor (dItems (dVar 2)) (.nm 3) lb_class_after_2) (dRet (dVar 4)))))))
def df_class_after : DF := mkDF 5 body_class_after
abbrev s_is_year : Stmt := topS 17
abbrev N_is_year : List PySem.Str := ["value", "damage"]
theorem sc_is_year : FnScope N_is_year ["value"] (defScope s_is_year) := ⟨rfl, rfl, rfl, by decide +kernel, rfl, by decide +kernel, by decide +kernel⟩
def body_is_year : DS := (dSeq (dIfS (dOrT (dNotT (dTest (dIs .tuple (dVar 0)))) (dTest (dOp gtD (dB len1 (dCons (dVar 0) dNil)) (dC (.int 40))))) (dRet (dC (.bl false))) dNil') (dRet (dB all1 (dCons (dLc (dItems (dVar 0)) (.nm 1) dYes (dCall df_in_range (dCons (dVar 1) (dCons (dC (.int 1)) (dCons (dC (.int 1000000)) dNil)))) [1]) dNil))))
def df_is_year : DF := mkDF 2 body_is_year
abbrev s_check_year : Stmt := topS 19
abbrev N_check_year : List PySem.Str := ["value"]
theorem sc_check_year : FnScope N_check_year ["value"] (defScope s_check_year) := ⟨rfl, rfl, rfl, by decide +kernel, rfl, by decide +kernel, by decide +kernel⟩
def body_check_year : DS := (dIfS (dNotT (dTest (dCall df_is_year (dCons (dVar 0) dNil)))) (dErr "InvalidYear") dNil')
def df_check_year : DF := mkDF 1 body_check_year
abbrev s_check_years : Stmt := topS 35
abbrev N_check_years : List PySem.Str := ["value", "year"]
theorem sc_check_years : FnScope N_check_years ["value"] (defScope s_check_years) := ⟨rfl, rfl, rfl, by decide +kernel, rfl, by decide +kernel, by decide +kernel⟩
def lb_check_years_1 : DS := (dDrop (dCall df_check_year (dCons (dVar 1) dNil)))
def body_check_years : DS := (dSeq (dIfS (dOrT (dNotT (dTest (dIs .tuple (dVar 0)))) (dTest (dOp gtD (dB len1 (dCons (dVar 0) dNil)) (dC (.int 12))))) (dErr "InvalidYear") dNil') (dFor (dItems (dVar 0)) (.nm 1) lb_check_years_1))
def df_check_years : DF := mkDF 2 body_check_years
abbrev s_claimed_cost : Stmt := topS 36
abbrev N_claimed_cost : List PySem.Str := ["excess", "year", "count", "rows", "damage"]
theorem sc_claimed_cost : FnScope N_claimed_cost ["excess", "year", "count"] (defScope s_claimed_cost) := ⟨rfl, rfl, rfl, by decide +kernel, rfl, by decide +kernel, by decide +kernel⟩
def body_claimed_cost : DS := (dSeq (dSet 3 (dRevL (dB sortedT1 (dCons (dVar 1) dNil)))) (dRet (dOp addD (dB sum1 (dCons (dLc (dItems (dSl slD (dVar 3) dNoPart (dPart (dVar 2)))) (.nm 4) dYes (dB min2 (dCons (dVar 4) (dCons (dVar 0) dNil))) [4]) dNil)) (dB sum1 (dCons (dSl slD (dVar 3) (dPart (dVar 2)) dNoPart) dNil)))))
def df_claimed_cost : DF := mkDF 5 body_claimed_cost
abbrev s_cost_with : Stmt := topS 40
abbrev N_cost_with : List PySem.Str := ["scheme", "excess", "start", "years", "counts", "year", "count", "level", "found"]
theorem sc_cost_with : FnScope N_cost_with ["scheme", "excess", "start", "years", "counts"] (defScope s_cost_with) := ⟨rfl, rfl, rfl, by decide +kernel, rfl, by decide +kernel, by decide +kernel⟩
def lb_cost_with_1 : DS := (dDrop (dCall df_check_number (dCons (dVar 6) (dCons (dC (.int 0)) (dCons (dB len1 (dCons (dVar 5) dNil)) dNil)))))
def lb_cost_with_2 : DS := (dSeq (dSet 8 (dOp addD (dOp addD (dVar 8) (dOp ixD (dOp ixD (dVar 0) (dC (.int 0))) (dVar 7))) (dCall df_claimed_cost (dCons (dVar 1) (dCons (dVar 5) (dCons (dVar 6) dNil)))))) (dSet 7 (dCall df_later (dCons (dVar 0) (dCons (dVar 7) (dCons (dVar 6) dNil))))))
def body_cost_with : DS := (dSeq (dDrop (dCall df_check_scheme (dCons (dVar 0) dNil))) (dSeq (dDrop (dCall df_check_number (dCons (dVar 1) (dCons (dC (.int 0)) (dCons (dC (.int 1000)) dNil))))) (dSeq (dDrop (dCall df_check_number (dCons (dVar 2) (dCons (dC (.int 0)) (dCons (dOp subD (dB len1 (dCons (dOp ixD (dVar 0) (dC (.int 0))) dNil)) (dC (.int 1))) dNil))))) (dSeq (dDrop (dCall df_check_years (dCons (dVar 3) dNil))) (dSeq (dIfS (dOrT (dNotT (dTest (dIs .tuple (dVar 4)))) (dTest (dOp neD (dB len1 (dCons (dVar 4) dNil)) (dB len1 (dCons (dVar 3) dNil))))) (dErr "InvalidYear") dNil') (dSeq (dFor (dZip (dCons (dVar 3) (dCons (dVar 4) dNil))) (.tp [5, 6]) lb_cost_with_1) (dSeq (dPar 7 8 (dCons (dVar 2) (dCons (dC (.int 0)) dNil))) (dSeq (dFor (dZip (dCons (dVar 3) (dCons (dVar 4) dNil))) (.tp [5, 6]) lb_cost_with_2) (dRet (dVar 8))))))))))
def df_cost_with : DF := mkDF 9 body_cost_with
abbrev s_best_from : Stmt := topS 37
abbrev N_best_from : List PySem.Str := ["scheme", "excess", "start", "years", "rest", "level", "year", "found", "some", "count", "cost", "counts"]
theorem sc_best_from : FnScope N_best_from ["scheme", "excess", "start", "years"] (defScope s_best_from) := ⟨rfl, rfl, rfl, by decide +kernel, rfl, by decide +kernel, by decide +kernel⟩
def lb_best_from_1 : DS := (dSeq (dUnp (.tp [10, 11]) (dDget (dVar 4) (dCall df_later (dCons (dVar 0) (dCons (dVar 5) (dCons (dVar 9) dNil)))))) (dApp 8 (dTup (dCons (dOp addD (dOp addD (dOp ixD (dOp ixD (dVar 0) (dC (.int 0))) (dVar 5)) (dCall df_claimed_cost (dCons (dVar 1) (dCons (dVar 6) (dCons (dVar 9) dNil))))) (dVar 10)) (dCons (dOp addD (dTup (dCons (dVar 9) dNil)) (dVar 11)) dNil)))))
def lb_best_from_2 : DS := (dSeq (dSetOwn 8 dNil) (dSeq (dFor (dRng1 (dCons (dOp addD (dB len1 (dCons (dVar 6) dNil)) (dC (.int 1))) dNil)) (.nm 9) lb_best_from_1) (dFrz 8 (dDput 7 (dVar 5) (dB minD1 (dCons (dVar 8) dNil))))))
def lb_best_from_3 : DS := (dSeq (dSetOwnD 7) (dSeq (dFor (dRng1 (dCons (dB len1 (dCons (dOp ixD (dVar 0) (dC (.int 0))) dNil)) dNil)) (.nm 5) lb_best_from_2) (dFrz 7 (dSet 4 (dVar 7)))))
def body_best_from : DS := (dSeq (dSet 4 (dDc (dRng1 (dCons (dB len1 (dCons (dOp ixD (dVar 0) (dC (.int 0))) dNil)) dNil)) (.nm 5) (dVar 5) (dTup (dCons (dC (.int 0)) (dCons (dTup dNil) dNil))) [5])) (dSeq (dFor (dItems (dRevT (dVar 3))) (.nm 6) lb_best_from_3) (dRet (dDget (dVar 4) (dVar 2)))))
def df_best_from : DF := mkDF 12 body_best_from
abbrev s_least_total : Stmt := topS 38
abbrev N_least_total : List PySem.Str := ["scheme", "excess", "start", "years"]
theorem sc_least_total : FnScope N_least_total ["scheme", "excess", "start", "years"] (defScope s_least_total) := ⟨rfl, rfl, rfl, by decide +kernel, rfl, by decide +kernel, by decide +kernel⟩
def body_least_total : DS := (dSeq (dDrop (dCall df_check_scheme (dCons (dVar 0) dNil))) (dSeq (dDrop (dCall df_check_number (dCons (dVar 1) (dCons (dC (.int 0)) (dCons (dC (.int 1000)) dNil))))) (dSeq (dDrop (dCall df_check_number (dCons (dVar 2) (dCons (dC (.int 0)) (dCons (dOp subD (dB len1 (dCons (dOp ixD (dVar 0) (dC (.int 0))) dNil)) (dC (.int 1))) dNil))))) (dSeq (dDrop (dCall df_check_years (dCons (dVar 3) dNil))) (dRet (dOp ixD (dCall df_best_from (dCons (dVar 0) (dCons (dVar 1) (dCons (dVar 2) (dCons (dVar 3) dNil))))) (dC (.int 0))))))))
def df_least_total : DF := mkDF 4 body_least_total
abbrev s_best_counts : Stmt := topS 39
abbrev N_best_counts : List PySem.Str := ["scheme", "excess", "start", "years"]
theorem sc_best_counts : FnScope N_best_counts ["scheme", "excess", "start", "years"] (defScope s_best_counts) := ⟨rfl, rfl, rfl, by decide +kernel, rfl, by decide +kernel, by decide +kernel⟩
def body_best_counts : DS := (dSeq (dDrop (dCall df_check_scheme (dCons (dVar 0) dNil))) (dSeq (dDrop (dCall df_check_number (dCons (dVar 1) (dCons (dC (.int 0)) (dCons (dC (.int 1000)) dNil))))) (dSeq (dDrop (dCall df_check_number (dCons (dVar 2) (dCons (dC (.int 0)) (dCons (dOp subD (dB len1 (dCons (dOp ixD (dVar 0) (dC (.int 0))) dNil)) (dC (.int 1))) dNil))))) (dSeq (dDrop (dCall df_check_years (dCons (dVar 3) dNil))) (dRet (dOp ixD (dCall df_best_from (dCons (dVar 0) (dCons (dVar 1) (dCons (dVar 2) (dCons (dVar 3) dNil))))) (dC (.int 1))))))))
def df_best_counts : DF := mkDF 4 body_best_counts
abbrev s_check_damage : Stmt := topS 21
abbrev N_check_damage : List PySem.Str := ["value"]
theorem sc_check_damage : FnScope N_check_damage ["value"] (defScope s_check_damage) := ⟨rfl, rfl, rfl, by decide +kernel, rfl, by decide +kernel, by decide +kernel⟩
def body_check_damage : DS := (dIfS (dNotT (dTest (dCall df_in_range (dCons (dVar 0) (dCons (dC (.int 1)) (dCons (dC (.int 1000000)) dNil)))))) (dErr "InvalidDamage") dNil')
def df_check_damage : DF := mkDF 1 body_check_damage
abbrev s_capped : Stmt := topS 23
abbrev N_capped : List PySem.Str := ["policy", "shares"]
theorem sc_capped : FnScope N_capped ["policy", "shares"] (defScope s_capped) := ⟨rfl, rfl, rfl, by decide +kernel, rfl, by decide +kernel, by decide +kernel⟩
def body_capped : DS := (dRet (dIf (dTest (dOp isD (dOp ixD (dVar 0) (dC (.int 2))) (dC .non))) (dVar 1) (dB min2 (dCons (dOp ixD (dVar 0) (dC (.int 2))) (dCons (dVar 1) dNil)))))
def df_capped : DF := mkDF 2 body_capped
abbrev s_far_cost : Stmt := topS 26
abbrev N_far_cost : List PySem.Str := ["policy", "rows", "good", "row", "damage", "number"]
theorem sc_far_cost : FnScope N_far_cost ["policy", "rows"] (defScope s_far_cost) := ⟨rfl, rfl, rfl, by decide +kernel, rfl, by decide +kernel, by decide +kernel⟩
def lb_far_cost_1 : DS := (dSeq (dDrop (dCall df_check_damage (dCons (dVar 4) dNil))) (dDrop (dCall df_check_number (dCons (dVar 5) (dCons (dC (.int 0)) (dCons (dOp powD (dC (.int 10)) (dC (.int 12))) dNil))))))
def body_far_cost : DS := (dSeq (dDrop (dCall df_check_policy (dCons (dVar 0) dNil))) (dSeq (dSet 2 (dAnd (dIs .tuple (dVar 1)) (dOp leD (dB len1 (dCons (dVar 1) dNil)) (dC (.int 40))))) (dSeq (dIfS (dOrT (dNotT (dTest (dVar 2))) (dNotT (dTest (dB all1 (dCons (dLc (dItems (dVar 1)) (.nm 3) dYes (dAnd (dIs .tuple (dVar 3)) (dOp eqD (dB len1 (dCons (dVar 3) dNil)) (dC (.int 2)))) [3]) dNil))))) (dErr "InvalidYear") dNil') (dSeq (dFor (dItems (dVar 1)) (.tp [4, 5]) lb_far_cost_1) (dRet (dOp addD (dOp ixD (dVar 0) (dC (.int 0))) (dCall df_capped (dCons (dVar 0) (dCons (dB sum1 (dCons (dLc (dItems (dVar 1)) (.tp [4, 5]) dYes (dOp mulD (dVar 5) (dB min2 (dCons (dVar 4) (dCons (dOp ixD (dVar 0) (dC (.int 1))) dNil)))) [4, 5]) dNil)) dNil)))))))))
def df_far_cost : DF := mkDF 6 body_far_cost
abbrev s__law_scheme_numbers_right : Stmt := topS 70
abbrev N__law_scheme_numbers_right : List PySem.Str := ["policy1", "scheme", "odd", "calls"]
theorem sc__law_scheme_numbers_right : FnScope N__law_scheme_numbers_right ["policy1"] (defScope s__law_scheme_numbers_right) := ⟨rfl, rfl, rfl, by decide +kernel, rfl, by decide +kernel, by decide +kernel⟩
def lb__law_scheme_numbers_right_1 : DS := (lBegin 3 [(dCallS 2 df_class_after (dCons (dVar 1) (dCons (dVar 2) dNil))), (dCallS 2 df_class_after (dCons (dVar 1) (dCons (dC (.int 0)) (dCons (dC (.int 1)) (dCons (dVar 2) dNil)))))] (lCat [(dCall df_least_total (dCons (dVar 1) (dCons (dVar 2) (dCons (dC .non) (dCons (dC .non) dNil))))), (dCall df_least_total (dCons (dVar 1) (dCons (dC (.int 0)) (dCons (dVar 2) (dCons (dC .non) dNil)))))] (lCat [(dCall df_best_counts (dCons (dVar 1) (dCons (dC (.int 0)) (dCons (dVar 2) (dCons (dC .non) dNil))))), (dCall df_cost_with (dCons (dVar 1) (dCons (dC (.int 0)) (dCons (dVar 2) (dCons (dC .non) (dCons (dC .non) dNil))))))] (lCat [(dCall df_cost_with (dCons (dVar 1) (dCons (dC (.int 0)) (dCons (dC (.int 0)) (dCons (dTup (dCons (dTup (dCons (dC (.int 5)) dNil)) dNil)) (dCons (dTup (dCons (dVar 2) dNil)) dNil))))))] (lAll (PySem.Str.ofString "InvalidNumber") [] dNil')))))
def body__law_scheme_numbers_right : DS := (dSeq (dSet 1 (dTup (dCons (dTup (dCons (dC (.int 1)) (dCons (dC (.int 2)) dNil))) (dCons (dC (.int 1)) dNil)))) (dSeq (dFor (dItems (dLst (dCons (dC .non) (dCons (dC (.bl true)) (dCons (dNeg (dC (.int 1))) (dCons (dC (.str (PySem.Str.ofString "3"))) (dCons (dOp addD (dOp powD (dC (.int 10)) (dC (.int 15))) (dC (.int 1))) dNil))))))) (.nm 2) lb__law_scheme_numbers_right_1) (lBegin 3 [(dCallS 2 df_class_after (dCons (dVar 1) (dCons (dC (.int 2)) dNil))), (dCall df_cost_with (dCons (dVar 1) (dCons (dC (.int 0)) (dCons (dC (.int 0)) (dCons (dTup (dCons (dTup (dCons (dC (.int 5)) dNil)) dNil)) (dCons (dTup (dCons (dC (.int 2)) dNil)) dNil))))))] (lAll (PySem.Str.ofString "InvalidNumber") [(dCall df_far_cost (dCons (dVar 0) (dCons (dTup (dCons (dTup (dCons (dC (.int 1)) (dCons (dOp addD (dOp powD (dC (.int 10)) (dC (.int 12))) (dC (.int 1))) dNil))) dNil)) dNil)))] fun _ => ret (.rt (.bl true))))))
def df__law_scheme_numbers_right : DF := mkDF 4 body__law_scheme_numbers_right
abbrev s_check_shares : Stmt := topS 50
abbrev N_check_shares : List PySem.Str := ["excess", "other", "shares", "most"]
theorem sc_check_shares : FnScope N_check_shares ["excess", "other", "shares", "most"] (defScope s_check_shares) := ⟨rfl, rfl, rfl, by decide +kernel, rfl, by decide +kernel, by decide +kernel⟩
def body_check_shares : DS := (dSeq (dDrop (dCall df_check_number (dCons (dVar 0) (dCons (dC (.int 1)) (dCons (dC (.int 1000)) dNil))))) (dSeq (dDrop (dCall df_check_number (dCons (dVar 1) (dCons (dC (.int 0)) (dCons (dC (.int 1000)) dNil))))) (dDrop (dCall df_check_number (dCons (dVar 2) (dCons (dC (.int 0)) (dCons (dVar 3) dNil)))))))
def df_check_shares : DF := mkDF 4 body_check_shares
abbrev s_least : Stmt := topS 51
abbrev N_least : List PySem.Str := ["excess", "other", "shares"]
theorem sc_least : FnScope N_least ["excess", "other", "shares"] (defScope s_least) := ⟨rfl, rfl, rfl, by decide +kernel, rfl, by decide +kernel, by decide +kernel⟩
def body_least : DS := (dSeq (dIfS (dTest (dOp leD (dVar 0) (dVar 1))) (dRet (dVar 2)) dNil') (dRet (dOp addD (dOp mulD (dOp divD (dVar 2) (dVar 0)) (dVar 1)) (dB min2 (dCons (dOp modD (dVar 2) (dVar 0)) (dCons (dVar 1) dNil))))))
def df_least : DF := mkDF 3 body_least
abbrev s_least_shares : Stmt := topS 52
abbrev N_least_shares : List PySem.Str := ["excess", "other", "shares"]
theorem sc_least_shares : FnScope N_least_shares ["excess", "other", "shares"] (defScope s_least_shares) := ⟨rfl, rfl, rfl, by decide +kernel, rfl, by decide +kernel, by decide +kernel⟩
def body_least_shares : DS := (dSeq (dDrop (dCall df_check_shares (dCons (dVar 0) (dCons (dVar 1) (dCons (dVar 2) (dCons (dC (.int 1000000000000000)) dNil)))))) (dRet (dCall df_least (dCons (dVar 0) (dCons (dVar 1) (dCons (dVar 2) dNil))))))
def df_least_shares : DF := mkDF 3 body_least_shares
abbrev s_year_with : Stmt := topS 54
abbrev N_year_with : List PySem.Str := ["excess", "other", "shares", "rest"]
theorem sc_year_with : FnScope N_year_with ["excess", "other", "shares"] (defScope s_year_with) := ⟨rfl, rfl, rfl, by decide +kernel, rfl, by decide +kernel, by decide +kernel⟩
def body_year_with : DS := (dSeq (dDrop (dCall df_check_number (dCons (dVar 0) (dCons (dC (.int 1)) (dCons (dC (.int 1000)) dNil))))) (dSeq (dDrop (dCall df_check_shares (dCons (dVar 0) (dCons (dVar 1) (dCons (dVar 2) (dCons (dOp mulD (dC (.int 40)) (dVar 0)) dNil)))))) (dSeq (dSet 3 (dOp modD (dVar 2) (dVar 0))) (dRet (dOp addD (dOp mulTD (dTup (dCons (dVar 0) dNil)) (dOp divD (dVar 2) (dVar 0))) (dIf (dTest (dOp gtD (dVar 3) (dC (.int 0)))) (dTup (dCons (dVar 3) dNil)) (dTup dNil)))))))
def df_year_with : DF := mkDF 4 body_year_with
abbrev s_shares_of : Stmt := topS 24
abbrev N_shares_of : List PySem.Str := ["excess", "year", "damage"]
theorem sc_shares_of : FnScope N_shares_of ["excess", "year"] (defScope s_shares_of) := ⟨rfl, rfl, rfl, by decide +kernel, rfl, by decide +kernel, by decide +kernel⟩
def body_shares_of : DS := (dRet (dB sum1 (dCons (dLc (dItems (dVar 1)) (.nm 2) dYes (dB min2 (dCons (dVar 2) (dCons (dVar 0) dNil))) [2]) dNil)))
def df_shares_of : DF := mkDF 3 body_shares_of
abbrev s_cost_of : Stmt := topS 25
abbrev N_cost_of : List PySem.Str := ["policy", "year"]
theorem sc_cost_of : FnScope N_cost_of ["policy", "year"] (defScope s_cost_of) := ⟨rfl, rfl, rfl, by decide +kernel, rfl, by decide +kernel, by decide +kernel⟩
def body_cost_of : DS := (dRet (dOp addD (dOp ixD (dVar 0) (dC (.int 0))) (dCall df_capped (dCons (dVar 0) (dCons (dCall df_shares_of (dCons (dOp ixD (dVar 0) (dC (.int 1))) (dCons (dVar 1) dNil))) dNil)))))
def df_cost_of : DF := mkDF 2 body_cost_of
abbrev s_excesses_for : Stmt := topS 60
abbrev N_excesses_for : List PySem.Str := ["premium", "cap", "year", "paid", "good", "excess"]
theorem sc_excesses_for : FnScope N_excesses_for ["premium", "cap", "year", "paid"] (defScope s_excesses_for) := ⟨rfl, rfl, rfl, by decide +kernel, rfl, by decide +kernel, by decide +kernel⟩
def body_excesses_for : DS := (dSeq (dIfS (dNotT (dTest (dCall df_is_policy (dCons (dTup (dCons (dVar 0) (dCons (dC (.int 0)) (dCons (dVar 1) dNil)))) dNil)))) (dErr "InvalidPolicy") dNil') (dSeq (dDrop (dCall df_check_year (dCons (dVar 2) dNil))) (dSeq (dDrop (dCall df_check_number (dCons (dVar 3) (dCons (dC (.int 0)) (dCons (dC (.int 1000000000)) dNil))))) (dSeq (dSet 4 (dLc (dRng1 (dCons (dOp addD (dC (.int 1000)) (dC (.int 1))) dNil)) (.nm 5) (dTest (dOp eqD (dCall df_cost_of (dCons (dTup (dCons (dVar 0) (dCons (dVar 5) (dCons (dVar 1) dNil)))) (dCons (dVar 2) dNil))) (dVar 3))) (dVar 5) [5])) (dRet (dIf (dTest (dOp neD (dVar 4) (dLst dNil))) (dTup (dCons (dOp ixD (dVar 4) (dC (.int 0))) (dCons (dOp ixD (dVar 4) (dNeg (dC (.int 1)))) dNil))) (dC .non)))))))
def df_excesses_for : DF := mkDF 6 body_excesses_for
abbrev s_rows_of : Stmt := topS 43
abbrev N_rows_of : List PySem.Str := ["policy", "count", "most", "paid", "found", "turn", "longer", "row", "damage"]
theorem sc_rows_of : FnScope N_rows_of ["policy", "count", "most", "paid"] (defScope s_rows_of) := ⟨rfl, rfl, rfl, by decide +kernel, rfl, by decide +kernel, by decide +kernel⟩
def lb_rows_of_1 : DS := (dSet 6 (dOp addD (dVar 6) (dLc (dRng2 (dCons (dC (.int 1)) (dCons (dOp addD (dVar 2) (dC (.int 1))) dNil))) (.nm 8) dYes (dOp addD (dVar 7) (dTup (dCons (dVar 8) dNil))) [8])))
def lb_rows_of_2 : DS := (dSeq (dSet 6 (dLst dNil)) (dSeq (dFor (dItems (dVar 4)) (.nm 7) lb_rows_of_1) (dSet 4 (dVar 6))))
def body_rows_of : DS := (dSeq (dDrop (dCall df_check_policy (dCons (dVar 0) dNil))) (dSeq (dDrop (dCall df_check_number (dCons (dVar 1) (dCons (dC (.int 0)) (dCons (dC (.int 5)) dNil))))) (dSeq (dDrop (dCall df_check_number (dCons (dVar 2) (dCons (dC (.int 1)) (dCons (dC (.int 5)) dNil))))) (dSeq (dIfS (dTest (dOp isnD (dVar 3) (dC .non))) (dDrop (dCall df_check_number (dCons (dVar 3) (dCons (dC (.int 0)) (dCons (dOp powD (dC (.int 10)) (dC (.int 9))) dNil))))) dNil') (dSeq (dSet 4 (dLst (dCons (dTup dNil) dNil))) (dSeq (dFor (dRng1 (dCons (dVar 1) dNil)) (.nm 5) lb_rows_of_2) (dRet (dLc (dItems (dVar 4)) (.nm 7) (dOrT (dTest (dOp isD (dVar 3) (dC .non))) (dTest (dOp eqD (dCall df_cost_of (dCons (dVar 0) (dCons (dVar 7) dNil))) (dVar 3)))) (dVar 7) [7]))))))))
def df_rows_of : DF := mkDF 9 body_rows_of
abbrev s_count_years : Stmt := topS 44
abbrev N_count_years : List PySem.Str := ["policy", "count", "most", "paid"]
theorem sc_count_years : FnScope N_count_years ["policy", "count", "most", "paid"] (defScope s_count_years) := ⟨rfl, rfl, rfl, by decide +kernel, rfl, by decide +kernel, by decide +kernel⟩
def body_count_years : DS := (dRet (dB len1 (dCons (dCall df_rows_of (dCons (dVar 0) (dCons (dVar 1) (dCons (dVar 2) (dCons (dVar 3) dNil))))) dNil)))
def df_count_years : DF := mkDF 4 body_count_years
abbrev s_most_shares : Stmt := topS 53
abbrev N_most_shares : List PySem.Str := ["excess", "other", "shares"]
theorem sc_most_shares : FnScope N_most_shares ["excess", "other", "shares"] (defScope s_most_shares) := ⟨rfl, rfl, rfl, by decide +kernel, rfl, by decide +kernel, by decide +kernel⟩
def body_most_shares : DS := (dSeq (dDrop (dCall df_check_shares (dCons (dVar 0) (dCons (dVar 1) (dCons (dVar 2) (dCons (dC (.int 1000000000000000)) dNil)))))) (dSeq (dIfS (dTest (dOp leD (dVar 1) (dVar 0))) (dRet (dIf (dTest (dOp gtD (dVar 1) (dC (.int 0)))) (dVar 2) (dC (.int 0)))) dNil') (dRet (dOp addD (dOp mulD (dOp divD (dVar 2) (dVar 0)) (dVar 1)) (dOp modD (dVar 2) (dVar 0))))))
def df_most_shares : DF := mkDF 3 body_most_shares
abbrev s_shares_for : Stmt := topS 57
abbrev N_shares_for : List PySem.Str := ["policy", "paid", "rest", "excess", "cap"]
theorem sc_shares_for : FnScope N_shares_for ["policy", "paid"] (defScope s_shares_for) := ⟨rfl, rfl, rfl, by decide +kernel, rfl, by decide +kernel, by decide +kernel⟩
def body_shares_for : DS := (dSeq (dDrop (dCall df_check_policy (dCons (dVar 0) dNil))) (dSeq (dDrop (dCall df_check_number (dCons (dVar 1) (dCons (dC (.int 0)) (dCons (dC (.int 1000000000)) dNil))))) (dSeq (dPar3 2 3 4 (dCons (dOp subD (dVar 1) (dOp ixD (dVar 0) (dC (.int 0)))) (dCons (dOp ixD (dVar 0) (dC (.int 1))) (dCons (dOp ixD (dVar 0) (dC (.int 2))) dNil)))) (dSeq (dIfS (dOrT (dTest (dOp ltD (dVar 2) (dC (.int 0)))) (dOrT (dAndT (dTest (dOp eqD (dVar 3) (dC (.int 0)))) (dTest (dOp gtD (dVar 2) (dC (.int 0))))) (dAndT (dTest (dOp isnD (dVar 4) (dC .non))) (dTest (dOp gtD (dVar 2) (dVar 4)))))) (dRet (dC .non)) dNil') (dRet (dIf (dAndT (dTest (dOp gtD (dVar 3) (dC (.int 0)))) (dTest (dOp eqD (dVar 2) (dVar 4)))) (dTup (dCons (dVar 2) (dCons (dC .non) dNil))) (dTup (dCons (dVar 2) (dCons (dVar 2) dNil)))))))))
def df_shares_for : DF := mkDF 5 body_shares_for
abbrev s_first_with : Stmt := topS 59
abbrev N_first_with : List PySem.Str := ["policy", "before", "paid", "need", "whole"]
theorem sc_first_with : FnScope N_first_with ["policy", "before", "paid"] (defScope s_first_with) := ⟨rfl, rfl, rfl, by decide +kernel, rfl, by decide +kernel, by decide +kernel⟩
def body_first_with : DS := (dSeq (dSet 3 (dOp subD (dOp subD (dVar 2) (dOp ixD (dVar 0) (dC (.int 0)))) (dVar 1))) (dSeq (dSet 4 (dIf (dTest (dOp isD (dOp ixD (dVar 0) (dC (.int 2))) (dC .non))) (dOp addD (dVar 1) (dOp ixD (dVar 0) (dC (.int 1)))) (dB min2 (dCons (dOp ixD (dVar 0) (dC (.int 2))) (dCons (dOp addD (dVar 1) (dOp ixD (dVar 0) (dC (.int 1)))) dNil))))) (dSeq (dIfS (dTest (dOp ltD (dOp addD (dOp ixD (dVar 0) (dC (.int 0))) (dVar 4)) (dVar 2))) (dRet (dC .non)) dNil') (dRet (dB max2 (dCons (dC (.int 1)) (dCons (dVar 3) dNil)))))))
def df_first_with : DF := mkDF 5 body_first_with
abbrev s_hidden_damages : Stmt := topS 58
abbrev N_hidden_damages : List PySem.Str := ["policy", "year", "paid", "before", "excess", "cap", "low", "high"]
theorem sc_hidden_damages : FnScope N_hidden_damages ["policy", "year", "paid"] (defScope s_hidden_damages) := ⟨rfl, rfl, rfl, by decide +kernel, rfl, by decide +kernel, by decide +kernel⟩
def body_hidden_damages : DS := (dSeq (dDrop (dCall df_check_policy (dCons (dVar 0) dNil))) (dSeq (dDrop (dCall df_check_year (dCons (dVar 1) dNil))) (dSeq (dDrop (dCall df_check_number (dCons (dVar 2) (dCons (dC (.int 0)) (dCons (dC (.int 1000000000)) dNil))))) (dSeq (dPar3 3 4 5 (dCons (dCall df_shares_of (dCons (dOp ixD (dVar 0) (dC (.int 1))) (dCons (dVar 1) dNil))) (dCons (dOp ixD (dVar 0) (dC (.int 1))) (dCons (dOp ixD (dVar 0) (dC (.int 2))) dNil)))) (dSeq (dPar 6 7 (dCons (dCall df_first_with (dCons (dVar 0) (dCons (dVar 3) (dCons (dVar 2) dNil)))) (dCons (dCall df_first_with (dCons (dVar 0) (dCons (dVar 3) (dCons (dOp addD (dVar 2) (dC (.int 1))) dNil)))) dNil))) (dSeq (dIfS (dOrT (dTest (dOp isD (dVar 6) (dC .non))) (dTest (dOp eqD (dVar 6) (dVar 7)))) (dRet (dC .non)) dNil') (dRet (dTup (dCons (dVar 6) (dCons (dIf (dTest (dOp isD (dVar 7) (dC .non))) (dC (.int 1000000)) (dOp subD (dVar 7) (dC (.int 1)))) dNil))))))))))
def df_hidden_damages : DF := mkDF 8 body_hidden_damages
abbrev s_year_at : Stmt := topS 45
abbrev N_year_at : List PySem.Str := ["policy", "count", "most", "number", "paid", "rows"]
theorem sc_year_at : FnScope N_year_at ["policy", "count", "most", "number", "paid"] (defScope s_year_at) := ⟨rfl, rfl, rfl, by decide +kernel, rfl, by decide +kernel, by decide +kernel⟩
def body_year_at : DS := (dSeq (dSet 5 (dCall df_rows_of (dCons (dVar 0) (dCons (dVar 1) (dCons (dVar 2) (dCons (dVar 4) dNil)))))) (dSeq (dIfS (dNotT (dTest (dCall df_in_range (dCons (dVar 3) (dCons (dC (.int 0)) (dCons (dOp subD (dB len1 (dCons (dVar 5) dNil)) (dC (.int 1))) dNil)))))) (dErr "InvalidNumber") dNil') (dRet (dOp ixD (dVar 5) (dVar 3)))))
def df_year_at : DF := mkDF 6 body_year_at
abbrev s__law_numbers_right : Stmt := topS 71
abbrev N__law_numbers_right : List PySem.Str := ["policy1", "year", "odd", "calls"]
theorem sc__law_numbers_right : FnScope N__law_numbers_right ["policy1", "year"] (defScope s__law_numbers_right) := ⟨rfl, rfl, rfl, by decide +kernel, rfl, by decide +kernel, by decide +kernel⟩
def lb__law_numbers_right_1 : DS := (lBegin 3 [(dCall df_least_shares (dCons (dVar 2) (dCons (dC (.int 0)) (dCons (dC (.int 0)) dNil)))), (dCall df_least_shares (dCons (dC (.int 1)) (dCons (dVar 2) (dCons (dC (.int 0)) dNil)))), (dCall df_least_shares (dCons (dC (.int 1)) (dCons (dC (.int 0)) (dCons (dVar 2) dNil))))] (lCat [(dCall df_most_shares (dCons (dVar 2) (dCons (dC (.int 0)) (dCons (dC (.int 0)) dNil)))), (dCall df_most_shares (dCons (dC (.int 1)) (dCons (dVar 2) (dCons (dC (.int 0)) dNil)))), (dCall df_most_shares (dCons (dC (.int 1)) (dCons (dC (.int 0)) (dCons (dVar 2) dNil))))] (lCat [(dCall df_year_with (dCons (dVar 2) (dCons (dC (.int 0)) (dCons (dC (.int 0)) dNil)))), (dCall df_year_with (dCons (dC (.int 1)) (dCons (dVar 2) (dCons (dC (.int 0)) dNil)))), (dCall df_year_with (dCons (dC (.int 1)) (dCons (dC (.int 0)) (dCons (dVar 2) dNil))))] (lCat [(dCall df_shares_for (dCons (dVar 0) (dCons (dVar 2) dNil))), (dCall df_hidden_damages (dCons (dVar 0) (dCons (dVar 1) (dCons (dVar 2) dNil))))] (lCat [(dCall df_excesses_for (dCons (dC (.int 1)) (dCons (dC .non) (dCons (dVar 1) (dCons (dVar 2) dNil)))))] (lCat [(dCallD df_count_years [.non] (dCons (dVar 0) (dCons (dVar 2) (dCons (dC (.int 1)) dNil)))), (dCallD df_count_years [.non] (dCons (dVar 0) (dCons (dC (.int 1)) (dCons (dVar 2) dNil))))] (lCat [(dCallD df_year_at [.non] (dCons (dVar 0) (dCons (dVar 2) (dCons (dC (.int 1)) (dCons (dC (.int 0)) dNil))))), (dCallD df_year_at [.non] (dCons (dVar 0) (dCons (dC (.int 1)) (dCons (dVar 2) (dCons (dC (.int 0)) dNil)))))] (lCat [(dCallD df_year_at [.non] (dCons (dVar 0) (dCons (dC (.int 1)) (dCons (dC (.int 1)) (dCons (dVar 2) dNil))))), (dCall df_far_cost (dCons (dVar 0) (dCons (dTup (dCons (dTup (dCons (dC (.int 1)) (dCons (dVar 2) dNil))) dNil)) dNil)))] (lIf (dTest (dOp isnD (dVar 2) (dC .non))) ([(dCallK df_count_years (dCons (dVar 0) (dCons (dC (.int 1)) (dCons (dC (.int 1)) dNil))) (dCons (dVar 2) dNil))] ++ []) (lAll (PySem.Str.ofString "InvalidNumber") [] dNil'))))))))))
def body__law_numbers_right : DS := (dSeq (dFor (dItems (dLst (dCons (dC .non) (dCons (dC (.bl true)) (dCons (dNeg (dC (.int 1))) (dCons (dC (.str (PySem.Str.ofString "3"))) (dCons (dOp addD (dOp powD (dC (.int 10)) (dC (.int 15))) (dC (.int 1))) dNil))))))) (.nm 2) lb__law_numbers_right_1) (lBegin 3 [(dCall df_least_shares (dCons (dC (.int 0)) (dCons (dC (.int 1)) (dCons (dC (.int 0)) dNil)))), (dCall df_least_shares (dCons (dC (.int 1001)) (dCons (dC (.int 1)) (dCons (dC (.int 0)) dNil)))), (dCall df_year_with (dCons (dC (.int 7)) (dCons (dC (.int 7)) (dCons (dC (.int 281)) dNil))))] (lCat [(dCallD df_count_years [.non] (dCons (dVar 0) (dCons (dC (.int 6)) (dCons (dC (.int 1)) dNil)))), (dCallD df_count_years [.non] (dCons (dVar 0) (dCons (dC (.int 1)) (dCons (dC (.int 0)) dNil)))), (dCallD df_count_years [.non] (dCons (dVar 0) (dCons (dC (.int 1)) (dCons (dC (.int 6)) dNil))))] (lAll (PySem.Str.ofString "InvalidNumber") [] (dRet (dCall df__law_scheme_numbers_right (dCons (dVar 0) dNil)))))))
def df__law_numbers_right : DF := mkDF 4 body__law_numbers_right
abbrev s__law_years_right : Stmt := topS 72
abbrev N__law_years_right : List PySem.Str := ["policy1", "scheme", "odd", "calls"]
theorem sc__law_years_right : FnScope N__law_years_right ["policy1"] (defScope s__law_years_right) := ⟨rfl, rfl, rfl, by decide +kernel, rfl, by decide +kernel, by decide +kernel⟩
def lb__law_years_right_1 : DS := (lBegin 3 [(dCall df_least_total (dCons (dVar 1) (dCons (dC (.int 0)) (dCons (dC (.int 0)) (dCons (dVar 2) dNil))))), (dCall df_best_counts (dCons (dVar 1) (dCons (dC (.int 0)) (dCons (dC (.int 0)) (dCons (dVar 2) dNil)))))] (lAll (PySem.Str.ofString "InvalidYear") [(dCall df_cost_with (dCons (dVar 1) (dCons (dC (.int 0)) (dCons (dC (.int 0)) (dCons (dVar 2) (dCons (dTup dNil) dNil))))))] dNil'))
def lb__law_years_right_2 : DS := (lAll0 (PySem.Str.ofString "InvalidYear") [(dCall df_cost_with (dCons (dVar 1) (dCons (dC (.int 0)) (dCons (dC (.int 0)) (dCons (dTup (dCons (dTup (dCons (dC (.int 5)) dNil)) dNil)) (dCons (dVar 2) dNil))))))] dNil')
def lb__law_years_right_3 : DS := (lAll0 (PySem.Str.ofString "InvalidYear") [(dCall df_far_cost (dCons (dVar 0) (dCons (dVar 2) dNil)))] dNil')
def body__law_years_right : DS := (dSeq (dSet 1 (dTup (dCons (dTup (dCons (dC (.int 1)) (dCons (dC (.int 2)) dNil))) (dCons (dC (.int 1)) dNil)))) (dSeq (dFor (dItems (dLst (dCons (dC .non) (dCons (dLst dNil) (dCons (dTup (dCons (dC .non) dNil)) (dCons (dTup (dCons (dTup (dCons (dC (.int 0)) dNil)) dNil)) (dCons (dOp mulTD (dTup (dCons (dTup dNil) dNil)) (dC (.int 13))) (dCons (dC (.int 5)) dNil)))))))) (.nm 2) lb__law_years_right_1) (dSeq (dFor (dItems (dLst (dCons (dC .non) (dCons (dLst (dCons (dC (.int 0)) dNil)) (dCons (dTup dNil) (dCons (dTup (dCons (dC (.int 0)) (dCons (dC (.int 0)) dNil))) (dCons (dC (.int 5)) dNil))))))) (.nm 2) lb__law_years_right_2) (dSeq (dFor (dItems (dLst (dCons (dC .non) (dCons (dLst dNil) (dCons (dTup (dCons (dC (.int 1)) dNil)) (dCons (dTup (dCons (dTup (dCons (dC (.int 1)) dNil)) dNil)) (dCons (dTup (dCons (dTup (dCons (dC (.int 1)) (dCons (dC (.int 2)) (dCons (dC (.int 3)) dNil)))) dNil)) (dCons (dOp mulTD (dTup (dCons (dTup (dCons (dC (.int 1)) (dCons (dC (.int 1)) dNil))) dNil)) (dC (.int 41))) (dCons (dC (.int 5)) dNil))))))))) (.nm 2) lb__law_years_right_3) (dRet (dC (.bl true)))))))
def df__law_years_right : DF := mkDF 4 body__law_years_right
abbrev s_C___init__ : Stmt := clsS 47 1
abbrev N_C___init__ : List PySem.Str := ["self", "policy"]
theorem sc_C___init__ : FnScope N_C___init__ ["self", "policy"] (defScope s_C___init__) := ⟨rfl, rfl, rfl, by decide +kernel, rfl, by decide +kernel, by decide +kernel⟩
def I_init : List D → Mo (List D) := mkI 2 (dCall df_check_policy (dCons (dVar 1) dNil)) (dCons (dTup (dCons (dVar 1) (dCons (dC (.int 0)) (dCons (dC (.int 0)) (dCons (dTup dNil) dNil))))) dNil)
abbrev s_C_full : Stmt := clsS 47 2
abbrev N_C_full : List PySem.Str := ["cls", "premium"]
theorem sc_C_full : FnScope N_C_full ["cls", "premium"] (defScope s_C_full) := ⟨rfl, rfl, rfl, by decide +kernel, rfl, by decide +kernel, by decide +kernel⟩
def df_C_full : DF := mkF 2 (dMake I_init (dCons (dTup (dCons (dVar 1) (dCons (dC (.int 0)) (dCons (dC .non) dNil)))) dNil))
abbrev s_C_own : Stmt := clsS 47 7
abbrev N_C_own : List PySem.Str := ["self", "policy", "years", "before", "seen", "damage"]
theorem sc_C_own : FnScope N_C_own ["self"] (defScope s_C_own) := ⟨rfl, rfl, rfl, by decide +kernel, rfl, by decide +kernel, by decide +kernel⟩
def body_C_own : DS := (dSeq (dUnp (.tp [1, 2, 3, 4]) (dOp ixD (dStates (dVar 0)) (dNeg (dC (.int 1))))) (dRet (dCall df_capped (dCons (dVar 1) (dCons (dB sum1 (dCons (dLc (dItems (dVar 4)) (.nm 5) dYes (dB min2 (dCons (dVar 5) (dCons (dOp ixD (dVar 1) (dC (.int 1))) dNil))) [5]) dNil)) dNil)))))
def df_C_own : DF := mkDF 6 body_C_own
abbrev s_C_claim : Stmt := clsS 47 3
abbrev N_C_claim : List PySem.Str := ["self", "damages", "policy", "years", "before", "seen", "damage", "old"]
theorem sc_C_claim : FnScope N_C_claim ["self", "damages"] (defScope s_C_claim) := ⟨rfl, rfl, rfl, by decide +kernel, rfl, by decide +kernel, by decide +kernel⟩
def lb_C_claim_1 : DS := (dDrop (dCall df_check_damage (dCons (dVar 6) dNil)))
def body_C_claim : DS := (dSeq (dUnp (.tp [2, 3, 4, 5]) (dOp ixD (dStates (dVar 0)) (dNeg (dC (.int 1))))) (dSeq (dFor (dItems (dVar 1)) (.nm 6) lb_C_claim_1) (dSeq (dSet 7 (dProp df_C_own (dVar 0))) (dSeq (dPush (dStates (dVar 0)) (dTup (dCons (dVar 2) (dCons (dVar 3) (dCons (dVar 4) (dCons (dOp addD (dVar 5) (dVar 1)) dNil)))))) (dRet (dOp subD (dProp df_C_own (dVar 0)) (dVar 7)))))))
def df_C_claim : DF := mkDF 8 body_C_claim
abbrev s_C_undo : Stmt := clsS 47 5
abbrev N_C_undo : List PySem.Str := ["self"]
theorem sc_C_undo : FnScope N_C_undo ["self"] (defScope s_C_undo) := ⟨rfl, rfl, rfl, by decide +kernel, rfl, by decide +kernel, by decide +kernel⟩
def body_C_undo : DS := (dSeq (dIfS (dTest (dOp eqD (dB len1 (dCons (dStates (dVar 0)) dNil)) (dC (.int 1)))) (dErr "NothingToUndo") dNil') (dPop (dStates (dVar 0))))
def df_C_undo : DF := mkDF 1 body_C_undo
abbrev s_C_renew : Stmt := clsS 47 4
abbrev N_C_renew : List PySem.Str := ["self", "policy", "old", "years", "before", "seen", "cost"]
theorem sc_C_renew : FnScope N_C_renew ["self", "policy"] (defScope s_C_renew) := ⟨rfl, rfl, rfl, by decide +kernel, rfl, by decide +kernel, by decide +kernel⟩
def body_C_renew : DS := (dSeq (dUnp (.tp [2, 3, 4, 5]) (dOp ixD (dStates (dVar 0)) (dNeg (dC (.int 1))))) (dSeq (dIfS (dTest (dOp isnD (dVar 1) (dC .non))) (dDrop (dCall df_check_policy (dCons (dVar 1) dNil))) dNil') (dSeq (dSet 6 (dOp addD (dOp ixD (dVar 2) (dC (.int 0))) (dProp df_C_own (dVar 0)))) (dSeq (dPush (dStates (dVar 0)) (dTup (dCons (dIf (dTest (dOp isD (dVar 1) (dC .non))) (dVar 2) (dVar 1)) (dCons (dOp addD (dVar 3) (dC (.int 1))) (dCons (dOp addD (dVar 4) (dVar 6)) (dCons (dTup dNil) dNil)))))) (dRet (dVar 6))))))
def df_C_renew : DF := mkDF 7 body_C_renew
abbrev s_law : Stmt := topS 73
abbrev N_law : List PySem.Str := ["script", "bag", "policy1", "year", "odd", "calls"]
theorem sc_law : FnScope N_law ["script"] (defScope s_law) := ⟨rfl, rfl, rfl, by decide +kernel, rfl, by decide +kernel, by decide +kernel⟩
def lb_law_1 : DS := (lBegin 5 [(dCallD df_policy_of [.int 0, .non] (dCons (dVar 4) dNil)), (dCallG df_policy_of (fun xs zs => xs ++ zs ++ [.non]) (dCons (dC (.int 1)) dNil) (dCons (dVar 4) dNil)), (dFull df_C_full (dCons (dVar 4) dNil))] (lCat [(dCall df_excesses_for (dCons (dVar 4) (dCons (dC .non) (dCons (dC .non) (dCons (dC .non) dNil)))))] (lIf (dTest (dOp isnD (dVar 4) (dC .non))) ([(dCallG df_policy_of (fun xs zs => xs ++ [.int 0] ++ zs) (dCons (dC (.int 1)) dNil) (dCons (dVar 4) dNil)), (dCall df_excesses_for (dCons (dC (.int 1)) (dCons (dVar 4) (dCons (dC .non) (dCons (dC .non) dNil)))))] ++ ([(dMethK df_C_renew (dMake I_init (dCons (dVar 2) dNil)) (dCons (dVar 4) dNil))] ++ [])) (lAll (PySem.Str.ofString "InvalidPolicy") [] dNil'))))
def lb_law_2 : DS := (lBegin 5 [(dMethS df_C_claim (dMake I_init (dCons (dVar 2) dNil)) (dCons (dC (.int 1)) (dCons (dVar 4) dNil))), (dCall df_far_cost (dCons (dVar 2) (dCons (dTup (dCons (dTup (dCons (dVar 4) (dCons (dC .non) dNil))) dNil)) dNil)))] (lAll (PySem.Str.ofString "InvalidDamage") [] dNil'))
def lb_law_3 : DS := (dSeq (dSet 2 (dCall df__law_policy (dCons (dVar 1) dNil))) (dSeq (dSet 3 (dCall df__law_year (dCons (dVar 1) (dCons (dC (.int 20)) (dCons (dVar 2) dNil))))) (dSeq (dIfS (dOrT (dNotT (dTest (dCall df__law_numbers_right (dCons (dVar 2) (dCons (dVar 3) dNil))))) (dNotT (dTest (dCall df__law_years_right (dCons (dVar 2) dNil))))) (dRet (dC (.bl false))) dNil') (dSeq (dFor (dItems (dLst (dCons (dC .non) (dCons (dC (.bl true)) (dCons (dNeg (dC (.int 1))) (dCons (dC (.int 10001)) (dCons (dC (.str (PySem.Str.ofString "3"))) dNil))))))) (.nm 4) lb_law_1) (dSeq (dFor (dItems (dLst (dCons (dC .non) (dCons (dC (.bl true)) (dCons (dC (.int 0)) (dCons (dNeg (dC (.int 1))) (dCons (dOp addD (dOp powD (dC (.int 10)) (dC (.int 6))) (dC (.int 1))) (dCons (dC (.str (PySem.Str.ofString "3"))) dNil)))))))) (.nm 4) lb_law_2) (dIfS (dTest (dOp neD (dOutc (dMeth df_C_undo [] (dMake I_init (dCons (dVar 2) dNil)) dNil)) (dTup (dCons (dC (.str (PySem.Str.ofString "NothingToUndo"))) dNil)))) (dRet (dC (.bl false))) dNil'))))))
def body_law : DS := (dSeq (dFor (dItems (dCall df__law_bags (dCons (dVar 0) (dCons (dC (.int 6)) dNil)))) (.nm 1) lb_law_3) (dRet (dAnd (dOp eqD (dCallD df_policy_of [.int 0, .non] (dCons (dC (.int 100)) dNil)) (dTup (dCons (dC (.int 100)) (dCons (dC (.int 0)) (dCons (dC .non) dNil))))) (dOp eqD (dCallK df_policy_of (dCons (dC (.int 100)) dNil) (dCons (dC (.int 50)) (dCons (dC (.int 120)) dNil))) (dTup (dCons (dC (.int 100)) (dCons (dC (.int 50)) (dCons (dC (.int 120)) dNil))))))))
def df_law : DF := mkDF 6 body_law
end W

/-! draws of a bag -/
namespace W
open PySem PySem.Spec PyProof.Rows L2 Z

theorem bnd_app {α β : Type} {m : Mo α} {f : α → Mo β} {M : MS} : bnd m f M = match m M with
  | none => none
  | some (.ok a, M') => f a M'
  | some (.err c, M') => some (.err c, M') := rfl
theorem bnd_at {α β : Type} {m : Mo α} {f : α → Mo β} {M M' : MS} {a : α} (h : m M = some (.ok a, M')) : bnd m f M = f a M' := by
  unfold bnd
  rw [h]
theorem ix_obj {k : Nat} {xs : List D} {i : Int} {z : D} {M : MS} (h : M[k]? = some xs) (hz : atI xs i = some z) : ixD (.obj k) (.int i) M = some z := by
  unfold ixD
  simp only [h, hz]
theorem set_get {M : MS} {k : Nat} {xs ys : List D} (h : M[k]? = some xs) : (M.set k ys)[k]? = some ys := by
  obtain ⟨h1, _⟩ := List.getElem?_eq_some_iff.mp h
  exact List.getElem?_set_self h1
theorem set_oth (M : MS) (k : Nat) (ys : List D) : Oth k M (M.set k ys) := fun j hj => List.getElem?_set_ne (Ne.symm hj)
def IsI (lo hi : Int) : D → Prop := fun d => ∃ r : Int, d = .int r ∧ lo ≤ r ∧ r < hi
theorem bnd_lft_app {α β : Type} {g : MS → Option α} {f : α → Mo β} {M : MS} : bnd (fun M => lft (g M) M) f M = match g M with
  | none => none
  | some a => f a M := by
  rw [bnd_app]
  show (match lft (g M) M with
    | none => none
    | some (.ok a, M') => f a M'
    | some (.err c, M') => some (.err c, M')) = _
  cases g M <;> rfl
theorem ixD_obj {k : Nat} {i : Int} {M : MS} : ixD (.obj k) (.int i) M = match M[k]? with
  | some xs => atI xs i
  | none => none := rfl
def putK (e : Ev) (d o k : D) : Mo Oc := fun M => match o, k with
  | .obj n, .int j => match M[n]? with
    | some xs => match ixN xs.length j with
      | some q => some (.ok (.nx e), M.set n (xs.set q d))
      | none => none
    | none => none
  | _, _ => none
theorem dPut_eq {fo fi fe : DE} {e : Ev} : dPut fo fi fe e = bnd (fe e) fun d => bnd (fo e) fun o => bnd (fi e) fun k => putK e d o k := rfl
theorem putK_app {e : Ev} {d : D} {n : Nat} {j : Int} {f : Oc → Mo D} {M : MS} {xs : List D} {q : Nat} (h : M[n]? = some xs) (hq : ixN xs.length j = some q) : bnd (putK e d (.obj n) (.int j)) f M = f (.nx e) (M.set n (xs.set q d)) := by
  unfold bnd putK
  simp only [h, hq]
theorem BagAt.lt {M : MS} {k n : Nat} (h : BagAt M k n) : k < M.length := by
  obtain ⟨a, b, c, hM, _⟩ := h
  exact (List.getElem?_eq_some_iff.mp hM).1
theorem ret_app {α : Type} {a : α} {M : MS} : ret a M = some (.ok a, M) := rfl
/-- the number that is drawn without digits -/
def drawn (b c many : Int) : Int :=
  let n := (b + 1000003 * c) % 2305843009213693951
  let m := (n * n + 7919 * c ^ 2 + 5) % 2305843009213693951
  m ^ 3 % 2305843009213693951 / 13 % many
theorem take_eq {k : Nat} {many a b c : Int} {M : MS} (h0 : 0 < many) (h1 : many < 1073741824) (hM : M[k]? = some [.int a, .int b, .int c]) (hb0 : 0 ≤ b) (hb1 : b < 2305843009213693951) (hc0 : 0 ≤ c) (hc1 : c < 1099511627776) :
    df__law_take [.obj k, .int many] M = if 0 < a then some (.ok (.int (a % many)), M.set k [.int (a / many), .int b, .int c]) else some (.ok (.int (drawn b (c + 1) many)), M.set k [.int a, .int b, .int (c + 1)]) := by
  have hk : k < M.length := (List.getElem?_eq_some_iff.mp hM).1
  have q0 : ixN 3 0 = some 0 := rfl
  have q2 : ixN 3 2 = some 2 := rfl
  by_cases ha : 0 < a
  · simp [df__law_take, body__law_take, bnd_assoc, bnd_lft_app, ixD_obj, hM, ha, h0, h1]
    rw [dPut_eq]
    simp [bnd_assoc, bnd_lft_app, ixD_obj, hM, h0, h1]
    rw [putK_app (xs := [.int a, .int b, .int c]) (q := 0) hM rfl]
    simp [ret_app]
  · simp [df__law_take, body__law_take, bnd_assoc, bnd_lft_app, ixD_obj, hM, ha, h0, h1]
    rw [dPut_eq]
    simp [bnd_assoc, bnd_lft_app, ixD_obj, hM, h0, h1]
    rw [putK_app (xs := [.int a, .int b, .int c]) (q := 2) hM rfl]
    have g1 : (c + 1).natAbs < 18446744073709551616 := by omega
    simp [bnd_assoc, bnd_lft_app, ixD_obj, hk, h0, h1, g1, mulD_int (i := 1000003) (j := c + 1) (by omega)]
    unfold drawn
    have hn0 := Int.emod_nonneg (b + 1000003 * (c + 1)) (show (2305843009213693951 : Int) ≠ 0 by decide)
    have hn1 := Int.emod_lt_of_pos (b + 1000003 * (c + 1)) (show (0 : Int) < 2305843009213693951 by decide)
    generalize (b + 1000003 * (c + 1)) % 2305843009213693951 = n at hn0 hn1 ⊢
    simp [bnd_lft_app, mulD_int (i := n) (j := n) (by omega), mulD_int (i := 7919) (j := (c + 1) ^ 2) (by omega)]
    have hm0 := Int.emod_nonneg (n * n + 7919 * (c + 1) ^ 2 + 5) (show (2305843009213693951 : Int) ≠ 0 by decide)
    have hm1 := Int.emod_lt_of_pos (n * n + 7919 * (c + 1) ^ 2 + 5) (show (0 : Int) < 2305843009213693951 by decide)
    generalize (n * n + 7919 * (c + 1) ^ 2 + 5) % 2305843009213693951 = m at hm0 hm1 ⊢
    have g2 : m.natAbs < 18446744073709551616 := by omega
    simp [bnd_lft_app, g2, h0, ret_app]
theorem take_ok {k : Nat} {many : Int} (h0 : 0 < many) (h1 : many < 1073741824) : Tk k 1 (df__law_take [.obj k, .int many]) (IsI 0 many) := by
  intro n M ⟨a, b, c, hM, hb0, hb1, hc0, hc1⟩
  have e := take_eq h0 h1 hM hb0 hb1 hc0 (by omega)
  by_cases ha : 0 < a
  · rw [if_pos ha] at e
    exact ⟨_, _, e, ⟨_, _, _, set_get hM, hb0, hb1, hc0, by omega⟩, set_oth _ _ _, _, rfl, Int.emod_nonneg _ (by omega), Int.emod_lt_of_pos _ h0⟩
  · rw [if_neg ha] at e
    exact ⟨_, _, e, ⟨_, _, _, set_get hM, hb0, hb1, by omega, by omega⟩, set_oth _ _ _, _, rfl, Int.emod_nonneg _ (by omega), Int.emod_lt_of_pos _ h0⟩
/-- a draw, and what comes behind it -/
theorem take_bind {β : Type} {k c : Nat} {many : Int} {f : D → Mo β} {post : β → Prop} (h0 : 0 < many) (h1 : many < 1073741824) (h : ∀ r : Int, 0 ≤ r → r < many → Tk k c (f (.int r)) post) : Tk k (c + 1) (bnd (df__law_take [.obj k, .int many]) f) post :=
  ((take_ok h0 h1).bind (c2 := c) fun a ⟨r, e, r0, r1⟩ => by rw [e]; exact h r r0 r1).mono (by omega) fun _ h => h
/-! loops of draws -/
/-- the next turn is reached, I holds there -/
def Nxt (I : Ev → Prop) (o : Oc) : Prop := ∃ e', (o = .nx e' ∨ o = .ct e') ∧ I e'
theorem Nxt.mk {I : Ev → Prop} {e : Ev} {k c : Nat} (h : I e) : Tk k c (ret (.nx e)) (Nxt I) := Tk.ret ⟨e, .inl rfl, h⟩
theorem Tk.loop {k c : Nat} {t : Tg} {body : DS} (I : Nat → Ev → Prop) : ∀ {items : List D} (i : Nat) (e : Ev), I i e →
    (∀ j x e, items[j]? = some x → I (i + j) e → ∃ e1, asg t x e = some e1 ∧ Tk k c (body e1) (Nxt (I (i + j + 1)))) →
    Tk k (c * items.length) (dLoop t body items e) (fun o => ∃ e', o = .nx e' ∧ I (i + items.length) e')
  | [], i, e, h0, _ => Tk.ret ⟨e, rfl, h0⟩
  | x :: xs, i, e, h0, h => by
    obtain ⟨e1, h1, h2⟩ := h 0 x e rfl h0
    rw [dLoop_cons, h1, lft_some, bnd_ret]
    refine (h2.bind (c2 := c * xs.length) fun o ⟨e', ho, hi⟩ => ?_).mono (by rw [List.length_cons, Nat.mul_succ]; omega) fun _ h => h
    have ih := Tk.loop I (items := xs) (i + 1) e' hi (fun j y e hj hI => by
      have z := h (j + 1) y e (by simpa using hj) (by rw [show i + (j + 1) = i + 1 + j by omega]; exact hI)
      rw [show i + (j + 1) + 1 = i + 1 + j + 1 by omega] at z
      exact z)
    rw [List.length_cons, show i + (xs.length + 1) = i + 1 + xs.length by omega]
    rcases ho with rfl | rfl <;> exact ih
theorem loop_bind {β : Type} {k c c2 C : Nat} {t : Tg} {body : DS} {items : List D} {e : Ev} {f : Oc → Mo β} {post : β → Prop} (I : Nat → Ev → Prop) (h0 : I 0 e)
    (h : ∀ j x e, items[j]? = some x → I j e → ∃ e1, asg t x e = some e1 ∧ Tk k c (body e1) (Nxt (I (j + 1))))
    (hend : ∀ e', I items.length e' → Tk k c2 (f (.nx e')) post) (hC : c * items.length + c2 ≤ C) : Tk k C (bnd (dLoop t body items e) f) post := by
  refine ((Tk.loop I 0 e h0 fun j x e hj hI => ?_).bind (c2 := c2) fun o ⟨e', ho, hi⟩ => ?_).mono hC fun _ h => h
  · rw [Nat.zero_add] at hI ⊢
    exact h j x e hj hI
  · rw [Nat.zero_add] at hi
    rw [ho]
    exact hend e' hi
theorem rngD_len {lo : Int} {n : Nat} : (rngD lo n).length = n := by
  unfold rngD
  rw [List.length_map, List.length_range]
theorem rngD_get {lo : Int} {n j : Nat} {x : D} (h : (rngD lo n)[j]? = some x) : j < n ∧ x = .int (lo + (j : Int)) := by
  unfold rngD at h
  rw [List.getElem?_map] at h
  cases e : (List.range n)[j]? with
  | none =>
    rw [e] at h
    cases h
  | some k =>
    rw [e] at h
    obtain ⟨h1, h2⟩ := List.getElem?_eq_some_iff.mp e
    rw [List.getElem_range] at h2
    subst h2
    cases h
    exact ⟨by simpa using h1, rfl⟩
/-! the bags -/
def newO (xs : List D) : Mo D := fun M => some (.ok (.obj M.length), M ++ [xs])
theorem dObj_eq {g : DA} {e : Ev} : dObj g e = bnd (g e) fun xs => if xs.length ≤ 100000 then newO xs else stuck := rfl
theorem well_eq {cell turn : Int} : ∃ a b : Int, 0 ≤ b ∧ b < 2305843009213693951 ∧ df__law_well [.int cell, .int turn] = newO [.int a, .int b, .int turn] := by
  have q : (10 : Int) ^ 18 = 1000000000000000000 := by decide
  by_cases h : 1000000000000000000 ≤ cell
  · refine ⟨cell - 1000000000000000000, cell % 2305843009213693951, Int.emod_nonneg _ (by decide), Int.emod_lt_of_pos _ (by decide), ?_⟩
    simp [df__law_well, body__law_well, dObj_eq, q, h]
    funext M
    simp [bnd_app, newO, ret_app]
  · refine ⟨0, cell % 2305843009213693951, Int.emod_nonneg _ (by decide), Int.emod_lt_of_pos _ (by decide), ?_⟩
    simp [df__law_well, body__law_well, dObj_eq, q, h]
    funext M
    simp [bnd_app, newO, ret_app]
theorem bag_ext {M : MS} {k n : Nat} {xs : List D} (h : BagAt M k n) : BagAt (M ++ [xs]) k n := by
  obtain ⟨a, b, c, hM, h⟩ := h
  exact ⟨a, b, c, by rw [List.getElem?_append_left (List.getElem?_eq_some_iff.mp hM).1]; exact hM, h⟩
theorem cut_to {xs : List D} {m : Nat} : Z.cutD xs none (some (m : Int)) = xs.take m := by
  unfold Z.cutD
  rw [HT.sIx_none, HT.sIx_nat, List.drop_zero, Nat.sub_zero]
  exact List.take_eq_take_iff.mpr (by omega)
theorem bags_loop {e0 : Ev} (he : 4 ≤ e0.length) : ∀ (cs : List Int) (k : Nat) (acc : List D) (M : MS), M.length = k → acc.length + cs.length ≤ 100 → k + cs.length ≤ 100 → (∀ j, j < k → BagAt M j 1000000000000) →
    ∃ M', dLcLoop (.tp [2, 3]) dYes (dCall df__law_well (dCons (dVar 3) (dCons (dOp mulD (dC (.int 977)) (dVar 2)) dNil))) e0 (enmD k (cs.map .int)) acc M = some (.ok (acc ++ (List.range' k cs.length).map .obj), M') ∧ (∀ j, j < k + cs.length → BagAt M' j 1000000000000) ∧ M'.length = k + cs.length
  | [], k, acc, M, hk, _, _, hB => ⟨M, by simp [enmD, dLcLoop, ret_app], hB, hk⟩
  | c :: cs, k, acc, M, hk, h1, h2, hB => by
    rw [List.length_cons] at h1 h2
    obtain ⟨a, b, hb0, hb1, ew⟩ := well_eq (cell := c) (turn := 977 * (k : Int))
    have hB' : ∀ j, j < k + 1 → BagAt (M ++ [[.int a, .int b, .int (977 * (k : Int))]]) j 1000000000000 := fun j hj => by
      by_cases q : j < k
      · exact bag_ext (hB j q)
      · have : j = k := by omega
        subst this
        refine ⟨a, b, 977 * (j : Int), ?_, hb0, hb1, by omega, by omega⟩
        rw [List.getElem?_append_right (by omega), hk, Nat.sub_self]
        rfl
    obtain ⟨M', e', hM', hlen⟩ := bags_loop he cs (k + 1) (acc ++ [.obj k]) (M ++ [[.int a, .int b, .int (977 * (k : Int))]]) (by simp [hk]) (by simp; omega) (by omega) hB'
    refine ⟨M', ?_, fun j hj => hM' j (by rw [List.length_cons] at hj; omega), by rw [hlen, List.length_cons]; omega⟩
    have g2 : (e0.set 2 (.v (.int (k : Int))))[2]? = some (.v (.int (k : Int))) := List.getElem?_set_self (by omega)
    have g3 : ((e0.set 2 (.v (.int (k : Int)))).set 3 (.v (.int c)))[3]? = some (.v (.int c)) := List.getElem?_set_self (by simp; omega)
    have g2' : ((e0.set 2 (.v (.int (k : Int)))).set 3 (.v (.int c)))[2]? = some (.v (.int (k : Int))) := by
      rw [List.getElem?_set_ne (by decide)]
      exact g2
    simp only [List.map_cons, enmD]
    unfold dLcLoop
    simp only [asg_tp, asgs_cons, asgs_nil, lft_some, bnd_ret, dYes, noErr_ret, if_true, dCall_eq, dCons_eq, dVar_eq, g3, g2', varK_v, dOp_eq, dC_eq, mulD_int (i := 977) (j := (k : Int)) (by omega), ret_eta, dNil_eq, ew]
    have el : acc.length < 100000 := by omega
    rw [bnd_at (show noErr (newO [.int a, .int b, .int (977 * (k : Int))]) M = some (.ok (.obj k), M ++ [[.int a, .int b, .int (977 * (k : Int))]]) by simp [noErr, newO, hk]), if_pos el, e']
    simp [List.range'_succ]
theorem bags_ok {ns : List Int} {m : Nat} (hm : m ≤ 90) : ∃ L M', df__law_bags [.scr ns, .int (m : Int)] [] = some (.ok (.lst ((List.range L).map .obj)), M') ∧ (∀ j, j < L → BagAt M' j 1000000000000) ∧ M'.length = L := by
  have hl : (ns.take m ++ [0]).length ≤ 91 := by simp; omega
  obtain ⟨M', e, h, hM⟩ := bags_loop (e0 := [.v (.scr ns), .v (.int (m : Int)), .no, .no]) (by simp) (ns.take m ++ [0]) 0 [] [] rfl (by simpa using by omega) (by omega) (fun j hj => by omega)
  refine ⟨(ns.take m ++ [0]).length, M', ?_, fun j hj => h j (by omega), by omega⟩
  have hc : Z.cutD (ns.map D.int) none (some (m : Int)) = (ns.take m).map D.int := by rw [cut_to, List.map_take]
  have hl2 : (List.take m ns).length + 1 ≤ 100000 := by rw [List.length_take]; omega
  have e2 : ((List.take m ns).map D.int) ++ [.int 0] = (ns.take m ++ [0]).map D.int := by simp
  simp only [df__law_bags, body__law_bags, mkDF_eq, dRet_eq, dLc_eq, dEnm_eq, dCons_eq, dNil_eq, dOp_eq, dSl_eq, dVar_eq, dNoPart_eq, dPart_eq, dLst_eq, dC_eq, List.map_cons, List.map_nil, List.cons_append, List.nil_append, List.length_cons, List.length_nil, List.getElem?_cons_zero, List.getElem?_cons_succ, varK_v, bnd_ret, partK_int, List.replicate, slD, hc, lft_some, ret_eta]
  simp only [Nat.reduceAdd, Nat.reduceSub, List.replicate, List.cons_append, List.nil_append, Nat.reduceLeDiff, if_true, bnd_ret, addD_lst, List.length_map, List.length_cons, List.length_nil, hl2, lft_some, ret_eta, lst1_lst, e2, wipeE_cons, wipeE_nil, List.set_cons_succ, List.set_cons_zero]
  simp only [bnd_assoc, bnd_ret]
  rw [bnd_at e]
  simp [ret_app, List.range_eq_range']
end W

/-! laws that go over all the bags -/
namespace W
open PySem PySem.Spec PyProof.Rows L2 Z
theorem bags_run {c i : Nat} {body : DS} {I : Ev → Prop} (hc : c ≤ 1000000000000) (hb : ∀ k e, I e → Tk k c (body (e.set i (.v (.obj k)))) (Nxt I)) : ∀ (n k : Nat) (M : MS) (e : Ev), I e → (∀ j, k ≤ j → j < k + n → BagAt M j 1000000000000) →
    ∃ e' M', dLoop (.nm i) body ((List.range' k n).map .obj) e M = some (.ok (.nx e'), M') ∧ I e'
  | 0, k, M, e, h, _ => ⟨e, M, rfl, h⟩
  | n + 1, k, M, e, h, hB => by
    obtain ⟨o, M1, h1, b1, o1, e1, ho, hI⟩ := hb k e h (1000000000000 - c) M ((hB k (by omega) (by omega)).mono (by omega))
    obtain ⟨e', M', h2, hI'⟩ := bags_run hc hb n (k + 1) M1 e1 hI fun j j0 j1 => by
      obtain ⟨x, y, z, q, w⟩ := hB j (by omega) (by omega)
      exact ⟨x, y, z, by rw [o1 j (by omega)]; exact q, w⟩
    refine ⟨e', M', ?_, hI'⟩
    rw [List.range'_succ, List.map_cons, dLoop_cons, asg_nm, lft_some, bnd_ret, bnd_at h1]
    rcases ho with rfl | rfl <;> exact h2
theorem law_shell {c n i m : Nat} {lb tail : DS} {I : Ev → Prop} {ns : List Int} (hm : m ≤ 90) (hc : c ≤ 1000000000000) (h0 : I (.v (.scr ns) :: List.replicate (n - 1) .no)) (hb : ∀ k e, I e → Tk k c (lb (e.set i (.v (.obj k)))) (Nxt I))
    (ht : ∀ e M, I e → ∃ M', tail e M = some (.ok (.rt (.bl true)), M')) : ∃ M', mkDF n (dSeq (dFor (dItems (dCall df__law_bags (dCons (dVar 0) (dCons (dC (.int (m : Int))) dNil)))) (.nm i) lb) tail) [.scr ns] [] = some (.ok (.bl true), M') := by
  obtain ⟨L, M1, hB, hB2, _⟩ := bags_ok (ns := ns) hm
  obtain ⟨e', M2, h2, hI⟩ := bags_run hc hb L 0 M1 _ h0 fun j _ hj => hB2 j (by omega)
  obtain ⟨M3, h3⟩ := ht e' M2 hI
  refine ⟨M3, ?_⟩
  rw [← List.range_eq_range'] at h2
  simp only [mkDF_eq, dSeq_eq, dFor_eq, dItems_eq, dCall_eq, dCons_eq, dVar_eq, dC_eq, dNil_eq, List.map_cons, List.map_nil, List.cons_append, List.nil_append, List.getElem?_cons_zero, varK_v, bnd_ret, bnd_assoc, List.length_cons, List.length_nil]
  rw [bnd_at hB, itemsK_lst, bnd_ret, bnd_at h2, seqK_nx, bnd_at h3]
  rfl
end W

/-! loops without draws, the body abstract (else the kernel evaluates it) -/
namespace W
open PySem PySem.Spec PyProof.Rows L2 Z
theorem pure_loop {i : Nat} {body : DS} (I : Nat → Ev → Prop) : ∀ {items : List D} (k : Nat) (e : Ev), I k e → (∀ j x e, items[j]? = some x → I (k + j) e → ∃ e', body (e.set i (.v x)) = ret (.nx e') ∧ I (k + j + 1) e') →
    ∃ e', dLoop (.nm i) body items e = ret (.nx e') ∧ I (k + items.length) e'
  | [], k, e, h0, _ => ⟨e, rfl, h0⟩
  | x :: xs, k, e, h0, h => by
    obtain ⟨e1, h1, h2⟩ := h 0 x e rfl h0
    obtain ⟨e2, h3, h4⟩ := pure_loop I (items := xs) (k + 1) e1 h2 (fun j y e hj hI => by
      have z := h (j + 1) y e (by simpa using hj) (by rw [show k + (j + 1) = k + 1 + j by omega]; exact hI)
      rw [show k + (j + 1) + 1 = k + 1 + j + 1 by omega] at z
      exact z)
    refine ⟨e2, ?_, ?_⟩
    · rw [dLoop_cons, asg_nm, lft_some, bnd_ret, h1, bnd_ret, loopK_nx, h3]
    · rw [List.length_cons, show k + (xs.length + 1) = k + 1 + xs.length by omega]
      exact h4
/-- from the start -/
theorem pure_loop0 {i : Nat} {body : DS} {items : List D} (I : Nat → Ev → Prop) {e : Ev} (h0 : I 0 e) (h : ∀ j x e, items[j]? = some x → I j e → ∃ e', body (e.set i (.v x)) = ret (.nx e') ∧ I (j + 1) e') : ∃ e', dLoop (.nm i) body items e = ret (.nx e') ∧ I items.length e' := by
  obtain ⟨e', h1, h2⟩ := pure_loop (i := i) (body := body) I (items := items) 0 e h0 (fun j x e hj hI => by
    rw [Nat.zero_add] at hI ⊢
    exact h j x e hj hI)
  rw [Nat.zero_add] at h2
  exact ⟨e', h1, h2⟩
/-- any target -/
theorem pure_loopT {t : Tg} {body : DS} (I : Nat → Ev → Prop) : ∀ {items : List D} (k : Nat) (e : Ev), I k e → (∀ j x e, items[j]? = some x → I (k + j) e → ∃ e1 e', asg t x e = some e1 ∧ body e1 = ret (.nx e') ∧ I (k + j + 1) e') →
    ∃ e', dLoop t body items e = ret (.nx e') ∧ I (k + items.length) e'
  | [], k, e, h0, _ => ⟨e, rfl, h0⟩
  | x :: xs, k, e, h0, h => by
    obtain ⟨e0, e1, ha, h1, h2⟩ := h 0 x e rfl h0
    obtain ⟨e2, h3, h4⟩ := pure_loopT I (items := xs) (k + 1) e1 h2 (fun j y e hj hI => by
      have z := h (j + 1) y e (by simpa using hj) (by rw [show k + (j + 1) = k + 1 + j by omega]; exact hI)
      rw [show k + (j + 1) + 1 = k + 1 + j + 1 by omega] at z
      exact z)
    refine ⟨e2, ?_, ?_⟩
    · rw [dLoop_cons, ha, lft_some, bnd_ret, h1, bnd_ret, loopK_nx, h3]
    · rw [List.length_cons, show k + (xs.length + 1) = k + 1 + xs.length by omega]
      exact h4
theorem pure_loopT0 {t : Tg} {body : DS} {items : List D} (I : Nat → Ev → Prop) {e : Ev} (h0 : I 0 e) (h : ∀ j x e, items[j]? = some x → I j e → ∃ e1 e', asg t x e = some e1 ∧ body e1 = ret (.nx e') ∧ I (j + 1) e') : ∃ e', dLoop t body items e = ret (.nx e') ∧ I items.length e' := by
  obtain ⟨e', h1, h2⟩ := pure_loopT (t := t) (body := body) I (items := items) 0 e h0 (fun j x e hj hI => by
    rw [Nat.zero_add] at hI ⊢
    exact h j x e hj hI)
  rw [Nat.zero_add] at h2
  exact ⟨e', h1, h2⟩
/-- over enumerate(list) -/
theorem enm_loop {i1 i2 : Nat} {body : DS} {xs : List D} (I : Nat → Ev → Prop) {e : Ev} (h0 : I 0 e) (h : ∀ (j : Nat) x e, xs[j]? = some x → I j e → ∃ e', body ((e.set i1 (.v (.int (j : Int)))).set i2 (.v x)) = ret (.nx e') ∧ I (j + 1) e') : ∃ e', dLoop (.tp [i1, i2]) body (enmD 0 xs) e = ret (.nx e') ∧ I xs.length e' := by
  obtain ⟨e', h1, h2⟩ := pure_loopT0 (t := .tp [i1, i2]) (body := body) (items := enmD 0 xs) I h0 (fun j x e hj hI => by
    obtain ⟨y, hy, rfl⟩ := enmD_get 0 xs j x hj
    obtain ⟨e2, q1, q2⟩ := h j y e hy hI
    rw [Nat.zero_add]
    exact ⟨_, e2, rfl, q1, q2⟩)
  rw [enmD_len] at h2
  exact ⟨e', h1, h2⟩
end W

/-! policies and years -/
namespace W
open PySem PySem.Spec PyProof.Rows L2 Z
def optD : Option Int → D
  | none => .non
  | some c => .int c
@[simp] theorem optD_none : optD none = .non := rfl
@[simp] theorem optD_some {c : Int} : optD (some c) = .int c := rfl
structure Pol where
  p : Int
  e : Int
  c : Option Int
def polD (P : Pol) : D := .tup [.int P.p, .int P.e, optD P.c]
structure Pol.Ok (P : Pol) : Prop where
  p0 : 0 ≤ P.p
  p1 : P.p ≤ 10000
  e0 : 0 ≤ P.e
  e1 : P.e ≤ 1000
  c0 : ∀ c, P.c = some c → 0 ≤ c ∧ c ≤ 10000
def yearD (ds : List Int) : D := .tup (iL ds)
def YearOk (most : Nat) (ds : List Int) : Prop := ds.length ≤ most ∧ ∀ x ∈ ds, 1 ≤ x ∧ x ≤ 1000000
def IsPol : D → Prop := fun d => ∃ P : Pol, d = polD P ∧ P.Ok
def IsYear (most : Nat) : D → Prop := fun d => ∃ ds, d = yearD ds ∧ YearOk most ds
@[simp] theorem pol_ix0 {P : Pol} {M : MS} : ixD (polD P) (.int 0) M = some (.int P.p) := by simp [polD]
@[simp] theorem pol_ix1 {P : Pol} {M : MS} : ixD (polD P) (.int 1) M = some (.int P.e) := by simp [polD]
@[simp] theorem pol_ix2 {P : Pol} {M : MS} : ixD (polD P) (.int 2) M = some (optD P.c) := by simp [polD]
@[simp] theorem isNone_optD {c : Option Int} : isNone (optD c) = c.isNone := by cases c <;> rfl
end W

/-! drawn policies and years -/
namespace W
open PySem PySem.Spec PyProof.Rows L2 Z
theorem pol_mk {p e : Int} {c : Option Int} (h1 : 0 ≤ p) (h2 : p ≤ 10000) (h3 : 0 ≤ e) (h4 : e ≤ 1000) (h5 : ∀ z, c = some z → 0 ≤ z ∧ z ≤ 10000) : IsPol (.tup [.int p, .int e, optD c]) := ⟨⟨p, e, c⟩, rfl, h1, h2, h3, h4, h5⟩
theorem policy_step {k : Nat} {bound eb : Int} (hb0 : 0 < bound) (hb1 : bound ≤ 10001) (he0 : 0 < eb) (he1 : eb ≤ 1001) : Tk k 7 (bnd (df__law_take [.obj k, .int bound]) fun a => bnd (df__law_take [.obj k, .int eb]) fun b =>
      bnd (df__law_take [.obj k, .int 6]) fun c => bnd (fun M => lft (mulD b c M) M) fun bc => bnd (df__law_take [.obj k, .int 4]) fun d => bnd (fun M => lft (addD bc d M) M) fun s => bnd (df__law_take [.obj k, .int 40]) fun f => bnd (df__law_take [.obj k, .int 10001]) fun g => bnd (df__law_take [.obj k, .int 4]) fun h => bnd (fun M => lft (ixD (.lst [.non, s, f, g]) h M) M) fun z => ret (.tup [a, b, z])) IsPol := by
  refine take_bind hb0 (by omega) fun a a0 a1 => take_bind he0 (by omega) fun b b0 b1 => take_bind (by decide) (by decide) fun c c0 c1 => ?_
  simp only [mulD_int (i := b) (j := c) (by omega), lft_some, ret_eta, bnd_ret]
  refine take_bind (by decide) (by decide) fun d d0 d1 => ?_
  simp only [addD_int, lft_some, ret_eta, bnd_ret]
  refine take_bind (by decide) (by decide) fun f f0 f1 => take_bind (by decide) (by decide) fun g g0 g1 => take_bind (c := 0) (by decide) (by decide) fun h h0 h1 => ?_
  have hm : 0 ≤ b * c ∧ b * c ≤ 5000 := by
    have h1 : c = 0 ∨ c = 1 ∨ c = 2 ∨ c = 3 ∨ c = 4 ∨ c = 5 := by omega
    rcases h1 with rfl | rfl | rfl | rfl | rfl | rfl <;> omega
  have hh : h = 0 ∨ h = 1 ∨ h = 2 ∨ h = 3 := by omega
  rcases hh with rfl | rfl | rfl | rfl
  · simp
    exact Tk.ret (pol_mk (c := none) a0 (by omega) b0 (by omega) fun z hz => by cases hz)
  · simp
    exact Tk.ret (pol_mk (c := some (b * c + d)) a0 (by omega) b0 (by omega) fun z hz => by cases hz; omega)
  · simp
    exact Tk.ret (pol_mk (c := some f) a0 (by omega) b0 (by omega) fun z hz => by cases hz; omega)
  · simp
    exact Tk.ret (pol_mk (c := some g) a0 (by omega) b0 (by omega) fun z hz => by cases hz; omega)
theorem policy_ok {k : Nat} : Tk k 8 (df__law_policy [.obj k]) IsPol := by
  simp only [df__law_policy, body__law_policy]
  simp [bnd_assoc]
  refine take_bind (c := 7) (by decide) (by decide) fun w w0 w1 => ?_
  have hw : w = 0 ∨ w = 1 ∨ w = 2 ∨ w = 3 := by omega
  rcases hw with rfl | rfl | rfl | rfl
  · simp
    exact policy_step (by decide) (by decide) (by decide) (by decide)
  · simp
    exact policy_step (by decide) (by decide) (by decide) (by decide)
  · simp
    exact policy_step (by decide) (by decide) (by decide) (by decide)
  · simp
    exact policy_step (by decide) (by decide) (by decide) (by decide)
end W

namespace W
open PySem PySem.Spec PyProof.Rows L2 Z
/-- the slots of _law_year at a turn -/
def YI (k : Nat) (most : Int) (p : D) (i : Nat) (e : Ev) : Prop := ∃ ds s4 s5 s6, e = [.v (.obj k), .v (.int most), .v p, .v (yearD ds), s4, s5, s6] ∧ YearOk i ds
theorem year_ok {k m : Nat} {ep : Int} {a c : D} (hm : m ≤ 100) (e0 : 0 ≤ ep) (e1 : ep ≤ 1000) : Tk k (5 * m + 1) (df__law_year [.obj k, .int (m : Int), .tup [a, .int ep, c]]) (IsYear m) := by
  simp only [df__law_year, body__law_year, lb__law_year_1]
  simp [bnd_assoc]
  refine take_bind (c := 5 * m) (by omega) (by omega) fun n n0 n1 => ?_
  have hb : b62 n = true := b62_ok (by omega) (by omega)
  simp [hb]
  refine loop_bind (c := 5) (c2 := 0) (YI k m (.tup [a, .int ep, c])) ⟨[], _, _, _, rfl, by simp [YearOk]⟩ (fun j x e hj hI => ?_) (fun e' hI => ?_) (by rw [rngD_len]; omega)
  · obtain ⟨ds, s4, s5, s6, rfl, hd, hr⟩ := hI
    have hjn := (rngD_get hj).1
    refine ⟨_, rfl, ?_⟩
    simp [bnd_assoc]
    refine take_bind (c := 4) (by decide) (by decide) fun r1 a0 a1 => ?_
    simp [bnd_assoc]
    refine take_bind (c := 3) (by decide) (by decide) fun r2 b0 b1 => ?_
    have hp : (10 : Int) ^ 6 = 1000000 := by decide
    simp [bnd_assoc, mulD_int (i := 2) (j := ep) (by omega), hp]
    refine take_bind (c := 2) (by omega) (by omega) fun r3 c0 c1 => ?_
    simp [bnd_assoc]
    refine take_bind (c := 1) (by omega) (by omega) fun r4 d0 d1 => ?_
    simp [bnd_assoc]
    refine take_bind (c := 0) (by omega) (by omega) fun r5 e0 e1 => ?_
    have fin : ∀ v : Int, 1 ≤ v → v ≤ 1000000 → ∀ s4 s5 s6, Tk k 0 (ret (Oc.nx [.v (.obj k), .v (.int m), .v (.tup [a, .int ep, c]), .v (.tup (iL ds ++ [.int v])), s4, s5, s6])) (Nxt (YI k m (.tup [a, .int ep, c]) (j + 1))) := fun v v0 v1 s4 s5 s6 => by
      refine Nxt.mk ⟨ds ++ [v], s4, s5, s6, ?_, ?_, ?_⟩
      · rw [yearD, iL_append]
        rfl
      · simp
        exact hd
      · intro x hx
        rcases List.mem_append.mp hx with q | q
        · exact hr x q
        · have : x = v := by simpa using q
          subst this
          exact ⟨v0, v1⟩
    have hl : ds.length + 1 ≤ 100000 := by omega
    have hh : r5 = 0 ∨ r5 = 1 ∨ r5 = 2 ∨ r5 = 3 := by omega
    rcases hh with rfl | rfl | rfl | rfl
    · simp [yearD, hl]
      exact fin _ (by omega) (by omega) _ _ _
    · simp [yearD, hl]
      exact fin _ (by omega) (by omega) _ _ _
    · simp [yearD, hl]
      exact fin _ (by omega) (by omega) _ _ _
    · simp [yearD, hl]
      exact fin _ (by omega) (by omega) _ _ _
  · obtain ⟨ds, s4, s5, s6, rfl, hd, hr⟩ := hI
    simp
    refine Tk.ret ⟨ds, rfl, ?_, hr⟩
    rw [rngD_len] at hd
    omega
end W

/-! comprehensions over whole numbers -/
namespace W
open PySem PySem.Spec PyProof.Rows L2 Z
theorem lc_i {i : Nat} {fe : DE} {e0 : Ev} {q : Int → Int} {ds : List Int} (h : ∀ x ∈ ds, fe (e0.set i (.v (.int x))) = ret (.int (q x))) (hl : ds.length ≤ 100000) : dLcLoop (.nm i) dYes fe e0 (iL ds) [] = ret (iL (ds.map q)) := by
  unfold iL
  rw [lc_map (h := fun d => match d with | .int x => .int (q x) | d => d) (fun d hd => ?_) (by simpa using hl)]
  · rw [List.map_map, List.map_map]
    rfl
  · obtain ⟨x, hx, rfl⟩ := List.mem_map.mp hd
    exact ⟨_, rfl, h x hx⟩
theorem lc_b {i : Nat} {fe : DE} {e0 : Ev} {q : Int → Bool} {ds : List Int} (h : ∀ x ∈ ds, fe (e0.set i (.v (.int x))) = ret (.bl (q x))) (hl : ds.length ≤ 100000) : dLcLoop (.nm i) dYes fe e0 (iL ds) [] = ret (bL (ds.map q)) := by
  unfold iL bL
  rw [lc_map (h := fun d => match d with | .int x => .bl (q x) | d => d) (fun d hd => ?_) (by simpa using hl)]
  · rw [List.map_map, List.map_map]
    rfl
  · obtain ⟨x, hx, rfl⟩ := List.mem_map.mp hd
    exact ⟨_, rfl, h x hx⟩
/-- shares with an excess -/
def sh (e : Int) (ds : List Int) : Int := (ds.map fun d => min d e).sum
def cap (c : Option Int) (s : Int) : Int := match c with
  | none => s
  | some m => min m s
def costP (P : Pol) (ds : List Int) : Int := P.p + cap P.c (sh P.e ds)
@[simp] theorem sh_nil {e : Int} : sh e [] = 0 := rfl
@[simp] theorem sh_cons {e d : Int} {ds : List Int} : sh e (d :: ds) = min d e + sh e ds := by simp [sh]
@[simp] theorem sh_append {e : Int} {ds es : List Int} : sh e (ds ++ es) = sh e ds + sh e es := by simp [sh]
theorem cap_nonneg {P : Pol} (h : P.Ok) {s : Int} (hs : 0 ≤ s) : 0 ≤ cap P.c s := by
  obtain ⟨p, e, c⟩ := P
  cases c with
  | none => exact hs
  | some m =>
    have := (h.c0 m rfl).1
    show 0 ≤ min m s
    omega
theorem cap_le {c : Option Int} {s : Int} : cap c s ≤ s := by
  cases c with
  | none => exact Int.le_refl _
  | some m =>
    show min m s ≤ s
    omega
theorem sh_le {e : Int} : ∀ {ds : List Int}, sh e ds ≤ e * ds.length
  | [] => by simp
  | d :: ds => by
    have h2 := sh_le (e := e) (ds := ds)
    simp only [sh_cons, List.length_cons, Int.natCast_add, Int.mul_add]
    omega
theorem sh_nonneg {e : Int} (h : 0 ≤ e) : ∀ {ds : List Int}, (∀ x ∈ ds, 1 ≤ x ∧ x ≤ 1000000) → 0 ≤ sh e ds
  | [], _ => by simp
  | d :: ds, hd => by
    have h1 := hd d (by simp)
    have h2 := sh_nonneg h (ds := ds) fun x hx => hd x (by simp [hx])
    simp only [sh_cons]
    omega
/-- shares more: no less, and no more than they are -/
theorem cap_step (c : Option Int) {s t : Int} (h : s ≤ t) : cap c s ≤ cap c t ∧ cap c t ≤ cap c s + (t - s) := by
  cases c with
  | none => exact ⟨h, by show t ≤ s + (t - s); omega⟩
  | some m => exact ⟨by show min m s ≤ min m t; omega, by show min m t ≤ min m s + (t - s); omega⟩
theorem sh_mono {e f : Int} (h : e ≤ f) : ∀ {ds : List Int}, sh e ds ≤ sh f ds
  | [] => Int.le_refl _
  | d :: ds => by
    have := sh_mono h (ds := ds)
    rw [sh_cons, sh_cons]
    omega
end W

namespace W
open PySem PySem.Spec PyProof.Rows L2 Z
theorem capped_eq {P : Pol} {s : Int} : df_capped [polD P, .int s] = ret (.int (cap P.c s)) := by
  obtain ⟨p, e, c⟩ := P
  cases c with
  | none => simp [df_capped, body_capped, polD, cap]
  | some m => simp [df_capped, body_capped, polD, cap]
end W

namespace W
open PySem PySem.Spec PyProof.Rows L2 Z
theorem in_range_int {v lo hi : Int} : df_in_range [.int v, .int lo, .int hi] = ret (.bl (decide (lo ≤ v) && decide (v ≤ hi))) := by
  simp [df_in_range, body_in_range]
end W

namespace W
open PySem PySem.Spec PyProof.Rows L2 Z
theorem is_policy_ok {P : Pol} (h : P.Ok) : df_is_policy [polD P] = ret (.bl true) := by
  obtain ⟨p, e, c⟩ := P
  obtain ⟨h1, h2, h3, h4, h5⟩ := h
  simp only at h1 h2 h3 h4
  cases c with
  | none => simp [df_is_policy, body_is_policy, polD, in_range_int, h1, h2, h3, h4]
  | some c =>
    obtain ⟨h6, h7⟩ := h5 c rfl
    simp [df_is_policy, body_is_policy, polD, in_range_int, h1, h2, h3, h4, h6, h7]
end W

namespace W
open PySem PySem.Spec PyProof.Rows L2 Z
theorem check_policy_ok {P : Pol} (h : P.Ok) : df_check_policy [polD P] = ret .non := by
  simp [df_check_policy, body_check_policy, is_policy_ok h]
end W

namespace W
open PySem PySem.Spec PyProof.Rows L2 Z
theorem is_year_ok {ds : List Int} (h : YearOk 40 ds) : df_is_year [yearD ds] = ret (.bl true) := by
  have e : dLcLoop (.nm 1) dYes (dCall df_in_range (dCons (dVar 1) (dCons (dC (.int 1)) (dCons (dC (.int 1000000)) dNil)))) [.v (yearD ds), .no] (iL ds) [] = ret (bL (ds.map fun _ => true)) :=
    lc_b (fun x hx => by
      obtain ⟨h1, h2⟩ := h.2 x hx
      simp [in_range_int, h1, h2]) (by have := h.1; omega)
  have hl : ¬ (40 : Int) < ds.length := by
    have := h.1
    omega
  simp only [yearD] at e
  simp [df_is_year, body_is_year, yearD, hl, e]
  rw [List.all_eq_true.mpr (fun _ _ => rfl)]
end W

namespace W
open PySem PySem.Spec PyProof.Rows L2 Z
theorem check_year_ok {ds : List Int} (h : YearOk 40 ds) : df_check_year [yearD ds] = ret .non := by
  simp [df_check_year, body_check_year, is_year_ok h]
end W

namespace W
open PySem PySem.Spec PyProof.Rows L2 Z
theorem check_number_ok {v lo hi : Int} (h : lo ≤ v) (h' : v ≤ hi) : df_check_number [.int v, .int lo, .int hi] = ret .non := by
  simp [df_check_number, body_check_number, in_range_int, h, h']
end W

namespace W
open PySem PySem.Spec PyProof.Rows L2 Z
theorem shares_of_eq {e : Int} {ds : List Int} (h : ds.length ≤ 100000) : df_shares_of [.int e, yearD ds] = ret (.int (sh e ds)) := by
  have q : dLcLoop (.nm 2) dYes (dB min2 (dCons (dVar 2) (dCons (dVar 0) dNil))) [.v (.int e), .v (yearD ds), .no] (iL ds) [] = ret (iL (ds.map fun d => min d e)) := lc_i (fun x hx => by simp) h
  simp only [yearD] at q
  simp [df_shares_of, body_shares_of, yearD, q, sh]
end W

namespace W
open PySem PySem.Spec PyProof.Rows L2 Z
theorem cost_of_eq {P : Pol} {ds : List Int} (h : ds.length ≤ 100000) : df_cost_of [polD P, yearD ds] = ret (.int (costP P ds)) := by
  have e := capped_eq (P := P) (s := sh P.e ds)
  simp [df_cost_of, body_cost_of, shares_of_eq h, e, costP]
end W

/-! rows of whole numbers -/
namespace W
open PySem PySem.Spec PyProof.Rows L2 Z
theorem eqL_iL {n : Nat} : ∀ {a b : List Int}, eqL (eqN n) (iL a) (iL b) = (a == b)
  | [], [] => rfl
  | [], b :: r => by rw [iL_cons]; rfl
  | a :: r, [] => by rw [iL_cons]; rfl
  | a :: r, b :: t => by
    rw [iL_cons, iL_cons, eqL_cons, eqN_int, eqL_iL (a := r) (b := t)]
    rfl
theorem neD_lst {a b : List Int} {M : MS} : neD (.lst (iL a)) (.lst (iL b)) M = some (.bl (!(a == b))) := by
  rw [neD_eq (by simp) (by simp), eqN_lst, eqL_iL]
theorem eqD_lst {a b : List Int} {M : MS} : eqD (.lst (iL a)) (.lst (iL b)) M = some (.bl (a == b)) := by
  rw [eqD_eq (by simp) (by simp), eqN_lst, eqL_iL]
theorem neD_tup {a b : List Int} {M : MS} : neD (.tup (iL a)) (.tup (iL b)) M = some (.bl (!(a == b))) := by
  rw [neD_eq (by simp) (by simp), eqN_tup, eqL_iL]
theorem eqD_tup {a b : List Int} {M : MS} : eqD (.tup (iL a)) (.tup (iL b)) M = some (.bl (a == b)) := by
  rw [eqD_eq (by simp) (by simp), eqN_tup, eqL_iL]
theorem at_head {x : Int} {L : List Int} : atI (iL (x :: L)) 0 = some (.int x) := by rw [iL_cons, atI_0]
theorem at_last {x : Int} {L : List Int} : atI (iL (L ++ [x])) (-1) = some (.int x) := by
  unfold atI
  have h : ixN (iL (L ++ [x])).length (-1) = some L.length := by
    unfold ixN
    rw [iL_length, List.length_append, List.length_singleton]
    rw [if_neg (by omega)]
    rw [if_pos (by omega)]
    congr 1
    omega
  rw [h, iL_append]
  simp only [Option.bind_some]
  rw [List.getElem?_append_right (by simp), iL_length, Nat.sub_self]
  rfl
theorem sorted_iL {L : List Int} {M : MS} (h : L.Pairwise (· ≤ ·)) (hl : L.length ≤ 100000) : sorted1 [.lst (iL L)] M = some (.lst (iL L)) := by
  have e : sortI L = L := pw_eq (sortI_perm L) (sortI_pw L) h
  unfold sorted1 iL
  simp only [intsOf_ints, Option.bind_some, if_pos hl, e]
theorem sortedT_iL {L : List Int} {M : MS} (h : L.Pairwise (· ≤ ·)) (hl : L.length ≤ 100000) : sortedT1 [.tup (iL L)] M = some (.lst (iL L)) := by
  have e : sortI L = L := pw_eq (sortI_perm L) (sortI_pw L) h
  unfold sortedT1 iL
  simp only [intsOf_ints, Option.bind_some, if_pos hl, e]
theorem sortedI_iL {L : List Int} {M : MS} (hl : L.length ≤ 100000) : sorted1 [.lst (iL L)] M = some (.lst (iL (sortI L))) := by
  unfold sorted1 iL
  simp only [intsOf_ints, Option.bind_some, if_pos hl]
theorem noErr_at {α : Type} {m : Mo α} {M M' : MS} {a : α} (h : m M = some (.ok a, M')) : noErr m M = some (.ok a, M') := by
  unfold noErr
  rw [h]
theorem tk_noErr {α : Type} {k c : Nat} {m : Mo α} {p : α → Prop} (h : Tk k c m p) : Tk k c (noErr m) p := fun n M b => by
  obtain ⟨a, M', e, r⟩ := h n M b
  exact ⟨a, M', noErr_at e, r⟩
/-- comprehensions with draws -/
theorem Tk.lc {k c : Nat} {t : Tg} {fe : DE} {e0 : Ev} {P : D → Prop} : ∀ {items acc : List D}, (∀ x ∈ items, ∃ e1, asg t x e0 = some e1 ∧ Tk k c (fe e1) P) → (∀ y ∈ acc, P y) → acc.length + items.length ≤ 100000 →
    Tk k (c * items.length) (dLcLoop t dYes fe e0 items acc) (fun ys => ys.length = acc.length + items.length ∧ ∀ y ∈ ys, P y)
  | [], acc, _, h, _ => Tk.ret ⟨rfl, h⟩
  | x :: xs, acc, H, h, hl => by
    obtain ⟨e1, h1, h2⟩ := H x (by simp)
    rw [List.length_cons] at hl
    unfold dLcLoop
    rw [h1, lft_some, bnd_ret, show dYes e1 = ret true from rfl, noErr_ret, bnd_ret, if_pos rfl]
    refine (Tk.bind (tk_noErr h2) (c2 := c * xs.length) fun y hy => ?_).mono (by rw [List.length_cons, Nat.mul_succ]; omega) fun ys h => h
    rw [if_pos (by omega)]
    refine (Tk.lc (items := xs) (acc := acc ++ [y]) (fun z hz => H z (by simp [hz])) (fun z hz => ?_) (by simp; omega)).mono (Nat.le_refl _) fun ys hy => ⟨?_, hy.2⟩
    · rcases List.mem_append.mp hz with q | q
      · exact h z q
      · have : z = y := by simpa using q
        exact this ▸ hy
    · rw [hy.1, List.length_append, List.length_singleton, List.length_cons]
      omega
theorem ints_of {lo hi : Int} : ∀ {ys : List D}, (∀ y ∈ ys, IsI lo hi y) → ∃ L : List Int, ys = iL L ∧ ∀ x ∈ L, lo ≤ x ∧ x < hi
  | [], _ => ⟨[], rfl, fun x h => by cases h⟩
  | y :: ys, h => by
    obtain ⟨r, e, r0, r1⟩ := h y (by simp)
    obtain ⟨L, e2, h2⟩ := ints_of (ys := ys) fun z hz => h z (by simp [hz])
    refine ⟨r :: L, by rw [iL_cons, e, e2], fun x hx => ?_⟩
    rcases List.mem_cons.mp hx with q | q
    · rw [q]
      exact ⟨r0, r1⟩
    · exact h2 x q
/-- comprehensions with a test -/
theorem lc_f {i : Nat} {ft : DT} {fe : DE} {e0 : Ev} {p : Int → Bool} {q : Int → Int} {L : List Int} (h : ∀ x ∈ L, ft (e0.set i (.v (.int x))) = ret (p x) ∧ fe (e0.set i (.v (.int x))) = ret (.int (q x))) (hl : L.length ≤ 100000) :
    dLcLoop (.nm i) ft fe e0 (iL L) [] = ret (iL ((L.filter p).map q)) := by
  rw [lc_pure (p := fun d => match d with | .int x => p x | _ => false) (h := fun d => match d with | .int x => .int (q x) | d => d) (fun d hd => ?_) (by simpa using hl)]
  · unfold iL
    rw [List.nil_append, List.filter_map, List.map_map, List.map_map]
    rfl
  · obtain ⟨x, hx, rfl⟩ := List.mem_map.mp hd
    exact ⟨_, rfl, (h x hx).1, fun _ => (h x hx).2⟩
/-- 0, 1, … -/
def rng (n : Nat) : List Int := (List.range n).map fun i : Nat => (i : Int)
theorem rngD_rng {n : Nat} : rngD 0 n = iL (rng n) := by
  unfold rngD rng iL
  rw [List.map_map]
  refine List.map_congr_left fun i _ => ?_
  show D.int (0 + (i : Int)) = D.int i
  rw [Int.zero_add]
theorem rng_succ {n : Nat} : rng (n + 1) = rng n ++ [(n : Int)] := by
  unfold rng
  rw [List.range_succ, List.map_append]
  rfl
theorem rng_len {n : Nat} : (rng n).length = n := by simp [rng]
theorem mem_rng {n : Nat} {x : Int} : x ∈ rng n ↔ 0 ≤ x ∧ x < n := by
  unfold rng
  rw [List.mem_map]
  constructor
  · rintro ⟨i, hi, rfl⟩
    have := List.mem_range.mp hi
    omega
  · intro h
    exact ⟨x.toNat, List.mem_range.mpr (by omega), by omega⟩
theorem rng_get {n i : Nat} (h : i < n) : (rng n)[i]? = some (i : Int) := by simp [rng, h]
theorem rng_pw : ∀ {n : Nat}, (rng n).Pairwise (· < ·)
  | 0 => .nil
  | n + 1 => by
    rw [rng_succ, List.pairwise_append]
    refine ⟨rng_pw, List.pairwise_singleton _ _, fun a ha b hb => ?_⟩
    rw [List.mem_singleton] at hb
    have := (mem_rng.mp ha).2
    omega
end W

/-! all years of so many damages -/
namespace W
open PySem PySem.Spec PyProof.Rows L2 Z
/-- 1, 2, …, m -/
def upto (m : Nat) : List Int := (List.range m).map fun i : Nat => (1 : Int) + (i : Int)
theorem mem_upto {m : Nat} {x : Int} : x ∈ upto m ↔ 1 ≤ x ∧ x ≤ m := by
  unfold upto
  rw [List.mem_map]
  constructor
  · rintro ⟨i, hi, rfl⟩
    have := List.mem_range.mp hi
    omega
  · intro h
    exact ⟨(x - 1).toNat, List.mem_range.mpr (by omega), by omega⟩
theorem upto_len {m : Nat} : (upto m).length = m := by simp [upto]
theorem rngD_upto {m : Nat} : rngD 1 m = iL (upto m) := by
  unfold rngD upto iL
  rw [List.map_map]
  rfl
theorem rng2_ok {g : DA} {e : Ev} {i j : Int} (h : g e = ret [.int i, .int j]) (hi : b62 i = true) (hj : b62 j = true) : dRng2 g e = ret (rngD i (j - i).toNat) := by
  rw [dRng2_eq, h, bnd_ret, int2_int, lft_some, bnd_ret]
  exact if_pos (by rw [hi, hj]; rfl)
theorem rng1_nat {g : DA} {e : Ev} {n : Nat} (hn : n ≤ 100000) (h : g e = ret [.int (n : Int)]) : dRng1 g e = ret (rngD 0 n) := by
  rw [dRng1_eq, h, bnd_ret, int1_int, lft_some, bnd_ret, if_pos (b62_ok (by omega) (by omega)), Int.toNat_natCast]
theorem rng2_upto {g : DA} {e : Ev} {m : Nat} (hm : m ≤ 1000) (h : g e = ret [.int 1, .int ((m : Int) + 1)]) : dRng2 g e = ret (iL (upto m)) := by
  rw [rng2_ok h (b62_ok (by omega) (by omega)) (b62_ok (by omega) (by omega)), ← rngD_upto]
  congr 2
  omega
def yrs (m : Nat) : Nat → List (List Int)
  | 0 => [[]]
  | n + 1 => (yrs m n).flatMap fun r => (upto m).map fun d => r ++ [d]
theorem mem_yrs {m : Nat} : ∀ {n : Nat} {r : List Int}, r ∈ yrs m n ↔ r.length = n ∧ ∀ x ∈ r, 1 ≤ x ∧ x ≤ m
  | 0, r => by
    unfold yrs
    rw [List.mem_singleton]
    constructor
    · rintro rfl
      exact ⟨rfl, fun x h => by cases h⟩
    · rintro ⟨h, _⟩
      exact List.eq_nil_of_length_eq_zero h
  | n + 1, r => by
    unfold yrs
    rw [List.mem_flatMap]
    constructor
    · rintro ⟨q, hq, hr⟩
      obtain ⟨d, hd, rfl⟩ := List.mem_map.mp hr
      obtain ⟨h1, h2⟩ := mem_yrs.mp hq
      refine ⟨by simp [h1], fun x hx => ?_⟩
      rcases List.mem_append.mp hx with z | z
      · exact h2 x z
      · rw [List.mem_singleton.mp z]
        exact mem_upto.mp hd
    · rintro ⟨h1, h2⟩
      have hne : r ≠ [] := fun z => by rw [z] at h1; cases h1
      have e := List.dropLast_concat_getLast hne
      refine ⟨r.dropLast, mem_yrs.mpr ⟨by simp [h1], fun x hx => h2 x ((List.dropLast_sublist r).mem hx)⟩, List.mem_map.mpr ⟨r.getLast hne, mem_upto.mpr (h2 _ (List.getLast_mem hne)), e⟩⟩
theorem yrs_len {m : Nat} : ∀ n : Nat, (yrs m n).length = m ^ n
  | 0 => rfl
  | n + 1 => by
    unfold yrs
    rw [List.length_flatMap]
    have : (fun r : List Int => ((upto m).map fun d => r ++ [d]).length) = fun _ => m := by
      funext r
      simp [upto_len]
    rw [this, List.map_const', List.sum_replicate_nat, yrs_len n, Nat.pow_succ]
/-- rows as data -/
def rL (rows : List (List Int)) : List D := rows.map yearD
@[simp] theorem rL_len {rows : List (List Int)} : (rL rows).length = rows.length := by simp [rL]
theorem rL_cons {r : List Int} {rows : List (List Int)} : rL (r :: rows) = yearD r :: rL rows := rfl
theorem rL_append {a b : List (List Int)} : rL (a ++ b) = rL a ++ rL b := by simp [rL]
theorem okN_rL {n : Nat} {rows : List (List Int)} : (rL rows).all (okN (n + 1)) = true := by
  induction rows with
  | nil => rfl
  | cons r t ih => rw [rL_cons, List.all_cons, ih, yearD, okN_tup, okN_iL]; rfl
/-- comprehensions over rows -/
theorem lc_r {i : Nat} {ft : DT} {fe : DE} {e0 : Ev} {p : List Int → Bool} {q : List Int → D} : ∀ {rows : List (List Int)} {acc : List D}, (∀ r ∈ rows, ft (e0.set i (.v (yearD r))) = ret (p r) ∧ (p r = true → fe (e0.set i (.v (yearD r))) = ret (q r))) → acc.length + rows.length ≤ 100000 →
    dLcLoop (.nm i) ft fe e0 (rL rows) acc = ret (acc ++ (rows.filter p).map q)
  | [], acc, _, _ => by simp [rL, dLcLoop]
  | r :: rows, acc, H, hl => by
    rw [List.length_cons] at hl
    obtain ⟨h2, h3⟩ := H r (by simp)
    have ih := fun acc hl => lc_r (i := i) (ft := ft) (fe := fe) (e0 := e0) (p := p) (q := q) (rows := rows) (acc := acc) (fun y hy => H y (by simp [hy])) hl
    rw [rL_cons]
    unfold dLcLoop
    rw [asg_nm, lft_some, bnd_ret, h2, noErr_ret, bnd_ret]
    by_cases hp : p r = true
    · rw [if_pos hp, h3 hp, noErr_ret, bnd_ret, if_pos (by omega), ih _ (by rw [List.length_append]; simp; omega), List.filter_cons_of_pos hp]
      simp
    · rw [if_neg hp, ih _ (by omega), List.filter_cons_of_neg hp]
end W

/-! cuts of tuples of whole numbers -/
namespace W
open PySem PySem.Spec PyProof.Rows L2 Z
theorem cut_from {xs : List D} {m : Nat} : Z.cutD xs (some (m : Int)) none = xs.drop m := by
  unfold Z.cutD
  rw [HT.sIx_none, HT.sIx_nat]
  apply List.ext_getElem?
  intro i
  rw [List.getElem?_take, List.getElem?_drop, List.getElem?_drop]
  by_cases h : m ≤ xs.length
  · rw [Nat.min_eq_left h]
    split
    · rfl
    · rw [List.getElem?_eq_none (by omega)]
  · rw [Nat.min_eq_right (by omega), if_neg (by omega), List.getElem?_eq_none (by omega)]
theorem sl_to {ds : List Int} {i : Int} {n : Nat} {M : MS} (h : i = n) : slD (.tup (iL ds)) none (some i) M = some (.tup (iL (ds.take n))) := by
  subst h
  show some (D.tup (Z.cutD (iL ds) none (some (n : Int)))) = _
  rw [cut_to, iL, ← List.map_take]
  rfl
theorem sl_from {ds : List Int} {i : Int} {n : Nat} {M : MS} (h : i = n) : slD (.tup (iL ds)) (some i) none M = some (.tup (iL (ds.drop n))) := by
  subst h
  show some (D.tup (Z.cutD (iL ds) (some (n : Int)) none)) = _
  rw [cut_from, iL, ← List.map_drop]
  rfl
theorem at_iL {ds : List Int} {i : Int} {n : Nat} {x : Int} (h : i = n) (hx : ds[n]? = some x) : atI (iL ds) i = some (.int x) := by
  subst h
  refine atI_nat (j := n) ?_
  rw [iL, List.getElem?_map, hx]
  rfl
/-- two neighbours -/
theorem pair_at {ds : List Int} {n : Nat} (h : n + 1 < ds.length) : ∃ A a b B, ds = A ++ a :: b :: B ∧ A.length = n := by
  refine ⟨ds.take n, ds[n], ds[n + 1], ds.drop (n + 2), ?_, by rw [List.length_take]; omega⟩
  rw [← List.drop_eq_getElem_cons, ← List.drop_eq_getElem_cons, List.take_append_drop]
theorem one_at {ds : List Int} {n : Nat} (h : n < ds.length) : ∃ A a B, ds = A ++ a :: B ∧ A.length = n := by
  refine ⟨ds.take n, ds[n], ds.drop (n + 1), ?_, by rw [List.length_take]; omega⟩
  rw [← List.drop_eq_getElem_cons, List.take_append_drop]
theorem ne_empty {ds : List Int} {M : MS} : neD (.tup (iL ds)) (.tup []) M = some (.bl (!ds.isEmpty)) := by
  rw [neD_eq (by simp) (by simp)]
  cases ds <;> simp [iL_cons]
theorem eq_empty {ds : List Int} {M : MS} : eqD (.tup (iL ds)) (.tup []) M = some (.bl ds.isEmpty) := by
  rw [eqD_eq (by simp) (by simp)]
  cases ds <;> simp [iL_cons]
end W

/-! reckoning with what is raised -/
namespace W
open PySem PySem.Spec PyProof.Rows L2 Z
def fails {α : Type} (x : Str) : Mo α := fun M => some (.err x, M)
@[simp] theorem dErr_eq {x : Str} {e : Ev} : dErr x e = fails x := rfl
@[simp] theorem bnd_fails {α β : Type} {x : Str} {f : α → Mo β} : bnd (fails x) f = fails x := rfl
@[simp] theorem dCallK_eq {df : DF} {g gk : DA} {e : Ev} : dCallK df g gk e = bnd (g e) fun xs => bnd (gk e) fun zs => df (xs ++ zs) := rfl
@[simp] theorem dCallD_eq {df : DF} {dvs : List D} {g : DA} {e : Ev} : dCallD df dvs g e = bnd (g e) fun xs => df (xs ++ dvs) := rfl
@[simp] theorem dSortedSet_eq {f : DE} {e : Ev} : dSortedSet f e = bnd (f e) ssetK := rfl
def outK (m : Mo D) : Mo D := fun M => match m M with
  | some (.ok d, M') => some (.ok (.tup [.str "value", d]), M')
  | some (.err c, M') => if ZH.errN.contains c = true then some (.ok (.tup [.str c]), M') else none
  | none => none
@[simp] theorem dOutc_eq {fb : DE} {e : Ev} : dOutc fb e = outK (fb e) := rfl
@[simp] theorem outK_ret {d : D} : outK (ret d) = ret (.tup [.str "value", d]) := rfl
theorem outK_fails {c : Str} (h : ZH.errN.contains c = true) : outK (fails c) = ret (.tup [.str c]) := by
  funext M
  unfold outK fails
  simp only [h, if_true]
  rfl
@[simp] theorem outK_num : outK (fails "InvalidNumber") = ret (.tup [.str "InvalidNumber"]) := outK_fails (by decide)
@[simp] theorem outK_pol : outK (fails "InvalidPolicy") = ret (.tup [.str "InvalidPolicy"]) := outK_fails (by decide)
@[simp] theorem outK_yea : outK (fails "InvalidYear") = ret (.tup [.str "InvalidYear"]) := outK_fails (by decide)
@[simp] theorem outK_dam : outK (fails "InvalidDamage") = ret (.tup [.str "InvalidDamage"]) := outK_fails (by decide)
@[simp] theorem outK_men : outK (fails "InvalidMenu") = ret (.tup [.str "InvalidMenu"]) := outK_fails (by decide)
@[simp] theorem outK_sch : outK (fails "InvalidScheme") = ret (.tup [.str "InvalidScheme"]) := outK_fails (by decide)
@[simp] theorem outK_und : outK (fails "NothingToUndo") = ret (.tup [.str "NothingToUndo"]) := outK_fails (by decide)
end W

namespace W
open PySem PySem.Spec PyProof.Rows L2 Z
/-! ### all years -/
theorem rof_in {m : Nat} {r : List Int} {sp sq s0 s2 s3 s4 : Sl} (hm : m ≤ 100) (hr : r.length ≤ 100) : dLcLoop (.nm 8) dYes (dOp addD (dVar 7) (dTup (dCons (dVar 8) dNil))) [sp, s0, .v (.int m), sq, s2, s3, s4, .v (yearD r), .no] (iL (upto m)) [] = ret (rL ((upto m).map fun d => r ++ [d])) := by
  have q : iL (upto m) = (upto m).map D.int := rfl
  rw [q, lc_map (h := fun d => match d with | .int x => yearD (r ++ [x]) | d => d) (fun d hd => ?_) (by simp [upto_len]; omega)]
  · unfold rL
    rw [List.map_map, List.map_map]
    rfl
  · obtain ⟨x, hx, rfl⟩ := List.mem_map.mp hd
    refine ⟨_, rfl, ?_⟩
    have hl : r.length + 1 ≤ 100000 := by omega
    simp [yearD, iL_append, hl]
    rfl
theorem rof_1 {m : Nat} {r : List Int} {rows : List (List Int)} {sp sq s0 s2 s3 s6 : Sl} (hm : m ≤ 100) (hr : r.length ≤ 100) (hl : rows.length + m ≤ 100000) : lb_rows_of_1 [sp, s0, .v (.int m), sq, s2, s3, .v (.lst (rL rows)), .v (yearD r), s6] =
    ret (.nx [sp, s0, .v (.int m), sq, s2, s3, .v (.lst (rL (rows ++ (upto m).map fun d => r ++ [d]))), .v (yearD r), s6]) := by
  have q := rof_in (sp := sp) (sq := sq) (s0 := s0) (s2 := s2) (s3 := s3) (s4 := .v (.lst (rL rows))) hm hr
  have g := rng2_upto (m := m) (g := dCons (dC (.int 1)) (dCons (dOp addD (dVar 2) (dC (.int 1))) dNil)) (e := [sp, s0, .v (.int m), sq, s2, s3, .v (.lst (rL rows)), .v (yearD r), s6]) (by omega) (by simp)
  simp [lb_rows_of_1, -dRng2_eq, g, q, upto_len, hl, rL_append]
theorem rof_rows {body : DS} {m : Nat} {sp sq s0 s2 s3 s5 s6 : Sl} (rows : List (List Int))
    (hb : ∀ (r : List Int) (acc : List (List Int)) (s6 : Sl), r ∈ rows → acc.length + m ≤ 100000 → body [sp, s0, .v (.int m), sq, s2, s3, .v (.lst (rL acc)), .v (yearD r), s6] = ret (.nx [sp, s0, .v (.int m), sq, s2, s3, .v (.lst (rL (acc ++ (upto m).map fun d => r ++ [d]))), .v (yearD r), s6]))
    (hl : rows.length * m + m ≤ 100000) : ∃ s5' s6', dLoop (.nm 7) body (rL rows) [sp, s0, .v (.int m), sq, s2, s3, .v (.lst (rL [])), s5, s6] = ret (.nx [sp, s0, .v (.int m), sq, s2, s3, .v (.lst (rL (rows.flatMap fun r => (upto m).map fun d => r ++ [d]))), s5', s6']) := by
  obtain ⟨e', h1, s5', s6', h2⟩ := pure_loop0 (i := 7) (body := body) (items := rL rows) (fun j e => ∃ s5 s6, e = [sp, s0, .v (.int m), sq, s2, s3, .v (.lst (rL ((rows.take j).flatMap fun r => (upto m).map fun d => r ++ [d]))), s5, s6]) (e := [sp, s0, .v (.int m), sq, s2, s3, .v (.lst (rL [])), s5, s6]) ⟨s5, s6, rfl⟩ (fun j x e hj hI => by
    obtain ⟨t5, t6, rfl⟩ := hI
    unfold rL at hj
    rw [List.getElem?_map] at hj
    cases er : rows[j]? with
    | none =>
      rw [er] at hj
      cases hj
    | some r =>
      rw [er] at hj
      cases hj
      have hjl : j < rows.length := (List.getElem?_eq_some_iff.mp er).1
      have len : ((rows.take j).flatMap fun r => (upto m).map fun d => r ++ [d]).length = j * m := by
        rw [List.length_flatMap]
        have : (fun r : List Int => ((upto m).map fun d => r ++ [d]).length) = fun _ => m := by
          funext r
          rw [List.length_map, upto_len]
        rw [this, List.map_const', List.sum_replicate_nat, List.length_take, Nat.min_eq_left (by omega)]
      have b := hb r ((rows.take j).flatMap fun r => (upto m).map fun d => r ++ [d]) t6 (List.mem_of_getElem? er) (by
        rw [len]
        have : j * m ≤ rows.length * m := Nat.mul_le_mul_right _ (by omega)
        omega)
      refine ⟨_, b, .v (yearD r), t6, ?_⟩
      rw [List.take_add_one, er, List.flatMap_append]
      simp)
  rw [rL_len, List.take_length] at h2
  rw [h1, h2]
  exact ⟨s5', s6', rfl⟩
theorem rof_turns {body : DS} {m : Nat} {sp sq s0 s3 s4 s5 s6 : Sl} (items : List D)
    (hb : ∀ (i : Nat) (s3 s4 s5 s6 : Sl), i < items.length → ∃ s4' s5' s6', body [sp, s0, .v (.int m), sq, .v (.lst (rL (yrs m i))), s3, s4, s5, s6] = ret (.nx [sp, s0, .v (.int m), sq, .v (.lst (rL (yrs m (i + 1)))), s3, s4', s5', s6'])) :
    ∃ s3' s4' s5' s6', dLoop (.nm 5) body items [sp, s0, .v (.int m), sq, .v (.lst (rL (yrs m 0))), s3, s4, s5, s6] = ret (.nx [sp, s0, .v (.int m), sq, .v (.lst (rL (yrs m items.length))), s3', s4', s5', s6']) := by
  obtain ⟨e', h1, a3, a4, a5, a6, h2⟩ := pure_loop0 (i := 5) (body := body) (items := items) (fun j e => ∃ s3 s4 s5 s6, e = [sp, s0, .v (.int m), sq, .v (.lst (rL (yrs m j))), s3, s4, s5, s6]) (e := [sp, s0, .v (.int m), sq, .v (.lst (rL (yrs m 0))), s3, s4, s5, s6]) ⟨_, _, _, _, rfl⟩ (fun j x e hj hI => by
    obtain ⟨t3, t4, t5, t6, rfl⟩ := hI
    obtain ⟨u4, u5, u6, b⟩ := hb j (.v x) t4 t5 t6 (List.getElem?_eq_some_iff.mp hj).1
    exact ⟨_, b, _, _, _, _, rfl⟩)
  rw [h1, h2]
  exact ⟨a3, a4, a5, a6, rfl⟩
theorem rof_2 {m i : Nat} (hm : m ≤ 6) (hi : i < 5) {sp sq s0 s3 s4 s5 s6 : Sl} : ∃ s4' s5' s6', lb_rows_of_2 [sp, s0, .v (.int m), sq, .v (.lst (rL (yrs m i))), s3, s4, s5, s6] = ret (.nx [sp, s0, .v (.int m), sq, .v (.lst (rL (yrs m (i + 1)))), s3, s4', s5', s6']) := by
  have pw : (yrs m i).length * m ≤ 7776 := by
    rw [yrs_len]
    have h0 : m ^ i * m = m ^ (i + 1) := rfl
    have h1 : m ^ (i + 1) ≤ 6 ^ (i + 1) := Nat.pow_le_pow_left hm _
    have h2 : 6 ^ (i + 1) ≤ 6 ^ 5 := Nat.pow_le_pow_right (by decide) (by omega)
    have h3 : (6 : Nat) ^ 5 = 7776 := by decide
    omega
  obtain ⟨s5', s6', h⟩ := rof_rows (body := lb_rows_of_1) (sp := sp) (sq := sq) (s0 := s0) (s2 := .v (.lst (rL (yrs m i)))) (s3 := s3) (s5 := s5) (s6 := s6) (m := m) (yrs m i) (fun r acc s6 hr hl => rof_1 (by omega) (by have := (mem_yrs.mp hr).1; omega) hl) (by omega)
  refine ⟨.v (.lst (rL (yrs m (i + 1)))), s5', s6', ?_⟩
  have e0 : rL [] = [] := rfl
  have e1 : (yrs m i).flatMap (fun r => (upto m).map fun d => r ++ [d]) = yrs m (i + 1) := rfl
  rw [e0, e1] at h
  revert h
  unfold lb_rows_of_2
  generalize lb_rows_of_1 = B
  intro h
  simp [h]
end W

/-! all years of so many damages, with a cost -/
namespace W
open PySem PySem.Spec PyProof.Rows L2 Z
/-- the asked rows -/
def asked (P : Pol) (n m : Nat) (q : Option Int) : List (List Int) := (yrs m n).filter fun r => match q with
  | none => true
  | some v => costP P r == v
theorem rof_a {sp sq : Sl} {n m : Nat} (hn : n ≤ 5) (hm : m ≤ 6) : ∃ s3' s4' s5' s6', dLoop (.nm 5) lb_rows_of_2 (rngD 0 n) [sp, .v (.int n), .v (.int m), sq, .v (.lst (rL (yrs m 0))), .no, .no, .no, .no] = ret (.nx [sp, .v (.int n), .v (.int m), sq, .v (.lst (rL (yrs m (rngD 0 n).length))), s3', s4', s5', s6']) :=
  rof_turns (body := lb_rows_of_2) (m := m) (s0 := .v (.int n)) (s3 := .no) (s4 := .no) (s5 := .no) (s6 := .no) (rngD 0 n) (fun i s3 s4 s5 s6 hi => rof_2 hm (by rw [rngD_len] at hi; omega))
theorem rof_b {sp sq : Sl} {n : Nat} {x : Sl} (hn : n ≤ 5) : dRng1 (dCons (dVar 1) dNil) [sp, .v (.int n), x, sq, .v (.lst [D.tup []]), .no, .no, .no, .no] = ret (rngD 0 n) :=
  rng1_nat (n := n) (g := dCons (dVar 1) dNil) (by omega) (by simp)
theorem rof_lc {P : Pol} {n m : Nat} {q : Option Int} {s1 s4 s5 s6 s8 : Sl} (hn : n ≤ 5) (hm : m ≤ 5) :
    dLcLoop (.nm 7) (dOrT (dTest (dOp isD (dVar 3) (dC .non))) (dTest (dOp eqD (dCall df_cost_of (dCons (dVar 0) (dCons (dVar 7) dNil))) (dVar 3)))) (dVar 7) [.v (polD P), s1, .v (.int m), .v (optD q), s4, s5, s6, .no, s8] (rL (yrs m n)) [] = ret (rL (asked P n m q)) := by
  have len : (yrs m n).length ≤ 100000 := by
    rw [yrs_len]
    have h1 : m ^ n ≤ 5 ^ n := Nat.pow_le_pow_left hm _
    have h2 : 5 ^ n ≤ 5 ^ 5 := Nat.pow_le_pow_right (by decide) (by omega)
    have h3 : (5 : Nat) ^ 5 = 3125 := by decide
    omega
  rw [lc_r (p := fun r => match q with
  | none => true
  | some v => costP P r == v) (q := yearD) (fun r hr => ?_) (by simpa using len)]
  · rfl
  · have c := cost_of_eq (P := P) (ds := r) (by have := (mem_yrs.mp hr).1; omega)
    cases q with
    | none => simp
    | some v => simp [c]
theorem b62_nat {n : Nat} (h : n ≤ 1000) : b62 (n : Int) = true := b62_ok (by omega) (by omega)
theorem rof_c {C1 C2 : DF} {R : DA} {B : DS} {T : DT} {P : Pol} {n m : Nat} {q : Option Int} {Y Y2 items : List D} {a5 a6 a7 a8 : Sl} (h1 : C1 [polD P] = ret .non) (h2 : C2 [.int n, .int 0, .int 5] = ret .non) (h3 : C2 [.int m, .int 1, .int 5] = ret .non) (h4 : ∀ v, q = some v → C2 [.int v, .int 0, .int 1000000000] = ret .non)
    (g : R [.v (polD P), .v (.int n), .v (.int m), .v (optD q), .v (.lst [D.tup []]), .no, .no, .no, .no] = ret items) (h : dLoop (.nm 5) B items [.v (polD P), .v (.int n), .v (.int m), .v (optD q), .v (.lst [D.tup []]), .no, .no, .no, .no] = ret (.nx [.v (polD P), .v (.int n), .v (.int m), .v (optD q), .v (.lst Y), a5, a6, a7, a8]))
    (lc : ∀ a5 a6 a8, dLcLoop (.nm 7) T (dVar 7) [.v (polD P), .v (.int n), .v (.int m), .v (optD q), .v (.lst Y), a5, a6, .no, a8] Y [] = ret Y2) :
    mkDF 9 (dSeq (dDrop (dCall C1 (dCons (dVar 0) dNil))) (dSeq (dDrop (dCall C2 (dCons (dVar 1) (dCons (dC (.int 0)) (dCons (dC (.int 5)) dNil))))) (dSeq (dDrop (dCall C2 (dCons (dVar 2) (dCons (dC (.int 1)) (dCons (dC (.int 5)) dNil))))) (dSeq (dIfS (dTest (dOp isnD (dVar 3) (dC .non))) (dDrop (dCall C2 (dCons (dVar 3) (dCons (dC (.int 0)) (dCons (dOp powD (dC (.int 10)) (dC (.int 9))) dNil))))) dNil') (dSeq (dSet 4 (dLst (dCons (dTup dNil) dNil))) (dSeq (dFor R (.nm 5) B) (dRet (dLc (dItems (dVar 4)) (.nm 7) T (dVar 7) [7]))))))))
      [polD P, .int n, .int m, optD q] = ret (.lst Y2) := by
  have p9 : (10 : Int) ^ 9 = 1000000000 := by decide
  cases q with
  | none =>
    simp only [optD_none] at g h lc
    simp [h1, h2, h3, g, h, lc]
  | some v =>
    have h4 := h4 v rfl
    simp only [optD_some] at g h lc
    simp [h1, h2, h3, p9, h4, g, h, lc]
theorem rows_of_eq {P : Pol} {n m : Nat} {q : Option Int} (hP : P.Ok) (hn : n ≤ 5) (hm1 : 1 ≤ m) (hm : m ≤ 5) (hq : ∀ v, q = some v → 0 ≤ v ∧ v ≤ 1000000000) : df_rows_of [polD P, .int n, .int m, optD q] = ret (.lst (rL (asked P n m q))) := by
  obtain ⟨s3, s4, s5, s6, h⟩ := rof_a (sp := .v (polD P)) (sq := .v (optD q)) hn (show m ≤ 6 by omega)
  have e : (rngD 0 n).length = n := rngD_len
  rw [e] at h
  exact rof_c (check_policy_ok hP) (check_number_ok (by omega) (by omega)) (check_number_ok (by omega) (by omega)) (fun v hv => check_number_ok (hq v hv).1 (hq v hv).2) (rof_b hn) h (fun a5 a6 a8 => rof_lc hn hm)
end W

/-! schemes of classes -/
namespace W
open PySem PySem.Spec PyProof.Rows L2 Z
structure Sch where
  ps : List Int
  up : Int
def schD (S : Sch) : D := .tup [.tup (iL S.ps), .int S.up]
structure Sch.Ok (S : Sch) : Prop where
  l0 : 1 ≤ S.ps.length
  l1 : S.ps.length ≤ 12
  u0 : 1 ≤ S.up
  u1 : S.up ≤ 5
  pw : S.ps.Pairwise (· ≤ ·)
  rg : ∀ x ∈ S.ps, 0 ≤ x ∧ x ≤ 10000
def IsSch : D → Prop := fun d => ∃ S : Sch, d = schD S ∧ S.Ok
@[simp] theorem sch_ix0 {S : Sch} {M : MS} : ixD (schD S) (.int 0) M = some (.tup (iL S.ps)) := by simp [schD]
@[simp] theorem sch_ix1 {S : Sch} {M : MS} : ixD (schD S) (.int 1) M = some (.int S.up) := by simp [schD]
theorem is_scheme_ok {S : Sch} (h : S.Ok) : df_is_scheme [schD S] = ret (.bl true) := by
  have l0 := h.l0
  have l1 := h.l1
  have e : dLcLoop (.nm 2) dYes (dCall df_in_range (dCons (dVar 2) (dCons (dC (.int 0)) (dCons (dC (.int 10000)) dNil)))) [.v (schD S), .v (.tup (iL S.ps)), .no] (iL S.ps) [] = ret (bL (S.ps.map fun _ => true)) :=
    lc_b (fun x hx => by
      obtain ⟨h1, h2⟩ := h.rg x hx
      simp [in_range_int, h1, h2]) (by omega)
  have q : (S.ps.map fun _ => true).all id = true := List.all_eq_true.mpr fun b hb => by
    obtain ⟨x, _, rfl⟩ := List.mem_map.mp hb
    rfl
  have a1 : (1 : Int) ≤ S.ps.length := by omega
  have a2 : (S.ps.length : Int) ≤ 12 := by omega
  simp only [schD] at e
  simp [df_is_scheme, body_is_scheme, schD, in_range_int, h.u0, h.u1, a1, a2, e, list1, sortedT_iL h.pw (by omega), eqD_lst]
  rw [List.all_eq_true.mpr fun _ _ => rfl]
theorem check_scheme_ok {S : Sch} (h : S.Ok) : df_check_scheme [schD S] = ret .non := by
  simp [df_check_scheme, body_check_scheme, is_scheme_ok h]
/-- the class of the next year -/
def nxt (S : Sch) (l n : Int) : Int := if n = 0 then max 0 (l - 1) else min ((S.ps.length : Int) - 1) (l + n * S.up)
theorem later_eq {S : Sch} (h : S.Ok) {l n : Int} : df_later [schD S, .int l, .int n] = ret (.int (nxt S l n)) := by
  have u0 := h.u0
  have u1 := h.u1
  simp [df_later, body_later, nxt, mulD_int (i := n) (j := S.up) (by omega)]
theorem nxt_range {S : Sch} (h : S.Ok) {l n : Int} (hl : 0 ≤ l ∧ l < S.ps.length) (hn : 0 ≤ n) : 0 ≤ nxt S l n ∧ nxt S l n < S.ps.length := by
  have l0 := h.l0
  have u0 := h.u0
  unfold nxt
  have := Int.mul_nonneg hn (show 0 ≤ S.up by omega)
  split <;> omega
end W

/-! contracts: what they refuse -/
namespace W
open PySem PySem.Spec PyProof.Rows L2 Z
/-- a state -/
def stD (P : Pol) (y b : Int) (s : List Int) : D := .tup [polD P, .int y, .int b, yearD s]
theorem at_lastX {xs : List D} {x : D} : atI (xs ++ [x]) (-1) = some x := by
  unfold atI
  have h : ixN (xs ++ [x]).length (-1) = some xs.length := by
    unfold ixN
    rw [List.length_append, List.length_singleton, if_neg (by omega), if_pos (by omega)]
    congr 1
    omega
  rw [h]
  simp
def conK (x : D) : Mo D := match x with
  | .con i => ret (.obj i)
  | _ => stuck
@[simp] theorem dStates_eq {f : DE} {e : Ev} : dStates f e = bnd (f e) conK := rfl
@[simp] theorem conK_con {i : Nat} : conK (.con i) = ret (.obj i) := rfl
def propK (df : DF) (x : D) : Mo D := match x with
  | .con i => noErr (df [.con i])
  | _ => stuck
@[simp] theorem dProp_eq {df : DF} {f : DE} {e : Ev} : dProp df f e = bnd (f e) (propK df) := rfl
@[simp] theorem propK_con {df : DF} {i : Nat} : propK df (.con i) = noErr (df [.con i]) := rfl
theorem noErr_at0 {α : Type} {m : Mo α} {M M' : MS} {a : α} (h : m M = some (.ok a, M')) : noErr m M = some (.ok a, M') := by
  unfold noErr
  rw [h]
def pushXK (f : DE) (e : Ev) (x : D) : Mo Oc := match x with
  | .obj i => bnd (f e) fun d => pushK e i d
  | _ => stuck
@[simp] theorem dPush_eq {fo f : DE} {e : Ev} : dPush fo f e = bnd (fo e) (pushXK f e) := rfl
@[simp] theorem pushXK_obj {f : DE} {e : Ev} {i : Nat} : pushXK f e (.obj i) = bnd (f e) fun d => pushK e i d := rfl
theorem pushK_at {e : Ev} {i : Nat} {d : D} {M : MS} {xs : List D} (h : M[i]? = some xs) (hl : xs.length < 100000) : pushK e i d M = some (.ok (.nx e), M.set i (xs ++ [d])) := by
  unfold pushK
  rw [h]
  simp only [hl, if_true]
theorem check_damage_ok {d : Int} (h0 : 1 ≤ d) (h1 : d ≤ 1000000) : df_check_damage [.int d] = ret .non := by
  simp [df_check_damage, body_check_damage, in_range_int, h0, h1]
section
variable {M : MS} {i : Nat} {xs : List D} {P : Pol} {y b : Int} {s : List Int}
theorem own_c {F : DF} (hF : ∀ z, F [polD P, .int z] = ret (.int (cap P.c z))) (hs : s.length ≤ 100000) (hM : M[i]? = some (xs ++ [stD P y b s])) :
    mkDF 6 (dSeq (dUnp (.tp [1, 2, 3, 4]) (dOp ixD (dStates (dVar 0)) (dNeg (dC (.int 1))))) (dRet (dCall F (dCons (dVar 1) (dCons (dB sum1 (dCons (dLc (dItems (dVar 4)) (.nm 5) dYes (dB min2 (dCons (dVar 5) (dCons (dOp ixD (dVar 1) (dC (.int 1))) dNil))) [5]) dNil)) dNil))))) [.con i] M = some (.ok (.int (cap P.c (sh P.e s))), M) := by
  have lc := lc_i (i := 5) (fe := dB min2 (dCons (dVar 5) (dCons (dOp ixD (dVar 1) (dC (.int 1))) dNil))) (e0 := [.v (.con i), .v (polD P), .v (.int y), .v (.int b), .v (yearD s), .no]) (ds := s) (q := fun x => min x P.e) (fun x hx => by simp) hs
  have hf := hF (sh P.e s)
  unfold sh at hf
  simp [bnd_assoc, bnd_lft_app, ixD_obj, hM, at_lastX, stD]
  simp only [yearD] at lc ⊢
  simp [bnd_assoc, lc, hf, sh]
  simp [ret_app]
theorem own_at (hs : s.length ≤ 100000) (hM : M[i]? = some (xs ++ [stD P y b s])) : df_C_own [.con i] M = some (.ok (.int (cap P.c (sh P.e s))), M) := own_c (fun z => capped_eq) hs hM
end
def popXK (e : Ev) (x : D) : Mo Oc := match x with
  | .obj i => popK e i
  | _ => stuck
@[simp] theorem dPop_eq {fo : DE} {e : Ev} : dPop fo e = bnd (fo e) (popXK e) := rfl
@[simp] theorem popXK_obj {e : Ev} {i : Nat} : popXK e (.obj i) = popK e i := rfl
theorem len1_obj {i : Nat} {M : MS} {xs : List D} (h : M[i]? = some xs) : len1 [.obj i] M = some (.int xs.length) := by
  show M[i]?.map _ = _
  rw [h]
  rfl
section
variable {M : MS} {i j : Nat} {xs ys : List D} {P Q : Pol} {y b y2 b2 : Int} {s s2 : List Int}
/-! ### what is refused -/
theorem undo_last (hM : M[i]? = some [stD P y b s]) : df_C_undo [.con i] M = some (.err "NothingToUndo", M) := by
  have l := len1_obj hM
  simp [df_C_undo, body_C_undo, bnd_assoc, bnd_lft_app, l]
  rfl
theorem claim_bad_c {F : DF} {B : DS} {d : D} (h1 : ∀ s0 s1 s2 s3 s4 s5 s7, B [s0, s1, s2, s3, s4, s5, .v (.int 1), s7] = ret (.nx [s0, s1, s2, s3, s4, s5, .v (.int 1), s7])) (h2 : ∀ s0 s1 s2 s3 s4 s5 s7, B [s0, s1, s2, s3, s4, s5, .v d, s7] = fails "InvalidDamage") (hM : M[i]? = some (xs ++ [stD P y b s])) :
    mkDF 8 (dSeq (dUnp (.tp [2, 3, 4, 5]) (dOp ixD (dStates (dVar 0)) (dNeg (dC (.int 1))))) (dSeq (dFor (dItems (dVar 1)) (.nm 6) B) (dSeq (dSet 7 (dProp F (dVar 0))) (dSeq (dPush (dStates (dVar 0)) (dTup (dCons (dVar 2) (dCons (dVar 3) (dCons (dVar 4) (dCons (dOp addD (dVar 5) (dVar 1)) dNil)))))) (dRet (dOp subD (dProp F (dVar 0)) (dVar 7))))))) [.con i, .tup [.int 1, d]] M = some (.err "InvalidDamage", M) := by
  simp [bnd_assoc, bnd_lft_app, ixD_obj, hM, at_lastX, stD, -seqK_nx]
  rw [seqK_nx]
  simp [bnd_assoc, dLoop_cons, h1, h2]
  rfl
theorem claim_bad {d : D} (hd : df_check_damage [d] = fails "InvalidDamage") (hM : M[i]? = some (xs ++ [stD P y b s])) : df_C_claim [.con i, .tup [.int 1, d]] M = some (.err "InvalidDamage", M) :=
  claim_bad_c (fun s0 s1 s2 s3 s4 s5 s7 => by simp [lb_C_claim_1, check_damage_ok (d := 1) (by decide) (by decide)]) (fun s0 s1 s2 s3 s4 s5 s7 => by simp [lb_C_claim_1, hd]) hM
theorem renew_bad {d : D} (hd : df_check_policy [d] = fails "InvalidPolicy") (hn : isNone d = false) (hM : M[i]? = some (xs ++ [stD P y b s])) : df_C_renew [.con i, d] M = some (.err "InvalidPolicy", M) := by
  simp [df_C_renew, body_C_renew, bnd_assoc, bnd_lft_app, ixD_obj, hM, at_lastX, stD, -seqK_nx]
  rw [seqK_nx]
  simp [bnd_assoc, hd, hn]
  rfl
/-- a new contract -/
theorem init_at (hP : P.Ok) : I_init [polD P] M = some (.ok [stD P 0 0 []], M) := by
  have h := check_policy_ok hP
  simp [I_init, mkI, h]
  rfl
end
end W

/-! runs with draws that change other objects too: the bags stand below L -/
namespace W
open PySem PySem.Spec PyProof.Rows L2 Z
def OthB (L k : Nat) (M M' : MS) : Prop := M.length ≤ M'.length ∧ ∀ j, j ≠ k → j < L → M'[j]? = M[j]?
theorem OthB.refl (L k : Nat) (M : MS) : OthB L k M M := ⟨Nat.le_refl _, fun _ _ _ => rfl⟩
theorem OthB.trans {L k : Nat} {M M1 M2 : MS} (a : OthB L k M M1) (b : OthB L k M1 M2) : OthB L k M M2 := ⟨Nat.le_trans a.1 b.1, fun j h h' => (b.2 j h h').trans (a.2 j h h')⟩
def TkB {α : Type} (L k c : Nat) (m : Mo α) (M : MS) (post : α → MS → Prop) : Prop := ∀ n, BagAt M k (n + c) → ∃ a M', m M = some (.ok a, M') ∧ BagAt M' k n ∧ OthB L k M M' ∧ post a M'
section
variable {α β : Type} {L k c c1 c2 : Nat} {M M1 : MS}
theorem TkB.bind {m : Mo α} {f : α → Mo β} {p : α → MS → Prop} {post : β → MS → Prop} (h1 : TkB L k c1 m M p) (h2 : ∀ a M1, OthB L k M M1 → p a M1 → TkB L k c2 (f a) M1 post) : TkB L k (c1 + c2) (bnd m f) M post := fun n b => by
  obtain ⟨a, M1, e1, b1, o1, pa⟩ := h1 (n + c2) (b.mono (by omega))
  obtain ⟨z, M2, e2, b2, o2, pz⟩ := h2 a M1 o1 pa n b1
  exact ⟨z, M2, by rw [bnd_at e1]; exact e2, b2, o1.trans o2, pz⟩
theorem TkB.mono {m : Mo α} {p post : α → MS → Prop} (h : TkB L k c1 m M p) (hc : c1 ≤ c) (hp : ∀ a M1, OthB L k M M1 → p a M1 → post a M1) : TkB L k c m M post := fun n b => by
  obtain ⟨a, M1, e1, b1, o1, pa⟩ := h (n + (c - c1)) (b.mono (by omega))
  exact ⟨a, M1, e1, b1.mono (by omega), o1, hp a M1 o1 pa⟩
theorem TkB.ret {a : α} {post : α → MS → Prop} (h : post a M) : TkB L k c (Z.ret a) M post := fun n b => ⟨a, M, rfl, b.mono (by omega), OthB.refl _ _ _, h⟩
theorem oth_len {n : Nat} (b : BagAt M1 k n) (o : Oth k M M1) : M.length ≤ M1.length := by
  rcases Nat.lt_or_ge M1.length M.length with q | q
  · exfalso
    have hk := BagAt.lt b
    have hj : M.length - 1 ≠ k := by omega
    have := o (M.length - 1) hj
    rw [List.getElem?_eq_none (by omega), List.getElem?_eq_getElem (by omega)] at this
    cases this
  · exact q
/-- draws alone -/
theorem TkB.of {m : Mo α} {p : α → Prop} (h : Tk k c m p) : TkB L k c m M (fun a M1 => p a ∧ Oth k M M1) := fun n b => by
  obtain ⟨a, M1, e1, b1, o1, pa⟩ := h n M b
  exact ⟨a, M1, e1, b1, ⟨oth_len b1 o1, fun j hj _ => o1 j hj⟩, pa, o1⟩
/-- a step without draws -/
theorem TkB.eq {m : Mo α} {a : α} {post : α → MS → Prop} (h : m M = some (.ok a, M1)) (hk : M1[k]? = M[k]?) (o : OthB L k M M1) (hp : post a M1) : TkB L k c m M post := fun n b => by
  obtain ⟨x, y, z, e, r⟩ := b.mono (m := n) (by omega)
  exact ⟨a, M1, h, ⟨x, y, z, hk.trans e, r⟩, o, hp⟩
theorem TkB.take {many : Int} {f : D → Mo β} {post : β → MS → Prop} (h0 : 0 < many) (h1 : many < 1073741824) (h : ∀ (r : Int) M1, 0 ≤ r → r < many → Oth k M M1 → M.length ≤ M1.length → TkB L k c (f (.int r)) M1 post) : TkB L k (c + 1) (bnd (df__law_take [.obj k, .int many]) f) M post :=
  ((TkB.of (take_ok h0 h1)).bind (c2 := c) fun a M1 o ⟨⟨r, e, r0, r1⟩, ot⟩ => by
    rw [e]
    exact h r M1 r0 r1 ot o.1).mono (by omega) fun _ _ _ h => h
theorem oth_set {i : Nat} {ys : List D} (hi : L ≤ i) : OthB L k M (M.set i ys) := ⟨by simp, fun j _ hj => List.getElem?_set_ne (by omega)⟩
theorem oth_app {ys : List D} (hL : L ≤ M.length) : OthB L k M (M ++ [ys]) := ⟨by simp, fun j _ hj => List.getElem?_append_left (by omega)⟩
/-- a loop of draws -/
theorem TkB.loop {t : Tg} {body : DS} (I : Nat → Ev → MS → Prop) : ∀ {items : List D} (i : Nat) (e : Ev) (M : MS), I i e M →
    (∀ j x e M, items[j]? = some x → I (i + j) e M → ∃ e1, asg t x e = some e1 ∧ TkB L k c (body e1) M (fun o M1 => ∃ e', (o = .nx e' ∨ o = .ct e') ∧ I (i + j + 1) e' M1)) →
    TkB L k (c * items.length) (dLoop t body items e) M (fun o M1 => ∃ e', o = .nx e' ∧ I (i + items.length) e' M1)
  | [], i, e, M, h0, _ => TkB.ret ⟨e, rfl, h0⟩
  | x :: xs, i, e, M, h0, h => by
    obtain ⟨e1, h1, h2⟩ := h 0 x e M rfl h0
    rw [dLoop_cons, h1, lft_some, bnd_ret]
    refine (h2.bind (c2 := c * xs.length) fun o M1 _ ho => ?_).mono (by rw [List.length_cons, Nat.mul_succ]; omega) fun _ _ _ h => h
    obtain ⟨e', ho, hi⟩ := ho
    have ih := TkB.loop I (items := xs) (i + 1) e' M1 hi (fun j y e M hj hI => by
      have z := h (j + 1) y e M (by simpa using hj) (by rw [show i + (j + 1) = i + 1 + j by omega]; exact hI)
      rw [show i + (j + 1) + 1 = i + 1 + j + 1 by omega] at z
      exact z)
    rw [List.length_cons, show i + (xs.length + 1) = i + 1 + xs.length by omega]
    rcases ho with rfl | rfl <;> exact ih
end
theorem bags_runB {c i L : Nat} {body : DS} {I : Ev → Prop} (hc : c ≤ 1000000000000) (hb : ∀ k e M, k < L → L ≤ M.length → I e → TkB L k c (body (e.set i (.v (.obj k)))) M (fun o _ => Nxt I o)) : ∀ (n k : Nat) (M : MS) (e : Ev), k + n = L → L ≤ M.length → I e → (∀ j, k ≤ j → j < L → BagAt M j 1000000000000) →
    ∃ e' M', dLoop (.nm i) body ((List.range' k n).map .obj) e M = some (.ok (.nx e'), M') ∧ I e'
  | 0, k, M, e, _, _, h, _ => ⟨e, M, rfl, h⟩
  | n + 1, k, M, e, hn, hL, h, hB => by
    obtain ⟨o, M1, h1, b1, o1, e1, ho, hI⟩ := hb k e M (by omega) hL h (1000000000000 - c) ((hB k (by omega) (by omega)).mono (by omega))
    obtain ⟨e', M', h2, hI'⟩ := bags_runB hc hb n (k + 1) M1 e1 (by omega) (Nat.le_trans hL o1.1) hI fun j j0 j1 => by
      obtain ⟨x, y, z, q, w⟩ := hB j (by omega) j1
      exact ⟨x, y, z, by rw [o1.2 j (by omega) j1]; exact q, w⟩
    refine ⟨e', M', ?_, hI'⟩
    rw [List.range'_succ, List.map_cons, dLoop_cons, asg_nm, lft_some, bnd_ret, bnd_at h1]
    rcases ho with rfl | rfl <;> exact h2
theorem law_shellB {c n i m : Nat} {lb tail : DS} {I : Ev → Prop} {ns : List Int} (hm : m ≤ 90) (hc : c ≤ 1000000000000) (h0 : I (.v (.scr ns) :: List.replicate (n - 1) .no)) (hb : ∀ L k e M, k < L → L ≤ M.length → I e → TkB L k c (lb (e.set i (.v (.obj k)))) M (fun o _ => Nxt I o))
    (ht : ∀ e M, I e → ∃ M', tail e M = some (.ok (.rt (.bl true)), M')) : ∃ M', mkDF n (dSeq (dFor (dItems (dCall df__law_bags (dCons (dVar 0) (dCons (dC (.int (m : Int))) dNil)))) (.nm i) lb) tail) [.scr ns] [] = some (.ok (.bl true), M') := by
  obtain ⟨L, M1, hB, hB2, hL⟩ := bags_ok (ns := ns) hm
  obtain ⟨e', M2, h2, hI⟩ := bags_runB hc (hb L) L 0 M1 _ (Nat.zero_add _) (by omega) h0 fun j _ hj => hB2 j hj
  obtain ⟨M3, h3⟩ := ht e' M2 hI
  refine ⟨M3, ?_⟩
  rw [← List.range_eq_range'] at h2
  simp only [mkDF_eq, dSeq_eq, dFor_eq, dItems_eq, dCall_eq, dCons_eq, dVar_eq, dC_eq, dNil_eq, List.map_cons, List.map_nil, List.cons_append, List.nil_append, List.getElem?_cons_zero, varK_v, bnd_ret, bnd_assoc, List.length_cons, List.length_nil]
  rw [bnd_at hB, itemsK_lst, bnd_ret, bnd_at h2, seqK_nx, bnd_at h3]
  rfl
end W

/-! what is refused -/
namespace W
open PySem PySem.Spec PyProof.Rows L2 Z
/-- no whole number from 0 to 10 ** 15 -/
def Bad (d : D) : Prop := ∀ lo hi : Int, 0 ≤ lo → hi ≤ 1000000000000000 → df_in_range [d, .int lo, .int hi] = ret (.bl false)
theorem bad_non : Bad .non := fun lo hi _ _ => by simp [df_in_range, body_in_range]
theorem bad_bl {b : Bool} : Bad (.bl b) := fun lo hi _ _ => by simp [df_in_range, body_in_range]
theorem bad_str {s : Str} : Bad (.str s) := fun lo hi _ _ => by simp [df_in_range, body_in_range]
theorem bad_int {i : Int} (h : i < 0 ∨ 1000000000000000 < i) : Bad (.int i) := fun lo hi h1 h2 => by
  rw [in_range_int]
  rcases h with h | h
  · rw [decide_eq_false (by omega : ¬ lo ≤ i), Bool.false_and]
  · rw [decide_eq_false (by omega : ¬ i ≤ hi), Bool.and_false]
theorem num_bad {d : D} {lo hi : Int} (h : df_in_range [d, .int lo, .int hi] = ret (.bl false)) : df_check_number [d, .int lo, .int hi] = fails "InvalidNumber" := by simp [df_check_number, body_check_number, h]
theorem num_bad_int {i lo hi : Int} (h : i < lo ∨ hi < i) : df_check_number [.int i, .int lo, .int hi] = fails "InvalidNumber" := num_bad (by
  rw [in_range_int]
  rcases h with h | h
  · rw [decide_eq_false (by omega : ¬ lo ≤ i), Bool.false_and]
  · rw [decide_eq_false (by omega : ¬ i ≤ hi), Bool.and_false])
theorem dmg_ok {d : Int} (h1 : 1 ≤ d) (h2 : d ≤ 1000000) : df_check_damage [.int d] = ret .non := by simp [df_check_damage, body_check_damage, in_range_int, h1, h2]
/-- far_cost with one row, the checks abstract -/
theorem far_row {P : Pol} (hP : P.Ok) {x y : D} {w : Str} (h : lb_far_cost_1 [.v (polD P), .v (.tup [.tup [x, y]]), .v (.bl true), .no, .v x, .v y] = fails w) : df_far_cost [polD P, .tup [.tup [x, y]]] = fails w := by
  have cp := check_policy_ok hP
  rw [df_far_cost, body_far_cost]
  generalize lb_far_cost_1 = B at h ⊢
  generalize df_check_policy = C at cp ⊢
  have lc : ∀ s2 : Sl, dLcLoop (.nm 3) dYes (dAnd (dIs .tuple (dVar 3)) (dOp eqD (dB len1 (dCons (dVar 3) dNil)) (dC (.int 2)))) [.v (polD P), .v (.tup [.tup [x, y]]), s2, .no, .no, .no] [.tup [x, y]] [] = ret (bL [true]) := fun s2 => by
    rw [lc_map (h := fun _ => .bl true) (fun d hd => ?_) (by simp)]
    · rfl
    · have e : d = .tup [x, y] := by simpa using hd
      subst e
      exact ⟨_, rfl, by simp⟩
  simp [cp, lc, dLoop_cons, h]
section
variable {d : D} (hb : Bad d)
include hb
theorem sh_bad1 {x y : D} {m : Int} : df_check_shares [d, x, y, .int m] = fails "InvalidNumber" := by
  have h := num_bad (hb 1 1000 (by decide) (by decide))
  simp [df_check_shares, body_check_shares, h]
theorem sh_bad2 {y : D} {m : Int} : df_check_shares [.int 1, d, y, .int m] = fails "InvalidNumber" := by
  have h := num_bad (hb 0 1000 (by decide) (by decide))
  simp [df_check_shares, body_check_shares, h, check_number_ok (v := 1) (lo := 1) (hi := 1000) (by decide) (by decide)]
theorem sh_bad3 {m : Int} (hm : m ≤ 1000000000000000) : df_check_shares [.int 1, .int 0, d, .int m] = fails "InvalidNumber" := by
  have h := num_bad (hb 0 m (by decide) hm)
  simp [df_check_shares, body_check_shares, h, check_number_ok (v := 1) (lo := 1) (hi := 1000) (by decide) (by decide), check_number_ok (v := 0) (lo := 0) (hi := 1000) (by decide) (by decide)]
theorem least1 {x y : D} : df_least_shares [d, x, y] = fails "InvalidNumber" := by simp [df_least_shares, body_least_shares, sh_bad1 hb]
theorem least2 {y : D} : df_least_shares [.int 1, d, y] = fails "InvalidNumber" := by simp [df_least_shares, body_least_shares, sh_bad2 hb]
theorem least3 : df_least_shares [.int 1, .int 0, d] = fails "InvalidNumber" := by simp [df_least_shares, body_least_shares, sh_bad3 hb (m := 1000000000000000) (by decide)]
theorem most1 {x y : D} : df_most_shares [d, x, y] = fails "InvalidNumber" := by simp [df_most_shares, body_most_shares, sh_bad1 hb]
theorem most2 {y : D} : df_most_shares [.int 1, d, y] = fails "InvalidNumber" := by simp [df_most_shares, body_most_shares, sh_bad2 hb]
theorem most3 : df_most_shares [.int 1, .int 0, d] = fails "InvalidNumber" := by simp [df_most_shares, body_most_shares, sh_bad3 hb (m := 1000000000000000) (by decide)]
theorem with1 {x y : D} : df_year_with [d, x, y] = fails "InvalidNumber" := by
  have h := num_bad (hb 1 1000 (by decide) (by decide))
  simp [df_year_with, body_year_with, h]
theorem with2 {y : D} : df_year_with [.int 1, d, y] = fails "InvalidNumber" := by
  simp [df_year_with, body_year_with, check_number_ok (v := 1) (lo := 1) (hi := 1000) (by decide) (by decide), mulD_int (i := 40) (j := 1) (by decide), sh_bad2 hb]
theorem with3 : df_year_with [.int 1, .int 0, d] = fails "InvalidNumber" := by
  simp [df_year_with, body_year_with, check_number_ok (v := 1) (lo := 1) (hi := 1000) (by decide) (by decide), mulD_int (i := 40) (j := 1) (by decide), sh_bad3 hb (m := 40) (by decide)]
variable {P : Pol} (hP : P.Ok) {ds : List Int} (hd : YearOk 40 ds)
include hP
theorem shares_bad : df_shares_for [polD P, d] = fails "InvalidNumber" := by
  have h := num_bad (hb 0 1000000000 (by decide) (by decide))
  simp [df_shares_for, body_shares_for, h, check_policy_ok hP]
theorem rows1 {x p : D} : df_rows_of [polD P, d, x, p] = fails "InvalidNumber" := by
  have h := num_bad (hb 0 5 (by decide) (by decide))
  simp [df_rows_of, body_rows_of, h, check_policy_ok hP]
theorem rows2 {p : D} : df_rows_of [polD P, .int 1, d, p] = fails "InvalidNumber" := by
  have h := num_bad (hb 1 5 (by decide) (by decide))
  simp [df_rows_of, body_rows_of, h, check_policy_ok hP, check_number_ok (v := 1) (lo := 0) (hi := 5) (by decide) (by decide)]
theorem rows3 (hn : isNone d = false) : df_rows_of [polD P, .int 1, .int 1, d] = fails "InvalidNumber" := by
  have h := num_bad (hb 0 1000000000 (by decide) (by decide))
  have p9 : (10 : Int) ^ 9 = 1000000000 := by decide
  simp [df_rows_of, body_rows_of, h, p9, hn, check_policy_ok hP, check_number_ok (v := 1) (lo := 0) (hi := 5) (by decide) (by decide), check_number_ok (v := 1) (lo := 1) (hi := 5) (by decide) (by decide)]
theorem count1 {x p : D} : df_count_years [polD P, d, x, p] = fails "InvalidNumber" := by simp [df_count_years, body_count_years, rows1 hb hP]
theorem count2 {p : D} : df_count_years [polD P, .int 1, d, p] = fails "InvalidNumber" := by simp [df_count_years, body_count_years, rows2 hb hP]
theorem count3 (hn : isNone d = false) : df_count_years [polD P, .int 1, .int 1, d] = fails "InvalidNumber" := by simp [df_count_years, body_count_years, rows3 hb hP hn]
theorem at1 {x y p : D} : df_year_at [polD P, d, x, y, p] = fails "InvalidNumber" := by simp [df_year_at, body_year_at, rows1 hb hP]
theorem at2 {y p : D} : df_year_at [polD P, .int 1, d, y, p] = fails "InvalidNumber" := by simp [df_year_at, body_year_at, rows2 hb hP]
theorem at3 : df_year_at [polD P, .int 1, .int 1, d, .non] = fails "InvalidNumber" := by
  have h := rows_of_eq (P := P) (n := 1) (m := 1) (q := none) hP (by decide) (by decide) (by decide) (fun v z => by cases z)
  have hi := hb 0 0 (by decide) (by decide)
  have e : asked P 1 1 none = [[1]] := rfl
  rw [e] at h
  have h2 : df_rows_of [polD P, .int 1, .int 1, .non] = ret (.lst [.tup [.int 1]]) := h
  simp [df_year_at, body_year_at, h2, hi]
theorem far_n {d1 : Int} (h1 : 1 ≤ d1) (h2 : d1 ≤ 1000000) : df_far_cost [polD P, .tup [.tup [.int d1, d]]] = fails "InvalidNumber" := by
  have h := num_bad (hb 0 1000000000000 (by decide) (by decide))
  have p12 : (10 : Int) ^ 12 = 1000000000000 := by decide
  exact far_row hP (by simp [lb_far_cost_1, dmg_ok h1 h2, p12, h])
include hd
theorem hidden_bad : df_hidden_damages [polD P, yearD ds, d] = fails "InvalidNumber" := by
  have h := num_bad (hb 0 1000000000 (by decide) (by decide))
  simp [df_hidden_damages, body_hidden_damages, h, check_policy_ok hP, check_year_ok hd]
end
theorem excess_bad {d : D} (hb : Bad d) {ds : List Int} (hd : YearOk 40 ds) : df_excesses_for [.int 1, .non, yearD ds, d] = fails "InvalidNumber" := by
  have h := num_bad (hb 0 1000000000 (by decide) (by decide))
  have ip : df_is_policy [.tup [.int 1, .int 0, .non]] = ret (.bl true) := is_policy_ok (P := ⟨1, 0, none⟩) ⟨by decide, by decide, by decide, by decide, fun c z => by cases z⟩
  simp [df_excesses_for, body_excesses_for, h, check_year_ok hd, ip]
end W

/-! lists of lambdas: all of them fail -/
namespace W
open PySem PySem.Spec PyProof.Rows L2 Z
@[simp] theorem dCallG_eq {df : DF} {gD : List D → List D → List D} {g gk : DA} {e : Ev} : dCallG df gD g gk e = bnd (g e) fun xs => bnd (gk e) fun zs => df (gD xs zs) := rfl
theorem allR_f {wd : Str} (hw : ZH.errN.contains wd = true) {e : Ev} : ∀ {fbs : List DE}, (∀ fb ∈ fbs, fb e = fails wd) → ∀ M, allR wd e fbs M = some M
  | [], _, M => rfl
  | fb :: fbs, h, M => by
    unfold allR
    rw [h fb (by simp)]
    show (if wd = wd ∧ ZH.errN.contains wd = true then allR wd e fbs M else none) = some M
    rw [if_pos ⟨rfl, hw⟩]
    exact allR_f hw (fun x hx => h x (by simp [hx])) M
theorem lAll_f {wd : Str} (hw : ZH.errN.contains wd = true) {e : Ev} {fbs add : List DE} {f : DS} (h : ∀ fb ∈ fbs ++ add, fb e = fails wd) : lAll wd add f e fbs = f e := by
  funext M
  unfold lAll
  rw [allR_f hw h M]
theorem lAll0_f {wd : Str} (hw : ZH.errN.contains wd = true) {e : Ev} {add : List DE} {f : DS} (h : ∀ fb ∈ add, fb e = fails wd) : lAll0 wd add f e = f e := by
  funext M
  unfold lAll0
  rw [allR_f hw h M]
theorem lBegin_eq {i : Nat} {add : List DE} {f : LF} {e : Ev} (h : i < e.length) : lBegin i add f e = f (e.set i .no) add := by
  unfold lBegin
  rw [if_pos h]
theorem lCat_eq {add fbs : List DE} {f : LF} {e : Ev} (h : fbs.length + add.length ≤ 1000) : lCat add f e fbs = f e (fbs ++ add) := by
  unfold lCat
  rw [if_pos (by rw [List.length_append]; exact h)]
theorem lIf_eq {ft : DT} {add fbs : List DE} {f : LF} {e : Ev} {c : Bool} (h : ft e = ret c) (hl : fbs.length + add.length ≤ 1000) : lIf ft add f e fbs = if c = true then f e (fbs ++ add) else f e fbs := by
  unfold lIf
  rw [h, bnd_ret]
  cases c with
  | true => rw [if_pos rfl, if_pos rfl, lCat_eq hl]
  | false => rfl
theorem cons_f {wd : Str} {e : Ev} {fb : DE} {fbs : List DE} (h : fb e = fails wd) (t : ∀ x ∈ fbs, x e = fails wd) : ∀ x ∈ fb :: fbs, x e = fails wd := fun x hx => (List.mem_cons.mp hx).elim (fun q => by rw [q]; exact h) (t x)
theorem nil_f {wd : Str} {e : Ev} : ∀ x ∈ ([] : List DE), x e = fails wd := fun x hx => by cases hx
/-! ### the numbers -/
theorem nums_1 {P : Pol} (hP : P.Ok) {ds : List Int} (hd : YearOk 40 ds) {d : D} (hb : Bad d) {s3 : Sl} : lb__law_numbers_right_1 [.v (polD P), .v (yearD ds), .v d, s3] = ret (.nx [.v (polD P), .v (yearD ds), .v d, .no]) := by
  have a1 := fun x y => least1 hb (x := x) (y := y)
  have a2 := fun y => least2 hb (y := y)
  have a3 := least3 hb
  have b1 := fun x y => most1 hb (x := x) (y := y)
  have b2 := fun y => most2 hb (y := y)
  have b3 := most3 hb
  have c1 := fun x y => with1 hb (x := x) (y := y)
  have c2 := fun y => with2 hb (y := y)
  have c3 := with3 hb
  have d1 := shares_bad hb hP
  have d2 := hidden_bad hb hP hd
  have d3 := excess_bad hb hd
  have e1 := fun x p => count1 hb hP (x := x) (p := p)
  have e2 := fun p => count2 hb hP (p := p)
  have e3 := count3 hb hP
  have f1 := fun x y p => at1 hb hP (x := x) (y := y) (p := p)
  have f2 := fun y p => at2 hb hP (y := y) (p := p)
  have f3 := at3 hb hP
  have g1 := far_n hb hP (d1 := 1) (by decide) (by decide)
  unfold lb__law_numbers_right_1
  generalize df_least_shares = F1 at a1 a2 a3 ⊢
  generalize df_most_shares = F2 at b1 b2 b3 ⊢
  generalize df_year_with = F3 at c1 c2 c3 ⊢
  generalize df_shares_for = F4 at d1 ⊢
  generalize df_hidden_damages = F5 at d2 ⊢
  generalize df_excesses_for = F6 at d3 ⊢
  generalize df_count_years = F7 at e1 e2 e3 ⊢
  generalize df_year_at = F8 at f1 f2 f3 ⊢
  generalize df_far_cost = F9 at g1 ⊢
  rw [lBegin_eq (by simp)]
  show (lCat _ _) [.v (polD P), .v (yearD ds), .v d, .no] _ = _
  rw [lCat_eq (by simp), lCat_eq (by simp), lCat_eq (by simp), lCat_eq (by simp), lCat_eq (by simp), lCat_eq (by simp), lCat_eq (by simp)]
  have t : (dTest (dOp isnD (dVar 2) (dC .non))) [.v (polD P), .v (yearD ds), .v d, .no] = ret (!isNone d) := by simp
  rw [lIf_eq t (by simp)]
  cases hn : isNone d with
  | true =>
    rw [if_neg (by simp), lAll_f (by decide)]
    · rfl
    · simp only [List.cons_append, List.nil_append, List.append_nil]
      refine cons_f ?_ (cons_f ?_ (cons_f ?_ (cons_f ?_ (cons_f ?_ (cons_f ?_ (cons_f ?_ (cons_f ?_ (cons_f ?_ (cons_f ?_ (cons_f ?_ (cons_f ?_ (cons_f ?_ (cons_f ?_ (cons_f ?_ (cons_f ?_ (cons_f ?_ (cons_f ?_ nil_f)))))))))))))))))
      all_goals simp [a1, a2, a3, b1, b2, b3, c1, c2, c3, d1, d2, d3, e1, e2, f1, f2, f3, g1]
  | false =>
    rw [if_pos (by simp), lAll_f (by decide)]
    · rfl
    · simp only [List.cons_append, List.nil_append, List.append_nil]
      refine cons_f ?_ (cons_f ?_ (cons_f ?_ (cons_f ?_ (cons_f ?_ (cons_f ?_ (cons_f ?_ (cons_f ?_ (cons_f ?_ (cons_f ?_ (cons_f ?_ (cons_f ?_ (cons_f ?_ (cons_f ?_ (cons_f ?_ (cons_f ?_ (cons_f ?_ (cons_f ?_ (cons_f ?_ nil_f))))))))))))))))))
      all_goals simp [a1, a2, a3, b1, b2, b3, c1, c2, c3, d1, d2, d3, e1, e2, e3, f1, f2, f3, g1, hn]
end W

/-! schemes and years that are refused -/
namespace W
open PySem PySem.Spec PyProof.Rows L2 Z
def S0 : Sch := ⟨[1, 2], 1⟩
def s0D : D := .tup [.tup [.int 1, .int 2], .int 1]
theorem s0_ok : S0.Ok := ⟨by decide, by decide, by decide, by decide, by decide, by decide⟩
theorem s0_chk : df_check_scheme [s0D] = ret .non := check_scheme_ok s0_ok
@[simp] theorem s0_ix0 {M : MS} : ixD s0D (.int 0) M = some (.tup [.int 1, .int 2]) := by simp [s0D]
theorem n0 {hi : Int} (h : 0 ≤ hi) : df_check_number [.int 0, .int 0, .int hi] = ret .non := check_number_ok (by decide) h
section
variable {d : D} (hb : Bad d)
include hb
theorem class1 : df_class_after [s0D, d, .tup []] = fails "InvalidNumber" := by
  have h := num_bad (hb 0 1 (by decide) (by decide))
  simp [df_class_after, body_class_after, s0_chk, h]
theorem class2 : df_class_after [s0D, .int 0, .tup [.int 1, d]] = fails "InvalidNumber" := by
  have h := num_bad (hb 0 1000 (by decide) (by decide))
  have h1 := check_number_ok (v := 1) (lo := 0) (hi := 1000) (by decide) (by decide)
  have h0 := n0 (hi := 1) (by decide)
  simp [df_class_after, body_class_after, s0_chk, h0, dLoop_cons, lb_class_after_1, h1, h]
theorem total1 {x y : D} : df_least_total [s0D, d, x, y] = fails "InvalidNumber" := by
  have h := num_bad (hb 0 1000 (by decide) (by decide))
  simp [df_least_total, body_least_total, s0_chk, h]
theorem total2 {y : D} : df_least_total [s0D, .int 0, d, y] = fails "InvalidNumber" := by
  have h := num_bad (hb 0 1 (by decide) (by decide))
  have h0 := n0 (hi := 1000) (by decide)
  simp [df_least_total, body_least_total, s0_chk, h, h0]
theorem counts2 {y : D} : df_best_counts [s0D, .int 0, d, y] = fails "InvalidNumber" := by
  have h := num_bad (hb 0 1 (by decide) (by decide))
  have h0 := n0 (hi := 1000) (by decide)
  simp [df_best_counts, body_best_counts, s0_chk, h, h0]
theorem with_2 {y z : D} : df_cost_with [s0D, .int 0, d, y, z] = fails "InvalidNumber" := by
  have h := num_bad (hb 0 1 (by decide) (by decide))
  have h0 := n0 (hi := 1000) (by decide)
  simp [df_cost_with, body_cost_with, s0_chk, h, h0]
end
theorem y5 : df_check_year [.tup [.int 5]] = ret .non := check_year_ok (ds := [5]) ⟨by decide, by decide⟩
theorem ys5 : df_check_years [.tup [.tup [.int 5]]] = ret .non := by
  simp [df_check_years, body_check_years, dLoop_cons, lb_check_years_1, y5]
theorem with_5 {x : D} (h : df_check_number [x, .int 0, .int 1] = fails "InvalidNumber") : df_cost_with [s0D, .int 0, .int 0, .tup [.tup [.int 5]], .tup [x]] = fails "InvalidNumber" := by
  have h0 := n0 (hi := 1000) (by decide)
  have h1 := n0 (hi := 1) (by decide)
  have z : zipD [D.tup [.int 5]] [x] = [.tup [.tup [.int 5], x]] := rfl
  simp [df_cost_with, body_cost_with, s0_chk, h0, h1, ys5, z, dLoop_cons, lb_cost_with_1, h]
theorem scheme_1 {d : D} (hb : Bad d) {s0 s3 : Sl} : lb__law_scheme_numbers_right_1 [s0, .v s0D, .v d, s3] = ret (.nx [s0, .v s0D, .v d, .no]) := by
  have a1 := class1 hb
  have a2 := class2 hb
  have b1 := fun x y => total1 hb (x := x) (y := y)
  have b2 := fun y => total2 hb (y := y)
  have c1 := fun y => counts2 hb (y := y)
  have d1 := fun y z => with_2 hb (y := y) (z := z)
  have d2 := with_5 (num_bad (hb 0 1 (by decide) (by decide)))
  unfold lb__law_scheme_numbers_right_1
  generalize df_class_after = F1 at a1 a2 ⊢
  generalize df_least_total = F2 at b1 b2 ⊢
  generalize df_best_counts = F3 at c1 ⊢
  generalize df_cost_with = F4 at d1 d2 ⊢
  rw [lBegin_eq (by simp)]
  show (lCat _ _) [s0, .v s0D, .v d, .no] _ = _
  rw [lCat_eq (by simp), lCat_eq (by simp), lCat_eq (by simp), lAll_f (by decide)]
  · rfl
  · simp only [List.cons_append, List.nil_append, List.append_nil]
    refine cons_f ?_ (cons_f ?_ (cons_f ?_ (cons_f ?_ (cons_f ?_ (cons_f ?_ (cons_f ?_ nil_f))))))
    all_goals simp [a1, a2, b1, b2, c1, d1, d2]
/-! ### loops over odd values -/
def odds : List D := [.non, .bl true, .int (-1), .str "3", .int 1000000000000001]
theorem odds_bad : ∀ d ∈ odds, Bad d := fun d hd => by
  simp only [odds, List.mem_cons, List.not_mem_nil, or_false] at hd
  rcases hd with rfl | rfl | rfl | rfl | rfl
  · exact bad_non
  · exact bad_bl
  · exact bad_int (.inl (by decide))
  · exact bad_str
  · exact bad_int (.inr (by decide))
theorem odds_eq {e : Ev} : dItems (dLst (dCons (dC .non) (dCons (dC (.bl true)) (dCons (dNeg (dC (.int 1))) (dCons (dC (.str (PySem.Str.ofString "3"))) (dCons (dOp addD (dOp powD (dC (.int 10)) (dC (.int 15))) (dC (.int 1))) dNil)))))) e = ret odds := by
  have p : (10 : Int) ^ 15 = 1000000000000000 := by decide
  simp [p, odds]
/-- a loop whose body leaves all but its own two slots -/
theorem odd_loop {body : DS} {items : List D} {a b : Sl} (h : ∀ d ∈ items, ∀ s3, body [a, b, .v d, s3] = ret (.nx [a, b, .v d, .no])) : ∀ (s2 s3 : Sl), ∃ s2' s3', dLoop (.nm 2) body items [a, b, s2, s3] = ret (.nx [a, b, s2', s3']) := by
  induction items with
  | nil => exact fun s2 s3 => ⟨s2, s3, rfl⟩
  | cons x xs ih =>
    intro s2 s3
    obtain ⟨s2', s3', e⟩ := ih (fun d hd => h d (by simp [hd])) (.v x) .no
    refine ⟨s2', s3', ?_⟩
    rw [dLoop_cons, asg_nm, lft_some, bnd_ret]
    show bnd (body [a, b, .v x, s3]) _ = _
    rw [h x (by simp), bnd_ret, loopK_nx, e]
theorem scheme_true {P : Pol} (hP : P.Ok) : df__law_scheme_numbers_right [polD P] = ret (.bl true) := by
  have hl := odd_loop (body := lb__law_scheme_numbers_right_1) (items := odds) (a := .v (polD P)) (b := .v s0D) (fun d hd s3 => scheme_1 (odds_bad d hd))
  have a1 : df_class_after [s0D, .int 2, .tup []] = fails "InvalidNumber" := by
    have h := num_bad_int (i := 2) (lo := 0) (hi := 1) (.inr (by decide))
    simp [df_class_after, body_class_after, s0_chk, h]
  have a2 := with_5 (num_bad_int (i := 2) (lo := 0) (hi := 1) (.inr (by decide)))
  have p12 : (10 : Int) ^ 12 = 1000000000000 := by decide
  have a3 : df_far_cost [polD P, .tup [.tup [.int 1, .int 1000000000001]]] = fails "InvalidNumber" := far_row hP (by
    have h := num_bad_int (i := 1000000000001) (lo := 0) (hi := 1000000000000) (.inr (by decide))
    simp [lb_far_cost_1, dmg_ok (d := 1) (by decide) (by decide), p12, h])
  obtain ⟨s2', s3', el⟩ := hl .no .no
  rw [df__law_scheme_numbers_right, body__law_scheme_numbers_right]
  generalize df_class_after = F1 at a1 ⊢
  generalize df_cost_with = F2 at a2 ⊢
  generalize df_far_cost = F3 at a3 ⊢
  generalize lb__law_scheme_numbers_right_1 = B at el ⊢
  have e0 : (dSet 1 (dTup (dCons (dTup (dCons (dC (.int 1)) (dCons (dC (.int 2)) dNil))) (dCons (dC (.int 1)) dNil)))) [.v (polD P), .no, .no, .no] = ret (.nx [.v (polD P), .v s0D, .no, .no]) := by simp [s0D]
  rw [mkDF_eq]
  show bnd (dSeq _ _ [.v (polD P), .no, .no, .no]) fin = _
  rw [dSeq_eq, e0, bnd_ret, seqK_nx, dSeq_eq, dFor_eq, odds_eq, bnd_ret, el, bnd_ret, seqK_nx, lBegin_eq (by simp)]
  show bnd (lAll _ _ _ [.v (polD P), .v s0D, s2', .no] _) fin = _
  rw [lAll_f (by decide)]
  · rfl
  · simp only [List.cons_append, List.nil_append, List.append_nil]
    refine cons_f ?_ (cons_f ?_ (cons_f ?_ nil_f))
    all_goals simp [a1, a2, a3, p12]
theorem nums_true {P : Pol} (hP : P.Ok) {ds : List Int} (hd : YearOk 40 ds) : df__law_numbers_right [polD P, yearD ds] = ret (.bl true) := by
  have hl := odd_loop (body := lb__law_numbers_right_1) (items := odds) (a := .v (polD P)) (b := .v (yearD ds)) (fun d hdd s3 => nums_1 hP hd (odds_bad d hdd))
  have cp := check_policy_ok hP
  have a1 : df_least_shares [.int 0, .int 1, .int 0] = fails "InvalidNumber" := by
    have h := num_bad_int (i := 0) (lo := 1) (hi := 1000) (.inl (by decide))
    simp [df_least_shares, body_least_shares, df_check_shares, body_check_shares, h]
  have a2 : df_least_shares [.int 1001, .int 1, .int 0] = fails "InvalidNumber" := by
    have h := num_bad_int (i := 1001) (lo := 1) (hi := 1000) (.inr (by decide))
    simp [df_least_shares, body_least_shares, df_check_shares, body_check_shares, h]
  have a3 : df_year_with [.int 7, .int 7, .int 281] = fails "InvalidNumber" := by
    have h := num_bad_int (i := 281) (lo := 0) (hi := 280) (.inr (by decide))
    have h1 := check_number_ok (v := 7) (lo := 1) (hi := 1000) (by decide) (by decide)
    have h2 := check_number_ok (v := 7) (lo := 0) (hi := 1000) (by decide) (by decide)
    simp [df_year_with, body_year_with, df_check_shares, body_check_shares, h, h1, h2, mulD_int (i := 40) (j := 7) (by decide)]
  have b1 : df_count_years [polD P, .int 6, .int 1, .non] = fails "InvalidNumber" := by
    have h := num_bad_int (i := 6) (lo := 0) (hi := 5) (.inr (by decide))
    simp [df_count_years, body_count_years, df_rows_of, body_rows_of, cp, h]
  have b2 : df_count_years [polD P, .int 1, .int 0, .non] = fails "InvalidNumber" := by
    have h := num_bad_int (i := 0) (lo := 1) (hi := 5) (.inl (by decide))
    have h1 := check_number_ok (v := 1) (lo := 0) (hi := 5) (by decide) (by decide)
    simp [df_count_years, body_count_years, df_rows_of, body_rows_of, cp, h, h1]
  have b3 : df_count_years [polD P, .int 1, .int 6, .non] = fails "InvalidNumber" := by
    have h := num_bad_int (i := 6) (lo := 1) (hi := 5) (.inr (by decide))
    have h1 := check_number_ok (v := 1) (lo := 0) (hi := 5) (by decide) (by decide)
    simp [df_count_years, body_count_years, df_rows_of, body_rows_of, cp, h, h1]
  have st := scheme_true hP
  obtain ⟨s2', s3', el⟩ := hl .no .no
  rw [df__law_numbers_right, body__law_numbers_right]
  generalize df_least_shares = F1 at a1 a2 ⊢
  generalize df_year_with = F2 at a3 ⊢
  generalize df_count_years = F3 at b1 b2 b3 ⊢
  generalize df__law_scheme_numbers_right = F4 at st ⊢
  generalize lb__law_numbers_right_1 = B at el ⊢
  rw [mkDF_eq]
  show bnd (dSeq _ _ [.v (polD P), .v (yearD ds), .no, .no]) fin = _
  rw [dSeq_eq, dFor_eq, odds_eq, bnd_ret, el, bnd_ret, seqK_nx, lBegin_eq (by simp)]
  show bnd (lCat _ _ [.v (polD P), .v (yearD ds), s2', .no] _) fin = _
  rw [lCat_eq (by simp), lAll_f (by decide)]
  · simp [st]
  · simp only [List.cons_append, List.nil_append, List.append_nil]
    refine cons_f ?_ (cons_f ?_ (cons_f ?_ (cons_f ?_ (cons_f ?_ (cons_f ?_ nil_f)))))
    all_goals simp [a1, a2, a3, b1, b2, b3]
end W

/-! years that are refused -/
namespace W
open PySem PySem.Spec PyProof.Rows L2 Z
theorem chy_non : df_check_year [.non] = fails "InvalidYear" := by simp [df_check_year, body_check_year, df_is_year, body_is_year]
theorem chy_0 : df_check_year [.tup [.int 0]] = fails "InvalidYear" := by
  have lc : dLcLoop (.nm 1) dYes (dCall df_in_range (dCons (dVar 1) (dCons (dC (.int 1)) (dCons (dC (.int 1000000)) dNil)))) [.v (.tup [.int 0]), .no] (iL [0]) [] = ret (bL ([0].map fun _ => false)) := lc_b (ds := [0]) (q := fun _ => false) (fun x hx => by
    have e : x = 0 := by simpa using hx
    subst e
    simp [in_range_int]) (by simp)
  have lc2 : dLcLoop (.nm 1) dYes (dCall df_in_range (dCons (dVar 1) (dCons (dC (.int 1)) (dCons (dC (.int 1000000)) dNil)))) [.v (.tup [.int 0]), .no] [D.int 0] [] = ret (bL [false]) := lc
  simp [df_check_year, body_check_year, df_is_year, body_is_year, lc2]
/-- six values that are no tuples of years -/
def ys13 : List D := [.tup [], .tup [], .tup [], .tup [], .tup [], .tup [], .tup [], .tup [], .tup [], .tup [], .tup [], .tup [], .tup []]
def oddY : List D := [.non, .lst [], .tup [.non], .tup [.tup [.int 0]], .tup ys13, .int 5]
theorem oddY_bad : ∀ d ∈ oddY, df_check_years [d] = fails "InvalidYear" := fun d hd => by
  have h1 := chy_non
  have h2 := chy_0
  simp only [oddY, List.mem_cons, List.not_mem_nil, or_false] at hd
  rcases hd with rfl | rfl | rfl | rfl | rfl | rfl
  · simp [df_check_years, body_check_years]
  · simp [df_check_years, body_check_years]
  · simp [df_check_years, body_check_years, dLoop_cons, lb_check_years_1, h1]
  · simp [df_check_years, body_check_years, dLoop_cons, lb_check_years_1, h2]
  · simp [df_check_years, body_check_years, ys13]
  · simp [df_check_years, body_check_years]
theorem m13 {M : MS} : mulTD (.tup [.tup []]) (.int 13) M = some (.tup ys13) := (mulTD_tup rfl (by decide) (by decide) (by decide)).trans rfl
theorem oddY_eq {e : Ev} : dItems (dLst (dCons (dC .non) (dCons (dLst dNil) (dCons (dTup (dCons (dC .non) dNil)) (dCons (dTup (dCons (dTup (dCons (dC (.int 0)) dNil)) dNil)) (dCons (dOp mulTD (dTup (dCons (dTup dNil) dNil)) (dC (.int 13))) (dCons (dC (.int 5)) dNil))))))) e = ret oddY := by
  have h := fun M => m13 (M := M)
  generalize mulTD = F at h ⊢
  simp [h, oddY]
theorem years_1y {d : D} (h : df_check_years [d] = fails "InvalidYear") {s0 s3 : Sl} : lb__law_years_right_1 [s0, .v s0D, .v d, s3] = ret (.nx [s0, .v s0D, .v d, .no]) := by
  have h0 := n0 (hi := 1000) (by decide)
  have h1 := n0 (hi := 1) (by decide)
  have a1 : df_least_total [s0D, .int 0, .int 0, d] = fails "InvalidYear" := by simp [df_least_total, body_least_total, s0_chk, h, h0, h1]
  have a2 : df_best_counts [s0D, .int 0, .int 0, d] = fails "InvalidYear" := by simp [df_best_counts, body_best_counts, s0_chk, h, h0, h1]
  have a3 : ∀ y, df_cost_with [s0D, .int 0, .int 0, d, y] = fails "InvalidYear" := fun y => by simp [df_cost_with, body_cost_with, s0_chk, h, h0, h1]
  unfold lb__law_years_right_1
  generalize df_least_total = F2 at a1 ⊢
  generalize df_best_counts = F3 at a2 ⊢
  generalize df_cost_with = F4 at a3 ⊢
  rw [lBegin_eq (by simp)]
  show (lAll _ _ _) [s0, .v s0D, .v d, .no] _ = _
  rw [lAll_f (by decide)]
  · rfl
  · simp only [List.cons_append, List.nil_append, List.append_nil]
    refine cons_f ?_ (cons_f ?_ (cons_f ?_ nil_f))
    all_goals simp [a1, a2, a3]
def oddC : List D := [.non, .lst [.int 0], .tup [], .tup [.int 0, .int 0], .int 5]
theorem oddC_bad : ∀ d ∈ oddC, df_cost_with [s0D, .int 0, .int 0, .tup [.tup [.int 5]], d] = fails "InvalidYear" := fun d hd => by
  have h0 := n0 (hi := 1000) (by decide)
  have h1 := n0 (hi := 1) (by decide)
  have h5 := ys5
  simp only [oddC, List.mem_cons, List.not_mem_nil, or_false] at hd
  rcases hd with rfl | rfl | rfl | rfl | rfl <;> simp [df_cost_with, body_cost_with, s0_chk, h0, h1, h5]
theorem oddC_eq {e : Ev} : dItems (dLst (dCons (dC .non) (dCons (dLst (dCons (dC (.int 0)) dNil)) (dCons (dTup dNil) (dCons (dTup (dCons (dC (.int 0)) (dCons (dC (.int 0)) dNil))) (dCons (dC (.int 5)) dNil)))))) e = ret oddC := by simp [oddC]
theorem years_2 {d : D} (h : df_cost_with [s0D, .int 0, .int 0, .tup [.tup [.int 5]], d] = fails "InvalidYear") {s0 s3 : Sl} : lb__law_years_right_2 [s0, .v s0D, .v d, s3] = ret (.nx [s0, .v s0D, .v d, s3]) := by
  unfold lb__law_years_right_2
  generalize df_cost_with = F at h ⊢
  rw [lAll0_f (by decide)]
  · rfl
  · refine cons_f ?_ nil_f
    simp [h]
def r41 : List D := List.replicate 41 (.tup [.int 1, .int 1])
def oddF : List D := [.non, .lst [], .tup [.int 1], .tup [.tup [.int 1]], .tup [.tup [.int 1, .int 2, .int 3]], .tup r41, .int 5]
theorem far_g {P : Pol} (hP : P.Ok) {d : D} (h : (dAnd (dIs .tuple (dVar 1)) (dOp leD (dB len1 (dCons (dVar 1) dNil)) (dC (.int 40)))) [.v (polD P), .v d, .no, .no, .no, .no] = ret (.bl false)) : df_far_cost [polD P, d] = fails "InvalidYear" := by
  have cp := check_policy_ok hP
  rw [df_far_cost, body_far_cost]
  generalize df_check_policy = C at cp ⊢
  generalize dAnd (dIs .tuple (dVar 1)) (dOp leD (dB len1 (dCons (dVar 1) dNil)) (dC (.int 40))) = G at h ⊢
  simp [cp, h]
theorem far_l {P : Pol} (hP : P.Ok) {x : D} (h : (dAnd (dIs .tuple (dVar 3)) (dOp eqD (dB len1 (dCons (dVar 3) dNil)) (dC (.int 2)))) [.v (polD P), .v (.tup [x]), .v (.bl true), .v x, .no, .no] = ret (.bl false)) : df_far_cost [polD P, .tup [x]] = fails "InvalidYear" := by
  have cp := check_policy_ok hP
  have lc : dLcLoop (.nm 3) dYes (dAnd (dIs .tuple (dVar 3)) (dOp eqD (dB len1 (dCons (dVar 3) dNil)) (dC (.int 2)))) [.v (polD P), .v (.tup [x]), .v (.bl true), .no, .no, .no] [x] [] = ret (bL [false]) := by
    rw [lc_map (h := fun _ => .bl false) (fun d hd => ?_) (by simp)]
    · rfl
    · have e : d = x := by simpa using hd
      subst e
      exact ⟨_, rfl, h⟩
  rw [df_far_cost, body_far_cost]
  generalize df_check_policy = C at cp ⊢
  simp [cp, lc]
theorem oddF_bad {P : Pol} (hP : P.Ok) : ∀ d ∈ oddF, df_far_cost [polD P, d] = fails "InvalidYear" := fun d hd => by
  simp only [oddF, List.mem_cons, List.not_mem_nil, or_false] at hd
  rcases hd with rfl | rfl | rfl | rfl | rfl | rfl | rfl
  · exact far_g hP (by simp)
  · exact far_g hP (by simp)
  · exact far_l hP (by simp)
  · exact far_l hP (by simp)
  · exact far_l hP (by simp)
  · exact far_g hP (by simp [r41])
  · exact far_g hP (by simp)
theorem m41 {M : MS} : mulTD (.tup [.tup [.int 1, .int 1]]) (.int 41) M = some (.tup r41) := (mulTD_tup rfl (by decide) (by decide) (by decide)).trans rfl
theorem oddF_eq {e : Ev} : dItems (dLst (dCons (dC .non) (dCons (dLst dNil) (dCons (dTup (dCons (dC (.int 1)) dNil)) (dCons (dTup (dCons (dTup (dCons (dC (.int 1)) dNil)) dNil)) (dCons (dTup (dCons (dTup (dCons (dC (.int 1)) (dCons (dC (.int 2)) (dCons (dC (.int 3)) dNil)))) dNil)) (dCons (dOp mulTD (dTup (dCons (dTup (dCons (dC (.int 1)) (dCons (dC (.int 1)) dNil))) dNil)) (dC (.int 41))) (dCons (dC (.int 5)) dNil)))))))) e = ret oddF := by
  have h := fun M => m41 (M := M)
  rw [oddF]
  generalize r41 = R at h ⊢
  generalize mulTD = F at h ⊢
  simp [h]
theorem years_3 {P : Pol} {d : D} (h : df_far_cost [polD P, d] = fails "InvalidYear") {s1 s3 : Sl} : lb__law_years_right_3 [.v (polD P), s1, .v d, s3] = ret (.nx [.v (polD P), s1, .v d, s3]) := by
  unfold lb__law_years_right_3
  generalize df_far_cost = F at h ⊢
  rw [lAll0_f (by decide)]
  · rfl
  · refine cons_f ?_ nil_f
    simp [h]
/-- a loop whose body leaves all but the named slot -/
theorem odd_loop2 {body : DS} {items : List D} {a b : Sl} (h : ∀ d ∈ items, ∀ s3, body [a, b, .v d, s3] = ret (.nx [a, b, .v d, s3])) : ∀ (s2 s3 : Sl), ∃ s2', dLoop (.nm 2) body items [a, b, s2, s3] = ret (.nx [a, b, s2', s3]) := by
  induction items with
  | nil => exact fun s2 s3 => ⟨s2, rfl⟩
  | cons x xs ih =>
    intro s2 s3
    obtain ⟨s2', e⟩ := ih (fun d hd => h d (by simp [hd])) (.v x) s3
    refine ⟨s2', ?_⟩
    rw [dLoop_cons, asg_nm, lft_some, bnd_ret]
    show bnd (body [a, b, .v x, s3]) _ = _
    rw [h x (by simp), bnd_ret, loopK_nx, e]
theorem years_true {P : Pol} (hP : P.Ok) : df__law_years_right [polD P] = ret (.bl true) := by
  have l1 := odd_loop (body := lb__law_years_right_1) (items := oddY) (a := .v (polD P)) (b := .v s0D) (fun d hd s3 => years_1y (oddY_bad d hd))
  have l2 := odd_loop2 (body := lb__law_years_right_2) (items := oddC) (a := .v (polD P)) (b := .v s0D) (fun d hd s3 => years_2 (oddC_bad d hd))
  have l3 := odd_loop2 (body := lb__law_years_right_3) (items := oddF) (a := .v (polD P)) (b := .v s0D) (fun d hd s3 => years_3 (oddF_bad hP d hd))
  obtain ⟨t2, t3, e1⟩ := l1 .no .no
  obtain ⟨u2, e2⟩ := l2 t2 t3
  obtain ⟨v2, e3⟩ := l3 u2 t3
  rw [df__law_years_right, body__law_years_right]
  generalize lb__law_years_right_1 = B1 at e1 ⊢
  generalize lb__law_years_right_2 = B2 at e2 ⊢
  generalize lb__law_years_right_3 = B3 at e3 ⊢
  have e0 : (dSet 1 (dTup (dCons (dTup (dCons (dC (.int 1)) (dCons (dC (.int 2)) dNil))) (dCons (dC (.int 1)) dNil)))) [.v (polD P), .no, .no, .no] = ret (.nx [.v (polD P), .v s0D, .no, .no]) := by simp [s0D]
  rw [mkDF_eq]
  show bnd (dSeq _ _ [.v (polD P), .no, .no, .no]) fin = _
  rw [dSeq_eq, e0, bnd_ret, seqK_nx, dSeq_eq, dFor_eq, oddY_eq, bnd_ret, e1, bnd_ret, seqK_nx, dSeq_eq, dFor_eq, oddC_eq, bnd_ret, e2, bnd_ret, seqK_nx, dSeq_eq, dFor_eq, oddF_eq, bnd_ret, e3, bnd_ret, seqK_nx]
  rfl
end W

namespace W
open PySem PySem.Spec PyProof.Rows L2 Z
/-- what stood before still stands -/
def Grow (M M' : MS) : Prop := M.length ≤ M'.length ∧ ∀ j, j < M.length → M'[j]? = M[j]?
theorem Grow.refl (M : MS) : Grow M M := ⟨Nat.le_refl _, fun _ _ => rfl⟩
theorem Grow.trans {M M1 M2 : MS} (a : Grow M M1) (b : Grow M1 M2) : Grow M M2 := ⟨Nat.le_trans a.1 b.1, fun j h => (b.2 j (Nat.lt_of_lt_of_le h a.1)).trans (a.2 j h)⟩
theorem Grow.app {M : MS} {ys : List D} : Grow M (M ++ [ys]) := ⟨by simp, fun j hj => List.getElem?_append_left hj⟩
theorem Grow.oth {L k : Nat} {M M' : MS} (h : Grow M M') (hL : L ≤ M.length) : OthB L k M M' := ⟨h.1, fun j _ hj => h.2 j (by omega)⟩
/-- it fails with wd; what stood before still stands -/
def FailG (wd : Str) (fb : DE) (e : Ev) : Prop := ∀ M, ∃ M', fb e M = some (.err wd, M') ∧ Grow M M'
theorem FailG.of {wd : Str} {fb : DE} {e : Ev} (h : fb e = fails wd) : FailG wd fb e := fun M => ⟨M, by rw [h]; rfl, Grow.refl M⟩
theorem allR_g {wd : Str} (hw : ZH.errN.contains wd = true) {e : Ev} : ∀ {fbs : List DE}, (∀ fb ∈ fbs, FailG wd fb e) → ∀ M, ∃ M', allR wd e fbs M = some M' ∧ Grow M M'
  | [], _, M => ⟨M, rfl, Grow.refl M⟩
  | fb :: fbs, h, M => by
    obtain ⟨M1, h1, g1⟩ := h fb (by simp) M
    obtain ⟨M2, h2, g2⟩ := allR_g hw (fbs := fbs) (fun x hx => h x (List.mem_cons_of_mem _ hx)) M1
    refine ⟨M2, ?_, g1.trans g2⟩
    unfold allR
    rw [h1]
    show (if wd = wd ∧ ZH.errN.contains wd = true then allR wd e fbs M1 else none) = some M2
    rw [if_pos ⟨rfl, hw⟩]
    exact h2
theorem lAll_g {wd : Str} (hw : ZH.errN.contains wd = true) {e : Ev} {fbs add : List DE} {M : MS} (h : ∀ fb ∈ fbs ++ add, FailG wd fb e) : ∃ M', lAll wd add dNil' e fbs M = some (.ok (.nx e), M') ∧ Grow M M' := by
  obtain ⟨M1, h1, g1⟩ := allR_g hw h M
  refine ⟨M1, ?_, g1⟩
  unfold lAll
  rw [h1]
  rfl
theorem cons_g {wd : Str} {e : Ev} {fb : DE} {fbs : List DE} (h : FailG wd fb e) (t : ∀ x ∈ fbs, FailG wd x e) : ∀ x ∈ fb :: fbs, FailG wd x e := fun x hx => (List.mem_cons.mp hx).elim (fun q => by rw [q]; exact h) (t x)
theorem nil_g {wd : Str} {e : Ev} : ∀ x ∈ ([] : List DE), FailG wd x e := fun x hx => by cases hx
/-- a loop whose body leaves all but its own two slots, and lets the heap grow -/
theorem loop_g {body : DS} {items : List D} {s0 s1 s2 s3 : Sl} (h : ∀ d ∈ items, ∀ s5 M, ∃ M', body [s0, s1, s2, s3, .v d, s5] M = some (.ok (.nx [s0, s1, s2, s3, .v d, .no]), M') ∧ Grow M M') : ∀ (s4 s5 : Sl) (M : MS), ∃ s4' s5' M', dLoop (.nm 4) body items [s0, s1, s2, s3, s4, s5] M = some (.ok (.nx [s0, s1, s2, s3, s4', s5']), M') ∧ Grow M M' := by
  induction items with
  | nil => exact fun s4 s5 M => ⟨s4, s5, M, rfl, Grow.refl M⟩
  | cons x xs ih =>
    intro s4 s5 M
    obtain ⟨M1, h1, g1⟩ := h x (by simp) s5 M
    obtain ⟨s4', s5', M2, h2, g2⟩ := ih (fun d hd => h d (by simp [hd])) (.v x) .no M1
    refine ⟨s4', s5', M2, ?_, g1.trans g2⟩
    rw [dLoop_cons, asg_nm, lft_some, bnd_ret]
    show bnd (body [s0, s1, s2, s3, .v x, s5]) _ M = _
    rw [bnd_at h1, loopK_nx, h2]
/-! ### policies that are refused -/
def BadP (d : D) : Prop := ∀ hi : Int, hi ≤ 10000 → df_in_range [d, .int 0, .int hi] = ret (.bl false)
def oddP : List D := [.non, .bl true, .int (-1), .int 10001, .str "3"]
theorem oddP_bad : ∀ d ∈ oddP, BadP d := fun d hd hi hh => by
  simp only [oddP, List.mem_cons, List.not_mem_nil, or_false] at hd
  rcases hd with rfl | rfl | rfl | rfl | rfl
  · exact bad_non 0 hi (by decide) (by omega)
  · exact bad_bl 0 hi (by decide) (by omega)
  · exact bad_int (.inl (by decide)) 0 hi (by decide) (by omega)
  · rw [in_range_int, decide_eq_false (by omega : ¬ (10001 : Int) ≤ hi), Bool.and_false]
  · exact bad_str 0 hi (by decide) (by omega)
theorem oddP_eq {e : Ev} : dItems (dLst (dCons (dC .non) (dCons (dC (.bl true)) (dCons (dNeg (dC (.int 1))) (dCons (dC (.int 10001)) (dCons (dC (.str (PySem.Str.ofString "3"))) dNil)))))) e = ret oddP := by simp [oddP]
section
variable {d : D} (hb : BadP d)
include hb
theorem ip1 {y z : D} : df_is_policy [.tup [d, y, z]] = ret (.bl false) := by
  have h := hb 10000 (by decide)
  simp [df_is_policy, body_is_policy, h]
theorem ip2 {z : D} : df_is_policy [.tup [.int 1, d, z]] = ret (.bl false) := by
  have h := hb 1000 (by decide)
  simp [df_is_policy, body_is_policy, h, in_range_int]
theorem ip3 (hn : isNone d = false) : df_is_policy [.tup [.int 1, .int 0, d]] = ret (.bl false) := by
  have h := hb 10000 (by decide)
  simp [df_is_policy, body_is_policy, h, in_range_int, hn]
theorem ip0 (hd : d ∈ oddP) : df_is_policy [d] = ret (.bl false) := by
  simp only [oddP, List.mem_cons, List.not_mem_nil, or_false] at hd
  rcases hd with rfl | rfl | rfl | rfl | rfl <;> simp [df_is_policy, body_is_policy]
end
theorem cp_bad {d : D} (h : df_is_policy [d] = ret (.bl false)) : df_check_policy [d] = fails "InvalidPolicy" := by simp [df_check_policy, body_check_policy, h]
theorem po_bad {x y z : D} (h : df_is_policy [.tup [x, y, z]] = ret (.bl false)) : df_policy_of [x, y, z] = fails "InvalidPolicy" := by simp [df_policy_of, body_policy_of, cp_bad h]
theorem ex_bad {x y z w : D} (h : df_is_policy [.tup [x, .int 0, y]] = ret (.bl false)) : df_excesses_for [x, y, z, w] = fails "InvalidPolicy" := by simp [df_excesses_for, body_excesses_for, h]
theorem fu_bad {x : D} (h : df_is_policy [.tup [x, .int 0, .non]] = ret (.bl false)) : df_C_full [x] = fails "InvalidPolicy" := by
  have c := cp_bad h
  have h2 : df_C_full [x] = bnd (I_init [.tup [x, .int 0, .non]]) newC := rfl
  have h3 : I_init [.tup [x, .int 0, .non]] = fails "InvalidPolicy" := by simp [I_init, mkI, c]
  rw [h2, h3]
  rfl
section
variable {P : Pol} (hP : P.Ok) {s0 s1 s3 : Sl}
include hP
theorem new_at {M : MS} {s4 s5 : Sl} : dMake I_init (dCons (dVar 2) dNil) [s0, s1, .v (polD P), s3, s4, s5] M = some (.ok (.con M.length), M ++ [[stD P 0 0 []]]) := by
  have h := init_at (M := M) hP
  have h2 : dMake I_init (dCons (dVar 2) dNil) [s0, s1, .v (polD P), s3, s4, s5] = bnd (I_init [polD P]) newC := by
    generalize I_init = I
    simp [dMake]
  rw [h2, bnd_at h]
  rfl
theorem renew_g {d : D} (hd : df_check_policy [d] = fails "InvalidPolicy") (hn : isNone d = false) {s5 : Sl} : FailG "InvalidPolicy" (dMethK df_C_renew (dMake I_init (dCons (dVar 2) dNil)) (dCons (dVar 4) dNil)) [s0, s1, .v (polD P), s3, .v d, s5] := fun M => by
  have h1 := new_at hP (M := M) (s0 := s0) (s1 := s1) (s3 := s3) (s4 := .v d) (s5 := s5)
  have hM : (M ++ [[stD P 0 0 []]])[M.length]? = some ([] ++ [stD P 0 0 []]) := by simp
  have h2 := renew_bad hd hn hM
  refine ⟨_, ?_, Grow.app (ys := [stD P 0 0 []])⟩
  unfold dMethK
  rw [bnd_at h1]
  exact h2
theorem claim_g {d : D} (hd : df_check_damage [d] = fails "InvalidDamage") {s5 : Sl} : FailG "InvalidDamage" (dMethS df_C_claim (dMake I_init (dCons (dVar 2) dNil)) (dCons (dC (.int 1)) (dCons (dVar 4) dNil))) [s0, s1, .v (polD P), s3, .v d, s5] := fun M => by
  have h1 := new_at hP (M := M) (s0 := s0) (s1 := s1) (s3 := s3) (s4 := .v d) (s5 := s5)
  have hM : (M ++ [[stD P 0 0 []]])[M.length]? = some ([] ++ [stD P 0 0 []]) := by simp
  have h2 := claim_bad hd hM
  refine ⟨_, ?_, Grow.app (ys := [stD P 0 0 []])⟩
  unfold dMethS
  rw [bnd_at h1]
  exact h2
theorem undo_g {M : MS} {s4 s5 : Sl} : dOutc (dMeth df_C_undo [] (dMake I_init (dCons (dVar 2) dNil)) dNil) [s0, s1, .v (polD P), s3, s4, s5] M = some (.ok (.tup [.str "NothingToUndo"]), M ++ [[stD P 0 0 []]]) := by
  have h1 := new_at hP (M := M) (s0 := s0) (s1 := s1) (s3 := s3) (s4 := s4) (s5 := s5)
  have hM : (M ++ [[stD P 0 0 []]])[M.length]? = some [stD P 0 0 []] := by simp
  have h2 := undo_last hM
  have h3 : dMeth df_C_undo [] (dMake I_init (dCons (dVar 2) dNil)) dNil [s0, s1, .v (polD P), s3, s4, s5] M = some (.err "NothingToUndo", M ++ [[stD P 0 0 []]]) := by
    unfold dMeth
    rw [bnd_at h1]
    exact h2
  unfold dOutc
  rw [h3]
  rfl
theorem turn1 {d : D} (hd : d ∈ oddP) {s5 : Sl} {M : MS} : ∃ M', lb_law_1 [s0, s1, .v (polD P), s3, .v d, s5] M = some (.ok (.nx [s0, s1, .v (polD P), s3, .v d, .no]), M') ∧ Grow M M' := by
  have hb := oddP_bad d hd
  have a1 := po_bad (ip1 hb (y := .int 0) (z := .non))
  have a2 := po_bad (ip2 hb (z := .non))
  have a3 := fu_bad (ip1 hb (y := .int 0) (z := .non))
  have a4 := ex_bad (z := .non) (w := .non) (ip1 hb (y := .int 0) (z := .non))
  have b1 := fun hn => po_bad (ip3 hb hn)
  have b2 := fun hn => ex_bad (z := .non) (w := .non) (ip3 hb hn)
  have b3 := fun hn => renew_g hP (s0 := s0) (s1 := s1) (s3 := s3) (cp_bad (ip0 hb hd)) hn (s5 := .no)
  unfold lb_law_1
  generalize df_policy_of = F1 at a1 a2 b1 ⊢
  generalize df_C_full = F2 at a3 ⊢
  generalize df_excesses_for = F3 at a4 b2 ⊢
  generalize dMethK df_C_renew (dMake I_init (dCons (dVar 2) dNil)) (dCons (dVar 4) dNil) = F4 at b3 ⊢
  rw [lBegin_eq (by simp)]
  show ∃ M', (lCat _ _) [s0, s1, .v (polD P), s3, .v d, .no] _ M = _ ∧ _
  rw [lCat_eq (by simp)]
  have t : (dTest (dOp isnD (dVar 4) (dC .non))) [s0, s1, .v (polD P), s3, .v d, .no] = ret (!isNone d) := by simp
  rw [lIf_eq t (by simp)]
  cases hn : isNone d with
  | true =>
    rw [if_neg (by simp)]
    refine lAll_g (by decide) ?_
    simp only [List.cons_append, List.nil_append, List.append_nil]
    refine cons_g (.of ?_) (cons_g (.of ?_) (cons_g (.of ?_) (cons_g (.of ?_) nil_g)))
    all_goals simp [a1, a2, a3, a4, dFull]
  | false =>
    have b1 := b1 hn
    have b2 := b2 hn
    rw [if_pos (by simp)]
    refine lAll_g (by decide) ?_
    simp only [List.cons_append, List.nil_append, List.append_nil]
    refine cons_g (.of ?_) (cons_g (.of ?_) (cons_g (.of ?_) (cons_g (.of ?_) (cons_g (.of ?_) (cons_g (.of ?_) (cons_g (b3 hn) nil_g))))))
    all_goals simp [a1, a2, a3, a4, b1, b2, dFull]
end
/-! ### damages that are refused -/
def oddD : List D := [.non, .bl true, .int 0, .int (-1), .int 1000001, .str "3"]
theorem oddD_bad : ∀ d ∈ oddD, df_check_damage [d] = fails "InvalidDamage" := fun d hd => by
  have h : df_in_range [d, .int 1, .int 1000000] = ret (.bl false) := by
    simp only [oddD, List.mem_cons, List.not_mem_nil, or_false] at hd
    rcases hd with rfl | rfl | rfl | rfl | rfl | rfl
    · exact bad_non 1 1000000 (by decide) (by decide)
    · exact bad_bl 1 1000000 (by decide) (by decide)
    · simp [in_range_int]
    · simp [in_range_int]
    · simp [in_range_int]
    · exact bad_str 1 1000000 (by decide) (by decide)
  simp [df_check_damage, body_check_damage, h]
theorem oddD_eq {e : Ev} : dItems (dLst (dCons (dC .non) (dCons (dC (.bl true)) (dCons (dC (.int 0)) (dCons (dNeg (dC (.int 1))) (dCons (dOp addD (dOp powD (dC (.int 10)) (dC (.int 6))) (dC (.int 1))) (dCons (dC (.str (PySem.Str.ofString "3"))) dNil))))))) e = ret oddD := by
  have p : (10 : Int) ^ 6 = 1000000 := by decide
  simp [p, oddD]
theorem turn2 {P : Pol} (hP : P.Ok) {s0 s1 s3 : Sl} {d : D} (hd : d ∈ oddD) {s5 : Sl} {M : MS} : ∃ M', lb_law_2 [s0, s1, .v (polD P), s3, .v d, s5] M = some (.ok (.nx [s0, s1, .v (polD P), s3, .v d, .no]), M') ∧ Grow M M' := by
  have hb := oddD_bad d hd
  have a1 := claim_g hP (s0 := s0) (s1 := s1) (s3 := s3) hb (s5 := .no)
  have a2 : df_far_cost [polD P, .tup [.tup [d, .non]]] = fails "InvalidDamage" := far_row hP (by simp [lb_far_cost_1, hb])
  unfold lb_law_2
  generalize df_far_cost = F1 at a2 ⊢
  generalize dMethS df_C_claim (dMake I_init (dCons (dVar 2) dNil)) (dCons (dC (.int 1)) (dCons (dVar 4) dNil)) = F2 at a1 ⊢
  rw [lBegin_eq (by simp)]
  show ∃ M', (lAll _ _ _) [s0, s1, .v (polD P), s3, .v d, .no] _ M = _ ∧ _
  refine lAll_g (by decide) ?_
  simp only [List.cons_append, List.nil_append, List.append_nil]
  refine cons_g a1 (cons_g (.of ?_) nil_g)
  simp [a2]
/-! ### the turn -/
def I6 (e : Ev) : Prop := ∃ s0 s1 s2 s3 s4 s5, e = [s0, s1, s2, s3, s4, s5]
def rest3 (NR YR : DF) (B1 B2 : DS) (U : DE) : DS := (dSeq (dIfS (dOrT (dNotT (dTest (dCall NR (dCons (dVar 2) (dCons (dVar 3) dNil))))) (dNotT (dTest (dCall YR (dCons (dVar 2) dNil))))) (dRet (dC (.bl false))) dNil') (dSeq (dFor (dItems (dLst (dCons (dC .non) (dCons (dC (.bl true)) (dCons (dNeg (dC (.int 1))) (dCons (dC (.int 10001)) (dCons (dC (.str (PySem.Str.ofString "3"))) dNil))))))) (.nm 4) B1) (dSeq (dFor (dItems (dLst (dCons (dC .non) (dCons (dC (.bl true)) (dCons (dC (.int 0)) (dCons (dNeg (dC (.int 1))) (dCons (dOp addD (dOp powD (dC (.int 10)) (dC (.int 6))) (dC (.int 1))) (dCons (dC (.str (PySem.Str.ofString "3"))) dNil)))))))) (.nm 4) B2) (dIfS (dTest (dOp neD U (dTup (dCons (dC (.str (PySem.Str.ofString "NothingToUndo"))) dNil)))) (dRet (dC (.bl false))) dNil'))))
theorem rest_ok {NR YR : DF} {B1 B2 : DS} {U : DE} {P : Pol} {ds : List Int} {s0 s1 s4 s5 : Sl} {M : MS} (h1 : NR [polD P, yearD ds] = ret (.bl true)) (h2 : YR [polD P] = ret (.bl true))
    (h3 : ∀ d ∈ oddP, ∀ s5 M, ∃ M', B1 [s0, s1, .v (polD P), .v (yearD ds), .v d, s5] M = some (.ok (.nx [s0, s1, .v (polD P), .v (yearD ds), .v d, .no]), M') ∧ Grow M M')
    (h4 : ∀ d ∈ oddD, ∀ s5 M, ∃ M', B2 [s0, s1, .v (polD P), .v (yearD ds), .v d, s5] M = some (.ok (.nx [s0, s1, .v (polD P), .v (yearD ds), .v d, .no]), M') ∧ Grow M M')
    (h5 : ∀ s4 s5 M, ∃ M', U [s0, s1, .v (polD P), .v (yearD ds), s4, s5] M = some (.ok (.tup [.str "NothingToUndo"]), M') ∧ Grow M M') :
    ∃ e' M', rest3 NR YR B1 B2 U [s0, s1, .v (polD P), .v (yearD ds), s4, s5] M = some (.ok (.nx e'), M') ∧ I6 e' ∧ Grow M M' := by
  obtain ⟨t4, t5, M1, e1, g1⟩ := loop_g h3 s4 s5 M
  obtain ⟨u4, u5, M2, e2, g2⟩ := loop_g h4 t4 t5 M1
  obtain ⟨M3, e3, g3⟩ := h5 u4 u5 M2
  refine ⟨[s0, s1, .v (polD P), .v (yearD ds), u4, u5], M3, ?_, ⟨_, _, _, _, _, _, rfl⟩, (g1.trans g2).trans g3⟩
  have i0 : (dIfS (dOrT (dNotT (dTest (dCall NR (dCons (dVar 2) (dCons (dVar 3) dNil))))) (dNotT (dTest (dCall YR (dCons (dVar 2) dNil))))) (dRet (dC (.bl false))) dNil') [s0, s1, .v (polD P), .v (yearD ds), s4, s5] = ret (.nx [s0, s1, .v (polD P), .v (yearD ds), s4, s5]) := by simp [h1, h2]
  have ne : ∀ M, neD (.tup [.str "NothingToUndo"]) (.tup [.str "NothingToUndo"]) M = some (.bl false) := fun M => ne_err (by decide)
  unfold rest3
  rw [dSeq_eq, i0, bnd_ret, seqK_nx, dSeq_eq, dFor_eq, oddP_eq, bnd_ret, bnd_at e1, seqK_nx, dSeq_eq, dFor_eq, oddD_eq, bnd_ret, bnd_at e2, seqK_nx]
  simp [bnd_assoc]
  rw [bnd_at e3]
  simp [ne]
  rfl
theorem turn3 {L k : Nat} {M : MS} {s0 s2 s3 s4 s5 : Sl} (hk : k < L) (hL : L ≤ M.length) : TkB L k 109 (lb_law_3 [s0, .v (.obj k), s2, s3, s4, s5]) M (fun o _ => Nxt I6 o) := by
  have e0 : lb_law_3 = dSeq (dSet 2 (dCall df__law_policy (dCons (dVar 1) dNil))) (dSeq (dSet 3 (dCall df__law_year (dCons (dVar 1) (dCons (dC (.int 20)) (dCons (dVar 2) dNil))))) (rest3 df__law_numbers_right df__law_years_right lb_law_1 lb_law_2 (dOutc (dMeth df_C_undo [] (dMake I_init (dCons (dVar 2) dNil)) dNil)))) := rfl
  rw [e0]
  have nt := fun (P : Pol) (hP : P.Ok) (ds : List Int) (hd : YearOk 40 ds) => nums_true hP hd
  have yt := fun (P : Pol) (hP : P.Ok) => years_true hP
  have b1 := fun (P : Pol) (hP : P.Ok) (s1 s3 : Sl) d (hd : d ∈ oddP) s5 M => turn1 hP (s0 := s0) (s1 := s1) (s3 := s3) hd (s5 := s5) (M := M)
  have b2 := fun (P : Pol) (hP : P.Ok) (s1 s3 : Sl) d (hd : d ∈ oddD) s5 M => turn2 hP (s0 := s0) (s1 := s1) (s3 := s3) hd (s5 := s5) (M := M)
  have u : ∀ (P : Pol) (hP : P.Ok) (s1 s3 s4 s5 : Sl) M, ∃ M', (dOutc (dMeth df_C_undo [] (dMake I_init (dCons (dVar 2) dNil)) dNil)) [s0, s1, .v (polD P), s3, s4, s5] M = some (.ok (.tup [.str "NothingToUndo"]), M') ∧ Grow M M' := fun P hP s1 s3 s4 s5 M => ⟨_, undo_g hP, Grow.app⟩
  have po : Tk k 8 (df__law_policy [.obj k]) IsPol := policy_ok
  have yo : ∀ (P : Pol) (hP : P.Ok), Tk k 101 (df__law_year [.obj k, .int 20, polD P]) (IsYear 20) := fun P hP => year_ok (m := 20) (by decide) hP.e0 hP.e1
  generalize dOutc (dMeth df_C_undo [] (dMake I_init (dCons (dVar 2) dNil)) dNil) = U at u ⊢
  generalize df__law_numbers_right = F1 at nt ⊢
  generalize df__law_years_right = F2 at yt ⊢
  generalize lb_law_1 = B1 at b1 ⊢
  generalize lb_law_2 = B2 at b2 ⊢
  generalize df__law_policy = F3 at po ⊢
  generalize df__law_year = F4 at yo ⊢
  simp [bnd_assoc, -seqK_nx]
  refine (TkB.of po).bind (c1 := 8) (c2 := 101) fun a M1 o1 ⟨⟨P, e, hP⟩, _⟩ => ?_
  subst e
  rw [seqK_nx]
  simp [bnd_assoc, -seqK_nx]
  refine (TkB.of (yo P hP)).bind (c1 := 101) (c2 := 0) fun a M2 o2 ⟨⟨ds, e, hd⟩, _⟩ => ?_
  subst e
  rw [seqK_nx]
  have hd' : YearOk 40 ds := ⟨by have := hd.1; omega, hd.2⟩
  have hL2 : L ≤ M2.length := Nat.le_trans hL (Nat.le_trans o1.1 o2.1)
  obtain ⟨e', M', h, hi, g⟩ := rest_ok (s0 := s0) (s1 := .v (.obj k)) (s4 := s4) (s5 := s5) (M := M2) (nt P hP ds hd') (yt P hP) (b1 P hP _ _) (b2 P hP _ _) (fun s4 s5 M => u P hP _ _ s4 s5 M)
  exact TkB.eq h (g.2 k (by omega)) (g.oth hL2) ⟨e', .inl rfl, hi⟩
theorem tail_ok {s0 s1 s2 s3 s4 s5 : Sl} {M : MS} : ∃ M', (dRet (dAnd (dOp eqD (dCallD df_policy_of [.int 0, .non] (dCons (dC (.int 100)) dNil)) (dTup (dCons (dC (.int 100)) (dCons (dC (.int 0)) (dCons (dC .non) dNil))))) (dOp eqD (dCallK df_policy_of (dCons (dC (.int 100)) dNil) (dCons (dC (.int 50)) (dCons (dC (.int 120)) dNil))) (dTup (dCons (dC (.int 100)) (dCons (dC (.int 50)) (dCons (dC (.int 120)) dNil))))))) [s0, s1, s2, s3, s4, s5] M = some (.ok (.rt (.bl true)), M') := by
  have p1 : df_check_policy [.tup [.int 100, .int 0, .non]] = ret .non := check_policy_ok (P := ⟨100, 0, none⟩) ⟨by decide, by decide, by decide, by decide, fun c hc => by cases hc⟩
  have p2 : df_check_policy [.tup [.int 100, .int 50, .int 120]] = ret .non := check_policy_ok (P := ⟨100, 50, some 120⟩) ⟨by decide, by decide, by decide, by decide, fun c hc => by cases hc; decide⟩
  have a1 : df_policy_of [.int 100, .int 0, .non] = ret (.tup [.int 100, .int 0, .non]) := by simp [df_policy_of, body_policy_of, p1]
  have a2 : df_policy_of [.int 100, .int 50, .int 120] = ret (.tup [.int 100, .int 50, .int 120]) := by simp [df_policy_of, body_policy_of, p2]
  generalize df_policy_of = F at a1 a2 ⊢
  have q1 : ∀ M, eqD (.tup [.int 100, .int 0, .non]) (.tup [.int 100, .int 0, .non]) M = some (.bl true) := fun M => rfl
  have q2 : ∀ M, eqD (.tup [.int 100, .int 50, .int 120]) (.tup [.int 100, .int 50, .int 120]) M = some (.bl true) := fun M => rfl
  refine ⟨M, ?_⟩
  simp [a1, a2, q1, q2]
  rfl
theorem law_true (ns : List Int) (h : ns.length ≤ 63) : ∃ M', df_law [.scr ns] [] = some (.ok (.bl true), M') := by
  refine law_shellB (c := 109) (n := 6) (i := 1) (m := 6) (I := I6) (by decide) (by decide) ⟨_, _, _, _, _, _, rfl⟩ (fun L k e M hk hL ⟨s0, s1, s2, s3, s4, s5, h⟩ => ?_) (fun e M ⟨s0, s1, s2, s3, s4, s5, h⟩ => ?_)
  · subst h
    exact turn3 hk hL
  · subst h
    exact tail_ok
end W

namespace W
open PySem PySem.Spec PyProof.Rows L2 Z
variable [Tbs]
set_option maxHeartbeats 0 in
structure Txt (K : PySem.W.Frag) (mg : Str → Option Value) where
  a__law_well : Addr
  f__law_well : FuncData
  F__law_well : Fun K "_law_well" "_law_well" s__law_well a__law_well f__law_well
  g__law_well : mg "_law_well" = some (.ref a__law_well)
  b__law_well : Binds K f__law_well ["cell", "turn"] []
  a__law_bags : Addr
  f__law_bags : FuncData
  F__law_bags : Fun K "_law_bags" "_law_bags" s__law_bags a__law_bags f__law_bags
  g__law_bags : mg "_law_bags" = some (.ref a__law_bags)
  b__law_bags : Binds K f__law_bags ["script", "most"] []
  a__law_take : Addr
  f__law_take : FuncData
  F__law_take : Fun K "_law_take" "_law_take" s__law_take a__law_take f__law_take
  g__law_take : mg "_law_take" = some (.ref a__law_take)
  b__law_take : Binds K f__law_take ["bag", "many"] []
  a__law_policy : Addr
  f__law_policy : FuncData
  F__law_policy : Fun K "_law_policy" "_law_policy" s__law_policy a__law_policy f__law_policy
  g__law_policy : mg "_law_policy" = some (.ref a__law_policy)
  b__law_policy : Binds K f__law_policy ["bag"] []
  a__law_year : Addr
  f__law_year : FuncData
  F__law_year : Fun K "_law_year" "_law_year" s__law_year a__law_year f__law_year
  g__law_year : mg "_law_year" = some (.ref a__law_year)
  b__law_year : Binds K f__law_year ["bag", "most", "policy1"] []
  a__law_error : Addr
  f__law_error : FuncData
  F__law_error : Fun K "_law_error" "_law_error" s__law_error a__law_error f__law_error
  g__law_error : mg "_law_error" = some (.ref a__law_error)
  b__law_error : Binds K f__law_error ["e"] []
  a__law_outcome : Addr
  f__law_outcome : FuncData
  F__law_outcome : Fun K "_law_outcome" "_law_outcome" s__law_outcome a__law_outcome f__law_outcome
  g__law_outcome : mg "_law_outcome" = some (.ref a__law_outcome)
  b__law_outcome : Binds K f__law_outcome ["call"] []
  a_in_range : Addr
  f_in_range : FuncData
  F_in_range : Fun K "in_range" "in_range" s_in_range a_in_range f_in_range
  g_in_range : mg "in_range" = some (.ref a_in_range)
  b_in_range : Binds K f_in_range ["value", "low", "high"] []
  a_is_policy : Addr
  f_is_policy : FuncData
  F_is_policy : Fun K "is_policy" "is_policy" s_is_policy a_is_policy f_is_policy
  g_is_policy : mg "is_policy" = some (.ref a_is_policy)
  b_is_policy : Binds K f_is_policy ["value"] []
  a_check_policy : Addr
  f_check_policy : FuncData
  F_check_policy : Fun K "check_policy" "check_policy" s_check_policy a_check_policy f_check_policy
  g_check_policy : mg "check_policy" = some (.ref a_check_policy)
  b_check_policy : Binds K f_check_policy ["value"] []
  a_policy_of : Addr
  f_policy_of : FuncData
  F_policy_of : Fun K "policy_of" "policy_of" s_policy_of a_policy_of f_policy_of
  g_policy_of : mg "policy_of" = some (.ref a_policy_of)
  a__law_all_raise : Addr
  f__law_all_raise : FuncData
  F__law_all_raise : Fun K "_law_all_raise" "_law_all_raise" s__law_all_raise a__law_all_raise f__law_all_raise
  g__law_all_raise : mg "_law_all_raise" = some (.ref a__law_all_raise)
  b__law_all_raise : Binds K f__law_all_raise ["calls", "word"] []
  a_is_scheme : Addr
  f_is_scheme : FuncData
  F_is_scheme : Fun K "is_scheme" "is_scheme" s_is_scheme a_is_scheme f_is_scheme
  g_is_scheme : mg "is_scheme" = some (.ref a_is_scheme)
  b_is_scheme : Binds K f_is_scheme ["value"] []
  a_check_scheme : Addr
  f_check_scheme : FuncData
  F_check_scheme : Fun K "check_scheme" "check_scheme" s_check_scheme a_check_scheme f_check_scheme
  g_check_scheme : mg "check_scheme" = some (.ref a_check_scheme)
  b_check_scheme : Binds K f_check_scheme ["value"] []
  a_check_number : Addr
  f_check_number : FuncData
  F_check_number : Fun K "check_number" "check_number" s_check_number a_check_number f_check_number
  g_check_number : mg "check_number" = some (.ref a_check_number)
  b_check_number : Binds K f_check_number ["value", "low", "high"] []
  a_later : Addr
  f_later : FuncData
  F_later : Fun K "later" "later" s_later a_later f_later
  g_later : mg "later" = some (.ref a_later)
  b_later : Binds K f_later ["scheme", "level", "claims"] []
  a_class_after : Addr
  f_class_after : FuncData
  F_class_after : Fun K "class_after" "class_after" s_class_after a_class_after f_class_after
  g_class_after : mg "class_after" = some (.ref a_class_after)
  a_is_year : Addr
  f_is_year : FuncData
  F_is_year : Fun K "is_year" "is_year" s_is_year a_is_year f_is_year
  g_is_year : mg "is_year" = some (.ref a_is_year)
  b_is_year : Binds K f_is_year ["value"] []
  a_check_year : Addr
  f_check_year : FuncData
  F_check_year : Fun K "check_year" "check_year" s_check_year a_check_year f_check_year
  g_check_year : mg "check_year" = some (.ref a_check_year)
  b_check_year : Binds K f_check_year ["value"] []
  a_check_years : Addr
  f_check_years : FuncData
  F_check_years : Fun K "check_years" "check_years" s_check_years a_check_years f_check_years
  g_check_years : mg "check_years" = some (.ref a_check_years)
  b_check_years : Binds K f_check_years ["value"] []
  a_claimed_cost : Addr
  f_claimed_cost : FuncData
  F_claimed_cost : Fun K "claimed_cost" "claimed_cost" s_claimed_cost a_claimed_cost f_claimed_cost
  g_claimed_cost : mg "claimed_cost" = some (.ref a_claimed_cost)
  b_claimed_cost : Binds K f_claimed_cost ["excess", "year", "count"] []
  a_cost_with : Addr
  f_cost_with : FuncData
  F_cost_with : Fun K "cost_with" "cost_with" s_cost_with a_cost_with f_cost_with
  g_cost_with : mg "cost_with" = some (.ref a_cost_with)
  b_cost_with : Binds K f_cost_with ["scheme", "excess", "start", "years", "counts"] []
  a_best_from : Addr
  f_best_from : FuncData
  F_best_from : Fun K "best_from" "best_from" s_best_from a_best_from f_best_from
  g_best_from : mg "best_from" = some (.ref a_best_from)
  b_best_from : Binds K f_best_from ["scheme", "excess", "start", "years"] []
  a_least_total : Addr
  f_least_total : FuncData
  F_least_total : Fun K "least_total" "least_total" s_least_total a_least_total f_least_total
  g_least_total : mg "least_total" = some (.ref a_least_total)
  b_least_total : Binds K f_least_total ["scheme", "excess", "start", "years"] []
  a_best_counts : Addr
  f_best_counts : FuncData
  F_best_counts : Fun K "best_counts" "best_counts" s_best_counts a_best_counts f_best_counts
  g_best_counts : mg "best_counts" = some (.ref a_best_counts)
  b_best_counts : Binds K f_best_counts ["scheme", "excess", "start", "years"] []
  a_check_damage : Addr
  f_check_damage : FuncData
  F_check_damage : Fun K "check_damage" "check_damage" s_check_damage a_check_damage f_check_damage
  g_check_damage : mg "check_damage" = some (.ref a_check_damage)
  b_check_damage : Binds K f_check_damage ["value"] []
  a_capped : Addr
  f_capped : FuncData
  F_capped : Fun K "capped" "capped" s_capped a_capped f_capped
  g_capped : mg "capped" = some (.ref a_capped)
  b_capped : Binds K f_capped ["policy", "shares"] []
  a_far_cost : Addr
  f_far_cost : FuncData
  F_far_cost : Fun K "far_cost" "far_cost" s_far_cost a_far_cost f_far_cost
  g_far_cost : mg "far_cost" = some (.ref a_far_cost)
  b_far_cost : Binds K f_far_cost ["policy", "rows"] []
  a__law_scheme_numbers_right : Addr
  f__law_scheme_numbers_right : FuncData
  F__law_scheme_numbers_right : Fun K "_law_scheme_numbers_right" "_law_scheme_numbers_right" s__law_scheme_numbers_right a__law_scheme_numbers_right f__law_scheme_numbers_right
  g__law_scheme_numbers_right : mg "_law_scheme_numbers_right" = some (.ref a__law_scheme_numbers_right)
  b__law_scheme_numbers_right : Binds K f__law_scheme_numbers_right ["policy1"] []
  a_check_shares : Addr
  f_check_shares : FuncData
  F_check_shares : Fun K "check_shares" "check_shares" s_check_shares a_check_shares f_check_shares
  g_check_shares : mg "check_shares" = some (.ref a_check_shares)
  b_check_shares : Binds K f_check_shares ["excess", "other", "shares", "most"] []
  a_least : Addr
  f_least : FuncData
  F_least : Fun K "least" "least" s_least a_least f_least
  g_least : mg "least" = some (.ref a_least)
  b_least : Binds K f_least ["excess", "other", "shares"] []
  a_least_shares : Addr
  f_least_shares : FuncData
  F_least_shares : Fun K "least_shares" "least_shares" s_least_shares a_least_shares f_least_shares
  g_least_shares : mg "least_shares" = some (.ref a_least_shares)
  b_least_shares : Binds K f_least_shares ["excess", "other", "shares"] []
  a_year_with : Addr
  f_year_with : FuncData
  F_year_with : Fun K "year_with" "year_with" s_year_with a_year_with f_year_with
  g_year_with : mg "year_with" = some (.ref a_year_with)
  b_year_with : Binds K f_year_with ["excess", "other", "shares"] []
  a_shares_of : Addr
  f_shares_of : FuncData
  F_shares_of : Fun K "shares_of" "shares_of" s_shares_of a_shares_of f_shares_of
  g_shares_of : mg "shares_of" = some (.ref a_shares_of)
  b_shares_of : Binds K f_shares_of ["excess", "year"] []
  a_cost_of : Addr
  f_cost_of : FuncData
  F_cost_of : Fun K "cost_of" "cost_of" s_cost_of a_cost_of f_cost_of
  g_cost_of : mg "cost_of" = some (.ref a_cost_of)
  b_cost_of : Binds K f_cost_of ["policy", "year"] []
  a_excesses_for : Addr
  f_excesses_for : FuncData
  F_excesses_for : Fun K "excesses_for" "excesses_for" s_excesses_for a_excesses_for f_excesses_for
  g_excesses_for : mg "excesses_for" = some (.ref a_excesses_for)
  b_excesses_for : Binds K f_excesses_for ["premium", "cap", "year", "paid"] []
  a_rows_of : Addr
  f_rows_of : FuncData
  F_rows_of : Fun K "rows_of" "rows_of" s_rows_of a_rows_of f_rows_of
  g_rows_of : mg "rows_of" = some (.ref a_rows_of)
  b_rows_of : Binds K f_rows_of ["policy", "count", "most", "paid"] []
  a_count_years : Addr
  f_count_years : FuncData
  F_count_years : Fun K "count_years" "count_years" s_count_years a_count_years f_count_years
  g_count_years : mg "count_years" = some (.ref a_count_years)
  a_most_shares : Addr
  f_most_shares : FuncData
  F_most_shares : Fun K "most_shares" "most_shares" s_most_shares a_most_shares f_most_shares
  g_most_shares : mg "most_shares" = some (.ref a_most_shares)
  b_most_shares : Binds K f_most_shares ["excess", "other", "shares"] []
  a_shares_for : Addr
  f_shares_for : FuncData
  F_shares_for : Fun K "shares_for" "shares_for" s_shares_for a_shares_for f_shares_for
  g_shares_for : mg "shares_for" = some (.ref a_shares_for)
  b_shares_for : Binds K f_shares_for ["policy", "paid"] []
  a_first_with : Addr
  f_first_with : FuncData
  F_first_with : Fun K "first_with" "first_with" s_first_with a_first_with f_first_with
  g_first_with : mg "first_with" = some (.ref a_first_with)
  b_first_with : Binds K f_first_with ["policy", "before", "paid"] []
  a_hidden_damages : Addr
  f_hidden_damages : FuncData
  F_hidden_damages : Fun K "hidden_damages" "hidden_damages" s_hidden_damages a_hidden_damages f_hidden_damages
  g_hidden_damages : mg "hidden_damages" = some (.ref a_hidden_damages)
  b_hidden_damages : Binds K f_hidden_damages ["policy", "year", "paid"] []
  a_year_at : Addr
  f_year_at : FuncData
  F_year_at : Fun K "year_at" "year_at" s_year_at a_year_at f_year_at
  g_year_at : mg "year_at" = some (.ref a_year_at)
  a__law_numbers_right : Addr
  f__law_numbers_right : FuncData
  F__law_numbers_right : Fun K "_law_numbers_right" "_law_numbers_right" s__law_numbers_right a__law_numbers_right f__law_numbers_right
  g__law_numbers_right : mg "_law_numbers_right" = some (.ref a__law_numbers_right)
  b__law_numbers_right : Binds K f__law_numbers_right ["policy1", "year"] []
  a__law_years_right : Addr
  f__law_years_right : FuncData
  F__law_years_right : Fun K "_law_years_right" "_law_years_right" s__law_years_right a__law_years_right f__law_years_right
  g__law_years_right : mg "_law_years_right" = some (.ref a__law_years_right)
  b__law_years_right : Binds K f__law_years_right ["policy1"] []
  a_C___init__ : Addr
  f_C___init__ : FuncData
  F_C___init__ : Fun K "__init__" "Contract.__init__" s_C___init__ a_C___init__ f_C___init__
  b_C___init__ : Binds K f_C___init__ ["self", "policy"] []
  a_C_full : Addr
  f_C_full : FuncData
  F_C_full : Fun K "full" "Contract.full" s_C_full a_C_full f_C_full
  b_C_full : Binds K f_C_full ["cls", "premium"] []
  a_C_own : Addr
  f_C_own : FuncData
  F_C_own : Fun K "own" "Contract.own" s_C_own a_C_own f_C_own
  b_C_own : Binds K f_C_own ["self"] []
  a_C_claim : Addr
  f_C_claim : FuncData
  F_C_claim : Fun K "claim" "Contract.claim" s_C_claim a_C_claim f_C_claim
  a_C_undo : Addr
  f_C_undo : FuncData
  F_C_undo : Fun K "undo" "Contract.undo" s_C_undo a_C_undo f_C_undo
  b_C_undo : Binds K f_C_undo ["self"] []
  a_C_renew : Addr
  f_C_renew : FuncData
  F_C_renew : Fun K "renew" "Contract.renew" s_C_renew a_C_renew f_C_renew
  a_law : Addr
  f_law : FuncData
  F_law : Fun K "law" "law" s_law a_law f_law
  g_law : mg "law" = some (.ref a_law)
  b_law : Binds K f_law ["script"] []
  C : Addr
  cls : ClsK K mg C
  mc : Value
  crd : ClX.CRead K C mc
  cmk : Mk K C a_C___init__
  pa_C_full : Addr
  cm_C_full : ClX.CMet K C mc "full" pa_C_full a_C_full
  pa_C_own : Addr
  p_C_own : PropOf K C "own" pa_C_own a_C_own
  m_C_claim : Meth K C "claim" a_C_claim
  m_C_undo : Meth K C "undo" a_C_undo
  m_C_renew : Meth K C "renew" a_C_renew
  t_MOST_CAP : Tok
  c_MOST_CAP : mg "MOST_CAP" = some (.int 10000 t_MOST_CAP)
  t_MOST_CLAIMS : Tok
  c_MOST_CLAIMS : mg "MOST_CLAIMS" = some (.int 40 t_MOST_CLAIMS)
  t_MOST_CLASSES : Tok
  c_MOST_CLASSES : mg "MOST_CLASSES" = some (.int 12 t_MOST_CLASSES)
  t_MOST_COST : Tok
  c_MOST_COST : mg "MOST_COST" = some (.int 1000000000 t_MOST_COST)
  t_MOST_COUNTED : Tok
  c_MOST_COUNTED : mg "MOST_COUNTED" = some (.int 5 t_MOST_COUNTED)
  t_MOST_DAMAGE : Tok
  c_MOST_DAMAGE : mg "MOST_DAMAGE" = some (.int 1000000 t_MOST_DAMAGE)
  t_MOST_EXCESS : Tok
  c_MOST_EXCESS : mg "MOST_EXCESS" = some (.int 1000 t_MOST_EXCESS)
  t_MOST_PREMIUM : Tok
  c_MOST_PREMIUM : mg "MOST_PREMIUM" = some (.int 10000 t_MOST_PREMIUM)
  t_MOST_SHARES : Tok
  c_MOST_SHARES : mg "MOST_SHARES" = some (.int 1000000000000000 t_MOST_SHARES)
  t_MOST_UP : Tok
  c_MOST_UP : mg "MOST_UP" = some (.int 5 t_MOST_UP)
  t_MOST_YEARS : Tok
  c_MOST_YEARS : mg "MOST_YEARS" = some (.int 12 t_MOST_YEARS)
  z_all : mg "all" = none
  z_bool : mg "bool" = none
  z_enumerate : mg "enumerate" = none
  z_int : mg "int" = none
  z_isinstance : mg "isinstance" = none
  z_len : mg "len" = none
  z_list : mg "list" = none
  z_max : mg "max" = none
  z_min : mg "min" = none
  z_range : mg "range" = none
  z_sorted : mg "sorted" = none
  z_sum : mg "sum" = none
  z_tuple : mg "tuple" = none
  z_zip : mg "zip" = none
  E : ZH.Errs K mg
  bd_policy_of : ∃ ds, Vals [.int 0, .non] ds ∧ Binds K f_policy_of ["premium", "excess", "cap"] ds
  kb_policy_of : KBn K f_policy_of ["premium", "excess", "cap"] 1 ["excess", "cap"] (fun us ws => us ++ ws) (fun vs zs => vs ++ zs)
  kp_policy_of_cap : ∃ gg, KBn K f_policy_of ["premium", "excess", "cap"] 1 ["cap"] gg (fun vs zs => vs ++ [.int 0] ++ zs)
  kp_policy_of_excess : ∃ gg, KBn K f_policy_of ["premium", "excess", "cap"] 1 ["excess"] gg (fun vs zs => vs ++ zs ++ [.non])
  bd_count_years : ∃ ds, Vals [.non] ds ∧ Binds K f_count_years ["policy", "count", "most", "paid"] ds
  kb_count_years : KBn K f_count_years ["policy", "count", "most", "paid"] 3 ["paid"] (fun us ws => us ++ ws) (fun vs zs => vs ++ zs)
  bd_year_at : ∃ ds, Vals [.non] ds ∧ Binds K f_year_at ["policy", "count", "most", "number", "paid"] ds
  kb_year_at : KBn K f_year_at ["policy", "count", "most", "number", "paid"] 4 ["paid"] (fun us ws => us ++ ws) (fun vs zs => vs ++ zs)
  bd_C_renew : ∃ ds, Vals [.non] ds ∧ Binds K f_C_renew ["self", "policy"] ds
  kb_C_renew : KBn K f_C_renew ["self", "policy"] 1 ["policy"] (fun us ws => us ++ ws) (fun vs zs => vs ++ zs)
  code__law_scheme_numbers_right : Addr
  tab__law_scheme_numbers_right : Addr
  C__law_scheme_numbers_right : FunC K "_law_scheme_numbers_right" "_law_scheme_numbers_right" s__law_scheme_numbers_right a__law_scheme_numbers_right code__law_scheme_numbers_right f__law_scheme_numbers_right
  mem__law_scheme_numbers_right : (tab__law_scheme_numbers_right, lamQ "_law_scheme_numbers_right") ∈ (Tbs.tb : List (Addr × PySem.Str))
  code__law_numbers_right : Addr
  tab__law_numbers_right : Addr
  C__law_numbers_right : FunC K "_law_numbers_right" "_law_numbers_right" s__law_numbers_right a__law_numbers_right code__law_numbers_right f__law_numbers_right
  mem__law_numbers_right : (tab__law_numbers_right, lamQ "_law_numbers_right") ∈ (Tbs.tb : List (Addr × PySem.Str))
  code__law_years_right : Addr
  tab__law_years_right : Addr
  C__law_years_right : FunC K "_law_years_right" "_law_years_right" s__law_years_right a__law_years_right code__law_years_right f__law_years_right
  mem__law_years_right : (tab__law_years_right, lamQ "_law_years_right") ∈ (Tbs.tb : List (Addr × PySem.Str))
  code_law : Addr
  tab_law : Addr
  C_law : FunC K "law" "law" s_law a_law code_law f_law
  mem_law : (tab_law, lamQ "law") ∈ (Tbs.tb : List (Addr × PySem.Str))
  tun : ∀ p ∈ (Tbs.tb : List (Addr × PySem.Str)), ∀ q ∈ (Tbs.tb : List (Addr × PySem.Str)), p.1 = q.1 → p.2 = q.2
section
variable {K : PySem.W.Frag} {mg : Str → Option Value}
def Txt.cs (T : Txt K mg) : List (Addr × Addr) := [(T.code__law_scheme_numbers_right, T.tab__law_scheme_numbers_right), (T.code__law_numbers_right, T.tab__law_numbers_right), (T.code__law_years_right, T.tab__law_years_right), (T.code_law, T.tab_law)]
def Txt.TBase (T : Txt K mg) (base : Heap) : Prop := ∀ p ∈ T.cs, LamX.TabB base mg p.1 p.2
theorem Txt.in__law_scheme_numbers_right (T : Txt K mg) : (T.code__law_scheme_numbers_right, T.tab__law_scheme_numbers_right) ∈ T.cs := by simp [Txt.cs]
theorem Txt.in__law_numbers_right (T : Txt K mg) : (T.code__law_numbers_right, T.tab__law_numbers_right) ∈ T.cs := by simp [Txt.cs]
theorem Txt.in__law_years_right (T : Txt K mg) : (T.code__law_years_right, T.tab__law_years_right) ∈ T.cs := by simp [Txt.cs]
theorem Txt.in_law (T : Txt K mg) : (T.code_law, T.tab_law) ∈ T.cs := by simp [Txt.cs]
end
section
variable {K : PySem.W.Frag} {mg : Str → Option Value}
abbrev Txt.k__law_well (T : Txt K mg) : PySem.W.keepIn K (.ref T.a__law_well) = true := T.F__law_well.kp
abbrev Txt.k__law_bags (T : Txt K mg) : PySem.W.keepIn K (.ref T.a__law_bags) = true := T.F__law_bags.kp
abbrev Txt.k__law_take (T : Txt K mg) : PySem.W.keepIn K (.ref T.a__law_take) = true := T.F__law_take.kp
abbrev Txt.k__law_policy (T : Txt K mg) : PySem.W.keepIn K (.ref T.a__law_policy) = true := T.F__law_policy.kp
abbrev Txt.k__law_year (T : Txt K mg) : PySem.W.keepIn K (.ref T.a__law_year) = true := T.F__law_year.kp
abbrev Txt.k__law_error (T : Txt K mg) : PySem.W.keepIn K (.ref T.a__law_error) = true := T.F__law_error.kp
abbrev Txt.k__law_outcome (T : Txt K mg) : PySem.W.keepIn K (.ref T.a__law_outcome) = true := T.F__law_outcome.kp
abbrev Txt.k_in_range (T : Txt K mg) : PySem.W.keepIn K (.ref T.a_in_range) = true := T.F_in_range.kp
abbrev Txt.k_is_policy (T : Txt K mg) : PySem.W.keepIn K (.ref T.a_is_policy) = true := T.F_is_policy.kp
abbrev Txt.k_check_policy (T : Txt K mg) : PySem.W.keepIn K (.ref T.a_check_policy) = true := T.F_check_policy.kp
abbrev Txt.k_policy_of (T : Txt K mg) : PySem.W.keepIn K (.ref T.a_policy_of) = true := T.F_policy_of.kp
abbrev Txt.k__law_all_raise (T : Txt K mg) : PySem.W.keepIn K (.ref T.a__law_all_raise) = true := T.F__law_all_raise.kp
abbrev Txt.k_is_scheme (T : Txt K mg) : PySem.W.keepIn K (.ref T.a_is_scheme) = true := T.F_is_scheme.kp
abbrev Txt.k_check_scheme (T : Txt K mg) : PySem.W.keepIn K (.ref T.a_check_scheme) = true := T.F_check_scheme.kp
abbrev Txt.k_check_number (T : Txt K mg) : PySem.W.keepIn K (.ref T.a_check_number) = true := T.F_check_number.kp
abbrev Txt.k_later (T : Txt K mg) : PySem.W.keepIn K (.ref T.a_later) = true := T.F_later.kp
abbrev Txt.k_class_after (T : Txt K mg) : PySem.W.keepIn K (.ref T.a_class_after) = true := T.F_class_after.kp
abbrev Txt.k_is_year (T : Txt K mg) : PySem.W.keepIn K (.ref T.a_is_year) = true := T.F_is_year.kp
abbrev Txt.k_check_year (T : Txt K mg) : PySem.W.keepIn K (.ref T.a_check_year) = true := T.F_check_year.kp
abbrev Txt.k_check_years (T : Txt K mg) : PySem.W.keepIn K (.ref T.a_check_years) = true := T.F_check_years.kp
abbrev Txt.k_claimed_cost (T : Txt K mg) : PySem.W.keepIn K (.ref T.a_claimed_cost) = true := T.F_claimed_cost.kp
abbrev Txt.k_cost_with (T : Txt K mg) : PySem.W.keepIn K (.ref T.a_cost_with) = true := T.F_cost_with.kp
abbrev Txt.k_best_from (T : Txt K mg) : PySem.W.keepIn K (.ref T.a_best_from) = true := T.F_best_from.kp
abbrev Txt.k_least_total (T : Txt K mg) : PySem.W.keepIn K (.ref T.a_least_total) = true := T.F_least_total.kp
abbrev Txt.k_best_counts (T : Txt K mg) : PySem.W.keepIn K (.ref T.a_best_counts) = true := T.F_best_counts.kp
abbrev Txt.k_check_damage (T : Txt K mg) : PySem.W.keepIn K (.ref T.a_check_damage) = true := T.F_check_damage.kp
abbrev Txt.k_capped (T : Txt K mg) : PySem.W.keepIn K (.ref T.a_capped) = true := T.F_capped.kp
abbrev Txt.k_far_cost (T : Txt K mg) : PySem.W.keepIn K (.ref T.a_far_cost) = true := T.F_far_cost.kp
abbrev Txt.k__law_scheme_numbers_right (T : Txt K mg) : PySem.W.keepIn K (.ref T.a__law_scheme_numbers_right) = true := T.F__law_scheme_numbers_right.kp
abbrev Txt.k_check_shares (T : Txt K mg) : PySem.W.keepIn K (.ref T.a_check_shares) = true := T.F_check_shares.kp
abbrev Txt.k_least (T : Txt K mg) : PySem.W.keepIn K (.ref T.a_least) = true := T.F_least.kp
abbrev Txt.k_least_shares (T : Txt K mg) : PySem.W.keepIn K (.ref T.a_least_shares) = true := T.F_least_shares.kp
abbrev Txt.k_year_with (T : Txt K mg) : PySem.W.keepIn K (.ref T.a_year_with) = true := T.F_year_with.kp
abbrev Txt.k_shares_of (T : Txt K mg) : PySem.W.keepIn K (.ref T.a_shares_of) = true := T.F_shares_of.kp
abbrev Txt.k_cost_of (T : Txt K mg) : PySem.W.keepIn K (.ref T.a_cost_of) = true := T.F_cost_of.kp
abbrev Txt.k_excesses_for (T : Txt K mg) : PySem.W.keepIn K (.ref T.a_excesses_for) = true := T.F_excesses_for.kp
abbrev Txt.k_rows_of (T : Txt K mg) : PySem.W.keepIn K (.ref T.a_rows_of) = true := T.F_rows_of.kp
abbrev Txt.k_count_years (T : Txt K mg) : PySem.W.keepIn K (.ref T.a_count_years) = true := T.F_count_years.kp
abbrev Txt.k_most_shares (T : Txt K mg) : PySem.W.keepIn K (.ref T.a_most_shares) = true := T.F_most_shares.kp
abbrev Txt.k_shares_for (T : Txt K mg) : PySem.W.keepIn K (.ref T.a_shares_for) = true := T.F_shares_for.kp
abbrev Txt.k_first_with (T : Txt K mg) : PySem.W.keepIn K (.ref T.a_first_with) = true := T.F_first_with.kp
abbrev Txt.k_hidden_damages (T : Txt K mg) : PySem.W.keepIn K (.ref T.a_hidden_damages) = true := T.F_hidden_damages.kp
abbrev Txt.k_year_at (T : Txt K mg) : PySem.W.keepIn K (.ref T.a_year_at) = true := T.F_year_at.kp
abbrev Txt.k__law_numbers_right (T : Txt K mg) : PySem.W.keepIn K (.ref T.a__law_numbers_right) = true := T.F__law_numbers_right.kp
abbrev Txt.k__law_years_right (T : Txt K mg) : PySem.W.keepIn K (.ref T.a__law_years_right) = true := T.F__law_years_right.kp
abbrev Txt.k_C___init__ (T : Txt K mg) : PySem.W.keepIn K (.ref T.a_C___init__) = true := T.F_C___init__.kp
abbrev Txt.k_C_full (T : Txt K mg) : PySem.W.keepIn K (.ref T.a_C_full) = true := T.F_C_full.kp
abbrev Txt.k_C_own (T : Txt K mg) : PySem.W.keepIn K (.ref T.a_C_own) = true := T.F_C_own.kp
abbrev Txt.k_C_claim (T : Txt K mg) : PySem.W.keepIn K (.ref T.a_C_claim) = true := T.F_C_claim.kp
abbrev Txt.k_C_undo (T : Txt K mg) : PySem.W.keepIn K (.ref T.a_C_undo) = true := T.F_C_undo.kp
abbrev Txt.k_C_renew (T : Txt K mg) : PySem.W.keepIn K (.ref T.a_C_renew) = true := T.F_C_renew.kp
abbrev Txt.k_law (T : Txt K mg) : PySem.W.keepIn K (.ref T.a_law) = true := T.F_law.kp
variable {P : Program} {w : World}
theorem ok__law_well (T : Txt K mg) (base : Heap) (hB : T.TBase base) : FnOk P w K mg base (L2N.CX P w) 1 T.a__law_well T.f__law_well ["cell", "turn"] (spZ K (wfX mg) 2 df__law_well) := by
  refine defZX (N := N__law_well) (ps := ["cell", "turn"]) (k := 0) (fb := body__law_well) T.F__law_well sc__law_well fun cdv A outer s H E hr => ?_
  have nd := sc__law_well.nd
  have hu := hr.units
  exact (zs_cons (zs_if (zt_cmp op_ge z_ge (zv 0) (ze_op op_pow z_pow z_int z_int)) (zs_one (zs_ret (ze_obj (za_cons (ze_op op_sub z_sub (zv 0) (ze_op op_pow z_pow z_int z_int)) (za_cons (ze_op op_mod z_mod (zv 0) z_int) (za_cons (zv 1) za_nil)))))) zs_nil) (zs_one (zs_ret (ze_obj (za_cons z_int (za_cons (ze_op op_mod z_mod (zv 0) z_int) (za_cons (zv 1) za_nil)))))))
theorem ok__law_bags (T : Txt K mg) (base : Heap) (hB : T.TBase base) : FnOk P w K mg base (L2N.CX P w) 2 T.a__law_bags T.f__law_bags ["script", "most"] (spZ K (wfX mg) 2 df__law_bags) := by
  refine defZX (N := N__law_bags) (ps := ["script", "most"]) (k := 1) (fb := body__law_bags) T.F__law_bags sc__law_bags fun cdv A outer s H E hr => ?_
  have nd := sc__law_bags.nd
  have hu := hr.units
  exact (zs_one (zs_ret (ze_lc (own := [(("k" : PySem.Str), 2), (("cell" : PySem.Str), 3)]) (by first | exact List.mem_singleton.mpr rfl | (intro i hi; exact hi) | decide) rfl nd (zi_enm (by rfl) T.z_enumerate (za_cons (ze_op op_addZ z_add (ze_slice (zv 0) zo_none (zo_some (zv 1))) (ze_lst (za_cons z_int za_nil))) za_nil)) (blkOk_by (N := N__law_bags) (sc := (defScope s__law_bags)) (by decide +kernel)) (fun _ _ _ _ _ => (pg_tup rfl (pgs_cons (pg_name (i := 2) nd rfl (Or.inl rfl)) (pgs_cons (pg_name (i := 3) nd rfl (Or.inl rfl)) pgs_nil)))) (fun _ _ _ _ _ => zts_nil) (fun _ _ _ _ _ => (ze_callU wh0 (ok__law_well T base hB) (hr.mono (by decide)) (by rfl) T.g__law_well T.k__law_well T.b__law_well (za_cons (zv 3) (za_cons (ze_op op_mulZ z_mul z_int (zv 2)) za_nil)) (lenA1 (lenA1 lenA0)))))))
theorem ok__law_take (T : Txt K mg) (base : Heap) (hB : T.TBase base) : FnOk P w K mg base (L2N.CX P w) 1 T.a__law_take T.f__law_take ["bag", "many"] (spZ K (wfX mg) 2 df__law_take) := by
  refine defZX (N := N__law_take) (ps := ["bag", "many"]) (k := 0) (fb := body__law_take) T.F__law_take sc__law_take fun cdv A outer s H E hr => ?_
  have nd := sc__law_take.nd
  have hu := hr.units
  exact (zs_cons (zs_if (zt_cmp op_gt z_gt (ze_ix ix_seq z_ix (zv 0) z_int) z_int) (zs_cons (zs_set (i := 2) nd rfl (.inl rfl) (ze_op op_mod z_mod (ze_ix ix_seq z_ix (zv 0) z_int) (zv 1))) (zs_cons (zs_put (ze_op op_fdiv z_div (ze_ix ix_seq z_ix (zv 0) z_int) (zv 1)) (zv 0) z_int) (zs_one (zs_ret (zv 2))))) zs_nil) (zs_cons (zs_put (ze_op op_addZ z_add (ze_ix ix_seq z_ix (zv 0) z_int) z_int) (zv 0) z_int) (zs_cons (zs_set (i := 3) nd rfl (.inl rfl) z_int) (zs_cons (zs_set (i := 4) nd rfl (.inl rfl) (ze_op op_mod z_mod (ze_op op_addZ z_add (ze_ix ix_seq z_ix (zv 0) z_int) (ze_op op_mulZ z_mul z_int (ze_ix ix_seq z_ix (zv 0) z_int))) (zv 3))) (zs_cons (zs_set (i := 4) nd rfl (.inl rfl) (ze_op op_mod z_mod (ze_op op_addZ z_add (ze_op op_addZ z_add (ze_op op_mulZ z_mul (zv 4) (zv 4)) (ze_op op_mulZ z_mul z_int (ze_op op_pow z_pow (ze_ix ix_seq z_ix (zv 0) z_int) z_int))) z_int) (zv 3))) (zs_one (zs_ret (ze_op op_mod z_mod (ze_op op_fdiv z_div (ze_op op_mod z_mod (ze_op op_pow z_pow (zv 4) z_int) (zv 3)) z_int) (zv 1)))))))))
theorem ok__law_policy (T : Txt K mg) (base : Heap) (hB : T.TBase base) : FnOk P w K mg base (L2N.CX P w) 2 T.a__law_policy T.f__law_policy ["bag"] (spZ K (wfX mg) 1 df__law_policy) := by
  refine defZX (N := N__law_policy) (ps := ["bag"]) (k := 1) (fb := body__law_policy) T.F__law_policy sc__law_policy fun cdv A outer s H E hr => ?_
  have nd := sc__law_policy.nd
  have hu := hr.units
  exact (zs_cons (zs_set (i := 1) nd rfl (.inl rfl) (ze_callU whX (ok__law_take T base hB) (hr.mono (by decide)) (by rfl) T.g__law_take T.k__law_take T.b__law_take (za_cons (zv 0) (za_cons z_int za_nil)) (lenA1 (lenA1 lenA0)))) (zs_cons (zs_par (i := 2) (j := 3) rfl nd rfl rfl (by decide) rfl rfl (za_cons (ze_callU whX (ok__law_take T base hB) (hr.mono (by decide)) (by rfl) T.g__law_take T.k__law_take T.b__law_take (za_cons (zv 0) (za_cons (ze_ix ix_seq z_ix (ze_lst (za_cons z_int (za_cons z_int za_nil))) (ze_op op_fdiv z_div (zv 1) z_int)) za_nil)) (lenA1 (lenA1 lenA0))) (za_cons (ze_callU whX (ok__law_take T base hB) (hr.mono (by decide)) (by rfl) T.g__law_take T.k__law_take T.b__law_take (za_cons (zv 0) (za_cons (ze_ix ix_seq z_ix (ze_lst (za_cons z_int (za_cons z_int (za_cons z_int (za_cons z_int za_nil))))) (zv 1)) za_nil)) (lenA1 (lenA1 lenA0))) za_nil)) rfl) (zs_cons (zs_set (i := 4) nd rfl (.inl rfl) (ze_lst (za_cons z_non (za_cons (ze_op op_addZ z_add (ze_op op_mulZ z_mul (zv 3) (ze_callU whX (ok__law_take T base hB) (hr.mono (by decide)) (by rfl) T.g__law_take T.k__law_take T.b__law_take (za_cons (zv 0) (za_cons z_int za_nil)) (lenA1 (lenA1 lenA0)))) (ze_callU whX (ok__law_take T base hB) (hr.mono (by decide)) (by rfl) T.g__law_take T.k__law_take T.b__law_take (za_cons (zv 0) (za_cons z_int za_nil)) (lenA1 (lenA1 lenA0)))) (za_cons (ze_callU whX (ok__law_take T base hB) (hr.mono (by decide)) (by rfl) T.g__law_take T.k__law_take T.b__law_take (za_cons (zv 0) (za_cons z_int za_nil)) (lenA1 (lenA1 lenA0))) (za_cons (ze_callU whX (ok__law_take T base hB) (hr.mono (by decide)) (by rfl) T.g__law_take T.k__law_take T.b__law_take (za_cons (zv 0) (za_cons z_int za_nil)) (lenA1 (lenA1 lenA0))) za_nil)))))) (zs_one (zs_ret (ze_tup (za_cons (zv 2) (za_cons (zv 3) (za_cons (ze_ix ix_seq z_ix (zv 4) (ze_callU whX (ok__law_take T base hB) (hr.mono (by decide)) (by rfl) T.g__law_take T.k__law_take T.b__law_take (za_cons (zv 0) (za_cons z_int za_nil)) (lenA1 (lenA1 lenA0)))) za_nil)))))))))
theorem ok__law_year (T : Txt K mg) (base : Heap) (hB : T.TBase base) : FnOk P w K mg base (L2N.CX P w) 2 T.a__law_year T.f__law_year ["bag", "most", "policy1"] (spZ K (wfX mg) 3 df__law_year) := by
  refine defZX (N := N__law_year) (ps := ["bag", "most", "policy1"]) (k := 1) (fb := body__law_year) T.F__law_year sc__law_year fun cdv A outer s H E hr => ?_
  have nd := sc__law_year.nd
  have hu := hr.units
  exact (zs_cons (zs_set (i := 3) nd rfl (.inl rfl) (ze_tup za_nil)) (zs_cons (zs_for ownX rfl (zi_rng1 (by rfl) T.z_range (za_cons (ze_callU whX (ok__law_take T base hB) (hr.mono (by decide)) (by rfl) T.g__law_take T.k__law_take T.b__law_take (za_cons (zv 0) (za_cons (ze_op op_addZ z_add (zv 1) z_int) za_nil)) (lenA1 (lenA1 lenA0))) za_nil)) (pg_name (i := 4) nd rfl (.inl rfl)) (zs_cons (zs_set (i := 5) nd rfl (.inl rfl) (ze_callB (call_max2 rfl) z_max2 (by rfl) T.z_max (by decide +kernel) (za_cons z_int (za_cons (ze_op op_sub z_sub (ze_op op_addZ z_add (ze_ix ix_seq z_ix (zv 2) z_int) (ze_callU whX (ok__law_take T base hB) (hr.mono (by decide)) (by rfl) T.g__law_take T.k__law_take T.b__law_take (za_cons (zv 0) (za_cons z_int za_nil)) (lenA1 (lenA1 lenA0)))) z_int) za_nil)))) (zs_cons (zs_set (i := 6) nd rfl (.inl rfl) (ze_lst (za_cons (ze_op op_addZ z_add z_int (ze_callU whX (ok__law_take T base hB) (hr.mono (by decide)) (by rfl) T.g__law_take T.k__law_take T.b__law_take (za_cons (zv 0) (za_cons z_int za_nil)) (lenA1 (lenA1 lenA0)))) (za_cons (zv 5) (za_cons (ze_op op_addZ z_add z_int (ze_callU whX (ok__law_take T base hB) (hr.mono (by decide)) (by rfl) T.g__law_take T.k__law_take T.b__law_take (za_cons (zv 0) (za_cons (ze_op op_addZ z_add (ze_op op_mulZ z_mul z_int (ze_ix ix_seq z_ix (zv 2) z_int)) z_int) za_nil)) (lenA1 (lenA1 lenA0)))) (za_cons (ze_op op_addZ z_add z_int (ze_callU whX (ok__law_take T base hB) (hr.mono (by decide)) (by rfl) T.g__law_take T.k__law_take T.b__law_take (za_cons (zv 0) (za_cons (ze_op op_pow z_pow z_int z_int) za_nil)) (lenA1 (lenA1 lenA0)))) za_nil)))))) (zs_one (zs_set (i := 3) nd rfl (.inl rfl) (ze_op op_addZ z_add (zv 3) (ze_tup (za_cons (ze_ix ix_seq z_ix (zv 6) (ze_callU whX (ok__law_take T base hB) (hr.mono (by decide)) (by rfl) T.g__law_take T.k__law_take T.b__law_take (za_cons (zv 0) (za_cons z_int za_nil)) (lenA1 (lenA1 lenA0)))) za_nil)))))))) (zs_one (zs_ret (zv 3)))))
theorem ok__law_error (T : Txt K mg) (base : Heap) (hB : T.TBase base) : ZH.FnE P w K mg base 1 T.a__law_error (ZH.spErr T.E) := by
  refine ZH.fnE_of (N := N__law_error) T.F__law_error sc__law_error T.b__law_error fun cdv A outer s H Q p hot hr hsp => ?_
  obtain ⟨i, c, n, hi, hn, hz, hq⟩ := hsp
  obtain ⟨hh, vs, hv, hc⟩ := id hot
  have nd := sc__law_error.nd
  have kit := fun (j : Nat) (hj : j < 7) => T.E.kit hi (T.E.at hj)
  have hof : ∃ vs, p.2.data = .fields vs := ⟨vs, hv⟩
  have hpn : (p.1, p.2) ∈ (L2H.cxH CX0 P w K mg base N__law_error "_law_error" (defScope s__law_error) T.a__law_error cdv A outer s H E0 p).pn := List.mem_singleton.mpr rfl
  have hotc : L2H.HotC (L2H.cxH CX0 P w K mg base N__law_error "_law_error" (defScope s__law_error) T.a__law_error cdv A outer s H E0 p) := ⟨p, hot, List.mem_singleton.mpr rfl⟩
  exact ⟨_, (pss_cons (ps_set (i := 1) nd rfl (Or.inl rfl) (pe_lst (pa_cons (ZH.pe_isP (i := 0) hpn (T.E.excC hi) hz hof (kit 0 (by decide)) (pv 0) (by rfl) (T.E.gAt 0 (by decide) rfl) (by rfl) T.z_isinstance) (pa_cons (ZH.pe_isP (i := 0) hpn (T.E.excC hi) hz hof (kit 1 (by decide)) (pv 0) (by rfl) (T.E.gAt 1 (by decide) rfl) (by rfl) T.z_isinstance) (pa_cons (ZH.pe_isP (i := 0) hpn (T.E.excC hi) hz hof (kit 2 (by decide)) (pv 0) (by rfl) (T.E.gAt 2 (by decide) rfl) (by rfl) T.z_isinstance) pa_nil))))) (pss_cons (ps_set (i := 1) nd rfl (Or.inl rfl) (pe_op op_cat (pv 1) (pe_lst (pa_cons (ZH.pe_isP (i := 0) hpn (T.E.excC hi) hz hof (kit 3 (by decide)) (pv 0) (by rfl) (T.E.gAt 3 (by decide) rfl) (by rfl) T.z_isinstance) (pa_cons (ZH.pe_isP (i := 0) hpn (T.E.excC hi) hz hof (kit 4 (by decide)) (pv 0) (by rfl) (T.E.gAt 4 (by decide) rfl) (by rfl) T.z_isinstance) (pa_cons (ZH.pe_isP (i := 0) hpn (T.E.excC hi) hz hof (kit 5 (by decide)) (pv 0) (by rfl) (T.E.gAt 5 (by decide) rfl) (by rfl) T.z_isinstance) pa_nil)))))) (pss_cons (ps_set (i := 2) nd rfl (Or.inl rfl) (pe_lst (pa_cons pe_str (pa_cons pe_str (pa_cons pe_str (pa_cons pe_str (pa_cons pe_str pa_nil))))))) (pss_cons (ps_set (i := 2) nd rfl (Or.inl rfl) (pe_op op_cat (pv 2) (pe_lst (pa_cons pe_str (pa_cons pe_str pa_nil))))) (pss_one (ps_ret (pe_join pe_str (ZH.pe_lcZ (own := [(("word" : PySem.Str), 3), (("good" : PySem.Str), 4)]) hotc nd (by rfl) T.z_zip (pa_cons (pv 2) (pa_cons (pe_op op_cat (pv 1) (pe_lst (pa_cons (ZH.pe_isP (i := 0) hpn (T.E.excC hi) hz hof (kit 6 (by decide)) (pv 0) (by rfl) (T.E.gAt 6 (by decide) rfl) (by rfl) T.z_isinstance) pa_nil))) pa_nil)) (blkOk_by (N := N__law_error) (sc := (defScope s__law_error)) (by decide +kernel)) (fun _ _ _ _ _ => pgs_cons (pg_name (i := 3) nd rfl (Or.inl rfl)) (pgs_cons (pg_name (i := 4) nd rfl (Or.inl rfl)) pgs_nil)) (fun _ _ _ _ _ => pts_one (pt_val (pv 4))) (fun _ _ _ _ _ => pv 3))))))))), ZH.le_read (K := K) (ZH.le_name i n hn) hq⟩
theorem txt_out : ZH.OutTxt (defScope s__law_outcome) (defBody s__law_outcome) := ⟨sc__law_outcome, rfl, rfl, rfl, rfl, rfl, _, _, _, _, _, _, _, _, _, _, _, _, _, _, _, _, _, _, _, _, _, _, _, _, _, _, rfl⟩
theorem ok_out (T : Txt K mg) (base : Heap) (hB : T.TBase base) : OutOk P w K mg base T.E 1 := ⟨_, _, _, _, T.g__law_outcome, T.k__law_outcome, T.F__law_outcome, T.b__law_outcome, txt_out, ok__law_error T base hB, T.g__law_error, T.k__law_error⟩
theorem ok_in_range (T : Txt K mg) (base : Heap) (hB : T.TBase base) : FnOk P w K mg base (L2N.CX P w) 1 T.a_in_range T.f_in_range ["value", "low", "high"] (spZ K (wfX mg) 3 df_in_range) := by
  refine defZX (N := N_in_range) (ps := ["value", "low", "high"]) (k := 0) (fb := body_in_range) T.F_in_range sc_in_range fun cdv A outer s H E hr => ?_
  have nd := sc_in_range.nd
  have hu := hr.units
  exact (zs_one (zs_ret (ze_and (ze_isi (T := .int) (zv 0) (TyNm.pe (T := .int) ⟨by rfl, T.z_int, by decide +kernel⟩) (by rfl) T.z_isinstance) (ze_and (ze_not (ze_isi (T := .bool) (zv 0) (TyNm.pe (T := .bool) ⟨by rfl, T.z_bool, by decide +kernel⟩) (by rfl) T.z_isinstance)) (ze_one (ze_chain op_le op_le z_le z_le (zv 1) (zv 0) (zv 2)))))))
theorem ok_is_policy (T : Txt K mg) (base : Heap) (hB : T.TBase base) : FnOk P w K mg base (L2N.CX P w) 2 T.a_is_policy T.f_is_policy ["value"] (spZ K (wfX mg) 1 df_is_policy) := by
  refine defZX (N := N_is_policy) (ps := ["value"]) (k := 1) (fb := body_is_policy) T.F_is_policy sc_is_policy fun cdv A outer s H E hr => ?_
  have nd := sc_is_policy.nd
  have hu := hr.units
  exact (zs_cons (zs_if (PW.pt (zw_or (zt_not (zt_val (ze_isi (T := .tuple) (zv 0) (TyNm.pe (T := .tuple) ⟨by rfl, T.z_tuple, by decide +kernel⟩) (by rfl) T.z_isinstance))) (zw_or1 (zt_cmp (op_neD hu) z_neD (ze_callB call_len_seq z_len (by rfl) T.z_len (by decide +kernel) (za_cons (zv 0) za_nil)) z_int)))) (zs_one (zs_ret z_bl)) zs_nil) (zs_cons (zs_if (PW.pt (zw_or (zt_not (zt_val (ze_callU whX (ok_in_range T base hB) (hr.mono (by decide)) (by rfl) T.g_in_range T.k_in_range T.b_in_range (za_cons (ze_ix ix_seq z_ix (zv 0) z_int) (za_cons z_int (za_cons (z_glob (by rfl) T.c_MOST_PREMIUM) za_nil))) (lenA1 (lenA1 (lenA1 lenA0)))))) (zw_or1 (zt_not (zt_val (ze_callU whX (ok_in_range T base hB) (hr.mono (by decide)) (by rfl) T.g_in_range T.k_in_range T.b_in_range (za_cons (ze_ix ix_seq z_ix (zv 0) z_int) (za_cons z_int (za_cons (z_glob (by rfl) T.c_MOST_EXCESS) za_nil))) (lenA1 (lenA1 (lenA1 lenA0))))))))) (zs_one (zs_ret z_bl)) zs_nil) (zs_one (zs_ret (ze_or (ze_cmp op_isN z_isN (ze_ix ix_seq z_ix (zv 0) z_int) z_non) (ze_one (ze_callU whX (ok_in_range T base hB) (hr.mono (by decide)) (by rfl) T.g_in_range T.k_in_range T.b_in_range (za_cons (ze_ix ix_seq z_ix (zv 0) z_int) (za_cons z_int (za_cons (z_glob (by rfl) T.c_MOST_CAP) za_nil))) (lenA1 (lenA1 (lenA1 lenA0))))))))))
theorem ok_check_policy (T : Txt K mg) (base : Heap) (hB : T.TBase base) : FnOk P w K mg base (L2N.CX P w) 3 T.a_check_policy T.f_check_policy ["value"] (spZ K (wfX mg) 1 df_check_policy) := by
  refine defZX (N := N_check_policy) (ps := ["value"]) (k := 2) (fb := body_check_policy) T.F_check_policy sc_check_policy fun cdv A outer s H E hr => ?_
  have nd := sc_check_policy.nd
  have hu := hr.units
  exact (zs_one (zs_if (zt_not (zt_val (ze_callU whX (ok_is_policy T base hB) (hr.mono (by decide)) (by rfl) T.g_is_policy T.k_is_policy T.b_is_policy (za_cons (zv 0) za_nil) (lenA1 lenA0)))) (zs_one (zs_raise (i := 0) T.E rfl takesX (T.E.at (by decide)) rfl (by rfl))) zs_nil))
theorem ok_policy_of (T : Txt K mg) (base : Heap) (hB : T.TBase base) : FnOk P w K mg base (L2N.CX P w) 4 T.a_policy_of T.f_policy_of ["premium", "excess", "cap"] (spZ K (wfX mg) 3 df_policy_of) := by
  refine defZX (N := N_policy_of) (ps := ["premium", "excess", "cap"]) (k := 3) (fb := body_policy_of) T.F_policy_of sc_policy_of fun cdv A outer s H E hr => ?_
  have nd := sc_policy_of.nd
  have hu := hr.units
  exact (zs_cons (zs_expr (ze_callU whX (ok_check_policy T base hB) (hr.mono (by decide)) (by rfl) T.g_check_policy T.k_check_policy T.b_check_policy (za_cons (ze_tup (za_cons (zv 0) (za_cons (zv 1) (za_cons (zv 2) za_nil)))) za_nil) (lenA1 lenA0))) (zs_one (zs_ret (ze_tup (za_cons (zv 0) (za_cons (zv 1) (za_cons (zv 2) za_nil)))))))
theorem txt_all : ZK.AllTxt (defScope s__law_all_raise) (defBody s__law_all_raise) := ⟨sc__law_all_raise, (by first | exact Or.inl (by decide +kernel) | exact Or.inr (Or.inl (by decide +kernel)) | exact Or.inr (Or.inr (by decide +kernel))), _, _, _, _, _, _, _, _, _, _, _, _, _, _, _, _, rfl, blkOk_by (by decide +kernel), by decide +kernel, by decide +kernel, (by first | exact Or.inl (by decide +kernel) | exact Or.inr (Or.inl (by decide +kernel)) | exact Or.inr (Or.inr (by decide +kernel)))⟩
theorem ok_all (T : Txt K mg) (base : Heap) (hB : T.TBase base) : ZK.AllOkP P w K mg base T.E 1 := ⟨_, _, _, _, _, _, _, T.g__law_all_raise, T.k__law_all_raise, T.F__law_all_raise, T.b__law_all_raise, txt_all, T.g__law_outcome, T.k__law_outcome, T.F__law_outcome, T.b__law_outcome, txt_out, ok__law_error T base hB, T.g__law_error, T.k__law_error⟩
theorem ok_is_scheme (T : Txt K mg) (base : Heap) (hB : T.TBase base) : FnOk P w K mg base (L2N.CX P w) 2 T.a_is_scheme T.f_is_scheme ["value"] (spZ K (wfX mg) 1 df_is_scheme) := by
  refine defZX (N := N_is_scheme) (ps := ["value"]) (k := 1) (fb := body_is_scheme) T.F_is_scheme sc_is_scheme fun cdv A outer s H E hr => ?_
  have nd := sc_is_scheme.nd
  have hu := hr.units
  exact (zs_cons (zs_if (PW.pt (zw_or (zt_not (zt_val (ze_isi (T := .tuple) (zv 0) (TyNm.pe (T := .tuple) ⟨by rfl, T.z_tuple, by decide +kernel⟩) (by rfl) T.z_isinstance))) (zw_or (zt_cmp (op_neD hu) z_neD (ze_callB call_len_seq z_len (by rfl) T.z_len (by decide +kernel) (za_cons (zv 0) za_nil)) z_int) (zw_or1 (zt_not (zt_val (ze_callU whX (ok_in_range T base hB) (hr.mono (by decide)) (by rfl) T.g_in_range T.k_in_range T.b_in_range (za_cons (ze_ix ix_seq z_ix (zv 0) z_int) (za_cons z_int (za_cons (z_glob (by rfl) T.c_MOST_UP) za_nil))) (lenA1 (lenA1 (lenA1 lenA0)))))))))) (zs_one (zs_ret z_bl)) zs_nil) (zs_cons (zs_set (i := 1) nd rfl (.inl rfl) (ze_ix ix_seq z_ix (zv 0) z_int)) (zs_cons (zs_if (PW.pt (zw_or (zt_not (zt_val (ze_isi (T := .tuple) (zv 1) (TyNm.pe (T := .tuple) ⟨by rfl, T.z_tuple, by decide +kernel⟩) (by rfl) T.z_isinstance))) (zw_or1 (zt_not (zt_chain op_le op_le z_le z_le z_int (ze_callB call_len_seq z_len (by rfl) T.z_len (by decide +kernel) (za_cons (zv 1) za_nil)) (z_glob (by rfl) T.c_MOST_CLASSES)))))) (zs_one (zs_ret z_bl)) zs_nil) (zs_one (zs_ret (ze_and (ze_callB (cr_all rfl) z_all (by rfl) T.z_all (by decide +kernel) (za_cons (ze_lc (own := [(("premium" : PySem.Str), 2)]) (by first | exact List.mem_singleton.mpr rfl | (intro i hi; exact hi) | decide) rfl nd (zi_seq (zv 1)) (blkOk_by (N := N_is_scheme) (sc := (defScope s_is_scheme)) (by decide +kernel)) (fun _ _ _ _ _ => (pg_name (i := 2) nd rfl (Or.inl rfl))) (fun _ _ _ _ _ => zts_nil) (fun _ _ _ _ _ => (ze_callU wh0 (ok_in_range T base hB) (hr.mono (by decide)) (by rfl) T.g_in_range T.k_in_range T.b_in_range (za_cons (zv 2) (za_cons z_int (za_cons (z_glob (by rfl) T.c_MOST_PREMIUM) za_nil))) (lenA1 (lenA1 (lenA1 lenA0)))))) za_nil)) (ze_one (ze_cmp (op_eqD hu) z_eqD (ze_callTy call_list_of z_list (by rfl) T.z_list (by decide +kernel) (za_cons (zv 1) za_nil)) (ze_callB cr_sortT z_sortT (by rfl) T.z_sorted (by decide +kernel) (za_cons (zv 1) za_nil))))))))))
theorem ok_check_scheme (T : Txt K mg) (base : Heap) (hB : T.TBase base) : FnOk P w K mg base (L2N.CX P w) 3 T.a_check_scheme T.f_check_scheme ["value"] (spZ K (wfX mg) 1 df_check_scheme) := by
  refine defZX (N := N_check_scheme) (ps := ["value"]) (k := 2) (fb := body_check_scheme) T.F_check_scheme sc_check_scheme fun cdv A outer s H E hr => ?_
  have nd := sc_check_scheme.nd
  have hu := hr.units
  exact (zs_one (zs_if (zt_not (zt_val (ze_callU whX (ok_is_scheme T base hB) (hr.mono (by decide)) (by rfl) T.g_is_scheme T.k_is_scheme T.b_is_scheme (za_cons (zv 0) za_nil) (lenA1 lenA0)))) (zs_one (zs_raise (i := 3) T.E rfl takesX (T.E.at (by decide)) rfl (by rfl))) zs_nil))
theorem ok_check_number (T : Txt K mg) (base : Heap) (hB : T.TBase base) : FnOk P w K mg base (L2N.CX P w) 2 T.a_check_number T.f_check_number ["value", "low", "high"] (spZ K (wfX mg) 3 df_check_number) := by
  refine defZX (N := N_check_number) (ps := ["value", "low", "high"]) (k := 1) (fb := body_check_number) T.F_check_number sc_check_number fun cdv A outer s H E hr => ?_
  have nd := sc_check_number.nd
  have hu := hr.units
  exact (zs_one (zs_if (zt_not (zt_val (ze_callU whX (ok_in_range T base hB) (hr.mono (by decide)) (by rfl) T.g_in_range T.k_in_range T.b_in_range (za_cons (zv 0) (za_cons (zv 1) (za_cons (zv 2) za_nil))) (lenA1 (lenA1 (lenA1 lenA0)))))) (zs_one (zs_raise (i := 4) T.E rfl takesX (T.E.at (by decide)) rfl (by rfl))) zs_nil))
theorem ok_later (T : Txt K mg) (base : Heap) (hB : T.TBase base) : FnOk P w K mg base (L2N.CX P w) 1 T.a_later T.f_later ["scheme", "level", "claims"] (spZ K (wfX mg) 3 df_later) := by
  refine defZX (N := N_later) (ps := ["scheme", "level", "claims"]) (k := 0) (fb := body_later) T.F_later sc_later fun cdv A outer s H E hr => ?_
  have nd := sc_later.nd
  have hu := hr.units
  exact (zs_cons (zs_if (zt_cmp (op_eqD hu) z_eqD (zv 2) z_int) (zs_one (zs_ret (ze_callB (call_max2 rfl) z_max2 (by rfl) T.z_max (by decide +kernel) (za_cons z_int (za_cons (ze_op op_sub z_sub (zv 1) z_int) za_nil))))) zs_nil) (zs_one (zs_ret (ze_callB (call_min2 rfl) z_min2 (by rfl) T.z_min (by decide +kernel) (za_cons (ze_op op_sub z_sub (ze_callB call_len_seq z_len (by rfl) T.z_len (by decide +kernel) (za_cons (ze_ix ix_seq z_ix (zv 0) z_int) za_nil)) z_int) (za_cons (ze_op op_addZ z_add (zv 1) (ze_op op_mulZ z_mul (zv 2) (ze_ix ix_seq z_ix (zv 0) z_int))) za_nil))))))
theorem ok_class_after (T : Txt K mg) (base : Heap) (hB : T.TBase base) : FnR P w K mg base (L2N.CX P w) 4 T.a_class_after (spS K (wfX mg) 2 df_class_after) := by
  refine defSX (N := N_class_after) (k := 3) (ps := ["scheme", "start"]) (pv := "claims") (fb := body_class_after) T.F_class_after sc_class_after (fun _ _ _ _ _ _ us rest hl => match us, rest, hl with | [_, _], [], _ => rfl | [_, _], _ :: _, _ => rfl) fun cdv A outer s H E hr => ?_
  have nd := sc_class_after.nd
  have hu := hr.units
  exact (zs_cons (zs_expr (ze_callU whX (ok_check_scheme T base hB) (hr.mono (by decide)) (by rfl) T.g_check_scheme T.k_check_scheme T.b_check_scheme (za_cons (zv 0) za_nil) (lenA1 lenA0))) (zs_cons (zs_expr (ze_callU whX (ok_check_number T base hB) (hr.mono (by decide)) (by rfl) T.g_check_number T.k_check_number T.b_check_number (za_cons (zv 1) (za_cons z_int (za_cons (ze_op op_sub z_sub (ze_callB call_len_seq z_len (by rfl) T.z_len (by decide +kernel) (za_cons (ze_ix ix_seq z_ix (zv 0) z_int) za_nil)) z_int) za_nil))) (lenA1 (lenA1 (lenA1 lenA0))))) (zs_cons (zs_for ownX rfl (zi_seq (zv 2)) (pg_name (i := 3) nd rfl (.inl rfl)) (zs_one (zs_expr (ze_callU whX (ok_check_number T base hB) (hr.mono (by decide)) (by rfl) T.g_check_number T.k_check_number T.b_check_number (za_cons (zv 3) (za_cons z_int (za_cons (z_glob (by rfl) T.c_MOST_EXCESS) za_nil))) (lenA1 (lenA1 (lenA1 lenA0))))))) (zs_cons (zs_set (i := 4) nd rfl (.inl rfl) (zv 1)) (zs_cons (zs_for ownX rfl (zi_seq (zv 2)) (pg_name (i := 3) nd rfl (.inl rfl)) (zs_one (zs_set (i := 4) nd rfl (.inl rfl) (ze_callU whX (ok_later T base hB) (hr.mono (by decide)) (by rfl) T.g_later T.k_later T.b_later (za_cons (zv 0) (za_cons (zv 4) (za_cons (zv 3) za_nil))) (lenA1 (lenA1 (lenA1 lenA0))))))) (zs_one (zs_ret (zv 4))))))))
theorem ok_is_year (T : Txt K mg) (base : Heap) (hB : T.TBase base) : FnOk P w K mg base (L2N.CX P w) 2 T.a_is_year T.f_is_year ["value"] (spZ K (wfX mg) 1 df_is_year) := by
  refine defZX (N := N_is_year) (ps := ["value"]) (k := 1) (fb := body_is_year) T.F_is_year sc_is_year fun cdv A outer s H E hr => ?_
  have nd := sc_is_year.nd
  have hu := hr.units
  exact (zs_cons (zs_if (PW.pt (zw_or (zt_not (zt_val (ze_isi (T := .tuple) (zv 0) (TyNm.pe (T := .tuple) ⟨by rfl, T.z_tuple, by decide +kernel⟩) (by rfl) T.z_isinstance))) (zw_or1 (zt_cmp op_gt z_gt (ze_callB call_len_seq z_len (by rfl) T.z_len (by decide +kernel) (za_cons (zv 0) za_nil)) (z_glob (by rfl) T.c_MOST_CLAIMS))))) (zs_one (zs_ret z_bl)) zs_nil) (zs_one (zs_ret (ze_callB (cr_all rfl) z_all (by rfl) T.z_all (by decide +kernel) (za_cons (ze_lc (own := [(("damage" : PySem.Str), 1)]) (by first | exact List.mem_singleton.mpr rfl | (intro i hi; exact hi) | decide) rfl nd (zi_seq (zv 0)) (blkOk_by (N := N_is_year) (sc := (defScope s_is_year)) (by decide +kernel)) (fun _ _ _ _ _ => (pg_name (i := 1) nd rfl (Or.inl rfl))) (fun _ _ _ _ _ => zts_nil) (fun _ _ _ _ _ => (ze_callU wh0 (ok_in_range T base hB) (hr.mono (by decide)) (by rfl) T.g_in_range T.k_in_range T.b_in_range (za_cons (zv 1) (za_cons z_int (za_cons (z_glob (by rfl) T.c_MOST_DAMAGE) za_nil))) (lenA1 (lenA1 (lenA1 lenA0)))))) za_nil)))))
theorem ok_check_year (T : Txt K mg) (base : Heap) (hB : T.TBase base) : FnOk P w K mg base (L2N.CX P w) 3 T.a_check_year T.f_check_year ["value"] (spZ K (wfX mg) 1 df_check_year) := by
  refine defZX (N := N_check_year) (ps := ["value"]) (k := 2) (fb := body_check_year) T.F_check_year sc_check_year fun cdv A outer s H E hr => ?_
  have nd := sc_check_year.nd
  have hu := hr.units
  exact (zs_one (zs_if (zt_not (zt_val (ze_callU whX (ok_is_year T base hB) (hr.mono (by decide)) (by rfl) T.g_is_year T.k_is_year T.b_is_year (za_cons (zv 0) za_nil) (lenA1 lenA0)))) (zs_one (zs_raise (i := 1) T.E rfl takesX (T.E.at (by decide)) rfl (by rfl))) zs_nil))
theorem ok_check_years (T : Txt K mg) (base : Heap) (hB : T.TBase base) : FnOk P w K mg base (L2N.CX P w) 4 T.a_check_years T.f_check_years ["value"] (spZ K (wfX mg) 1 df_check_years) := by
  refine defZX (N := N_check_years) (ps := ["value"]) (k := 3) (fb := body_check_years) T.F_check_years sc_check_years fun cdv A outer s H E hr => ?_
  have nd := sc_check_years.nd
  have hu := hr.units
  exact (zs_cons (zs_if (PW.pt (zw_or (zt_not (zt_val (ze_isi (T := .tuple) (zv 0) (TyNm.pe (T := .tuple) ⟨by rfl, T.z_tuple, by decide +kernel⟩) (by rfl) T.z_isinstance))) (zw_or1 (zt_cmp op_gt z_gt (ze_callB call_len_seq z_len (by rfl) T.z_len (by decide +kernel) (za_cons (zv 0) za_nil)) (z_glob (by rfl) T.c_MOST_YEARS))))) (zs_one (zs_raise (i := 1) T.E rfl takesX (T.E.at (by decide)) rfl (by rfl))) zs_nil) (zs_one (zs_for ownX rfl (zi_seq (zv 0)) (pg_name (i := 1) nd rfl (.inl rfl)) (zs_one (zs_expr (ze_callU whX (ok_check_year T base hB) (hr.mono (by decide)) (by rfl) T.g_check_year T.k_check_year T.b_check_year (za_cons (zv 1) za_nil) (lenA1 lenA0)))))))
theorem ok_claimed_cost (T : Txt K mg) (base : Heap) (hB : T.TBase base) : FnOk P w K mg base (L2N.CX P w) 1 T.a_claimed_cost T.f_claimed_cost ["excess", "year", "count"] (spZ K (wfX mg) 3 df_claimed_cost) := by
  refine defZX (N := N_claimed_cost) (ps := ["excess", "year", "count"]) (k := 0) (fb := body_claimed_cost) T.F_claimed_cost sc_claimed_cost fun cdv A outer s H E hr => ?_
  have nd := sc_claimed_cost.nd
  have hu := hr.units
  exact (zs_cons (zs_set (i := 3) nd rfl (.inl rfl) (ze_revL (ze_callB cr_sortT z_sortT (by rfl) T.z_sorted (by decide +kernel) (za_cons (zv 1) za_nil)))) (zs_one (zs_ret (ze_op op_addZ z_add (ze_callB (cr_sum rfl) z_sum (by rfl) T.z_sum (by decide +kernel) (za_cons (ze_lc (own := [(("damage" : PySem.Str), 4)]) (by first | exact List.mem_singleton.mpr rfl | (intro i hi; exact hi) | decide) rfl nd (zi_seq (ze_slice (zv 3) zo_none (zo_some (zv 2)))) (blkOk_by (N := N_claimed_cost) (sc := (defScope s_claimed_cost)) (by decide +kernel)) (fun _ _ _ _ _ => (pg_name (i := 4) nd rfl (Or.inl rfl))) (fun _ _ _ _ _ => zts_nil) (fun _ _ _ _ _ => (ze_callB (call_min2 rfl) z_min2 (by rfl) T.z_min (by decide +kernel) (za_cons (zv 4) (za_cons (zv 0) za_nil))))) za_nil)) (ze_callB (cr_sum rfl) z_sum (by rfl) T.z_sum (by decide +kernel) (za_cons (ze_slice (zv 3) (zo_some (zv 2)) zo_none) za_nil))))))
theorem ok_cost_with (T : Txt K mg) (base : Heap) (hB : T.TBase base) : FnOk P w K mg base (L2N.CX P w) 5 T.a_cost_with T.f_cost_with ["scheme", "excess", "start", "years", "counts"] (spZ K (wfX mg) 5 df_cost_with) := by
  refine defZX (N := N_cost_with) (ps := ["scheme", "excess", "start", "years", "counts"]) (k := 4) (fb := body_cost_with) T.F_cost_with sc_cost_with fun cdv A outer s H E hr => ?_
  have nd := sc_cost_with.nd
  have hu := hr.units
  exact (zs_cons (zs_expr (ze_callU whX (ok_check_scheme T base hB) (hr.mono (by decide)) (by rfl) T.g_check_scheme T.k_check_scheme T.b_check_scheme (za_cons (zv 0) za_nil) (lenA1 lenA0))) (zs_cons (zs_expr (ze_callU whX (ok_check_number T base hB) (hr.mono (by decide)) (by rfl) T.g_check_number T.k_check_number T.b_check_number (za_cons (zv 1) (za_cons z_int (za_cons (z_glob (by rfl) T.c_MOST_EXCESS) za_nil))) (lenA1 (lenA1 (lenA1 lenA0))))) (zs_cons (zs_expr (ze_callU whX (ok_check_number T base hB) (hr.mono (by decide)) (by rfl) T.g_check_number T.k_check_number T.b_check_number (za_cons (zv 2) (za_cons z_int (za_cons (ze_op op_sub z_sub (ze_callB call_len_seq z_len (by rfl) T.z_len (by decide +kernel) (za_cons (ze_ix ix_seq z_ix (zv 0) z_int) za_nil)) z_int) za_nil))) (lenA1 (lenA1 (lenA1 lenA0))))) (zs_cons (zs_expr (ze_callU whX (ok_check_years T base hB) (hr.mono (by decide)) (by rfl) T.g_check_years T.k_check_years T.b_check_years (za_cons (zv 3) za_nil) (lenA1 lenA0))) (zs_cons (zs_if (PW.pt (zw_or (zt_not (zt_val (ze_isi (T := .tuple) (zv 4) (TyNm.pe (T := .tuple) ⟨by rfl, T.z_tuple, by decide +kernel⟩) (by rfl) T.z_isinstance))) (zw_or1 (zt_cmp (op_neD hu) z_neD (ze_callB call_len_seq z_len (by rfl) T.z_len (by decide +kernel) (za_cons (zv 4) za_nil)) (ze_callB call_len_seq z_len (by rfl) T.z_len (by decide +kernel) (za_cons (zv 3) za_nil)))))) (zs_one (zs_raise (i := 1) T.E rfl takesX (T.E.at (by decide)) rfl (by rfl))) zs_nil) (zs_cons (zs_for ownX rfl (zi_zip (by rfl) T.z_zip (za_cons (zv 3) (za_cons (zv 4) za_nil))) (pg_tup rfl (pgs_cons (pg_name (i := 5) nd rfl (.inl rfl)) (pgs_cons (pg_name (i := 6) nd rfl (.inl rfl)) pgs_nil))) (zs_one (zs_expr (ze_callU whX (ok_check_number T base hB) (hr.mono (by decide)) (by rfl) T.g_check_number T.k_check_number T.b_check_number (za_cons (zv 6) (za_cons z_int (za_cons (ze_callB call_len_seq z_len (by rfl) T.z_len (by decide +kernel) (za_cons (zv 5) za_nil)) za_nil))) (lenA1 (lenA1 (lenA1 lenA0))))))) (zs_cons (zs_par (i := 7) (j := 8) rfl nd rfl rfl (by decide) rfl rfl (za_cons (zv 2) (za_cons z_int za_nil)) rfl) (zs_cons (zs_for ownX rfl (zi_zip (by rfl) T.z_zip (za_cons (zv 3) (za_cons (zv 4) za_nil))) (pg_tup rfl (pgs_cons (pg_name (i := 5) nd rfl (.inl rfl)) (pgs_cons (pg_name (i := 6) nd rfl (.inl rfl)) pgs_nil))) (zs_cons (zs_set (i := 8) nd rfl (.inl rfl) (ze_op op_addZ z_add (ze_op op_addZ z_add (zv 8) (ze_ix ix_seq z_ix (ze_ix ix_seq z_ix (zv 0) z_int) (zv 7))) (ze_callU whX (ok_claimed_cost T base hB) (hr.mono (by decide)) (by rfl) T.g_claimed_cost T.k_claimed_cost T.b_claimed_cost (za_cons (zv 1) (za_cons (zv 5) (za_cons (zv 6) za_nil))) (lenA1 (lenA1 (lenA1 lenA0)))))) (zs_one (zs_set (i := 7) nd rfl (.inl rfl) (ze_callU whX (ok_later T base hB) (hr.mono (by decide)) (by rfl) T.g_later T.k_later T.b_later (za_cons (zv 0) (za_cons (zv 7) (za_cons (zv 6) za_nil))) (lenA1 (lenA1 (lenA1 lenA0)))))))) (zs_one (zs_ret (zv 8)))))))))))
theorem ok_best_from (T : Txt K mg) (base : Heap) (hB : T.TBase base) : FnOk P w K mg base (L2N.CX P w) 2 T.a_best_from T.f_best_from ["scheme", "excess", "start", "years"] (spZ K (wfX mg) 4 df_best_from) := by
  refine defZX (N := N_best_from) (ps := ["scheme", "excess", "start", "years"]) (k := 1) (fb := body_best_from) T.F_best_from sc_best_from fun cdv A outer s H E hr => ?_
  have nd := sc_best_from.nd
  have hu := hr.units
  exact (zs_cons (zs_setDc (i := 4) (own := [(("level" : PySem.Str), 5)]) (by first | exact List.mem_singleton.mpr rfl | (intro i hi; exact hi) | decide) rfl nd rfl rfl (swD_true rfl rfl rfl (by decide +kernel)) (zi_rng1 (by rfl) T.z_range (za_cons (ze_callB call_len_seq z_len (by rfl) T.z_len (by decide +kernel) (za_cons (ze_ix ix_seq z_ix (zv 0) z_int) za_nil)) za_nil)) (blkOk_by (N := N_best_from) (sc := (defScope s_best_from)) (by decide +kernel)) (fun _ _ _ _ _ => (pg_name (i := 5) nd rfl (Or.inl rfl))) (fun _ _ _ _ _ => (zv 5)) (fun _ _ _ _ _ => (ze_tup (za_cons z_int (za_cons (ze_tup za_nil) za_nil))))) (zs_cons (zs_for ownX rfl (zi_seq (ze_revT (zv 3))) (pg_name (i := 6) nd rfl (.inl rfl)) (zs_cons (zs_setOwnD (i := 7) nd rfl (.inl rfl)) (zs_cons (zs_for ownX rfl (zi_rng1 (by rfl) T.z_range (za_cons (ze_callB call_len_seq z_len (by rfl) T.z_len (by decide +kernel) (za_cons (ze_ix ix_seq z_ix (zv 0) z_int) za_nil)) za_nil)) (pg_name (i := 5) nd rfl (.inl rfl)) (zs_cons (zs_setOwn (i := 8) nd rfl (.inl rfl) za_nil) (zs_cons (zs_for ownX rfl (zi_rng1 (by rfl) T.z_range (za_cons (ze_op op_addZ z_add (ze_callB call_len_seq z_len (by rfl) T.z_len (by decide +kernel) (za_cons (zv 6) za_nil)) z_int) za_nil)) (pg_name (i := 9) nd rfl (.inl rfl)) (zs_cons (zs_unp (ze_dget (hu1 hr) (zv 4) (ze_callU whX (ok_later T base hB) (hr.mono (by decide)) (by rfl) T.g_later T.k_later T.b_later (za_cons (zv 0) (za_cons (zv 5) (za_cons (zv 9) za_nil))) (lenA1 (lenA1 (lenA1 lenA0))))) (pg_tup rfl (pgs_cons (pg_name (i := 10) nd rfl (.inl rfl)) (pgs_cons (pg_name (i := 11) nd rfl (.inl rfl)) pgs_nil)))) (zs_one (zs_app (i := 8) (pv 8) (ze_tup (za_cons (ze_op op_addZ z_add (ze_op op_addZ z_add (ze_ix ix_seq z_ix (ze_ix ix_seq z_ix (zv 0) z_int) (zv 5)) (ze_callU whX (ok_claimed_cost T base hB) (hr.mono (by decide)) (by rfl) T.g_claimed_cost T.k_claimed_cost T.b_claimed_cost (za_cons (zv 1) (za_cons (zv 6) (za_cons (zv 9) za_nil))) (lenA1 (lenA1 (lenA1 lenA0))))) (zv 10)) (za_cons (ze_op op_addZ z_add (ze_tup (za_cons (zv 9) za_nil)) (zv 11)) za_nil))))))) (zss_frz 8 (zs_one (zs_dput (i := 7) (hu1 hr) (pv 7) (zv 5) (ze_callB (cr_minD rfl hu) z_minD (by rfl) T.z_min (by decide +kernel) (za_cons (zv 8) za_nil)))))))) (zss_frz 7 (zs_one (zs_set (i := 4) nd rfl (.inl rfl) (zv 7))))))) (zs_one (zs_ret (ze_dget (hu1 hr) (zv 4) (zv 2))))))
theorem ok_least_total (T : Txt K mg) (base : Heap) (hB : T.TBase base) : FnOk P w K mg base (L2N.CX P w) 5 T.a_least_total T.f_least_total ["scheme", "excess", "start", "years"] (spZ K (wfX mg) 4 df_least_total) := by
  refine defZX (N := N_least_total) (ps := ["scheme", "excess", "start", "years"]) (k := 4) (fb := body_least_total) T.F_least_total sc_least_total fun cdv A outer s H E hr => ?_
  have nd := sc_least_total.nd
  have hu := hr.units
  exact (zs_cons (zs_expr (ze_callU whX (ok_check_scheme T base hB) (hr.mono (by decide)) (by rfl) T.g_check_scheme T.k_check_scheme T.b_check_scheme (za_cons (zv 0) za_nil) (lenA1 lenA0))) (zs_cons (zs_expr (ze_callU whX (ok_check_number T base hB) (hr.mono (by decide)) (by rfl) T.g_check_number T.k_check_number T.b_check_number (za_cons (zv 1) (za_cons z_int (za_cons (z_glob (by rfl) T.c_MOST_EXCESS) za_nil))) (lenA1 (lenA1 (lenA1 lenA0))))) (zs_cons (zs_expr (ze_callU whX (ok_check_number T base hB) (hr.mono (by decide)) (by rfl) T.g_check_number T.k_check_number T.b_check_number (za_cons (zv 2) (za_cons z_int (za_cons (ze_op op_sub z_sub (ze_callB call_len_seq z_len (by rfl) T.z_len (by decide +kernel) (za_cons (ze_ix ix_seq z_ix (zv 0) z_int) za_nil)) z_int) za_nil))) (lenA1 (lenA1 (lenA1 lenA0))))) (zs_cons (zs_expr (ze_callU whX (ok_check_years T base hB) (hr.mono (by decide)) (by rfl) T.g_check_years T.k_check_years T.b_check_years (za_cons (zv 3) za_nil) (lenA1 lenA0))) (zs_one (zs_ret (ze_ix ix_seq z_ix (ze_callU whX (ok_best_from T base hB) (hr.mono (by decide)) (by rfl) T.g_best_from T.k_best_from T.b_best_from (za_cons (zv 0) (za_cons (zv 1) (za_cons (zv 2) (za_cons (zv 3) za_nil)))) (lenA1 (lenA1 (lenA1 (lenA1 lenA0))))) z_int)))))))
theorem ok_best_counts (T : Txt K mg) (base : Heap) (hB : T.TBase base) : FnOk P w K mg base (L2N.CX P w) 5 T.a_best_counts T.f_best_counts ["scheme", "excess", "start", "years"] (spZ K (wfX mg) 4 df_best_counts) := by
  refine defZX (N := N_best_counts) (ps := ["scheme", "excess", "start", "years"]) (k := 4) (fb := body_best_counts) T.F_best_counts sc_best_counts fun cdv A outer s H E hr => ?_
  have nd := sc_best_counts.nd
  have hu := hr.units
  exact (zs_cons (zs_expr (ze_callU whX (ok_check_scheme T base hB) (hr.mono (by decide)) (by rfl) T.g_check_scheme T.k_check_scheme T.b_check_scheme (za_cons (zv 0) za_nil) (lenA1 lenA0))) (zs_cons (zs_expr (ze_callU whX (ok_check_number T base hB) (hr.mono (by decide)) (by rfl) T.g_check_number T.k_check_number T.b_check_number (za_cons (zv 1) (za_cons z_int (za_cons (z_glob (by rfl) T.c_MOST_EXCESS) za_nil))) (lenA1 (lenA1 (lenA1 lenA0))))) (zs_cons (zs_expr (ze_callU whX (ok_check_number T base hB) (hr.mono (by decide)) (by rfl) T.g_check_number T.k_check_number T.b_check_number (za_cons (zv 2) (za_cons z_int (za_cons (ze_op op_sub z_sub (ze_callB call_len_seq z_len (by rfl) T.z_len (by decide +kernel) (za_cons (ze_ix ix_seq z_ix (zv 0) z_int) za_nil)) z_int) za_nil))) (lenA1 (lenA1 (lenA1 lenA0))))) (zs_cons (zs_expr (ze_callU whX (ok_check_years T base hB) (hr.mono (by decide)) (by rfl) T.g_check_years T.k_check_years T.b_check_years (za_cons (zv 3) za_nil) (lenA1 lenA0))) (zs_one (zs_ret (ze_ix ix_seq z_ix (ze_callU whX (ok_best_from T base hB) (hr.mono (by decide)) (by rfl) T.g_best_from T.k_best_from T.b_best_from (za_cons (zv 0) (za_cons (zv 1) (za_cons (zv 2) (za_cons (zv 3) za_nil)))) (lenA1 (lenA1 (lenA1 (lenA1 lenA0))))) z_int)))))))
theorem ok_check_damage (T : Txt K mg) (base : Heap) (hB : T.TBase base) : FnOk P w K mg base (L2N.CX P w) 2 T.a_check_damage T.f_check_damage ["value"] (spZ K (wfX mg) 1 df_check_damage) := by
  refine defZX (N := N_check_damage) (ps := ["value"]) (k := 1) (fb := body_check_damage) T.F_check_damage sc_check_damage fun cdv A outer s H E hr => ?_
  have nd := sc_check_damage.nd
  have hu := hr.units
  exact (zs_one (zs_if (zt_not (zt_val (ze_callU whX (ok_in_range T base hB) (hr.mono (by decide)) (by rfl) T.g_in_range T.k_in_range T.b_in_range (za_cons (zv 0) (za_cons z_int (za_cons (z_glob (by rfl) T.c_MOST_DAMAGE) za_nil))) (lenA1 (lenA1 (lenA1 lenA0)))))) (zs_one (zs_raise (i := 5) T.E rfl takesX (T.E.at (by decide)) rfl (by rfl))) zs_nil))
theorem ok_capped (T : Txt K mg) (base : Heap) (hB : T.TBase base) : FnOk P w K mg base (L2N.CX P w) 1 T.a_capped T.f_capped ["policy", "shares"] (spZ K (wfX mg) 2 df_capped) := by
  refine defZX (N := N_capped) (ps := ["policy", "shares"]) (k := 0) (fb := body_capped) T.F_capped sc_capped fun cdv A outer s H E hr => ?_
  have nd := sc_capped.nd
  have hu := hr.units
  exact (zs_one (zs_ret (ze_if (zt_cmp op_isN z_isN (ze_ix ix_seq z_ix (zv 0) z_int) z_non) (zv 1) (ze_callB (call_min2 rfl) z_min2 (by rfl) T.z_min (by decide +kernel) (za_cons (ze_ix ix_seq z_ix (zv 0) z_int) (za_cons (zv 1) za_nil))))))
theorem ok_far_cost (T : Txt K mg) (base : Heap) (hB : T.TBase base) : FnOk P w K mg base (L2N.CX P w) 4 T.a_far_cost T.f_far_cost ["policy", "rows"] (spZ K (wfX mg) 2 df_far_cost) := by
  refine defZX (N := N_far_cost) (ps := ["policy", "rows"]) (k := 3) (fb := body_far_cost) T.F_far_cost sc_far_cost fun cdv A outer s H E hr => ?_
  have nd := sc_far_cost.nd
  have hu := hr.units
  exact (zs_cons (zs_expr (ze_callU whX (ok_check_policy T base hB) (hr.mono (by decide)) (by rfl) T.g_check_policy T.k_check_policy T.b_check_policy (za_cons (zv 0) za_nil) (lenA1 lenA0))) (zs_cons (zs_set (i := 2) nd rfl (.inl rfl) (ze_and (ze_isi (T := .tuple) (zv 1) (TyNm.pe (T := .tuple) ⟨by rfl, T.z_tuple, by decide +kernel⟩) (by rfl) T.z_isinstance) (ze_one (ze_cmp op_le z_le (ze_callB call_len_seq z_len (by rfl) T.z_len (by decide +kernel) (za_cons (zv 1) za_nil)) (z_glob (by rfl) T.c_MOST_CLAIMS))))) (zs_cons (zs_if (PW.pt (zw_or (zt_not (zt_val (zv 2))) (zw_or1 (zt_not (zt_val (ze_callB (cr_all rfl) z_all (by rfl) T.z_all (by decide +kernel) (za_cons (ze_lc (own := [(("row" : PySem.Str), 3)]) (by first | exact List.mem_singleton.mpr rfl | (intro i hi; exact hi) | decide) rfl nd (zi_seq (zv 1)) (blkOk_by (N := N_far_cost) (sc := (defScope s_far_cost)) (by decide +kernel)) (fun _ _ _ _ _ => (pg_name (i := 3) nd rfl (Or.inl rfl))) (fun _ _ _ _ _ => zts_nil) (fun _ _ _ _ _ => (ze_and (ze_isi (T := .tuple) (zv 3) (TyNm.pe (T := .tuple) ⟨by rfl, T.z_tuple, by decide +kernel⟩) (by rfl) T.z_isinstance) (ze_one (ze_cmp (op_eqD hu) z_eqD (ze_callB call_len_seq z_len (by rfl) T.z_len (by decide +kernel) (za_cons (zv 3) za_nil)) z_int))))) za_nil))))))) (zs_one (zs_raise (i := 1) T.E rfl takesX (T.E.at (by decide)) rfl (by rfl))) zs_nil) (zs_cons (zs_for ownX rfl (zi_seq (zv 1)) (pg_tup rfl (pgs_cons (pg_name (i := 4) nd rfl (.inl rfl)) (pgs_cons (pg_name (i := 5) nd rfl (.inl rfl)) pgs_nil))) (zs_cons (zs_expr (ze_callU whX (ok_check_damage T base hB) (hr.mono (by decide)) (by rfl) T.g_check_damage T.k_check_damage T.b_check_damage (za_cons (zv 4) za_nil) (lenA1 lenA0))) (zs_one (zs_expr (ze_callU whX (ok_check_number T base hB) (hr.mono (by decide)) (by rfl) T.g_check_number T.k_check_number T.b_check_number (za_cons (zv 5) (za_cons z_int (za_cons (ze_op op_pow z_pow z_int z_int) za_nil))) (lenA1 (lenA1 (lenA1 lenA0)))))))) (zs_one (zs_ret (ze_op op_addZ z_add (ze_ix ix_seq z_ix (zv 0) z_int) (ze_callU whX (ok_capped T base hB) (hr.mono (by decide)) (by rfl) T.g_capped T.k_capped T.b_capped (za_cons (zv 0) (za_cons (ze_callB (cr_sum rfl) z_sum (by rfl) T.z_sum (by decide +kernel) (za_cons (ze_lc (own := [(("damage" : PySem.Str), 4), (("number" : PySem.Str), 5)]) (by first | exact List.mem_singleton.mpr rfl | (intro i hi; exact hi) | decide) rfl nd (zi_seq (zv 1)) (blkOk_by (N := N_far_cost) (sc := (defScope s_far_cost)) (by decide +kernel)) (fun _ _ _ _ _ => (pg_tup rfl (pgs_cons (pg_name (i := 4) nd rfl (Or.inl rfl)) (pgs_cons (pg_name (i := 5) nd rfl (Or.inl rfl)) pgs_nil)))) (fun _ _ _ _ _ => zts_nil) (fun _ _ _ _ _ => (ze_op op_mulZ z_mul (zv 5) (ze_callB (call_min2 rfl) z_min2 (by rfl) T.z_min (by decide +kernel) (za_cons (zv 4) (za_cons (ze_ix ix_seq z_ix (zv 0) z_int) za_nil)))))) za_nil)) za_nil)) (lenA1 (lenA1 lenA0))))))))))
set_option maxHeartbeats 0 in
theorem ok__law_scheme_numbers_right (T : Txt K mg) (base : Heap) (hB : T.TBase base) : FnOk P w K mg base (L2N.CX P w) 9 T.a__law_scheme_numbers_right T.f__law_scheme_numbers_right ["policy1"] (spZ K (wfX mg) 1 df__law_scheme_numbers_right) := by
  refine defZXC (N := N__law_scheme_numbers_right) (ps := ["policy1"]) (k := 8) (fb := body__law_scheme_numbers_right) T.C__law_scheme_numbers_right sc__law_scheme_numbers_right fun A outer s H E hr => ?_
  have nd := sc__law_scheme_numbers_right.nd
  have hu := hr.units
  refine zs_cons (zs_set (i := 1) nd rfl (.inr rfl) (ze_tup (za_cons (ze_tup (za_cons z_int (za_cons z_int za_nil))) (za_cons z_int za_nil)))) ?_
  refine zs_cons ?_ ?_
  · refine zs_for ownX rfl (zi_seq (ze_lst (za_cons z_non (za_cons z_bl (za_cons (ze_neg z_int) (za_cons z_str (za_cons (ze_op op_addZ z_add (ze_op op_pow z_pow z_int z_int) z_int) za_nil))))))) (pg_name (i := 2) nd rfl (.inr rfl)) ?_
    refine zl_begin (k := 5) (i := 3) nd rfl (.inl rfl) ?_ (by decide) ?_
    · refine pl_cons (hB (T.code__law_scheme_numbers_right, T.tab__law_scheme_numbers_right) T.in__law_scheme_numbers_right) rfl T.mem__law_scheme_numbers_right (fun p hp e => T.tun p hp _ T.mem__law_scheme_numbers_right e) rfl ⟨LamX.lamS_by (sc := defScope s__law_scheme_numbers_right) (by decide +kernel), fun _ _ _ _ _ => rfl, ?_⟩ ?_
      · exact fun A outer s H E f c' hr => (ze_callSX 2 (whCX whL) (ok_class_after T base hB) (hr.mono (by decide)) (by rfl) T.g_class_after T.k_class_after (za_cons (zv 1) (za_cons (zv 2) za_nil)) (lenA1 (lenA1 lenA0)))
      refine pl_cons (hB (T.code__law_scheme_numbers_right, T.tab__law_scheme_numbers_right) T.in__law_scheme_numbers_right) rfl T.mem__law_scheme_numbers_right (fun p hp e => T.tun p hp _ T.mem__law_scheme_numbers_right e) rfl ⟨LamX.lamS_by (sc := defScope s__law_scheme_numbers_right) (by decide +kernel), fun _ _ _ _ _ => rfl, ?_⟩ pl_nil
      exact fun A outer s H E f c' hr => (ze_callSX 2 (whCX whL) (ok_class_after T base hB) (hr.mono (by decide)) (by rfl) T.g_class_after T.k_class_after (za_cons (zv 1) (za_cons z_int (za_cons z_int (za_cons (zv 2) za_nil)))) (lenA1 (lenA1 (lenA1 (lenA1 lenA0)))))
    refine zl_step ?_ ?_
    · refine za_cat nd rfl (.inl rfl) (pv 3) ?_ (by decide)
      refine pl_cons (hB (T.code__law_scheme_numbers_right, T.tab__law_scheme_numbers_right) T.in__law_scheme_numbers_right) rfl T.mem__law_scheme_numbers_right (fun p hp e => T.tun p hp _ T.mem__law_scheme_numbers_right e) rfl ⟨LamX.lamS_by (sc := defScope s__law_scheme_numbers_right) (by decide +kernel), fun _ _ _ _ _ => rfl, ?_⟩ ?_
      · exact fun A outer s H E f c' hr => (ze_callU whL (ok_least_total T base hB) (hr.mono (by decide)) (by rfl) T.g_least_total T.k_least_total T.b_least_total (za_cons (zv 1) (za_cons (zv 2) (za_cons z_non (za_cons z_non za_nil)))) (lenA1 (lenA1 (lenA1 (lenA1 lenA0)))))
      refine pl_cons (hB (T.code__law_scheme_numbers_right, T.tab__law_scheme_numbers_right) T.in__law_scheme_numbers_right) rfl T.mem__law_scheme_numbers_right (fun p hp e => T.tun p hp _ T.mem__law_scheme_numbers_right e) rfl ⟨LamX.lamS_by (sc := defScope s__law_scheme_numbers_right) (by decide +kernel), fun _ _ _ _ _ => rfl, ?_⟩ pl_nil
      exact fun A outer s H E f c' hr => (ze_callU whL (ok_least_total T base hB) (hr.mono (by decide)) (by rfl) T.g_least_total T.k_least_total T.b_least_total (za_cons (zv 1) (za_cons z_int (za_cons (zv 2) (za_cons z_non za_nil)))) (lenA1 (lenA1 (lenA1 (lenA1 lenA0)))))
    refine zl_step ?_ ?_
    · refine za_cat nd rfl (.inl rfl) (pv 3) ?_ (by decide)
      refine pl_cons (hB (T.code__law_scheme_numbers_right, T.tab__law_scheme_numbers_right) T.in__law_scheme_numbers_right) rfl T.mem__law_scheme_numbers_right (fun p hp e => T.tun p hp _ T.mem__law_scheme_numbers_right e) rfl ⟨LamX.lamS_by (sc := defScope s__law_scheme_numbers_right) (by decide +kernel), fun _ _ _ _ _ => rfl, ?_⟩ ?_
      · exact fun A outer s H E f c' hr => (ze_callU whL (ok_best_counts T base hB) (hr.mono (by decide)) (by rfl) T.g_best_counts T.k_best_counts T.b_best_counts (za_cons (zv 1) (za_cons z_int (za_cons (zv 2) (za_cons z_non za_nil)))) (lenA1 (lenA1 (lenA1 (lenA1 lenA0)))))
      refine pl_cons (hB (T.code__law_scheme_numbers_right, T.tab__law_scheme_numbers_right) T.in__law_scheme_numbers_right) rfl T.mem__law_scheme_numbers_right (fun p hp e => T.tun p hp _ T.mem__law_scheme_numbers_right e) rfl ⟨LamX.lamS_by (sc := defScope s__law_scheme_numbers_right) (by decide +kernel), fun _ _ _ _ _ => rfl, ?_⟩ pl_nil
      exact fun A outer s H E f c' hr => (ze_callU whL (ok_cost_with T base hB) (hr.mono (by decide)) (by rfl) T.g_cost_with T.k_cost_with T.b_cost_with (za_cons (zv 1) (za_cons z_int (za_cons (zv 2) (za_cons z_non (za_cons z_non za_nil))))) (lenA1 (lenA1 (lenA1 (lenA1 (lenA1 lenA0))))))
    refine zl_step ?_ ?_
    · refine za_app (pv 3) ?_
      refine pl_cons (hB (T.code__law_scheme_numbers_right, T.tab__law_scheme_numbers_right) T.in__law_scheme_numbers_right) rfl T.mem__law_scheme_numbers_right (fun p hp e => T.tun p hp _ T.mem__law_scheme_numbers_right e) rfl ⟨LamX.lamS_by (sc := defScope s__law_scheme_numbers_right) (by decide +kernel), fun _ _ _ _ _ => rfl, ?_⟩ pl_nil
      exact fun A outer s H E f c' hr => (ze_callU whL (ok_cost_with T base hB) (hr.mono (by decide)) (by rfl) T.g_cost_with T.k_cost_with T.b_cost_with (za_cons (zv 1) (za_cons z_int (za_cons z_int (za_cons (ze_tup (za_cons (ze_tup (za_cons z_int za_nil)) za_nil)) (za_cons (ze_tup (za_cons (zv 2) za_nil)) za_nil))))) (lenA1 (lenA1 (lenA1 (lenA1 (lenA1 lenA0))))))
    refine zl_allif (argN (ok_all T base hB) (by decide) (by rfl) (hr.mono (by decide)) (pv 3)) zs_nil
  refine zl_begin (k := 5) (i := 3) nd rfl (.inl rfl) ?_ (by decide) (zl_allret (argC (ok_all T base hB) (by decide) (by rfl) (hr.mono (by decide)) (pv 3) (pl_cons (hB (T.code__law_scheme_numbers_right, T.tab__law_scheme_numbers_right) T.in__law_scheme_numbers_right) rfl T.mem__law_scheme_numbers_right (fun p hp e => T.tun p hp _ T.mem__law_scheme_numbers_right e) rfl ⟨LamX.lamS_by (sc := defScope s__law_scheme_numbers_right) (by decide +kernel), fun _ _ _ _ _ => rfl, fun A outer s H E f c' hr => (ze_callU whL (ok_far_cost T base hB) (hr.mono (by decide)) (by rfl) T.g_far_cost T.k_far_cost T.b_far_cost (za_cons (zv 0) (za_cons (ze_tup (za_cons (ze_tup (za_cons z_int (za_cons (ze_op op_addZ z_add (ze_op op_pow z_pow z_int z_int) z_int) za_nil))) za_nil)) za_nil)) (lenA1 (lenA1 lenA0)))⟩ pl_nil) (by decide)))
  refine pl_cons (hB (T.code__law_scheme_numbers_right, T.tab__law_scheme_numbers_right) T.in__law_scheme_numbers_right) rfl T.mem__law_scheme_numbers_right (fun p hp e => T.tun p hp _ T.mem__law_scheme_numbers_right e) rfl ⟨LamX.lamS_by (sc := defScope s__law_scheme_numbers_right) (by decide +kernel), fun _ _ _ _ _ => rfl, ?_⟩ ?_
  · exact fun A outer s H E f c' hr => (ze_callSX 2 (whCX whL) (ok_class_after T base hB) (hr.mono (by decide)) (by rfl) T.g_class_after T.k_class_after (za_cons (zv 1) (za_cons z_int za_nil)) (lenA1 (lenA1 lenA0)))
  refine pl_cons (hB (T.code__law_scheme_numbers_right, T.tab__law_scheme_numbers_right) T.in__law_scheme_numbers_right) rfl T.mem__law_scheme_numbers_right (fun p hp e => T.tun p hp _ T.mem__law_scheme_numbers_right e) rfl ⟨LamX.lamS_by (sc := defScope s__law_scheme_numbers_right) (by decide +kernel), fun _ _ _ _ _ => rfl, ?_⟩ pl_nil
  exact fun A outer s H E f c' hr => (ze_callU whL (ok_cost_with T base hB) (hr.mono (by decide)) (by rfl) T.g_cost_with T.k_cost_with T.b_cost_with (za_cons (zv 1) (za_cons z_int (za_cons z_int (za_cons (ze_tup (za_cons (ze_tup (za_cons z_int za_nil)) za_nil)) (za_cons (ze_tup (za_cons z_int za_nil)) za_nil))))) (lenA1 (lenA1 (lenA1 (lenA1 (lenA1 lenA0))))))
theorem ok_check_shares (T : Txt K mg) (base : Heap) (hB : T.TBase base) : FnOk P w K mg base (L2N.CX P w) 3 T.a_check_shares T.f_check_shares ["excess", "other", "shares", "most"] (spZ K (wfX mg) 4 df_check_shares) := by
  refine defZX (N := N_check_shares) (ps := ["excess", "other", "shares", "most"]) (k := 2) (fb := body_check_shares) T.F_check_shares sc_check_shares fun cdv A outer s H E hr => ?_
  have nd := sc_check_shares.nd
  have hu := hr.units
  exact (zs_cons (zs_expr (ze_callU whX (ok_check_number T base hB) (hr.mono (by decide)) (by rfl) T.g_check_number T.k_check_number T.b_check_number (za_cons (zv 0) (za_cons z_int (za_cons (z_glob (by rfl) T.c_MOST_EXCESS) za_nil))) (lenA1 (lenA1 (lenA1 lenA0))))) (zs_cons (zs_expr (ze_callU whX (ok_check_number T base hB) (hr.mono (by decide)) (by rfl) T.g_check_number T.k_check_number T.b_check_number (za_cons (zv 1) (za_cons z_int (za_cons (z_glob (by rfl) T.c_MOST_EXCESS) za_nil))) (lenA1 (lenA1 (lenA1 lenA0))))) (zs_one (zs_expr (ze_callU whX (ok_check_number T base hB) (hr.mono (by decide)) (by rfl) T.g_check_number T.k_check_number T.b_check_number (za_cons (zv 2) (za_cons z_int (za_cons (zv 3) za_nil))) (lenA1 (lenA1 (lenA1 lenA0))))))))
theorem ok_least (T : Txt K mg) (base : Heap) (hB : T.TBase base) : FnOk P w K mg base (L2N.CX P w) 1 T.a_least T.f_least ["excess", "other", "shares"] (spZ K (wfX mg) 3 df_least) := by
  refine defZX (N := N_least) (ps := ["excess", "other", "shares"]) (k := 0) (fb := body_least) T.F_least sc_least fun cdv A outer s H E hr => ?_
  have nd := sc_least.nd
  have hu := hr.units
  exact (zs_cons (zs_if (zt_cmp op_le z_le (zv 0) (zv 1)) (zs_one (zs_ret (zv 2))) zs_nil) (zs_one (zs_ret (ze_op op_addZ z_add (ze_op op_mulZ z_mul (ze_op op_fdiv z_div (zv 2) (zv 0)) (zv 1)) (ze_callB (call_min2 rfl) z_min2 (by rfl) T.z_min (by decide +kernel) (za_cons (ze_op op_mod z_mod (zv 2) (zv 0)) (za_cons (zv 1) za_nil)))))))
theorem ok_least_shares (T : Txt K mg) (base : Heap) (hB : T.TBase base) : FnOk P w K mg base (L2N.CX P w) 4 T.a_least_shares T.f_least_shares ["excess", "other", "shares"] (spZ K (wfX mg) 3 df_least_shares) := by
  refine defZX (N := N_least_shares) (ps := ["excess", "other", "shares"]) (k := 3) (fb := body_least_shares) T.F_least_shares sc_least_shares fun cdv A outer s H E hr => ?_
  have nd := sc_least_shares.nd
  have hu := hr.units
  exact (zs_cons (zs_expr (ze_callU whX (ok_check_shares T base hB) (hr.mono (by decide)) (by rfl) T.g_check_shares T.k_check_shares T.b_check_shares (za_cons (zv 0) (za_cons (zv 1) (za_cons (zv 2) (za_cons (z_glob (by rfl) T.c_MOST_SHARES) za_nil)))) (lenA1 (lenA1 (lenA1 (lenA1 lenA0)))))) (zs_one (zs_ret (ze_callU whX (ok_least T base hB) (hr.mono (by decide)) (by rfl) T.g_least T.k_least T.b_least (za_cons (zv 0) (za_cons (zv 1) (za_cons (zv 2) za_nil))) (lenA1 (lenA1 (lenA1 lenA0)))))))
theorem ok_year_with (T : Txt K mg) (base : Heap) (hB : T.TBase base) : FnOk P w K mg base (L2N.CX P w) 4 T.a_year_with T.f_year_with ["excess", "other", "shares"] (spZ K (wfX mg) 3 df_year_with) := by
  refine defZX (N := N_year_with) (ps := ["excess", "other", "shares"]) (k := 3) (fb := body_year_with) T.F_year_with sc_year_with fun cdv A outer s H E hr => ?_
  have nd := sc_year_with.nd
  have hu := hr.units
  exact (zs_cons (zs_expr (ze_callU whX (ok_check_number T base hB) (hr.mono (by decide)) (by rfl) T.g_check_number T.k_check_number T.b_check_number (za_cons (zv 0) (za_cons z_int (za_cons (z_glob (by rfl) T.c_MOST_EXCESS) za_nil))) (lenA1 (lenA1 (lenA1 lenA0))))) (zs_cons (zs_expr (ze_callU whX (ok_check_shares T base hB) (hr.mono (by decide)) (by rfl) T.g_check_shares T.k_check_shares T.b_check_shares (za_cons (zv 0) (za_cons (zv 1) (za_cons (zv 2) (za_cons (ze_op op_mulZ z_mul (z_glob (by rfl) T.c_MOST_CLAIMS) (zv 0)) za_nil)))) (lenA1 (lenA1 (lenA1 (lenA1 lenA0)))))) (zs_cons (zs_set (i := 3) nd rfl (.inl rfl) (ze_op op_mod z_mod (zv 2) (zv 0))) (zs_one (zs_ret (ze_op op_addZ z_add (ze_op op_mulTZ z_mulT (ze_tup (za_cons (zv 0) za_nil)) (ze_op op_fdiv z_div (zv 2) (zv 0))) (ze_if (zt_cmp op_gt z_gt (zv 3) z_int) (ze_tup (za_cons (zv 3) za_nil)) (ze_tup za_nil))))))))
theorem ok_shares_of (T : Txt K mg) (base : Heap) (hB : T.TBase base) : FnOk P w K mg base (L2N.CX P w) 1 T.a_shares_of T.f_shares_of ["excess", "year"] (spZ K (wfX mg) 2 df_shares_of) := by
  refine defZX (N := N_shares_of) (ps := ["excess", "year"]) (k := 0) (fb := body_shares_of) T.F_shares_of sc_shares_of fun cdv A outer s H E hr => ?_
  have nd := sc_shares_of.nd
  have hu := hr.units
  exact (zs_one (zs_ret (ze_callB (cr_sum rfl) z_sum (by rfl) T.z_sum (by decide +kernel) (za_cons (ze_lc (own := [(("damage" : PySem.Str), 2)]) (by first | exact List.mem_singleton.mpr rfl | (intro i hi; exact hi) | decide) rfl nd (zi_seq (zv 1)) (blkOk_by (N := N_shares_of) (sc := (defScope s_shares_of)) (by decide +kernel)) (fun _ _ _ _ _ => (pg_name (i := 2) nd rfl (Or.inl rfl))) (fun _ _ _ _ _ => zts_nil) (fun _ _ _ _ _ => (ze_callB (call_min2 rfl) z_min2 (by rfl) T.z_min (by decide +kernel) (za_cons (zv 2) (za_cons (zv 0) za_nil))))) za_nil))))
theorem ok_cost_of (T : Txt K mg) (base : Heap) (hB : T.TBase base) : FnOk P w K mg base (L2N.CX P w) 2 T.a_cost_of T.f_cost_of ["policy", "year"] (spZ K (wfX mg) 2 df_cost_of) := by
  refine defZX (N := N_cost_of) (ps := ["policy", "year"]) (k := 1) (fb := body_cost_of) T.F_cost_of sc_cost_of fun cdv A outer s H E hr => ?_
  have nd := sc_cost_of.nd
  have hu := hr.units
  exact (zs_one (zs_ret (ze_op op_addZ z_add (ze_ix ix_seq z_ix (zv 0) z_int) (ze_callU whX (ok_capped T base hB) (hr.mono (by decide)) (by rfl) T.g_capped T.k_capped T.b_capped (za_cons (zv 0) (za_cons (ze_callU whX (ok_shares_of T base hB) (hr.mono (by decide)) (by rfl) T.g_shares_of T.k_shares_of T.b_shares_of (za_cons (ze_ix ix_seq z_ix (zv 0) z_int) (za_cons (zv 1) za_nil)) (lenA1 (lenA1 lenA0))) za_nil)) (lenA1 (lenA1 lenA0))))))
theorem ok_excesses_for (T : Txt K mg) (base : Heap) (hB : T.TBase base) : FnOk P w K mg base (L2N.CX P w) 4 T.a_excesses_for T.f_excesses_for ["premium", "cap", "year", "paid"] (spZ K (wfX mg) 4 df_excesses_for) := by
  refine defZX (N := N_excesses_for) (ps := ["premium", "cap", "year", "paid"]) (k := 3) (fb := body_excesses_for) T.F_excesses_for sc_excesses_for fun cdv A outer s H E hr => ?_
  have nd := sc_excesses_for.nd
  have hu := hr.units
  exact (zs_cons (zs_if (zt_not (zt_val (ze_callU whX (ok_is_policy T base hB) (hr.mono (by decide)) (by rfl) T.g_is_policy T.k_is_policy T.b_is_policy (za_cons (ze_tup (za_cons (zv 0) (za_cons z_int (za_cons (zv 1) za_nil)))) za_nil) (lenA1 lenA0)))) (zs_one (zs_raise (i := 0) T.E rfl takesX (T.E.at (by decide)) rfl (by rfl))) zs_nil) (zs_cons (zs_expr (ze_callU whX (ok_check_year T base hB) (hr.mono (by decide)) (by rfl) T.g_check_year T.k_check_year T.b_check_year (za_cons (zv 2) za_nil) (lenA1 lenA0))) (zs_cons (zs_expr (ze_callU whX (ok_check_number T base hB) (hr.mono (by decide)) (by rfl) T.g_check_number T.k_check_number T.b_check_number (za_cons (zv 3) (za_cons z_int (za_cons (z_glob (by rfl) T.c_MOST_COST) za_nil))) (lenA1 (lenA1 (lenA1 lenA0))))) (zs_cons (zs_setLc (i := 4) (own := [(("excess" : PySem.Str), 5)]) (by first | exact List.mem_singleton.mpr rfl | (intro i hi; exact hi) | decide) rfl nd rfl rfl (sw_true rfl rfl rfl (by decide +kernel)) (zi_rng1 (by rfl) T.z_range (za_cons (ze_op op_addZ z_add (z_glob (by rfl) T.c_MOST_EXCESS) z_int) za_nil)) (blkOk_by (N := N_excesses_for) (sc := (defScope s_excesses_for)) (by decide +kernel)) (fun _ _ _ _ _ => (pg_name (i := 5) nd rfl (Or.inl rfl))) (fun _ _ _ _ _ => (zts_one (zt_cmp (op_eqD hu) z_eqD (ze_callU wh0 (ok_cost_of T base hB) (hr.mono (by decide)) (by rfl) T.g_cost_of T.k_cost_of T.b_cost_of (za_cons (ze_tup (za_cons (zv 0) (za_cons (zv 5) (za_cons (zv 1) za_nil)))) (za_cons (zv 2) za_nil)) (lenA1 (lenA1 lenA0))) (zv 3)))) (fun _ _ _ _ _ => (zv 5))) (zs_one (zs_ret (ze_if (zt_cmp (op_neD hu) z_neD (zv 4) (ze_lst za_nil)) (ze_tup (za_cons (ze_ix ix_seq z_ix (zv 4) z_int) (za_cons (ze_ix ix_seq z_ix (zv 4) (ze_neg z_int)) za_nil))) z_non)))))))
theorem ok_rows_of (T : Txt K mg) (base : Heap) (hB : T.TBase base) : FnOk P w K mg base (L2N.CX P w) 4 T.a_rows_of T.f_rows_of ["policy", "count", "most", "paid"] (spZ K (wfX mg) 4 df_rows_of) := by
  refine defZX (N := N_rows_of) (ps := ["policy", "count", "most", "paid"]) (k := 3) (fb := body_rows_of) T.F_rows_of sc_rows_of fun cdv A outer s H E hr => ?_
  have nd := sc_rows_of.nd
  have hu := hr.units
  exact (zs_cons (zs_expr (ze_callU whX (ok_check_policy T base hB) (hr.mono (by decide)) (by rfl) T.g_check_policy T.k_check_policy T.b_check_policy (za_cons (zv 0) za_nil) (lenA1 lenA0))) (zs_cons (zs_expr (ze_callU whX (ok_check_number T base hB) (hr.mono (by decide)) (by rfl) T.g_check_number T.k_check_number T.b_check_number (za_cons (zv 1) (za_cons z_int (za_cons (z_glob (by rfl) T.c_MOST_COUNTED) za_nil))) (lenA1 (lenA1 (lenA1 lenA0))))) (zs_cons (zs_expr (ze_callU whX (ok_check_number T base hB) (hr.mono (by decide)) (by rfl) T.g_check_number T.k_check_number T.b_check_number (za_cons (zv 2) (za_cons z_int (za_cons (z_glob (by rfl) T.c_MOST_COUNTED) za_nil))) (lenA1 (lenA1 (lenA1 lenA0))))) (zs_cons (zs_if (zt_cmp op_notN z_notN (zv 3) z_non) (zs_one (zs_expr (ze_callU whX (ok_check_number T base hB) (hr.mono (by decide)) (by rfl) T.g_check_number T.k_check_number T.b_check_number (za_cons (zv 3) (za_cons z_int (za_cons (ze_op op_pow z_pow z_int z_int) za_nil))) (lenA1 (lenA1 (lenA1 lenA0)))))) zs_nil) (zs_cons (zs_set (i := 4) nd rfl (.inl rfl) (ze_lst (za_cons (ze_tup za_nil) za_nil))) (zs_cons (zs_for ownX rfl (zi_rng1 (by rfl) T.z_range (za_cons (zv 1) za_nil)) (pg_name (i := 5) nd rfl (.inl rfl)) (zs_cons (zs_set (i := 6) nd rfl (.inl rfl) (ze_lst za_nil)) (zs_cons (zs_for ownX rfl (zi_seq (zv 4)) (pg_name (i := 7) nd rfl (.inr rfl)) (zs_one (zs_set (i := 6) nd rfl (.inl rfl) (ze_op op_addZ z_add (zv 6) (ze_lc (own := [(("damage" : PySem.Str), 8)]) (by first | exact List.mem_singleton.mpr rfl | (intro i hi; exact hi) | decide) rfl nd (zi_rng2 (by rfl) T.z_range (za_cons z_int (za_cons (ze_op op_addZ z_add (zv 2) z_int) za_nil))) (blkOk_by (N := N_rows_of) (sc := (defScope s_rows_of)) (by decide +kernel)) (fun _ _ _ _ _ => (pg_name (i := 8) nd rfl (Or.inl rfl))) (fun _ _ _ _ _ => zts_nil) (fun _ _ _ _ _ => (ze_op op_addZ z_add (zv 7) (ze_tup (za_cons (zv 8) za_nil))))))))) (zs_one (zs_set (i := 4) nd rfl (.inl rfl) (zv 6)))))) (zs_one (zs_ret (ze_lc (own := [(("row" : PySem.Str), 7)]) (by first | exact List.mem_singleton.mpr rfl | (intro i hi; exact hi) | decide) rfl nd (zi_seq (zv 4)) (blkOk_by (N := N_rows_of) (sc := (defScope s_rows_of)) (by decide +kernel)) (fun _ _ _ _ _ => (pg_name (i := 7) nd rfl (Or.inl rfl))) (fun _ _ _ _ _ => (zts_one (PW.pt (zw_or (zt_cmp op_isN z_isN (zv 3) z_non) (zw_or1 (zt_cmp (op_eqD hu) z_eqD (ze_callU wh0 (ok_cost_of T base hB) (hr.mono (by decide)) (by rfl) T.g_cost_of T.k_cost_of T.b_cost_of (za_cons (zv 0) (za_cons (zv 7) za_nil)) (lenA1 (lenA1 lenA0))) (zv 3))))))) (fun _ _ _ _ _ => (zv 7)))))))))))
theorem ok_count_years (T : Txt K mg) (base : Heap) (hB : T.TBase base) : FnOk P w K mg base (L2N.CX P w) 5 T.a_count_years T.f_count_years ["policy", "count", "most", "paid"] (spZ K (wfX mg) 4 df_count_years) := by
  refine defZX (N := N_count_years) (ps := ["policy", "count", "most", "paid"]) (k := 4) (fb := body_count_years) T.F_count_years sc_count_years fun cdv A outer s H E hr => ?_
  have nd := sc_count_years.nd
  have hu := hr.units
  exact (zs_one (zs_ret (ze_callB call_len_seq z_len (by rfl) T.z_len (by decide +kernel) (za_cons (ze_callU whX (ok_rows_of T base hB) (hr.mono (by decide)) (by rfl) T.g_rows_of T.k_rows_of T.b_rows_of (za_cons (zv 0) (za_cons (zv 1) (za_cons (zv 2) (za_cons (zv 3) za_nil)))) (lenA1 (lenA1 (lenA1 (lenA1 lenA0))))) za_nil))))
theorem ok_most_shares (T : Txt K mg) (base : Heap) (hB : T.TBase base) : FnOk P w K mg base (L2N.CX P w) 4 T.a_most_shares T.f_most_shares ["excess", "other", "shares"] (spZ K (wfX mg) 3 df_most_shares) := by
  refine defZX (N := N_most_shares) (ps := ["excess", "other", "shares"]) (k := 3) (fb := body_most_shares) T.F_most_shares sc_most_shares fun cdv A outer s H E hr => ?_
  have nd := sc_most_shares.nd
  have hu := hr.units
  exact (zs_cons (zs_expr (ze_callU whX (ok_check_shares T base hB) (hr.mono (by decide)) (by rfl) T.g_check_shares T.k_check_shares T.b_check_shares (za_cons (zv 0) (za_cons (zv 1) (za_cons (zv 2) (za_cons (z_glob (by rfl) T.c_MOST_SHARES) za_nil)))) (lenA1 (lenA1 (lenA1 (lenA1 lenA0)))))) (zs_cons (zs_if (zt_cmp op_le z_le (zv 1) (zv 0)) (zs_one (zs_ret (ze_if (zt_cmp op_gt z_gt (zv 1) z_int) (zv 2) z_int))) zs_nil) (zs_one (zs_ret (ze_op op_addZ z_add (ze_op op_mulZ z_mul (ze_op op_fdiv z_div (zv 2) (zv 0)) (zv 1)) (ze_op op_mod z_mod (zv 2) (zv 0)))))))
theorem ok_shares_for (T : Txt K mg) (base : Heap) (hB : T.TBase base) : FnOk P w K mg base (L2N.CX P w) 4 T.a_shares_for T.f_shares_for ["policy", "paid"] (spZ K (wfX mg) 2 df_shares_for) := by
  refine defZX (N := N_shares_for) (ps := ["policy", "paid"]) (k := 3) (fb := body_shares_for) T.F_shares_for sc_shares_for fun cdv A outer s H E hr => ?_
  have nd := sc_shares_for.nd
  have hu := hr.units
  exact (zs_cons (zs_expr (ze_callU whX (ok_check_policy T base hB) (hr.mono (by decide)) (by rfl) T.g_check_policy T.k_check_policy T.b_check_policy (za_cons (zv 0) za_nil) (lenA1 lenA0))) (zs_cons (zs_expr (ze_callU whX (ok_check_number T base hB) (hr.mono (by decide)) (by rfl) T.g_check_number T.k_check_number T.b_check_number (za_cons (zv 1) (za_cons z_int (za_cons (z_glob (by rfl) T.c_MOST_COST) za_nil))) (lenA1 (lenA1 (lenA1 lenA0))))) (zs_cons (zs_par3 (i := 2) (j := 3) (l := 4) rfl nd rfl rfl rfl (by decide) (by decide) (by decide) rfl rfl rfl (za_cons (ze_op op_sub z_sub (zv 1) (ze_ix ix_seq z_ix (zv 0) z_int)) (za_cons (ze_ix ix_seq z_ix (zv 0) z_int) (za_cons (ze_ix ix_seq z_ix (zv 0) z_int) za_nil))) rfl) (zs_cons (zs_if (PW.pt (zw_or (zt_cmp op_lt z_lt (zv 2) z_int) (zw_or (PW.pt (zw_and (zt_cmp (op_eqD hu) z_eqD (zv 3) z_int) (zw_and1 (zt_cmp op_gt z_gt (zv 2) z_int)))) (zw_or1 (PW.pt (zw_and (zt_cmp op_notN z_notN (zv 4) z_non) (zw_and1 (zt_cmp op_gt z_gt (zv 2) (zv 4))))))))) (zs_one (zs_ret z_non)) zs_nil) (zs_one (zs_ret (ze_if (PW.pt (zw_and (zt_cmp op_gt z_gt (zv 3) z_int) (zw_and1 (zt_cmp (op_eqD hu) z_eqD (zv 2) (zv 4))))) (ze_tup (za_cons (zv 2) (za_cons z_non za_nil))) (ze_tup (za_cons (zv 2) (za_cons (zv 2) za_nil))))))))))
theorem ok_first_with (T : Txt K mg) (base : Heap) (hB : T.TBase base) : FnOk P w K mg base (L2N.CX P w) 1 T.a_first_with T.f_first_with ["policy", "before", "paid"] (spZ K (wfX mg) 3 df_first_with) := by
  refine defZX (N := N_first_with) (ps := ["policy", "before", "paid"]) (k := 0) (fb := body_first_with) T.F_first_with sc_first_with fun cdv A outer s H E hr => ?_
  have nd := sc_first_with.nd
  have hu := hr.units
  exact (zs_cons (zs_set (i := 3) nd rfl (.inl rfl) (ze_op op_sub z_sub (ze_op op_sub z_sub (zv 2) (ze_ix ix_seq z_ix (zv 0) z_int)) (zv 1))) (zs_cons (zs_set (i := 4) nd rfl (.inl rfl) (ze_if (zt_cmp op_isN z_isN (ze_ix ix_seq z_ix (zv 0) z_int) z_non) (ze_op op_addZ z_add (zv 1) (ze_ix ix_seq z_ix (zv 0) z_int)) (ze_callB (call_min2 rfl) z_min2 (by rfl) T.z_min (by decide +kernel) (za_cons (ze_ix ix_seq z_ix (zv 0) z_int) (za_cons (ze_op op_addZ z_add (zv 1) (ze_ix ix_seq z_ix (zv 0) z_int)) za_nil))))) (zs_cons (zs_if (zt_cmp op_lt z_lt (ze_op op_addZ z_add (ze_ix ix_seq z_ix (zv 0) z_int) (zv 4)) (zv 2)) (zs_one (zs_ret z_non)) zs_nil) (zs_one (zs_ret (ze_callB (call_max2 rfl) z_max2 (by rfl) T.z_max (by decide +kernel) (za_cons z_int (za_cons (zv 3) za_nil))))))))
theorem ok_hidden_damages (T : Txt K mg) (base : Heap) (hB : T.TBase base) : FnOk P w K mg base (L2N.CX P w) 4 T.a_hidden_damages T.f_hidden_damages ["policy", "year", "paid"] (spZ K (wfX mg) 3 df_hidden_damages) := by
  refine defZX (N := N_hidden_damages) (ps := ["policy", "year", "paid"]) (k := 3) (fb := body_hidden_damages) T.F_hidden_damages sc_hidden_damages fun cdv A outer s H E hr => ?_
  have nd := sc_hidden_damages.nd
  have hu := hr.units
  exact (zs_cons (zs_expr (ze_callU whX (ok_check_policy T base hB) (hr.mono (by decide)) (by rfl) T.g_check_policy T.k_check_policy T.b_check_policy (za_cons (zv 0) za_nil) (lenA1 lenA0))) (zs_cons (zs_expr (ze_callU whX (ok_check_year T base hB) (hr.mono (by decide)) (by rfl) T.g_check_year T.k_check_year T.b_check_year (za_cons (zv 1) za_nil) (lenA1 lenA0))) (zs_cons (zs_expr (ze_callU whX (ok_check_number T base hB) (hr.mono (by decide)) (by rfl) T.g_check_number T.k_check_number T.b_check_number (za_cons (zv 2) (za_cons z_int (za_cons (z_glob (by rfl) T.c_MOST_COST) za_nil))) (lenA1 (lenA1 (lenA1 lenA0))))) (zs_cons (zs_par3 (i := 3) (j := 4) (l := 5) rfl nd rfl rfl rfl (by decide) (by decide) (by decide) rfl rfl rfl (za_cons (ze_callU whX (ok_shares_of T base hB) (hr.mono (by decide)) (by rfl) T.g_shares_of T.k_shares_of T.b_shares_of (za_cons (ze_ix ix_seq z_ix (zv 0) z_int) (za_cons (zv 1) za_nil)) (lenA1 (lenA1 lenA0))) (za_cons (ze_ix ix_seq z_ix (zv 0) z_int) (za_cons (ze_ix ix_seq z_ix (zv 0) z_int) za_nil))) rfl) (zs_cons (zs_par (i := 6) (j := 7) rfl nd rfl rfl (by decide) rfl rfl (za_cons (ze_callU whX (ok_first_with T base hB) (hr.mono (by decide)) (by rfl) T.g_first_with T.k_first_with T.b_first_with (za_cons (zv 0) (za_cons (zv 3) (za_cons (zv 2) za_nil))) (lenA1 (lenA1 (lenA1 lenA0)))) (za_cons (ze_callU whX (ok_first_with T base hB) (hr.mono (by decide)) (by rfl) T.g_first_with T.k_first_with T.b_first_with (za_cons (zv 0) (za_cons (zv 3) (za_cons (ze_op op_addZ z_add (zv 2) z_int) za_nil))) (lenA1 (lenA1 (lenA1 lenA0)))) za_nil)) rfl) (zs_cons (zs_if (PW.pt (zw_or (zt_cmp op_isN z_isN (zv 6) z_non) (zw_or1 (zt_cmp (op_eqD hu) z_eqD (zv 6) (zv 7))))) (zs_one (zs_ret z_non)) zs_nil) (zs_one (zs_ret (ze_tup (za_cons (zv 6) (za_cons (ze_if (zt_cmp op_isN z_isN (zv 7) z_non) (z_glob (by rfl) T.c_MOST_DAMAGE) (ze_op op_sub z_sub (zv 7) z_int)) za_nil)))))))))))
theorem ok_year_at (T : Txt K mg) (base : Heap) (hB : T.TBase base) : FnOk P w K mg base (L2N.CX P w) 5 T.a_year_at T.f_year_at ["policy", "count", "most", "number", "paid"] (spZ K (wfX mg) 5 df_year_at) := by
  refine defZX (N := N_year_at) (ps := ["policy", "count", "most", "number", "paid"]) (k := 4) (fb := body_year_at) T.F_year_at sc_year_at fun cdv A outer s H E hr => ?_
  have nd := sc_year_at.nd
  have hu := hr.units
  exact (zs_cons (zs_set (i := 5) nd rfl (.inl rfl) (ze_callU whX (ok_rows_of T base hB) (hr.mono (by decide)) (by rfl) T.g_rows_of T.k_rows_of T.b_rows_of (za_cons (zv 0) (za_cons (zv 1) (za_cons (zv 2) (za_cons (zv 4) za_nil)))) (lenA1 (lenA1 (lenA1 (lenA1 lenA0)))))) (zs_cons (zs_if (zt_not (zt_val (ze_callU whX (ok_in_range T base hB) (hr.mono (by decide)) (by rfl) T.g_in_range T.k_in_range T.b_in_range (za_cons (zv 3) (za_cons z_int (za_cons (ze_op op_sub z_sub (ze_callB call_len_seq z_len (by rfl) T.z_len (by decide +kernel) (za_cons (zv 5) za_nil)) z_int) za_nil))) (lenA1 (lenA1 (lenA1 lenA0)))))) (zs_one (zs_raise (i := 4) T.E rfl takesX (T.E.at (by decide)) rfl (by rfl))) zs_nil) (zs_one (zs_ret (ze_ix ix_seq z_ix (zv 5) (zv 3))))))
set_option maxHeartbeats 0 in
theorem ok__law_numbers_right (T : Txt K mg) (base : Heap) (hB : T.TBase base) : FnOk P w K mg base (L2N.CX P w) 13 T.a__law_numbers_right T.f__law_numbers_right ["policy1", "year"] (spZ K (wfX mg) 2 df__law_numbers_right) := by
  refine defZXC (N := N__law_numbers_right) (ps := ["policy1", "year"]) (k := 12) (fb := body__law_numbers_right) T.C__law_numbers_right sc__law_numbers_right fun A outer s H E hr => ?_
  have nd := sc__law_numbers_right.nd
  have hu := hr.units
  refine zs_cons ?_ ?_
  · refine zs_for ownX rfl (zi_seq (ze_lst (za_cons z_non (za_cons z_bl (za_cons (ze_neg z_int) (za_cons z_str (za_cons (ze_op op_addZ z_add (ze_op op_pow z_pow z_int z_int) z_int) za_nil))))))) (pg_name (i := 2) nd rfl (.inr rfl)) ?_
    refine zl_begin (k := 9) (i := 3) nd rfl (.inl rfl) ?_ (by decide) ?_
    · refine pl_cons (hB (T.code__law_numbers_right, T.tab__law_numbers_right) T.in__law_numbers_right) rfl T.mem__law_numbers_right (fun p hp e => T.tun p hp _ T.mem__law_numbers_right e) rfl ⟨LamX.lamS_by (sc := defScope s__law_numbers_right) (by decide +kernel), fun _ _ _ _ _ => rfl, ?_⟩ ?_
      · exact fun A outer s H E f c' hr => (ze_callU whL (ok_least_shares T base hB) (hr.mono (by decide)) (by rfl) T.g_least_shares T.k_least_shares T.b_least_shares (za_cons (zv 2) (za_cons z_int (za_cons z_int za_nil))) (lenA1 (lenA1 (lenA1 lenA0))))
      refine pl_cons (hB (T.code__law_numbers_right, T.tab__law_numbers_right) T.in__law_numbers_right) rfl T.mem__law_numbers_right (fun p hp e => T.tun p hp _ T.mem__law_numbers_right e) rfl ⟨LamX.lamS_by (sc := defScope s__law_numbers_right) (by decide +kernel), fun _ _ _ _ _ => rfl, ?_⟩ ?_
      · exact fun A outer s H E f c' hr => (ze_callU whL (ok_least_shares T base hB) (hr.mono (by decide)) (by rfl) T.g_least_shares T.k_least_shares T.b_least_shares (za_cons z_int (za_cons (zv 2) (za_cons z_int za_nil))) (lenA1 (lenA1 (lenA1 lenA0))))
      refine pl_cons (hB (T.code__law_numbers_right, T.tab__law_numbers_right) T.in__law_numbers_right) rfl T.mem__law_numbers_right (fun p hp e => T.tun p hp _ T.mem__law_numbers_right e) rfl ⟨LamX.lamS_by (sc := defScope s__law_numbers_right) (by decide +kernel), fun _ _ _ _ _ => rfl, ?_⟩ pl_nil
      exact fun A outer s H E f c' hr => (ze_callU whL (ok_least_shares T base hB) (hr.mono (by decide)) (by rfl) T.g_least_shares T.k_least_shares T.b_least_shares (za_cons z_int (za_cons z_int (za_cons (zv 2) za_nil))) (lenA1 (lenA1 (lenA1 lenA0))))
    refine zl_step ?_ ?_
    · refine za_cat nd rfl (.inl rfl) (pv 3) ?_ (by decide)
      refine pl_cons (hB (T.code__law_numbers_right, T.tab__law_numbers_right) T.in__law_numbers_right) rfl T.mem__law_numbers_right (fun p hp e => T.tun p hp _ T.mem__law_numbers_right e) rfl ⟨LamX.lamS_by (sc := defScope s__law_numbers_right) (by decide +kernel), fun _ _ _ _ _ => rfl, ?_⟩ ?_
      · exact fun A outer s H E f c' hr => (ze_callU whL (ok_most_shares T base hB) (hr.mono (by decide)) (by rfl) T.g_most_shares T.k_most_shares T.b_most_shares (za_cons (zv 2) (za_cons z_int (za_cons z_int za_nil))) (lenA1 (lenA1 (lenA1 lenA0))))
      refine pl_cons (hB (T.code__law_numbers_right, T.tab__law_numbers_right) T.in__law_numbers_right) rfl T.mem__law_numbers_right (fun p hp e => T.tun p hp _ T.mem__law_numbers_right e) rfl ⟨LamX.lamS_by (sc := defScope s__law_numbers_right) (by decide +kernel), fun _ _ _ _ _ => rfl, ?_⟩ ?_
      · exact fun A outer s H E f c' hr => (ze_callU whL (ok_most_shares T base hB) (hr.mono (by decide)) (by rfl) T.g_most_shares T.k_most_shares T.b_most_shares (za_cons z_int (za_cons (zv 2) (za_cons z_int za_nil))) (lenA1 (lenA1 (lenA1 lenA0))))
      refine pl_cons (hB (T.code__law_numbers_right, T.tab__law_numbers_right) T.in__law_numbers_right) rfl T.mem__law_numbers_right (fun p hp e => T.tun p hp _ T.mem__law_numbers_right e) rfl ⟨LamX.lamS_by (sc := defScope s__law_numbers_right) (by decide +kernel), fun _ _ _ _ _ => rfl, ?_⟩ pl_nil
      exact fun A outer s H E f c' hr => (ze_callU whL (ok_most_shares T base hB) (hr.mono (by decide)) (by rfl) T.g_most_shares T.k_most_shares T.b_most_shares (za_cons z_int (za_cons z_int (za_cons (zv 2) za_nil))) (lenA1 (lenA1 (lenA1 lenA0))))
    refine zl_step ?_ ?_
    · refine za_cat nd rfl (.inl rfl) (pv 3) ?_ (by decide)
      refine pl_cons (hB (T.code__law_numbers_right, T.tab__law_numbers_right) T.in__law_numbers_right) rfl T.mem__law_numbers_right (fun p hp e => T.tun p hp _ T.mem__law_numbers_right e) rfl ⟨LamX.lamS_by (sc := defScope s__law_numbers_right) (by decide +kernel), fun _ _ _ _ _ => rfl, ?_⟩ ?_
      · exact fun A outer s H E f c' hr => (ze_callU whL (ok_year_with T base hB) (hr.mono (by decide)) (by rfl) T.g_year_with T.k_year_with T.b_year_with (za_cons (zv 2) (za_cons z_int (za_cons z_int za_nil))) (lenA1 (lenA1 (lenA1 lenA0))))
      refine pl_cons (hB (T.code__law_numbers_right, T.tab__law_numbers_right) T.in__law_numbers_right) rfl T.mem__law_numbers_right (fun p hp e => T.tun p hp _ T.mem__law_numbers_right e) rfl ⟨LamX.lamS_by (sc := defScope s__law_numbers_right) (by decide +kernel), fun _ _ _ _ _ => rfl, ?_⟩ ?_
      · exact fun A outer s H E f c' hr => (ze_callU whL (ok_year_with T base hB) (hr.mono (by decide)) (by rfl) T.g_year_with T.k_year_with T.b_year_with (za_cons z_int (za_cons (zv 2) (za_cons z_int za_nil))) (lenA1 (lenA1 (lenA1 lenA0))))
      refine pl_cons (hB (T.code__law_numbers_right, T.tab__law_numbers_right) T.in__law_numbers_right) rfl T.mem__law_numbers_right (fun p hp e => T.tun p hp _ T.mem__law_numbers_right e) rfl ⟨LamX.lamS_by (sc := defScope s__law_numbers_right) (by decide +kernel), fun _ _ _ _ _ => rfl, ?_⟩ pl_nil
      exact fun A outer s H E f c' hr => (ze_callU whL (ok_year_with T base hB) (hr.mono (by decide)) (by rfl) T.g_year_with T.k_year_with T.b_year_with (za_cons z_int (za_cons z_int (za_cons (zv 2) za_nil))) (lenA1 (lenA1 (lenA1 lenA0))))
    refine zl_step ?_ ?_
    · refine za_cat nd rfl (.inl rfl) (pv 3) ?_ (by decide)
      refine pl_cons (hB (T.code__law_numbers_right, T.tab__law_numbers_right) T.in__law_numbers_right) rfl T.mem__law_numbers_right (fun p hp e => T.tun p hp _ T.mem__law_numbers_right e) rfl ⟨LamX.lamS_by (sc := defScope s__law_numbers_right) (by decide +kernel), fun _ _ _ _ _ => rfl, ?_⟩ ?_
      · exact fun A outer s H E f c' hr => (ze_callU whL (ok_shares_for T base hB) (hr.mono (by decide)) (by rfl) T.g_shares_for T.k_shares_for T.b_shares_for (za_cons (zv 0) (za_cons (zv 2) za_nil)) (lenA1 (lenA1 lenA0)))
      refine pl_cons (hB (T.code__law_numbers_right, T.tab__law_numbers_right) T.in__law_numbers_right) rfl T.mem__law_numbers_right (fun p hp e => T.tun p hp _ T.mem__law_numbers_right e) rfl ⟨LamX.lamS_by (sc := defScope s__law_numbers_right) (by decide +kernel), fun _ _ _ _ _ => rfl, ?_⟩ pl_nil
      exact fun A outer s H E f c' hr => (ze_callU whL (ok_hidden_damages T base hB) (hr.mono (by decide)) (by rfl) T.g_hidden_damages T.k_hidden_damages T.b_hidden_damages (za_cons (zv 0) (za_cons (zv 1) (za_cons (zv 2) za_nil))) (lenA1 (lenA1 (lenA1 lenA0))))
    refine zl_step ?_ ?_
    · refine za_app (pv 3) ?_
      refine pl_cons (hB (T.code__law_numbers_right, T.tab__law_numbers_right) T.in__law_numbers_right) rfl T.mem__law_numbers_right (fun p hp e => T.tun p hp _ T.mem__law_numbers_right e) rfl ⟨LamX.lamS_by (sc := defScope s__law_numbers_right) (by decide +kernel), fun _ _ _ _ _ => rfl, ?_⟩ pl_nil
      exact fun A outer s H E f c' hr => (ze_callU whL (ok_excesses_for T base hB) (hr.mono (by decide)) (by rfl) T.g_excesses_for T.k_excesses_for T.b_excesses_for (za_cons z_int (za_cons z_non (za_cons (zv 1) (za_cons (zv 2) za_nil)))) (lenA1 (lenA1 (lenA1 (lenA1 lenA0)))))
    refine zl_step ?_ ?_
    · refine za_cat nd rfl (.inl rfl) (pv 3) ?_ (by decide)
      refine pl_cons (hB (T.code__law_numbers_right, T.tab__law_numbers_right) T.in__law_numbers_right) rfl T.mem__law_numbers_right (fun p hp e => T.tun p hp _ T.mem__law_numbers_right e) rfl ⟨LamX.lamS_by (sc := defScope s__law_numbers_right) (by decide +kernel), fun _ _ _ _ _ => rfl, ?_⟩ ?_
      · exact fun A outer s H E f c' hr => (ze_callD (dv := [.non]) (dd := [.non]) whL (ok_count_years T base hB) (hr.mono (by decide)) (by rfl) T.g_count_years T.k_count_years T.bd_count_years (fun _ _ => (.cons .non .nil)) (za_cons (zv 0) (za_cons (zv 2) (za_cons z_int za_nil))) (lenA1 (lenA1 (lenA1 lenA0))) rfl)
      refine pl_cons (hB (T.code__law_numbers_right, T.tab__law_numbers_right) T.in__law_numbers_right) rfl T.mem__law_numbers_right (fun p hp e => T.tun p hp _ T.mem__law_numbers_right e) rfl ⟨LamX.lamS_by (sc := defScope s__law_numbers_right) (by decide +kernel), fun _ _ _ _ _ => rfl, ?_⟩ pl_nil
      exact fun A outer s H E f c' hr => (ze_callD (dv := [.non]) (dd := [.non]) whL (ok_count_years T base hB) (hr.mono (by decide)) (by rfl) T.g_count_years T.k_count_years T.bd_count_years (fun _ _ => (.cons .non .nil)) (za_cons (zv 0) (za_cons z_int (za_cons (zv 2) za_nil))) (lenA1 (lenA1 (lenA1 lenA0))) rfl)
    refine zl_step ?_ ?_
    · refine za_cat nd rfl (.inl rfl) (pv 3) ?_ (by decide)
      refine pl_cons (hB (T.code__law_numbers_right, T.tab__law_numbers_right) T.in__law_numbers_right) rfl T.mem__law_numbers_right (fun p hp e => T.tun p hp _ T.mem__law_numbers_right e) rfl ⟨LamX.lamS_by (sc := defScope s__law_numbers_right) (by decide +kernel), fun _ _ _ _ _ => rfl, ?_⟩ ?_
      · exact fun A outer s H E f c' hr => (ze_callD (dv := [.non]) (dd := [.non]) whL (ok_year_at T base hB) (hr.mono (by decide)) (by rfl) T.g_year_at T.k_year_at T.bd_year_at (fun _ _ => (.cons .non .nil)) (za_cons (zv 0) (za_cons (zv 2) (za_cons z_int (za_cons z_int za_nil)))) (lenA1 (lenA1 (lenA1 (lenA1 lenA0)))) rfl)
      refine pl_cons (hB (T.code__law_numbers_right, T.tab__law_numbers_right) T.in__law_numbers_right) rfl T.mem__law_numbers_right (fun p hp e => T.tun p hp _ T.mem__law_numbers_right e) rfl ⟨LamX.lamS_by (sc := defScope s__law_numbers_right) (by decide +kernel), fun _ _ _ _ _ => rfl, ?_⟩ pl_nil
      exact fun A outer s H E f c' hr => (ze_callD (dv := [.non]) (dd := [.non]) whL (ok_year_at T base hB) (hr.mono (by decide)) (by rfl) T.g_year_at T.k_year_at T.bd_year_at (fun _ _ => (.cons .non .nil)) (za_cons (zv 0) (za_cons z_int (za_cons (zv 2) (za_cons z_int za_nil)))) (lenA1 (lenA1 (lenA1 (lenA1 lenA0)))) rfl)
    refine zl_step ?_ ?_
    · refine za_cat nd rfl (.inl rfl) (pv 3) ?_ (by decide)
      refine pl_cons (hB (T.code__law_numbers_right, T.tab__law_numbers_right) T.in__law_numbers_right) rfl T.mem__law_numbers_right (fun p hp e => T.tun p hp _ T.mem__law_numbers_right e) rfl ⟨LamX.lamS_by (sc := defScope s__law_numbers_right) (by decide +kernel), fun _ _ _ _ _ => rfl, ?_⟩ ?_
      · exact fun A outer s H E f c' hr => (ze_callD (dv := [.non]) (dd := [.non]) whL (ok_year_at T base hB) (hr.mono (by decide)) (by rfl) T.g_year_at T.k_year_at T.bd_year_at (fun _ _ => (.cons .non .nil)) (za_cons (zv 0) (za_cons z_int (za_cons z_int (za_cons (zv 2) za_nil)))) (lenA1 (lenA1 (lenA1 (lenA1 lenA0)))) rfl)
      refine pl_cons (hB (T.code__law_numbers_right, T.tab__law_numbers_right) T.in__law_numbers_right) rfl T.mem__law_numbers_right (fun p hp e => T.tun p hp _ T.mem__law_numbers_right e) rfl ⟨LamX.lamS_by (sc := defScope s__law_numbers_right) (by decide +kernel), fun _ _ _ _ _ => rfl, ?_⟩ pl_nil
      exact fun A outer s H E f c' hr => (ze_callU whL (ok_far_cost T base hB) (hr.mono (by decide)) (by rfl) T.g_far_cost T.k_far_cost T.b_far_cost (za_cons (zv 0) (za_cons (ze_tup (za_cons (ze_tup (za_cons z_int (za_cons (zv 2) za_nil))) za_nil)) za_nil)) (lenA1 (lenA1 lenA0)))
    refine zl_if (zt_cmp op_notN z_notN (zv 2) z_non) ?_ ?_
    · refine zb_cons ?_ zb_nil
      refine za_app (pv 3) ?_
      refine pl_cons (hB (T.code__law_numbers_right, T.tab__law_numbers_right) T.in__law_numbers_right) rfl T.mem__law_numbers_right (fun p hp e => T.tun p hp _ T.mem__law_numbers_right e) rfl ⟨LamX.lamS_by (sc := defScope s__law_numbers_right) (by decide +kernel), fun _ _ _ _ _ => rfl, ?_⟩ pl_nil
      exact fun A outer s H E f c' hr => (ze_callK whL (ok_count_years T base hB) (hr.mono (by decide)) (by rfl) T.g_count_years T.k_count_years T.kb_count_years (za_cons (zv 0) (za_cons z_int (za_cons z_int za_nil))) (lenA1 (lenA1 (lenA1 lenA0))) (zk_cons (zv 2) zk_nil) (lenA1 lenA0) rfl rfl)
    refine zl_allif (argN (ok_all T base hB) (by decide) (by rfl) (hr.mono (by decide)) (pv 3)) zs_nil
  refine zl_begin (k := 9) (i := 3) nd rfl (.inl rfl) ?_ (by decide) ?_
  · refine pl_cons (hB (T.code__law_numbers_right, T.tab__law_numbers_right) T.in__law_numbers_right) rfl T.mem__law_numbers_right (fun p hp e => T.tun p hp _ T.mem__law_numbers_right e) rfl ⟨LamX.lamS_by (sc := defScope s__law_numbers_right) (by decide +kernel), fun _ _ _ _ _ => rfl, ?_⟩ ?_
    · exact fun A outer s H E f c' hr => (ze_callU whL (ok_least_shares T base hB) (hr.mono (by decide)) (by rfl) T.g_least_shares T.k_least_shares T.b_least_shares (za_cons z_int (za_cons z_int (za_cons z_int za_nil))) (lenA1 (lenA1 (lenA1 lenA0))))
    refine pl_cons (hB (T.code__law_numbers_right, T.tab__law_numbers_right) T.in__law_numbers_right) rfl T.mem__law_numbers_right (fun p hp e => T.tun p hp _ T.mem__law_numbers_right e) rfl ⟨LamX.lamS_by (sc := defScope s__law_numbers_right) (by decide +kernel), fun _ _ _ _ _ => rfl, ?_⟩ ?_
    · exact fun A outer s H E f c' hr => (ze_callU whL (ok_least_shares T base hB) (hr.mono (by decide)) (by rfl) T.g_least_shares T.k_least_shares T.b_least_shares (za_cons z_int (za_cons z_int (za_cons z_int za_nil))) (lenA1 (lenA1 (lenA1 lenA0))))
    refine pl_cons (hB (T.code__law_numbers_right, T.tab__law_numbers_right) T.in__law_numbers_right) rfl T.mem__law_numbers_right (fun p hp e => T.tun p hp _ T.mem__law_numbers_right e) rfl ⟨LamX.lamS_by (sc := defScope s__law_numbers_right) (by decide +kernel), fun _ _ _ _ _ => rfl, ?_⟩ pl_nil
    exact fun A outer s H E f c' hr => (ze_callU whL (ok_year_with T base hB) (hr.mono (by decide)) (by rfl) T.g_year_with T.k_year_with T.b_year_with (za_cons z_int (za_cons z_int (za_cons z_int za_nil))) (lenA1 (lenA1 (lenA1 lenA0))))
  refine zl_step ?_ ?_
  · refine za_cat nd rfl (.inl rfl) (pv 3) ?_ (by decide)
    refine pl_cons (hB (T.code__law_numbers_right, T.tab__law_numbers_right) T.in__law_numbers_right) rfl T.mem__law_numbers_right (fun p hp e => T.tun p hp _ T.mem__law_numbers_right e) rfl ⟨LamX.lamS_by (sc := defScope s__law_numbers_right) (by decide +kernel), fun _ _ _ _ _ => rfl, ?_⟩ ?_
    · exact fun A outer s H E f c' hr => (ze_callD (dv := [.non]) (dd := [.non]) whL (ok_count_years T base hB) (hr.mono (by decide)) (by rfl) T.g_count_years T.k_count_years T.bd_count_years (fun _ _ => (.cons .non .nil)) (za_cons (zv 0) (za_cons z_int (za_cons z_int za_nil))) (lenA1 (lenA1 (lenA1 lenA0))) rfl)
    refine pl_cons (hB (T.code__law_numbers_right, T.tab__law_numbers_right) T.in__law_numbers_right) rfl T.mem__law_numbers_right (fun p hp e => T.tun p hp _ T.mem__law_numbers_right e) rfl ⟨LamX.lamS_by (sc := defScope s__law_numbers_right) (by decide +kernel), fun _ _ _ _ _ => rfl, ?_⟩ ?_
    · exact fun A outer s H E f c' hr => (ze_callD (dv := [.non]) (dd := [.non]) whL (ok_count_years T base hB) (hr.mono (by decide)) (by rfl) T.g_count_years T.k_count_years T.bd_count_years (fun _ _ => (.cons .non .nil)) (za_cons (zv 0) (za_cons z_int (za_cons z_int za_nil))) (lenA1 (lenA1 (lenA1 lenA0))) rfl)
    refine pl_cons (hB (T.code__law_numbers_right, T.tab__law_numbers_right) T.in__law_numbers_right) rfl T.mem__law_numbers_right (fun p hp e => T.tun p hp _ T.mem__law_numbers_right e) rfl ⟨LamX.lamS_by (sc := defScope s__law_numbers_right) (by decide +kernel), fun _ _ _ _ _ => rfl, ?_⟩ pl_nil
    exact fun A outer s H E f c' hr => (ze_callD (dv := [.non]) (dd := [.non]) whL (ok_count_years T base hB) (hr.mono (by decide)) (by rfl) T.g_count_years T.k_count_years T.bd_count_years (fun _ _ => (.cons .non .nil)) (za_cons (zv 0) (za_cons z_int (za_cons z_int za_nil))) (lenA1 (lenA1 (lenA1 lenA0))) rfl)
  refine zl_alland (argN (ok_all T base hB) (by decide) (by rfl) (hr.mono (by decide)) (pv 3)) (ze_callU whX (ok__law_scheme_numbers_right T base hB) (hr.mono (by decide)) (by rfl) T.g__law_scheme_numbers_right T.k__law_scheme_numbers_right T.b__law_scheme_numbers_right (za_cons (zv 0) za_nil) (lenA1 lenA0))
theorem ok__law_years_right (T : Txt K mg) (base : Heap) (hB : T.TBase base) : FnOk P w K mg base (L2N.CX P w) 9 T.a__law_years_right T.f__law_years_right ["policy1"] (spZ K (wfX mg) 1 df__law_years_right) := by
  refine defZXC (N := N__law_years_right) (ps := ["policy1"]) (k := 8) (fb := body__law_years_right) T.C__law_years_right sc__law_years_right fun A outer s H E hr => ?_
  have nd := sc__law_years_right.nd
  have hu := hr.units
  refine zs_cons (zs_set (i := 1) nd rfl (.inr rfl) (ze_tup (za_cons (ze_tup (za_cons z_int (za_cons z_int za_nil))) (za_cons z_int za_nil)))) ?_
  refine zs_cons ?_ ?_
  · refine zs_for ownX rfl (zi_seq (ze_lst (za_cons z_non (za_cons (ze_lst za_nil) (za_cons (ze_tup (za_cons z_non za_nil)) (za_cons (ze_tup (za_cons (ze_tup (za_cons z_int za_nil)) za_nil)) (za_cons (ze_op op_mulTZ z_mulT (ze_tup (za_cons (ze_tup za_nil) za_nil)) z_int) (za_cons z_int za_nil)))))))) (pg_name (i := 2) nd rfl (.inr rfl)) ?_
    refine zl_begin (k := 5) (i := 3) nd rfl (.inl rfl) ?_ (by decide) ?_
    · refine pl_cons (hB (T.code__law_years_right, T.tab__law_years_right) T.in__law_years_right) rfl T.mem__law_years_right (fun p hp e => T.tun p hp _ T.mem__law_years_right e) rfl ⟨LamX.lamS_by (sc := defScope s__law_years_right) (by decide +kernel), fun _ _ _ _ _ => rfl, ?_⟩ ?_
      · exact fun A outer s H E f c' hr => (ze_callU whL (ok_least_total T base hB) (hr.mono (by decide)) (by rfl) T.g_least_total T.k_least_total T.b_least_total (za_cons (zv 1) (za_cons z_int (za_cons z_int (za_cons (zv 2) za_nil)))) (lenA1 (lenA1 (lenA1 (lenA1 lenA0)))))
      refine pl_cons (hB (T.code__law_years_right, T.tab__law_years_right) T.in__law_years_right) rfl T.mem__law_years_right (fun p hp e => T.tun p hp _ T.mem__law_years_right e) rfl ⟨LamX.lamS_by (sc := defScope s__law_years_right) (by decide +kernel), fun _ _ _ _ _ => rfl, ?_⟩ pl_nil
      exact fun A outer s H E f c' hr => (ze_callU whL (ok_best_counts T base hB) (hr.mono (by decide)) (by rfl) T.g_best_counts T.k_best_counts T.b_best_counts (za_cons (zv 1) (za_cons z_int (za_cons z_int (za_cons (zv 2) za_nil)))) (lenA1 (lenA1 (lenA1 (lenA1 lenA0)))))
    refine zl_allif (argC (ok_all T base hB) (by decide) (by rfl) (hr.mono (by decide)) (pv 3) (pl_cons (hB (T.code__law_years_right, T.tab__law_years_right) T.in__law_years_right) rfl T.mem__law_years_right (fun p hp e => T.tun p hp _ T.mem__law_years_right e) rfl ⟨LamX.lamS_by (sc := defScope s__law_years_right) (by decide +kernel), fun _ _ _ _ _ => rfl, fun A outer s H E f c' hr => (ze_callU whL (ok_cost_with T base hB) (hr.mono (by decide)) (by rfl) T.g_cost_with T.k_cost_with T.b_cost_with (za_cons (zv 1) (za_cons z_int (za_cons z_int (za_cons (zv 2) (za_cons (ze_tup za_nil) za_nil))))) (lenA1 (lenA1 (lenA1 (lenA1 (lenA1 lenA0))))))⟩ pl_nil) (by decide)) zs_nil
  refine zs_cons ?_ ?_
  · refine zs_for ownX rfl (zi_seq (ze_lst (za_cons z_non (za_cons (ze_lst (za_cons z_int za_nil)) (za_cons (ze_tup za_nil) (za_cons (ze_tup (za_cons z_int (za_cons z_int za_nil))) (za_cons z_int za_nil))))))) (pg_name (i := 2) nd rfl (.inr rfl)) (zs_allif0 (arg0 (k := 5) (ok_all T base hB) (by decide) (by rfl) (hr.mono (by decide)) (pl_cons (hB (T.code__law_years_right, T.tab__law_years_right) T.in__law_years_right) rfl T.mem__law_years_right (fun p hp e => T.tun p hp _ T.mem__law_years_right e) rfl ⟨LamX.lamS_by (sc := defScope s__law_years_right) (by decide +kernel), fun _ _ _ _ _ => rfl, fun A outer s H E f c' hr => (ze_callU whL (ok_cost_with T base hB) (hr.mono (by decide)) (by rfl) T.g_cost_with T.k_cost_with T.b_cost_with (za_cons (zv 1) (za_cons z_int (za_cons z_int (za_cons (ze_tup (za_cons (ze_tup (za_cons z_int za_nil)) za_nil)) (za_cons (zv 2) za_nil))))) (lenA1 (lenA1 (lenA1 (lenA1 (lenA1 lenA0))))))⟩ pl_nil) (by decide)) zs_nil)
  refine zs_cons ?_ (zs_one (zs_ret z_bl))
  refine zs_for ownX rfl (zi_seq (ze_lst (za_cons z_non (za_cons (ze_lst za_nil) (za_cons (ze_tup (za_cons z_int za_nil)) (za_cons (ze_tup (za_cons (ze_tup (za_cons z_int za_nil)) za_nil)) (za_cons (ze_tup (za_cons (ze_tup (za_cons z_int (za_cons z_int (za_cons z_int za_nil)))) za_nil)) (za_cons (ze_op op_mulTZ z_mulT (ze_tup (za_cons (ze_tup (za_cons z_int (za_cons z_int za_nil))) za_nil)) z_int) (za_cons z_int za_nil))))))))) (pg_name (i := 2) nd rfl (.inr rfl)) (zs_allif0 (arg0 (k := 5) (ok_all T base hB) (by decide) (by rfl) (hr.mono (by decide)) (pl_cons (hB (T.code__law_years_right, T.tab__law_years_right) T.in__law_years_right) rfl T.mem__law_years_right (fun p hp e => T.tun p hp _ T.mem__law_years_right e) rfl ⟨LamX.lamS_by (sc := defScope s__law_years_right) (by decide +kernel), fun _ _ _ _ _ => rfl, fun A outer s H E f c' hr => (ze_callU whL (ok_far_cost T base hB) (hr.mono (by decide)) (by rfl) T.g_far_cost T.k_far_cost T.b_far_cost (za_cons (zv 0) (za_cons (zv 2) za_nil)) (lenA1 (lenA1 lenA0)))⟩ pl_nil) (by decide)) zs_nil)
theorem ok_C___init__ (T : Txt K mg) (base : Heap) (hB : T.TBase base) : FnOk P w K mg base (L2N.CX P w) 4 T.a_C___init__ T.f_C___init__ ["self", "policy"] (spI K (wfX mg) T.C 2 I_init) := by
  refine initZX (N := N_C___init__) (ps := ["self", "policy"]) (k := 3) (fe := (dCall df_check_policy (dCons (dVar 1) dNil))) (g := (dCons (dTup (dCons (dVar 1) (dCons (dC (.int 0)) (dCons (dC (.int 0)) (dCons (dTup dNil) dNil))))) dNil)) T.F_C___init__ sc_C___init__ T.cls rfl fun cdv A outer s H E hr => ?_
  have nd := sc_C___init__.nd
  have hu := hr.units
  exact ⟨(ze_callU whX (ok_check_policy T base hB) (hr.mono (by decide)) (by rfl) T.g_check_policy T.k_check_policy T.b_check_policy (za_cons (zv 1) za_nil) (lenA1 lenA0)), pv 0, (za_cons (ze_tup (za_cons (zv 1) (za_cons z_int (za_cons z_int (za_cons (ze_tup za_nil) za_nil))))) za_nil), rfl, rfl⟩
theorem ok_C_full (T : Txt K mg) (base : Heap) (hB : T.TBase base) : FnR P w K mg base (L2N.CX P w) 6 T.a_C_full (spF K (wfX mg) T.C 2 df_C_full) := by
  refine fullZX (N := N_C_full) (ps := ["cls", "premium"]) (k := 4) (g := (dCons (dTup (dCons (dVar 1) (dCons (dC (.int 0)) (dCons (dC .non) dNil)))) dNil)) (I := I_init) T.F_C_full sc_C_full T.cls T.cmk (ok_C___init__ T base hB) T.b_C___init__ rfl rfl T.b_C_full (lenA1 lenA0) rfl fun cdv A outer s H E hr => ?_
  have nd := sc_C_full.nd
  have hu := hr.units
  exact ⟨(za_cons (ze_tup (za_cons (zv 1) (za_cons z_int (za_cons z_non za_nil)))) za_nil), .inl rfl, by decide, by decide, rfl, rfl⟩
theorem ok_C_own (T : Txt K mg) (base : Heap) (hB : T.TBase base) : FnOk P w K mg base (L2N.CX P w) 2 T.a_C_own T.f_C_own ["self"] (spZ K (wfX mg) 1 df_C_own) := by
  refine defZX (N := N_C_own) (ps := ["self"]) (k := 1) (fb := body_C_own) T.F_C_own sc_C_own fun cdv A outer s H E hr => ?_
  have nd := sc_C_own.nd
  have hu := hr.units
  exact (zs_cons (zs_unp (ze_ix ix_seq z_ix (ze_states T.cls (zv 0)) (ze_neg z_int)) (pg_tup rfl (pgs_cons (pg_name (i := 1) nd rfl (.inr rfl)) (pgs_cons (pg_name (i := 2) nd rfl (.inl rfl)) (pgs_cons (pg_name (i := 3) nd rfl (.inl rfl)) (pgs_cons (pg_name (i := 4) nd rfl (.inl rfl)) pgs_nil)))))) (zs_one (zs_ret (ze_callU whX (ok_capped T base hB) (hr.mono (by decide)) (by rfl) T.g_capped T.k_capped T.b_capped (za_cons (zv 1) (za_cons (ze_callB (cr_sum rfl) z_sum (by rfl) T.z_sum (by decide +kernel) (za_cons (ze_lc (own := [(("damage" : PySem.Str), 5)]) (by first | exact List.mem_singleton.mpr rfl | (intro i hi; exact hi) | decide) rfl nd (zi_seq (zv 4)) (blkOk_by (N := N_C_own) (sc := (defScope s_C_own)) (by decide +kernel)) (fun _ _ _ _ _ => (pg_name (i := 5) nd rfl (Or.inl rfl))) (fun _ _ _ _ _ => zts_nil) (fun _ _ _ _ _ => (ze_callB (call_min2 rfl) z_min2 (by rfl) T.z_min (by decide +kernel) (za_cons (zv 5) (za_cons (ze_ix ix_seq z_ix (zv 1) z_int) za_nil))))) za_nil)) za_nil)) (lenA1 (lenA1 lenA0))))))
theorem ok_C_claim (T : Txt K mg) (base : Heap) (hB : T.TBase base) : FnR P w K mg base (L2N.CX P w) 4 T.a_C_claim (spS K (wfX mg) 1 df_C_claim) := by
  refine defSX (N := N_C_claim) (k := 3) (ps := ["self"]) (pv := "damages") (fb := body_C_claim) T.F_C_claim sc_C_claim (fun _ _ _ _ _ _ us rest hl => match us, rest, hl with | [_], [], _ => rfl | [_], _ :: _, _ => rfl) fun cdv A outer s H E hr => ?_
  have nd := sc_C_claim.nd
  have hu := hr.units
  exact (zs_cons (zs_unp (ze_ix ix_seq z_ix (ze_states T.cls (zv 0)) (ze_neg z_int)) (pg_tup rfl (pgs_cons (pg_name (i := 2) nd rfl (.inl rfl)) (pgs_cons (pg_name (i := 3) nd rfl (.inl rfl)) (pgs_cons (pg_name (i := 4) nd rfl (.inl rfl)) (pgs_cons (pg_name (i := 5) nd rfl (.inl rfl)) pgs_nil)))))) (zs_cons (zs_for ownX rfl (zi_seq (zv 1)) (pg_name (i := 6) nd rfl (.inl rfl)) (zs_one (zs_expr (ze_callU whX (ok_check_damage T base hB) (hr.mono (by decide)) (by rfl) T.g_check_damage T.k_check_damage T.b_check_damage (za_cons (zv 6) za_nil) (lenA1 lenA0))))) (zs_cons (zs_set (i := 7) nd rfl (.inl rfl) (ze_prop pass0X T.cls T.p_C_own (ok_C_own T base hB) (hr.mono (by decide)) T.b_C_own (zv 0))) (zs_cons (zs_push (ze_states T.cls (zv 0)) (ze_tup (za_cons (zv 2) (za_cons (zv 3) (za_cons (zv 4) (za_cons (ze_op op_addZ z_add (zv 5) (zv 1)) za_nil)))))) (zs_one (zs_ret (ze_op op_sub z_sub (ze_prop pass0X T.cls T.p_C_own (ok_C_own T base hB) (hr.mono (by decide)) T.b_C_own (zv 0)) (zv 7))))))))
theorem ok_C_undo (T : Txt K mg) (base : Heap) (hB : T.TBase base) : FnOk P w K mg base (L2N.CX P w) 1 T.a_C_undo T.f_C_undo ["self"] (spZ K (wfX mg) 1 df_C_undo) := by
  refine defZX (N := N_C_undo) (ps := ["self"]) (k := 0) (fb := body_C_undo) T.F_C_undo sc_C_undo fun cdv A outer s H E hr => ?_
  have nd := sc_C_undo.nd
  have hu := hr.units
  exact (zs_cons (zs_if (zt_cmp (op_eqD hu) z_eqD (ze_callB call_len_seq z_len (by rfl) T.z_len (by decide +kernel) (za_cons (ze_states T.cls (zv 0)) za_nil)) z_int) (zs_one (zs_raise (i := 6) T.E rfl takesX (T.E.at (by decide)) rfl (by rfl))) zs_nil) (zs_one (zs_pop (ze_states T.cls (zv 0)))))
theorem ok_C_renew (T : Txt K mg) (base : Heap) (hB : T.TBase base) : FnOk P w K mg base (L2N.CX P w) 4 T.a_C_renew T.f_C_renew ["self", "policy"] (spZ K (wfX mg) 2 df_C_renew) := by
  refine defZX (N := N_C_renew) (ps := ["self", "policy"]) (k := 3) (fb := body_C_renew) T.F_C_renew sc_C_renew fun cdv A outer s H E hr => ?_
  have nd := sc_C_renew.nd
  have hu := hr.units
  exact (zs_cons (zs_unp (ze_ix ix_seq z_ix (ze_states T.cls (zv 0)) (ze_neg z_int)) (pg_tup rfl (pgs_cons (pg_name (i := 2) nd rfl (.inl rfl)) (pgs_cons (pg_name (i := 3) nd rfl (.inl rfl)) (pgs_cons (pg_name (i := 4) nd rfl (.inl rfl)) (pgs_cons (pg_name (i := 5) nd rfl (.inl rfl)) pgs_nil)))))) (zs_cons (zs_if (zt_cmp op_notN z_notN (zv 1) z_non) (zs_one (zs_expr (ze_callU whX (ok_check_policy T base hB) (hr.mono (by decide)) (by rfl) T.g_check_policy T.k_check_policy T.b_check_policy (za_cons (zv 1) za_nil) (lenA1 lenA0)))) zs_nil) (zs_cons (zs_set (i := 6) nd rfl (.inl rfl) (ze_op op_addZ z_add (ze_ix ix_seq z_ix (zv 2) z_int) (ze_prop pass0X T.cls T.p_C_own (ok_C_own T base hB) (hr.mono (by decide)) T.b_C_own (zv 0)))) (zs_cons (zs_push (ze_states T.cls (zv 0)) (ze_tup (za_cons (ze_if (zt_cmp op_isN z_isN (zv 1) z_non) (zv 2) (zv 1)) (za_cons (ze_op op_addZ z_add (zv 3) z_int) (za_cons (ze_op op_addZ z_add (zv 4) (zv 6)) (za_cons (ze_tup za_nil) za_nil)))))) (zs_one (zs_ret (zv 6)))))))
set_option maxHeartbeats 0 in
theorem ok_law (T : Txt K mg) (base : Heap) (hB : T.TBase base) : FnOk P w K mg base CX0 17 T.a_law T.f_law ["script"] (spZ K wf0 1 df_law) := by
  refine defZC (N := N_law) (ps := ["script"]) (k := 16) (fb := body_law) T.C_law sc_law fun A outer s H E hr => ?_
  have nd := sc_law.nd
  have hu := hr.units
  refine zs_cons ?_ (zs_one (zs_ret (ze_and (ze_cmp (op_eqD hu) z_eqD (ze_callD (dv := [.int 0, .non]) (dd := [.int 0, .non]) wh0 (ok_policy_of T base hB) (hr.mono (by decide)) (by rfl) T.g_policy_of T.k_policy_of T.bd_policy_of (fun _ _ => (.cons (.int _) (.cons .non .nil))) (za_cons z_int za_nil) (lenA1 lenA0) rfl) (ze_tup (za_cons z_int (za_cons z_int (za_cons z_non za_nil))))) (ze_one (ze_cmp (op_eqD hu) z_eqD (ze_callK wh0 (ok_policy_of T base hB) (hr.mono (by decide)) (by rfl) T.g_policy_of T.k_policy_of T.kb_policy_of (za_cons z_int za_nil) (lenA1 lenA0) (zk_cons z_int (zk_cons z_int zk_nil)) (lenA1 (lenA1 lenA0)) rfl rfl) (ze_tup (za_cons z_int (za_cons z_int (za_cons z_int za_nil)))))))))
  refine zs_for PassesOwn.never rfl (zi_seq (ze_callU wh0 (ok__law_bags T base hB) (hr.mono (by decide)) (by rfl) T.g__law_bags T.k__law_bags T.b__law_bags (za_cons (zv 0) (za_cons z_int za_nil)) (lenA1 (lenA1 lenA0)))) (pg_name (i := 1) nd rfl (.inl rfl)) ?_
  refine zs_cons (zs_set (i := 2) nd rfl (.inr rfl) (ze_callU wh0 (ok__law_policy T base hB) (hr.mono (by decide)) (by rfl) T.g__law_policy T.k__law_policy T.b__law_policy (za_cons (zv 1) za_nil) (lenA1 lenA0))) ?_
  refine zs_cons (zs_set (i := 3) nd rfl (.inl rfl) (ze_callU wh0 (ok__law_year T base hB) (hr.mono (by decide)) (by rfl) T.g__law_year T.k__law_year T.b__law_year (za_cons (zv 1) (za_cons z_int (za_cons (zv 2) za_nil))) (lenA1 (lenA1 (lenA1 lenA0))))) ?_
  refine zs_cons (zs_if (PW.pt (zw_or (zt_not (zt_val (ze_callU wh0 (ok__law_numbers_right T base hB) (hr.mono (by decide)) (by rfl) T.g__law_numbers_right T.k__law_numbers_right T.b__law_numbers_right (za_cons (zv 2) (za_cons (zv 3) za_nil)) (lenA1 (lenA1 lenA0))))) (zw_or1 (zt_not (zt_val (ze_callU wh0 (ok__law_years_right T base hB) (hr.mono (by decide)) (by rfl) T.g__law_years_right T.k__law_years_right T.b__law_years_right (za_cons (zv 2) za_nil) (lenA1 lenA0))))))) (zs_one (zs_ret z_bl)) zs_nil) ?_
  refine zs_cons ?_ ?_
  · refine zs_for PassesOwn.never rfl (zi_seq (ze_lst (za_cons z_non (za_cons z_bl (za_cons (ze_neg z_int) (za_cons z_int (za_cons z_str za_nil))))))) (pg_name (i := 4) nd rfl (.inr rfl)) ?_
    refine zl_begin (k := 13) (i := 5) nd rfl (.inl rfl) ?_ (by decide) ?_
    · refine pl_cons (hB (T.code_law, T.tab_law) T.in_law) rfl T.mem_law (fun p hp e => T.tun p hp _ T.mem_law e) rfl ⟨LamX.lamS_by (sc := defScope s_law) (by decide +kernel), fun _ _ _ _ _ => rfl, ?_⟩ ?_
      · exact fun A outer s H E f c' hr => (ze_callD (dv := [.int 0, .non]) (dd := [.int 0, .non]) whL (ok_policy_of T base hB) (hr.mono (by decide)) (by rfl) T.g_policy_of T.k_policy_of T.bd_policy_of (fun _ _ => (.cons (.int _) (.cons .non .nil))) (za_cons (zv 4) za_nil) (lenA1 lenA0) rfl)
      refine pl_cons (hB (T.code_law, T.tab_law) T.in_law) rfl T.mem_law (fun p hp e => T.tun p hp _ T.mem_law e) rfl ⟨LamX.lamS_by (sc := defScope s_law) (by decide +kernel), fun _ _ _ _ _ => rfl, ?_⟩ ?_
      · exact fun A outer s H E f c' hr => (ze_callG _ whL (ok_policy_of T base hB) (hr.mono (by decide)) (by rfl) T.g_policy_of T.k_policy_of T.kp_policy_of_excess (fun _ _ _ _ _ _ a b => (a.append b).append (.cons .non .nil)) (fun xs ys h1 h2 => by simp [h1, h2]) (za_cons z_int za_nil) (lenA1 lenA0) (zk_cons (zv 4) zk_nil) (lenA1 lenA0) rfl)
      refine pl_cons (hB (T.code_law, T.tab_law) T.in_law) rfl T.mem_law (fun p hp e => T.tun p hp _ T.mem_law e) rfl ⟨LamX.lamS_by (sc := defScope s_law) (by decide +kernel), fun _ _ _ _ _ => rfl, ?_⟩ pl_nil
      exact fun A outer s H E f c' hr => (ze_full (whCX whL) T.cls T.crd T.cm_C_full (ok_C_full T base hB) (hr.mono (by decide)) (by rfl) (za_cons (zv 4) za_nil) (lenA1 lenA0) rfl)
    refine zl_step ?_ ?_
    · refine za_cat nd rfl (.inl rfl) (pv 5) ?_ (by decide)
      refine pl_cons (hB (T.code_law, T.tab_law) T.in_law) rfl T.mem_law (fun p hp e => T.tun p hp _ T.mem_law e) rfl ⟨LamX.lamS_by (sc := defScope s_law) (by decide +kernel), fun _ _ _ _ _ => rfl, ?_⟩ pl_nil
      exact fun A outer s H E f c' hr => (ze_callU whL (ok_excesses_for T base hB) (hr.mono (by decide)) (by rfl) T.g_excesses_for T.k_excesses_for T.b_excesses_for (za_cons (zv 4) (za_cons z_non (za_cons z_non (za_cons z_non za_nil)))) (lenA1 (lenA1 (lenA1 (lenA1 lenA0)))))
    refine zl_if (zt_cmp op_notN z_notN (zv 4) z_non) ?_ ?_
    · refine zb_cons ?_ ?_
      · refine za_cat nd rfl (.inl rfl) (pv 5) ?_ (by decide)
        refine pl_cons (hB (T.code_law, T.tab_law) T.in_law) rfl T.mem_law (fun p hp e => T.tun p hp _ T.mem_law e) rfl ⟨LamX.lamS_by (sc := defScope s_law) (by decide +kernel), fun _ _ _ _ _ => rfl, ?_⟩ ?_
        · exact fun A outer s H E f c' hr => (ze_callG _ whL (ok_policy_of T base hB) (hr.mono (by decide)) (by rfl) T.g_policy_of T.k_policy_of T.kp_policy_of_cap (fun _ _ _ _ _ _ a b => (a.append (.cons (.int _) .nil)).append b) (fun xs ys h1 h2 => by simp [h1, h2]) (za_cons z_int za_nil) (lenA1 lenA0) (zk_cons (zv 4) zk_nil) (lenA1 lenA0) rfl)
        refine pl_cons (hB (T.code_law, T.tab_law) T.in_law) rfl T.mem_law (fun p hp e => T.tun p hp _ T.mem_law e) rfl ⟨LamX.lamS_by (sc := defScope s_law) (by decide +kernel), fun _ _ _ _ _ => rfl, ?_⟩ pl_nil
        exact fun A outer s H E f c' hr => (ze_callU whL (ok_excesses_for T base hB) (hr.mono (by decide)) (by rfl) T.g_excesses_for T.k_excesses_for T.b_excesses_for (za_cons z_int (za_cons (zv 4) (za_cons z_non (za_cons z_non za_nil)))) (lenA1 (lenA1 (lenA1 (lenA1 lenA0)))))
      refine zb_cons ?_ zb_nil
      refine za_app (pv 5) ?_
      refine pl_cons (hB (T.code_law, T.tab_law) T.in_law) rfl T.mem_law (fun p hp e => T.tun p hp _ T.mem_law e) rfl ⟨LamX.lamS_by (sc := defScope s_law) (by decide +kernel), fun _ _ _ _ _ => rfl, ?_⟩ pl_nil
      exact fun A outer s H E f c' hr => (ze_methK (whCX whL) T.cls T.m_C_renew (ok_C_renew T base hB) (hr.mono (by decide)) T.kb_C_renew (ze_make (whCX whL) T.cls T.cmk (ok_C___init__ T base hB) (hr.mono (by decide)) T.b_C___init__ (by rfl) (za_cons (zv 2) za_nil) (lenA1 lenA0) rfl) (zk_cons (zv 4) zk_nil) (lenA1 lenA0) rfl rfl)
    refine zl_allif (argN (ok_all T base hB) (by decide) (by rfl) (hr.mono (by decide)) (pv 5)) zs_nil
  refine zs_cons ?_ (zs_one (zs_if (zt_cmp (op_neD hu) z_neD (ze_outc (k := 13) (T := T.E) (ok_out T base hB) (by rfl) (by decide) (hB (T.code_law, T.tab_law) T.in_law) rfl T.mem_law (fun p hp e => T.tun p hp _ T.mem_law e) (hr.mono (by decide)) (LamX.lamS_by (sc := defScope s_law) (by decide +kernel)) rfl (fun _ _ _ _ _ => rfl) (fun A outer s H E f c' hr => (ze_meth0 (whCX whL) T.cls T.m_C_undo (ok_C_undo T base hB) (hr.mono (by decide)) T.b_C_undo .nil (fun _ _ => .nil) (ze_make (whCX whL) T.cls T.cmk (ok_C___init__ T base hB) (hr.mono (by decide)) T.b_C___init__ (by rfl) (za_cons (zv 2) za_nil) (lenA1 lenA0) rfl) rfl))) (ze_tup (za_cons z_str za_nil))) (zs_one (zs_ret z_bl)) zs_nil))
  refine zs_for PassesOwn.never rfl (zi_seq (ze_lst (za_cons z_non (za_cons z_bl (za_cons z_int (za_cons (ze_neg z_int) (za_cons (ze_op op_addZ z_add (ze_op op_pow z_pow z_int z_int) z_int) (za_cons z_str za_nil)))))))) (pg_name (i := 4) nd rfl (.inr rfl)) ?_
  refine zl_begin (k := 13) (i := 5) nd rfl (.inl rfl) ?_ (by decide) ?_
  · refine pl_cons (hB (T.code_law, T.tab_law) T.in_law) rfl T.mem_law (fun p hp e => T.tun p hp _ T.mem_law e) rfl ⟨LamX.lamS_by (sc := defScope s_law) (by decide +kernel), fun _ _ _ _ _ => rfl, ?_⟩ ?_
    · exact fun A outer s H E f c' hr => (ze_methS (whCX whL) T.cls T.m_C_claim (ok_C_claim T base hB) (hr.mono (by decide)) (ze_make (whCX whL) T.cls T.cmk (ok_C___init__ T base hB) (hr.mono (by decide)) T.b_C___init__ (by rfl) (za_cons (zv 2) za_nil) (lenA1 lenA0) rfl) (za_cons z_int (za_cons (zv 4) za_nil)))
    refine pl_cons (hB (T.code_law, T.tab_law) T.in_law) rfl T.mem_law (fun p hp e => T.tun p hp _ T.mem_law e) rfl ⟨LamX.lamS_by (sc := defScope s_law) (by decide +kernel), fun _ _ _ _ _ => rfl, ?_⟩ pl_nil
    exact fun A outer s H E f c' hr => (ze_callU whL (ok_far_cost T base hB) (hr.mono (by decide)) (by rfl) T.g_far_cost T.k_far_cost T.b_far_cost (za_cons (zv 2) (za_cons (ze_tup (za_cons (ze_tup (za_cons (zv 4) (za_cons z_non za_nil))) za_nil)) za_nil)) (lenA1 (lenA1 lenA0)))
  refine zl_allif (argN (ok_all T base hB) (by decide) (by rfl) (hr.mono (by decide)) (pv 5)) zs_nil
end
def NeAll (P : Addr) : List (Addr × PySem.Str) → Prop
  | [] => True
  | x :: l => P ≠ x.1 ∧ NeAll P l
def TunL : List (Addr × PySem.Str) → Prop
  | [] => True
  | x :: l => NeAll x.1 l ∧ TunL l
theorem NeAll.ne {P : Addr} : ∀ {l : List (Addr × PySem.Str)}, NeAll P l → ∀ q ∈ l, P ≠ q.1
  | x :: l, h, q, hq => (List.mem_cons.mp hq).elim (fun e => e ▸ h.1) fun e => NeAll.ne h.2 q e
theorem tun_of : ∀ (l : List (Addr × PySem.Str)), TunL l → ∀ p ∈ l, ∀ q ∈ l, p.1 = q.1 → p.2 = q.2
  | x :: l, h, p, hp, q, hq, e => by
    rcases List.mem_cons.mp hp with hp | hp <;> rcases List.mem_cons.mp hq with hq | hq
    · rw [hp, hq]
    · exact absurd (hp ▸ e) (h.1.ne q hq)
    · exact absurd (hq ▸ e).symm (h.1.ne p hp)
    · exact tun_of l h.2 p hp q hq e
set_option maxHeartbeats 0 in
theorem all_mk {l : PySem.W.OpenLaw} {prog : Program} {w : World} {K : PySem.W.Frag} {h : Heap} {mg : Str → Option Value} {fa : Addr} (LAW : ∀ ns : List Int, ns.length ≤ 63 → ∃ M', df_law [.scr ns] [] = some (.ok (.bl true), M')) (X : K.In h) (G : h.Ns mainGlobals mg) (hfa : mg "law" = some (.ref fa))
    {CC : Addr}
    {f0 : Addr} {od0 an0 : Option Addr} {sl0 : Array (Option Value)} {oc0 kV0 dc0 pm0 cd0 ct0 : Value}
    {f1 : Addr} {od1 an1 : Option Addr} {sl1 : Array (Option Value)} {oc1 kV1 dc1 pm1 cd1 ct1 : Value}
    {f2 : Addr} {od2 an2 : Option Addr} {sl2 : Array (Option Value)} {oc2 kV2 dc2 pm2 cd2 ct2 : Value}
    {f3 : Addr} {od3 an3 : Option Addr} {sl3 : Array (Option Value)} {oc3 kV3 dc3 pm3 cd3 ct3 : Value}
    {f4 : Addr} {od4 an4 : Option Addr} {sl4 : Array (Option Value)} {oc4 kV4 dc4 pm4 cd4 ct4 : Value}
    {f5 : Addr} {od5 an5 : Option Addr} {sl5 : Array (Option Value)} {oc5 kV5 dc5 pm5 cd5 ct5 : Value}
    {f6 : Addr} {od6 an6 : Option Addr} {sl6 : Array (Option Value)} {oc6 kV6 dc6 pm6 cd6 ct6 : Value}
    {f7 : Addr} {od7 an7 : Option Addr} {sl7 : Array (Option Value)} {oc7 kV7 dc7 pm7 cd7 ct7 : Value}
    {f8 : Addr} {od8 an8 : Option Addr} {sl8 : Array (Option Value)} {oc8 kV8 dc8 pm8 cd8 ct8 : Value}
    {f9 : Addr} {od9 an9 : Option Addr} {sl9 : Array (Option Value)} {oc9 kV9 dc9 pm9 cd9 ct9 : Value}
    {f10 : Addr} {od10 an10 : Option Addr} {sl10 : Array (Option Value)} {oc10 dc10 pm10 cd10 ct10 : Value}
    {f11 : Addr} {od11 an11 : Option Addr} {sl11 : Array (Option Value)} {oc11 kV11 dc11 pm11 cd11 ct11 : Value}
    {f12 : Addr} {od12 an12 : Option Addr} {sl12 : Array (Option Value)} {oc12 kV12 dc12 pm12 cd12 ct12 : Value}
    {f13 : Addr} {od13 an13 : Option Addr} {sl13 : Array (Option Value)} {oc13 kV13 dc13 pm13 cd13 ct13 : Value}
    {f14 : Addr} {od14 an14 : Option Addr} {sl14 : Array (Option Value)} {oc14 kV14 dc14 pm14 cd14 ct14 : Value}
    {f15 : Addr} {od15 an15 : Option Addr} {sl15 : Array (Option Value)} {oc15 kV15 dc15 pm15 cd15 ct15 : Value}
    {f16 : Addr} {od16 an16 : Option Addr} {sl16 : Array (Option Value)} {oc16 kV16 dc16 pm16 cd16 ct16 : Value}
    {f17 : Addr} {od17 an17 : Option Addr} {sl17 : Array (Option Value)} {oc17 kV17 dc17 pm17 cd17 ct17 : Value}
    {f18 : Addr} {od18 an18 : Option Addr} {sl18 : Array (Option Value)} {oc18 kV18 dc18 pm18 cd18 ct18 : Value}
    {f19 : Addr} {od19 an19 : Option Addr} {sl19 : Array (Option Value)} {oc19 kV19 dc19 pm19 cd19 ct19 : Value}
    {f20 : Addr} {od20 an20 : Option Addr} {sl20 : Array (Option Value)} {oc20 kV20 dc20 pm20 cd20 ct20 : Value}
    {f21 : Addr} {od21 an21 : Option Addr} {sl21 : Array (Option Value)} {oc21 kV21 dc21 pm21 cd21 ct21 : Value}
    {f22 : Addr} {od22 an22 : Option Addr} {sl22 : Array (Option Value)} {oc22 kV22 dc22 pm22 cd22 ct22 : Value}
    {f23 : Addr} {od23 an23 : Option Addr} {sl23 : Array (Option Value)} {oc23 kV23 dc23 pm23 cd23 ct23 : Value}
    {f24 : Addr} {od24 an24 : Option Addr} {sl24 : Array (Option Value)} {oc24 kV24 dc24 pm24 cd24 ct24 : Value}
    {f25 : Addr} {od25 an25 : Option Addr} {sl25 : Array (Option Value)} {oc25 kV25 dc25 pm25 cd25 ct25 : Value}
    {f26 : Addr} {od26 an26 : Option Addr} {sl26 : Array (Option Value)} {oc26 kV26 dc26 pm26 cd26 ct26 : Value}
    {f27 : Addr} {od27 an27 : Option Addr} {sl27 : Array (Option Value)} {oc27 kV27 dc27 pm27 cd27 ct27 : Value}
    {f28 : Addr} {od28 an28 : Option Addr} {sl28 : Array (Option Value)} {oc28 kV28 dc28 pm28 cd28 ct28 : Value}
    {f29 : Addr} {od29 an29 : Option Addr} {sl29 : Array (Option Value)} {oc29 kV29 dc29 pm29 cd29 ct29 : Value}
    {f30 : Addr} {od30 an30 : Option Addr} {sl30 : Array (Option Value)} {oc30 kV30 dc30 pm30 cd30 ct30 : Value}
    {f31 : Addr} {od31 an31 : Option Addr} {sl31 : Array (Option Value)} {oc31 kV31 dc31 pm31 cd31 ct31 : Value}
    {f32 : Addr} {od32 an32 : Option Addr} {sl32 : Array (Option Value)} {oc32 kV32 dc32 pm32 cd32 ct32 : Value}
    {f33 : Addr} {od33 an33 : Option Addr} {sl33 : Array (Option Value)} {oc33 kV33 dc33 pm33 cd33 ct33 : Value}
    {f34 : Addr} {od34 an34 : Option Addr} {sl34 : Array (Option Value)} {oc34 kV34 dc34 pm34 cd34 ct34 : Value}
    {f35 : Addr} {od35 an35 : Option Addr} {sl35 : Array (Option Value)} {oc35 kV35 dc35 pm35 cd35 ct35 : Value}
    {f36 : Addr} {od36 an36 : Option Addr} {sl36 : Array (Option Value)} {oc36 kV36 dc36 pm36 cd36 ct36 : Value}
    {f37 : Addr} {od37 an37 : Option Addr} {sl37 : Array (Option Value)} {oc37 dc37 pm37 cd37 ct37 : Value}
    {f38 : Addr} {od38 an38 : Option Addr} {sl38 : Array (Option Value)} {oc38 kV38 dc38 pm38 cd38 ct38 : Value}
    {f39 : Addr} {od39 an39 : Option Addr} {sl39 : Array (Option Value)} {oc39 kV39 dc39 pm39 cd39 ct39 : Value}
    {f40 : Addr} {od40 an40 : Option Addr} {sl40 : Array (Option Value)} {oc40 kV40 dc40 pm40 cd40 ct40 : Value}
    {f41 : Addr} {od41 an41 : Option Addr} {sl41 : Array (Option Value)} {oc41 kV41 dc41 pm41 cd41 ct41 : Value}
    {f42 : Addr} {od42 an42 : Option Addr} {sl42 : Array (Option Value)} {oc42 dc42 pm42 cd42 ct42 : Value}
    {f43 : Addr} {od43 an43 : Option Addr} {sl43 : Array (Option Value)} {oc43 kV43 dc43 pm43 cd43 ct43 : Value}
    {f44 : Addr} {od44 an44 : Option Addr} {sl44 : Array (Option Value)} {oc44 kV44 dc44 pm44 cd44 ct44 : Value}
    {f45 : Addr} {od45 an45 : Option Addr} {sl45 : Array (Option Value)} {oc45 kV45 dc45 pm45 cd45 ct45 : Value}
    {f46 : Addr} {od46 an46 : Option Addr} {sl46 : Array (Option Value)} {oc46 kV46 dc46 pm46 cd46 ct46 : Value}
    {pp46 : Addr} {rr46 : List Value}
    {f47 : Addr} {od47 an47 : Option Addr} {sl47 : Array (Option Value)} {oc47 kV47 dc47 pm47 cd47 ct47 : Value}
    {pp47 : Addr} {rr47 : List Value}
    {f48 : Addr} {od48 an48 : Option Addr} {sl48 : Array (Option Value)} {oc48 kV48 dc48 pm48 cd48 ct48 : Value}
    {f49 : Addr} {od49 an49 : Option Addr} {sl49 : Array (Option Value)} {oc49 kV49 dc49 pm49 cd49 ct49 : Value}
    {f50 : Addr} {od50 an50 : Option Addr} {sl50 : Array (Option Value)} {oc50 dc50 pm50 cd50 ct50 : Value}
    {f51 : Addr} {od51 an51 : Option Addr} {sl51 : Array (Option Value)} {oc51 kV51 dc51 pm51 cd51 ct51 : Value}
    {t0 : Tok}
    {t1 : Tok}
    {t2 : Tok}
    {t3 : Tok}
    {t4 : Tok}
    {t5 : Tok}
    {t6 : Tok}
    {t7 : Tok}
    {t8 : Tok}
    {t9 : Tok}
    {t10 : Tok}
    {eS : Addr} {e0 : Addr} {e1 : Addr} {e2 : Addr} {e3 : Addr} {e4 : Addr} {e5 : Addr} {e6 : Addr}
    {D10 : Addr} {td10_0 : Tok}
    {D37 : Addr}
    {D42 : Addr}
    {D50 : Addr}
    {cc28 P28 : Addr} {vs28 : Array Value} {ow28 : Value} {ox28 : Option Addr} {sw28 : Array (Option Value)}
    {cc43 P43 : Addr} {vs43 : Array Value} {ow43 : Value} {ox43 : Option Addr} {sw43 : Array (Option Value)}
    {cc44 P44 : Addr} {vs44 : Array Value} {ow44 : Value} {ox44 : Option Addr} {sw44 : Array (Option Value)}
    {cc51 P51 : Addr} {vs51 : Array Value} {ow51 : Value} {ox51 : Option Addr} {sw51 : Array (Option Value)}
    (aC : PySem.W.nsIn K mainGlobals "Contract" = some (some (.ref CC))) (cpg : PySem.W.plainGet K CC Str.empty = true) (chd : PySem.W.hasDictIn K CC = true) (cpo : PySem.W.plainOver K CC = true) (csa : PySem.W.findIn K (.ref CC) "__setattr__" = some (some (.builtin "object.__setattr__"))) (cmk : PySem.W.makesIn K CC = true) (ckp : PySem.W.keepIn K (.ref CC) = true) (cst : PySem.W.findIn K (.ref CC) "states" = some none)
    (crr : PySem.W.readsIn K CC (.type "type") = true) (crg : PySem.W.specialIn K (.ref CC) "__getattribute__" = some (some (.builtin "type.__getattribute__")))
    (a0 : PySem.W.nsIn K mainGlobals "_law_well" = some (some (.ref f0)))
    (l0 : K.lookup f0 = some ⟨oc0, od0, .func (PySem.W.fnOf "_law_well" "_law_well" (defArgs s__law_well) (defBody s__law_well) (defScope s__law_well) .none kV0 dc0 pm0 an0 cd0 ct0), sl0⟩) (c0 : PySem.W.codeIn K cd0 "_law_well" = true) (k0 : PySem.W.keepIn K (.ref f0) = true)
    (a1 : PySem.W.nsIn K mainGlobals "_law_bags" = some (some (.ref f1)))
    (l1 : K.lookup f1 = some ⟨oc1, od1, .func (PySem.W.fnOf "_law_bags" "_law_bags" (defArgs s__law_bags) (defBody s__law_bags) (defScope s__law_bags) .none kV1 dc1 pm1 an1 cd1 ct1), sl1⟩) (c1 : PySem.W.codeIn K cd1 "_law_bags" = true) (k1 : PySem.W.keepIn K (.ref f1) = true)
    (a2 : PySem.W.nsIn K mainGlobals "_law_take" = some (some (.ref f2)))
    (l2 : K.lookup f2 = some ⟨oc2, od2, .func (PySem.W.fnOf "_law_take" "_law_take" (defArgs s__law_take) (defBody s__law_take) (defScope s__law_take) .none kV2 dc2 pm2 an2 cd2 ct2), sl2⟩) (c2 : PySem.W.codeIn K cd2 "_law_take" = true) (k2 : PySem.W.keepIn K (.ref f2) = true)
    (a3 : PySem.W.nsIn K mainGlobals "_law_policy" = some (some (.ref f3)))
    (l3 : K.lookup f3 = some ⟨oc3, od3, .func (PySem.W.fnOf "_law_policy" "_law_policy" (defArgs s__law_policy) (defBody s__law_policy) (defScope s__law_policy) .none kV3 dc3 pm3 an3 cd3 ct3), sl3⟩) (c3 : PySem.W.codeIn K cd3 "_law_policy" = true) (k3 : PySem.W.keepIn K (.ref f3) = true)
    (a4 : PySem.W.nsIn K mainGlobals "_law_year" = some (some (.ref f4)))
    (l4 : K.lookup f4 = some ⟨oc4, od4, .func (PySem.W.fnOf "_law_year" "_law_year" (defArgs s__law_year) (defBody s__law_year) (defScope s__law_year) .none kV4 dc4 pm4 an4 cd4 ct4), sl4⟩) (c4 : PySem.W.codeIn K cd4 "_law_year" = true) (k4 : PySem.W.keepIn K (.ref f4) = true)
    (a5 : PySem.W.nsIn K mainGlobals "_law_error" = some (some (.ref f5)))
    (l5 : K.lookup f5 = some ⟨oc5, od5, .func (PySem.W.fnOf "_law_error" "_law_error" (defArgs s__law_error) (defBody s__law_error) (defScope s__law_error) .none kV5 dc5 pm5 an5 cd5 ct5), sl5⟩) (c5 : PySem.W.codeIn K cd5 "_law_error" = true) (k5 : PySem.W.keepIn K (.ref f5) = true)
    (a6 : PySem.W.nsIn K mainGlobals "_law_outcome" = some (some (.ref f6)))
    (l6 : K.lookup f6 = some ⟨oc6, od6, .func (PySem.W.fnOf "_law_outcome" "_law_outcome" (defArgs s__law_outcome) (defBody s__law_outcome) (defScope s__law_outcome) .none kV6 dc6 pm6 an6 cd6 ct6), sl6⟩) (c6 : PySem.W.codeIn K cd6 "_law_outcome" = true) (k6 : PySem.W.keepIn K (.ref f6) = true)
    (a7 : PySem.W.nsIn K mainGlobals "in_range" = some (some (.ref f7)))
    (l7 : K.lookup f7 = some ⟨oc7, od7, .func (PySem.W.fnOf "in_range" "in_range" (defArgs s_in_range) (defBody s_in_range) (defScope s_in_range) .none kV7 dc7 pm7 an7 cd7 ct7), sl7⟩) (c7 : PySem.W.codeIn K cd7 "in_range" = true) (k7 : PySem.W.keepIn K (.ref f7) = true)
    (a8 : PySem.W.nsIn K mainGlobals "is_policy" = some (some (.ref f8)))
    (l8 : K.lookup f8 = some ⟨oc8, od8, .func (PySem.W.fnOf "is_policy" "is_policy" (defArgs s_is_policy) (defBody s_is_policy) (defScope s_is_policy) .none kV8 dc8 pm8 an8 cd8 ct8), sl8⟩) (c8 : PySem.W.codeIn K cd8 "is_policy" = true) (k8 : PySem.W.keepIn K (.ref f8) = true)
    (a9 : PySem.W.nsIn K mainGlobals "check_policy" = some (some (.ref f9)))
    (l9 : K.lookup f9 = some ⟨oc9, od9, .func (PySem.W.fnOf "check_policy" "check_policy" (defArgs s_check_policy) (defBody s_check_policy) (defScope s_check_policy) .none kV9 dc9 pm9 an9 cd9 ct9), sl9⟩) (c9 : PySem.W.codeIn K cd9 "check_policy" = true) (k9 : PySem.W.keepIn K (.ref f9) = true)
    (a10 : PySem.W.nsIn K mainGlobals "policy_of" = some (some (.ref f10)))
    (l10 : K.lookup f10 = some ⟨oc10, od10, .func (PySem.W.fnOf "policy_of" "policy_of" (defArgs s_policy_of) (defBody s_policy_of) (defScope s_policy_of) .none (.ref D10) dc10 pm10 an10 cd10 ct10), sl10⟩) (c10 : PySem.W.codeIn K cd10 "policy_of" = true) (k10 : PySem.W.keepIn K (.ref f10) = true)
    (a11 : PySem.W.nsIn K mainGlobals "_law_all_raise" = some (some (.ref f11)))
    (l11 : K.lookup f11 = some ⟨oc11, od11, .func (PySem.W.fnOf "_law_all_raise" "_law_all_raise" (defArgs s__law_all_raise) (defBody s__law_all_raise) (defScope s__law_all_raise) .none kV11 dc11 pm11 an11 cd11 ct11), sl11⟩) (c11 : PySem.W.codeIn K cd11 "_law_all_raise" = true) (k11 : PySem.W.keepIn K (.ref f11) = true)
    (a12 : PySem.W.nsIn K mainGlobals "is_scheme" = some (some (.ref f12)))
    (l12 : K.lookup f12 = some ⟨oc12, od12, .func (PySem.W.fnOf "is_scheme" "is_scheme" (defArgs s_is_scheme) (defBody s_is_scheme) (defScope s_is_scheme) .none kV12 dc12 pm12 an12 cd12 ct12), sl12⟩) (c12 : PySem.W.codeIn K cd12 "is_scheme" = true) (k12 : PySem.W.keepIn K (.ref f12) = true)
    (a13 : PySem.W.nsIn K mainGlobals "check_scheme" = some (some (.ref f13)))
    (l13 : K.lookup f13 = some ⟨oc13, od13, .func (PySem.W.fnOf "check_scheme" "check_scheme" (defArgs s_check_scheme) (defBody s_check_scheme) (defScope s_check_scheme) .none kV13 dc13 pm13 an13 cd13 ct13), sl13⟩) (c13 : PySem.W.codeIn K cd13 "check_scheme" = true) (k13 : PySem.W.keepIn K (.ref f13) = true)
    (a14 : PySem.W.nsIn K mainGlobals "check_number" = some (some (.ref f14)))
    (l14 : K.lookup f14 = some ⟨oc14, od14, .func (PySem.W.fnOf "check_number" "check_number" (defArgs s_check_number) (defBody s_check_number) (defScope s_check_number) .none kV14 dc14 pm14 an14 cd14 ct14), sl14⟩) (c14 : PySem.W.codeIn K cd14 "check_number" = true) (k14 : PySem.W.keepIn K (.ref f14) = true)
    (a15 : PySem.W.nsIn K mainGlobals "later" = some (some (.ref f15)))
    (l15 : K.lookup f15 = some ⟨oc15, od15, .func (PySem.W.fnOf "later" "later" (defArgs s_later) (defBody s_later) (defScope s_later) .none kV15 dc15 pm15 an15 cd15 ct15), sl15⟩) (c15 : PySem.W.codeIn K cd15 "later" = true) (k15 : PySem.W.keepIn K (.ref f15) = true)
    (a16 : PySem.W.nsIn K mainGlobals "class_after" = some (some (.ref f16)))
    (l16 : K.lookup f16 = some ⟨oc16, od16, .func (PySem.W.fnOf "class_after" "class_after" (defArgs s_class_after) (defBody s_class_after) (defScope s_class_after) .none kV16 dc16 pm16 an16 cd16 ct16), sl16⟩) (c16 : PySem.W.codeIn K cd16 "class_after" = true) (k16 : PySem.W.keepIn K (.ref f16) = true)
    (a17 : PySem.W.nsIn K mainGlobals "is_year" = some (some (.ref f17)))
    (l17 : K.lookup f17 = some ⟨oc17, od17, .func (PySem.W.fnOf "is_year" "is_year" (defArgs s_is_year) (defBody s_is_year) (defScope s_is_year) .none kV17 dc17 pm17 an17 cd17 ct17), sl17⟩) (c17 : PySem.W.codeIn K cd17 "is_year" = true) (k17 : PySem.W.keepIn K (.ref f17) = true)
    (a18 : PySem.W.nsIn K mainGlobals "check_year" = some (some (.ref f18)))
    (l18 : K.lookup f18 = some ⟨oc18, od18, .func (PySem.W.fnOf "check_year" "check_year" (defArgs s_check_year) (defBody s_check_year) (defScope s_check_year) .none kV18 dc18 pm18 an18 cd18 ct18), sl18⟩) (c18 : PySem.W.codeIn K cd18 "check_year" = true) (k18 : PySem.W.keepIn K (.ref f18) = true)
    (a19 : PySem.W.nsIn K mainGlobals "check_years" = some (some (.ref f19)))
    (l19 : K.lookup f19 = some ⟨oc19, od19, .func (PySem.W.fnOf "check_years" "check_years" (defArgs s_check_years) (defBody s_check_years) (defScope s_check_years) .none kV19 dc19 pm19 an19 cd19 ct19), sl19⟩) (c19 : PySem.W.codeIn K cd19 "check_years" = true) (k19 : PySem.W.keepIn K (.ref f19) = true)
    (a20 : PySem.W.nsIn K mainGlobals "claimed_cost" = some (some (.ref f20)))
    (l20 : K.lookup f20 = some ⟨oc20, od20, .func (PySem.W.fnOf "claimed_cost" "claimed_cost" (defArgs s_claimed_cost) (defBody s_claimed_cost) (defScope s_claimed_cost) .none kV20 dc20 pm20 an20 cd20 ct20), sl20⟩) (c20 : PySem.W.codeIn K cd20 "claimed_cost" = true) (k20 : PySem.W.keepIn K (.ref f20) = true)
    (a21 : PySem.W.nsIn K mainGlobals "cost_with" = some (some (.ref f21)))
    (l21 : K.lookup f21 = some ⟨oc21, od21, .func (PySem.W.fnOf "cost_with" "cost_with" (defArgs s_cost_with) (defBody s_cost_with) (defScope s_cost_with) .none kV21 dc21 pm21 an21 cd21 ct21), sl21⟩) (c21 : PySem.W.codeIn K cd21 "cost_with" = true) (k21 : PySem.W.keepIn K (.ref f21) = true)
    (a22 : PySem.W.nsIn K mainGlobals "best_from" = some (some (.ref f22)))
    (l22 : K.lookup f22 = some ⟨oc22, od22, .func (PySem.W.fnOf "best_from" "best_from" (defArgs s_best_from) (defBody s_best_from) (defScope s_best_from) .none kV22 dc22 pm22 an22 cd22 ct22), sl22⟩) (c22 : PySem.W.codeIn K cd22 "best_from" = true) (k22 : PySem.W.keepIn K (.ref f22) = true)
    (a23 : PySem.W.nsIn K mainGlobals "least_total" = some (some (.ref f23)))
    (l23 : K.lookup f23 = some ⟨oc23, od23, .func (PySem.W.fnOf "least_total" "least_total" (defArgs s_least_total) (defBody s_least_total) (defScope s_least_total) .none kV23 dc23 pm23 an23 cd23 ct23), sl23⟩) (c23 : PySem.W.codeIn K cd23 "least_total" = true) (k23 : PySem.W.keepIn K (.ref f23) = true)
    (a24 : PySem.W.nsIn K mainGlobals "best_counts" = some (some (.ref f24)))
    (l24 : K.lookup f24 = some ⟨oc24, od24, .func (PySem.W.fnOf "best_counts" "best_counts" (defArgs s_best_counts) (defBody s_best_counts) (defScope s_best_counts) .none kV24 dc24 pm24 an24 cd24 ct24), sl24⟩) (c24 : PySem.W.codeIn K cd24 "best_counts" = true) (k24 : PySem.W.keepIn K (.ref f24) = true)
    (a25 : PySem.W.nsIn K mainGlobals "check_damage" = some (some (.ref f25)))
    (l25 : K.lookup f25 = some ⟨oc25, od25, .func (PySem.W.fnOf "check_damage" "check_damage" (defArgs s_check_damage) (defBody s_check_damage) (defScope s_check_damage) .none kV25 dc25 pm25 an25 cd25 ct25), sl25⟩) (c25 : PySem.W.codeIn K cd25 "check_damage" = true) (k25 : PySem.W.keepIn K (.ref f25) = true)
    (a26 : PySem.W.nsIn K mainGlobals "capped" = some (some (.ref f26)))
    (l26 : K.lookup f26 = some ⟨oc26, od26, .func (PySem.W.fnOf "capped" "capped" (defArgs s_capped) (defBody s_capped) (defScope s_capped) .none kV26 dc26 pm26 an26 cd26 ct26), sl26⟩) (c26 : PySem.W.codeIn K cd26 "capped" = true) (k26 : PySem.W.keepIn K (.ref f26) = true)
    (a27 : PySem.W.nsIn K mainGlobals "far_cost" = some (some (.ref f27)))
    (l27 : K.lookup f27 = some ⟨oc27, od27, .func (PySem.W.fnOf "far_cost" "far_cost" (defArgs s_far_cost) (defBody s_far_cost) (defScope s_far_cost) .none kV27 dc27 pm27 an27 cd27 ct27), sl27⟩) (c27 : PySem.W.codeIn K cd27 "far_cost" = true) (k27 : PySem.W.keepIn K (.ref f27) = true)
    (a28 : PySem.W.nsIn K mainGlobals "_law_scheme_numbers_right" = some (some (.ref f28)))
    (l28 : K.lookup f28 = some ⟨oc28, od28, .func (PySem.W.fnOf "_law_scheme_numbers_right" "_law_scheme_numbers_right" (defArgs s__law_scheme_numbers_right) (defBody s__law_scheme_numbers_right) (defScope s__law_scheme_numbers_right) .none kV28 dc28 pm28 an28 cd28 ct28), sl28⟩) (c28 : PySem.W.codeIn K cd28 "_law_scheme_numbers_right" = true) (k28 : PySem.W.keepIn K (.ref f28) = true)
    (a29 : PySem.W.nsIn K mainGlobals "check_shares" = some (some (.ref f29)))
    (l29 : K.lookup f29 = some ⟨oc29, od29, .func (PySem.W.fnOf "check_shares" "check_shares" (defArgs s_check_shares) (defBody s_check_shares) (defScope s_check_shares) .none kV29 dc29 pm29 an29 cd29 ct29), sl29⟩) (c29 : PySem.W.codeIn K cd29 "check_shares" = true) (k29 : PySem.W.keepIn K (.ref f29) = true)
    (a30 : PySem.W.nsIn K mainGlobals "least" = some (some (.ref f30)))
    (l30 : K.lookup f30 = some ⟨oc30, od30, .func (PySem.W.fnOf "least" "least" (defArgs s_least) (defBody s_least) (defScope s_least) .none kV30 dc30 pm30 an30 cd30 ct30), sl30⟩) (c30 : PySem.W.codeIn K cd30 "least" = true) (k30 : PySem.W.keepIn K (.ref f30) = true)
    (a31 : PySem.W.nsIn K mainGlobals "least_shares" = some (some (.ref f31)))
    (l31 : K.lookup f31 = some ⟨oc31, od31, .func (PySem.W.fnOf "least_shares" "least_shares" (defArgs s_least_shares) (defBody s_least_shares) (defScope s_least_shares) .none kV31 dc31 pm31 an31 cd31 ct31), sl31⟩) (c31 : PySem.W.codeIn K cd31 "least_shares" = true) (k31 : PySem.W.keepIn K (.ref f31) = true)
    (a32 : PySem.W.nsIn K mainGlobals "year_with" = some (some (.ref f32)))
    (l32 : K.lookup f32 = some ⟨oc32, od32, .func (PySem.W.fnOf "year_with" "year_with" (defArgs s_year_with) (defBody s_year_with) (defScope s_year_with) .none kV32 dc32 pm32 an32 cd32 ct32), sl32⟩) (c32 : PySem.W.codeIn K cd32 "year_with" = true) (k32 : PySem.W.keepIn K (.ref f32) = true)
    (a33 : PySem.W.nsIn K mainGlobals "shares_of" = some (some (.ref f33)))
    (l33 : K.lookup f33 = some ⟨oc33, od33, .func (PySem.W.fnOf "shares_of" "shares_of" (defArgs s_shares_of) (defBody s_shares_of) (defScope s_shares_of) .none kV33 dc33 pm33 an33 cd33 ct33), sl33⟩) (c33 : PySem.W.codeIn K cd33 "shares_of" = true) (k33 : PySem.W.keepIn K (.ref f33) = true)
    (a34 : PySem.W.nsIn K mainGlobals "cost_of" = some (some (.ref f34)))
    (l34 : K.lookup f34 = some ⟨oc34, od34, .func (PySem.W.fnOf "cost_of" "cost_of" (defArgs s_cost_of) (defBody s_cost_of) (defScope s_cost_of) .none kV34 dc34 pm34 an34 cd34 ct34), sl34⟩) (c34 : PySem.W.codeIn K cd34 "cost_of" = true) (k34 : PySem.W.keepIn K (.ref f34) = true)
    (a35 : PySem.W.nsIn K mainGlobals "excesses_for" = some (some (.ref f35)))
    (l35 : K.lookup f35 = some ⟨oc35, od35, .func (PySem.W.fnOf "excesses_for" "excesses_for" (defArgs s_excesses_for) (defBody s_excesses_for) (defScope s_excesses_for) .none kV35 dc35 pm35 an35 cd35 ct35), sl35⟩) (c35 : PySem.W.codeIn K cd35 "excesses_for" = true) (k35 : PySem.W.keepIn K (.ref f35) = true)
    (a36 : PySem.W.nsIn K mainGlobals "rows_of" = some (some (.ref f36)))
    (l36 : K.lookup f36 = some ⟨oc36, od36, .func (PySem.W.fnOf "rows_of" "rows_of" (defArgs s_rows_of) (defBody s_rows_of) (defScope s_rows_of) .none kV36 dc36 pm36 an36 cd36 ct36), sl36⟩) (c36 : PySem.W.codeIn K cd36 "rows_of" = true) (k36 : PySem.W.keepIn K (.ref f36) = true)
    (a37 : PySem.W.nsIn K mainGlobals "count_years" = some (some (.ref f37)))
    (l37 : K.lookup f37 = some ⟨oc37, od37, .func (PySem.W.fnOf "count_years" "count_years" (defArgs s_count_years) (defBody s_count_years) (defScope s_count_years) .none (.ref D37) dc37 pm37 an37 cd37 ct37), sl37⟩) (c37 : PySem.W.codeIn K cd37 "count_years" = true) (k37 : PySem.W.keepIn K (.ref f37) = true)
    (a38 : PySem.W.nsIn K mainGlobals "most_shares" = some (some (.ref f38)))
    (l38 : K.lookup f38 = some ⟨oc38, od38, .func (PySem.W.fnOf "most_shares" "most_shares" (defArgs s_most_shares) (defBody s_most_shares) (defScope s_most_shares) .none kV38 dc38 pm38 an38 cd38 ct38), sl38⟩) (c38 : PySem.W.codeIn K cd38 "most_shares" = true) (k38 : PySem.W.keepIn K (.ref f38) = true)
    (a39 : PySem.W.nsIn K mainGlobals "shares_for" = some (some (.ref f39)))
    (l39 : K.lookup f39 = some ⟨oc39, od39, .func (PySem.W.fnOf "shares_for" "shares_for" (defArgs s_shares_for) (defBody s_shares_for) (defScope s_shares_for) .none kV39 dc39 pm39 an39 cd39 ct39), sl39⟩) (c39 : PySem.W.codeIn K cd39 "shares_for" = true) (k39 : PySem.W.keepIn K (.ref f39) = true)
    (a40 : PySem.W.nsIn K mainGlobals "first_with" = some (some (.ref f40)))
    (l40 : K.lookup f40 = some ⟨oc40, od40, .func (PySem.W.fnOf "first_with" "first_with" (defArgs s_first_with) (defBody s_first_with) (defScope s_first_with) .none kV40 dc40 pm40 an40 cd40 ct40), sl40⟩) (c40 : PySem.W.codeIn K cd40 "first_with" = true) (k40 : PySem.W.keepIn K (.ref f40) = true)
    (a41 : PySem.W.nsIn K mainGlobals "hidden_damages" = some (some (.ref f41)))
    (l41 : K.lookup f41 = some ⟨oc41, od41, .func (PySem.W.fnOf "hidden_damages" "hidden_damages" (defArgs s_hidden_damages) (defBody s_hidden_damages) (defScope s_hidden_damages) .none kV41 dc41 pm41 an41 cd41 ct41), sl41⟩) (c41 : PySem.W.codeIn K cd41 "hidden_damages" = true) (k41 : PySem.W.keepIn K (.ref f41) = true)
    (a42 : PySem.W.nsIn K mainGlobals "year_at" = some (some (.ref f42)))
    (l42 : K.lookup f42 = some ⟨oc42, od42, .func (PySem.W.fnOf "year_at" "year_at" (defArgs s_year_at) (defBody s_year_at) (defScope s_year_at) .none (.ref D42) dc42 pm42 an42 cd42 ct42), sl42⟩) (c42 : PySem.W.codeIn K cd42 "year_at" = true) (k42 : PySem.W.keepIn K (.ref f42) = true)
    (a43 : PySem.W.nsIn K mainGlobals "_law_numbers_right" = some (some (.ref f43)))
    (l43 : K.lookup f43 = some ⟨oc43, od43, .func (PySem.W.fnOf "_law_numbers_right" "_law_numbers_right" (defArgs s__law_numbers_right) (defBody s__law_numbers_right) (defScope s__law_numbers_right) .none kV43 dc43 pm43 an43 cd43 ct43), sl43⟩) (c43 : PySem.W.codeIn K cd43 "_law_numbers_right" = true) (k43 : PySem.W.keepIn K (.ref f43) = true)
    (a44 : PySem.W.nsIn K mainGlobals "_law_years_right" = some (some (.ref f44)))
    (l44 : K.lookup f44 = some ⟨oc44, od44, .func (PySem.W.fnOf "_law_years_right" "_law_years_right" (defArgs s__law_years_right) (defBody s__law_years_right) (defScope s__law_years_right) .none kV44 dc44 pm44 an44 cd44 ct44), sl44⟩) (c44 : PySem.W.codeIn K cd44 "_law_years_right" = true) (k44 : PySem.W.keepIn K (.ref f44) = true)
    (a45 : PySem.W.findIn K (.ref CC) "__init__" = some (some (.ref f45))) (i45 : PySem.W.isFn K (.ref f45) = true)
    (l45 : K.lookup f45 = some ⟨oc45, od45, .func (PySem.W.fnOf "__init__" "Contract.__init__" (defArgs s_C___init__) (defBody s_C___init__) (defScope s_C___init__) .none kV45 dc45 pm45 an45 cd45 ct45), sl45⟩) (c45 : PySem.W.codeIn K cd45 "Contract.__init__" = true) (k45 : PySem.W.keepIn K (.ref f45) = true)
    (a46 : PySem.W.findCls K (.ref CC) (.type "type") "full" = some (.get (.builtin "classmethod.__get__") (.ref pp46) .none (.ref CC))) (pr46 : PySem.W.recIn K pp46 "classmethod" = some (.ref f46 :: rr46)) (pf46 : PySem.W.fnIn K f46 = true)
    (l46 : K.lookup f46 = some ⟨oc46, od46, .func (PySem.W.fnOf "full" "Contract.full" (defArgs s_C_full) (defBody s_C_full) (defScope s_C_full) .none kV46 dc46 pm46 an46 cd46 ct46), sl46⟩) (c46 : PySem.W.codeIn K cd46 "Contract.full" = true) (k46 : PySem.W.keepIn K (.ref f46) = true)
    (a47 : PySem.W.findIn K (.ref CC) "own" = some (some (.ref pp47))) (pg47 : PySem.W.specialIn K (.ref pp47) "__get__" = some (some (.builtin "property.__get__"))) (pt47 : PySem.W.takesIn K (.ref pp47) = some true) (pr47 : PySem.W.recIn K pp47 "property" = some (.ref f47 :: rr47))
    (l47 : K.lookup f47 = some ⟨oc47, od47, .func (PySem.W.fnOf "own" "Contract.own" (defArgs s_C_own) (defBody s_C_own) (defScope s_C_own) .none kV47 dc47 pm47 an47 cd47 ct47), sl47⟩) (c47 : PySem.W.codeIn K cd47 "Contract.own" = true) (k47 : PySem.W.keepIn K (.ref f47) = true)
    (a48 : PySem.W.findIn K (.ref CC) "claim" = some (some (.ref f48))) (i48 : PySem.W.isFn K (.ref f48) = true)
    (l48 : K.lookup f48 = some ⟨oc48, od48, .func (PySem.W.fnOf "claim" "Contract.claim" (defArgs s_C_claim) (defBody s_C_claim) (defScope s_C_claim) .none kV48 dc48 pm48 an48 cd48 ct48), sl48⟩) (c48 : PySem.W.codeIn K cd48 "Contract.claim" = true) (k48 : PySem.W.keepIn K (.ref f48) = true)
    (a49 : PySem.W.findIn K (.ref CC) "undo" = some (some (.ref f49))) (i49 : PySem.W.isFn K (.ref f49) = true)
    (l49 : K.lookup f49 = some ⟨oc49, od49, .func (PySem.W.fnOf "undo" "Contract.undo" (defArgs s_C_undo) (defBody s_C_undo) (defScope s_C_undo) .none kV49 dc49 pm49 an49 cd49 ct49), sl49⟩) (c49 : PySem.W.codeIn K cd49 "Contract.undo" = true) (k49 : PySem.W.keepIn K (.ref f49) = true)
    (a50 : PySem.W.findIn K (.ref CC) "renew" = some (some (.ref f50))) (i50 : PySem.W.isFn K (.ref f50) = true)
    (l50 : K.lookup f50 = some ⟨oc50, od50, .func (PySem.W.fnOf "renew" "Contract.renew" (defArgs s_C_renew) (defBody s_C_renew) (defScope s_C_renew) .none (.ref D50) dc50 pm50 an50 cd50 ct50), sl50⟩) (c50 : PySem.W.codeIn K cd50 "Contract.renew" = true) (k50 : PySem.W.keepIn K (.ref f50) = true)
    (a51 : PySem.W.nsIn K mainGlobals "law" = some (some (.ref f51)))
    (l51 : K.lookup f51 = some ⟨oc51, od51, .func (PySem.W.fnOf "law" "law" (defArgs s_law) (defBody s_law) (defScope s_law) .none kV51 dc51 pm51 an51 cd51 ct51), sl51⟩) (c51 : PySem.W.codeIn K cd51 "law" = true) (k51 : PySem.W.keepIn K (.ref f51) = true)
    (v0 : PySem.W.nsIn K mainGlobals "MOST_CAP" = some (some (.int 10000 t0)))
    (v1 : PySem.W.nsIn K mainGlobals "MOST_CLAIMS" = some (some (.int 40 t1)))
    (v2 : PySem.W.nsIn K mainGlobals "MOST_CLASSES" = some (some (.int 12 t2)))
    (v3 : PySem.W.nsIn K mainGlobals "MOST_COST" = some (some (.int 1000000000 t3)))
    (v4 : PySem.W.nsIn K mainGlobals "MOST_COUNTED" = some (some (.int 5 t4)))
    (v5 : PySem.W.nsIn K mainGlobals "MOST_DAMAGE" = some (some (.int 1000000 t5)))
    (v6 : PySem.W.nsIn K mainGlobals "MOST_EXCESS" = some (some (.int 1000 t6)))
    (v7 : PySem.W.nsIn K mainGlobals "MOST_PREMIUM" = some (some (.int 10000 t7)))
    (v8 : PySem.W.nsIn K mainGlobals "MOST_SHARES" = some (some (.int 1000000000000000 t8)))
    (v9 : PySem.W.nsIn K mainGlobals "MOST_UP" = some (some (.int 5 t9)))
    (v10 : PySem.W.nsIn K mainGlobals "MOST_YEARS" = some (some (.int 12 t10)))
    (z0 : PySem.W.nsIn K mainGlobals "all" = some none)
    (z1 : PySem.W.nsIn K mainGlobals "bool" = some none)
    (z2 : PySem.W.nsIn K mainGlobals "enumerate" = some none)
    (z3 : PySem.W.nsIn K mainGlobals "int" = some none)
    (z4 : PySem.W.nsIn K mainGlobals "isinstance" = some none)
    (z5 : PySem.W.nsIn K mainGlobals "len" = some none)
    (z6 : PySem.W.nsIn K mainGlobals "list" = some none)
    (z7 : PySem.W.nsIn K mainGlobals "max" = some none)
    (z8 : PySem.W.nsIn K mainGlobals "min" = some none)
    (z9 : PySem.W.nsIn K mainGlobals "range" = some none)
    (z10 : PySem.W.nsIn K mainGlobals "sorted" = some none)
    (z11 : PySem.W.nsIn K mainGlobals "sum" = some none)
    (z12 : PySem.W.nsIn K mainGlobals "tuple" = some none)
    (z13 : PySem.W.nsIn K mainGlobals "zip" = some none)
    (erS : PySem.W.nsIn K mainGlobals "ShareError" = some (some (.ref eS)))
    (er0 : PySem.W.nsIn K mainGlobals "InvalidPolicy" = some (some (.ref e0)))
    (er1 : PySem.W.nsIn K mainGlobals "InvalidYear" = some (some (.ref e1)))
    (er2 : PySem.W.nsIn K mainGlobals "InvalidMenu" = some (some (.ref e2)))
    (er3 : PySem.W.nsIn K mainGlobals "InvalidScheme" = some (some (.ref e3)))
    (er4 : PySem.W.nsIn K mainGlobals "InvalidNumber" = some (some (.ref e4)))
    (er5 : PySem.W.nsIn K mainGlobals "InvalidDamage" = some (some (.ref e5)))
    (er6 : PySem.W.nsIn K mainGlobals "NothingToUndo" = some (some (.ref e6)))
    (eok : ZH.errAll K eS [e0, e1, e2, e3, e4, e5, e6] = true)
    (d10_0 : PySem.W.nsIn K D10 "excess" = some (some (.int 0 td10_0)))
    (d10_1 : PySem.W.nsIn K D10 "cap" = some (some Value.none))
    (d37_0 : PySem.W.nsIn K D37 "paid" = some (some Value.none))
    (d42_0 : PySem.W.nsIn K D42 "paid" = some (some Value.none))
    (d50_0 : PySem.W.nsIn K D50 "policy" = some (some Value.none))
    (p28 : cd28 = .ref cc28) (q28 : K.lookup cc28 = some ⟨ow28, ox28, .fields vs28, sw28⟩) (r28 : vs28[11]? = some (.ref P28)) (u28 : ∃ e, (recsOf prog).find? (fun e => e.name == ("_law_scheme_numbers_right" : PySem.Str)) = some e)
    (p43 : cd43 = .ref cc43) (q43 : K.lookup cc43 = some ⟨ow43, ox43, .fields vs43, sw43⟩) (r43 : vs43[11]? = some (.ref P43)) (u43 : ∃ e, (recsOf prog).find? (fun e => e.name == ("_law_numbers_right" : PySem.Str)) = some e)
    (p44 : cd44 = .ref cc44) (q44 : K.lookup cc44 = some ⟨ow44, ox44, .fields vs44, sw44⟩) (r44 : vs44[11]? = some (.ref P44)) (u44 : ∃ e, (recsOf prog).find? (fun e => e.name == ("_law_years_right" : PySem.Str)) = some e)
    (p51 : cd51 = .ref cc51) (q51 : K.lookup cc51 = some ⟨ow51, ox51, .fields vs51, sw51⟩) (r51 : vs51[11]? = some (.ref P51)) (u51 : ∃ e, (recsOf prog).find? (fun e => e.name == ("law" : PySem.Str)) = some e)
    (n28_43 : P28 ≠ P43)
    (n28_44 : P28 ≠ P44)
    (n28_51 : P28 ≠ P51)
    (n43_44 : P43 ≠ P44)
    (n43_51 : P43 ≠ P51)
    (n44_51 : P44 ≠ P51) :
    ∃ (fd : FuncData) (cs : List (Addr × Addr)) (sp : Sp), (∀ p ∈ cs, ∃ (y : PySem.Str) (e : DefRec), (recsOf prog).find? (fun e => e.name == y) = some e ∧ PySem.W.tabIn K y = some p) ∧ (∀ (s : Shared) (v : Value), BindsTo s fd ⟨[v], []⟩ [("script", v)]) ∧
      (∀ (H : Hp) (a : Addr) (ns : List Int), ns.length ≤ 63 → (∀ p ∈ cs, H p.2 = some (.tbl #[])) → SqL K H a (ns.map V.int) → sp [.ref a] H (fun v _ => v = .bl true) fun _ _ _ => False) ∧
      ∀ base : Heap, K.In base → base.Ns mainGlobals mg → (∀ p ∈ cs, LamX.TabB base mg p.1 p.2) → FnOk l.prog w K mg base CX0 17 fa fd ["script"] sp := by
  have e := hfa.symm.trans (PySem.W.mg_of X G a51)
  cases e
  letI tbs0 : Tbs := ⟨[(P28, lamQ "_law_scheme_numbers_right"), (P43, lamQ "_law_numbers_right"), (P44, lamQ "_law_years_right"), (P51, lamQ "law")]⟩
  let T : Txt K mg := { C := CC, cls := ⟨⟨cpg, chd, cpo, csa⟩, PySem.W.mg_of X G aC, aC, cst⟩, mc := .type "type", crd := ⟨crr, crg⟩, a__law_well := f0, f__law_well := _, F__law_well := fun_mk (st := s__law_well) l0 c0 k0, g__law_well := PySem.W.mg_of X G a0, b__law_well := (fun_mk (st := s__law_well) l0 c0 k0).binds (ps := ["cell", "turn"]) (fun _ _ _ _ _ _ us hl => match us, hl with | [_, _], _ => rfl), a__law_bags := f1, f__law_bags := _, F__law_bags := fun_mk (st := s__law_bags) l1 c1 k1, g__law_bags := PySem.W.mg_of X G a1, b__law_bags := (fun_mk (st := s__law_bags) l1 c1 k1).binds (ps := ["script", "most"]) (fun _ _ _ _ _ _ us hl => match us, hl with | [_, _], _ => rfl), a__law_take := f2, f__law_take := _, F__law_take := fun_mk (st := s__law_take) l2 c2 k2, g__law_take := PySem.W.mg_of X G a2, b__law_take := (fun_mk (st := s__law_take) l2 c2 k2).binds (ps := ["bag", "many"]) (fun _ _ _ _ _ _ us hl => match us, hl with | [_, _], _ => rfl), a__law_policy := f3, f__law_policy := _, F__law_policy := fun_mk (st := s__law_policy) l3 c3 k3, g__law_policy := PySem.W.mg_of X G a3, b__law_policy := (fun_mk (st := s__law_policy) l3 c3 k3).binds (ps := ["bag"]) (fun _ _ _ _ _ _ us hl => match us, hl with | [_], _ => rfl), a__law_year := f4, f__law_year := _, F__law_year := fun_mk (st := s__law_year) l4 c4 k4, g__law_year := PySem.W.mg_of X G a4, b__law_year := (fun_mk (st := s__law_year) l4 c4 k4).binds (ps := ["bag", "most", "policy1"]) (fun _ _ _ _ _ _ us hl => match us, hl with | [_, _, _], _ => rfl), a__law_error := f5, f__law_error := _, F__law_error := fun_mk (st := s__law_error) l5 c5 k5, g__law_error := PySem.W.mg_of X G a5, b__law_error := (fun_mk (st := s__law_error) l5 c5 k5).binds (ps := ["e"]) (fun _ _ _ _ _ _ us hl => match us, hl with | [_], _ => rfl), a__law_outcome := f6, f__law_outcome := _, F__law_outcome := fun_mk (st := s__law_outcome) l6 c6 k6, g__law_outcome := PySem.W.mg_of X G a6, b__law_outcome := (fun_mk (st := s__law_outcome) l6 c6 k6).binds (ps := ["call"]) (fun _ _ _ _ _ _ us hl => match us, hl with | [_], _ => rfl), a_in_range := f7, f_in_range := _, F_in_range := fun_mk (st := s_in_range) l7 c7 k7, g_in_range := PySem.W.mg_of X G a7, b_in_range := (fun_mk (st := s_in_range) l7 c7 k7).binds (ps := ["value", "low", "high"]) (fun _ _ _ _ _ _ us hl => match us, hl with | [_, _, _], _ => rfl), a_is_policy := f8, f_is_policy := _, F_is_policy := fun_mk (st := s_is_policy) l8 c8 k8, g_is_policy := PySem.W.mg_of X G a8, b_is_policy := (fun_mk (st := s_is_policy) l8 c8 k8).binds (ps := ["value"]) (fun _ _ _ _ _ _ us hl => match us, hl with | [_], _ => rfl), a_check_policy := f9, f_check_policy := _, F_check_policy := fun_mk (st := s_check_policy) l9 c9 k9, g_check_policy := PySem.W.mg_of X G a9, b_check_policy := (fun_mk (st := s_check_policy) l9 c9 k9).binds (ps := ["value"]) (fun _ _ _ _ _ _ us hl => match us, hl with | [_], _ => rfl), a_policy_of := f10, f_policy_of := _, F_policy_of := fun_mk (st := s_policy_of) l10 c10 k10, g_policy_of := PySem.W.mg_of X G a10, a__law_all_raise := f11, f__law_all_raise := _, F__law_all_raise := fun_mk (st := s__law_all_raise) l11 c11 k11, g__law_all_raise := PySem.W.mg_of X G a11, b__law_all_raise := (fun_mk (st := s__law_all_raise) l11 c11 k11).binds (ps := ["calls", "word"]) (fun _ _ _ _ _ _ us hl => match us, hl with | [_, _], _ => rfl), a_is_scheme := f12, f_is_scheme := _, F_is_scheme := fun_mk (st := s_is_scheme) l12 c12 k12, g_is_scheme := PySem.W.mg_of X G a12, b_is_scheme := (fun_mk (st := s_is_scheme) l12 c12 k12).binds (ps := ["value"]) (fun _ _ _ _ _ _ us hl => match us, hl with | [_], _ => rfl), a_check_scheme := f13, f_check_scheme := _, F_check_scheme := fun_mk (st := s_check_scheme) l13 c13 k13, g_check_scheme := PySem.W.mg_of X G a13, b_check_scheme := (fun_mk (st := s_check_scheme) l13 c13 k13).binds (ps := ["value"]) (fun _ _ _ _ _ _ us hl => match us, hl with | [_], _ => rfl), a_check_number := f14, f_check_number := _, F_check_number := fun_mk (st := s_check_number) l14 c14 k14, g_check_number := PySem.W.mg_of X G a14, b_check_number := (fun_mk (st := s_check_number) l14 c14 k14).binds (ps := ["value", "low", "high"]) (fun _ _ _ _ _ _ us hl => match us, hl with | [_, _, _], _ => rfl), a_later := f15, f_later := _, F_later := fun_mk (st := s_later) l15 c15 k15, g_later := PySem.W.mg_of X G a15, b_later := (fun_mk (st := s_later) l15 c15 k15).binds (ps := ["scheme", "level", "claims"]) (fun _ _ _ _ _ _ us hl => match us, hl with | [_, _, _], _ => rfl), a_class_after := f16, f_class_after := _, F_class_after := fun_mk (st := s_class_after) l16 c16 k16, g_class_after := PySem.W.mg_of X G a16, a_is_year := f17, f_is_year := _, F_is_year := fun_mk (st := s_is_year) l17 c17 k17, g_is_year := PySem.W.mg_of X G a17, b_is_year := (fun_mk (st := s_is_year) l17 c17 k17).binds (ps := ["value"]) (fun _ _ _ _ _ _ us hl => match us, hl with | [_], _ => rfl), a_check_year := f18, f_check_year := _, F_check_year := fun_mk (st := s_check_year) l18 c18 k18, g_check_year := PySem.W.mg_of X G a18, b_check_year := (fun_mk (st := s_check_year) l18 c18 k18).binds (ps := ["value"]) (fun _ _ _ _ _ _ us hl => match us, hl with | [_], _ => rfl), a_check_years := f19, f_check_years := _, F_check_years := fun_mk (st := s_check_years) l19 c19 k19, g_check_years := PySem.W.mg_of X G a19, b_check_years := (fun_mk (st := s_check_years) l19 c19 k19).binds (ps := ["value"]) (fun _ _ _ _ _ _ us hl => match us, hl with | [_], _ => rfl), a_claimed_cost := f20, f_claimed_cost := _, F_claimed_cost := fun_mk (st := s_claimed_cost) l20 c20 k20, g_claimed_cost := PySem.W.mg_of X G a20, b_claimed_cost := (fun_mk (st := s_claimed_cost) l20 c20 k20).binds (ps := ["excess", "year", "count"]) (fun _ _ _ _ _ _ us hl => match us, hl with | [_, _, _], _ => rfl), a_cost_with := f21, f_cost_with := _, F_cost_with := fun_mk (st := s_cost_with) l21 c21 k21, g_cost_with := PySem.W.mg_of X G a21, b_cost_with := (fun_mk (st := s_cost_with) l21 c21 k21).binds (ps := ["scheme", "excess", "start", "years", "counts"]) (fun _ _ _ _ _ _ us hl => match us, hl with | [_, _, _, _, _], _ => rfl), a_best_from := f22, f_best_from := _, F_best_from := fun_mk (st := s_best_from) l22 c22 k22, g_best_from := PySem.W.mg_of X G a22, b_best_from := (fun_mk (st := s_best_from) l22 c22 k22).binds (ps := ["scheme", "excess", "start", "years"]) (fun _ _ _ _ _ _ us hl => match us, hl with | [_, _, _, _], _ => rfl), a_least_total := f23, f_least_total := _, F_least_total := fun_mk (st := s_least_total) l23 c23 k23, g_least_total := PySem.W.mg_of X G a23, b_least_total := (fun_mk (st := s_least_total) l23 c23 k23).binds (ps := ["scheme", "excess", "start", "years"]) (fun _ _ _ _ _ _ us hl => match us, hl with | [_, _, _, _], _ => rfl), a_best_counts := f24, f_best_counts := _, F_best_counts := fun_mk (st := s_best_counts) l24 c24 k24, g_best_counts := PySem.W.mg_of X G a24, b_best_counts := (fun_mk (st := s_best_counts) l24 c24 k24).binds (ps := ["scheme", "excess", "start", "years"]) (fun _ _ _ _ _ _ us hl => match us, hl with | [_, _, _, _], _ => rfl), a_check_damage := f25, f_check_damage := _, F_check_damage := fun_mk (st := s_check_damage) l25 c25 k25, g_check_damage := PySem.W.mg_of X G a25, b_check_damage := (fun_mk (st := s_check_damage) l25 c25 k25).binds (ps := ["value"]) (fun _ _ _ _ _ _ us hl => match us, hl with | [_], _ => rfl), a_capped := f26, f_capped := _, F_capped := fun_mk (st := s_capped) l26 c26 k26, g_capped := PySem.W.mg_of X G a26, b_capped := (fun_mk (st := s_capped) l26 c26 k26).binds (ps := ["policy", "shares"]) (fun _ _ _ _ _ _ us hl => match us, hl with | [_, _], _ => rfl), a_far_cost := f27, f_far_cost := _, F_far_cost := fun_mk (st := s_far_cost) l27 c27 k27, g_far_cost := PySem.W.mg_of X G a27, b_far_cost := (fun_mk (st := s_far_cost) l27 c27 k27).binds (ps := ["policy", "rows"]) (fun _ _ _ _ _ _ us hl => match us, hl with | [_, _], _ => rfl), a__law_scheme_numbers_right := f28, f__law_scheme_numbers_right := _, F__law_scheme_numbers_right := fun_mk (st := s__law_scheme_numbers_right) l28 c28 k28, g__law_scheme_numbers_right := PySem.W.mg_of X G a28, b__law_scheme_numbers_right := (fun_mk (st := s__law_scheme_numbers_right) l28 c28 k28).binds (ps := ["policy1"]) (fun _ _ _ _ _ _ us hl => match us, hl with | [_], _ => rfl), a_check_shares := f29, f_check_shares := _, F_check_shares := fun_mk (st := s_check_shares) l29 c29 k29, g_check_shares := PySem.W.mg_of X G a29, b_check_shares := (fun_mk (st := s_check_shares) l29 c29 k29).binds (ps := ["excess", "other", "shares", "most"]) (fun _ _ _ _ _ _ us hl => match us, hl with | [_, _, _, _], _ => rfl), a_least := f30, f_least := _, F_least := fun_mk (st := s_least) l30 c30 k30, g_least := PySem.W.mg_of X G a30, b_least := (fun_mk (st := s_least) l30 c30 k30).binds (ps := ["excess", "other", "shares"]) (fun _ _ _ _ _ _ us hl => match us, hl with | [_, _, _], _ => rfl), a_least_shares := f31, f_least_shares := _, F_least_shares := fun_mk (st := s_least_shares) l31 c31 k31, g_least_shares := PySem.W.mg_of X G a31, b_least_shares := (fun_mk (st := s_least_shares) l31 c31 k31).binds (ps := ["excess", "other", "shares"]) (fun _ _ _ _ _ _ us hl => match us, hl with | [_, _, _], _ => rfl), a_year_with := f32, f_year_with := _, F_year_with := fun_mk (st := s_year_with) l32 c32 k32, g_year_with := PySem.W.mg_of X G a32, b_year_with := (fun_mk (st := s_year_with) l32 c32 k32).binds (ps := ["excess", "other", "shares"]) (fun _ _ _ _ _ _ us hl => match us, hl with | [_, _, _], _ => rfl), a_shares_of := f33, f_shares_of := _, F_shares_of := fun_mk (st := s_shares_of) l33 c33 k33, g_shares_of := PySem.W.mg_of X G a33, b_shares_of := (fun_mk (st := s_shares_of) l33 c33 k33).binds (ps := ["excess", "year"]) (fun _ _ _ _ _ _ us hl => match us, hl with | [_, _], _ => rfl), a_cost_of := f34, f_cost_of := _, F_cost_of := fun_mk (st := s_cost_of) l34 c34 k34, g_cost_of := PySem.W.mg_of X G a34, b_cost_of := (fun_mk (st := s_cost_of) l34 c34 k34).binds (ps := ["policy", "year"]) (fun _ _ _ _ _ _ us hl => match us, hl with | [_, _], _ => rfl), a_excesses_for := f35, f_excesses_for := _, F_excesses_for := fun_mk (st := s_excesses_for) l35 c35 k35, g_excesses_for := PySem.W.mg_of X G a35, b_excesses_for := (fun_mk (st := s_excesses_for) l35 c35 k35).binds (ps := ["premium", "cap", "year", "paid"]) (fun _ _ _ _ _ _ us hl => match us, hl with | [_, _, _, _], _ => rfl), a_rows_of := f36, f_rows_of := _, F_rows_of := fun_mk (st := s_rows_of) l36 c36 k36, g_rows_of := PySem.W.mg_of X G a36, b_rows_of := (fun_mk (st := s_rows_of) l36 c36 k36).binds (ps := ["policy", "count", "most", "paid"]) (fun _ _ _ _ _ _ us hl => match us, hl with | [_, _, _, _], _ => rfl), a_count_years := f37, f_count_years := _, F_count_years := fun_mk (st := s_count_years) l37 c37 k37, g_count_years := PySem.W.mg_of X G a37, a_most_shares := f38, f_most_shares := _, F_most_shares := fun_mk (st := s_most_shares) l38 c38 k38, g_most_shares := PySem.W.mg_of X G a38, b_most_shares := (fun_mk (st := s_most_shares) l38 c38 k38).binds (ps := ["excess", "other", "shares"]) (fun _ _ _ _ _ _ us hl => match us, hl with | [_, _, _], _ => rfl), a_shares_for := f39, f_shares_for := _, F_shares_for := fun_mk (st := s_shares_for) l39 c39 k39, g_shares_for := PySem.W.mg_of X G a39, b_shares_for := (fun_mk (st := s_shares_for) l39 c39 k39).binds (ps := ["policy", "paid"]) (fun _ _ _ _ _ _ us hl => match us, hl with | [_, _], _ => rfl), a_first_with := f40, f_first_with := _, F_first_with := fun_mk (st := s_first_with) l40 c40 k40, g_first_with := PySem.W.mg_of X G a40, b_first_with := (fun_mk (st := s_first_with) l40 c40 k40).binds (ps := ["policy", "before", "paid"]) (fun _ _ _ _ _ _ us hl => match us, hl with | [_, _, _], _ => rfl), a_hidden_damages := f41, f_hidden_damages := _, F_hidden_damages := fun_mk (st := s_hidden_damages) l41 c41 k41, g_hidden_damages := PySem.W.mg_of X G a41, b_hidden_damages := (fun_mk (st := s_hidden_damages) l41 c41 k41).binds (ps := ["policy", "year", "paid"]) (fun _ _ _ _ _ _ us hl => match us, hl with | [_, _, _], _ => rfl), a_year_at := f42, f_year_at := _, F_year_at := fun_mk (st := s_year_at) l42 c42 k42, g_year_at := PySem.W.mg_of X G a42, a__law_numbers_right := f43, f__law_numbers_right := _, F__law_numbers_right := fun_mk (st := s__law_numbers_right) l43 c43 k43, g__law_numbers_right := PySem.W.mg_of X G a43, b__law_numbers_right := (fun_mk (st := s__law_numbers_right) l43 c43 k43).binds (ps := ["policy1", "year"]) (fun _ _ _ _ _ _ us hl => match us, hl with | [_, _], _ => rfl), a__law_years_right := f44, f__law_years_right := _, F__law_years_right := fun_mk (st := s__law_years_right) l44 c44 k44, g__law_years_right := PySem.W.mg_of X G a44, b__law_years_right := (fun_mk (st := s__law_years_right) l44 c44 k44).binds (ps := ["policy1"]) (fun _ _ _ _ _ _ us hl => match us, hl with | [_], _ => rfl), a_C___init__ := f45, f_C___init__ := _, F_C___init__ := fun_mk (st := s_C___init__) l45 c45 k45, cmk := ⟨cmk, a45, i45, ckp⟩, b_C___init__ := (fun_mk (st := s_C___init__) l45 c45 k45).binds (ps := ["self", "policy"]) (fun _ _ _ _ _ _ us hl => match us, hl with | [_, _], _ => rfl), a_C_full := f46, f_C_full := _, F_C_full := fun_mk (st := s_C_full) l46 c46 k46, pa_C_full := pp46, cm_C_full := ⟨a46, ⟨rr46, pr46⟩, pf46⟩, b_C_full := (fun_mk (st := s_C_full) l46 c46 k46).binds (ps := ["cls", "premium"]) (fun _ _ _ _ _ _ us hl => match us, hl with | [_, _], _ => rfl), a_C_own := f47, f_C_own := _, F_C_own := fun_mk (st := s_C_own) l47 c47 k47, pa_C_own := pp47, p_C_own := ⟨a47, pg47, pt47, rr47, pr47⟩, b_C_own := (fun_mk (st := s_C_own) l47 c47 k47).binds (ps := ["self"]) (fun _ _ _ _ _ _ us hl => match us, hl with | [_], _ => rfl), a_C_claim := f48, f_C_claim := _, F_C_claim := fun_mk (st := s_C_claim) l48 c48 k48, m_C_claim := ⟨a48, i48, k48⟩, a_C_undo := f49, f_C_undo := _, F_C_undo := fun_mk (st := s_C_undo) l49 c49 k49, m_C_undo := ⟨a49, i49, k49⟩, b_C_undo := (fun_mk (st := s_C_undo) l49 c49 k49).binds (ps := ["self"]) (fun _ _ _ _ _ _ us hl => match us, hl with | [_], _ => rfl), a_C_renew := f50, f_C_renew := _, F_C_renew := fun_mk (st := s_C_renew) l50 c50 k50, m_C_renew := ⟨a50, i50, k50⟩, a_law := fa, f_law := _, F_law := fun_mk (st := s_law) l51 c51 k51, g_law := PySem.W.mg_of X G a51, b_law := (fun_mk (st := s_law) l51 c51 k51).binds (ps := ["script"]) (fun _ _ _ _ _ _ us hl => match us, hl with | [_], _ => rfl), t_MOST_CAP := t0, c_MOST_CAP := PySem.W.mg_of X G v0, t_MOST_CLAIMS := t1, c_MOST_CLAIMS := PySem.W.mg_of X G v1, t_MOST_CLASSES := t2, c_MOST_CLASSES := PySem.W.mg_of X G v2, t_MOST_COST := t3, c_MOST_COST := PySem.W.mg_of X G v3, t_MOST_COUNTED := t4, c_MOST_COUNTED := PySem.W.mg_of X G v4, t_MOST_DAMAGE := t5, c_MOST_DAMAGE := PySem.W.mg_of X G v5, t_MOST_EXCESS := t6, c_MOST_EXCESS := PySem.W.mg_of X G v6, t_MOST_PREMIUM := t7, c_MOST_PREMIUM := PySem.W.mg_of X G v7, t_MOST_SHARES := t8, c_MOST_SHARES := PySem.W.mg_of X G v8, t_MOST_UP := t9, c_MOST_UP := PySem.W.mg_of X G v9, t_MOST_YEARS := t10, c_MOST_YEARS := PySem.W.mg_of X G v10, z_all := PySem.W.mg_none_of X G z0, z_bool := PySem.W.mg_none_of X G z1, z_enumerate := PySem.W.mg_none_of X G z2, z_int := PySem.W.mg_none_of X G z3, z_isinstance := PySem.W.mg_none_of X G z4, z_len := PySem.W.mg_none_of X G z5, z_list := PySem.W.mg_none_of X G z6, z_max := PySem.W.mg_none_of X G z7, z_min := PySem.W.mg_none_of X G z8, z_range := PySem.W.mg_none_of X G z9, z_sorted := PySem.W.mg_none_of X G z10, z_sum := PySem.W.mg_none_of X G z11, z_tuple := PySem.W.mg_none_of X G z12, z_zip := PySem.W.mg_none_of X G z13, E := { S := eS, cs := [e0, e1, e2, e3, e4, e5, e6], gS := PySem.W.mg_of X G erS, g := ZH.errs_g (PySem.W.mg_of X G er0) (PySem.W.mg_of X G er1) (PySem.W.mg_of X G er2) (PySem.W.mg_of X G er3) (PySem.W.mg_of X G er4) (PySem.W.mg_of X G er5) (PySem.W.mg_of X G er6), ok := eok }, bd_policy_of := (fund_mk (st := s_policy_of) (kws := [("excess", V.int 0), ("cap", V.non)]) l10 c10 k10 (fun q hq => by simp only [List.mem_cons, List.not_mem_nil, or_false] at hq; rcases hq with rfl | rfl <;> first | exact ⟨_, d10_0, ⟨_, rfl⟩⟩ | exact ⟨_, d10_1, rfl⟩)).binds0 1 (by simp) rfl (fun D doc pm an cdv ct us ks h1 h2 => match us, ks, h1, h2 with | [_], [_, _], _, _ => ⟨_, _, _, _, _, _, rfl, rfl, ⟨_, _, _, _, _, _, rfl, rfl, rfl⟩⟩), kp_policy_of_cap := (fund_mk (st := s_policy_of) (kws := [("excess", V.int 0), ("cap", V.non)]) l10 c10 k10 (fun q hq => by simp only [List.mem_cons, List.not_mem_nil, or_false] at hq; rcases hq with rfl | rfl <;> first | exact ⟨_, d10_0, ⟨_, rfl⟩⟩ | exact ⟨_, d10_1, rfl⟩)).kbinds0 1 ["cap"] [("excess", V.int 0)] (fun us mv ws => us ++ mv ++ ws) (by simp) (by intro q hq; rcases List.mem_singleton.mp hq with rfl; simp) (fun r1 r2 r3 => (r1.append r2).append r3) (fun D doc pm an cdv ct us mv ws h1 h2 h3 => match us, mv, ws, h1, h2, h3 with | [_], [_], [_], _, _, _ => ⟨_, _, _, _, _, _, rfl, rfl, rfl⟩), kp_policy_of_excess := (fund_mk (st := s_policy_of) (kws := [("excess", V.int 0), ("cap", V.non)]) l10 c10 k10 (fun q hq => by simp only [List.mem_cons, List.not_mem_nil, or_false] at hq; rcases hq with rfl | rfl <;> first | exact ⟨_, d10_0, ⟨_, rfl⟩⟩ | exact ⟨_, d10_1, rfl⟩)).kbinds0 1 ["excess"] [("cap", V.non)] (fun us mv ws => us ++ ws ++ mv) (by simp) (by intro q hq; rcases List.mem_singleton.mp hq with rfl; simp) (fun r1 r2 r3 => (r1.append r3).append r2) (fun D doc pm an cdv ct us mv ws h1 h2 h3 => match us, mv, ws, h1, h2, h3 with | [_], [_], [_], _, _, _ => ⟨_, _, _, _, _, _, rfl, rfl, rfl⟩), kb_policy_of := kbn_of fun us ws h1 h2 => match us, ws, h1, h2 with | [_], [_, _], _, _ => rfl, bd_count_years := (fund_mk (st := s_count_years) (kws := [("paid", V.non)]) l37 c37 k37 (fun q hq => by simp only [List.mem_cons, List.not_mem_nil, or_false] at hq; rcases hq with rfl <;> first | exact ⟨_, d37_0, rfl⟩)).binds0 3 (by simp) rfl (fun D doc pm an cdv ct us ks h1 h2 => match us, ks, h1, h2 with | [_, _, _], [_], _, _ => ⟨_, _, _, _, _, _, rfl, rfl, rfl⟩), kb_count_years := kbn_of fun us ws h1 h2 => match us, ws, h1, h2 with | [_, _, _], [_], _, _ => rfl, bd_year_at := (fund_mk (st := s_year_at) (kws := [("paid", V.non)]) l42 c42 k42 (fun q hq => by simp only [List.mem_cons, List.not_mem_nil, or_false] at hq; rcases hq with rfl <;> first | exact ⟨_, d42_0, rfl⟩)).binds0 4 (by simp) rfl (fun D doc pm an cdv ct us ks h1 h2 => match us, ks, h1, h2 with | [_, _, _, _], [_], _, _ => ⟨_, _, _, _, _, _, rfl, rfl, rfl⟩), kb_year_at := kbn_of fun us ws h1 h2 => match us, ws, h1, h2 with | [_, _, _, _], [_], _, _ => rfl, bd_C_renew := (fund_mk (st := s_C_renew) (kws := [("policy", V.non)]) l50 c50 k50 (fun q hq => by simp only [List.mem_cons, List.not_mem_nil, or_false] at hq; rcases hq with rfl <;> first | exact ⟨_, d50_0, rfl⟩)).binds0 1 (by simp) rfl (fun D doc pm an cdv ct us ks h1 h2 => match us, ks, h1, h2 with | [_], [_], _, _ => ⟨_, _, _, _, _, _, rfl, rfl, rfl⟩), kb_C_renew := kbn_of fun us ws h1 h2 => match us, ws, h1, h2 with | [_], [_], _, _ => rfl, code__law_scheme_numbers_right := cc28, tab__law_scheme_numbers_right := P28, C__law_scheme_numbers_right := func_mk (st := s__law_scheme_numbers_right) l28 c28 p28, mem__law_scheme_numbers_right := by (show (P28, lamQ "_law_scheme_numbers_right") ∈ ([(P28, lamQ "_law_scheme_numbers_right"), (P43, lamQ "_law_numbers_right"), (P44, lamQ "_law_years_right"), (P51, lamQ "law")] : List (Addr × PySem.Str)); simp), code__law_numbers_right := cc43, tab__law_numbers_right := P43, C__law_numbers_right := func_mk (st := s__law_numbers_right) l43 c43 p43, mem__law_numbers_right := by (show (P43, lamQ "_law_numbers_right") ∈ ([(P28, lamQ "_law_scheme_numbers_right"), (P43, lamQ "_law_numbers_right"), (P44, lamQ "_law_years_right"), (P51, lamQ "law")] : List (Addr × PySem.Str)); simp), code__law_years_right := cc44, tab__law_years_right := P44, C__law_years_right := func_mk (st := s__law_years_right) l44 c44 p44, mem__law_years_right := by (show (P44, lamQ "_law_years_right") ∈ ([(P28, lamQ "_law_scheme_numbers_right"), (P43, lamQ "_law_numbers_right"), (P44, lamQ "_law_years_right"), (P51, lamQ "law")] : List (Addr × PySem.Str)); simp), code_law := cc51, tab_law := P51, C_law := func_mk (st := s_law) l51 c51 p51, mem_law := by (show (P51, lamQ "law") ∈ ([(P28, lamQ "_law_scheme_numbers_right"), (P43, lamQ "_law_numbers_right"), (P44, lamQ "_law_years_right"), (P51, lamQ "law")] : List (Addr × PySem.Str)); simp), tun := tun_of [(P28, lamQ "_law_scheme_numbers_right"), (P43, lamQ "_law_numbers_right"), (P44, lamQ "_law_years_right"), (P51, lamQ "law")] (And.intro (And.intro n28_43 (And.intro n28_44 (And.intro n28_51 True.intro))) (And.intro (And.intro n43_44 (And.intro n43_51 True.intro)) (And.intro (And.intro n44_51 True.intro) (And.intro True.intro True.intro)))) }
  refine ⟨PySem.W.fnOf "law" "law" (defArgs s_law) (defBody s_law) (defScope s_law) .none kV51 dc51 pm51 an51 cd51 ct51, [(cc28, P28), (cc43, P43), (cc44, P44), (cc51, P51)], Z.spLaw K, fun p hp => ?_, fun s v => .of_eq rfl, fun H a ns hl hT hS => ⟨a, ns, rfl, hS, hl, fun p hp => ?_, fun _ => rfl⟩, fun base _ _ hB => lawZ (ok_law T base hB) LAW⟩
  · simp only [List.mem_cons, List.not_mem_nil, or_false] at hp
    rcases hp with rfl | rfl | rfl | rfl
    · exact let ⟨e, he⟩ := u28; ⟨_, e, he, tabIn_of a28 l28 p28 q28 r28⟩
    · exact let ⟨e, he⟩ := u43; ⟨_, e, he, tabIn_of a43 l43 p43 q43 r43⟩
    · exact let ⟨e, he⟩ := u44; ⟨_, e, he, tabIn_of a44 l44 p44 q44 r44⟩
    · exact let ⟨e, he⟩ := u51; ⟨_, e, he, tabIn_of a51 l51 p51 q51 r51⟩
  · replace hp : p ∈ ([(P28, lamQ "_law_scheme_numbers_right"), (P43, lamQ "_law_numbers_right"), (P44, lamQ "_law_years_right"), (P51, lamQ "law")] : List (Addr × PySem.Str)) := hp
    simp only [List.mem_cons, List.not_mem_nil, or_false] at hp
    rcases hp with rfl | rfl | rfl | rfl
    · exact LamX.TabS.nil (hT (cc28, P28) (by simp))
    · exact LamX.TabS.nil (hT (cc43, P43) (by simp))
    · exact LamX.TabS.nil (hT (cc44, P44) (by simp))
    · exact LamX.TabS.nil (hT (cc51, P51) (by simp))
end W
open PySem PySem.W PyProof.Rows
set_option maxHeartbeats 0 in
theorem PySem.Challenge.cw_claimshares_k02_other_arguments_holds : PySem.Challenge.rw_claimshares_k02_other_arguments.Holds := by
  w_on; o_law; k_head; (case hw => w_witness2)
  k_fill
  refine Z.walk_ofTT (l := PySem.Challenge.rw_claimshares_k02_other_arguments) (n := 63) (k := 17) (x := "script") rfl (by decide) rfl ⟨rfl, by decide, by decide⟩ (fun w h Y => PySem.W.km_in_of Y) (fun w => by kernel_rfl) ?F
  case F =>
    intro w mg fa h KX G hmg
    refine' W.all_mk W.law_true KX G hmg ?aC ?cpg ?chd ?cpo ?csa ?cmk ?ckp ?cst ?crr ?crg ?a0 ?l0 ?c0 ?k0 ?a1 ?l1 ?c1 ?k1 ?a2 ?l2 ?c2 ?k2 ?a3 ?l3 ?c3 ?k3 ?a4 ?l4 ?c4 ?k4 ?a5 ?l5 ?c5 ?k5 ?a6 ?l6 ?c6 ?k6 ?a7 ?l7 ?c7 ?k7 ?a8 ?l8 ?c8 ?k8 ?a9 ?l9 ?c9 ?k9 ?a10 ?l10 ?c10 ?k10 ?a11 ?l11 ?c11 ?k11 ?a12 ?l12 ?c12 ?k12 ?a13 ?l13 ?c13 ?k13 ?a14 ?l14 ?c14 ?k14 ?a15 ?l15 ?c15 ?k15 ?a16 ?l16 ?c16 ?k16 ?a17 ?l17 ?c17 ?k17 ?a18 ?l18 ?c18 ?k18 ?a19 ?l19 ?c19 ?k19 ?a20 ?l20 ?c20 ?k20 ?a21 ?l21 ?c21 ?k21 ?a22 ?l22 ?c22 ?k22 ?a23 ?l23 ?c23 ?k23 ?a24 ?l24 ?c24 ?k24 ?a25 ?l25 ?c25 ?k25 ?a26 ?l26 ?c26 ?k26 ?a27 ?l27 ?c27 ?k27 ?a28 ?l28 ?c28 ?k28 ?a29 ?l29 ?c29 ?k29 ?a30 ?l30 ?c30 ?k30 ?a31 ?l31 ?c31 ?k31 ?a32 ?l32 ?c32 ?k32 ?a33 ?l33 ?c33 ?k33 ?a34 ?l34 ?c34 ?k34 ?a35 ?l35 ?c35 ?k35 ?a36 ?l36 ?c36 ?k36 ?a37 ?l37 ?c37 ?k37 ?a38 ?l38 ?c38 ?k38 ?a39 ?l39 ?c39 ?k39 ?a40 ?l40 ?c40 ?k40 ?a41 ?l41 ?c41 ?k41 ?a42 ?l42 ?c42 ?k42 ?a43 ?l43 ?c43 ?k43 ?a44 ?l44 ?c44 ?k44 ?a45 ?i45 ?l45 ?c45 ?k45 ?a46 ?pr46 ?pf46 ?l46 ?c46 ?k46 ?a47 ?pg47 ?pt47 ?pr47 ?l47 ?c47 ?k47 ?a48 ?i48 ?l48 ?c48 ?k48 ?a49 ?i49 ?l49 ?c49 ?k49 ?a50 ?i50 ?l50 ?c50 ?k50 ?a51 ?l51 ?c51 ?k51 ?v0 ?v1 ?v2 ?v3 ?v4 ?v5 ?v6 ?v7 ?v8 ?v9 ?v10 ?z0 ?z1 ?z2 ?z3 ?z4 ?z5 ?z6 ?z7 ?z8 ?z9 ?z10 ?z11 ?z12 ?z13 ?erS ?er0 ?er1 ?er2 ?er3 ?er4 ?er5 ?er6 ?eok ?d10_0 ?d10_1 ?d37_0 ?d42_0 ?d50_0 ?p28 ?q28 ?r28 ?u28 ?p43 ?q43 ?r43 ?u43 ?p44 ?q44 ?r44 ?u44 ?p51 ?q51 ?r51 ?u51 ?n28_43 ?n28_44 ?n28_51 ?n43_44 ?n43_51 ?n44_51
    (case aC => k_is); (case cpg => k_is); (case chd => k_is); (case cpo => k_is); (case csa => k_is); (case cmk => k_is); (case ckp => k_is); (case cst => k_is)
    (case crr => k_is); (case crg => k_is); (case a0 => k_is); (case l0 => k_is); (case c0 => k_is); (case k0 => k_is); (case a1 => k_is); (case l1 => k_is)
    (case c1 => k_is); (case k1 => k_is); (case a2 => k_is); (case l2 => k_is); (case c2 => k_is); (case k2 => k_is); (case a3 => k_is); (case l3 => k_is)
    (case c3 => k_is); (case k3 => k_is); (case a4 => k_is); (case l4 => k_is); (case c4 => k_is); (case k4 => k_is); (case a5 => k_is); (case l5 => k_is)
    (case c5 => k_is); (case k5 => k_is); (case a6 => k_is); (case l6 => k_is); (case c6 => k_is); (case k6 => k_is); (case a7 => k_is); (case l7 => k_is)
    (case c7 => k_is); (case k7 => k_is); (case a8 => k_is); (case l8 => k_is); (case c8 => k_is); (case k8 => k_is); (case a9 => k_is); (case l9 => k_is)
    (case c9 => k_is); (case k9 => k_is); (case a10 => k_is); (case l10 => k_is); (case c10 => k_is); (case k10 => k_is); (case a11 => k_is); (case l11 => k_is)
    (case c11 => k_is); (case k11 => k_is); (case a12 => k_is); (case l12 => k_is); (case c12 => k_is); (case k12 => k_is); (case a13 => k_is); (case l13 => k_is)
    (case c13 => k_is); (case k13 => k_is); (case a14 => k_is); (case l14 => k_is); (case c14 => k_is); (case k14 => k_is); (case a15 => k_is); (case l15 => k_is)
    (case c15 => k_is); (case k15 => k_is); (case a16 => k_is); (case l16 => k_is); (case c16 => k_is); (case k16 => k_is); (case a17 => k_is); (case l17 => k_is)
    (case c17 => k_is); (case k17 => k_is); (case a18 => k_is); (case l18 => k_is); (case c18 => k_is); (case k18 => k_is); (case a19 => k_is); (case l19 => k_is)
    (case c19 => k_is); (case k19 => k_is); (case a20 => k_is); (case l20 => k_is); (case c20 => k_is); (case k20 => k_is); (case a21 => k_is); (case l21 => k_is)
    (case c21 => k_is); (case k21 => k_is); (case a22 => k_is); (case l22 => k_is); (case c22 => k_is); (case k22 => k_is); (case a23 => k_is); (case l23 => k_is)
    (case c23 => k_is); (case k23 => k_is); (case a24 => k_is); (case l24 => k_is); (case c24 => k_is); (case k24 => k_is); (case a25 => k_is); (case l25 => k_is)
    (case c25 => k_is); (case k25 => k_is); (case a26 => k_is); (case l26 => k_is); (case c26 => k_is); (case k26 => k_is); (case a27 => k_is); (case l27 => k_is)
    (case c27 => k_is); (case k27 => k_is); (case a28 => k_is); (case l28 => k_is); (case c28 => k_is); (case k28 => k_is); (case a29 => k_is); (case l29 => k_is)
    (case c29 => k_is); (case k29 => k_is); (case a30 => k_is); (case l30 => k_is); (case c30 => k_is); (case k30 => k_is); (case a31 => k_is); (case l31 => k_is)
    (case c31 => k_is); (case k31 => k_is); (case a32 => k_is); (case l32 => k_is); (case c32 => k_is); (case k32 => k_is); (case a33 => k_is); (case l33 => k_is)
    (case c33 => k_is); (case k33 => k_is); (case a34 => k_is); (case l34 => k_is); (case c34 => k_is); (case k34 => k_is); (case a35 => k_is); (case l35 => k_is)
    (case c35 => k_is); (case k35 => k_is); (case a36 => k_is); (case l36 => k_is); (case c36 => k_is); (case k36 => k_is); (case a37 => k_is); (case l37 => k_is)
    (case c37 => k_is); (case k37 => k_is); (case a38 => k_is); (case l38 => k_is); (case c38 => k_is); (case k38 => k_is); (case a39 => k_is); (case l39 => k_is)
    (case c39 => k_is); (case k39 => k_is); (case a40 => k_is); (case l40 => k_is); (case c40 => k_is); (case k40 => k_is); (case a41 => k_is); (case l41 => k_is)
    (case c41 => k_is); (case k41 => k_is); (case a42 => k_is); (case l42 => k_is); (case c42 => k_is); (case k42 => k_is); (case a43 => k_is); (case l43 => k_is)
    (case c43 => k_is); (case k43 => k_is); (case a44 => k_is); (case l44 => k_is); (case c44 => k_is); (case k44 => k_is); (case a45 => k_is); (case i45 => k_is)
    (case l45 => k_is); (case c45 => k_is); (case k45 => k_is); (case a46 => k_is); (case pr46 => k_is); (case pf46 => k_is); (case l46 => k_is); (case c46 => k_is)
    (case k46 => k_is); (case a47 => k_is); (case pg47 => k_is); (case pt47 => k_is); (case pr47 => k_is); (case l47 => k_is); (case c47 => k_is); (case k47 => k_is)
    (case a48 => k_is); (case i48 => k_is); (case l48 => k_is); (case c48 => k_is); (case k48 => k_is); (case a49 => k_is); (case i49 => k_is); (case l49 => k_is)
    (case c49 => k_is); (case k49 => k_is); (case a50 => k_is); (case i50 => k_is); (case l50 => k_is); (case c50 => k_is); (case k50 => k_is); (case a51 => k_is)
    (case l51 => k_is); (case c51 => k_is); (case k51 => k_is); (case v0 => k_is); (case v1 => k_is); (case v2 => k_is); (case v3 => k_is); (case v4 => k_is)
    (case v5 => k_is); (case v6 => k_is); (case v7 => k_is); (case v8 => k_is); (case v9 => k_is); (case v10 => k_is); (case z0 => k_is); (case z1 => k_is)
    (case z2 => k_is); (case z3 => k_is); (case z4 => k_is); (case z5 => k_is); (case z6 => k_is); (case z7 => k_is); (case z8 => k_is); (case z9 => k_is)
    (case z10 => k_is); (case z11 => k_is); (case z12 => k_is); (case z13 => k_is); (case erS => k_is); (case er0 => k_is); (case er1 => k_is); (case er2 => k_is)
    (case er3 => k_is); (case er4 => k_is); (case er5 => k_is); (case er6 => k_is); (case eok => kernel_rfl); (case d10_0 => k_is); (case d10_1 => k_is); (case d37_0 => k_is)
    (case d42_0 => k_is); (case d50_0 => k_is); (case p28 => rfl); (case q28 => k_is); (case r28 => rfl); (case u28 => exact Option.isSome_iff_exists.mp (by decide +kernel)); (case p43 => rfl); (case q43 => k_is)
    (case r43 => rfl); (case u43 => exact Option.isSome_iff_exists.mp (by decide +kernel)); (case p44 => rfl); (case q44 => k_is); (case r44 => rfl); (case u44 => exact Option.isSome_iff_exists.mp (by decide +kernel)); (case p51 => rfl); (case q51 => k_is)
    (case r51 => rfl); (case u51 => exact Option.isSome_iff_exists.mp (by decide +kernel)); (case n28_43 => decide); (case n28_44 => decide); (case n28_51 => decide); (case n43_44 => decide); (case n43_51 => decide); (case n44_51 => decide)
