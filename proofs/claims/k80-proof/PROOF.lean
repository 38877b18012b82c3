import PyProof.Rows.All
import Wide.All
import OpenK.AllK
import Wide.FinOn
import HandS.ForMost
import HandS.Codes
import HandS.IsInst
import HandS.Deep
import HandS.Style
import HandS.Wide
import HandS.TupAny
import HandS.Nested
import HandS.ExcInit
import HandS.ExcField
import HandS.TryOnly
import HandS.WordsExc
import KE.KExcSuper
import HandS.ExcIs
import HandS.Flow
import HandS.Conv
import HandS.Strs
import HandS.SetFor
import HandS.More
import HandS.Iter
import HandS.FStr
import HandS.Text
import HandS.Sort
import PyProof.DictItems
import HandS.TryMany
import HandS.CallLocal
import HandS.SortInts
import KE.KBits
import KE.BitLaws
import PySem.Challenge.RW_gatework_k80_whole_graphs_and_tables_run
set_option Elab.async false
set_option linter.all false
set_option maxRecDepth 100000
set_option maxHeartbeats 8000000
/-! ## general lemmas about the abstract heap and data (my own) -/
namespace G
open PySem L2

theorem same_new {H : Hp} {p : Addr} {o : HO} (h : H p = none) : Same H (upd H p o) := fun b u e => by
  rw [upd_ne (ne_of_none e h)]
  exact e
theorem same_mut {H H' : Hp} {p : Addr} {o : HO} (e : Same H H') (h : H p = none) : Same H (upd H' p o) := fun a u ha => by
  rw [upd_ne (ne_of_none ha h)]
  exact e a u ha
/-- all but what stands at a is as it was -/
def But (a : Addr) (H H' : Hp) : Prop := ∀ b o, b ≠ a → H b = some o → H' b = some o
theorem But.refl (a : Addr) (H : Hp) : But a H H := fun _ _ _ h => h
theorem But.trans {a : Addr} {H H1 H2 : Hp} (x : But a H H1) (y : But a H1 H2) : But a H H2 := fun b o n h => y b o n (x b o n h)
theorem But.of {a : Addr} {H H' : Hp} (x : Same H H') : But a H H' := fun b o _ h => x b o h
theorem but_upd {H : Hp} {p : Addr} {o : HO} : But p H (upd H p o) := fun b u n e => by
  rw [upd_ne n]
  exact e
theorem upd_self {H : Hp} {a : Addr} {o : HO} (h : H a = some o) : upd H a o = H := by
  funext b
  unfold upd
  split
  · rename_i e
    rw [e, h]
  · rfl
theorem Same.tup {K : PySem.W.Frag} {H H' : Hp} {a : Addr} {xs : List V} (e : Same H H') (h : SqT K H a xs) : SqT K H' a xs := by
  rcases h with (h | ⟨o, h⟩) | h
  · exact .inl (.inl (e _ _ h))
  · exact .inl (.inr ⟨o, e _ _ h⟩)
  · exact .inr h
theorem SqT.of' {K : PySem.W.Frag} {H : Hp} {a : Addr} {xs : List V} (h : H a = some (.tup xs)) : SqT K H a xs := .inl (.inl h)
theorem SqL.of' {K : PySem.W.Frag} {H : Hp} {a : Addr} {xs : List V} (h : H a = some (.lst xs)) : SqL K H a xs := .inl (.inl h)

mutual
theorem dp_same {K : PySem.W.Frag} {H H' : Hp} (e : Same H H') : ∀ {v : V} {d : PyData}, Dp K H v d → Dp K H' v d
  | _, _, .non => .non
  | _, _, .bl b => .bl b
  | _, _, .int i => .int i
  | _, _, .str x => .str x
  | _, _, .lst h a => .lst (Same.seq e h) (dps_same e a)
  | _, _, .tup h a => .tup (Same.tup e h) (dps_same e a)
theorem dps_same {K : PySem.W.Frag} {H H' : Hp} (e : Same H H') : ∀ {v : List V} {d : List PyData}, DpAll K H v d → DpAll K H' v d
  | _, _, .nil => .nil
  | _, _, .cons h t => .cons (dp_same e h) (dps_same e t)
end
theorem dp_int {K : PySem.W.Frag} {H : Hp} {v : V} {i : Int} (h : Dp K H v (.int i)) : v = .int i := by cases h; rfl
theorem dp_str {K : PySem.W.Frag} {H : Hp} {v : V} {i : Str} (h : Dp K H v (.str i)) : v = .str i := by cases h; rfl
theorem dp_bl {K : PySem.W.Frag} {H : Hp} {v : V} {i : Bool} (h : Dp K H v (.bool i)) : v = .bl i := by cases h; rfl
theorem dp_non {K : PySem.W.Frag} {H : Hp} {v : V} (h : Dp K H v .none) : v = .non := by cases h; rfl
theorem dp_lst {K : PySem.W.Frag} {H : Hp} {v : V} {ds : List PyData} (h : Dp K H v (.list ds)) : ∃ a xs, v = .ref a ∧ SqL K H a xs ∧ DpAll K H xs ds := by
  cases h with
  | lst h a => exact ⟨_, _, rfl, h, a⟩
theorem dp_tup {K : PySem.W.Frag} {H : Hp} {v : V} {ds : List PyData} (h : Dp K H v (.tuple ds)) : ∃ a xs, v = .ref a ∧ SqT K H a xs ∧ DpAll K H xs ds := by
  cases h with
  | tup h a => exact ⟨_, _, rfl, h, a⟩
theorem dps_len {K : PySem.W.Frag} {H : Hp} : ∀ {vs : List V} {ds : List PyData}, DpAll K H vs ds → vs.length = ds.length
  | _, _, .nil => rfl
  | _, _, .cons _ t => congrArg (· + 1) (dps_len t)
theorem dps_get {K : PySem.W.Frag} {H : Hp} : ∀ {vs : List V} {ds : List PyData} {i : Nat} {d : PyData}, DpAll K H vs ds → ds[i]? = some d → ∃ v, vs[i]? = some v ∧ Dp K H v d
  | _, _, i, d, .nil, e => by simp at e
  | _, _, 0, d, .cons h t, e => by
    simp at e
    subst e
    exact ⟨_, rfl, h⟩
  | _, _, i + 1, d, .cons h t, e => by
    obtain ⟨v, h1, h2⟩ := dps_get (i := i) (d := d) t (by simpa using e)
    exact ⟨v, by simpa using h1, h2⟩
theorem dps_getv {K : PySem.W.Frag} {H : Hp} : ∀ {vs : List V} {ds : List PyData} {i : Nat} {v : V}, DpAll K H vs ds → vs[i]? = some v → ∃ d, ds[i]? = some d ∧ Dp K H v d
  | _, _, i, d, .nil, e => by simp at e
  | _, _, 0, d, .cons h t, e => by
    simp at e
    subst e
    exact ⟨_, rfl, h⟩
  | _, _, i + 1, d, .cons h t, e => by
    obtain ⟨v, h1, h2⟩ := dps_getv (i := i) (v := d) t (by simpa using e)
    exact ⟨v, by simpa using h1, h2⟩
theorem dps_app {K : PySem.W.Frag} {H : Hp} : ∀ {vs ws : List V} {ds es : List PyData}, DpAll K H vs ds → DpAll K H ws es → DpAll K H (vs ++ ws) (ds ++ es)
  | _, _, _, _, .nil, t => t
  | _, _, _, _, .cons h r, t => .cons h (dps_app r t)
theorem dps_snoc {K : PySem.W.Frag} {H : Hp} {vs : List V} {w : V} {ds : List PyData} {e : PyData} (h : DpAll K H vs ds) (t : Dp K H w e) : DpAll K H (vs ++ [w]) (ds ++ [e]) := dps_app h (.cons t .nil)
theorem dps_take {K : PySem.W.Frag} {H : Hp} : ∀ {vs : List V} {ds : List PyData} (n : Nat), DpAll K H vs ds → DpAll K H (vs.take n) (ds.take n)
  | _, _, 0, _ => by simpa using .nil
  | _, _, _ + 1, .nil => .nil
  | _, _, n + 1, .cons h t => .cons h (dps_take n t)
theorem dps_drop {K : PySem.W.Frag} {H : Hp} : ∀ {vs : List V} {ds : List PyData} (n : Nat), DpAll K H vs ds → DpAll K H (vs.drop n) (ds.drop n)
  | _, _, 0, h => h
  | _, _, _ + 1, .nil => .nil
  | _, _, n + 1, .cons h t => dps_drop n t
theorem dps_rev {K : PySem.W.Frag} {H : Hp} : ∀ {vs : List V} {ds : List PyData}, DpAll K H vs ds → DpAll K H vs.reverse ds.reverse
  | _, _, .nil => .nil
  | _, _, .cons h t => by
    rw [List.reverse_cons, List.reverse_cons]
    exact dps_snoc (dps_rev t) h
theorem dps_set {K : PySem.W.Frag} {H : Hp} {v : V} {d : PyData} (hd : Dp K H v d) : ∀ {vs : List V} {ds : List PyData} (n : Nat), DpAll K H vs ds → DpAll K H (vs.set n v) (ds.set n d)
  | _, _, _, .nil => .nil
  | _, _, 0, .cons _ t => .cons hd t
  | _, _, n + 1, .cons h t => .cons h (dps_set hd n t)
theorem dps_ints {K : PySem.W.Frag} {H : Hp} : ∀ (ns : List Int), DpAll K H (ns.map V.int) (ns.map PyData.int)
  | [] => .nil
  | n :: r => .cons (.int n) (dps_ints r)
theorem dps_ints_of {K : PySem.W.Frag} {H : Hp} : ∀ {ns : List Int} {vs : List V}, DpAll K H vs (ns.map PyData.int) → vs = ns.map V.int
  | [], _, .nil => rfl
  | n :: r, _, .cons h t => by
    cases dp_int h
    rw [dps_ints_of t]
    rfl
/-- the name of a datum's type -/
def tyD : PyData → String
  | .none => "NoneType"
  | .bool _ => "bool"
  | .int _ => "int"
  | .str _ => "str"
  | .list _ => "list"
  | .tuple _ => "tuple"
  | .dict _ => "dict"
theorem dp_ty {K : PySem.W.Frag} {H : Hp} {v : V} {d : PyData} (h : Dp K H v d) : TyX K H v (.type (tyD d)) := by
  cases h with
  | non => exact .base .non
  | bl b => exact .base (.bl b)
  | int i => exact .base (.int i)
  | str x => exact .base (.str x)
  | lst h a =>
    rcases h with (h | ⟨o, h⟩) | ⟨o, _, _, h1, h2, _⟩
    · exact .base (.lst h)
    · exact .base (.frz h)
    · exact .kList h1 h2
  | tup h a =>
    rcases h with (h | ⟨o, h⟩) | ⟨o, _, _, h1, h2, _⟩
    · exact .base (.tup h)
    · exact .fTuple h
    · exact .kTuple h1 h2
/-- isinstance(x, T) of data: the answers -/
def isT (t T : String) : Bool := decide (t = T) || (decide (t = "bool") && decide (T = "int"))
def isD (T : String) (d : PyData) : Bool := isT (tyD d) T
theorem kit_tab : ∀ t ∈ ["NoneType", "bool", "int", "str", "list", "tuple", "dict"], ∀ T ∈ ["int", "bool", "str", "list", "tuple", "dict"], kitB t T = some (isT t T) := by decide +kernel
theorem tyD_mem (d : PyData) : tyD d ∈ ["NoneType", "bool", "int", "str", "list", "tuple", "dict"] := by cases d <;> simp [tyD]
theorem kitD (K : PySem.W.Frag) (d : PyData) (T : String) (hT : T ∈ ["int", "bool", "str", "list", "tuple", "dict"]) : PySem.W.kitOne K (.type (tyD d)) (.type T) = some (isD T d) :=
  kit_ty (kit_tab _ (tyD_mem d) T hT)
theorem kitD2 (K : PySem.W.Frag) (d : PyData) (S T : String) (hS : S ∈ ["int", "bool", "str", "list", "tuple", "dict"]) (hT : T ∈ ["int", "bool", "str", "list", "tuple", "dict"]) :
    PySem.W.kitAny K (.type (tyD d)) [.type S, .type T] = some (isD S d || isD T d) := by
  refine kitAny_cons (kitD K d S hS) (fun h => ?_) (fun h => by rw [h]; rfl)
  rw [h]
  refine kitAny_cons (kitD K d T hT) (fun h => ?_) (fun h => by rw [h]; rfl)
  rw [h]
  rfl
theorem clsv2 (S T : String) : Paired ClsV [V.ty S, V.ty T] [Value.type S, Value.type T] := .cons (.ty S) (.cons (.ty T) .nil)
/-- items of a list, a tuple by a number that is not below 0 -/
theorem at_nat {xs : List V} {i : Nat} {v : V} (h : xs[i]? = some v) : atI xs (i : Int) = some v := atI_nat h
/-- only a deck is known: some ints, not many -/
def Deck (H : Hp) (a : Addr) : Prop := ∃ ds : List Int, ds.length ≤ 2000 ∧ H a = some (.lst (ds.map V.int))
theorem Deck.same {H H' : Hp} {a : Addr} (h : Deck H a) (e : Same H H') : Deck H' a := let ⟨ds, h1, h2⟩ := h; ⟨ds, h1, e _ _ h2⟩

/-! ### the frame: what a call does not see stands as it was -/
/-- without the lists of S -/
def out (H : Hp) (S : Addr → Bool) : Hp := fun b => if S b = true then none else H b
/-- the lists of S put back -/
def back (H H' : Hp) (S : Addr → Bool) : Hp := fun b => if S b = true then H b else H' b
theorem out_in {H : Hp} {S : Addr → Bool} {b : Addr} (h : S b = true) : out H S b = none := by unfold out; rw [if_pos h]
theorem out_ne {H : Hp} {S : Addr → Bool} {b : Addr} (h : ¬ S b = true) : out H S b = H b := by unfold out; rw [if_neg h]
theorem back_in {H H' : Hp} {S : Addr → Bool} {b : Addr} (h : S b = true) : back H H' S b = H b := by unfold back; rw [if_pos h]
theorem back_ne {H H' : Hp} {S : Addr → Bool} {b : Addr} (h : ¬ S b = true) : back H H' S b = H' b := by unfold back; rw [if_neg h]
/-- a promise that may be used over a part of the heap -/
@[irreducible] def fr (sp : Sp) : Sp := fun vs H Q E => ∃ S : Addr → Bool, (∀ b, S b = true → ∃ xs, H b = some (.lst xs)) ∧ sp vs (out H S) (fun v H' => (∀ b, S b = true → H' b = none) → Q v (back H H' S)) E
theorem fn_fr {P : Program} {w : World} {K : PySem.W.Frag} {mg : Str → Option Value} {base : Heap} {k : Nat} {f : Addr} {fd : FuncData} {ps : List Str} {sp : Sp} (F : FnOk P w K mg base CX0 k f fd ps sp) : FnOk P w K mg base CX0 k f fd ps (fr sp) := by
  refine ⟨fun vs H Q E hs => by unfold fr at hs; obtain ⟨S, _, h⟩ := hs; exact F.len _ _ _ _ h, fun A outer s H args us vs Q E hr e0 hb hv hs => ?_⟩
  unfold fr at hs
  obtain ⟨S, hS, h⟩ := hs
  have hne : ∀ b, H b = none → ¬ S b = true := fun b n q => by
    obtain ⟨xs, e⟩ := hS b q
    rw [n] at e
    cases e
  have hout : ∀ b, H b = none → out H S b = none := fun b n => by rw [out_ne (hne b n)]; exact n
  have hoth : ∀ b o, H b = some o → (∀ xs, o ≠ .lst xs) → ¬ S b = true := fun b o e n q => by
    obtain ⟨xs, e'⟩ := hS b q
    rw [e] at e'
    exact n xs (Option.some.inj e')
  have okout : HOk P w (out H S) s.heap := fun a o e => by
    have ns : ¬ S a = true := fun q => by rw [out_in q] at e; cases e
    rw [out_ne ns] at e
    refine (e0.hok a o e).stay (fun b u _ q => q) (fun b q => ?_) (fun b xs q => ?_)
    · rw [out_ne (hoth b _ q fun xs z => by cases z)]; exact q
    · rw [out_ne (hoth b _ q fun xs z => by cases z)]; exact q
  have e1 : Env0 P w K mg base A outer s (out H S) := ⟨e0.frames, e0.mod, fun b o q => ⟨(e0.bs b o q).1, hout b (e0.bs b o q).2⟩, e0.bsz, e0.funs, fun b q => hout b (e0.frf b q), okout, e0.bare⟩
  refine codeAny_mono (F.run A outer s (out H S) args us vs _ E hr e1 hb hv h) fun r s' q => ?_
  cases r with
  | error e => exact q
  | ok fl =>
    cases fl with
    | next => exact q
    | brk => exact q
    | cont => exact q
    | ret u =>
      obtain ⟨v, H', os, bare, un, hok, rv, q⟩ := q
      have hobj : ∀ b, S b = true → ∃ o, s.heap.get? b = some o := fun b q => by
        obtain ⟨xs, e⟩ := hS b q
        obtain ⟨_, its, n, _, e'⟩ := e0.hok b _ e
        exact ⟨_, e'⟩
      have hfree : ∀ b, S b = true → H' b = none := fun b q => by
        obtain ⟨o, e⟩ := hobj b q
        exact un.free b o e (out_in q) (by simp)
      have hkeep : ∀ b o, S b = true → s.heap.get? b = some o → s'.heap.get? b = some o := fun b o q e => by
        obtain ⟨xs, e'⟩ := hS b q
        exact un.keep b o e (out_in q) (fun z => by rw [e0.frf b z] at e'; cases e') (by simp)
      refine ⟨v, back H H' S, os, bare, ⟨fun b o e n hb hx => un.keep b o e (hout b n) hb hx, fun b o e n hb hx => un.slot b o e (hout b n) hb hx, fun b o e n hx => ?_, un.there, fun b xs e => ?_, fun b o u e => ?_, fun b ps e => ?_⟩, fun a o e => ?_, rv, q hfree⟩
      · rw [back_ne (hne b n)]
        exact un.free b o e (hout b n) hx
      · have ns := hoth b _ e fun xs z => by cases z
        rw [back_ne ns]
        exact un.tups b xs (by rw [out_ne ns]; exact e)
      · have ns := hoth b _ e fun xs z => by cases z
        rw [back_ne ns]
        exact un.frzs b o u (by rw [out_ne ns]; exact e)
      · have ns := hoth b _ e fun xs z => by cases z
        rw [back_ne ns]
        exact un.tbls b ps (by rw [out_ne ns]; exact e)
      · by_cases sa : S a = true
        · rw [back_in sa] at e
          obtain ⟨xs, e'⟩ := hS a sa
          rw [e'] at e
          cases e
          obtain ⟨hl, its, n, r, g⟩ := e0.hok a _ e'
          exact ⟨hl, its, n, r, hkeep a _ sa g⟩
        · rw [back_ne sa] at e
          refine (hok a o e).stay (fun b u _ z => z) (fun b z => ?_) (fun b xs z => ?_)
          · rw [back_ne fun sb => by rw [hfree b sb] at z; cases z]; exact z
          · rw [back_ne fun sb => by rw [hfree b sb] at z; cases z]; exact z
/-- one list put aside -/
theorem fr_one {sp : Sp} {vs : List V} {G : Hp} {D : Addr} {acc : List V} {Q : VK} {E : XK} (hD : G D = none) (h : sp vs G (fun v G' => G' D = none → Q v (upd G' D (.lst acc))) E)
    (mono : ∀ (Q1 Q2 : VK), (∀ v G', Q1 v G' → Q2 v G') → sp vs G Q1 E → sp vs G Q2 E) : fr sp vs (upd G D (.lst acc)) Q E := by
  have e : out (upd G D (.lst acc)) (fun b => decide (b = D)) = G := by
    funext b
    unfold out upd
    by_cases hb : b = D
    · rw [if_pos (decide_eq_true hb), hb, hD]
    · rw [if_neg (fun z => hb (of_decide_eq_true z)), if_neg hb]
  unfold fr
  refine ⟨fun b => decide (b = D), fun b hb => ⟨acc, by rw [of_decide_eq_true hb, upd_same]⟩, ?_⟩
  rw [e]
  refine mono _ _ (fun v G' q hn => ?_) h
  have hn' : G' D = none := hn D (decide_eq_true rfl)
  have e2 : back (upd G D (.lst acc)) G' (fun b => decide (b = D)) = upd G' D (.lst acc) := by
    funext b
    unfold back upd
    by_cases hb : b = D
    · rw [if_pos (decide_eq_true hb), if_pos hb, if_pos hb]
    · rw [if_neg (fun z => hb (of_decide_eq_true z)), if_neg hb]
  rw [e2]
  exact q hn'
/-- a comprehension over data, with one test, that changes nothing: its list has the images of those that are kept -/
theorem lc_data {K : PySem.W.Frag} {a : Addr} {xs : List V} {ds : List PyData} {gt : TG} {tt : TT} {te : TE} {vs : List Nat} {σ : St} {H1 : Hp} {D : Addr} {Qd : Hp → Prop} (p : PyData → Bool) (g : PyData → PyData)
    (hx : SqL K H1 a xs) (hd : DpAll K H1 xs ds) (hD : H1 D = none) (hl : ds.length ≤ 100000)
    (hs : ∀ (v : V) (d : PyData) (G : Hp) (acc : List V) (R : Hp → Prop), d ∈ ds → Dp K G v d → Same H1 G → G D = none → acc.length < sizeLine →
      (p d = false → ∀ G', Same G G' → G' D = none → R (upd G' D (.lst acc))) →
      (p d = true → ∀ (G' : Hp) (u : V), Same G G' → G' D = none → Dp K G' u (g d) → R (upd G' D (.lst (acc ++ [u])))) →
      gt v (wipe σ vs) (upd G D (.lst acc)) fun σ2 H2 => wipe σ2 vs = wipe σ vs ∧ tt σ2 H2 fun b H3 =>
        if b = true then te σ2 H3 fun y H4 => ∃ acc, H4 D = some (.lst acc) ∧ acc.length < sizeLine ∧ R (upd H4 D (.lst (acc ++ [y]))) else R H3)
    (hq : ∀ (G : Hp) (ys : List V), Same H1 G → G D = none → DpAll K G ys ((ds.filter p).map g) → Qd (upd G D (.lst ys))) :
    ∃ W : Nat → Nat → Hp → Prop, (∃ m, W 0 m (upd H1 D (.lst []))) ∧ ∀ i m H, W i m H →
      ((Itl K a).stop i H ∧ Qd H) ∨ ((Itl K a).go i H ∧ ∃ Nx : Hp → Prop, (∀ H', Nx H' → ∃ m', m' < m ∧ W (i + 1) m' H') ∧ ∀ x H', (Itl K a).yld i H x H' → gt x (wipe σ vs) H' fun σ2 H2 => wipe σ2 vs = wipe σ vs ∧ tt σ2 H2 fun b H3 =>
        if b = true then te σ2 H3 fun y H4 => ∃ acc, H4 D = some (.lst acc) ∧ acc.length < sizeLine ∧ Nx (upd H4 D (.lst (acc ++ [y]))) else Nx H3) := by
  have hxd := dps_len hd
  refine lc_list (K := K) (a := a) (xs := xs) (fun i H => ∃ (G : Hp) (ys : List V), Same H1 G ∧ G D = none ∧ H = upd G D (.lst ys) ∧ DpAll K G ys (((ds.take i).filter p).map g)) ⟨H1, [], Same.refl _, hD, rfl, .nil⟩ ?_ ?_ ?_
  · rintro i H _ ⟨G, ys, s, hG, rfl, _⟩
    exact (same_new hG).seq (s.seq hx)
  · rintro i x H hi ⟨G, ys, s, hG, rfl, hy⟩
    obtain ⟨d, hdi, dx⟩ := dps_getv hd hi
    have il : i < ds.length := (List.getElem?_eq_some_iff.mp hdi).1
    have dm : d ∈ ds := List.mem_of_getElem? hdi
    have yl : ys.length ≤ i := by
      rw [dps_len hy, List.length_map]
      refine Nat.le_trans (List.length_filter_le _ _) ?_
      rw [List.length_take]
      omega
    have tk : ds.take (i + 1) = ds.take i ++ [d] := by rw [List.take_add_one, hdi]; rfl
    refine hs x d G ys _ dm (dp_same s dx) s hG (Nat.lt_of_lt_of_le (show ys.length < 100001 by omega) (by decide)) (fun pf G' s' hG' => ⟨G', ys, s.trans s', hG', rfl, ?_⟩) (fun pt G' u s' hG' du => ⟨G', _, s.trans s', hG', rfl, ?_⟩)
    · rw [tk, List.filter_append, List.filter_cons, if_neg (by rw [pf]; decide), List.filter_nil, List.append_nil]
      exact dps_same s' hy
    · rw [tk, List.filter_append, List.filter_cons, if_pos pt, List.filter_nil, List.map_append]
      exact dps_snoc (dps_same s' hy) du
  · rintro H ⟨G, ys, s, hG, rfl, hy⟩
    refine hq G ys s hG ?_
    rw [List.take_of_length_le (by omega)] at hy
    exact hy
/-- .. over a tuple -/
theorem lc_dataT {K : PySem.W.Frag} {a : Addr} {xs : List V} {ds : List PyData} {gt : TG} {tt : TT} {te : TE} {vs : List Nat} {σ : St} {H1 : Hp} {D : Addr} {Qd : Hp → Prop} (p : PyData → Bool) (g : PyData → PyData)
    (hx : SqT K H1 a xs) (hd : DpAll K H1 xs ds) (hD : H1 D = none) (hl : ds.length ≤ 100000)
    (hs : ∀ (v : V) (d : PyData) (G : Hp) (acc : List V) (R : Hp → Prop), d ∈ ds → Dp K G v d → Same H1 G → G D = none → acc.length < sizeLine →
      (p d = false → ∀ G', Same G G' → G' D = none → R (upd G' D (.lst acc))) →
      (p d = true → ∀ (G' : Hp) (u : V), Same G G' → G' D = none → Dp K G' u (g d) → R (upd G' D (.lst (acc ++ [u])))) →
      gt v (wipe σ vs) (upd G D (.lst acc)) fun σ2 H2 => wipe σ2 vs = wipe σ vs ∧ tt σ2 H2 fun b H3 =>
        if b = true then te σ2 H3 fun y H4 => ∃ acc, H4 D = some (.lst acc) ∧ acc.length < sizeLine ∧ R (upd H4 D (.lst (acc ++ [y]))) else R H3)
    (hq : ∀ (G : Hp) (ys : List V), Same H1 G → G D = none → DpAll K G ys ((ds.filter p).map g) → Qd (upd G D (.lst ys))) :
    ∃ W : Nat → Nat → Hp → Prop, (∃ m, W 0 m (upd H1 D (.lst []))) ∧ ∀ i m H, W i m H →
      ((Itt K a).stop i H ∧ Qd H) ∨ ((Itt K a).go i H ∧ ∃ Nx : Hp → Prop, (∀ H', Nx H' → ∃ m', m' < m ∧ W (i + 1) m' H') ∧ ∀ x H', (Itt K a).yld i H x H' → gt x (wipe σ vs) H' fun σ2 H2 => wipe σ2 vs = wipe σ vs ∧ tt σ2 H2 fun b H3 =>
        if b = true then te σ2 H3 fun y H4 => ∃ acc, H4 D = some (.lst acc) ∧ acc.length < sizeLine ∧ Nx (upd H4 D (.lst (acc ++ [y]))) else Nx H3) := by
  have hxd := dps_len hd
  refine lc_tup (K := K) (a := a) (xs := xs) (fun i H => ∃ (G : Hp) (ys : List V), Same H1 G ∧ G D = none ∧ H = upd G D (.lst ys) ∧ DpAll K G ys (((ds.take i).filter p).map g)) ⟨H1, [], Same.refl _, hD, rfl, .nil⟩ ?_ ?_ ?_
  · rintro i H _ ⟨G, ys, s, hG, rfl, _⟩
    exact Same.tup (same_new hG) (Same.tup s hx)
  · rintro i x H hi ⟨G, ys, s, hG, rfl, hy⟩
    obtain ⟨d, hdi, dx⟩ := dps_getv hd hi
    have il : i < ds.length := (List.getElem?_eq_some_iff.mp hdi).1
    have dm : d ∈ ds := List.mem_of_getElem? hdi
    have yl : ys.length ≤ i := by
      rw [dps_len hy, List.length_map]
      refine Nat.le_trans (List.length_filter_le _ _) ?_
      rw [List.length_take]
      omega
    have tk : ds.take (i + 1) = ds.take i ++ [d] := by rw [List.take_add_one, hdi]; rfl
    refine hs x d G ys _ dm (dp_same s dx) s hG (Nat.lt_of_lt_of_le (show ys.length < 100001 by omega) (by decide)) (fun pf G' s' hG' => ⟨G', ys, s.trans s', hG', rfl, ?_⟩) (fun pt G' u s' hG' du => ⟨G', _, s.trans s', hG', rfl, ?_⟩)
    · rw [tk, List.filter_append, List.filter_cons, if_neg (by rw [pf]; decide), List.filter_nil, List.append_nil]
      exact dps_same s' hy
    · rw [tk, List.filter_append, List.filter_cons, if_pos pt, List.filter_nil, List.map_append]
      exact dps_snoc (dps_same s' hy) du
  · rintro H ⟨G, ys, s, hG, rfl, hy⟩
    refine hq G ys s hG ?_
    rw [List.take_of_length_le (by omega)] at hy
    exact hy
/-- x is True, x is not True: x any flat value but a number, a text -/
def rIsX (neg : Bool) : R2 := fun x y H Q => ∃ b : Bool, y = .bl b ∧ (x = .non ∨ (∃ a : Bool, x = .bl a) ∨ (∃ i : Int, x = .int i) ∨ ∃ z : Str, x = .str z) ∧ Q (.bl (if neg = true then !decide (x = .bl b) else decide (x = .bl b))) H
section
variable {X : Cx}
theorem op_isX : OpR X (compareOp .Is) (rIsX false) := by
  intro pins s σ H x y v u Q I rx ry h
  obtain ⟨b, rfl, hx, q⟩ := h
  cases (show u = Value.bool b from ry)
  rcases hx with rfl | ⟨a, rfl⟩ | ⟨i, rfl⟩ | ⟨z, rfl⟩
  · cases (show v = Value.none from rx)
    exact PySem.wpAny_is_other rfl (fun z => nomatch z) ⟨.bl false, H, I, rfl, by simpa using q⟩
  · cases (show v = Value.bool a from rx)
    by_cases e : a = b
    · subst e
      exact PySem.wpAny_is_self rfl ⟨.bl true, H, I, rfl, by simpa using q⟩
    · exact PySem.wpAny_is_other rfl (fun z => e (Value.bool.inj z)) ⟨.bl false, H, I, rfl, by simpa [e] using q⟩
  · obtain ⟨t, rfl⟩ := (show ∃ t, v = Value.int i t from rx)
    exact PySem.wpAny_is_other rfl (fun z => nomatch z) ⟨.bl false, H, I, rfl, by simpa using q⟩
  · obtain ⟨t, rfl⟩ := (show ∃ t, v = Value.str z t from rx)
    exact PySem.wpAny_is_other rfl (fun z => nomatch z) ⟨.bl false, H, I, rfl, by simpa using q⟩
theorem op_notX : OpR X (compareOp .IsNot) (rIsX true) := by
  intro pins s σ H x y v u Q I rx ry h
  obtain ⟨b, rfl, hx, q⟩ := h
  cases (show u = Value.bool b from ry)
  rcases hx with rfl | ⟨a, rfl⟩ | ⟨i, rfl⟩ | ⟨z, rfl⟩
  · cases (show v = Value.none from rx)
    exact PySem.wpAny_isNot_other rfl (fun z => nomatch z) ⟨.bl true, H, I, rfl, by simpa using q⟩
  · cases (show v = Value.bool a from rx)
    by_cases e : a = b
    · subst e
      exact PySem.wpAny_isNot_self rfl ⟨.bl false, H, I, rfl, by simpa using q⟩
    · exact PySem.wpAny_isNot_other rfl (fun z => e (Value.bool.inj z)) ⟨.bl true, H, I, rfl, by simpa [e] using q⟩
  · obtain ⟨t, rfl⟩ := (show ∃ t, v = Value.int i t from rx)
    exact PySem.wpAny_isNot_other rfl (fun z => nomatch z) ⟨.bl true, H, I, rfl, by simpa using q⟩
  · obtain ⟨t, rfl⟩ := (show ∃ t, v = Value.str z t from rx)
    exact PySem.wpAny_isNot_other rfl (fun z => nomatch z) ⟨.bl true, H, I, rfl, by simpa using q⟩
end
theorem upd_app {G : Hp} {D : Addr} {acc ys : List V} : upd (upd G D (.lst acc)) D (.lst ys) = upd G D (.lst ys) := upd_upd

/-! ### lists whose items stand in a relation to plain things -/
theorem paired_get {α β : Type} {F : α → β → Prop} : ∀ {l₁ : List α} {l₂ : List β} {i : Nat} {b : β}, Paired F l₁ l₂ → l₂[i]? = some b → ∃ a, l₁[i]? = some a ∧ F a b
  | _, _, i, b, .nil, e => by simp at e
  | _, _, 0, b, .cons h t, e => by
    simp at e
    subst e
    exact ⟨_, rfl, h⟩
  | _, _, i + 1, b, .cons h t, e => by
    obtain ⟨v, h1, h2⟩ := paired_get (i := i) (b := b) t (by simpa using e)
    exact ⟨v, by simpa using h1, h2⟩
theorem paired_getv {α β : Type} {F : α → β → Prop} : ∀ {l₁ : List α} {l₂ : List β} {i : Nat} {a : α}, Paired F l₁ l₂ → l₁[i]? = some a → ∃ b, l₂[i]? = some b ∧ F a b
  | _, _, i, b, .nil, e => by simp at e
  | _, _, 0, b, .cons h t, e => by
    simp at e
    subst e
    exact ⟨_, rfl, h⟩
  | _, _, i + 1, b, .cons h t, e => by
    obtain ⟨v, h1, h2⟩ := paired_getv (i := i) (a := b) t (by simpa using e)
    exact ⟨v, by simpa using h1, h2⟩
theorem paired_app {α β : Type} {F : α → β → Prop} : ∀ {l₁ m₁ : List α} {l₂ m₂ : List β}, Paired F l₁ l₂ → Paired F m₁ m₂ → Paired F (l₁ ++ m₁) (l₂ ++ m₂)
  | _, _, _, _, .nil, h => h
  | _, _, _, _, .cons h t, k => .cons h (paired_app t k)
theorem paired_take {α β : Type} {F : α → β → Prop} : ∀ {l₁ : List α} {l₂ : List β} (n : Nat), Paired F l₁ l₂ → Paired F (l₁.take n) (l₂.take n)
  | _, _, 0, _ => by simpa using .nil
  | _, _, _ + 1, .nil => .nil
  | _, _, n + 1, .cons h t => .cons h (paired_take n t)
theorem paired_drop {α β : Type} {F : α → β → Prop} : ∀ {l₁ : List α} {l₂ : List β} (n : Nat), Paired F l₁ l₂ → Paired F (l₁.drop n) (l₂.drop n)
  | _, _, 0, h => h
  | _, _, _ + 1, .nil => .nil
  | _, _, n + 1, .cons h t => paired_drop n t
theorem paired_rev {α β : Type} {F : α → β → Prop} : ∀ {l₁ : List α} {l₂ : List β}, Paired F l₁ l₂ → Paired F l₁.reverse l₂.reverse
  | _, _, .nil => .nil
  | _, _, .cons h t => by
    rw [List.reverse_cons, List.reverse_cons]
    exact Paired.snoc (paired_rev t) h
theorem paired_set {α β : Type} {F : α → β → Prop} {a : α} {b : β} (hd : F a b) : ∀ {l₁ : List α} {l₂ : List β} (n : Nat), Paired F l₁ l₂ → Paired F (l₁.set n a) (l₂.set n b)
  | _, _, _, .nil => .nil
  | _, _, 0, .cons _ t => .cons hd t
  | _, _, n + 1, .cons h t => .cons h (paired_set hd n t)
theorem paired_map {α β γ : Type} {F : α → β → Prop} {F' : α → γ → Prop} {g : β → γ} (h : ∀ a b, F a b → F' a (g b)) : ∀ {l₁ : List α} {l₂ : List β}, Paired F l₁ l₂ → Paired F' l₁ (l₂.map g)
  | _, _, .nil => .nil
  | _, _, .cons k t => .cons (h _ _ k) (paired_map h t)
/-- a comprehension with one test that changes nothing, over items that stand in a relation -/
theorem lc_rel {α β : Type} {K : PySem.W.Frag} {a : Addr} {xs : List V} {as : List α} {gt : TG} {tt : TT} {te : TE} {vs : List Nat} {σ : St} {H1 : Hp} {D : Addr} {Qd : Hp → Prop} (RA : Hp → V → α → Prop) (RB : Hp → V → β → Prop)
    (mA : ∀ {H H' : Hp} {v : V} {x : α}, Same H H' → RA H v x → RA H' v x) (mB : ∀ {H H' : Hp} {v : V} {x : β}, Same H H' → RB H v x → RB H' v x) (p : α → Bool) (g : α → β)
    (hx : SqL K H1 a xs) (hd : Paired (RA H1) xs as) (hD : H1 D = none) (hl : as.length ≤ 100000)
    (hs : ∀ (v : V) (x : α) (G : Hp) (acc : List V) (R : Hp → Prop), x ∈ as → RA G v x → Same H1 G → G D = none → acc.length < sizeLine →
      (p x = false → ∀ G', Same G G' → G' D = none → R (upd G' D (.lst acc))) →
      (p x = true → ∀ (G' : Hp) (u : V), Same G G' → G' D = none → RB G' u (g x) → R (upd G' D (.lst (acc ++ [u])))) →
      gt v (wipe σ vs) (upd G D (.lst acc)) fun σ2 H2 => wipe σ2 vs = wipe σ vs ∧ tt σ2 H2 fun b H3 =>
        if b = true then te σ2 H3 fun y H4 => ∃ acc, H4 D = some (.lst acc) ∧ acc.length < sizeLine ∧ R (upd H4 D (.lst (acc ++ [y]))) else R H3)
    (hq : ∀ (G : Hp) (ys : List V), Same H1 G → G D = none → Paired (RB G) ys ((as.filter p).map g) → Qd (upd G D (.lst ys))) :
    ∃ W : Nat → Nat → Hp → Prop, (∃ m, W 0 m (upd H1 D (.lst []))) ∧ ∀ i m H, W i m H →
      ((Itl K a).stop i H ∧ Qd H) ∨ ((Itl K a).go i H ∧ ∃ Nx : Hp → Prop, (∀ H', Nx H' → ∃ m', m' < m ∧ W (i + 1) m' H') ∧ ∀ x H', (Itl K a).yld i H x H' → gt x (wipe σ vs) H' fun σ2 H2 => wipe σ2 vs = wipe σ vs ∧ tt σ2 H2 fun b H3 =>
        if b = true then te σ2 H3 fun y H4 => ∃ acc, H4 D = some (.lst acc) ∧ acc.length < sizeLine ∧ Nx (upd H4 D (.lst (acc ++ [y]))) else Nx H3) := by
  have hxd := hd.length
  refine lc_list (K := K) (a := a) (xs := xs) (fun i H => ∃ (G : Hp) (ys : List V), Same H1 G ∧ G D = none ∧ H = upd G D (.lst ys) ∧ Paired (RB G) ys (((as.take i).filter p).map g)) ⟨H1, [], Same.refl _, hD, rfl, .nil⟩ ?_ ?_ ?_
  · rintro i H _ ⟨G, ys, s, hG, rfl, _⟩
    exact (same_new hG).seq (s.seq hx)
  · rintro i x H hi ⟨G, ys, s, hG, rfl, hy⟩
    obtain ⟨d, hdi, dx⟩ := paired_getv hd hi
    have il : i < as.length := (List.getElem?_eq_some_iff.mp hdi).1
    have dm : d ∈ as := List.mem_of_getElem? hdi
    have yl : ys.length ≤ i := by
      rw [hy.length, List.length_map]
      refine Nat.le_trans (List.length_filter_le _ _) ?_
      rw [List.length_take]
      omega
    have tk : as.take (i + 1) = as.take i ++ [d] := by rw [List.take_add_one, hdi]; rfl
    refine hs x d G ys _ dm (mA s dx) s hG (Nat.lt_of_lt_of_le (show ys.length < 100001 by omega) (by decide)) (fun pf G' s' hG' => ⟨G', ys, s.trans s', hG', rfl, ?_⟩) (fun pt G' u s' hG' du => ⟨G', _, s.trans s', hG', rfl, ?_⟩)
    · rw [tk, List.filter_append, List.filter_cons, if_neg (by rw [pf]; decide), List.filter_nil, List.append_nil]
      exact Paired.mapP hy fun _ _ z => mB s' z
    · rw [tk, List.filter_append, List.filter_cons, if_pos pt, List.filter_nil, List.map_append]
      exact Paired.snoc (Paired.mapP hy fun _ _ z => mB s' z) du
  · rintro H ⟨G, ys, s, hG, rfl, hy⟩
    refine hq G ys s hG ?_
    rw [List.take_of_length_le (by omega)] at hy
    exact hy
/-- a tracked tuple of these values -/
def TupL (H : Hp) (v : V) (ws : List V) : Prop := ∃ t, v = .ref t ∧ H t = some (.tup ws)
theorem TupL.same {H H' : Hp} {v : V} {ws : List V} (s : Same H H') : TupL H v ws → TupL H' v ws := fun ⟨t, e, h⟩ => ⟨t, e, s _ _ h⟩
theorem TupL.but {H H' : Hp} {v : V} {ws : List V} (s : ∀ b ys, H b = some (.tup ys) → H' b = some (.tup ys)) : TupL H v ws → TupL H' v ws := fun ⟨t, e, h⟩ => ⟨t, e, s _ _ h⟩
/-- a deck's change leaves tuples -/
theorem But.tups {a : Addr} {H H' : Hp} (h : But a H H') (hn : ∀ ys, H a ≠ some (.tup ys)) : ∀ b ys, H b = some (.tup ys) → H' b = some (.tup ys) := fun b ys e => h b _ (fun q => hn ys (q ▸ e)) e
theorem upd_none {H : Hp} {p q : Addr} {o : HO} (h : upd H p o q = none) : q ≠ p ∧ H q = none := by
  have e : q ≠ p := by
    rintro rfl
    rw [upd_same] at h
    cases h
  exact ⟨e, by rw [upd_ne e] at h; exact h⟩
theorem int_at {l : List Int} {i : Nat} (h : i < l.length) : (l.map V.int)[i]? = some (.int (l.getD i 0)) := by
  rw [List.getElem?_map, List.getD_eq_getElem?_getD, List.getElem?_eq_getElem h]
  rfl
theorem int_atI {l : List Int} {z : Int} (h0 : 0 ≤ z) (h : z.toNat < l.length) : atI (l.map V.int) z = some (.int (l.getD z.toNat 0)) := by
  obtain ⟨n, rfl⟩ := Int.eq_ofNat_of_zero_le h0
  exact atI_nat (int_at h)
theorem take_snoc {α : Type} {l : List α} {i : Nat} {a : α} (h : l[i]? = some a) : l.take (i + 1) = l.take i ++ [a] := by
  rw [List.take_add_one, h]
  rfl
/-- x + y of two tracked tuples, either may be empty -/
theorem catA_new {K : PySem.W.Frag} {H : Hp} {v u : V} {xs ys : List V} {Q : VK} (h1 : TupL H v xs) (h2 : TupL H u ys) (hl : xs.length + ys.length ≤ sizeLine) (k : ∀ (z : V) (H' : Hp), Same H H' → TupL H' z (xs ++ ys) → Q z H') : rCatA K v u H Q := by
  obtain ⟨a, rfl, ha⟩ := h1
  obtain ⟨b, rfl, hb⟩ := h2
  refine ⟨a, b, xs, ys, rfl, rfl, SqT.of' ha, SqT.of' hb, hl, fun e => ?_, fun _ e => ?_, fun _ _ p hp => ?_⟩
  · exact k _ _ (Same.refl _) ⟨b, rfl, by rw [e, List.nil_append]; exact hb⟩
  · exact k _ _ (Same.refl _) ⟨a, rfl, by rw [e, List.append_nil]; exact ha⟩
  · exact k _ _ (same_new hp) ⟨p, rfl, upd_same⟩
theorem size_of {n : Nat} (h : n ≤ 100000) : n ≤ sizeLine := Nat.le_trans h (by decide)

/-! ### slices -/
theorem cut_to {xs : List V} {i : Nat} (h : i ≤ xs.length) : cutV xs none (some (i : Int)) = xs.take i := by
  unfold cutV
  rw [HT.sIx_none, HT.sIx_nat, List.drop_zero, Nat.sub_zero, Nat.min_eq_left h]
theorem cut_from {xs : List V} {i : Nat} (h : i ≤ xs.length) : cutV xs (some (i : Int)) none = xs.drop i := by
  unfold cutV
  rw [HT.sIx_none, HT.sIx_nat, Nat.min_eq_left h]
  exact List.take_of_length_le (by rw [List.length_drop]; exact Nat.le_refl _)
theorem cut_mid {xs : List V} {i j : Nat} (hi : i ≤ j) (h : j ≤ xs.length) : cutV xs (some (i : Int)) (some (j : Int)) = (xs.drop i).take (j - i) := by
  unfold cutV
  rw [HT.sIx_nat, HT.sIx_nat, Nat.min_eq_left h, Nat.min_eq_left (Nat.le_trans hi h)]

/-! ### data without truth values: equal is the same -/
mutual
def pur : PyData → Bool
  | .none | .int _ | .str _ => true
  | .bool _ => false
  | .list xs | .tuple xs => purs xs
  | .dict _ => false
def purs : List PyData → Bool
  | [] => true
  | x :: xs => pur x && purs xs
end
mutual
theorem eqv_pur : ∀ {d e : PyData}, pur d = true → pur e = true → PyData.eqv d e = true → d = e
  | .none, .none, _, _, _ => rfl
  | .int i, .int j, _, _, h => by rw [eq_of_beq (show (i == j) = true from h)]
  | .str i, .str j, _, _, h => by rw [eq_of_beq (show (i == j) = true from h)]
  | .list xs, .list ys, h1, h2, h => by rw [eqvs_pur (ds := xs) (es := ys) h1 h2 (by simpa [PyData.eqv] using h)]
  | .tuple xs, .tuple ys, h1, h2, h => by rw [eqvs_pur (ds := xs) (es := ys) h1 h2 (by simpa [PyData.eqv] using h)]
  | .bool _, _, h1, _, _ => by simp [pur] at h1
  | .dict _, _, h1, _, _ => by simp [pur] at h1
  | .none, .bool _, _, h2, _ => by simp [pur] at h2
  | .int _, .bool _, _, h2, _ => by simp [pur] at h2
  | .str _, .bool _, _, h2, _ => by simp [pur] at h2
  | .list _, .bool _, _, h2, _ => by simp [pur] at h2
  | .tuple _, .bool _, _, h2, _ => by simp [pur] at h2
  | .none, .dict _, _, h2, _ => by simp [pur] at h2
  | .int _, .dict _, _, h2, _ => by simp [pur] at h2
  | .str _, .dict _, _, h2, _ => by simp [pur] at h2
  | .list _, .dict _, _, h2, _ => by simp [pur] at h2
  | .tuple _, .dict _, _, h2, _ => by simp [pur] at h2
  | .none, .int _, _, _, h => by simp [PyData.eqv] at h
  | .none, .str _, _, _, h => by simp [PyData.eqv] at h
  | .none, .list _, _, _, h => by simp [PyData.eqv] at h
  | .none, .tuple _, _, _, h => by simp [PyData.eqv] at h
  | .int _, .none, _, _, h => by simp [PyData.eqv] at h
  | .int _, .str _, _, _, h => by simp [PyData.eqv] at h
  | .int _, .list _, _, _, h => by simp [PyData.eqv] at h
  | .int _, .tuple _, _, _, h => by simp [PyData.eqv] at h
  | .str _, .none, _, _, h => by simp [PyData.eqv] at h
  | .str _, .int _, _, _, h => by simp [PyData.eqv] at h
  | .str _, .list _, _, _, h => by simp [PyData.eqv] at h
  | .str _, .tuple _, _, _, h => by simp [PyData.eqv] at h
  | .list _, .none, _, _, h => by simp [PyData.eqv] at h
  | .list _, .int _, _, _, h => by simp [PyData.eqv] at h
  | .list _, .str _, _, _, h => by simp [PyData.eqv] at h
  | .list _, .tuple _, _, _, h => by simp [PyData.eqv] at h
  | .tuple _, .none, _, _, h => by simp [PyData.eqv] at h
  | .tuple _, .int _, _, _, h => by simp [PyData.eqv] at h
  | .tuple _, .str _, _, _, h => by simp [PyData.eqv] at h
  | .tuple _, .list _, _, _, h => by simp [PyData.eqv] at h
theorem eqvs_pur : ∀ {ds es : List PyData}, purs ds = true → purs es = true → PyData.eqvAll ds es = true → ds = es
  | [], [], _, _, _ => rfl
  | x :: xs, y :: ys, h1, h2, h => by
    simp only [purs, Bool.and_eq_true] at h1 h2
    simp only [PyData.eqvAll, Bool.and_eq_true] at h
    rw [eqv_pur h1.1 h2.1 h.1, eqvs_pur h1.2 h2.2 h.2]
  | [], _ :: _, _, _, h => by simp [PyData.eqvAll] at h
  | _ :: _, [], _, _, h => by simp [PyData.eqvAll] at h
end
theorem eqv_iff {d e : PyData} (hd : pur d = true) (he : pur e = true) (hs : SeqAt.shaped d = true) : PyData.eqv d e = true ↔ d = e :=
  ⟨eqv_pur hd he, fun h => by rw [← h]; exact SeqAt.eqv_refl d (SeqAt.canLay_of_shaped hs)⟩
mutual
/-- data without texts and dicts, of a depth at most n -/
def flat : Nat → PyData → Bool
  | _, .none | _, .bool _ | _, .int _ => true
  | _, .str _ | _, .dict _ => false
  | 0, .list _ | 0, .tuple _ => false
  | n + 1, .list xs => flats n xs
  | n + 1, .tuple xs => flats n xs
def flats : Nat → List PyData → Bool
  | _, [] => true
  | n, x :: xs => flat n x && flats n xs
end
mutual
theorem flat_lay : ∀ {n : Nat} {d : PyData}, flat n d = true → d.canLay0 = true ∧ d.depth ≤ n
  | n, .none, _ => ⟨by simp [PyData.canLay0], by simp [PyData.depth]⟩
  | n, .bool _, _ => ⟨by simp [PyData.canLay0], by simp [PyData.depth]⟩
  | n, .int _, _ => ⟨by simp [PyData.canLay0], by simp [PyData.depth]⟩
  | n, .str _, h => by simp [flat] at h
  | n, .dict _, h => by simp [flat] at h
  | 0, .list _, h => by simp [flat] at h
  | 0, .tuple _, h => by simp [flat] at h
  | n + 1, .list xs, h => by
    obtain ⟨h1, h2⟩ := flats_lay (n := n) (ds := xs) (by simpa [flat] using h)
    exact ⟨by simp only [PyData.canLay0]; exact h1, by simp only [PyData.depth]; omega⟩
  | n + 1, .tuple xs, h => by
    obtain ⟨h1, h2⟩ := flats_lay (n := n) (ds := xs) (by simpa [flat] using h)
    exact ⟨by simp only [PyData.canLay0]; exact h1, by simp only [PyData.depth]; omega⟩
theorem flats_lay : ∀ {n : Nat} {ds : List PyData}, flats n ds = true → PyData.canLayAll0 ds = true ∧ PyData.depthAll ds ≤ n
  | n, [], _ => ⟨by simp [PyData.canLayAll0], by simp [PyData.depthAll]⟩
  | n, x :: xs, h => by
    simp only [flats, Bool.and_eq_true] at h
    obtain ⟨a1, a2⟩ := flat_lay h.1
    obtain ⟨b1, b2⟩ := flats_lay h.2
    exact ⟨by simp only [PyData.canLayAll0, a1, b1, Bool.and_true], by simp only [PyData.depthAll]; omega⟩
end
theorem shaped_flat {n : Nat} {d : PyData} (h : flat n d = true) (hn : n ≤ 64) : SeqAt.shaped d = true := by
  obtain ⟨h1, h2⟩ := flat_lay h
  show (d.canLay0 && decide (d.depth ≤ 64)) = true
  rw [h1, Bool.true_and]
  exact decide_eq_true (by omega)
theorem flats_ints (n : Nat) : ∀ ns : List Int, flats n (ns.map PyData.int) = true
  | [] => by simp [flats]
  | i :: r => by simp [flats, flat, flats_ints n r]
theorem purs_ints : ∀ ns : List Int, purs (ns.map PyData.int) = true
  | [] => by simp [purs]
  | i :: r => by simp [purs, pur, purs_ints r]
theorem flats_map {α : Type} {n : Nat} {f : α → PyData} (h : ∀ a, flat n (f a) = true) : ∀ l : List α, flats n (l.map f) = true
  | [] => by simp [flats]
  | a :: r => by simp [flats, h a, flats_map h r]
theorem purs_map {α : Type} {f : α → PyData} (h : ∀ a, pur (f a) = true) : ∀ l : List α, purs (l.map f) = true
  | [] => by simp [purs]
  | a :: r => by simp [purs, h a, purs_map h r]

/-! ### rules whose reading names the written part, for the inside of a comprehension -/
section
variable {X : Cx} {K : PySem.W.Frag}
theorem ix_tupK (h : X.K = K) : IxR X (rIxT K) := h ▸ ix_tup
theorem ix_listK (h : X.K = K) : IxR X (rIxL K) := h ▸ ix_list
theorem ix_seqK (h : X.K = K) : IxR X (rIx K) := h ▸ ix_seq
theorem sl_tupAK (h : X.K = K) : SlR X (rSlA K) := h ▸ sl_tupA
theorem sl_tupK (h : X.K = K) : SlR X (rSlT K) := h ▸ sl_tup
theorem sl_listK (h : X.K = K) : SlR X (rSlL K) := h ▸ sl_list
theorem call_isiK' (h : X.K = K) : CallR X (.builtin "isinstance") (rIsi K) := h ▸ call_isi
theorem call_isiTK (h : X.K = K) : CallR X (.builtin "isinstance") (rIsiT K) := h ▸ call_isiT
theorem op_eqDK (h : X.K = K) (hu : X.A.units + 64 < cLine) : OpR X (compareOp .Eq) (rEqD K) := h ▸ op_eqD hu
theorem op_neDK (h : X.K = K) (hu : X.A.units + 64 < cLine) : OpR X (compareOp .NotEq) (rNeD K) := h ▸ op_neD hu
theorem op_inDK (h : X.K = K) (hu : X.A.units + 65 < cLine) : OpR X (compareOp .In) (rInD K) := h ▸ op_inD hu
theorem op_notInDK (h : X.K = K) (hu : X.A.units + 65 < cLine) : OpR X (compareOp .NotIn) (rNotInD K) := h ▸ op_notInD hu
theorem op_catAK (h : X.K = K) : OpR X (binaryOp .Add) (rCatA K) := h ▸ op_catA
def rLenS (K : PySem.W.Frag) : List V → Hp → VK → Prop := fun xs H Q => ∃ p ys, xs = [V.ref p] ∧ (SqL K H p ys ∨ SqT K H p ys) ∧ Q (.int ys.length) H
theorem call_len_seqK (h : X.K = K) : CallR X (.builtin "len") (rLenS K) := by
  subst h
  exact call_len_seq
theorem call_tupleTK (h : X.K = K) : CallR X (.type "tuple") (fun xs H Q => ∃ a ys, xs = [V.ref a] ∧ SqT K H a ys ∧ Q (.ref a) H) := by
  subst h
  exact call_tupleT
theorem call_list_ofK (h : X.K = K) : CallR X (.type "list") (fun xs H Q => ∃ p ys, xs = [V.ref p] ∧ (SqL K H p ys ∨ SqT K H p ys) ∧ ∀ l, H l = none → Q (.ref l) (upd H l (.lst ys))) := by
  subst h
  exact call_list_of
theorem kBM {e : Expr} {T : String} {r : V → List V → Hp → VK → Prop} {to : TE} {t : TA} (h : X.K = K) (p : PE X e (tBM X.K T r to t)) : PE X e (tBM K T r to t) := h ▸ p
theorem kBM0 {e : Expr} {T : String} {r : V → List V → Hp → VK → Prop} {to : TE} (h : X.K = K) (p : PE X e (tBM0 X.K T r to)) : PE X e (tBM0 K T r to) := h ▸ p
theorem kFld {e : Expr} {ta : TE} {f : Str} (h : X.K = K) (p : PE X e (tFld X.K ta f)) : PE X e (tFld K ta f) := h ▸ p
theorem kTup {e : Expr} {n : Nat} {t : TGs} (h : X.K = K) (p : PG X e (gTup X.K n t)) : PG X e (gTup K n t) := h ▸ p
theorem kTru {a : Expr} {ta : TE} (h : X.K = K) (p : PT X a (fun σ H Q => ta σ H fun x H' => ∃ k, TruV X.K x H' k ∧ Q k H')) : PT X a (fun σ H Q => ta σ H fun x H' => ∃ k, TruV K x H' k ∧ Q k H') := by
  subst h
  exact p
theorem kRevL {e : Expr} {te : TE} (h : X.K = K) (p : PE X e (tRevL X.K te)) : PE X e (tRevL K te) := h ▸ p
theorem kPiL {tg l : Expr} {te : TE} (h : X.K = K) (p : PI X tg l (iList X.K te)) : PI X tg l (iList K te) := h ▸ p
theorem kPiT {tg l : Expr} {te : TE} (h : X.K = K) (p : PI X tg l (iTup X.K te)) : PI X tg l (iTup K te) := h ▸ p
end

/-! ### a call within a comprehension that leaves all as it was -/
def del1 (H : Hp) (D : Addr) : Hp := fun b => if b = D then none else H b
theorem del1_at (H : Hp) (D : Addr) : del1 H D D = none := by unfold del1; rw [if_pos rfl]
theorem del1_ne {H : Hp} {D b : Addr} (h : b ≠ D) : del1 H D b = H b := by unfold del1; rw [if_neg h]
theorem split_at {H : Hp} {D : Addr} {o : HO} (h : H D = some o) : H = upd (del1 H D) D o := by
  funext b
  unfold upd del1
  by_cases e : b = D
  · rw [if_pos e, e, h]
  · rw [if_neg e, if_neg e]
theorem same_del {G H' : Hp} {D : Addr} {o : HO} (hD : G D = none) (s : Same (upd G D o) H') : Same G (del1 H' D) := fun b u e => by
  have n : b ≠ D := ne_of_none e hD
  rw [del1_ne n]
  exact s b u (by rw [upd_ne n]; exact e)
/-- what was seen ahead of a deck's change is seen behind it -/
theorem TupL.deck {a : Addr} {H H' : Hp} (hd : Deck H a) (b : But a H H') {v : V} {ws : List V} (h : TupL H v ws) : TupL H' v ws :=
  h.but (b.tups fun ys e => by obtain ⟨ds, _, q⟩ := hd; rw [q] at e; cases e)
theorem ixN_at {n i : Nat} (h : i < n) : ixN n (i : Int) = some i := by
  unfold ixN
  rw [if_pos (by omega), if_pos (by omega), Int.toNat_natCast]
theorem upd_comm {H : Hp} {a b : Addr} {o u : HO} (h : a ≠ b) : upd (upd H a o) b u = upd (upd H b u) a o := by
  funext c
  unfold upd
  by_cases h1 : c = b
  · rw [if_pos h1, if_neg (fun z => h (z.symm.trans h1)), if_pos h1]
  · rw [if_neg h1, if_neg h1]
end G

/-! ## an own error whose __init__ begins with super().__init__(..) (my own) -/
namespace G
open PySem PySem.Spec PySem.Calls PyProof.Rows L2 NdefX

/-- what the text says of the class C of errors and of the code of its __init__ -/
structure SupTxt (P : Program) (K : PySem.W.Frag) (mg : Str → Option Value) (C cc cda : Addr) : Prop where
  ox : OexC K C
  mro : PySem.W.mroIn K C (.ref C) = some true
  sup : PySem.W.ks_superIn K C C "__init__" = some (some (.builtin "ValueError.__init__"))
  sub : PySem.W.subIn K (.ref C) (.type "ValueError") = some true
  third : PySem.W.nsIn K cStatics "thirdparty.any" = some none
  cell : ∃ cl cld csl, K.lookup cc = some ⟨cl, cld, .cell (some (.ref C)), csl⟩
  code : ∃ ccl cdd vs ccs file tf, K.lookup cda = some ⟨ccl, cdd, .fields vs, ccs⟩ ∧ vs[2]? = some (.str file tf) ∧ ((P.main.file : Str) == file) = true
  top : (P.main.scope.names.lookup ("super" : Str)).isSome = false
  mgs : mg "super" = none

section
variable {prog : Program} {w : World} {A : Around} {E : Value → Shared → Prop} {s : Shared}
/-- the bound ValueError.__init__ is called -/
theorem call_mw {K : PySem.W.Frag} {C x u t1 : Addr} {us : List Value} {Q : Value → Shared → Prop} (T : OexC K C) (X : K.In s.heap) (hu : s.heap.get? u = some (PySem.W.kxs_mw "ValueError.__init__" x))
    (hx : s.heap.get? x = some ({ cls := .ref C, dict := none, data := .fields #[.ref t1, .none, .none, .none, .bool false, .none] } : Obj)) (hz : us.length ≤ sizeLine)
    (h : ∀ h' t2, (∀ b o, b ≠ x → s.heap.get? b = some o → h'.get? b = some o) → h'.get? x = some ({ cls := .ref C, dict := none, data := .fields #[.ref t2, .none, .none, .none, .bool false, .none] } : Obj) → Q .none { s with heap := h' }) :
    wpAny (model prog w) A (call (.ref u) us) Q E s := by
  obtain ⟨nm, q, N, bs, bm, sn, sub, ab, col, dd, k0, k1, k2, k3, k5, hC, hbm⟩ := T.cls
  obtain ⟨hp, g, d, t, os⟩ := s
  refine wpAny_call (codeAny_of_tree ?_)
  change wpAny _ A.in1 (callAny (.ref u) ⟨us, []⟩) _ _ _
  simp only [callAny]
  refine wpAny_bind (wpAny_load hu ?_)
  have e1 : (Value.type "method-wrapper" == Value.type "method" || Value.type "method-wrapper" == Value.type "builtin_function_or_method" || Value.type "method-wrapper" == Value.type "method-wrapper") = true := by decide
  simp only [PySem.W.kxs_mw, e1, if_true]
  refine PySem.W.KFB.if_so (by decide) ?_
  refine wpAny_bind (PySem.W.check_bound_init PySem.F.excBase_ValueError.toExcCallFacts (X _ _ hC) hx rfl ?_)
  refine wpAny_bind (wpAny_pure (wpAny_pure ?_))
  refine ⟨plainId_quiet PySem.F.excBase_ValueError.init.plain _, codeAny_builtin PySem.F.excBase_ValueError.initEntry ?_⟩
  refine PySem.W.exc_init_tree (cls := .ref C) (t0 := t1) (dv := none) (c2 := .none) (c3 := .none) (b4 := .bool false) hx hz fun h' k e _ => h h' _ k e
end

section
variable {P : Program} {w : World} {K : PySem.W.Frag} {mg : Str → Option Value} {base : Heap} {C cc cda f : Addr} {CX : CXT} {k : Nat} {N ps : List Str} {sp : Sp}
variable {name qual x0 : Str} {params : Arguments} {e : Expr} {es : List Expr} {rest : List Stmt} {scope : Scope} {dV kV doc pm ct oc : Value} {an od : Option Addr} {osl : Array (Option Value)} {p0 p1 p2 p3 p4 : Pos} {ar : Arg}
theorem look_one {k y : Str} {c c' : Addr} (h : [(k, c)].lookup y = some c') : y = k ∧ c' = c := by
  by_cases e : y = k
  · subst e
    simp [List.lookup] at h
    exact ⟨rfl, h.symm⟩
  · have z : (y == k) = false := by simpa using e
    simp [List.lookup, z] at h
/-- THE RULE: an error's __init__ that begins with super().__init__(..): the arguments, then the rest of the body -/
theorem sup_init (T : SupTxt P K mg C cc cda)
    (lk : K.lookup f = some ⟨oc, od, .func (PySem.W.fnX name qual params (.Expr (.Call (.Attribute (.Call (.Name "super" p0) [] [] p1) "__init__" p2) (e :: es) [] p3) p4 :: rest) scope [("__class__", cc)] dV kV doc pm an (.ref cda) ct), osl⟩)
    (hcd : PySem.W.codeIn K (.ref cda) qual = true) (S : NScope N ps ["__class__"] scope) (hps : (params.posonlyargs ++ params.args).head? = some ar) (hself : ps[0]? = some ar.arg)
    (hsu : scope.names.lookup ("super" : Str) = some .globalImplicit)
    (len : ∀ vs H Q E, sp vs H Q E → vs.length = ps.length)
    (he : ∀ env, starEach (e :: es) env = (false, eval e env) :: starEach es env) (hpl : ∀ pos env, (backTo pos (starEach es env)).any (·.1) = false)
    (hev : ∀ env, ∃ pl, eval (.Call (.Attribute (.Call (.Name "super" p0) [] [] p1) "__init__" p2) (e :: es) [] p3) env = (do
      let ov ← attributeBase (.Call (.Name "super" p0) [] [] p1) "__init__" env (eval (.Call (.Name "super" p0) [] [] p1) env)
      standAt p2.atName
      let (f, first) ← holding [ov] (getMethod ov "__init__" pl)
      callWith p3 f first (backTo p3 (starEach (e :: es) env)) []))
    (hbody : ∀ (X : Cx) (A : Around) (outer : List Env) (s : Shared) (H : Hp) (vs : List V) (Q : VK) (E : XK), X = ncx CX P w K mg base N ⟨name, qual, params, [], scope, [("__class__", cc)], cda⟩ f A outer s H E → Room k X.A → sp vs H Q E →
      ∃ a ta t, vs[0]? = some (.ref a) ∧ H a = some (exo a C none) ∧ PA X (e :: es) ta ∧ PSs X rest t ∧
        ta (startF N vs [none]) H fun ws H1 => ws.length ≤ 1000 ∧ H1 a = some (exo a C none) ∧ t { nx := fun _ H' => Q .non H', rt := Q } (startF N vs [none]) H1) :
    FnOk P w K mg base CX (k + 1) f (PySem.W.fnX name qual params (.Expr (.Call (.Attribute (.Call (.Name "super" p0) [] [] p1) "__init__" p2) (e :: es) [] p3) p4 :: rest) scope [("__class__", cc)] dV kV doc pm an (.ref cda) ct) ps sp := by
  refine ⟨len, fun A outer s H args us vs Q E hr e0 hb r hsp => ?_⟩
  have hl := len _ _ _ _ hsp
  have KX : K.In s.heap := e0.mod.kin.keeps fun b o q => (e0.bs b o q).1
  have lim : s.heap.NoLimit := e0.mod.nolimit.keeps fun b o q => (e0.bs b o q).1
  obtain ⟨a, ta, t, ha0, hex, hA, hR, hq⟩ := hbody _ A outer s H vs Q E rfl (hr.deeper _) hsp
  obtain ⟨cl, cld, csl, hcell⟩ := T.cell
  obtain ⟨ccl, cdd, fv, ccs, file, tf, hco, hvs, hfile⟩ := T.code
  have hkc : scope.names.lookup ("__class__" : Str) = some .free := S.frk _ (by simp)
  have hka : scope.names.lookup ar.arg = some .local := S.par _ (List.mem_of_getElem? hself)
  have hcs : CellsAt [("__class__", cc)] ["__class__"] [none] s.heap H := by
    refine ⟨rfl, fun y c z => ?_, fun x y c z1 z2 => ?_, fun i y z => ?_⟩
    · have hy : c = cc := (look_one z).2
      subst hy
      exact ⟨(e0.bs _ _ (e0.mod.kin _ _ hcell)).2, _, _, KX _ _ hcell, rfl⟩
    · exact (look_one z1).1.trans (look_one z2).1.symm
    · cases i with
      | zero =>
        cases z
        exact ⟨cc, rfl, fun v z => by cases z⟩
      | succ i => cases z
  obtain ⟨t1, hx⟩ := exo_at e0.hok hex
  have hu0 : us[0]? = some (.ref a) := by
    obtain ⟨u, q1, q2⟩ := r.get ha0
    cases q2
    exact q1
  have ndP : ps.Nodup := by
    have q := S.nd.sublist (List.take_sublist (ps.length + 1) N)
    rw [show N.take (ps.length + 1) = ps ++ [("__class__" : Str)] from S.pre] at q
    exact (List.nodup_append.mp q).1
  have hloc : ∀ y ∈ ps.zip us, scope.names.lookup y.1 = some .local := fun ⟨n, v⟩ hy => S.par n (List.of_mem_zip hy).1
  refine ks_codeAny_call_defAt (binds := ps.zip us) hr.depth (KX _ _ lk) rfl lim (PySem.W.codeRec_of KX hcd) rfl hb S.nocell hloc (fun h₁ hns hk₁ => ?_) S.co S.gen S.kind
  have I : Inv (ncx CX P w K mg base N ⟨name, qual, params, [], scope, [("__class__", cc)], cda⟩ f A outer s H E) [] (startF N vs [none]) H { s with heap := h₁, toks := s.toks + (ps.zip us).length } := inv_startN S hr.hd e0 hl r hcs hns hk₁
  have X1 : K.In h₁ := I.kIn
  obtain ⟨cd, hcd1⟩ : ∃ cd, PySem.W.clsIn K C = some cd := by
    cases z : PySem.W.clsIn K C with
    | none =>
      have q := T.sup
      unfold PySem.W.ks_superIn at q
      rw [z] at q
      cases q
    | some cd => exact ⟨cd, rfl⟩
  obtain ⟨oD, hD1, hD2⟩ : ∃ oD, h₁.get? C = some oD ∧ oD.data = .cls cd := by
    have q := hcd1
    unfold PySem.W.clsIn at q
    split at q
    · rename_i c d cd' sl ho
      cases q
      exact ⟨_, X1 _ _ ho, rfl⟩
    · cases q
  have hx1 := hk₁ _ _ hx
  have neC : a ≠ C := fun z => by
    rw [z] at hx1
    rw [hx1] at hD1
    cases hD1
    cases hD2
  obtain ⟨pl, hev⟩ := hev (ncx CX P w K mg base N ⟨name, qual, params, [], scope, [("__class__", cc)], cda⟩ f A outer s H E).env
  refine ks_wpAt_execs_cons (ks_wpAt_Expr_any (ks_wpAt_MethodCall (pl := pl) ?_ hev) I.quiet)
  refine ks_wpAt_super_base hsu hkc rfl rfl (X1 _ _ lk) rfl hps rfl (X1 _ _ hco) rfl hvs hfile T.top ?_
  obtain ⟨mb, hb1, hb2⟩ := I.mod.blt
  refine PySem.W.ks_loadName_global S.kind hsu (loadGlobal_builtin (I.mod.glob.keeps I.bk) T.mgs (hb1.keeps I.bk) ((hb2 _ (by decide)).trans (by decide +kernel)) ⟨rfl, ?_⟩)
  refine wpAny_loadName_free S.kind hkc rfl ⟨_, X1 _ _ hcell, rfl⟩ ?_
  refine wpAny_loadName_local S.kind hka hns (zip_look ndP hself hu0) ?_
  refine ks_wpAny_isType_cls hD1 hD2 ⟨rfl, ?_⟩
  refine ks_wpAny_call_super hD1 hD2 hx1 rfl (fun c z => by cases z) (PySem.W.looks_mroIn X1 T.mro) (fun h2 hso k2 => ?_)
  have I2 := I.kept (t' := s.toks + (ps.zip us).length) k2
  have X2 : K.In h2 := I2.kIn
  have hx2 := k2 _ _ hx1
  have hin2 : PySem.W.Looks (model P w) h2 (isInstance (.ref a) (.type "ValueError")) true :=
    (show PySem.W.InstAt h2 a _ C none from ⟨hx2, rfl, rfl, trivial⟩).type.andThen (PySem.W.looks_subIn X2 T.sub)
  refine PySem.W.kxs_getMethod PySem.W.kxs_ValueError hso (PySem.W.looks_opaque X2 T.third) (l₀ := cd.mro) (fun A Q E s k q => wpAny_bind ((PySem.W.looks_clsIn X2 hcd1) A _ E s k (wpAny_pure q))) rfl X2 (by
    have q := T.sup
    unfold PySem.W.ks_superIn at q
    rw [hcd1] at q
    exact q) hin2 neC rfl ?_
  have hu3 : (h2.push (PySem.W.kxs_mw "ValueError.__init__" a)).get? h2.objs.size = some (PySem.W.kxs_mw "ValueError.__init__" a) := Heap.get?_push_at rfl rfl
  have I3 := (I2.kept (h' := h2.push (PySem.W.kxs_mw "ValueError.__init__" a)) (t' := s.toks + (ps.zip us).length + 1) fun b o q => Heap.get?_push_of_some _ q).pins_of (pins' := [(h2.objs.size, PySem.W.kxs_mw "ValueError.__init__" a)]) (fun p hp => by
    rw [List.mem_singleton.mp hp]
    exact ⟨hu3, I2.hok.fresh (Nat.le_refl _), Nat.ne_of_gt I2.lt, I2.nofs (Nat.le_refl _), fun v z => by cases z⟩)
  have hrun := hA.run p3 _ _ _ H _ I3 hq
  change wpAny _ _ (callWith p3 (.ref h2.objs.size) [] (backTo p3 (starEach (e :: es) _)) []) _ _ _
  have hep := hpl p3 (ncx CX P w K mg base N ⟨name, qual, params, [], scope, [("__class__", cc)], cda⟩ f A outer s H E).env
  refine PySem.W.kxs_callWith (i := "ValueError.__init__") (x := a) (by
    rw [he]
    exact hep) ?_
  have hrun2 := hrun
  rw [he] at hrun2 ⊢
  refine evalArgs_plain (thn hrun2 fun us4 s4 hh => ?_)
  obtain ⟨ws, H4, I4, r4, hz, hx4, ht⟩ := hh
  have pin4 := (I4.pin (h2.objs.size, PySem.W.kxs_mw "ValueError.__init__" a) (List.mem_append_right _ List.mem_cons_self)).1
  refine ⟨pin4, ?_⟩
  obtain ⟨t4, ho4⟩ := exo_at I4.hok hx4
  refine call_mw T.ox I4.kIn pin4 ho4 (by
    change us4.length ≤ _
    rw [← Paired.length r4, sizeLine_eq]
    omega) fun h5 t5 k5 hx5 => ?_
  have J0 := I4.write (t' := s4.toks) (x := a) (e := a) (o := exo a C none) (by rw [hx4]; exact True.intro) (.inl rfl) k5 ⟨_, hx5⟩ (exo_ok hx5)
  rw [upd_self hx4] at J0
  refine wpAt_of_wpAny (wpAny_mono (hR.run _ _ _ _ _ J0 ht) (fun fl s' hs => ?_) fun e s' hs => hs)
  have fin : ∀ {pins : List (Addr × Obj)} {σ' : L2.St} {H' : Hp} {v : V} {u : Value}, Inv (ncx CX P w K mg base N ⟨name, qual, params, [], scope, [("__class__", cc)], cda⟩ f A outer s H E) pins σ' H' s' → RelV v u → Q v H' → CE outer P w H s Q u s' :=
    fun {_ σ' H' v u} J rv q => ⟨v, H', J.os, J.bare, J.base, J.hok, rv, q⟩
  cases fl with
  | ret u =>
    obtain ⟨v, σ', H', J, rv, q⟩ := hs
    exact fin J rv q
  | next =>
    obtain ⟨σ', H', J, q⟩ := hs
    exact fin (v := V.non) (u := Value.none) J rfl q
  | brk =>
    obtain ⟨_, _, _, q⟩ := hs
    exact False.elim q
  | cont =>
    obtain ⟨_, _, _, q⟩ := hs
    exact False.elim q
end

/-- __init__ of an error with one field -/
def spErr (C : Addr) (fl : Str) : Sp := fun vs H Q _ => ∃ (a : Addr) (v : V), vs = [.ref a, v] ∧ H a = some (exo a C none) ∧ ∀ d, H d = none → d ≠ a → Q .non (upd (upd H d (exd d [(fl, v)])) a (exo a C (some d)))
section
variable {P : Program} {w : World} {K : PySem.W.Frag} {mg : Str → Option Value} {base : Heap} {C cc cda f : Addr}
variable {qual fl : Str} {params : Arguments} {scope : Scope} {dV kV doc pm ct oc : Value} {an od : Option Addr} {osl : Array (Option Value)} {p0 p1 p2 p3 p4 q1 q2 q3 q4 q5 : Pos} {ar : Arg} {body : List Stmt}
theorem ok_err (T : SupTxt P K mg C cc cda) (hno : PySem.W.findIn K (.ref C) fl = some none)
    (lk : K.lookup f = some ⟨oc, od, .func (PySem.W.fnX "__init__" qual params body scope [("__class__", cc)] dV kV doc pm an (.ref cda) ct), osl⟩)
    (hb : body = [.Expr (.Call (.Attribute (.Call (.Name "super" p0) [] [] p1) "__init__" p2) [.Name fl q1] [] p3) p4, .Assign [.Attribute (.Name "self" q2) fl q3] (.Name fl q4) q5])
    (hcd : PySem.W.codeIn K (.ref cda) qual = true) (S : NScope ["self", fl, "__class__"] ["self", fl] ["__class__"] scope) (hps : (params.posonlyargs ++ params.args).head? = some ar) (hself : ar.arg = "self")
    (hsu : scope.names.lookup ("super" : Str) = some .globalImplicit) (hdb : (fl == ("__debug__" : Str)) = false) (hcn : (fl == ("__classdict__" : Str)) = false)
    (hev : ∀ env, ∃ pl, eval (.Call (.Attribute (.Call (.Name "super" p0) [] [] p1) "__init__" p2) [.Name fl q1] [] p3) env = (do
      let ov ← attributeBase (.Call (.Name "super" p0) [] [] p1) "__init__" env (eval (.Call (.Name "super" p0) [] [] p1) env)
      standAt p2.atName
      let (f, first) ← holding [ov] (getMethod ov "__init__" pl)
      callWith p3 f first (backTo p3 (starEach [.Name fl q1] env)) [])) :
    FnOk P w K mg base CX0 1 f (PySem.W.fnX "__init__" qual params body scope [("__class__", cc)] dV kV doc pm an (.ref cda) ct) ["self", fl] (spErr C fl) := by
  subst hb
  refine sup_init (N := ["self", fl, "__class__"]) T lk hcd S hps (by rw [hself]; rfl) hsu (fun vs H Q E h => ?_) (fun _ => rfl) (fun _ _ => rfl) hev (fun X A outer s H vs Q E hX hr h => ?_)
  · obtain ⟨a, v, rfl, _⟩ := h
    rfl
  · obtain ⟨a, v, rfl, ha, k⟩ := h
    subst hX
    have v1 : PE (ncx CX0 P w K mg base ["self", fl, "__class__"] ⟨"__init__", qual, params, [], scope, [("__class__", cc)], cda⟩ f A outer s H E) (.Name fl q1) (tVar 1) := pe_var (i := 1) rfl (.inl (S.par fl (by simp))) hdb hcn
    have v2 : PE (ncx CX0 P w K mg base ["self", fl, "__class__"] ⟨"__init__", qual, params, [], scope, [("__class__", cc)], cda⟩ f A outer s H E) (.Name fl q4) (tVar 1) := pe_var (i := 1) rfl (.inl (S.par fl (by simp))) hdb hcn
    have v0 : PE (ncx CX0 P w K mg base ["self", fl, "__class__"] ⟨"__init__", qual, params, [], scope, [("__class__", cc)], cda⟩ f A outer s H E) (.Name "self" q2) (tVar 0) := pe_var (i := 0) rfl (.inl (S.par "self" (by simp)))
    refine ⟨a, _, _, rfl, ha, pa_cons v1 pa_nil, pss_one (ps_ost v0 v2), ?_⟩
    refine ⟨_, rfl, (show 1 ≤ 1000 by decide), ha, ?_⟩
    refine ⟨_, rfl, _, rfl, a, C, rfl, T.ox, hno, .inl ⟨ha, fun d hd hne => k d hd hne⟩⟩
end

/-! ## defs that may raise, called; errors made -/
/-- a def that may be called by its name and may raise -/
structure CalX (P : Program) (w : World) (K : PySem.W.Frag) (mg : Str → Option Value) (base : Heap) (k : Nat) (x : Str) (sp : Sp) : Prop where
  ex : ∃ (f : Addr) (fd : FuncData) (ps : List Str), FnOk P w K mg base (L2.CX P w) k f fd ps sp ∧ mg x = some (.ref f) ∧ PySem.W.keepIn K (.ref f) = true ∧ Binds K fd ps []
/-- a class of errors with one field -/
structure Erm (P : Program) (w : World) (K : PySem.W.Frag) (mg : Str → Option Value) (base : Heap) (k : Nat) (x : Str) (C : Addr) (fl : Str) : Prop where
  ex : ∃ (f : Addr) (fd : FuncData) (ps : List Str), OexC K C ∧ PySem.W.findIn K (.ref C) "__init__" = some (some (.ref f)) ∧ PySem.W.typeIn K (.ref f) = some (.type "function") ∧ FnOk P w K mg base CX0 k f fd ps (spErr C fl) ∧ Binds K fd ps [] ∧ mg x = some (.ref C)
/-- X(e): an error of the class C whose dict holds the one field -/
def tErr (C : Addr) (fl : Str) (ta : TA) : L2.St → Hp → XK → Prop := fun σ H Q => ta σ H fun vs H1 => ∃ v, vs = [v] ∧ ∀ d, H1 d = none → Q (.ref C) (some d) (upd H1 d (.xd [(fl, v)]))
section
variable {X : Cx} {W : WX} {k j : Nat} {C : Addr} {x fl : Str} {sp : Sp} {p pos : Pos} {e : Expr} {es : List Expr} {ta : TA} {t : TA}
theorem pe_cx (c : CalX X.prog X.w X.K X.mg X.base k x sp) (hr : Room j X.A) (hk : k ≤ j) (hg : Gl X x) (tk : Takes X W) (ha : PA X (e :: es) t)
    (hdb : (x == ("__debug__" : Str)) = false := by decide) (he : starEach (e :: es) X.env = (false, eval e X.env) :: starEach es X.env := by rfl) (hpl : (backTo pos (starEach es X.env)).any (·.1) = false := by rfl) :
    PE X (.Call (.Name x p) (e :: es) [] pos) (tCallS sp (WE W) t) := by
  obtain ⟨f, fd, ps, F, hm, kp, b⟩ := c.ex
  exact pe_callS F (hr.mono hk) hg hm kp b (fun σ => passAt tk σ) ha hdb he hpl
theorem err_end {H : Hp} {a d : Addr} {fl : Str} {v : V} (ha : H a = none) (hd : H d = none) (hne : d ≠ a) : upd (del (upd (upd (upd H a (exo a C none)) d (exd d [(fl, v)])) a (exo a C (some d))) a) d (.xd [(fl, v)]) = upd H d (.xd [(fl, v)]) := by
  funext b
  by_cases h1 : b = d
  · subst h1
    rw [upd_same, upd_same]
  · rw [upd_ne h1, upd_ne h1]
    by_cases h2 : b = a
    · subst h2
      rw [del_same, ha]
    · rw [del_ne h2, upd_ne h2, upd_ne h1, upd_ne h2]
theorem pmk_e (c : Erm X.prog X.w X.K X.mg X.base k x C fl) (hr : Room j X.A) (hk : k + 1 ≤ j) (hg : Gl X x) (ha : PA X (e :: es) ta)
    (hdb : (x == ("__debug__" : Str)) = false := by decide) (he : starEach (e :: es) X.env = (false, eval e X.env) :: starEach es X.env := by rfl) (hpl : (backTo pos (starEach es X.env)).any (·.1) = false := by rfl) :
    PMk X (.Call (.Name x p) (e :: es) [] pos) (tErr C fl ta) := by
  obtain ⟨f, fd, ps, T, iC, tI, F, b, hm⟩ := c.ex
  intro pins s σ H Q I h
  have ha' : PA X (e :: es) (fun σ H Q' => ∃ Q, ta σ H Q ∧ ∀ vs H1, Q vs H1 → Q' vs H1) := ⟨fun pos pins s σ H Q' I ⟨Q, h, m⟩ => thn (ha.run pos pins s σ H Q I h) fun us s' ⟨vs, H1, J, r, q⟩ => ⟨vs, H1, J, r, m _ _ q⟩⟩
  refine pmk_oex T iC tI F (hr.mono hk) b .nil pass0 hg hm ha' hdb he hpl pins s σ H Q I ⟨_, h, fun vs H1 z => ?_⟩
  obtain ⟨v, rfl, q⟩ := z
  refine ⟨(show 1 ≤ 1000 by decide), fun a ha => ⟨a, v, rfl, upd_same, fun d hd hne => ⟨rfl, d, [(fl, v)], upd_same, ?_, ?_, ?_⟩⟩⟩
  · rw [upd_ne hne, upd_same]
  · rw [upd_ne hne] at hd
    exact hd
  · rw [upd_ne hne] at hd
    rw [err_end ha hd hne]
    exact q d hd
end
/-- what the written part says of a class of errors, for its catching -/
structure ErrT (K : PySem.W.Frag) (mg : Str → Option Value) (x : Str) (C : Addr) (fl : Str) : Prop where
  gC : mg x = some (.ref C)
  te : PySem.W.exmOne K (.ref C) (.ref C) = some true
  xf : XfC K C
  no : PySem.W.findIn K (.ref C) fl = some none
/-! ## constants of the module: data that stands in the written part -/
def mapO (f : Value → Option PyData) : List Value → Option (List PyData)
  | [] => some []
  | u :: r => (f u).bind fun d => (mapO f r).map (d :: ·)
def datK (K : PySem.W.Frag) : Nat → Value → Option PyData
  | 0, _ => none
  | n + 1, v => match v with
    | .none => some .none
    | .bool b => some (.bool b)
    | .int i _ => some (.int i)
    | .str x _ => some (.str x)
    | .ref a => match K.lookup a with
      | some o => match o.data with
        | .seq its _ => if its.size ≤ 1000 then (if o.cls = .type "tuple" then (mapO (datK K n) its.toList).map .tuple else if o.cls = .type "list" ∧ o.dict = none then (mapO (datK K n) its.toList).map .list else none) else none
        | _ => none
      | none => none
    | _ => none
def constK (K : PySem.W.Frag) (x : Str) : Option PyData := match PySem.W.nsIn K mainGlobals x with
  | some (some u) => datK K 6 u
  | _ => none
theorem mapO_ok {K : PySem.W.Frag} {f : Value → Option PyData} (hf : ∀ u d, f u = some d → ∃ v, RelV v u ∧ ∀ H, Dp K H v d) : ∀ (us : List Value) (ds : List PyData), mapO f us = some ds → ∃ vs, Vals vs us ∧ ∀ H, DpAll K H vs ds
  | [], ds, e => by
    cases e
    exact ⟨[], .nil, fun _ => .nil⟩
  | u :: r, ds, e => by
    unfold mapO at e
    cases h1 : f u with
    | none => rw [h1] at e; cases e
    | some d =>
      rw [h1, Option.bind_some] at e
      cases h2 : mapO f r with
      | none => rw [h2] at e; cases e
      | some es =>
        rw [h2] at e
        cases e
        obtain ⟨v, r1, q1⟩ := hf u d h1
        obtain ⟨vs, r2, q2⟩ := mapO_ok hf r es h2
        exact ⟨v :: vs, .cons r1 r2, fun H => .cons (q1 H) (q2 H)⟩
theorem datK_ok {K : PySem.W.Frag} : ∀ (n : Nat) (u : Value) (d : PyData), datK K n u = some d → ∃ v, RelV v u ∧ ∀ H, Dp K H v d
  | 0, _, _, e => by cases e
  | n + 1, u, d, e => by
    unfold datK at e
    cases u with
    | none => cases e; exact ⟨.non, rfl, fun _ => .non⟩
    | bool b => cases e; exact ⟨.bl b, rfl, fun _ => .bl b⟩
    | int i t => cases e; exact ⟨.int i, ⟨t, rfl⟩, fun _ => .int i⟩
    | str x t => cases e; exact ⟨.str x, ⟨t, rfl⟩, fun _ => .str x⟩
    | ref a =>
      dsimp only at e
      cases hl : K.lookup a with
      | none => rw [hl] at e; cases e
      | some o =>
        rw [hl] at e
        dsimp only at e
        split at e
        · rename_i its m hd
          split at e
          · rename_i hz
            have hz' : its.size ≤ sizeLine := Nat.le_trans hz (by rw [sizeLine_eq]; decide)
            split at e
            · rename_i hc
              cases h2 : mapO (datK K n) its.toList with
              | none => rw [h2] at e; cases e
              | some ds =>
                rw [h2] at e
                cases e
                obtain ⟨vs, r, q⟩ := mapO_ok (datK_ok n) _ _ h2
                exact ⟨.ref a, rfl, fun H => .tup (.inr ⟨o, its, m, hl, hc, hd, hz', r⟩) (q H)⟩
            · split at e
              · rename_i hc
                cases h2 : mapO (datK K n) its.toList with
                | none => rw [h2] at e; cases e
                | some ds =>
                  rw [h2] at e
                  cases e
                  obtain ⟨vs, r, q⟩ := mapO_ok (datK_ok n) _ _ h2
                  exact ⟨.ref a, rfl, fun H => .lst (.inr ⟨o, its, m, hl, hc.1, hc.2, hd, hz', r⟩) (q H)⟩
              · cases e
          · cases e
        · cases e
    | _ => cases e
theorem const_of {K : PySem.W.Frag} {h : Heap} {mg : Str → Option Value} {x : Str} {d : PyData} (X : K.In h) (G : h.Ns mainGlobals mg) (e : constK K x = some d) : ∃ v : V, (∃ u, mg x = some u ∧ RelV v u) ∧ ∀ H : Hp, Dp K H v d := by
  unfold constK at e
  split at e
  · rename_i u hu
    obtain ⟨v, r, q⟩ := datK_ok _ _ _ e
    exact ⟨v, ⟨u, PySem.W.mg_of X G hu, r⟩, q⟩
  · cases e
/-! ## x in, x not in a tuple of data -/
def rInT (K : PySem.W.Frag) : R2 := fun x y H Q => ∃ d ds, Dp K H x d ∧ Dp K H y (.tuple ds) ∧ SeqAt.shaped d = true ∧ SeqAt.shaped (.tuple ds) = true ∧ Q (.bl (ds.any fun z => PyData.eqv z d)) H
def rNotInT (K : PySem.W.Frag) : R2 := fun x y H Q => ∃ d ds, Dp K H x d ∧ Dp K H y (.tuple ds) ∧ SeqAt.shaped d = true ∧ SeqAt.shaped (.tuple ds) = true ∧ Q (.bl (!ds.any fun z => PyData.eqv z d)) H
section
variable {X : Cx}
theorem op_inT (hu : X.A.units + 65 < cLine) : OpR X (compareOp .In) (rInT X.K) := by
  intro pins s σ H x y v u Q I rx ry ⟨d, ds, hd, he, sd, se, q⟩
  obtain ⟨as, r1⟩ := Dp.reads I d x v hd rx
  obtain ⟨bs, r2⟩ := Dp.reads I (.tuple ds) y u he ry
  exact SeqAt.in_tuple_reads r2 r1 (SeqAt.canLay_of_shaped se) (SeqAt.canLay_of_shaped sd) (room_in_shaped sd hu) ⟨.bl _, H, I, rfl, q⟩
theorem op_notInT (hu : X.A.units + 65 < cLine) : OpR X (compareOp .NotIn) (rNotInT X.K) := by
  intro pins s σ H x y v u Q I rx ry ⟨d, ds, hd, he, sd, se, q⟩
  obtain ⟨as, r1⟩ := Dp.reads I d x v hd rx
  obtain ⟨bs, r2⟩ := Dp.reads I (.tuple ds) y u he ry
  exact SeqAt.notIn_tuple_reads r2 r1 (SeqAt.canLay_of_shaped se) (SeqAt.canLay_of_shaped sd) (room_in_shaped sd hu) ⟨.bl _, H, I, rfl, q⟩
end
theorem slA_new {K : PySem.W.Frag} {H : Hp} {a : Addr} {xs : List V} {lo hi : Option Int} {Q : VK} (h : SqT K H a xs) (k : ∀ (b : Addr) (H' : Hp), Same H H' → SqT K H' b (cutV xs lo hi) → Q (.ref b) H') : rSlA K (.ref a) lo hi H Q := by
  refine ⟨a, xs, rfl, h, fun e => k a H (Same.refl _) ?_, fun _ p n => k p _ (same_new n) (SqT.of upd_same)⟩
  have q : cutV xs lo hi = xs := by
    unfold cutV
    rw [e.1, e.2]
    simp
  rw [q]
  exact h
theorem cut_tail {v : V} {vs : List V} : cutV (v :: vs) (some 1) none = vs := (cut_from (xs := v :: vs) (i := 1) (by simp)).trans rfl
/-- an «if» whose test is known -/
theorem ifT {A B : Prop} {b : Bool} (e : b = true) (h : A) : (if b = true then A else B) := by
  rw [if_pos e]
  exact h
theorem ifF {A B : Prop} {b : Bool} (e : b = false) (h : B) : (if b = true then A else B) := by
  rw [if_neg (by rw [e]; decide)]
  exact h
theorem ne_int {i j : Int} (h : i ≠ j) : (!decide (V.int i = V.int j)) = true := by
  simp [h]
theorem ne_int0 {i j : Int} (h : i = j) : (!decide (V.int i = V.int j)) = false := by
  simp [h]
end G

/-! ## sets of ints; isinstance of a caught error that has a dict (my own) -/
namespace G
open PySem PySem.Spec PySem.Calls PyProof.Rows L2
/-- set(t), t a tuple of ints -/
def rSetT (K : PySem.W.Frag) (w : World) : List V → Hp → VK → Prop := fun xs H Q => ∃ (p : Addr) (ns : List Int), xs = [.ref p] ∧ SqT K H p (ns.map V.int) ∧ ns.length ≤ 1000 ∧
  ∀ (n : Nat) (q : Addr), n ≤ ns.length → H q = none → Q (.ref q) (upd H q (SetO w q (fun j => decide (j ∈ ns)) n))
section
variable {X : Cx}
theorem cr_setT (hc : X.calm = true) : CallR X (.type "set") (rSetT X.K X.w) := by
  intro pins s σ H xs us Q I r h
  obtain ⟨p, ns, rfl, hq, hl, q⟩ := h
  cases r with
  | cons rx rr =>
    cases rr
    cases rx
    obtain ⟨its, rv, pt, _⟩ := I.tuple hq
    refine call_set_tupI ns (I.ok.hd hc) (show s.heap.IsTuple p its.toArray from pt) (ints_of_vals rv) (by unfold scanBound; omega) fun h' tk c R hcn k => ?_
    exact ⟨.ref _, upd H s.heap.objs.size (SetO X.w s.heap.objs.size (fun j => decide (j ∈ ns)) c), I.laid (t' := tk) k (Nat.le_refl _) (setO_new R), rfl, q c _ hcn (I.hok.fresh (Nat.le_refl _))⟩
end
section
open PySem.W
variable {prog : Program} {w : World} {A : Around} {E : Value → Shared → Prop} {s : Shared} {K : Frag} {x D : Addr} {ox : Obj} {od : Option Obj}
theorem cls_found (c : ExcC K D) : findObj K D od "__class__" = some (.bind (.builtin "getset_descriptor.__get__") (.builtin "object.__class__")) := by
  obtain ⟨cd, h, _⟩ := any_some c.hd
  simp [findObj, h, c.ha, c.hn, c.ht]
/-- x.__class__, x an error with or without a dict -/
theorem err_cls {Q : Option Value → Shared → Prop} (c : ExcC K D) (X : K.In s.heap) (I : PySem.W.InstAt s.heap x ox D od) (q : Q (some (.ref D)) { s with toks := s.toks + 1 }) : wpAny (model prog w) A (getAttr? (.ref x) "__class__") Q E s := by
  rcases s with ⟨hp, gs, dr, tk, os⟩
  have ty := I.type (M := model prog w)
  have own := looks_find (M := model prog w) X I (cls_found c)
  have isB : Looks (model prog w) hp (isInstance (.ref x) (.type "BaseException")) true := ty.andThen (looks_subIn X c.hs)
  have off : (onTheHeap (.ref D) && Value.builtin "BaseException.__getattribute__" == Value.builtin "object.__getattribute__") = false := by
    rw [show (Value.builtin "BaseException.__getattribute__" == Value.builtin "object.__getattribute__") = false by decide +kernel, Bool.and_false]
  unfold getAttr? getAttrBy? getAttrBy
  refine wpAny_bind (wpAny_mkText (wpAny_bind (wpAny_attempt (wpAny_holding (wpAny_bind (ty.at (wpAny_bind ((looks_findIn X c.hg).at ?_))))))))
  refine PySem.W.KFB.if_not off ?_
  unfold getAttrByItsOwn hookBefore
  refine wpAny_bind (PySem.W.KFB.if_so rfl ((looks_findIn X c.hk).at (wpAny_bind (wpAny_attempt (wpAny_holding ?_)))))
  unfold callGetattribute boundAndCalled
  refine PySem.W.KFB.if_not rfl ?_
  rw [F.excAttr_ValueError.ga.bind (.ref x)]
  refine wpAny_bind (wpAny_pure (wpAny_call (codeAny_call_builtin F.excAttr_ValueError.ga.plain F.entry_bexc_ga (@check_slot (model prog w) _ _ ⟨hp, gs, dr, tk + 1, os⟩ "BaseException.__getattribute__" "BaseException" "__getattribute__" (.ref x) [.str "__class__" tk] [] _ (by decide +kernel) (by decide +kernel) isB (F.args_bexc_ga (.ref x) (.str "__class__" tk)) ?_))))
  unfold Builtin.«object.__getattribute__»
  refine wpAny_bind (wpAny_of_eq (a := (Value.ref x, [Value.str "__class__" tk])) (by simp only [slotArgs]; rfl) (wpAny_bind (wpAny_pure (wpAny_bind (ty.at (wpAny_bind (own.at ?_)))))))
  refine wpAny_bind (wpAny_holding (wpAny_call (class_get (s := ⟨hp, gs, dr, tk + 1, os⟩) X I c.hm (wpAny_pure ?_))))
  dsimp only
  rw [handedOut_of (v := Value.ref D) rfl]
  exact wpAny_pure (wpAny_pure q)
/-- isinstance asks the instances of such a class -/
theorem kitx_err (c : ExcC K D) : KitX K (.ref x) (.ref D) (fun h => PySem.W.InstAt h x ox D od) :=
  have z := handS_kitx_exc (x := x) (ox := ox) c.hg c.hk c.hs c.hd c.ha c.hn c.ht c.hm
  { ty := fun _ _ _ I => I.type, it := fun M h X _ => by
      obtain ⟨cd, e, _⟩ := any_some c.hd
      exact (fun A Q E s k q => by
        unfold isType loadHead
        unfold clsIn at e
        split at e
        · rename_i o
          exact wpAny_bind (wpAny_loadPart (k _ _ (X _ _ o)) (wpAny_pure q))
        · cases e)
    ne := z.ne, ca := fun X I q => err_cls c X I q }
end
/-- isinstance(e, c), e the error that the suite holds, with its dict -/
def rIsD (K : PySem.W.Frag) (cls : Value) (d : Option Addr) (a : Addr) : List V → Hp → VK → Prop := fun xs H Q => ∃ (D : Addr) (c : V) (cv : Value) (b : Bool) (dd : Addr) (fs : List (Str × V)), cls = .ref D ∧ d = some dd ∧ H dd = some (.xd fs) ∧ ExcC K D ∧
  xs = [.ref a, c] ∧ (∀ u, RelV c u → u = cv) ∧ PySem.W.kitOne K (.ref D) cv = some b ∧ Q (.bl b) H
/-- error.f in the suite, the error's class known there -/
def tXg (K : PySem.W.Frag) (a : Addr) (cls : Value) (d : Option Addr) (f : Str) (i : Nat) : TE := fun σ H Q => ∃ x, σ[i]? = some (some x) ∧ x = .ref a ∧ ∃ (C dd : Addr) (fs : List (Str × V)) (v : V), cls = .ref C ∧ XfC K C ∧ PySem.W.findIn K (.ref C) f = some none ∧ d = some dd ∧ H dd = some (.xd fs) ∧ fs.lookup f = some v ∧ Q v H
section
variable {X : Cx} {a : Addr} {oe : Obj} {cls : Value} {d : Option Addr} {pn : List (Addr × Obj)}
theorem call_isD (hz : Zc cls d oe) (hf : ∃ vs, oe.data = .fields vs) : CallR (X.suite a ((a, oe) :: pn)) (.builtin "isinstance") (rIsD X.K cls d a) := by
  intro pins s σ H xs us Q I r h
  obtain ⟨D, c, cv, b, dd, fs, rfl, rfl, hx, C, rfl, hcv, e, q⟩ := h
  cases r with
  | cons rx rr =>
    cases rx
    cases rr with
    | cons rt rr =>
      cases rr
      have ec := hcv _ rt
      subst ec
      obtain ⟨vs, hd⟩ := hf
      obtain ⟨mA, hns, _⟩ : ObjOk X.prog X.w H s.heap dd (.xd fs) := I.hok dd _ hx
      obtain ⟨od, ho, _⟩ := lookIn_ns hns
      have J : PySem.W.InstAt s.heap a oe D (some od) := ⟨(I.pin (a, oe) (List.mem_append_left _ List.mem_cons_self)).1, hz.1, by simp [PySem.W.notCls, hd], by rw [hz.2]; exact ho⟩
      exact PySem.W.kia_one (kitx_err C) I.kIn J e (fun z => nomatch z) fun tk => ⟨.bl b, H, I.kept (t' := tk) fun _ _ z => z, rfl, q⟩
theorem pe_xg {e : Expr} {pos : Pos} {n : Str} {i : Nat} (hz : Zc cls d oe) (hf : ∃ vs, oe.data = .fields vs) (he : PE (X.suite a ((a, oe) :: pn)) e (tVar i)) (hb : attributeBase e n X.env (eval e X.env) = eval e X.env := by rfl) :
    PE (X.suite a ((a, oe) :: pn)) (.Attribute e n pos) (tXg X.K a cls d n i) :=
  ⟨fun pins s σ H Q I ⟨x, hx, ex, C, dd, fs, v, ec, T, hno, ed, hdd, l, q⟩ => (pe_xf T hno hz hf he hb).run pins s σ H Q I ⟨x, hx, ex, ec, dd, fs, v, ed, hdd, l, q⟩⟩
end
/-! ### errors that leave, new tuples and lists, heaps without some lists -/
/-- an error with this word leaves -/
def RaiseF (C : Addr) (x : Str) (H : Hp) (E : XK) : Prop := ∀ (H' : Hp) (d : Addr), Same H H' → H' d = some (.xd [("what", .str x)]) → E (.ref C) (some d) H'
theorem RaiseF.here {C : Addr} {x : Str} {H H' : Hp} {E : XK} {d : Addr} (r : RaiseF C x H E) (s : Same H H') (n : H' d = none) : E (.ref C) (some d) (upd H' d (.xd [("what", .str x)])) := r _ d (s.trans (same_new n)) upd_same
theorem RaiseF.later {C : Addr} {x : Str} {H H' : Hp} {E : XK} (s : Same H H') (r : RaiseF C x H E) : RaiseF C x H' E := fun H2 d s2 e => r H2 d (s.trans s2) e
theorem size_lt {m : Nat} (h : m < 100000) : m < sizeLine := Nat.lt_of_lt_of_le h (by decide)
theorem none_of_same {H H' : Hp} {p : Addr} (s : Same H H') (n : H' p = none) : H p = none := by
  cases e : H p with
  | none => rfl
  | some o =>
    rw [s _ _ e] at n
    cases n
theorem del1_same {H H' : Hp} {a : Addr} (s : Same H H') : Same (del1 H a) (del1 H' a) := fun b o e => by
  by_cases z : b = a
  · rw [z, del1_at] at e
    cases e
  · rw [del1_ne z] at e ⊢
    exact s b o e
theorem del1_sub {H : Hp} {a : Addr} : Same (del1 H a) H := fun b o e => by
  by_cases z : b = a
  · rw [z, del1_at] at e
    cases e
  · rwa [del1_ne z] at e
theorem del1_but {H H' : Hp} {a : Addr} (k : But a H H') : Same (del1 H a) (del1 H' a) := fun b o e => by
  by_cases z : b = a
  · rw [z, del1_at] at e
    cases e
  · rw [del1_ne z] at e ⊢
    exact k b o z e
theorem del2_step {H H' : Hp} {a c : Addr} (k : ∀ b o, b ≠ a → b ≠ c → H b = some o → H' b = some o) : Same (del1 (del1 H a) c) (del1 (del1 H' a) c) := fun b o e => by
  by_cases z : b = c
  · rw [z, del1_at] at e
    cases e
  · by_cases y : b = a
    · rw [del1_ne z, y, del1_at] at e
      cases e
    · rw [del1_ne z, del1_ne y] at e ⊢
      exact k b o y z e
theorem Deck.ne {H : Hp} {a D : Addr} (h : Deck H a) (hD : H D = none) : D ≠ a := fun e => by
  obtain ⟨ds, _, q⟩ := h
  rw [← e, hD] at q
  cases q
theorem but_mut {dk p : Addr} {H H' : Hp} {o : HO} (b : But dk H H') (n : H p = none) : But dk H (upd H' p o) := fun c u nc e => by
  rw [upd_ne (fun z => by rw [z, n] at e; cases e)]
  exact b c u nc e
theorem none_of_but {dk p : Addr} {H H' : Hp} (hk : Deck H' dk) (b : But dk H H') (n : H' p = none) : H p = none := by
  have ne := Deck.ne hk n
  cases e : H p with
  | none => rfl
  | some o =>
    rw [b _ _ ne e] at n
    cases n
section
variable {K : PySem.W.Frag}
theorem tupD {H : Hp} {p : Addr} {xs : List V} {ds : List PyData} (h : DpAll K H xs ds) (n : H p = none) : Same H (upd H p (.tup xs)) ∧ Dp K (upd H p (.tup xs)) (.ref p) (.tuple ds) :=
  ⟨same_new n, .tup (SqT.of upd_same) (dps_same (same_new n) h)⟩
theorem lstD {H : Hp} {p : Addr} {xs : List V} {ds : List PyData} (h : DpAll K H xs ds) (n : H p = none) : Same H (upd H p (.lst xs)) ∧ Dp K (upd H p (.lst xs)) (.ref p) (.list ds) :=
  ⟨same_new n, .lst (SqL.of upd_same) (dps_same (same_new n) h)⟩
theorem catD {H : Hp} {v u : V} {ds es : List PyData} {Q : VK} (h1 : Dp K H v (.tuple ds)) (h2 : Dp K H u (.tuple es)) (hl : ds.length + es.length ≤ 100000) (k : ∀ (z : V) (H' : Hp), Same H H' → Dp K H' z (.tuple (ds ++ es)) → Q z H') : rCatA K v u H Q := by
  obtain ⟨a, xs, rfl, ha, hxs⟩ := dp_tup h1
  obtain ⟨b, ys, rfl, hb, hys⟩ := dp_tup h2
  have l1 := dps_len hxs
  have l2 := dps_len hys
  refine ⟨a, b, xs, ys, rfl, rfl, ha, hb, size_of (by omega), fun e => ?_, fun _ e => ?_, fun _ _ p hp => ?_⟩
  · subst e
    cases hxs
    exact k _ _ (Same.refl _) h2
  · subst e
    cases hys
    rw [List.append_nil] at k
    exact k _ _ (Same.refl _) h1
  · exact k _ _ (same_new hp) (.tup (SqT.of upd_same) (dps_app (dps_same (same_new hp) hxs) (dps_same (same_new hp) hys)))
/-- a new list of two lists -/
theorem catL {H : Hp} {l b : Addr} {xs zs : List V} {ds es : List PyData} {Q : VK} (h1 : H l = some (.lst xs)) (h2 : H b = some (.lst zs)) (d1 : DpAll K H xs ds) (d2 : DpAll K H zs es) (hl : ds.length + es.length ≤ 100000)
    (k : ∀ p, H p = none → DpAll K (upd H p (.lst (xs ++ zs))) (xs ++ zs) (ds ++ es) → Q (.ref p) (upd H p (.lst (xs ++ zs)))) : rCat (.ref l) (.ref b) H Q :=
  ⟨l, b, xs, zs, rfl, rfl, h1, h2, by rw [dps_len d1, dps_len d2]; exact size_of hl, fun p n => k p n (dps_same (same_new n) (dps_app d1 d2))⟩
theorem dps5 {H : Hp} {xs : List V} {d0 d1 d2 d3 d4 : PyData} (h : DpAll K H xs [d0, d1, d2, d3, d4]) : ∃ v0 v1 v2 v3 v4, xs = [v0, v1, v2, v3, v4] ∧ Dp K H v0 d0 ∧ Dp K H v1 d1 ∧ Dp K H v2 d2 ∧ Dp K H v3 d3 ∧ Dp K H v4 d4 := by
  cases h with
  | cons a h => cases h with
    | cons b h => cases h with
      | cons c h => cases h with
        | cons d h => cases h with
          | cons e h => cases h; exact ⟨_, _, _, _, _, rfl, a, b, c, d, e⟩
end
theorem paired_imp {α β : Type} {F F' : α → β → Prop} (h : ∀ a b, F a b → F' a b) : ∀ {l₁ : List α} {l₂ : List β}, Paired F l₁ l₂ → Paired F' l₁ l₂
  | _, _, .nil => .nil
  | _, _, .cons k t => .cons (h _ _ k) (paired_imp h t)
theorem paired_eq {α : Type} : ∀ {l₁ l₂ : List α}, Paired (fun u y => u = y) l₁ l₂ → l₁ = l₂
  | _, _, .nil => rfl
  | _, _, .cons k t => by rw [k, paired_eq t]
/-! ### all but lists stands -/
def KeepT (H H' : Hp) : Prop := ∀ b u, H b = some u → (∀ xs, u ≠ .lst xs) → H' b = some u
theorem KeepT.of_same {H H' : Hp} (s : Same H H') : KeepT H H' := fun b u e _ => s b u e
theorem KeepT.of_but {H H' : Hp} {a : Addr} (hk : Deck H a) (s : But a H H') : KeepT H H' := fun b u e n => s b u (fun q => by
  obtain ⟨ds, _, h⟩ := hk
  rw [q, h] at e
  exact n _ (Option.some.inj e).symm) e
theorem KeepT.trans {H H1 H2 : Hp} (s : KeepT H H1) (t : KeepT H1 H2) : KeepT H H2 := fun b u e n => t b u (s b u e n) n
theorem KeepT.upd {H H' : Hp} {a : Addr} {xs ys : List V} (s : KeepT H H') (h : H' a = some (.lst xs)) : KeepT H (upd H' a (.lst ys)) := fun b u e n => by
  have q := s b u e n
  have ne : b ≠ a := fun z => by
    rw [z, h] at q
    exact n _ (Option.some.inj q).symm
  rw [upd_ne ne]
  exact q
theorem SqT.keep {K : PySem.W.Frag} {H H' : Hp} {a : Addr} {xs : List V} (s : KeepT H H') (h : SqT K H a xs) : SqT K H' a xs := by
  rcases h with (h | ⟨o, h⟩) | h
  · exact .inl (.inl (s _ _ h (fun _ z => by cases z)))
  · exact .inl (.inr ⟨o, s _ _ h (fun _ z => by cases z)⟩)
  · exact .inr h
mutual
def noL : PyData → Bool
  | .list _ => false
  | .tuple ds => noLs ds
  | _ => true
def noLs : List PyData → Bool
  | [] => true
  | d :: r => noL d && noLs r
end
mutual
theorem dp_keep {K : PySem.W.Frag} {H H' : Hp} (e : KeepT H H') : ∀ {v : V} {d : PyData}, noL d = true → Dp K H v d → Dp K H' v d
  | _, _, _, .non => .non
  | _, _, _, .bl b => .bl b
  | _, _, _, .int i => .int i
  | _, _, _, .str x => .str x
  | _, _, n, .lst _ _ => by simp [noL] at n
  | _, _, n, .tup h a => .tup (SqT.keep e h) (dps_keep e (by simpa [noL] using n) a)
theorem dps_keep {K : PySem.W.Frag} {H H' : Hp} (e : KeepT H H') : ∀ {v : List V} {d : List PyData}, noLs d = true → DpAll K H v d → DpAll K H' v d
  | _, _, _, .nil => .nil
  | _, _, n, .cons h t => .cons (dp_keep e (by simp only [noLs, Bool.and_eq_true] at n; exact n.1) h) (dps_keep e (by simp only [noLs, Bool.and_eq_true] at n; exact n.2) t)
end
theorem noLs_all {ds : List PyData} (h : ∀ d ∈ ds, noL d = true) : noLs ds = true := by
  induction ds with
  | nil => rfl
  | cons d r ih =>
    unfold noLs
    rw [h d List.mem_cons_self, ih fun x hx => h x (List.mem_cons_of_mem _ hx)]
    rfl
theorem noLs_map {α : Type} {f : α → PyData} {l : List α} (h : ∀ x ∈ l, noL (f x) = true) : noLs (l.map f) = true := noLs_all fun d hd => by
  obtain ⟨x, hx, rfl⟩ := List.mem_map.mp hd
  exact h x hx
theorem KeepT.mut {H H' : Hp} {a : Addr} {xs ys : List V} (h : H' a = some (.lst xs)) : KeepT H' (L2.upd H' a (.lst ys)) := KeepT.upd (KeepT.of_same (Same.refl _)) h
/-- a walk by enumerate -/
theorem for_enum {K : PySem.W.Frag} {a : Addr} {xs : List V} {g : TG} {tb : TS} {D : Ends} {σ : L2.St} {H : Hp} (Pv : Nat → L2.St → Hp → Prop) (p0 : Pv 0 σ H) (seen : ∀ i σ H, i ≤ xs.length → Pv i σ H → SqL K H a xs)
    (step : ∀ i x σ H T, xs[i]? = some x → Pv i σ H → H T = none → g (.ref T) σ (L2.upd H T (.tup [.int (i : Nat), x])) fun σ2 H2 => tb { D with nx := Pv (i + 1), ct := Pv (i + 1), bk := D.nx } σ2 H2) (done : ∀ σ H, Pv xs.length σ H → D.nx σ H) :
    ∃ W : Nat → Nat → L2.St → Hp → Prop, (∃ m, W 0 m σ H) ∧ ∀ i m σ H, W i m σ H →
      ((Ite K a).stop i H ∧ D.nx σ H) ∨ ((Ite K a).go i H ∧ ∃ N : L2.St → Hp → Prop, (∀ σ' H', N σ' H' → ∃ m', m' < m ∧ W (i + 1) m' σ' H') ∧ ∀ x H', (Ite K a).yld i H x H' → g x σ H' fun σ2 H2 => tb { D with nx := N, ct := N, bk := D.nx } σ2 H2) := by
  refine ⟨fun i m σ H => i + m = xs.length ∧ Pv i σ H, ⟨xs.length, Nat.zero_add _, p0⟩, fun i m σ H h => ?_⟩
  have q := seen i σ H (by omega) h.2
  cases m with
  | zero =>
    have e : i = xs.length := h.1
    subst e
    exact .inl ⟨⟨xs, q, Nat.le_refl _⟩, done σ H h.2⟩
  | succ m =>
    have z : i < xs.length := by omega
    refine .inr ⟨⟨xs, xs[i], q, List.getElem?_eq_getElem z⟩, Pv (i + 1), fun σ' H' p' => ⟨m, Nat.lt_succ_self m, by omega, p'⟩, ?_⟩
    rintro v H' ⟨T, x, rfl, nT, rfl, hx⟩
    exact step i x σ H T (hx xs q) h.2 nT
theorem kit_self {K : PySem.W.Frag} {t : Value} : PySem.W.kitOne K t t = some true := by
  unfold PySem.W.kitOne
  rw [if_pos (beq_self_eq_true t)]
theorem kit_not {K : PySem.W.Frag} {C D : Addr} (hd : PySem.W.hasDictIn K D = true) (ht : PySem.W.typeIn K (.ref D) = some (.type "type")) (hs : PySem.W.subIn K (.ref C) (.ref C) = some true) (h : PySem.W.subIn K (.ref C) (.ref D) = some false) : PySem.W.kitOne K (.ref C) (.ref D) = some false := by
  have ne : C ≠ D := fun z => by
    rw [z] at hs h
    rw [hs] at h
    cases h
  obtain ⟨cd, hc, _⟩ := PySem.W.any_some hd
  unfold PySem.W.kitOne
  rw [if_neg (by simpa using ne)]
  unfold PySem.W.kitCls
  simp [hc, ht, h]
end G

open PySem PySem.Spec PyProof.Rows L2
namespace G
/-! ## several clauses «except C as x» -/
/-- what the clauses wish of an exception of the body, one after the other; slot i is the name's -/
def wManyAs (K : PySem.W.Frag) (Wout : WX) (D : Ends) : List (Value × Nat × (Addr → Value → Option Addr → TS)) → WX
  | [] => Wout
  | (c, i, ts) :: r => fun cls d σ H => ∃ b, PySem.W.exmOne K cls c = some b ∧
      (b = true → ∀ a, H a = none → ts a cls d { nx := fun σ' H' => D.nx (σ'.set i none) H', rt := D.rt, bk := fun σ' H' => D.bk (σ'.set i none) H', ct := fun σ' H' => D.ct (σ'.set i none) H' } (σ.set i (some (.ref a))) H) ∧
      (b = false → wManyAs K Wout D r cls d σ H)
inductive HdsAs (X : Cx) : List ExceptHandler → List (Value × Nat × (Addr → Value → Option Addr → TS)) → Prop
  | nil : HdsAs X [] []
  | cons {x n : Str} {c : Value} {i : Nat} {ts : Addr → Value → Option Addr → TS} {b₀ : Stmt} {suite : List Stmt} {np pos' : Pos} {hds : List ExceptHandler} {l : List (Value × Nat × (Addr → Value → Option Addr → TS))}
      (hi : X.N[i]? = some n) (hln : X.env.kindOf n = some .local) (hc : Names X x c)
      (hsu : ∀ (a : Addr) (oe : Obj) (cls : Value) (d : Option Addr) (pn : List (Addr × Obj)), Zc cls d oe → (∃ vs, oe.data = .fields vs) → PSs (X.suite a ((a, oe) :: pn)) (b₀ :: suite) (ts a cls d)) (r : HdsAs X hds l) :
      HdsAs X (.ExceptHandler (some (.Name x np)) (some n) (b₀ :: suite) pos' :: hds) ((c, i, ts) :: l)
section
variable {X : Cx} {body : List Stmt} {h₀ : ExceptHandler} {hds : List ExceptHandler} {l : List (Value × Nat × (Addr → Value → Option Addr → TS))} {pos : Pos} {tb : WX → TS} {Wout : WX}
theorem ps_try_manyAs (hs : X.stack = X.env :: X.outer) (hf : X.env.frame = some X.env.locals) (hN : X.N.Nodup) (tk : Takes X Wout)
    (hb : ∀ (W : WX) (pn : List (Addr × Obj)) (xe : Value → Shared → Prop), Takes (X.tr pn xe) W → PassesOwn (model X.prog X.w) X.A X.env xe → PSs (X.tr pn xe) body (tb W))
    (hh : HdsAs X (h₀ :: hds) l) : PS X (.Try body (h₀ :: hds) [] [] pos) (fun D σ H => tb (wManyAs X.K Wout D l) D σ H) := by
  refine ⟨fun pins s σ H D I h => ?_⟩
  have ok := I.ok
  have hfr : X.A.frames = some (X.env :: X.outer) := by rw [ok.frames, hs]
  refine wpAny_Try_except ?_
  refine wpAny_mono ((hb (wManyAs X.K Wout D l) (X.pn ++ pins) (fun e s₁ => wpAny (model X.prog X.w) X.A (noteFrame e X.env) (fun _ s₂ => wpAny (model X.prog X.w) X.A (setFlight e none) (fun _ s₃ =>
    wpAny (model X.prog X.w) X.A (handleBy e X.env (h₀ :: hds)) (SP X pins D) X.xe s₃) X.xe s₂) X.xe s₁) (fun u s' xx => ?_) PassesOwn.looking).run [] s σ H D (I.toTry _) h) (fun f s1 hsp => ?_) (fun e s1 he => he)
  · obtain ⟨a, B, sI, pins', σ', H', cls, d, rfl, J', nb, up, sky, na, os, ag, w⟩ := xx
    have J : Inv X pins σ' H' sI := J'.ofTry ok
    have sky' : Sky B (X.env :: X.outer) a (Zc cls d) X.env.locals s'.heap := by rw [← hs]; exact sky
    show wpAny (model X.prog X.w) X.A (noteFrame (.ref a) X.env) _ _ _
    refine Sky.land Zc.steady hfr hf sky' fun h3 fl3 up3 => ?_
    have J3 : Inv X pins σ' H' { s' with heap := h3 } := J.landed nb fl3.1 (up.trans up3) os ag
    obtain ⟨oe3, vs3, he3, hz3, hd3⟩ := fl3.there
    have notFr : ∀ {h : Heap} {o : Obj} {vs : Array Value}, h.FunFrames B (X.env :: X.outer) → h.get? a = some o → o.data = .fields vs → a ∉ frs (X.env :: X.outer) := fun {h o vs} ff e dd hm => by
      obtain ⟨_, o', e', hnf⟩ := ff.mem hm
      rw [e] at e'; cases e'
      exact hnf _ dd
    have nfr := notFr fl3.2.2.1 he3 hd3
    have nL : a ≠ X.env.locals := fun z => nfr (List.mem_filterMap.mpr ⟨X.env, List.mem_cons_self, by rw [hf, z]⟩)
    have nF : a ∉ X.fs := fun hm => by
      obtain ⟨e, he, q⟩ := List.mem_filterMap.mp hm
      exact nfr (List.mem_filterMap.mpr ⟨e, List.mem_cons_of_mem _ he, q⟩)
    have S3 := J3.suite he3 hd3 na nL nF
    have go : ∀ {hds' : List ExceptHandler} {l' : List (Value × Nat × (Addr → Value → Option Addr → TS))}, HdsAs X hds' l' → wManyAs X.K Wout D l' cls d σ' H' →
        wpAny (model X.prog X.w) X.A (handleBy (.ref a) X.env hds') (SP X pins D) X.xe { s' with heap := h3 } := by
      intro hds' l' hk
      induction hk with
      | nil =>
        intro w
        refine wpAny_handleBy_nil ?_
        obtain ⟨k1, k2, k3, oe, vs, T, oT, ts', he, hz, hd, h1, hr⟩ := id fl3
        unfold PySem.passOn
        refine wpAny_bind (wpAny_field he hd h1 ?_)
        rw [if_neg (show ¬ ((Value.ref T == Value.none) = true) from by simp)]
        have fin : wpAny (model X.prog X.w) X.A (setFlight (.ref a) X.env.frame) (fun _ s4 => wpAny (model X.prog X.w) X.A (throw (.ref a) : Sem Flow) (SP X pins D) X.xe s4) X.xe { s' with heap := h3 } := by
          rw [hf]
          refine HandSPX.setFlight_upZ fl3 fun h4 hh4 up4 => wpAny_throw (tk _ _ ?_)
          exact ⟨a, B, sI, pins, σ', H', cls, d, rfl, J, nb, (up.trans up3).trans up4, .inr (.inr (by rw [hs]; exact hh4)), na, os, ag, w⟩
        first
          | exact wpAny_bind (wpAny_pure (wpAny_bind fin))
          | exact wpAny_bind fin
      | @cons x n c i ts b₀ suite np pos' hds2 l2 hi hln hc hsu r ih =>
        intro w
        have hloc : Loc X.env.scope n := .inl hln
        obtain ⟨b, hb1, hyes, hno⟩ := w
        refine wpAny_handleBy_cons (codeAny_handlers_test ?_) (by intro q; cases q)
        have LT : PySem.W.Looks (model X.prog X.w) h3 (typeOf (.ref a)) cls := fun A Q E s k q => wpAny_typeOf_ref (k _ _ he3) (by rw [hz3.1]; exact q)
        have LM := PySem.W.exm_one (M := model X.prog X.w) (J3.kIn) LT hb1
        have test : ∀ {Q : Value → Shared → Prop} {E : Value → Shared → Prop}, Q c { s' with heap := h3 } → wpAny (model X.prog X.w) (X.A.mark (some (.ref a))) (eval (.Name x np) X.env) Q E { s' with heap := h3 } := fun {Q E} q => by
          obtain ⟨hg, hdbg, hm | ⟨hm, hv, hnn⟩⟩ := hc
          · exact ld_glob (X := X.suite a ((a, oe3) :: (X.pn ++ pins))) S3 hg hm q hdbg
          · exact ld_blt (X := X.suite a ((a, oe3) :: (X.pn ++ pins))) S3 hg hm hv q hnn hdbg
        refine test (LM.here ?_)
        cases b with
        | true =>
          refine codeAny_handlers_suite_as ?_
          refine HandSPX.lands_againZ fl3 fun h4 fl4 up4 => ?_
          have J4 : Inv X pins σ' H' { s' with heap := h4 } := J.landed nb fl4.1 ((up.trans up3).trans up4) os ag
          obtain ⟨oe4, vs4, he4, hz4, hd4⟩ := fl4.there
          have S4 := J4.suite he4 hd4 na nL nF
          refine store_ok (X := X.suite a ((a, oe4) :: (X.pn ++ pins))) (v := .ref a) S4 hN hi hloc rfl (fun s5 S5 => ?_) (.inr hln)
          refine wpAny_mono ((hsu a oe4 cls d (X.pn ++ pins) hz4 ⟨_, hd4⟩).run [] s5 _ H' _ S5 (hyes rfl a na)) (fun f s6 hsp => ?_) (fun _ _ z => False.elim z)
          have end_ : ∀ {σ6 : L2.St} {H6 : Hp} {Q : Shared → Prop}, Inv (X.suite a ((a, oe4) :: (X.pn ++ pins))) [] σ6 H6 s6 → (∀ s7, Inv X pins (σ6.set i none) H6 s7 → Q s7) →
              wpAny (model X.prog X.w) X.A (do bindName X.env n .none; unbindBehindTheSuite X.env n pos') (fun _ s7 => Q s7) X.xe s6 := fun {σ6 H6 Q} S6 hq => gone_ok (S6.unsuite ok) hN hi hln hq
          cases f with
          | next =>
            obtain ⟨σ6, H6, S6, q6⟩ := hsp
            exact end_ S6 fun s7 J7 => ⟨_, _, J7, q6⟩
          | brk =>
            obtain ⟨σ6, H6, S6, q6⟩ := hsp
            exact end_ S6 fun s7 J7 => ⟨_, _, J7, q6⟩
          | cont =>
            obtain ⟨σ6, H6, S6, q6⟩ := hsp
            exact end_ S6 fun s7 J7 => ⟨_, _, J7, q6⟩
          | ret u =>
            obtain ⟨v6, σ6, H6, S6, r6, q6⟩ := hsp
            exact end_ S6 fun s7 J7 => ⟨_, _, _, J7, r6, q6⟩
        | false =>
          show wpAny _ X.A (handleBy (.ref a) X.env hds2) _ _ _
          exact ih (hno rfl)
    exact go hh w
  · cases f with
    | next =>
      obtain ⟨σ', H', J', q⟩ := hsp
      exact wpAny_execs_nil ⟨σ', H', J'.ofTry ok, q⟩
    | brk =>
      obtain ⟨σ', H', J', q⟩ := hsp
      exact ⟨σ', H', J'.ofTry ok, q⟩
    | cont =>
      obtain ⟨σ', H', J', q⟩ := hsp
      exact ⟨σ', H', J'.ofTry ok, q⟩
    | ret u =>
      obtain ⟨v, σ', H', J', r, q⟩ := hsp
      exact ⟨v, σ', H', J'.ofTry ok, r, q⟩
end
/-! ## a def that is handed in, called by the name of the parameter -/
structure HeldX (P : Program) (w : World) (K : PySem.W.Frag) (mg : Str → Option Value) (base : Heap) (k : Nat) (f : Addr) (sp : Sp) : Prop where
  ex : ∃ (CX : CXT) (fd : FuncData) (ps : List Str), FnOk P w K mg base CX k f fd ps sp ∧ PySem.W.keepIn K (.ref f) = true ∧ Binds K fd ps [] ∧ ∀ st H s e s', ¬ CX st H s (fun _ _ _ => False) e s'
def noE : XK := fun _ _ _ => False
theorem cx_no {P : Program} {w : World} {st : List Env} {H : Hp} {s : Shared} {e : Value} {s' : Shared} : ¬ L2.CX P w st H s (fun _ _ _ => False) e s' := fun ⟨_, _, _, _, _, _, _, _, _, _, _, _, z⟩ => z
theorem cx0_no {st : List Env} {H : Hp} {s : Shared} {e : Value} {s' : Shared} : ¬ C8.CX0 st H s (fun _ _ _ => False) e s' := fun z => z
section
variable {X : Cx} {k j i : Nat} {f : Addr} {sp : Sp} {x : Str} {p pos : Pos} {e : Expr} {es : List Expr} {t : TA}
theorem pe_held (c : HeldX X.prog X.w X.K X.mg X.base k f sp) (hr : Room j X.A) (hk : k ≤ j) (hN : X.N[i]? = some x) (hv : Vis X.env.scope x) (ha : PA X (e :: es) t)
    (hdb : (x == ("__debug__" : Str)) = false := by decide) (hcd : (x == ("__classdict__" : Str)) = false := by decide)
    (he : starEach (e :: es) X.env = (false, eval e X.env) :: starEach es X.env := by rfl) (hpl : (backTo pos (starEach es X.env)).any (·.1) = false := by rfl) : PE X (.Call (.Name x p) (e :: es) [] pos) (tCallL i f sp [] noE t) := by
  obtain ⟨CX, fd, ps, F, kp, b, no⟩ := c.ex
  exact pe_callL F (hr.mono hk) hN hv kp b .nil (fun _ _ _ _ _ _ _ z => (no _ _ _ _ _ z).elim) ha hdb hcd he hpl
end
end G
/-! ## set(l), l a list of ints (my own) -/
namespace G
open PySem PySem.Spec PySem.Calls PyProof.Rows L2
/-- a set that has just been made -/
def bare0 (w : World) : Obj := { cls := .type "set", dict := none, data := .set #[] 0 (.fresh 0 0 (!w.params.followText "set-order")) }
section
variable {P : Program} {w : World} {A : Around} {E : Value → Shared → Prop} {s : Shared}
set_option maxHeartbeats 3200000 in
theorem set_of_list {l : Addr} {its : Array Value} (ns : List Int) {Q : Value → Shared → Prop} (calm : A.handled = none) (il : s.heap.IsList l its) (hin : IntsAre its.toList ns) (few : ns.length + 1 < scanBound)
    (q : ∀ (g : Heap) (tk c : Nat), SetR w g s.heap.objs.size (fun j => decide (j ∈ ns)) c → c ≤ ns.length → (∀ b o, s.heap.get? b = some o → g.get? b = some o) → Q (.ref s.heap.objs.size) { s with heap := g, toks := tk }) :
    wpAny (model P w) A (call (.type "set") [.ref l]) Q E s := by
  have size : its.size = ns.length := (Array.length_toList (xs := its)).symm.trans (IntsAre.length hin)
  obtain ⟨k0, ks, mro⟩ := F.called_set.mro
  have made := F.called_set.made
  have subs := F.called_set.sub
  have nt := F.called_set.notType
  have cc := F.called_set.canCreate
  have tc := F.typeCall_set_1 (.ref l)
  refine wpAny_call (codeAny_of_tree ?_)
  change wpAny _ _ (callAny (.type "set") _) _ _ _
  refine wpAny_pure ⟨Code.quiet_builtin _ (by decide +kernel), codeAny_builtin F.entry_type_call ?_⟩
  rw [Around.under_plain (weight_type_call_type "set" [.ref l] []) rfl]
  repeat (any_goals (first | assumption | wp_step))
  refine codeAny_mono (code_set_led1 (.ref l) (E := E) (Q₁ := fun v t => v = .ref s.heap.objs.size ∧ t = { s with heap := s.heap.push (bare0 w) }) ⟨rfl, rfl⟩) fun r t hr => ?_
  cases r with
  | error e => exact hr
  | ok fl =>
    cases fl with
    | next => exact hr.elim
    | brk => exact hr.elim
    | cont => exact hr.elim
    | ret obj =>
      obtain ⟨rfl, rfl⟩ := hr
      have here : (s.heap.push (bare0 w)).get? s.heap.objs.size = some (bare0 w) := Heap.get?_push_size _ rfl
      have isSet : Shared.TypeIs { s with heap := s.heap.push (bare0 w) } (.ref s.heap.objs.size) "set" := ⟨_, here, rfl⟩
      have look := F.called_set.init.lookup
      have bnd := F.called_set.init.bind (.ref s.heap.objs.size)
      repeat (any_goals (first | assumption | wp_step))
      refine codeAny_mono (codeAny_call_builtin (R := wants (fun v t => v = .none ∧ ∃ g tk c, t = { s with heap := g, toks := tk } ∧ SetR w g s.heap.objs.size (fun j => decide (j ∈ ns)) c ∧ c ≤ ns.length ∧ (∀ b o, s.heap.get? b = some o → g.get? b = some o)) E)
        F.called_set.init.plain F.entry_set_init (check_set_init_1 isSet ?_)) fun r2 t2 hr2 => ?_
      · obtain ⟨ob, hob, hcl, nl, hda⟩ := il
        obtain ⟨kc, kd, ka, ksl⟩ := ob
        simp only at hcl hda
        subst hcl
        subst hda
        have there : (s.heap.push (bare0 w)).get? l = some { cls := .type "list", dict := kd, data := .seq its nl, slots := ksl } := Heap.get?_push_of_some _ hob
        have no1 := F.sub_list_set
        have no2 := F.sub_list_frozenset
        have no3 : (Value.type "list" == Value.type "dict") = false := by decide
        have il2 : (s.heap.push (bare0 w)).IsList l its := ⟨_, there, rfl, nl, rfl⟩
        unfold Builtin.«set.__init__» noKeywords Builtin.Frozenset.updateFrom
        generalize hp : pyIter = PI
        wp_walk
        subst hp
        have old : l < s.heap.objs.size := Heap.lt_size hob
        have one : (s.heap.push (bare0 w)).objs.size = s.heap.objs.size + 1 := Heap.size_push ..
        have calm3 : A.in1.in1.in1.handled = none := by simp [calm]
        have ne : l ≠ (s.heap.push (bare0 w)).objs.size := one ▸ Nat.ne_of_lt (Nat.lt_succ_of_lt old)
        refine wpAny_pyIter_list il2 (wpAny_bind (wpAny_runValue ?_))
        refine set_update_ints ((Walks.list calm3 _ l ne its).toS) s.heap.objs.size (fun hm => ?_) ns size few (fun i v hv => ?_) its.size 0 _ rfl (Nat.zero_le _) ⟨⟨_, Heap.get?_push_size _ rfl, rfl, rfl⟩, il2.push _⟩ ⟨0, Nat.le_refl 0, setR_new_at (Heap.get?_push_of_some _ here)⟩ fun t c mv hc sr => ?_
        · rcases List.mem_cons.mp hm with e | e
          · exact Nat.ne_of_lt (Nat.lt_succ_self _) (e.trans one)
          · exact Nat.ne_of_gt old (List.mem_singleton.mp e)
        · have hi : i < ns.length := size ▸ (Array.getElem?_eq_some_iff.mp hv).1
          obtain ⟨tk, e⟩ := IntsAre.int_at hin i v (Array.getElem?_toList.trans hv)
          exact ⟨ns[i], tk, List.getElem?_eq_getElem hi, by rw [e, List.getD_eq_getElem?_getD, List.getElem?_eq_getElem hi]; rfl⟩
        · obtain ⟨g, gg, dd, tk, oo⟩ := t
          cases (show gg = s.gens from mv.gens)
          cases (show dd = s.drawn from mv.drawn)
          cases (show oo = s.os from mv.os)
          refine wpAny_pure (wpAny_pure ⟨rfl, g, tk, c, rfl, sr, size ▸ hc, fun b o e => ?_⟩)
          have : b < s.heap.objs.size := Heap.lt_size e
          refine mv.heap b o (fun hm => ?_) (Heap.get?_push_of_some _ (Heap.get?_push_of_some _ e))
          rcases List.mem_cons.mp hm with z | z
          · exact Nat.ne_of_lt this z
          · exact Nat.ne_of_lt (Nat.lt_succ_of_lt this) ((List.mem_singleton.mp z).trans one)
      · cases r2 with
        | error e => exact hr2
        | ok f2 =>
          cases f2 with
          | next => exact hr2.elim
          | brk => exact hr2.elim
          | cont => exact hr2.elim
          | ret v =>
            obtain ⟨rfl, g, tk, c, rfl, sr, hc, keep⟩ := hr2
            repeat (any_goals (first | assumption | wp_step))
            exact q _ _ _ sr hc keep
end
/-- set(l), l a list of ints -/
def rSetL (K : PySem.W.Frag) (w : World) : List V → Hp → VK → Prop := fun xs H Q => ∃ (p : Addr) (ns : List Int), xs = [.ref p] ∧ SqL K H p (ns.map V.int) ∧ ns.length ≤ 1000 ∧
  ∀ (n : Nat) (q : Addr), n ≤ ns.length → H q = none → Q (.ref q) (upd H q (SetO w q (fun j => decide (j ∈ ns)) n))
section
variable {X : Cx}
theorem cr_setL (hc : X.calm = true) : CallR X (.type "set") (rSetL X.K X.w) := by
  intro pins s σ H xs us Q I r h
  obtain ⟨p, ns, rfl, hq, hl, q⟩ := h
  rw [Vals.ref1 r]
  obtain ⟨its, rv, pl, _⟩ := I.list hq
  exact set_of_list ns (I.ok.hd hc) pl.isList (ints_of_vals rv) (by unfold scanBound; omega) fun g tk c R hcn k =>
    ⟨.ref _, upd H s.heap.objs.size (SetO X.w s.heap.objs.size (fun j => decide (j ∈ ns)) c), I.laid (t' := tk) k (Nat.le_refl _) (setO_new R), rfl, q c _ hcn (I.hok.fresh (Nat.le_refl _))⟩
end
end G



namespace Q80
open PySem L2 G
open C8 (Cal Met Mak pe_c pe_mk pe_mt pe_mt0 pe_gc pss_cut tCut)
def top (i : Nat) : Stmt := PySem.Challenge.pw_gatework_k80_whole_graphs_and_tables_run.main.body.getD i (.Pass ⟨0, 0, 0, 0⟩)
abbrev s__law_deck : Stmt := top 28
theorem sc__law_deck : FnScope ["script", "cells", "each", "deck", "seed", "k", "cell", "rest", "at"] ["script", "cells", "each"] (defScope s__law_deck) := ⟨rfl, rfl, rfl, by decide +kernel, rfl, by decide +kernel, by decide +kernel⟩
abbrev s__law_take : Stmt := top 29
theorem sc__law_take : FnScope ["deck", "many"] ["deck", "many"] (defScope s__law_take) := ⟨rfl, rfl, rfl, by decide +kernel, rfl, by decide +kernel, by decide +kernel⟩
abbrev s__law_plain : Stmt := top 30
theorem sc__law_plain : FnScope ["value", "item"] ["value"] (defScope s__law_plain) := ⟨rfl, rfl, rfl, by decide +kernel, rfl, by decide +kernel, by decide +kernel⟩
abbrev s_is_number : Stmt := top 5
theorem sc_is_number : FnScope ["value", "least", "bound"] ["value", "least", "bound"] (defScope s_is_number) := ⟨rfl, rfl, rfl, by decide +kernel, rfl, by decide +kernel, by decide +kernel⟩
abbrev s_are_numbers : Stmt := top 7
theorem sc_are_numbers : FnScope ["values", "bound", "one"] ["values", "bound"] (defScope s_are_numbers) := ⟨rfl, rfl, rfl, by decide +kernel, rfl, by decide +kernel, by decide +kernel⟩
abbrev s_check_graph : Stmt := top 8
theorem sc_check_graph : FnScope ["graph", "inputs", "firsts", "nexts", "pairs", "outputs", "bound", "pair"] ["graph"] (defScope s_check_graph) := ⟨rfl, rfl, rfl, by decide +kernel, rfl, by decide +kernel, by decide +kernel⟩
abbrev s_walked : Stmt := top 9
theorem sc_walked : FnScope ["pairs", "values", "every", "one", "two", "first"] ["pairs", "values", "every"] (defScope s_walked) := ⟨rfl, rfl, rfl, by decide +kernel, rfl, by decide +kernel, by decide +kernel⟩
abbrev s_taken : Stmt := top 10
theorem sc_taken : FnScope ["values", "edges", "every", "edge"] ["values", "edges", "every"] (defScope s_taken) := ⟨rfl, rfl, rfl, by decide +kernel, rfl, by decide +kernel, by decide +kernel⟩
abbrev s_clock_fits : Stmt := top 11
theorem sc_clock_fits : FnScope ["level", "lanes", "flops", "inputs"] ["level", "lanes", "flops", "inputs"] (defScope s_clock_fits) := ⟨rfl, rfl, rfl, by decide +kernel, rfl, by decide +kernel, by decide +kernel⟩
abbrev s_graph_clock : Stmt := top 12
theorem sc_graph_clock : FnScope ["graph", "every", "flops", "inputs", "values"] ["graph", "every", "flops", "inputs"] (defScope s_graph_clock) := ⟨rfl, rfl, rfl, by decide +kernel, rfl, by decide +kernel, by decide +kernel⟩
abbrev s_step_graph : Stmt := top 13
theorem sc_step_graph : FnScope ["graph", "lanes", "flops", "inputs"] ["graph", "lanes", "flops", "inputs"] (defScope s_step_graph) := ⟨rfl, rfl, rfl, by decide +kernel, rfl, by decide +kernel, by decide +kernel⟩
abbrev s_run_graph : Stmt := top 14
theorem sc_run_graph : FnScope ["graph", "lanes", "clocks", "every", "flops", "found", "inputs", "outputs", "first"] ["graph", "lanes", "clocks"] (defScope s_run_graph) := ⟨rfl, rfl, rfl, by decide +kernel, rfl, by decide +kernel, by decide +kernel⟩
abbrev s_hangs_on : Stmt := top 18
theorem sc_hangs_on : FnScope ["byte", "at", "shift"] ["byte", "at"] (defScope s_hangs_on) := ⟨rfl, rfl, rfl, by decide +kernel, rfl, by decide +kernel, by decide +kernel⟩
abbrev s_is_row : Stmt := top 20
theorem sc_is_row : FnScope ["row", "bound", "used", "point", "at"] ["row", "bound"] (defScope s_is_row) := ⟨rfl, rfl, rfl, by decide +kernel, rfl, by decide +kernel, by decide +kernel⟩
abbrev s_check_tables : Stmt := top 21
theorem sc_check_tables : FnScope ["tables", "inputs", "firsts", "nexts", "rows", "outputs", "bound", "row"] ["tables"] (defScope s_check_tables) := ⟨rfl, rfl, rfl, by decide +kernel, rfl, by decide +kernel, by decide +kernel⟩
abbrev s_looked : Stmt := top 22
theorem sc_looked : FnScope ["row", "values", "every", "found", "case", "here", "at", "value"] ["row", "values", "every"] (defScope s_looked) := ⟨rfl, rfl, rfl, by decide +kernel, rfl, by decide +kernel, by decide +kernel⟩
abbrev s_tables_clock : Stmt := top 23
theorem sc_tables_clock : FnScope ["tables", "every", "flops", "inputs", "values", "row", "point"] ["tables", "every", "flops", "inputs"] (defScope s_tables_clock) := ⟨rfl, rfl, rfl, by decide +kernel, rfl, by decide +kernel, by decide +kernel⟩
abbrev s_step_tables : Stmt := top 24
theorem sc_step_tables : FnScope ["tables", "lanes", "flops", "inputs"] ["tables", "lanes", "flops", "inputs"] (defScope s_step_tables) := ⟨rfl, rfl, rfl, by decide +kernel, rfl, by decide +kernel, by decide +kernel⟩
abbrev s_run_tables : Stmt := top 25
theorem sc_run_tables : FnScope ["tables", "lanes", "clocks", "every", "flops", "found", "inputs", "outputs", "first"] ["tables", "lanes", "clocks"] (defScope s_run_tables) := ⟨rfl, rfl, rfl, by decide +kernel, rfl, by decide +kernel, by decide +kernel⟩
abbrev s_depth_of : Stmt := top 26
theorem sc_depth_of : FnScope ["tables", "depths", "row", "point"] ["tables"] (defScope s_depth_of) := ⟨rfl, rfl, rfl, by decide +kernel, rfl, by decide +kernel, by decide +kernel⟩
abbrev s__law_edge : Stmt := top 31
theorem sc__law_edge : FnScope ["values", "edge", "every"] ["values", "edge", "every"] (defScope s__law_edge) := ⟨rfl, rfl, rfl, by decide +kernel, rfl, by decide +kernel, by decide +kernel⟩
abbrev s__law_graph_values : Stmt := top 32
theorem sc__law_graph_values : FnScope ["graph", "flops", "inputs", "every", "values", "one", "two"] ["graph", "flops", "inputs", "every"] (defScope s__law_graph_values) := ⟨rfl, rfl, rfl, by decide +kernel, rfl, by decide +kernel, by decide +kernel⟩
abbrev s__law_graph_step : Stmt := top 33
theorem sc__law_graph_step : FnScope ["graph", "flops", "inputs", "every", "values", "found", "row", "edge"] ["graph", "flops", "inputs", "every"] (defScope s__law_graph_step) := ⟨rfl, rfl, rfl, by decide +kernel, rfl, by decide +kernel, by decide +kernel⟩
abbrev s__law_row : Stmt := top 34
theorem sc__law_row : FnScope ["row", "values", "every", "found", "case", "here", "at", "value"] ["row", "values", "every"] (defScope s__law_row) := ⟨rfl, rfl, rfl, by decide +kernel, rfl, by decide +kernel, by decide +kernel⟩
abbrev s__law_table_step : Stmt := top 35
theorem sc__law_table_step : FnScope ["tables", "flops", "inputs", "every", "values", "row", "point"] ["tables", "flops", "inputs", "every"] (defScope s__law_table_step) := ⟨rfl, rfl, rfl, by decide +kernel, rfl, by decide +kernel, by decide +kernel⟩
abbrev s__law_lanes : Stmt := top 36
theorem sc__law_lanes : FnScope ["deck", "many", "every", "turn"] ["deck", "many", "every"] (defScope s__law_lanes) := ⟨rfl, rfl, rfl, by decide +kernel, rfl, by decide +kernel, by decide +kernel⟩
abbrev s__law_graph : Stmt := top 37
theorem sc__law_graph : FnScope ["deck", "inputs", "firsts", "edges", "pairs", "turn", "row", "nexts"] ["deck"] (defScope s__law_graph) := ⟨rfl, rfl, rfl, by decide +kernel, rfl, by decide +kernel, by decide +kernel⟩
abbrev s__law_spread : Stmt := top 38
theorem sc__law_spread : FnScope ["deck", "many", "base", "turn", "case"] ["deck", "many"] (defScope s__law_spread) := ⟨rfl, rfl, rfl, by decide +kernel, rfl, by decide +kernel, by decide +kernel⟩
abbrev s__law_tables : Stmt := top 39
theorem sc__law_tables : FnScope ["deck", "inputs", "firsts", "points", "rows", "turn", "used", "nexts", "part"] ["deck"] (defScope s__law_tables) := ⟨rfl, rfl, rfl, by decide +kernel, rfl, by decide +kernel, by decide +kernel⟩
abbrev s__law_depth : Stmt := top 40
theorem sc__law_depth : FnScope ["tables", "found", "row", "point"] ["tables"] (defScope s__law_depth) := ⟨rfl, rfl, rfl, by decide +kernel, rfl, by decide +kernel, by decide +kernel⟩
abbrev s__law_run_right : Stmt := top 41
theorem sc__law_run_right : FnScope ["deck", "level", "run", "step", "walk", "lanes", "every", "flops", "inputs", "due", "clocks", "found", "outputs", "turn", "first"] ["deck", "level", "run", "step", "walk"] (defScope s__law_run_right) := ⟨rfl, rfl, rfl, by decide +kernel, rfl, by decide +kernel, by decide +kernel⟩
abbrev s__law_refusal : Stmt := top 42
theorem sc__law_refusal : FnScope ["ask", "level", "lanes", "flops", "inputs", "error"] ["ask", "level", "lanes", "flops", "inputs"] (defScope s__law_refusal) := ⟨rfl, rfl, rfl, by decide +kernel, rfl, by decide +kernel, by decide +kernel⟩
abbrev s__law_refused : Stmt := top 43
theorem sc__law_refused : FnScope ["deck", "graph", "tables", "rows", "ask", "level", "lanes", "flops", "inputs"] ["deck"] (defScope s__law_refused) := ⟨rfl, rfl, rfl, by decide +kernel, rfl, by decide +kernel, by decide +kernel⟩
abbrev s_law : Stmt := top 44
theorem sc_law : FnScope ["script", "deck", "turn", "graph", "tables"] ["script"] (defScope s_law) := ⟨rfl, rfl, rfl, by decide +kernel, rfl, by decide +kernel, by decide +kernel⟩
abbrev s_InvalidGraph___init__ : Stmt := inClass (top 2) 0
abbrev s_InvalidTables___init__ : Stmt := inClass (top 3) 0
theorem boot_abs' : bootBuiltins "abs" = some (.builtin "abs") := by decide +kernel
theorem boot_bool' : bootBuiltins "bool" = some (.type "bool") := by decide +kernel
theorem boot_int' : bootBuiltins "int" = some (.type "int") := by decide +kernel
theorem boot_isinstance' : bootBuiltins "isinstance" = some (.builtin "isinstance") := by decide +kernel
theorem boot_len' : bootBuiltins "len" = some (.builtin "len") := by decide +kernel
theorem boot_list' : bootBuiltins "list" = some (.type "list") := by decide +kernel
theorem boot_max' : bootBuiltins "max" = some (.builtin "max") := by decide +kernel
theorem boot_range' : bootBuiltins "range" = some (.type "range") := by decide +kernel
theorem boot_set' : bootBuiltins "set" = some (.type "set") := by decide +kernel
theorem boot_sorted' : bootBuiltins "sorted" = some (.builtin "sorted") := by decide +kernel
theorem boot_str' : bootBuiltins "str" = some (.type "str") := by decide +kernel
theorem boot_sum' : bootBuiltins "sum" = some (.builtin "sum") := by decide +kernel
theorem boot_tuple' : bootBuiltins "tuple" = some (.type "tuple") := by decide +kernel
/-- what the top has left: the built-in names are the built-in ones -/
structure Txt (K : PySem.W.Frag) (mg : Str → Option Value) : Prop where
  b_abs : mg "abs" = none
  b_bool : mg "bool" = none
  b_int : mg "int" = none
  b_isinstance : mg "isinstance" = none
  b_len : mg "len" = none
  b_list : mg "list" = none
  b_max : mg "max" = none
  b_range : mg "range" = none
  b_set : mg "set" = none
  b_sorted : mg "sorted" = none
  b_str : mg "str" = none
  b_sum : mg "sum" = none
  b_tuple : mg "tuple" = none
  c_CASES : ∃ v : V, (∃ u, mg "CASES" = some u ∧ RelV v u) ∧ ∀ H : Hp, Dp K H v (.tuple [.int 170, .int 204, .int 240])
  c_EVERY : ∃ v : V, (∃ u, mg "EVERY" = some u ∧ RelV v u) ∧ ∀ H : Hp, Dp K H v (.int 255)
theorem small1000' {n : Nat} (h : n < 100000) : n < sizeLine := Nat.lt_of_lt_of_le h (by decide)
theorem hu65_of {A : Around} {k : Nat} (hr : Room k A) : A.units + 65 < cLine := Nat.lt_of_le_of_lt (by omega) hr.un

section
variable {P : Program} {w : World} {K : PySem.W.Frag} {mg : Str → Option Value} {base : Heap}

/-! ### _law_take: some number below -/
def spTake : Sp := fun vs H Q _ => ∃ (a : Addr) (m : Int), vs = [.ref a, .int m] ∧ 0 < m ∧ Deck H a ∧ ∀ (r : Int) (H' : Hp), 0 ≤ r → r < m → But a H H' → Deck H' a → Q (.int r) H'
theorem ok_take {f : Addr} {fd : FuncData} (F : Fun K "_law_take" "_law_take" s__law_take f fd) (T : Txt K mg) : FnOk P w K mg base CX0 1 f fd ["deck", "many"] spTake := by
  refine F.ok sc__law_take (fun vs H Q E h => ?_) (fun cdv A outer s H vs Q E hr h => ?_)
  · obtain ⟨a, m, rfl, _⟩ := h
    rfl
  · obtain ⟨a, m, rfl, hm, ⟨ds, hl, hd⟩, k⟩ := h
    refine ⟨_, (pss_cons (ps_if (pt_cmpR op_eq (pe_callB call_len_seq (by rfl) T.b_len boot_len' (pa_cons (pv 0) pa_nil)) pe_int (nomark _)) (pss_one (ps_ret pe_int)) pss_nil)
      (pss_one (ps_ret (pe_op op_mod (pe_callTy call_int1 (by rfl) T.b_int boot_int' (pa_cons (pe_bm0 PySem.F.plainAttrs_list PySem.F.slot_list_pop PySem.F.type_list_pop mt_pop (pv 0)) pa_nil)) (pv 1))))), ?_⟩
    refine ⟨_, rfl, a, _, rfl, .inl (SqL.of hd), rfl, _, rfl, ?_⟩
    rw [List.length_map]
    refine ite2 (fun hc => ?_) (fun hc => ?_)
    · exact k 0 H (by decide) hm (But.refl _ _) ⟨ds, hl, hd⟩
    · have hne : ds ≠ [] := fun e => hc (by rw [e]; rfl)
      have hp : 0 < ds.length := List.length_pos_iff.mpr hne
      refine ⟨_, rfl, .inl ⟨rfl, _, SqL.of hd⟩, a, _, .int (ds.getLast hne), rfl, rfl, hd, ?_, .inl ⟨_, rfl, _, rfl, _, _, rfl, rfl, hm, ?_⟩⟩
      · rw [List.length_map, List.getElem?_map, List.getLast_eq_getElem, List.getElem?_eq_getElem (by omega)]
        rfl
      · refine k _ _ (Int.emod_nonneg _ (by omega)) (Int.emod_lt_of_pos _ hm) but_upd ⟨ds.dropLast, by rw [List.length_dropLast]; omega, ?_⟩
        rw [upd_same, List.map_dropLast]

/-! ### _law_deck: some ints -/
def spDeck (K : PySem.W.Frag) : Sp := fun vs H Q _ => ∃ (a : Addr) (ns : List Int) (c e : Nat), vs = [.ref a, .int c, .int e] ∧ SqL K H a (ns.map V.int) ∧ ns.length ≤ 1000 ∧ c * e ≤ 2000 ∧ c ≤ 1000 ∧ e ≤ 1000 ∧ ∀ (p : Addr) (H' : Hp), H p = none → Same H H' → Deck H' p → Q (.ref p) H'
theorem ok_deck {f : Addr} {fd : FuncData} (F : Fun K "_law_deck" "_law_deck" s__law_deck f fd) (T : Txt K mg) : FnOk P w K mg base CX0 1 f fd ["script", "cells", "each"] (spDeck K) := by
  refine F.ok sc__law_deck (fun vs H Q E h => ?_) (fun cdv A outer s H vs Q E hr h => ?_)
  · obtain ⟨a, ns, c, e, rfl, _⟩ := h
    rfl
  · obtain ⟨a, ns, c, e, rfl, hS, hn, hce, hc, he, k⟩ := h
    refine ⟨_, (pss_cons (ps_set (i := 3) sc__law_deck.nd rfl (Or.inl rfl) (pe_lst pa_nil))
      (pss_cons (ps_set (i := 4) sc__law_deck.nd rfl (Or.inl rfl) (pe_op op_add pe_int (pe_callB call_len_seq (by rfl) T.b_len boot_len' (pa_cons (pv 0) pa_nil))))
      (pss_cons (ps_for PassesOwn.never rfl (pi_range1 (by rfl) T.b_range (pa_cons (pv 1) pa_nil)) (pg_name (i := 5) sc__law_deck.nd rfl (Or.inl rfl)) (pss_cons (ps_set (i := 6) sc__law_deck.nd rfl (Or.inl rfl) pe_int)
      (pss_cut (ps_if (pt_cmpR op_lt (pv 5) (pe_callB call_len_seq (by rfl) T.b_len boot_len' (pa_cons (pv 0) pa_nil)) (nomark _)) (pss_one (ps_set (i := 6) sc__law_deck.nd rfl (Or.inl rfl) (pe_ix ix_list (pv 0) (pv 5) (fun _ _ => rfl)))) pss_nil)
      (pss_cons (ps_set (i := 7) sc__law_deck.nd rfl (Or.inl rfl) (pe_callB call_abs (by rfl) T.b_abs boot_abs' (pa_cons (pv 6) pa_nil)))
      (pss_one (ps_if (pt_cmpR op_ge (pv 7) (pe_op op_pow pe_int pe_int) (nomark _)) (pss_one (ps_for PassesOwn.never rfl (pi_range1 (by rfl) T.b_range (pa_cons (pv 2) pa_nil)) (pg_name (i := 8) sc__law_deck.nd rfl (Or.inl rfl)) (pss_cons (ps_expr (pe_bm PySem.F.plainAttrs_list PySem.F.slot_list_append PySem.F.type_list_append mt_append (pv 3) (pa_cons (pe_op op_mod (pe_callTy call_int1 (by rfl) T.b_int boot_int' (pa_cons (pv 7) pa_nil)) pe_int) pa_nil)))
      (pss_one (ps_set (i := 7) sc__law_deck.nd rfl (Or.inl rfl) (pe_op op_fdiv (pv 7) pe_int)))))) (pss_cons (ps_set (i := 4) sc__law_deck.nd rfl (Or.inl rfl) (pe_op op_mod (pe_callTy call_int1 (by rfl) T.b_int boot_int' (pa_cons (pe_op op_add (pe_op op_add (pe_op op_add (pe_op op_mul (pv 4) pe_int) (pe_op op_mul pe_int (pv 7))) (pe_callTy call_int1 (by rfl) T.b_int boot_int' (pa_cons (pe_cmpR op_lt (pv 6) pe_int (nomark _)) pa_nil))) (pv 5)) pa_nil)) pe_int))
      (pss_one (ps_for PassesOwn.never rfl (pi_range1 (by rfl) T.b_range (pa_cons (pv 2) pa_nil)) (pg_name (i := 8) sc__law_deck.nd rfl (Or.inl rfl)) (pss_cons (ps_set (i := 4) sc__law_deck.nd rfl (Or.inl rfl) (pe_op op_mod (pe_callTy call_int1 (by rfl) T.b_int boot_int' (pa_cons (pe_op op_add (pe_op op_add (pe_op op_mul (pv 4) pe_int) (pv 8)) pe_int) pa_nil)) pe_int))
      (pss_one (ps_expr (pe_bm PySem.F.plainAttrs_list PySem.F.slot_list_append PySem.F.type_list_append mt_append (pv 3) (pa_cons (pe_op op_mod (pe_callTy call_int1 (by rfl) T.b_int boot_int' (pa_cons (pe_op op_fdiv (pv 4) pe_int) pa_nil)) pe_int) pa_nil))))))))))))))
      (pss_cons (ps_expr (pe_bm0 PySem.F.plainAttrs_list PySem.F.slot_list_reverse PySem.F.type_list_reverse mt_reverse (pv 3)))
      (pss_one (ps_ret (pv 3))))))), ?_⟩
    refine ⟨Nat.zero_le _, fun p hp => ?_⟩
    have hap : a ≠ p → True := fun _ => trivial
    refine ⟨_, rfl, a, _, rfl, .inl ((same_new hp).seq hS), _, _, rfl, rfl, ?_⟩
    rw [List.length_map]
    refine ⟨_, rfl, _, rfl, by omega, by omega, for_range (lo := 0) (n := (c : Int).toNat) (fun i σ H' => ∃ (ds : List Int) (sd : Int) (o1 o2 o3 o4 : Option V),
      σ = [some (.ref a), some (.int c), some (.int e), some (.ref p), some (.int sd), o1, o2, o3, o4] ∧ Same H H' ∧ H' p = some (.lst (ds.map V.int)) ∧ ds.length ≤ i * e ∧ 0 ≤ sd ∧ sd < 2147483647)
      ⟨[], _, none, none, none, none, rfl, same_new hp, upd_same, Nat.zero_le _, by omega, by omega⟩ ?_ ?_⟩
    · rintro i σ H1 hi ⟨ds, sd, o1, o2, o3, o4, rfl, e1, h1, hl, s0, s1⟩
      have hie : (i + 1) * e ≤ 2000 := Nat.le_trans (Nat.mul_le_mul_right e (by omega)) hce
      have hie2 : (i + 1) * e = i * e + e := Nat.succ_mul i e
      -- cell = 0 ; if k < len(script): cell = script[k]
      refine ⟨fun σ' H' => ∃ cl : Int, σ' = [some (.ref a), some (.int c), some (.int e), some (.ref p), some (.int sd), some (.int (0 + (i : Int))), some (.int cl), o3, o4] ∧ H' = H1, ?_, ?_⟩
      · refine ⟨_, rfl, _, rfl, a, _, rfl, .inl (e1.seq hS), _, _, rfl, rfl, _, rfl, ?_⟩
        rw [List.length_map]
        refine ite2 (fun hk => ?_) (fun hk => ⟨0, rfl, rfl⟩)
        have hk' : i < ns.length := by
          have := of_decide_eq_true hk
          omega
        refine ⟨_, rfl, _, rfl, a, _, _, .int ns[i], rfl, rfl, e1.seq hS, ?_, ⟨_, rfl, rfl⟩⟩
        rw [Int.zero_add]
        refine atI_nat ?_
        rw [List.getElem?_map, List.getElem?_eq_getElem hk']
        rfl
      · rintro σ' H' ⟨cl, rfl, rfl⟩
        -- rest = abs(cell)
        refine ⟨_, rfl, _, rfl, ?_⟩
        -- if rest >= 10 ** 30
        refine ⟨_, rfl, _, _, rfl, rfl, ⟨by decide, by decide, by decide⟩, _, _, rfl, rfl, _, rfl, ?_⟩
        have hrest : 0 ≤ (if cl < 0 then -cl else cl) := by split <;> omega
        generalize (if cl < 0 then -cl else cl) = rest at hrest
        refine ite2 (fun hb => ?_) (fun hb => ?_)
        · refine ⟨_, rfl, _, rfl, by omega, by omega, for_range (lo := 0) (n := (e : Int).toNat) (fun j σ H2 => ∃ (es : List Int) (rs : Int) (o : Option V),
            σ = [some (.ref a), some (.int c), some (.int e), some (.ref p), some (.int sd), some (.int (0 + (i : Int))), some (.int cl), some (.int rs), o] ∧ Same H H2 ∧ H2 p = some (.lst (es.map V.int)) ∧ es.length ≤ i * e + j)
            ⟨ds, rest, o4, rfl, e1, h1, hl⟩ ?_ ?_⟩
          · rintro j σ H2 hj ⟨es, rs, o, rfl, e2, h2, hl2⟩
            refine ⟨_, rfl, .inl ⟨rfl, _, SqL.of h2⟩, _, rfl, .inl ⟨_, rfl, _, _, rfl, rfl, (by decide : (0 : Int) < 1000003), ?_⟩⟩
            refine ⟨_, _, _, rfl, rfl, h2, small1000' (by rw [List.length_map]; omega), ?_⟩
            refine ⟨_, rfl, _, _, rfl, rfl, ⟨by decide, by decide⟩, ?_⟩
            refine ⟨es ++ [_], _, _, rfl, same_mut e2 hp, by rw [upd_same, List.map_append]; rfl, by rw [List.length_append, List.length_singleton]; omega⟩
          · rintro σ H2 ⟨es, rs, o, rfl, e2, h2, hl2⟩
            exact ⟨es, sd, _, _, _, _, rfl, e2, h2, by omega, s0, s1⟩
        · have hb2 : rest < 10 ^ 30 := by
            have := hb
            simp only [decide_eq_true_eq] at this
            have h3 : ((10 : Int) ^ (30 : Int).toNat) = 10 ^ 30 := by decide
            omega
          refine ⟨_, rfl, _, _, rfl, rfl, .inl ⟨by omega, by omega⟩, _, rfl, _, _, rfl, rfl, .inl ⟨by decide, by decide⟩, _, _, rfl, rfl, ?_⟩
          refine ⟨_, rfl, _, _, rfl, rfl, .inr ⟨_, rfl, _, _, rfl, rfl, _, rfl, _, _, rfl, rfl, .inl ⟨_, rfl, _, _, rfl, rfl, (by decide : (0 : Int) < 2147483647), ?_⟩⟩⟩
          refine ⟨_, rfl, _, rfl, by omega, by omega, for_range (lo := 0) (n := (e : Int).toNat) (fun j σ H2 => ∃ (es : List Int) (se : Int) (o : Option V),
            σ = [some (.ref a), some (.int c), some (.int e), some (.ref p), some (.int se), some (.int (0 + (i : Int))), some (.int cl), some (.int rest), o] ∧ Same H H2 ∧ H2 p = some (.lst (es.map V.int)) ∧ es.length ≤ i * e + j ∧ 0 ≤ se ∧ se < 2147483647)
            ⟨ds, _, o4, rfl, e1, h1, hl, Int.emod_nonneg _ (by decide), Int.emod_lt_of_pos _ (by decide)⟩ ?_ ?_⟩
          · rintro j σ H2 hj ⟨es, se, o, rfl, e2, h2, hl2, u0, u1⟩
            refine ⟨_, rfl, _, _, rfl, rfl, .inl ⟨by omega, by omega⟩, _, rfl, _, _, rfl, rfl, _, _, rfl, rfl, .inl ⟨_, rfl, _, _, rfl, rfl, (by decide : (0 : Int) < 2147483629), ?_⟩⟩
            have v1 := Int.emod_lt_of_pos (se * 69621 + (0 + (j : Int)) + 1) (by decide : (0 : Int) < 2147483629)
            refine ⟨_, rfl, .inl ⟨rfl, _, SqL.of h2⟩, _, rfl, _, _, rfl, rfl, ⟨by decide, by decide⟩, .inl ⟨_, rfl, _, _, rfl, rfl, (by decide : (0 : Int) < 1000003), ?_⟩⟩
            refine ⟨_, _, _, rfl, rfl, h2, small1000' (by rw [List.length_map]; omega), ?_⟩
            exact ⟨es ++ [_], _, _, rfl, same_mut e2 hp, by rw [upd_same, List.map_append]; rfl, by rw [List.length_append, List.length_singleton]; omega, Int.emod_nonneg _ (by decide), Int.lt_trans v1 (by decide)⟩
          · rintro σ H2 ⟨es, se, o, rfl, e2, h2, hl2, u0, u1⟩
            exact ⟨es, se, _, _, _, _, rfl, e2, h2, by omega, u0, u1⟩
    · rintro σ H1 ⟨ds, sd, o1, o2, o3, o4, rfl, e1, h1, hl, s0, s1⟩
      refine ⟨_, rfl, .inl ⟨rfl, _, SqL.of h1⟩, p, _, rfl, rfl, h1, ?_⟩
      refine ⟨_, rfl, k p _ hp (same_mut e1 hp) ⟨ds.reverse, by rw [List.length_reverse]; have : (c : Int).toNat * e = c * e := rfl; omega, by rw [upd_same, List.map_reverse]⟩⟩

/-! ### _law_plain -/
mutual
def plain : PyData → PyData
  | .tuple ds => .list (.bool false :: plains ds)
  | .list ds => .list (.bool true :: plains ds)
  | .none => .str "None"
  | .bool b => .str (if b then "True" else "False")
  | .int i => .list [.bool false, .int i]
  | .str z => .list [.bool true, .str z]
  | .dict _ => .str "another"
def plains : List PyData → List PyData
  | [] => []
  | d :: r => plain d :: plains r
end
theorem plains_map : ∀ ds : List PyData, plains ds = ds.map plain
  | [] => rfl
  | d :: r => by rw [plains, plains_map r, List.map_cons]
mutual
/-- how deep, with no dict in it and no list too long -/
def tall : PyData → Nat → Prop
  | .tuple ds, n + 1 => ds.length ≤ 10000 ∧ talls ds n
  | .list ds, n + 1 => ds.length ≤ 10000 ∧ talls ds n
  | .tuple _, 0 => False
  | .list _, 0 => False
  | .dict _, _ => False
  | _, _ => True
def talls : List PyData → Nat → Prop
  | [], _ => True
  | d :: r, n => tall d n ∧ talls r n
end
theorem talls_get : ∀ {ds : List PyData} {n i : Nat} {d : PyData}, talls ds n → ds[i]? = some d → tall d n
  | [], _, i, d, _, e => by simp at e
  | _ :: _, _, 0, d, h, e => by
    simp at e
    subst e
    exact h.1
  | _ :: r, n, i + 1, d, h, e => talls_get (ds := r) h.2 (by simpa using e)
theorem talls_mem {ds : List PyData} {n : Nat} {d : PyData} (h : talls ds n) (hm : d ∈ ds) : tall d n := by
  obtain ⟨i, hi⟩ := List.mem_iff_getElem?.mp hm
  exact talls_get h hi
def spPlain (K : PySem.W.Frag) : Nat → Sp
  | 0 => fun _ _ _ _ => False
  | n + 1 => fun vs H Q _ => ∃ (v : V) (d : PyData), vs = [v] ∧ Dp K H v d ∧ tall d n ∧ ∀ (u : V) (H' : Hp), Same H H' → Dp K H' u (plain d) → Q u H'
theorem spPlain_mono {K : PySem.W.Frag} {n : Nat} {vs : List V} {H : Hp} {E : XK} (Q1 Q2 : VK) (q : ∀ v G', Q1 v G' → Q2 v G') (h : spPlain K n vs H Q1 E) : spPlain K n vs H Q2 E := by
  cases n with
  | zero => exact h
  | succ n =>
    obtain ⟨v, d, e, h1, h2, k⟩ := h
    exact ⟨v, d, e, h1, h2, fun u H' s p => q u H' (k u H' s p)⟩
theorem plain_step {K : PySem.W.Frag} {n : Nat} {G : Hp} {D : Addr} {acc : List V} {v : V} {d : PyData} {Q : VK} {E : XK} (hD : G D = none) (hd : Dp K G v d) (ht : tall d n)
    (h : ∀ (u : V) (G' : Hp), Same G G' → G' D = none → Dp K G' u (plain d) → Q u (upd G' D (.lst acc))) : fr (spPlain K (n + 1)) [v] (upd G D (.lst acc)) Q E :=
  fr_one hD ⟨v, d, rfl, hd, ht, fun u G' s p hn => h u G' s hn p⟩ fun Q1 Q2 q z => spPlain_mono Q1 Q2 q z
theorem ok_plain {f : Addr} {fd : FuncData} (F : Fun K "_law_plain" "_law_plain" s__law_plain f fd) (T : Txt K mg) (hm : mg "_law_plain" = some (.ref f)) (b : Binds K fd ["value"] []) : ∀ n : Nat, FnOk P w K mg base CX0 n f fd ["value"] (spPlain K n) := by
  intro n
  induction n with
  | zero => exact ⟨fun _ _ _ _ h => h.elim, fun _ _ _ _ _ _ _ _ _ _ _ _ _ h => h.elim⟩
  | succ n ih =>
    have c__law_plain : Cal P w K mg base n "_law_plain" (fr (spPlain K n)) [] := ⟨f, fd, _, _, fn_fr ih, hm, F.kp, b, .nil⟩
    refine F.ok sc__law_plain (fun vs H Q E h => ?_) (fun cdv A outer s H vs Q E hr h => ?_)
    · obtain ⟨v, d, rfl, _⟩ := h
      rfl
    · obtain ⟨v, d, rfl, hd, ht, k⟩ := h
      cases d with
      | tuple ds =>
        cases n with
        | zero => exact ht.elim
        | succ n =>
          obtain ⟨hl, ht⟩ := ht
          obtain ⟨a, xs, rfl, hx, hxs⟩ := dp_tup hd
          refine ⟨_, (pss_cons (ps_if (pt_val (pe_callB call_isiT (by rfl) T.b_isinstance boot_isinstance' (pa_cons (pv 0) (pa_cons (pe_tup (pa_cons (pe_bltn (v := .ty "tuple") (by rfl) T.b_tuple boot_tuple' rfl) (pa_cons (pe_bltn (v := .ty "list") (by rfl) T.b_list boot_list' rfl) pa_nil))) pa_nil)))) (pss_one (ps_ret (pe_op op_cat (pe_lst (pa_cons (pe_callB call_isi (by rfl) T.b_isinstance boot_isinstance' (pa_cons (pv 0) (pa_cons (pe_bltn (v := .ty "list") (by rfl) T.b_list boot_list' rfl) pa_nil))) pa_nil)) (pe_lc (own := [("item", 1)]) rfl sc__law_plain.nd (pi_tup (pv 0)) (blkOk_by (own := [("item", 1)]) (N := ["value", "item"]) (sc := defScope s__law_plain) (by decide +kernel)) (fun _ _ _ _ _ => (pg_name (i := 1) sc__law_plain.nd rfl (Or.inl rfl))) (fun _ _ _ _ _ => pts_nil) (fun _ _ _ _ _ => (pe_c c__law_plain hr (by omega) rfl (pa_cons (pv 1) pa_nil))))))) pss_nil)
      (pss_cons (ps_if (PW.pt (pw_or (pt_cmpR op_isN (pv 0) pe_non (nomark _)) (pw_or1 (pt_val (pe_callB call_isi (by rfl) T.b_isinstance boot_isinstance' (pa_cons (pv 0) (pa_cons (pe_bltn (v := .ty "bool") (by rfl) T.b_bool boot_bool' rfl) pa_nil))))))) (pss_one (ps_ret (pe_ix ix_list (pe_lst (pa_cons pe_str (pa_cons pe_str (pa_cons pe_str pa_nil)))) (pe_op op_add (pe_callTy call_int1 (by rfl) T.b_int boot_int' (pa_cons (pe_cmpR op_notN (pv 0) pe_non (nomark _)) pa_nil)) (pe_callTy call_int1 (by rfl) T.b_int boot_int' (pa_cons (pe_cmpR op_isX (pv 0) pe_bl (nomark _)) pa_nil))) (fun _ _ => rfl)))) pss_nil)
      (pss_cons (ps_if (pt_val (pe_callB call_isiT (by rfl) T.b_isinstance boot_isinstance' (pa_cons (pv 0) (pa_cons (pe_tup (pa_cons (pe_bltn (v := .ty "int") (by rfl) T.b_int boot_int' rfl) (pa_cons (pe_bltn (v := .ty "str") (by rfl) T.b_str boot_str' rfl) pa_nil))) pa_nil)))) (pss_one (ps_ret (pe_lst (pa_cons (pe_callB call_isi (by rfl) T.b_isinstance boot_isinstance' (pa_cons (pv 0) (pa_cons (pe_bltn (v := .ty "str") (by rfl) T.b_str boot_str' rfl) pa_nil))) (pa_cons (pv 0) pa_nil))))) pss_nil)
      (pss_one (ps_ret pe_str))))), ?_⟩
          refine ⟨_, rfl, by decide, fun p1 n1 => ?_⟩
          refine ⟨_, _, _, _, _, _, rfl, upd_same, clsv2 _ _, dp_ty (dp_same (same_new n1) hd), kitD2 K _ _ _ (by decide) (by decide), _, rfl, iteT ?_⟩
          refine ⟨_, rfl, _, _, _, _, _, rfl, .ty _, dp_ty (dp_same (same_new n1) hd), kitD K _ _ (by decide), (show 1 ≤ sizeLine by decide), fun p2 n2 => ?_⟩
          have s2 := (same_new (o := HO.tup [V.ty "tuple", V.ty "list"]) n1).trans (same_new (o := HO.lst [V.bl (isD "list" (.tuple ds))]) n2)
          refine ⟨_, rfl, a, rfl, ⟨_, Same.tup s2 hx⟩, fun D hD => lc_dataT (K := K) (a := a) (xs := xs) (ds := ds) (fun _ => true) plain (Same.tup s2 hx) (dps_same s2 hxs) hD (by omega) ?_ ?_⟩
          · intro v d G acc R dm hv sG hG ha _ hk
            refine ⟨rfl, _, rfl, ?_⟩
            refine plain_step hG hv (talls_mem ht dm) fun u G' s' hG' du => ⟨acc, upd_same, ha, ?_⟩
            rw [upd_app]
            exact hk rfl G' u s' hG' du
          · intro G ys sG hG hys
            have hF : ds.filter (fun _ => true) = ds := List.filter_eq_self.mpr fun _ _ => rfl
            rw [hF] at hys
            have hp2 : G p2 = some (.lst [V.bl (isD "list" (.tuple ds))]) := sG _ _ upd_same
            refine ⟨p2, D, _, _, rfl, rfl, by rw [upd_ne (ne_of_none hp2 hG)]; exact hp2, upd_same, ?_, fun p n3 => ?_⟩
            · show 1 + ys.length ≤ sizeLine
              have q := dps_len hys
              rw [List.length_map] at q
              exact Nat.le_of_lt (small1000' (by omega))
            · have s4 : Same G (upd (upd G D (.lst ys)) p (.lst ([V.bl (isD "list" (.tuple ds))] ++ ys))) := (same_new hG).trans (same_new n3)
              refine k _ _ (s2.trans (sG.trans s4)) (.lst (SqL.of upd_same) (.cons ?_ ?_))
              · exact .bl _
              · rw [plains_map]
                exact dps_same s4 hys
      | list ds =>
        cases n with
        | zero => exact ht.elim
        | succ n =>
          obtain ⟨hl, ht⟩ := ht
          obtain ⟨a, xs, rfl, hx, hxs⟩ := dp_lst hd
          refine ⟨_, (pss_cons (ps_if (pt_val (pe_callB call_isiT (by rfl) T.b_isinstance boot_isinstance' (pa_cons (pv 0) (pa_cons (pe_tup (pa_cons (pe_bltn (v := .ty "tuple") (by rfl) T.b_tuple boot_tuple' rfl) (pa_cons (pe_bltn (v := .ty "list") (by rfl) T.b_list boot_list' rfl) pa_nil))) pa_nil)))) (pss_one (ps_ret (pe_op op_cat (pe_lst (pa_cons (pe_callB call_isi (by rfl) T.b_isinstance boot_isinstance' (pa_cons (pv 0) (pa_cons (pe_bltn (v := .ty "list") (by rfl) T.b_list boot_list' rfl) pa_nil))) pa_nil)) (pe_lc (own := [("item", 1)]) rfl sc__law_plain.nd (pi_list (pv 0)) (blkOk_by (own := [("item", 1)]) (N := ["value", "item"]) (sc := defScope s__law_plain) (by decide +kernel)) (fun _ _ _ _ _ => (pg_name (i := 1) sc__law_plain.nd rfl (Or.inl rfl))) (fun _ _ _ _ _ => pts_nil) (fun _ _ _ _ _ => (pe_c c__law_plain hr (by omega) rfl (pa_cons (pv 1) pa_nil))))))) pss_nil)
      (pss_cons (ps_if (PW.pt (pw_or (pt_cmpR op_isN (pv 0) pe_non (nomark _)) (pw_or1 (pt_val (pe_callB call_isi (by rfl) T.b_isinstance boot_isinstance' (pa_cons (pv 0) (pa_cons (pe_bltn (v := .ty "bool") (by rfl) T.b_bool boot_bool' rfl) pa_nil))))))) (pss_one (ps_ret (pe_ix ix_list (pe_lst (pa_cons pe_str (pa_cons pe_str (pa_cons pe_str pa_nil)))) (pe_op op_add (pe_callTy call_int1 (by rfl) T.b_int boot_int' (pa_cons (pe_cmpR op_notN (pv 0) pe_non (nomark _)) pa_nil)) (pe_callTy call_int1 (by rfl) T.b_int boot_int' (pa_cons (pe_cmpR op_isX (pv 0) pe_bl (nomark _)) pa_nil))) (fun _ _ => rfl)))) pss_nil)
      (pss_cons (ps_if (pt_val (pe_callB call_isiT (by rfl) T.b_isinstance boot_isinstance' (pa_cons (pv 0) (pa_cons (pe_tup (pa_cons (pe_bltn (v := .ty "int") (by rfl) T.b_int boot_int' rfl) (pa_cons (pe_bltn (v := .ty "str") (by rfl) T.b_str boot_str' rfl) pa_nil))) pa_nil)))) (pss_one (ps_ret (pe_lst (pa_cons (pe_callB call_isi (by rfl) T.b_isinstance boot_isinstance' (pa_cons (pv 0) (pa_cons (pe_bltn (v := .ty "str") (by rfl) T.b_str boot_str' rfl) pa_nil))) (pa_cons (pv 0) pa_nil))))) pss_nil)
      (pss_one (ps_ret pe_str))))), ?_⟩
          refine ⟨_, rfl, by decide, fun p1 n1 => ?_⟩
          refine ⟨_, _, _, _, _, _, rfl, upd_same, clsv2 _ _, dp_ty (dp_same (same_new n1) hd), kitD2 K _ _ _ (by decide) (by decide), _, rfl, iteT ?_⟩
          refine ⟨_, rfl, _, _, _, _, _, rfl, .ty _, dp_ty (dp_same (same_new n1) hd), kitD K _ _ (by decide), (show 1 ≤ sizeLine by decide), fun p2 n2 => ?_⟩
          have s2 := (same_new (o := HO.tup [V.ty "tuple", V.ty "list"]) n1).trans (same_new (o := HO.lst [V.bl (isD "list" (.list ds))]) n2)
          refine ⟨_, rfl, a, rfl, ⟨_, s2.seq hx⟩, fun D hD => lc_data (K := K) (a := a) (xs := xs) (ds := ds) (fun _ => true) plain (s2.seq hx) (dps_same s2 hxs) hD (by omega) ?_ ?_⟩
          · intro v d G acc R dm hv sG hG ha _ hk
            refine ⟨rfl, _, rfl, ?_⟩
            refine plain_step hG hv (talls_mem ht dm) fun u G' s' hG' du => ⟨acc, upd_same, ha, ?_⟩
            rw [upd_app]
            exact hk rfl G' u s' hG' du
          · intro G ys sG hG hys
            have hF : ds.filter (fun _ => true) = ds := List.filter_eq_self.mpr fun _ _ => rfl
            rw [hF] at hys
            have hp2 : G p2 = some (.lst [V.bl (isD "list" (.list ds))]) := sG _ _ upd_same
            refine ⟨p2, D, _, _, rfl, rfl, by rw [upd_ne (ne_of_none hp2 hG)]; exact hp2, upd_same, ?_, fun p n3 => ?_⟩
            · show 1 + ys.length ≤ sizeLine
              have q := dps_len hys
              rw [List.length_map] at q
              exact Nat.le_of_lt (small1000' (by omega))
            · have s4 : Same G (upd (upd G D (.lst ys)) p (.lst ([V.bl (isD "list" (.list ds))] ++ ys))) := (same_new hG).trans (same_new n3)
              refine k _ _ (s2.trans (sG.trans s4)) (.lst (SqL.of upd_same) (.cons ?_ ?_))
              · exact .bl _
              · rw [plains_map]
                exact dps_same s4 hys
      | dict _ => cases hd
      | none =>
        cases dp_non hd
        refine ⟨_, (pss_cons (ps_if (pt_val (pe_callB call_isiT (by rfl) T.b_isinstance boot_isinstance' (pa_cons (pv 0) (pa_cons (pe_tup (pa_cons (pe_bltn (v := .ty "tuple") (by rfl) T.b_tuple boot_tuple' rfl) (pa_cons (pe_bltn (v := .ty "list") (by rfl) T.b_list boot_list' rfl) pa_nil))) pa_nil)))) (pss_one (ps_ret (pe_op op_cat (pe_lst (pa_cons (pe_callB call_isi (by rfl) T.b_isinstance boot_isinstance' (pa_cons (pv 0) (pa_cons (pe_bltn (v := .ty "list") (by rfl) T.b_list boot_list' rfl) pa_nil))) pa_nil)) (pe_lc (own := [("item", 1)]) rfl sc__law_plain.nd (pi_list (pv 0)) (blkOk_by (own := [("item", 1)]) (N := ["value", "item"]) (sc := defScope s__law_plain) (by decide +kernel)) (fun _ _ _ _ _ => (pg_name (i := 1) sc__law_plain.nd rfl (Or.inl rfl))) (fun _ _ _ _ _ => pts_nil) (fun _ _ _ _ _ => (pe_c c__law_plain hr (by omega) rfl (pa_cons (pv 1) pa_nil))))))) pss_nil)
      (pss_cons (ps_if (PW.pt (pw_or (pt_cmpR op_isN (pv 0) pe_non (nomark _)) (pw_or1 (pt_val (pe_callB call_isi (by rfl) T.b_isinstance boot_isinstance' (pa_cons (pv 0) (pa_cons (pe_bltn (v := .ty "bool") (by rfl) T.b_bool boot_bool' rfl) pa_nil))))))) (pss_one (ps_ret (pe_ix ix_list (pe_lst (pa_cons pe_str (pa_cons pe_str (pa_cons pe_str pa_nil)))) (pe_op op_add (pe_callTy call_int1 (by rfl) T.b_int boot_int' (pa_cons (pe_cmpR op_notN (pv 0) pe_non (nomark _)) pa_nil)) (pe_callTy call_int1 (by rfl) T.b_int boot_int' (pa_cons (pe_cmpR op_isX (pv 0) pe_bl (nomark _)) pa_nil))) (fun _ _ => rfl)))) pss_nil)
      (pss_cons (ps_if (pt_val (pe_callB call_isiT (by rfl) T.b_isinstance boot_isinstance' (pa_cons (pv 0) (pa_cons (pe_tup (pa_cons (pe_bltn (v := .ty "int") (by rfl) T.b_int boot_int' rfl) (pa_cons (pe_bltn (v := .ty "str") (by rfl) T.b_str boot_str' rfl) pa_nil))) pa_nil)))) (pss_one (ps_ret (pe_lst (pa_cons (pe_callB call_isi (by rfl) T.b_isinstance boot_isinstance' (pa_cons (pv 0) (pa_cons (pe_bltn (v := .ty "str") (by rfl) T.b_str boot_str' rfl) pa_nil))) (pa_cons (pv 0) pa_nil))))) pss_nil)
      (pss_one (ps_ret pe_str))))), ?_⟩
        refine ⟨_, rfl, by decide, fun p1 n1 => ?_⟩
        refine ⟨_, _, _, _, _, _, rfl, upd_same, clsv2 _ _, dp_ty (dp_same (same_new n1) hd), kitD2 K _ _ _ (by decide) (by decide), _, rfl, iteF ?_⟩
        refine ⟨_, rfl, rfl, _, rfl, iteT (iteT ?_)⟩
        refine ⟨(show 3 ≤ sizeLine by decide), fun p2 n2 => ?_⟩
        refine ⟨_, rfl, rfl, .inr ⟨_, rfl, _, rfl, _, rfl, .inl rfl, .inr ⟨_, rfl, _, _, rfl, rfl, p2, _, 0, .str "None", rfl, rfl, SqL.of upd_same, rfl, ?_⟩⟩⟩
        exact k _ _ ((same_new n1).trans (same_new n2)) (.str _)
      | bool z =>
        cases dp_bl hd
        refine ⟨_, (pss_cons (ps_if (pt_val (pe_callB call_isiT (by rfl) T.b_isinstance boot_isinstance' (pa_cons (pv 0) (pa_cons (pe_tup (pa_cons (pe_bltn (v := .ty "tuple") (by rfl) T.b_tuple boot_tuple' rfl) (pa_cons (pe_bltn (v := .ty "list") (by rfl) T.b_list boot_list' rfl) pa_nil))) pa_nil)))) (pss_one (ps_ret (pe_op op_cat (pe_lst (pa_cons (pe_callB call_isi (by rfl) T.b_isinstance boot_isinstance' (pa_cons (pv 0) (pa_cons (pe_bltn (v := .ty "list") (by rfl) T.b_list boot_list' rfl) pa_nil))) pa_nil)) (pe_lc (own := [("item", 1)]) rfl sc__law_plain.nd (pi_list (pv 0)) (blkOk_by (own := [("item", 1)]) (N := ["value", "item"]) (sc := defScope s__law_plain) (by decide +kernel)) (fun _ _ _ _ _ => (pg_name (i := 1) sc__law_plain.nd rfl (Or.inl rfl))) (fun _ _ _ _ _ => pts_nil) (fun _ _ _ _ _ => (pe_c c__law_plain hr (by omega) rfl (pa_cons (pv 1) pa_nil))))))) pss_nil)
      (pss_cons (ps_if (PW.pt (pw_or (pt_cmpR op_isN (pv 0) pe_non (nomark _)) (pw_or1 (pt_val (pe_callB call_isi (by rfl) T.b_isinstance boot_isinstance' (pa_cons (pv 0) (pa_cons (pe_bltn (v := .ty "bool") (by rfl) T.b_bool boot_bool' rfl) pa_nil))))))) (pss_one (ps_ret (pe_ix ix_list (pe_lst (pa_cons pe_str (pa_cons pe_str (pa_cons pe_str pa_nil)))) (pe_op op_add (pe_callTy call_int1 (by rfl) T.b_int boot_int' (pa_cons (pe_cmpR op_notN (pv 0) pe_non (nomark _)) pa_nil)) (pe_callTy call_int1 (by rfl) T.b_int boot_int' (pa_cons (pe_cmpR op_isX (pv 0) pe_bl (nomark _)) pa_nil))) (fun _ _ => rfl)))) pss_nil)
      (pss_cons (ps_if (pt_val (pe_callB call_isiT (by rfl) T.b_isinstance boot_isinstance' (pa_cons (pv 0) (pa_cons (pe_tup (pa_cons (pe_bltn (v := .ty "int") (by rfl) T.b_int boot_int' rfl) (pa_cons (pe_bltn (v := .ty "str") (by rfl) T.b_str boot_str' rfl) pa_nil))) pa_nil)))) (pss_one (ps_ret (pe_lst (pa_cons (pe_callB call_isi (by rfl) T.b_isinstance boot_isinstance' (pa_cons (pv 0) (pa_cons (pe_bltn (v := .ty "str") (by rfl) T.b_str boot_str' rfl) pa_nil))) (pa_cons (pv 0) pa_nil))))) pss_nil)
      (pss_one (ps_ret pe_str))))), ?_⟩
        refine ⟨_, rfl, by decide, fun p1 n1 => ?_⟩
        refine ⟨_, _, _, _, _, _, rfl, upd_same, clsv2 _ _, dp_ty (dp_same (same_new n1) hd), kitD2 K _ _ _ (by decide) (by decide), _, rfl, iteF ?_⟩
        refine ⟨_, rfl, rfl, _, rfl, iteF ⟨_, rfl, _, _, _, _, _, rfl, .ty _, dp_ty (dp_same (same_new n1) hd), kitD K _ _ (by decide), _, rfl, iteT ?_⟩⟩
        refine ⟨(show 3 ≤ sizeLine by decide), fun p2 n2 => ?_⟩
        cases z with
        | true =>
          refine ⟨_, rfl, rfl, .inr ⟨_, rfl, _, rfl, _, rfl, .inr (.inl ⟨_, rfl⟩), .inr ⟨_, rfl, _, _, rfl, rfl, p2, _, 2, .str "True", rfl, rfl, SqL.of upd_same, rfl, ?_⟩⟩⟩
          exact k _ _ ((same_new n1).trans (same_new n2)) (.str _)
        | false =>
          refine ⟨_, rfl, rfl, .inr ⟨_, rfl, _, rfl, _, rfl, .inr (.inl ⟨_, rfl⟩), .inr ⟨_, rfl, _, _, rfl, rfl, p2, _, 1, .str "False", rfl, rfl, SqL.of upd_same, rfl, ?_⟩⟩⟩
          exact k _ _ ((same_new n1).trans (same_new n2)) (.str _)
      | int i =>
        cases dp_int hd
        refine ⟨_, (pss_cons (ps_if (pt_val (pe_callB call_isiT (by rfl) T.b_isinstance boot_isinstance' (pa_cons (pv 0) (pa_cons (pe_tup (pa_cons (pe_bltn (v := .ty "tuple") (by rfl) T.b_tuple boot_tuple' rfl) (pa_cons (pe_bltn (v := .ty "list") (by rfl) T.b_list boot_list' rfl) pa_nil))) pa_nil)))) (pss_one (ps_ret (pe_op op_cat (pe_lst (pa_cons (pe_callB call_isi (by rfl) T.b_isinstance boot_isinstance' (pa_cons (pv 0) (pa_cons (pe_bltn (v := .ty "list") (by rfl) T.b_list boot_list' rfl) pa_nil))) pa_nil)) (pe_lc (own := [("item", 1)]) rfl sc__law_plain.nd (pi_list (pv 0)) (blkOk_by (own := [("item", 1)]) (N := ["value", "item"]) (sc := defScope s__law_plain) (by decide +kernel)) (fun _ _ _ _ _ => (pg_name (i := 1) sc__law_plain.nd rfl (Or.inl rfl))) (fun _ _ _ _ _ => pts_nil) (fun _ _ _ _ _ => (pe_c c__law_plain hr (by omega) rfl (pa_cons (pv 1) pa_nil))))))) pss_nil)
      (pss_cons (ps_if (PW.pt (pw_or (pt_cmpR op_isN (pv 0) pe_non (nomark _)) (pw_or1 (pt_val (pe_callB call_isi (by rfl) T.b_isinstance boot_isinstance' (pa_cons (pv 0) (pa_cons (pe_bltn (v := .ty "bool") (by rfl) T.b_bool boot_bool' rfl) pa_nil))))))) (pss_one (ps_ret (pe_ix ix_list (pe_lst (pa_cons pe_str (pa_cons pe_str (pa_cons pe_str pa_nil)))) (pe_op op_add (pe_callTy call_int1 (by rfl) T.b_int boot_int' (pa_cons (pe_cmpR op_notN (pv 0) pe_non (nomark _)) pa_nil)) (pe_callTy call_int1 (by rfl) T.b_int boot_int' (pa_cons (pe_cmpR op_isX (pv 0) pe_bl (nomark _)) pa_nil))) (fun _ _ => rfl)))) pss_nil)
      (pss_cons (ps_if (pt_val (pe_callB call_isiT (by rfl) T.b_isinstance boot_isinstance' (pa_cons (pv 0) (pa_cons (pe_tup (pa_cons (pe_bltn (v := .ty "int") (by rfl) T.b_int boot_int' rfl) (pa_cons (pe_bltn (v := .ty "str") (by rfl) T.b_str boot_str' rfl) pa_nil))) pa_nil)))) (pss_one (ps_ret (pe_lst (pa_cons (pe_callB call_isi (by rfl) T.b_isinstance boot_isinstance' (pa_cons (pv 0) (pa_cons (pe_bltn (v := .ty "str") (by rfl) T.b_str boot_str' rfl) pa_nil))) (pa_cons (pv 0) pa_nil))))) pss_nil)
      (pss_one (ps_ret pe_str))))), ?_⟩
        refine ⟨_, rfl, by decide, fun p1 n1 => ?_⟩
        refine ⟨_, _, _, _, _, _, rfl, upd_same, clsv2 _ _, dp_ty (dp_same (same_new n1) hd), kitD2 K _ _ _ (by decide) (by decide), _, rfl, iteF ?_⟩
        refine ⟨_, rfl, rfl, _, rfl, iteF ⟨_, rfl, _, _, _, _, _, rfl, .ty _, dp_ty (dp_same (same_new n1) hd), kitD K _ _ (by decide), _, rfl, iteF ?_⟩⟩
        refine ⟨_, rfl, by decide, fun p2 n2 => ?_⟩
        have s2 := (same_new (o := HO.tup [V.ty "tuple", V.ty "list"]) n1).trans (same_new (o := HO.tup [V.ty "int", V.ty "str"]) n2)
        refine ⟨_, _, _, _, _, _, rfl, upd_same, clsv2 _ _, dp_ty (dp_same s2 hd), kitD2 K _ _ _ (by decide) (by decide), _, rfl, iteT ?_⟩
        refine ⟨_, rfl, _, _, _, _, _, rfl, .ty _, dp_ty (dp_same s2 hd), kitD K _ _ (by decide), _, rfl, (show 2 ≤ sizeLine by decide), fun p3 n3 => ?_⟩
        exact k _ _ (s2.trans (same_new n3)) (.lst (SqL.of upd_same) (.cons (.bl _) (.cons (.int _) .nil)))
      | str z =>
        cases dp_str hd
        refine ⟨_, (pss_cons (ps_if (pt_val (pe_callB call_isiT (by rfl) T.b_isinstance boot_isinstance' (pa_cons (pv 0) (pa_cons (pe_tup (pa_cons (pe_bltn (v := .ty "tuple") (by rfl) T.b_tuple boot_tuple' rfl) (pa_cons (pe_bltn (v := .ty "list") (by rfl) T.b_list boot_list' rfl) pa_nil))) pa_nil)))) (pss_one (ps_ret (pe_op op_cat (pe_lst (pa_cons (pe_callB call_isi (by rfl) T.b_isinstance boot_isinstance' (pa_cons (pv 0) (pa_cons (pe_bltn (v := .ty "list") (by rfl) T.b_list boot_list' rfl) pa_nil))) pa_nil)) (pe_lc (own := [("item", 1)]) rfl sc__law_plain.nd (pi_list (pv 0)) (blkOk_by (own := [("item", 1)]) (N := ["value", "item"]) (sc := defScope s__law_plain) (by decide +kernel)) (fun _ _ _ _ _ => (pg_name (i := 1) sc__law_plain.nd rfl (Or.inl rfl))) (fun _ _ _ _ _ => pts_nil) (fun _ _ _ _ _ => (pe_c c__law_plain hr (by omega) rfl (pa_cons (pv 1) pa_nil))))))) pss_nil)
      (pss_cons (ps_if (PW.pt (pw_or (pt_cmpR op_isN (pv 0) pe_non (nomark _)) (pw_or1 (pt_val (pe_callB call_isi (by rfl) T.b_isinstance boot_isinstance' (pa_cons (pv 0) (pa_cons (pe_bltn (v := .ty "bool") (by rfl) T.b_bool boot_bool' rfl) pa_nil))))))) (pss_one (ps_ret (pe_ix ix_list (pe_lst (pa_cons pe_str (pa_cons pe_str (pa_cons pe_str pa_nil)))) (pe_op op_add (pe_callTy call_int1 (by rfl) T.b_int boot_int' (pa_cons (pe_cmpR op_notN (pv 0) pe_non (nomark _)) pa_nil)) (pe_callTy call_int1 (by rfl) T.b_int boot_int' (pa_cons (pe_cmpR op_isX (pv 0) pe_bl (nomark _)) pa_nil))) (fun _ _ => rfl)))) pss_nil)
      (pss_cons (ps_if (pt_val (pe_callB call_isiT (by rfl) T.b_isinstance boot_isinstance' (pa_cons (pv 0) (pa_cons (pe_tup (pa_cons (pe_bltn (v := .ty "int") (by rfl) T.b_int boot_int' rfl) (pa_cons (pe_bltn (v := .ty "str") (by rfl) T.b_str boot_str' rfl) pa_nil))) pa_nil)))) (pss_one (ps_ret (pe_lst (pa_cons (pe_callB call_isi (by rfl) T.b_isinstance boot_isinstance' (pa_cons (pv 0) (pa_cons (pe_bltn (v := .ty "str") (by rfl) T.b_str boot_str' rfl) pa_nil))) (pa_cons (pv 0) pa_nil))))) pss_nil)
      (pss_one (ps_ret pe_str))))), ?_⟩
        refine ⟨_, rfl, by decide, fun p1 n1 => ?_⟩
        refine ⟨_, _, _, _, _, _, rfl, upd_same, clsv2 _ _, dp_ty (dp_same (same_new n1) hd), kitD2 K _ _ _ (by decide) (by decide), _, rfl, iteF ?_⟩
        refine ⟨_, rfl, rfl, _, rfl, iteF ⟨_, rfl, _, _, _, _, _, rfl, .ty _, dp_ty (dp_same (same_new n1) hd), kitD K _ _ (by decide), _, rfl, iteF ?_⟩⟩
        refine ⟨_, rfl, by decide, fun p2 n2 => ?_⟩
        have s2 := (same_new (o := HO.tup [V.ty "tuple", V.ty "list"]) n1).trans (same_new (o := HO.tup [V.ty "int", V.ty "str"]) n2)
        refine ⟨_, _, _, _, _, _, rfl, upd_same, clsv2 _ _, dp_ty (dp_same s2 hd), kitD2 K _ _ _ (by decide) (by decide), _, rfl, iteT ?_⟩
        refine ⟨_, rfl, _, _, _, _, _, rfl, .ty _, dp_ty (dp_same s2 hd), kitD K _ _ (by decide), _, rfl, (show 2 ≤ sizeLine by decide), fun p3 n3 => ?_⟩
        exact k _ _ (s2.trans (same_new n3)) (.lst (SqL.of upd_same) (.cons (.bl _) (.cons (.str _) .nil)))

end
end Q80



/-! # graphs and tables: no program here -/
namespace M80
open PySem PySem.W PyProof.Rows
def nth (xs : List Int) (i : Int) : Int := xs.getD i.toNat 0
def inR (m x : Int) : Bool := decide (0 ≤ x) && decide (x < m)
def allR (m : Int) (l : List Int) : Bool := l.all (inR m)
theorem inR_iff {m x : Int} : inR m x = true ↔ 0 ≤ x ∧ x < m := by
  unfold inR
  rw [Bool.and_eq_true, decide_eq_true_iff, decide_eq_true_iff]
theorem allR_iff {m : Int} {l : List Int} : allR m l = true ↔ ∀ x ∈ l, 0 ≤ x ∧ x < m := by
  unfold allR
  rw [List.all_eq_true]
  exact ⟨fun h x hx => inR_iff.mp (h x hx), fun h x hx => inR_iff.mpr (h x hx)⟩
abbrev Pr := Int × Int
structure Gr where
  inp : Int
  fst : List Int
  nxt : List Int
  prs : List Pr
  out : List Int
def okP (m : Int) (p : Pr) : Bool := allR m [p.1, p.2] && decide (p.1 < p.2)
def okPs (m : Int) : List Pr → Bool
  | [] => true
  | p :: r => okP m p && okPs (m + 2) r
def g0 (g : Gr) : Int := 2 * (1 + g.inp + g.fst.length)
def okGr (g : Gr) : Bool := decide (0 ≤ g.inp) && allR 2 g.fst && okPs (g0 g) g.prs && (allR (g0 g + 2 * g.prs.length) g.nxt && decide (g.nxt.length = g.fst.length) && allR (g0 g + 2 * g.prs.length) g.out)
structure Rw where
  a : Int
  b : Int
  c : Int
  t : Int
def Rw.l (r : Rw) : List Int := [r.a, r.b, r.c]
structure Tb where
  inp : Int
  fst : List Int
  nxt : List Int
  rws : List Rw
  out : List Int
def cases3 : List Int := [170, 204, 240]
def hangs (t at_ : Int) : Bool := decide (Builtin.bitAnd t (nth cases3 at_) / 2 ^ (2 ^ at_.toNat) ≠ Builtin.bitAnd t (Builtin.bitXor 255 (nth cases3 at_)))
def used (r : Rw) : List Int := r.l.filter fun x => decide (0 < x)
/-- strictly ascending -/
def asc : List Int → Bool
  | [] => true
  | [_] => true
  | x :: y :: r => decide (x < y) && asc (y :: r)
def okU (r : Rw) : Bool := decide (r.l = used r ++ List.replicate (3 - (used r).length) 0) && asc (used r)
def okF (r : Rw) : Bool := ((List.range (3 - (used r).length)).map fun k => (((used r).length + k : Nat) : Int)).all fun k => !hangs r.t k
def okR (m : Int) (r : Rw) : Bool := allR m r.l && inR 256 r.t && okU r && okF r
def okRs (m : Int) : List Rw → Bool
  | [] => true
  | r :: q => okR m r && okRs (m + 1) q
def t0 (g : Tb) : Int := 1 + g.inp + g.fst.length
def okTb (g : Tb) : Bool := decide (0 ≤ g.inp) && allR 2 g.fst && okRs (t0 g) g.rws && (allR (t0 g + g.rws.length) g.nxt && decide (g.nxt.length = g.fst.length) && allR (t0 g + g.rws.length) g.out)
/-! ### one clock -/
def edge (e : Int) (xs : List Int) (k : Int) : Int := Builtin.bitXor (nth xs (k / 2)) (if k % 2 = 1 then e else 0)
def edgeL (e : Int) (xs : List Int) (k : Int) : Int := if k % 2 = 1 then e - nth xs (k / 2) else nth xs (k / 2)
def walk (e : Int) : List Int → List Pr → List Int
  | xs, [] => xs
  | xs, p :: r => walk e (xs ++ [Builtin.bitAnd (edge e xs p.1) (edge e xs p.2)]) r
def walkL (e : Int) : List Int → List Pr → List Int
  | xs, [] => xs
  | xs, p :: r => walkL e (xs ++ [Builtin.bitAnd (edgeL e xs p.1) (edgeL e xs p.2)]) r
theorem walk_snoc {e : Int} (p : Pr) : ∀ (ps : List Pr) (xs : List Int), walk e xs (ps ++ [p]) = walk e xs ps ++ [Builtin.bitAnd (edge e (walk e xs ps) p.1) (edge e (walk e xs ps) p.2)]
  | [], _ => rfl
  | q :: ps, xs => walk_snoc p ps _
theorem walkL_snoc {e : Int} (p : Pr) : ∀ (ps : List Pr) (xs : List Int), walkL e xs (ps ++ [p]) = walkL e xs ps ++ [Builtin.bitAnd (edgeL e (walkL e xs ps) p.1) (edgeL e (walkL e xs ps) p.2)]
  | [], _ => rfl
  | q :: ps, xs => walkL_snoc p ps _
theorem walk_len {e : Int} : ∀ (ps : List Pr) (xs : List Int), (walk e xs ps).length = xs.length + ps.length
  | [], _ => rfl
  | q :: ps, xs => by
    rw [walk, walk_len ps, List.length_append, List.length_cons]
    simp only [List.length_cons, List.length_nil]
    omega
theorem walkL_len {e : Int} : ∀ (ps : List Pr) (xs : List Int), (walkL e xs ps).length = xs.length + ps.length
  | [], _ => rfl
  | q :: ps, xs => by
    rw [walkL, walkL_len ps, List.length_append, List.length_cons]
    simp only [List.length_cons, List.length_nil]
    omega
/-- numbers of L lanes -/
def Lan (e : Int) (xs : List Int) : Prop := ∀ x ∈ xs, 0 ≤ x ∧ x ≤ e
theorem Lan.nth {e : Int} (h0 : 0 ≤ e) {xs : List Int} (h : Lan e xs) (k : Int) : 0 ≤ nth xs k ∧ nth xs k ≤ e := by
  unfold M80.nth
  rw [List.getD_eq_getElem?_getD]
  cases q : xs[k.toNat]? with
  | none => exact ⟨Int.le_refl 0, h0⟩
  | some x => exact h x (List.mem_of_getElem? q)
theorem xor_all {x : Int} {L : Nat} (h0 : 0 ≤ x) (h1 : x ≤ 2 ^ L - 1) : Builtin.bitXor x (2 ^ L - 1) = 2 ^ L - 1 - x := by
  rw [bitXor_and, kbt_mask]
  have : x % 2 ^ L = x := Int.emod_eq_of_lt h0 (by omega)
  rw [this]
  omega
theorem edge_eq {L : Nat} {xs : List Int} (h : Lan (2 ^ L - 1) xs) (k : Int) : edge (2 ^ L - 1) xs k = edgeL (2 ^ L - 1) xs k := by
  have p : (0 : Int) < 2 ^ L := Int.pow_pos (by decide)
  obtain ⟨a, b⟩ := h.nth (by omega) (k / 2)
  unfold edge edgeL
  split
  · exact xor_all a b
  · exact bitXor_zero _
theorem edge_lan {L : Nat} {xs : List Int} (h : Lan (2 ^ L - 1) xs) (k : Int) : 0 ≤ edge (2 ^ L - 1) xs k ∧ edge (2 ^ L - 1) xs k ≤ 2 ^ L - 1 := by
  have p : (0 : Int) < 2 ^ L := Int.pow_pos (by decide)
  rw [edge_eq h]
  obtain ⟨a, b⟩ := h.nth (by omega) (k / 2)
  unfold edgeL
  split <;> omega
theorem walk_eq {L : Nat} : ∀ (ps : List Pr) {xs : List Int}, Lan (2 ^ L - 1) xs → walk (2 ^ L - 1) xs ps = walkL (2 ^ L - 1) xs ps ∧ Lan (2 ^ L - 1) (walk (2 ^ L - 1) xs ps)
  | [], _, h => ⟨rfl, h⟩
  | p :: r, xs, h => by
    have e1 := edge_lan h p.1
    have e2 := edge_lan h p.2
    have h2 : Lan (2 ^ L - 1) (xs ++ [Builtin.bitAnd (edge (2 ^ L - 1) xs p.1) (edge (2 ^ L - 1) xs p.2)]) := fun x hx => by
      rcases List.mem_append.mp hx with hx | hx
      · exact h x hx
      · rw [List.mem_singleton.mp hx]
        have := bitAnd_range (edge (2 ^ L - 1) xs p.1) e2.1
        omega
    obtain ⟨a, b⟩ := walk_eq r h2
    refine ⟨?_, b⟩
    rw [walk, walkL, a, edge_eq h, edge_eq h]
def outs (e : Int) (xs : List Int) (l : List Int) : List Int := l.map (edge e xs)
def outsL (e : Int) (xs : List Int) (l : List Int) : List Int := l.map (edgeL e xs)
theorem outs_eq {L : Nat} {xs : List Int} (h : Lan (2 ^ L - 1) xs) (l : List Int) : outs (2 ^ L - 1) xs l = outsL (2 ^ L - 1) xs l := List.map_congr_left fun k _ => edge_eq h k
theorem outs_lan {L : Nat} {xs : List Int} (h : Lan (2 ^ L - 1) xs) (l : List Int) : Lan (2 ^ L - 1) (outs (2 ^ L - 1) xs l) := fun x hx => by
  obtain ⟨k, _, rfl⟩ := List.mem_map.mp hx
  exact edge_lan h k
/-! ### tables -/
def bitC (t c : Int) : Bool := decide (t / 2 ^ c.toNat % 2 = 1)
/-- one case of a row's byte -/
def hereP (e : Int) (v : Int → Int) (c : Int) : Nat → Int
  | 0 => e
  | k + 1 => Builtin.bitAnd (hereP e v c k) (if bitC c k = true then v k else Builtin.bitXor (v k) e)
def hereL (e : Int) (v : Int → Int) (c : Int) : Nat → Int
  | 0 => e
  | k + 1 => Builtin.bitAnd (hereL e v c k) (if bitC c k = true then v k else e - v k)
def fndP (e t : Int) (v : Int → Int) : Nat → Int
  | 0 => 0
  | c + 1 => if bitC t c = true then Builtin.bitOr (fndP e t v c) (hereP e v c 3) else fndP e t v c
def fndL (e t : Int) (v : Int → Int) : Nat → Int
  | 0 => 0
  | c + 1 => if bitC t c = true then Builtin.bitOr (fndL e t v c) (hereL e v c 3) else fndL e t v c
def rowV (xs : List Int) (r : Rw) (k : Int) : Int := nth xs (nth r.l k)
def lookP (e : Int) (xs : List Int) (r : Rw) : Int := if e = 1 then Builtin.bitAnd (r.t / 2 ^ (nth xs r.a + 2 * nth xs r.b + 4 * nth xs r.c).toNat) 1 else fndP e r.t (rowV xs r) 8
def lookL (e : Int) (xs : List Int) (r : Rw) : Int := fndL e r.t (rowV xs r) 8
def rows (e : Int) : List Int → List Rw → List Int
  | xs, [] => xs
  | xs, r :: q => rows e (xs ++ [lookP e xs r]) q
def rowsL (e : Int) : List Int → List Rw → List Int
  | xs, [] => xs
  | xs, r :: q => rowsL e (xs ++ [lookL e xs r]) q
theorem rows_snoc {e : Int} (p : Rw) : ∀ (ps : List Rw) (xs : List Int), rows e xs (ps ++ [p]) = rows e xs ps ++ [lookP e (rows e xs ps) p]
  | [], _ => rfl
  | q :: ps, xs => rows_snoc p ps _
theorem rowsL_snoc {e : Int} (p : Rw) : ∀ (ps : List Rw) (xs : List Int), rowsL e xs (ps ++ [p]) = rowsL e xs ps ++ [lookL e (rowsL e xs ps) p]
  | [], _ => rfl
  | q :: ps, xs => rowsL_snoc p ps _
theorem rows_len {e : Int} : ∀ (ps : List Rw) (xs : List Int), (rows e xs ps).length = xs.length + ps.length
  | [], _ => rfl
  | q :: ps, xs => by
    rw [rows, rows_len ps, List.length_append, List.length_cons]
    simp only [List.length_cons, List.length_nil]
    omega
theorem rowsL_len {e : Int} : ∀ (ps : List Rw) (xs : List Int), (rowsL e xs ps).length = xs.length + ps.length
  | [], _ => rfl
  | q :: ps, xs => by
    rw [rowsL, rowsL_len ps, List.length_append, List.length_cons]
    simp only [List.length_cons, List.length_nil]
    omega
theorem here_eq {L : Nat} {v : Int → Int} (h : ∀ k, 0 ≤ v k ∧ v k ≤ 2 ^ L - 1) (c : Int) : ∀ k : Nat, hereP (2 ^ L - 1) v c k = hereL (2 ^ L - 1) v c k
  | 0 => rfl
  | k + 1 => by
    unfold hereP hereL
    rw [here_eq h c k, xor_all (h k).1 (h k).2]
theorem fnd_eq {L : Nat} {v : Int → Int} (h : ∀ k, 0 ≤ v k ∧ v k ≤ 2 ^ L - 1) (t : Int) : ∀ k : Nat, fndP (2 ^ L - 1) t v k = fndL (2 ^ L - 1) t v k
  | 0 => rfl
  | k + 1 => by
    unfold fndP fndL
    rw [fnd_eq h t k, here_eq h k 3]
theorem bits8 : ∀ t < 256, ∀ x < 2, ∀ y < 2, ∀ z < 2, Builtin.bitAnd ((t : Nat) / 2 ^ ((x : Nat) + 2 * (y : Nat) + 4 * (z : Nat) : Int).toNat : Int) 1 = fndL 1 (t : Nat) (fun k => if k = 0 then (x : Nat) else if k = 1 then (y : Nat) else (z : Nat)) 8 := by decide +kernel
theorem bitC_and (t c : Int) : decide (Builtin.bitAnd (t / 2 ^ c.toNat) 1 ≠ 0) = bitC t c := by
  unfold bitC
  rw [bitAnd_m1]
  have : t / 2 ^ c.toNat % 2 = 0 ∨ t / 2 ^ c.toNat % 2 = 1 := by omega
  rcases this with h | h <;> rw [h] <;> rfl
theorem or_lan : ∀ {L : Nat} {x y : Int}, 0 ≤ x ∧ x ≤ 2 ^ L - 1 → 0 ≤ y ∧ y ≤ 2 ^ L - 1 → 0 ≤ Builtin.bitOr x y ∧ Builtin.bitOr x y ≤ 2 ^ L - 1
  | 0, x, y, hx, hy => by
    have ex : x = 0 := by have := hx.2; rw [Int.pow_zero] at this; omega
    have ey : y = 0 := by have := hy.2; rw [Int.pow_zero] at this; omega
    rw [ex, ey]
    decide
  | L + 1, x, y, hx, hy => by
    have p : (2 : Int) ^ (L + 1) = 2 * 2 ^ L := by rw [Int.pow_succ]; omega
    rw [p] at hx hy ⊢
    have ih := or_lan (L := L) (x := x / 2) (y := y / 2) ⟨by omega, by omega⟩ ⟨by omega, by omega⟩
    rw [bitOr_and] at ih ⊢
    have h := kbt_halves x y
    have hs : (if x % 2 = 1 ∧ y % 2 = 1 then (1 : Int) else 0) = 1 ∧ x % 2 = 1 ∧ y % 2 = 1 ∨ (if x % 2 = 1 ∧ y % 2 = 1 then (1 : Int) else 0) = 0 ∧ ¬ (x % 2 = 1 ∧ y % 2 = 1) := by
      split
      · rename_i q; exact .inl ⟨rfl, q.1, q.2⟩
      · rename_i q; exact .inr ⟨rfl, q⟩
    omega
theorem here_lan {L : Nat} {v : Int → Int} (h : ∀ k, 0 ≤ v k ∧ v k ≤ 2 ^ L - 1) (c : Int) : ∀ k : Nat, 0 ≤ hereP (2 ^ L - 1) v c k ∧ hereP (2 ^ L - 1) v c k ≤ 2 ^ L - 1
  | 0 => by
    have p : (0 : Int) < 2 ^ L := Int.pow_pos (by decide)
    exact ⟨by show (0 : Int) ≤ 2 ^ L - 1; omega, Int.le_refl _⟩
  | k + 1 => by
    unfold hereP
    have hk := h k
    have : 0 ≤ (if bitC c k = true then v k else Builtin.bitXor (v k) (2 ^ L - 1)) ∧ (if bitC c k = true then v k else Builtin.bitXor (v k) (2 ^ L - 1)) ≤ 2 ^ L - 1 := by
      split
      · exact hk
      · rw [xor_all hk.1 hk.2]
        omega
    have q := bitAnd_range (hereP (2 ^ L - 1) v c k) this.1
    omega
theorem fnd_lan {L : Nat} {v : Int → Int} (h : ∀ k, 0 ≤ v k ∧ v k ≤ 2 ^ L - 1) (t : Int) : ∀ k : Nat, 0 ≤ fndP (2 ^ L - 1) t v k ∧ fndP (2 ^ L - 1) t v k ≤ 2 ^ L - 1
  | 0 => by
    have p : (0 : Int) < 2 ^ L := Int.pow_pos (by decide)
    exact ⟨Int.le_refl 0, by show (0 : Int) ≤ 2 ^ L - 1; omega⟩
  | k + 1 => by
    unfold fndP
    split
    · exact or_lan (fnd_lan h t k) (here_lan h k 3)
    · exact fnd_lan h t k
theorem look_eq {L : Nat} {xs : List Int} (hx : Lan (2 ^ L - 1) xs) {r : Rw} (ht : 0 ≤ r.t ∧ r.t < 256) : lookP (2 ^ L - 1) xs r = lookL (2 ^ L - 1) xs r ∧ 0 ≤ lookP (2 ^ L - 1) xs r ∧ lookP (2 ^ L - 1) xs r ≤ 2 ^ L - 1 := by
  have p : (0 : Int) < 2 ^ L := Int.pow_pos (by decide)
  have hv : ∀ k, 0 ≤ rowV xs r k ∧ rowV xs r k ≤ 2 ^ L - 1 := fun k => hx.nth (by omega) _
  have key : lookP (2 ^ L - 1) xs r = fndP (2 ^ L - 1) r.t (rowV xs r) 8 := by
    unfold lookP
    split
    · rename_i e
      have ha := hx.nth (by omega) r.a
      have hb := hx.nth (by omega) r.b
      have hc := hx.nth (by omega) r.c
      have fx : fndP (2 ^ L - 1) r.t (rowV xs r) 8 = fndL 1 r.t (rowV xs r) 8 := by rw [fnd_eq hv, e]
      rw [fx]
      have v0 : rowV xs r 0 = nth xs r.a := rfl
      have v1 : rowV xs r 1 = nth xs r.b := rfl
      have v2 : rowV xs r 2 = nth xs r.c := rfl
      obtain ⟨t, et⟩ := Int.eq_ofNat_of_zero_le ht.1
      obtain ⟨x, ex⟩ := Int.eq_ofNat_of_zero_le ha.1
      obtain ⟨y, ey⟩ := Int.eq_ofNat_of_zero_le hb.1
      obtain ⟨z, ez⟩ := Int.eq_ofNat_of_zero_le hc.1
      have B := bits8 t (by omega) x (by omega) y (by omega) z (by omega)
      rw [et, ex, ey, ez, B]
      rw [ex] at v0
      rw [ey] at v1
      rw [ez] at v2
      have q0 : ((0 : Nat) : Int) = 0 := rfl
      have q1 : ((1 : Nat) : Int) = 1 := rfl
      have q2 : ((2 : Nat) : Int) = 2 := rfl
      have hh : ∀ c, hereL 1 (fun k => if k = 0 then (x : Nat) else if k = 1 then (y : Nat) else (z : Nat)) c 3 = hereL 1 (rowV xs r) c 3 := fun c => by
        unfold hereL hereL hereL hereL
        rw [q0, q1, q2, v0, v1, v2]
        rfl
      unfold fndL fndL fndL fndL fndL fndL fndL fndL fndL
      simp only [hh]
    · rfl
  rw [key]
  refine ⟨?_, fnd_lan hv _ 8⟩
  rw [fnd_eq hv]
  rfl
theorem rows_eq {L : Nat} : ∀ (ps : List Rw) {xs : List Int}, Lan (2 ^ L - 1) xs → (∀ r ∈ ps, 0 ≤ r.t ∧ r.t < 256) → rows (2 ^ L - 1) xs ps = rowsL (2 ^ L - 1) xs ps ∧ Lan (2 ^ L - 1) (rows (2 ^ L - 1) xs ps)
  | [], _, h, _ => ⟨rfl, h⟩
  | r :: q, xs, h, ht => by
    obtain ⟨e, l1, l2⟩ := look_eq h (ht r List.mem_cons_self)
    have h2 : Lan (2 ^ L - 1) (xs ++ [lookP (2 ^ L - 1) xs r]) := fun x hx => by
      rcases List.mem_append.mp hx with hx | hx
      · exact h x hx
      · rw [List.mem_singleton.mp hx]
        exact ⟨l1, l2⟩
    obtain ⟨a, b⟩ := rows_eq q h2 fun r hr => ht r (List.mem_cons_of_mem _ hr)
    refine ⟨?_, b⟩
    rw [rows, rowsL, a, e]
end M80



/-! # more about graphs and tables: no program here -/
namespace M80
open PySem PySem.W PyProof.Rows
theorem okPs_get {m : Int} : ∀ {ps : List Pr} {i : Nat} {p : Pr}, okPs m ps = true → ps[i]? = some p → okP (m + 2 * i) p = true
  | [], _, _, _, e => by simp at e
  | q :: r, 0, p, h, e => by
    simp at e
    subst e
    simp only [okPs, Bool.and_eq_true] at h
    simpa using h.1
  | q :: r, i + 1, p, h, e => by
    simp only [okPs, Bool.and_eq_true] at h
    have := okPs_get (m := m + 2) (i := i) (p := p) h.2 (by simpa using e)
    rw [show m + 2 * ((i + 1 : Nat) : Int) = m + 2 + 2 * (i : Int) by omega]
    exact this
theorem okRs_get {m : Int} : ∀ {ps : List Rw} {i : Nat} {p : Rw}, okRs m ps = true → ps[i]? = some p → okR (m + i) p = true
  | [], _, _, _, e => by simp at e
  | q :: r, 0, p, h, e => by
    simp at e
    subst e
    simp only [okRs, Bool.and_eq_true] at h
    simpa using h.1
  | q :: r, i + 1, p, h, e => by
    simp only [okRs, Bool.and_eq_true] at h
    have := okRs_get (m := m + 1) (i := i) (p := p) h.2 (by simpa using e)
    rw [show m + ((i + 1 : Nat) : Int) = m + 1 + (i : Int) by omega]
    exact this
structure GrP (g : Gr) : Prop where
  p0 : 0 ≤ g.inp
  f : allR 2 g.fst = true
  ps : okPs (g0 g) g.prs = true
  n : allR (g0 g + 2 * g.prs.length) g.nxt = true
  l : g.nxt.length = g.fst.length
  o : allR (g0 g + 2 * g.prs.length) g.out = true
theorem okGr_parts {g : Gr} : okGr g = true ↔ GrP g := by
  unfold okGr
  simp only [Bool.and_eq_true, decide_eq_true_eq]
  exact ⟨fun ⟨⟨⟨a, b⟩, c⟩, ⟨⟨d, e⟩, f⟩⟩ => ⟨a, b, c, d, e, f⟩, fun ⟨a, b, c, d, e, f⟩ => ⟨⟨⟨a, b⟩, c⟩, ⟨⟨d, e⟩, f⟩⟩⟩
structure TbP (g : Tb) : Prop where
  p0 : 0 ≤ g.inp
  f : allR 2 g.fst = true
  ps : okRs (t0 g) g.rws = true
  n : allR (t0 g + g.rws.length) g.nxt = true
  l : g.nxt.length = g.fst.length
  o : allR (t0 g + g.rws.length) g.out = true
theorem okTb_parts {g : Tb} : okTb g = true ↔ TbP g := by
  unfold okTb
  simp only [Bool.and_eq_true, decide_eq_true_eq]
  exact ⟨fun ⟨⟨⟨a, b⟩, c⟩, ⟨⟨d, e⟩, f⟩⟩ => ⟨a, b, c, d, e, f⟩, fun ⟨a, b, c, d, e, f⟩ => ⟨⟨⟨a, b⟩, c⟩, ⟨⟨d, e⟩, f⟩⟩⟩
/-! ### a set of ints in order -/
theorem sorted_ext : ∀ {l m : List Int}, l.Pairwise (· < ·) → m.Pairwise (· < ·) → (∀ k, k ∈ l ↔ k ∈ m) → l = m
  | [], [], _, _, _ => rfl
  | [], y :: r, _, _, h => absurd ((h y).mpr List.mem_cons_self) (by simp)
  | x :: r, [], _, _, h => absurd ((h x).mp List.mem_cons_self) (by simp)
  | x :: r, y :: t, hl, hm, h => by
    obtain ⟨l1, l2⟩ := List.pairwise_cons.mp hl
    obtain ⟨m1, m2⟩ := List.pairwise_cons.mp hm
    have e : x = y := by
      rcases List.mem_cons.mp ((h x).mp List.mem_cons_self) with q | q
      · exact q
      · rcases List.mem_cons.mp ((h y).mpr List.mem_cons_self) with z | z
        · exact z.symm
        · have := m1 x q
          have := l1 y z
          omega
    subst e
    refine congrArg (x :: ·) (sorted_ext l2 m2 fun k => ⟨fun hk => ?_, fun hk => ?_⟩)
    · rcases List.mem_cons.mp ((h k).mp (List.mem_cons_of_mem _ hk)) with q | q
      · have := l1 k hk
        omega
      · exact q
    · rcases List.mem_cons.mp ((h k).mpr (List.mem_cons_of_mem _ hk)) with q | q
      · have := m1 k hk
        omega
      · exact q
theorem asc_pw : ∀ {l : List Int}, asc l = true ↔ l.Pairwise (· < ·)
  | [] => by simp [asc]
  | [x] => by simp [asc]
  | x :: y :: r => by
    unfold asc
    rw [Bool.and_eq_true, asc_pw (l := y :: r), decide_eq_true_iff]
    constructor
    · rintro ⟨h1, h2⟩
      refine List.pairwise_cons.mpr ⟨fun z hz => ?_, h2⟩
      rcases List.mem_cons.mp hz with rfl | hz
      · exact h1
      · exact Int.lt_trans h1 ((List.pairwise_cons.mp h2).1 z hz)
    · intro h
      obtain ⟨h1, h2⟩ := List.pairwise_cons.mp h
      exact ⟨h1 y List.mem_cons_self, h2⟩
theorem asc_set {l ns : List Int} (h : ns.Pairwise (· < ·)) (e : ∀ k, k ∈ ns ↔ k ∈ l) : asc l = decide (l = ns) := by
  rw [Bool.eq_iff_iff, asc_pw, decide_eq_true_iff]
  exact ⟨fun p => sorted_ext p h fun k => (e k).symm, fun p => p ▸ h⟩
/-! ### drawn rows -/
def sprd (b : List Int) (n : Nat) : Int := ((List.range 8).map fun c => b.getD (c - c / 2 ^ n * 2 ^ n) 0 * 2 ^ c).sum
def bitsA : Nat → List (List Int)
  | 0 => [[]]
  | n + 1 => (bitsA n).flatMap fun l => [0 :: l, 1 :: l]
theorem bitsA_mem : ∀ {l : List Int}, (∀ x ∈ l, x = 0 ∨ x = 1) → l ∈ bitsA l.length
  | [], _ => by simp [bitsA]
  | x :: r, h => by
    have ih := bitsA_mem (l := r) fun y hy => h y (List.mem_cons_of_mem _ hy)
    rw [List.length_cons, bitsA, List.mem_flatMap]
    refine ⟨r, ih, ?_⟩
    rcases h x List.mem_cons_self with rfl | rfl <;> simp
def okS (n : Nat) (b : List Int) : Bool := decide (0 ≤ sprd b n) && decide (sprd b n < 256) && ((List.range (3 - n)).map fun k => ((n + k : Nat) : Int)).all fun k => !hangs (sprd b n) k
theorem spread_all : ∀ n < 4, ∀ b ∈ bitsA (2 ^ n), okS n b = true := by decide +kernel
theorem spread_ok {n : Nat} {b : List Int} (h : n ≤ 3) (hl : b.length = 2 ^ n) (hb : ∀ x ∈ b, 0 ≤ x ∧ x < 2) : okS n b = true := by
  refine spread_all n (by omega) b ?_
  rw [← hl]
  exact bitsA_mem fun x hx => by have := hb x hx; omega
/-- a row of points that rise -/
def rowOf (us : List Int) (t : Int) : Rw := ⟨us.getD 0 0, us.getD 1 0, us.getD 2 0, t⟩
theorem rowOf_l {us : List Int} {t : Int} (h : us.length ≤ 3) : (rowOf us t).l = us ++ List.replicate (3 - us.length) 0 := by
  match us, h with
  | [], _ => rfl
  | [x], _ => rfl
  | [x, y], _ => rfl
  | [x, y, z], _ => rfl
  | _ :: _ :: _ :: _ :: _, h => simp at h
theorem rowOf_used {us : List Int} {t : Int} (h : us.length ≤ 3) (p : ∀ x ∈ us, 1 ≤ x) : used (rowOf us t) = us := by
  unfold used
  rw [rowOf_l h, List.filter_append]
  have a : us.filter (fun x => decide (0 < x)) = us := List.filter_eq_self.mpr fun x hx => decide_eq_true (by have := p x hx; omega)
  have b : (List.replicate (3 - us.length) (0 : Int)).filter (fun x => decide (0 < x)) = [] := List.filter_eq_nil_iff.mpr fun x hx => by
    rw [(List.mem_replicate.mp hx).2]
    decide
  rw [a, b, List.append_nil]
theorem okR_of {m : Int} {us : List Int} {b : List Int} (hm : 1 ≤ m) (h : us.length ≤ 3) (hs : us.Pairwise (· < ·)) (p : ∀ x ∈ us, 1 ≤ x ∧ x < m) (hb : okS us.length b = true) : okR m (rowOf us (sprd b us.length)) = true := by
  have hu := rowOf_used (t := sprd b us.length) h fun x hx => (p x hx).1
  have hl := rowOf_l (t := sprd b us.length) h
  unfold okS at hb
  simp only [Bool.and_eq_true, decide_eq_true_eq] at hb
  obtain ⟨⟨b1, b2⟩, b3⟩ := hb
  unfold okR okU okF
  rw [hu, hl]
  have e1 : allR m (us ++ List.replicate (3 - us.length) 0) = true := allR_iff.mpr fun x hx => by
    rcases List.mem_append.mp hx with hx | hx
    · have := p x hx
      omega
    · rw [(List.mem_replicate.mp hx).2]
      omega
  have e2 : inR 256 (rowOf us (sprd b us.length)).t = true := inR_iff.mpr ⟨b1, b2⟩
  rw [e1, e2, asc_pw.mpr hs, decide_eq_true rfl]
  exact b3
/-! ### steps, runs -/
abbrev Stp := Int → List Int → List Int → List Int × List Int
def v0 (fl ins : List Int) : List Int := 0 :: (ins ++ fl)
def pts (xs l : List Int) : List Int := l.map (nth xs)
def gstep (g : Gr) : Stp := fun e fl ins => (outs e (walk e (v0 fl ins) g.prs) g.out, outs e (walk e (v0 fl ins) g.prs) g.nxt)
def gstepL (g : Gr) : Stp := fun e fl ins => (outsL e (walkL e (v0 fl ins) g.prs) g.out, outsL e (walkL e (v0 fl ins) g.prs) g.nxt)
def tstep (g : Tb) : Stp := fun e fl ins => (pts (rows e (v0 fl ins) g.rws) g.out, pts (rows e (v0 fl ins) g.rws) g.nxt)
def tstepL (g : Tb) : Stp := fun e fl ins => (pts (rowsL e (v0 fl ins) g.rws) g.out, pts (rowsL e (v0 fl ins) g.rws) g.nxt)
def runP (stp : Stp) (e : Int) : List Int → List (List Int) → List (List Int)
  | _, [] => []
  | fl, i :: r => (stp e fl i).1 :: runP stp e (stp e fl i).2 r
/-- the flip-flops behind some clocks -/
def flP (stp : Stp) (e : Int) : List Int → List (List Int) → List Int
  | fl, [] => fl
  | fl, i :: r => flP stp e (stp e fl i).2 r
theorem runP_snoc {stp : Stp} {e : Int} {i : List Int} : ∀ {l : List (List Int)} {fl : List Int}, runP stp e fl (l ++ [i]) = runP stp e fl l ++ [(stp e (flP stp e fl l) i).1]
  | [], _ => rfl
  | x :: r, fl => congrArg ((stp e fl x).1 :: ·) (runP_snoc (l := r))
theorem flP_snoc {stp : Stp} {e : Int} {i : List Int} : ∀ {l : List (List Int)} {fl : List Int}, flP stp e fl (l ++ [i]) = (stp e (flP stp e fl l) i).2
  | [], _ => rfl
  | x :: r, fl => flP_snoc (l := r)
theorem v0_lan {e : Int} {fl ins : List Int} (h0 : 0 ≤ e) (hf : Lan e fl) (hi : Lan e ins) : Lan e (v0 fl ins) := fun x hx => by
  rcases List.mem_cons.mp hx with rfl | hx
  · exact ⟨Int.le_refl 0, h0⟩
  · rcases List.mem_append.mp hx with hx | hx
    · exact hi x hx
    · exact hf x hx
theorem pts_lan {e : Int} {xs : List Int} (h0 : 0 ≤ e) (h : Lan e xs) (l : List Int) : Lan e (pts xs l) := fun x hx => by
  obtain ⟨k, _, rfl⟩ := List.mem_map.mp hx
  exact h.nth h0 k
/-- a step of the program is the law's, and stays in the lanes -/
structure StpOk (L : Nat) (many : Nat) (a b : Stp) : Prop where
  eq : ∀ fl ins, Lan (2 ^ L - 1) fl → Lan (2 ^ L - 1) ins → a (2 ^ L - 1) fl ins = b (2 ^ L - 1) fl ins
  lan : ∀ fl ins, Lan (2 ^ L - 1) fl → Lan (2 ^ L - 1) ins → Lan (2 ^ L - 1) (a (2 ^ L - 1) fl ins).2
  len : ∀ e fl ins, (a e fl ins).2.length = many
theorem gstep_ok (g : Gr) (L : Nat) : StpOk L g.nxt.length (gstep g) (gstepL g) := by
  have p : (0 : Int) < 2 ^ L := Int.pow_pos (by decide)
  refine ⟨fun fl ins hf hi => ?_, fun fl ins hf hi => ?_, fun e fl ins => List.length_map ..⟩
  · obtain ⟨a, b⟩ := walk_eq g.prs (v0_lan (by omega) hf hi)
    unfold gstep gstepL
    rw [outs_eq b, outs_eq b, a]
  · exact outs_lan (walk_eq g.prs (v0_lan (by omega) hf hi)).2 _
theorem tstep_ok {g : Tb} (h : TbP g) (L : Nat) : StpOk L g.nxt.length (tstep g) (tstepL g) := by
  have p : (0 : Int) < 2 ^ L := Int.pow_pos (by decide)
  have ht : ∀ r ∈ g.rws, 0 ≤ r.t ∧ r.t < 256 := fun r hr => by
    obtain ⟨i, hi⟩ := List.getElem?_of_mem hr
    have := okRs_get h.ps hi
    unfold okR at this
    simp only [Bool.and_eq_true] at this
    exact inR_iff.mp this.1.1.2
  refine ⟨fun fl ins hf hi => ?_, fun fl ins hf hi => ?_, fun e fl ins => List.length_map ..⟩
  · obtain ⟨a, b⟩ := rows_eq g.rws (v0_lan (by omega) hf hi) ht
    unfold tstep tstepL
    rw [a]
  · exact pts_lan (by omega) (rows_eq g.rws (v0_lan (by omega) hf hi) ht).2 _
theorem run_ok {L n : Nat} {a b : Stp} (h : StpOk L n a b) : ∀ {l : List (List Int)} {fl : List Int}, Lan (2 ^ L - 1) fl → (∀ i ∈ l, Lan (2 ^ L - 1) i) → runP a (2 ^ L - 1) fl l = runP b (2 ^ L - 1) fl l
  | [], _, _, _ => rfl
  | i :: r, fl, hf, hi => by
    have hi1 := hi i List.mem_cons_self
    unfold runP
    rw [← h.eq fl i hf hi1, run_ok h (h.lan fl i hf hi1) fun j hj => hi j (List.mem_cons_of_mem _ hj)]
/-- the first flip-flops in all lanes -/
def allF (e : Int) (l : List Int) : List Int := l.map fun x => e * x
theorem allF_lan {e : Int} (h0 : 0 ≤ e) {l : List Int} (h : allR 2 l = true) : Lan e (allF e l) := fun x hx => by
  obtain ⟨k, hk, rfl⟩ := List.mem_map.mp hx
  have := allR_iff.mp h k hk
  have : k = 0 ∨ k = 1 := by omega
  rcases this with rfl | rfl
  · rw [Int.mul_zero]; exact ⟨Int.le_refl 0, h0⟩
  · rw [Int.mul_one]; exact ⟨h0, Int.le_refl e⟩
theorem allF_if {e x : Int} (h : 0 ≤ x ∧ x < 2) : (if x = 1 then e else 0) = e * x := by
  have : x = 0 ∨ x = 1 := by omega
  rcases this with rfl | rfl
  · rw [Int.mul_zero]; rfl
  · rw [Int.mul_one]; rfl
/-! ### depths -/
def mx : List Int → Int
  | [] => 0
  | [x] => x
  | x :: y :: r => max x (mx (y :: r))
theorem mx_top : ∀ {l : List Int}, ∀ x ∈ l, x ≤ mx l
  | [], _, h => by cases h
  | [y], x, h => by rw [List.mem_singleton.mp h]; exact Int.le_refl _
  | y :: z :: r, x, h => by
    unfold mx
    rcases List.mem_cons.mp h with rfl | h
    · omega
    · have := mx_top (l := z :: r) x h
      omega
theorem mx_mem : ∀ {l : List Int}, l ≠ [] → mx l ∈ l
  | [], h => absurd rfl h
  | [y], _ => List.mem_singleton.mpr rfl
  | y :: z :: r, _ => by
    have := mx_mem (l := z :: r) (by simp)
    unfold mx
    have : max y (mx (z :: r)) = y ∨ max y (mx (z :: r)) = mx (z :: r) := by omega
    rcases this with q | q <;> rw [q]
    · exact List.mem_cons_self
    · exact List.mem_cons_of_mem _ ‹_›
theorem mx_eq {l : List Int} {m : Int} (h : m ∈ l) (t : ∀ x ∈ l, x ≤ m) : m = mx l := by
  have a := mx_top m h
  have b := t _ (mx_mem (List.ne_nil_of_mem h))
  omega
def deps : List Int → List Rw → List Int
  | ds, [] => ds
  | ds, r :: q => deps (ds ++ [1 + mx (pts ds r.l)]) q
theorem deps_snoc (p : Rw) : ∀ (ps : List Rw) (ds : List Int), deps ds (ps ++ [p]) = deps ds ps ++ [1 + mx (pts (deps ds ps) p.l)]
  | [], _ => rfl
  | q :: ps, ds => deps_snoc p ps _
theorem deps_len : ∀ (ps : List Rw) (ds : List Int), (deps ds ps).length = ds.length + ps.length
  | [], _ => rfl
  | q :: ps, ds => by
    rw [deps, deps_len ps, List.length_append, List.length_cons]
    simp only [List.length_cons, List.length_nil]
    omega
def depth (g : Tb) : Int := mx (0 :: pts (deps (List.replicate (t0 g).toNat 0) g.rws) (g.nxt ++ g.out))
end M80



set_option pp.maxSteps 1500
namespace Q80
open PySem L2 G M80
open C8 (Cal Met Mak pe_c pe_mk pe_mt pe_mt0 pe_gc pss_cut tCut)
def intsD (l : List Int) : List PyData := l.map PyData.int
theorem ints_len {l : List Int} : (intsD l).length = l.length := List.length_map ..
def optV : Option Int → V
  | none => .non
  | some x => .int x
def numB (l : Int) (b : Option Int) (x : Int) : Bool := decide (l ≤ x) && (match b with | none => true | some y => decide (x < y))
theorem numB_in {m : Int} : numB 0 (some m) = inR m := rfl
/-- a list or a tuple of numbers -/
def Nums (K : PySem.W.Frag) (H : Hp) (v : V) (ns : List Int) : Prop := ∃ a : Addr, v = .ref a ∧ (SqL K H a (ns.map V.int) ∨ SqT K H a (ns.map V.int))
theorem Nums.same {K : PySem.W.Frag} {H H' : Hp} {v : V} {ns : List Int} (s : Same H H') : Nums K H v ns → Nums K H' v ns := fun ⟨a, e, h⟩ => ⟨a, e, h.imp (fun z => s.seq z) (fun z => Same.tup s z)⟩
/-- data that is a bad number -/
def badD (q : Int → Bool) : PyData → Bool
  | .int i => !q i
  | _ => false
theorem bad_empty {q : Int → Bool} {l : List Int} {ys : List V} {K : PySem.W.Frag} {H : Hp} (h : DpAll K H ys (((intsD l).filter (badD q)).map id)) : (!!ys.isEmpty) = l.all q := by
  have hy := dps_len h
  rw [List.length_map] at hy
  have e2 : ((intsD l).filter (badD q)).length = (l.filter fun i => !q i).length := by
    unfold intsD
    rw [List.filter_map, List.length_map]
    rfl
  rw [e2] at hy
  rw [Bool.not_not, Bool.eq_iff_iff, List.isEmpty_iff_length_eq_zero, hy, List.length_eq_zero_iff, List.filter_eq_nil_iff, List.all_eq_true]
  simp
section
variable {P : Program} {w : World} {K : PySem.W.Frag} {mg : Str → Option Value} {base : Heap}
/-! ### is_number, are_numbers -/
def spNum : Sp := fun vs H Q _ => ∃ (x l : Int) (b : Option Int), vs = [.int x, .int l, optV b] ∧ Q (.bl (numB l b x)) H
theorem ok_num {f : Addr} {fd : FuncData} (F : Fun K "is_number" "is_number" s_is_number f fd) (T : Txt K mg) : FnOk P w K mg base CX0 1 f fd ["value", "least", "bound"] spNum := by
  refine F.ok sc_is_number (fun vs H Q E h => ?_) (fun cdv A outer s H vs Q E hr h => ?_)
  · obtain ⟨x, l, b, rfl, _⟩ := h
    rfl
  · obtain ⟨x, l, b, rfl, k⟩ := h
    refine ⟨_, (pss_cons (ps_if (PW.pt (pw_or (pt_not (pt_val (pe_callB call_isi (by rfl) T.b_isinstance boot_isinstance' (pa_cons (pv 0) (pa_cons (pe_bltn (v := .ty "int") (by rfl) T.b_int boot_int' rfl) pa_nil))))) (pw_or (pt_val (pe_callB call_isi (by rfl) T.b_isinstance boot_isinstance' (pa_cons (pv 0) (pa_cons (pe_bltn (v := .ty "bool") (by rfl) T.b_bool boot_bool' rfl) pa_nil)))) (pw_or1 (pt_cmpR op_lt (pv 0) (pv 1) (nomark _)))))) (pss_one (ps_ret pe_bl)) pss_nil)
      (pss_one (ps_ret (pe_or (pe_cmpR op_isN (pv 2) pe_non (nomark _)) (pe_one (pe_cmpR op_lt (pv 0) (pv 2) (nomark _))))))), ?_⟩
    have hd : Dp K H (.int x) (.int x) := .int x
    refine ⟨_, rfl, _, _, _, _, _, rfl, .ty _, dp_ty hd, kitD K _ _ (by decide), _, rfl, ?_⟩
    refine iteF ⟨_, rfl, _, _, _, _, _, rfl, .ty _, dp_ty hd, kitD K _ _ (by decide), _, rfl, ?_⟩
    refine iteF ⟨_, rfl, _, rfl, _, _, rfl, rfl, _, rfl, ?_⟩
    by_cases h : x < l
    · refine ifT (decide_eq_true h) ?_
      have e : numB l b x = false := by unfold numB; rw [decide_eq_false (by omega), Bool.false_and]
      rw [e] at k
      exact k
    refine ifF (decide_eq_false h) ?_
    cases b with
    | none =>
      have e : numB l none x = true := by unfold numB; rw [decide_eq_true (by omega), Bool.true_and]
      rw [e] at k
      exact ⟨_, rfl, rfl, _, rfl, k⟩
    | some y =>
      have e : numB l (some y) x = decide (x < y) := by unfold numB; rw [decide_eq_true (by omega), Bool.true_and]
      rw [e] at k
      exact ⟨_, rfl, rfl, _, rfl, _, rfl, _, rfl, _, _, rfl, rfl, k⟩
def spAre (K : PySem.W.Frag) : Sp := fun vs H Q _ => ∃ (v : V) (ns : List Int) (m : Int), vs = [v, .int m] ∧ Nums K H v ns ∧ ns.length ≤ 1000 ∧ ∀ H', Same H H' → Q (.bl (allR m ns)) H'
theorem ok_are {f : Addr} {fd : FuncData} (F : Fun K "are_numbers" "are_numbers" s_are_numbers f fd) (T : Txt K mg) (c_is_number : Cal P w K mg base 1 "is_number" spNum []) : FnOk P w K mg base CX0 2 f fd ["values", "bound"] (spAre K) := by
  refine F.ok sc_are_numbers (fun vs H Q E h => ?_) (fun cdv A outer s H vs Q E hr h => ?_)
  · obtain ⟨v, ns, m, rfl, _⟩ := h
    rfl
  · obtain ⟨v, ns, m, rfl, ⟨a, rfl, hN⟩, hl, k⟩ := h
    rcases hN with hN | hN
    · refine ⟨_, (pss_one (ps_ret (pe_and (pe_callB call_isiT (by rfl) T.b_isinstance boot_isinstance' (pa_cons (pv 0) (pa_cons (pe_tup (pa_cons (pe_bltn (v := .ty "tuple") (by rfl) T.b_tuple boot_tuple' rfl) (pa_cons (pe_bltn (v := .ty "list") (by rfl) T.b_list boot_list' rfl) pa_nil))) pa_nil))) (pe_one (pe_notT (pe_lc (own := [("one", 2)]) rfl sc_are_numbers.nd (pi_list (pv 0)) (blkOk_by (own := [("one", 2)]) (N := ["values", "bound", "one"]) (sc := defScope s_are_numbers) (by decide +kernel)) (fun _ _ _ _ _ => (pg_name (i := 2) sc_are_numbers.nd rfl (Or.inl rfl))) (fun _ _ _ _ _ => (pts_one (pt_not (pt_val (pe_c c_is_number hr (by omega) rfl (pa_cons (pv 2) (pa_cons pe_int (pa_cons (pv 1) pa_nil)))))))) (fun _ _ _ _ _ => (pv 2)))))))), ?_⟩
      refine ⟨_, rfl, by decide, fun p n1 => ?_⟩
      have s1 := same_new (o := HO.tup [V.ty "tuple", V.ty "list"]) n1
      have hd : Dp K _ (.ref a) (.list (intsD ns)) := .lst (s1.seq hN) (dps_ints _)
      refine ⟨_, _, _, _, _, _, rfl, upd_same, clsv2 _ _, dp_ty hd, kitD2 K _ _ _ (by decide) (by decide), _, rfl, ?_⟩
      refine iteT ⟨_, rfl, a, rfl, ⟨_, s1.seq hN⟩, fun D hD => ?_⟩
      refine lc_data (K := K) (a := a) (xs := ns.map V.int) (ds := intsD ns) (badD (inR m)) id (s1.seq hN) (dps_ints _) hD (by rw [ints_len]; omega) ?_ ?_
      · intro v d G acc R dm hv sG hG ha hno hyes
        obtain ⟨i, hi, rfl⟩ := List.mem_map.mp dm
        cases dp_int hv
        refine ⟨rfl, _, rfl, _, rfl, i, 0, some m, rfl, _, rfl, ?_⟩
        rw [numB_in]
        by_cases h : inR m i = true
        · exact ifF (by rw [h]; rfl) (hno (by show (!inR m i) = false; rw [h]; rfl) G (Same.refl _) hG)
        · have h := Bool.eq_false_iff.mpr h
          refine ifT (by rw [h]; rfl) ⟨_, rfl, acc, upd_same, ha, ?_⟩
          rw [upd_app]
          exact hyes (by show (!inR m i) = true; rw [h]; rfl) G _ (Same.refl _) hG (.int i)
      · intro G ys sG hG hys
        refine ⟨_, .inl ⟨ys, SqL.of upd_same, rfl⟩, ?_⟩
        rw [bad_empty hys]
        exact k _ ((s1.trans sG).trans (same_new hG))
    · refine ⟨_, (pss_one (ps_ret (pe_and (pe_callB call_isiT (by rfl) T.b_isinstance boot_isinstance' (pa_cons (pv 0) (pa_cons (pe_tup (pa_cons (pe_bltn (v := .ty "tuple") (by rfl) T.b_tuple boot_tuple' rfl) (pa_cons (pe_bltn (v := .ty "list") (by rfl) T.b_list boot_list' rfl) pa_nil))) pa_nil))) (pe_one (pe_notT (pe_lc (own := [("one", 2)]) rfl sc_are_numbers.nd (pi_tup (pv 0)) (blkOk_by (own := [("one", 2)]) (N := ["values", "bound", "one"]) (sc := defScope s_are_numbers) (by decide +kernel)) (fun _ _ _ _ _ => (pg_name (i := 2) sc_are_numbers.nd rfl (Or.inl rfl))) (fun _ _ _ _ _ => (pts_one (pt_not (pt_val (pe_c c_is_number hr (by omega) rfl (pa_cons (pv 2) (pa_cons pe_int (pa_cons (pv 1) pa_nil)))))))) (fun _ _ _ _ _ => (pv 2)))))))), ?_⟩
      refine ⟨_, rfl, by decide, fun p n1 => ?_⟩
      have s1 := same_new (o := HO.tup [V.ty "tuple", V.ty "list"]) n1
      have hd : Dp K _ (.ref a) (.tuple (intsD ns)) := .tup (Same.tup s1 hN) (dps_ints _)
      refine ⟨_, _, _, _, _, _, rfl, upd_same, clsv2 _ _, dp_ty hd, kitD2 K _ _ _ (by decide) (by decide), _, rfl, ?_⟩
      refine iteT ⟨_, rfl, a, rfl, ⟨_, Same.tup s1 hN⟩, fun D hD => ?_⟩
      refine lc_dataT (K := K) (a := a) (xs := ns.map V.int) (ds := intsD ns) (badD (inR m)) id (Same.tup s1 hN) (dps_ints _) hD (by rw [ints_len]; omega) ?_ ?_
      · intro v d G acc R dm hv sG hG ha hno hyes
        obtain ⟨i, hi, rfl⟩ := List.mem_map.mp dm
        cases dp_int hv
        refine ⟨rfl, _, rfl, _, rfl, i, 0, some m, rfl, _, rfl, ?_⟩
        rw [numB_in]
        by_cases h : inR m i = true
        · exact ifF (by rw [h]; rfl) (hno (by show (!inR m i) = false; rw [h]; rfl) G (Same.refl _) hG)
        · have h := Bool.eq_false_iff.mpr h
          refine ifT (by rw [h]; rfl) ⟨_, rfl, acc, upd_same, ha, ?_⟩
          rw [upd_app]
          exact hyes (by show (!inR m i) = true; rw [h]; rfl) G _ (Same.refl _) hG (.int i)
      · intro G ys sG hG hys
        refine ⟨_, .inl ⟨ys, SqL.of upd_same, rfl⟩, ?_⟩
        rw [bad_empty hys]
        exact k _ ((s1.trans sG).trans (same_new hG))
/-! ### data of graphs and of tables -/
def prD (p : Pr) : PyData := .tuple [.int p.1, .int p.2]
def rwD (r : Rw) : PyData := .tuple [.int r.a, .int r.b, .int r.c, .int r.t]
def lvD (inp : Int) (fst nxt : List Int) (ds : List PyData) (out : List Int) : PyData := .tuple [.int inp, .list (intsD fst), .list (intsD nxt), .list ds, .list (intsD out)]
def grD (g : Gr) : PyData := lvD g.inp g.fst g.nxt (g.prs.map prD) g.out
def tbD (g : Tb) : PyData := lvD g.inp g.fst g.nxt (g.rws.map rwD) g.out
def SmL (fst nxt out : List Int) (n : Nat) : Prop := fst.length ≤ 1000 ∧ nxt.length ≤ 1000 ∧ n ≤ 1000 ∧ out.length ≤ 1000
theorem lv_dp {H : Hp} {v : V} {inp : Int} {fst nxt out : List Int} {ds : List PyData} (h : Dp K H v (lvD inp fst nxt ds out)) : ∃ (a af an ag ao : Addr) (xg : List V), v = .ref a ∧ SqT K H a [.int inp, .ref af, .ref an, .ref ag, .ref ao] ∧ SqL K H af (fst.map V.int) ∧ SqL K H an (nxt.map V.int) ∧
    SqL K H ag xg ∧ DpAll K H xg ds ∧ SqL K H ao (out.map V.int) := by
  obtain ⟨a, xs, rfl, hx, hxs⟩ := dp_tup h
  obtain ⟨v0, v1, v2, v3, v4, rfl, d0, d1, d2, d3, d4⟩ := dps5 hxs
  cases dp_int d0
  obtain ⟨af, xf, rfl, hf, hfs⟩ := dp_lst d1
  obtain ⟨an, xn, rfl, hn, hns⟩ := dp_lst d2
  obtain ⟨ag, xg, rfl, hg, hgs⟩ := dp_lst d3
  obtain ⟨ao, xo, rfl, ho, hos⟩ := dp_lst d4
  cases dps_ints_of hfs
  cases dps_ints_of hns
  cases dps_ints_of hos
  exact ⟨a, af, an, ag, ao, xg, rfl, hx, hf, hn, hg, hgs, ho⟩
theorem numB_none {x : Int} : numB 0 none x = decide (0 ≤ x) := by unfold numB; rw [Bool.and_true]
theorem ne_len {a b : Nat} (h : ¬ a = b) : (!decide (V.int (a : Int) = V.int (b : Int))) = true := by
  rw [Bool.not_eq_true', decide_eq_false_iff_not]
  intro e
  injection e with e
  omega
theorem eq_len {a b : Nat} (h : a = b) : (!decide (V.int (a : Int) = V.int (b : Int))) = false := by rw [h, decide_eq_true rfl]; rfl
/-! ### check_graph -/
def spChkG (K : PySem.W.Frag) (C : Addr) : Sp := fun vs H Q E => ∃ (v : V) (g : Gr), vs = [v] ∧ Dp K H v (grD g) ∧ SmL g.fst g.nxt g.out g.prs.length ∧ (okGr g = true → ∀ H', Same H H' → Q .non H') ∧ (okGr g = false → RaiseF C "form" H E)
theorem ok_chkG {C : Addr} {f : Addr} {fd : FuncData} (F : Fun K "check_graph" "check_graph" s_check_graph f fd) (T : Txt K mg) (c_InvalidGraph : Erm P w K mg base 1 "InvalidGraph" C "what") (c_is_number : Cal P w K mg base 1 "is_number" spNum []) (c_are_numbers : Cal P w K mg base 2 "are_numbers" (spAre K) []) :
    FnOk P w K mg base (L2.CX P w) 3 f fd ["graph"] (spChkG K C) := by
  refine F.okX sc_check_graph (fun vs H Q E h => ?_) (fun cdv A outer s H vs Q E hr h => ?_)
  · obtain ⟨v, g, rfl, _⟩ := h
    rfl
  · obtain ⟨v, g, rfl, hd, hs, ky, kn⟩ := h
    obtain ⟨a, af, an, ag, ao, xg, rfl, hx, hF, hN, hG, hGs, hO⟩ := lv_dp hd
    refine ⟨_, (pss_cons (ps_if (PW.pt (pw_or (pt_not (pt_val (pe_callB call_isi (by rfl) T.b_isinstance boot_isinstance' (pa_cons (pv 0) (pa_cons (pe_bltn (v := .ty "tuple") (by rfl) T.b_tuple boot_tuple' rfl) pa_nil))))) (pw_or (pt_cmpR op_ne (pe_callB call_len_seq (by rfl) T.b_len boot_len' (pa_cons (pv 0) pa_nil)) pe_int (nomark _)) (pw_or1 (pt_not (pt_val (pe_c c_is_number hr (by omega) rfl (pa_cons (pe_ix ix_tup (pv 0) pe_int (fun _ _ => rfl)) (pa_cons pe_int (pa_cons pe_non pa_nil)))))))))) (pss_one (ps_raise rfl (takes_of rfl rfl rfl rfl) (pmk_e c_InvalidGraph hr (by omega) rfl (pa_cons pe_str pa_nil)))) pss_nil)
      (pss_cons (ps_asg (pv 0) (pg_tup rfl (pgs_cons (pg_name (i := 1) sc_check_graph.nd rfl (Or.inl rfl)) (pgs_cons (pg_name (i := 2) sc_check_graph.nd rfl (Or.inl rfl)) (pgs_cons (pg_name (i := 3) sc_check_graph.nd rfl (Or.inl rfl)) (pgs_cons (pg_name (i := 4) sc_check_graph.nd rfl (Or.inl rfl)) (pgs_cons (pg_name (i := 5) sc_check_graph.nd rfl (Or.inl rfl)) pgs_nil)))))))
      (pss_cons (ps_if (PW.pt (pw_or (pt_not (pt_val (pe_c c_are_numbers hr (by omega) rfl (pa_cons (pv 2) (pa_cons pe_int pa_nil))))) (pw_or1 (pt_not (pt_val (pe_callB call_isiT (by rfl) T.b_isinstance boot_isinstance' (pa_cons (pv 4) (pa_cons (pe_tup (pa_cons (pe_bltn (v := .ty "tuple") (by rfl) T.b_tuple boot_tuple' rfl) (pa_cons (pe_bltn (v := .ty "list") (by rfl) T.b_list boot_list' rfl) pa_nil))) pa_nil)))))))) (pss_one (ps_raise rfl (takes_of rfl rfl rfl rfl) (pmk_e c_InvalidGraph hr (by omega) rfl (pa_cons pe_str pa_nil)))) pss_nil)
      (pss_cons (ps_set (i := 6) sc_check_graph.nd rfl (Or.inl rfl) (pe_op op_mul pe_int (pe_op op_add (pe_op op_add pe_int (pv 1)) (pe_callB call_len_seq (by rfl) T.b_len boot_len' (pa_cons (pv 2) pa_nil)))))
      (pss_cons (ps_for (passes_of rfl) rfl (pi_list (pv 4)) (pg_name (i := 7) sc_check_graph.nd rfl (Or.inl rfl)) (pss_cons (ps_if (PW.pt (pw_or (pt_not (pt_val (pe_callB call_isi (by rfl) T.b_isinstance boot_isinstance' (pa_cons (pv 7) (pa_cons (pe_bltn (v := .ty "tuple") (by rfl) T.b_tuple boot_tuple' rfl) pa_nil))))) (pw_or (pt_cmpR op_ne (pe_callB call_len_seq (by rfl) T.b_len boot_len' (pa_cons (pv 7) pa_nil)) pe_int (nomark _)) (pw_or (pt_not (pt_val (pe_c c_are_numbers hr (by omega) rfl (pa_cons (pv 7) (pa_cons (pv 6) pa_nil))))) (pw_or1 (pt_cmpR op_ge (pe_ix ix_tup (pv 7) pe_int (fun _ _ => rfl)) (pe_ix ix_tup (pv 7) pe_int (fun _ _ => rfl)) (nomark _))))))) (pss_one (ps_raise rfl (takes_of rfl rfl rfl rfl) (pmk_e c_InvalidGraph hr (by omega) rfl (pa_cons pe_str pa_nil)))) pss_nil)
      (pss_one (ps_aug (i := 6) sc_check_graph.nd rfl (Or.inl rfl) pe_int ip_add))))
      (pss_one (ps_if (PW.pt (pw_or (pt_not (pt_val (pe_c c_are_numbers hr (by omega) rfl (pa_cons (pv 3) (pa_cons (pv 6) pa_nil))))) (pw_or (pt_cmpR op_ne (pe_callB call_len_seq (by rfl) T.b_len boot_len' (pa_cons (pv 3) pa_nil)) (pe_callB call_len_seq (by rfl) T.b_len boot_len' (pa_cons (pv 2) pa_nil)) (nomark _)) (pw_or1 (pt_not (pt_val (pe_c c_are_numbers hr (by omega) rfl (pa_cons (pv 5) (pa_cons (pv 6) pa_nil))))))))) (pss_one (ps_raise rfl (takes_of rfl rfl rfl rfl) (pmk_e c_InvalidGraph hr (by omega) rfl (pa_cons pe_str pa_nil)))) pss_nil))))))), ?_⟩
    refine ⟨_, rfl, _, _, _, _, _, rfl, .ty _, dp_ty hd, kitD K _ _ (by decide), _, rfl, ?_⟩
    refine iteF ⟨_, rfl, a, _, rfl, .inr hx, rfl, _, rfl, ?_⟩
    refine ifF (ne_int0 rfl) ⟨_, rfl, a, _, 0, _, rfl, rfl, hx, atI_nat (j := 0) rfl, g.inp, 0, none, rfl, _, rfl, ?_⟩
    rw [numB_none]
    by_cases p0 : ¬ 0 ≤ g.inp
    · refine ifT (by rw [decide_eq_false p0]; rfl) ⟨_, rfl, fun d m => (kn ?_).here (Same.refl _) m⟩
      unfold okGr
      rw [decide_eq_false p0]
      rfl
    have p0 : 0 ≤ g.inp := Decidable.of_not_not p0
    refine ifF (by rw [decide_eq_true p0]; rfl) ?_
    refine ⟨_, rfl, a, _, rfl, hx, rfl, ?_⟩
    refine ⟨_, _, rfl, _, _, rfl, _, _, rfl, _, _, rfl, _, _, rfl, rfl, ?_⟩
    refine ⟨_, rfl, .ref af, g.fst, 2, rfl, ⟨af, rfl, .inl hF⟩, hs.1, fun H1 s1 => ⟨_, rfl, ?_⟩⟩
    by_cases p1 : allR 2 g.fst = false
    · refine ifT (by rw [p1]; rfl) (iteT ⟨_, rfl, fun d m => (kn ?_).here s1 m⟩)
      unfold okGr
      rw [p1]
      simp
    have p1 : allR 2 g.fst = true := by simpa using p1
    refine ifF (by rw [p1]; rfl) ?_
    refine ⟨_, rfl, by decide, fun p n1 => ?_⟩
    have s2 := s1.trans (same_new (o := HO.tup [V.ty "tuple", V.ty "list"]) n1)
    refine ⟨_, _, _, _, _, _, rfl, upd_same, clsv2 _ _, dp_ty (d := .list (g.prs.map prD)) (.lst (s2.seq hG) (dps_same s2 hGs)), kitD2 K _ _ _ (by decide) (by decide), _, rfl, iteF ?_⟩
    refine ⟨_, rfl, _, _, rfl, rfl, _, rfl, af, _, rfl, .inl (s2.seq hF), _, _, rfl, rfl, _, _, rfl, rfl, .inl ⟨by decide, by decide⟩, ?_⟩
    generalize upd H1 p _ = H2 at s2
    refine ⟨_, rfl, ag, rfl, ⟨_, s2.seq hG⟩, for_list (K := K) (a := ag) (xs := xg) (fun i σ H' => ∃ (o7 : Option V) (Hs : Same H H'),
      σ = [some (.ref a), some (.int g.inp), some (.ref af), some (.ref an), some (.ref ag), some (.ref ao), some (.int (g0 g + 2 * i)), o7] ∧ okPs (g0 g) g.prs = okPs (g0 g + 2 * i) (g.prs.drop i))
      ⟨none, s2, ?_, ?_⟩ ?_ ?_ ?_⟩
    · rw [show g0 g + 2 * ((0 : Nat) : Int) = 2 * (1 + g.inp + ((g.fst.map V.int).length : Nat)) by rw [List.length_map]; unfold g0; omega]
      rfl
    · simp
    · rintro i σ H' _ ⟨o7, Hs, _, _⟩
      exact Hs.seq hG
    · rintro i x σ H' hi ⟨o7, Hs, rfl, hk⟩
      obtain ⟨d, hdi, dx⟩ := dps_getv hGs hi
      rw [List.getElem?_map] at hdi
      obtain ⟨pr, hpr, rfl⟩ := Option.map_eq_some_iff.mp hdi
      have hdr : g.prs.drop i = pr :: g.prs.drop (i + 1) := by
        rw [List.drop_eq_getElem?_toList_append, hpr]
        rfl
      rw [hdr] at hk
      obtain ⟨ap, xp, rfl, hp, hps⟩ := dp_tup (dp_same Hs dx)
      cases dps_ints_of (ns := [pr.1, pr.2]) hps
      have bad : okP (g0 g + 2 * i) pr = false → okGr g = false := fun e => by
        unfold okGr
        rw [hk, okPs, e]
        simp
      refine ⟨_, rfl, _, _, _, _, _, rfl, .ty _, dp_ty (dp_same Hs dx), kitD K _ _ (by decide), _, rfl, ?_⟩
      refine iteF ⟨_, rfl, ap, _, rfl, .inr hp, rfl, _, rfl, ?_⟩
      refine ifF (ne_int0 rfl) ⟨_, rfl, _, rfl, .ref ap, [pr.1, pr.2], _, rfl, ⟨ap, rfl, .inr hp⟩, (show 2 ≤ 1000 by decide), fun H3 s3 => ⟨_, rfl, ?_⟩⟩
      have s4 := Hs.trans s3
      by_cases p2 : allR (g0 g + 2 * i) [pr.1, pr.2] = false
      · refine ifT (by rw [p2]; rfl) (iteT ⟨_, rfl, fun d m => (kn (bad ?_)).here s4 m⟩)
        unfold okP
        rw [p2]
        rfl
      have p2 : allR (g0 g + 2 * i) [pr.1, pr.2] = true := by simpa using p2
      refine ifF (by rw [p2]; rfl) ?_
      refine ⟨_, rfl, ap, _, 0, _, rfl, rfl, Same.tup s3 hp, atI_nat (j := 0) rfl, _, rfl, ap, _, 1, _, rfl, rfl, Same.tup s3 hp, atI_nat (j := 1) rfl, _, _, rfl, rfl, _, rfl, ?_⟩
      by_cases p3 : pr.2 ≤ pr.1
      · refine ifT (decide_eq_true p3) ⟨_, rfl, fun d m => (kn (bad ?_)).here s4 m⟩
        unfold okP
        rw [decide_eq_false (p := pr.1 < pr.2) (by omega), Bool.and_false]
      refine ifF (decide_eq_false p3) ?_
      have good : okP (g0 g + 2 * i) pr = true := by
        unfold okP
        rw [p2, decide_eq_true (p := pr.1 < pr.2) (by omega)]
        rfl
      refine ⟨_, rfl, _, _, rfl, rfl, some (.ref ap), s4, ?_, ?_⟩
      · rw [show g0 g + 2 * ((i + 1 : Nat) : Int) = g0 g + 2 * i + 2 by omega]
        rfl
      · rw [hk, okPs, good, show g0 g + 2 * ((i + 1 : Nat) : Int) = g0 g + 2 * i + 2 by omega, Bool.true_and]
    · rintro σ H' ⟨o7, Hs, rfl, hk⟩
      have hgl : xg.length = g.prs.length := by
        rw [dps_len hGs, List.length_map]
      have hk : okPs (g0 g) g.prs = true := by
        rw [hk, hgl, List.drop_length]
        rfl
      have ok : okGr g = (allR (g0 g + 2 * g.prs.length) g.nxt && decide (g.nxt.length = g.fst.length) && allR (g0 g + 2 * g.prs.length) g.out) := by
        unfold okGr
        rw [decide_eq_true p0, p1, hk]
        rfl
      rw [hgl]
      refine ⟨_, rfl, _, rfl, .ref an, g.nxt, _, rfl, ⟨an, rfl, .inl (Hs.seq hN)⟩, hs.2.1, fun H3 s3 => ⟨_, rfl, ?_⟩⟩
      have s4 := Hs.trans s3
      by_cases p2 : allR (g0 g + 2 * g.prs.length) g.nxt = false
      · refine ifT (by rw [p2]; rfl) (iteT ⟨_, rfl, fun d m => (kn ?_).here s4 m⟩)
        rw [ok, p2]
        rfl
      have p2 : allR (g0 g + 2 * g.prs.length) g.nxt = true := by simpa using p2
      refine ifF (by rw [p2]; rfl) ?_
      refine ⟨_, rfl, an, _, rfl, .inl (s4.seq hN), _, rfl, af, _, rfl, .inl (s4.seq hF), rfl, _, rfl, ?_⟩
      rw [List.length_map, List.length_map]
      by_cases p3 : ¬ g.nxt.length = g.fst.length
      · refine ifT (ne_len p3) (iteT ⟨_, rfl, fun d m => (kn ?_).here s4 m⟩)
        rw [ok, decide_eq_false p3]
        simp
      have p3 : g.nxt.length = g.fst.length := Decidable.of_not_not p3
      refine ifF (eq_len p3) ?_
      refine ⟨_, rfl, _, rfl, .ref ao, g.out, _, rfl, ⟨ao, rfl, .inl (s4.seq hO)⟩, hs.2.2.2, fun H5 s5 => ⟨_, rfl, ?_⟩⟩
      have s6 := s4.trans s5
      rw [p2, decide_eq_true p3, Bool.true_and, Bool.true_and] at ok
      by_cases p4 : allR (g0 g + 2 * g.prs.length) g.out = false
      · refine ifT (by rw [p4]; rfl) ⟨_, rfl, fun d m => (kn ?_).here s6 m⟩
        rw [ok, p4]
      have p4 : allR (g0 g + 2 * g.prs.length) g.out = true := by simpa using p4
      exact ifF (by rw [p4]; rfl) (ky (by rw [ok, p4]) _ s6)
end
end Q80



set_option pp.maxSteps 1500
namespace Q80
open PySem L2 G M80
open C8 (Cal Met Mak pe_c pe_mk pe_mt pe_mt0 pe_gc pss_cut tCut)
section
variable {P : Program} {w : World} {K : PySem.W.Frag} {mg : Str → Option Value} {base : Heap}
/-! ### hangs_on -/
def spHang : Sp := fun vs H Q _ => ∃ (t k : Int), vs = [.int t, .int k] ∧ 0 ≤ k ∧ k < 3 ∧ Q (.bl (hangs t k)) H
theorem nth3 {k : Int} (h0 : 0 ≤ k) (h1 : k < 3) : atI [V.int 170, V.int 204, V.int 240] k = some (.int (nth cases3 k)) := by
  have : k = 0 ∨ k = 1 ∨ k = 2 := by omega
  rcases this with rfl | rfl | rfl <;> rfl
theorem ok_hang {f : Addr} {fd : FuncData} (F : Fun K "hangs_on" "hangs_on" s_hangs_on f fd) (T : Txt K mg) : FnOk P w K mg base CX0 1 f fd ["byte", "at"] spHang := by
  refine F.ok sc_hangs_on (fun vs H Q E h => ?_) (fun cdv A outer s H vs Q E hr h => ?_)
  · obtain ⟨t, k, rfl, _⟩ := h
    rfl
  · obtain ⟨t, k, rfl, k0, k1, q⟩ := h
    obtain ⟨vC, g_CASES, dC⟩ := T.c_CASES
    obtain ⟨vE, g_EVERY, dE⟩ := T.c_EVERY
    refine ⟨_, (pss_cons (ps_set (i := 2) sc_hangs_on.nd rfl (Or.inl rfl) (pe_op op_shl pe_int (pv 1)))
      (pss_one (ps_ret (pe_cmpR op_ne (pe_op op_shr (pe_op op_and (pv 0) (pe_ix ix_tup (pe_gc (by rfl) g_CASES) (pv 1) (fun _ _ => rfl))) (pv 2)) (pe_op op_and (pv 0) (pe_op op_xor (pe_gc (by rfl) g_EVERY) (pe_ix ix_tup (pe_gc (by rfl) g_CASES) (pv 1) (fun _ _ => rfl)))) (nomark _))))), ?_⟩
    obtain ⟨aC, xC, eC, hC, hCs⟩ := dp_tup (dC H)
    subst eC
    cases dps_ints_of (ns := cases3) hCs
    have eE := dp_int (dE H)
    subst eE
    refine ⟨_, rfl, _, _, rfl, rfl, ⟨by omega, by omega, by decide⟩, ?_⟩
    refine ⟨_, rfl, _, rfl, aC, _, k, _, rfl, rfl, hC, nth3 k0 k1, _, _, rfl, rfl, _, rfl, _, _, rfl, rfl, ?_, _, rfl, _, rfl, aC, _, k, _, rfl, rfl, hC, nth3 k0 k1, _, _, rfl, rfl, _, _, rfl, rfl, rfl, ?_⟩
    · have : (0 : Int) < 2 ^ k.toNat := Int.pow_pos (by decide)
      omega
    have e : ((1 : Int) * 2 ^ k.toNat).toNat = 2 ^ k.toNat := by
      have : k = 0 ∨ k = 1 ∨ k = 2 := by omega
      rcases this with rfl | rfl | rfl <;> rfl
    show Q (V.bl (!decide (V.int (Builtin.bitAnd t (nth cases3 k) / 2 ^ ((1 : Int) * 2 ^ k.toNat).toNat) = V.int (Builtin.bitAnd t (Builtin.bitXor 255 (nth cases3 k)))))) H
    rw [e]
    have h : hangs t k = !decide (V.int (Builtin.bitAnd t (nth cases3 k) / 2 ^ 2 ^ k.toNat) = V.int (Builtin.bitAnd t (Builtin.bitXor 255 (nth cases3 k)))) := by
      unfold hangs
      simp only [V.int.injEq, decide_not]
    rw [h] at q
    exact q
/-! ### is_row -/
theorem shaped_ints (l : List Int) : SeqAt.shaped (.list (intsD l)) = true := shaped_flat (n := 1) (flats_ints 0 l) (by decide)
theorem pur_ints (l : List Int) : pur (.list (intsD l)) = true := purs_ints l
theorem eqv_ints (a b : List Int) : PyData.eqv (.list (intsD a)) (.list (intsD b)) = decide (a = b) := by
  rw [Bool.eq_iff_iff, eqv_iff (pur_ints a) (pur_ints b) (shaped_ints a), decide_eq_true_iff]
  constructor
  · intro e
    injection e with e
    exact List.map_inj_right (fun _ _ h => PyData.int.inj h) |>.mp e
  · rintro rfl
    rfl
theorem rep_ints (n : Nat) (x : Int) : (List.replicate n [V.int x]).flatten = (List.replicate n x).map V.int := by
  induction n with
  | zero => rfl
  | succ n ih => rw [List.replicate_succ, List.replicate_succ, List.flatten_cons, ih]; rfl
theorem dp_lsti {K : PySem.W.Frag} {H : Hp} {a : Addr} {l : List Int} (h : SqL K H a (l.map V.int)) : Dp K H (.ref a) (.list (intsD l)) := .lst h (dps_ints _)
theorem rw_dp {H : Hp} {v : V} {r : Rw} (h : Dp K H v (rwD r)) : ∃ a, v = .ref a ∧ SqT K H a [.int r.a, .int r.b, .int r.c, .int r.t] := by
  obtain ⟨a, xs, rfl, hx, hxs⟩ := dp_tup h
  cases dps_ints_of (ns := [r.a, r.b, r.c, r.t]) hxs
  exact ⟨a, rfl, hx⟩
def spRow (K : PySem.W.Frag) : Sp := fun vs H Q _ => ∃ (v : V) (r : Rw) (m : Int), vs = [v, .int m] ∧ Dp K H v (rwD r) ∧ ∀ H', Same H H' → Q (.bl (okR m r)) H'
theorem ok_row {f : Addr} {fd : FuncData} (F : Fun K "is_row" "is_row" s_is_row f fd) (T : Txt K mg) (c_is_number : Cal P w K mg base 1 "is_number" spNum []) (c_are_numbers : Cal P w K mg base 2 "are_numbers" (spAre K) []) (c_hangs_on : Cal P w K mg base 1 "hangs_on" spHang []) :
    FnOk P w K mg base CX0 3 f fd ["row", "bound"] (spRow K) := by
  refine F.ok sc_is_row (fun vs H Q E h => ?_) (fun cdv A outer s H vs Q E hr h => ?_)
  · obtain ⟨v, r, m, rfl, _⟩ := h
    rfl
  · obtain ⟨v, r, m, rfl, hd, k⟩ := h
    have hu := hu_of hr
    obtain ⟨a, rfl, hx⟩ := rw_dp hd
    have l3 : ∀ x ∈ r.l, True := fun _ _ => trivial
    refine ⟨_, (pss_cons (ps_if (PW.pt (pw_or (pt_not (pt_val (pe_callB call_isi (by rfl) T.b_isinstance boot_isinstance' (pa_cons (pv 0) (pa_cons (pe_bltn (v := .ty "tuple") (by rfl) T.b_tuple boot_tuple' rfl) pa_nil))))) (pw_or (pt_cmpR op_ne (pe_callB call_len_seq (by rfl) T.b_len boot_len' (pa_cons (pv 0) pa_nil)) pe_int (nomark _)) (pw_or (pt_not (pt_val (pe_c c_are_numbers hr (by omega) rfl (pa_cons (pe_slice sl_tupA (pv 0) po_none (po_some pe_int)) (pa_cons (pv 1) pa_nil))))) (pw_or1 (pt_not (pt_val (pe_c c_is_number hr (by omega) rfl (pa_cons (pe_ix ix_tup (pv 0) pe_int (fun _ _ => rfl)) (pa_cons pe_int (pa_cons pe_int pa_nil))))))))))) (pss_one (ps_ret pe_bl)) pss_nil)
      (pss_cons (ps_setLc (i := 2) (own := [("point", 3)]) rfl sc_is_row.nd rfl rfl (sw_true rfl rfl rfl (by decide +kernel)) (pi_tup (pe_slice sl_tupA (pv 0) po_none (po_some pe_int))) (blkOk_by (own := [("point", 3)]) (N := ["row", "bound", "used", "point", "at"]) (sc := defScope s_is_row) (by decide +kernel)) (fun _ _ _ _ _ => (pg_name (i := 3) sc_is_row.nd rfl (Or.inl rfl))) (fun _ _ _ _ _ => (pts_one (pt_cmpR op_gt (pv 3) pe_int (nomark _)))) (fun _ _ _ _ _ => (pv 3)))
      (pss_cons (ps_if (PW.pt (pw_or (pt_cmpR (op_neD hr.units) (pe_callTy call_list_of (by rfl) T.b_list boot_list' (pa_cons (pe_slice sl_tupA (pv 0) po_none (po_some pe_int)) pa_nil)) (pe_op op_cat (pv 2) (pe_op op_rep (pe_lst (pa_cons pe_int pa_nil)) (pe_op op_sub pe_int (pe_callB call_len_seq (by rfl) T.b_len boot_len' (pa_cons (pv 2) pa_nil))))) (nomark _)) (pw_or1 (pt_cmpR (op_neD hr.units) (pv 2) (pe_callB (cr_sortedSet rfl) (by rfl) T.b_sorted boot_sorted' (pa_cons (pe_callTy (cr_setL rfl) (by rfl) T.b_set boot_set' (pa_cons (pv 2) pa_nil)) pa_nil)) (nomark _))))) (pss_one (ps_ret pe_bl)) pss_nil)
      (pss_one (ps_ret (pe_notT (pe_lc (own := [("at", 4)]) rfl sc_is_row.nd (pi_range2 (by rfl) T.b_range (pa_cons (pe_callB call_len_seq (by rfl) T.b_len boot_len' (pa_cons (pv 2) pa_nil)) (pa_cons pe_int pa_nil))) (blkOk_by (own := [("at", 4)]) (N := ["row", "bound", "used", "point", "at"]) (sc := defScope s_is_row) (by decide +kernel)) (fun _ _ _ _ _ => (pg_name (i := 4) sc_is_row.nd rfl (Or.inl rfl))) (fun _ _ _ _ _ => (pts_one (pt_val (pe_c c_hangs_on hr (by omega) rfl (pa_cons (pe_ix (ix_tupK (K := K) rfl) (pv 0) pe_int (fun _ _ => rfl)) (pa_cons (pv 4) pa_nil)))))) (fun _ _ _ _ _ => (pv 4))))))))), ?_⟩
    refine ⟨_, rfl, _, _, _, _, _, rfl, .ty _, dp_ty hd, kitD K _ _ (by decide), _, rfl, ?_⟩
    refine iteF ⟨_, rfl, a, _, rfl, .inr hx, rfl, _, rfl, ?_⟩
    refine ifF (ne_int0 rfl) ⟨_, rfl, 3, rfl, ?_⟩
    refine slA_new hx fun b H1 s1 hb => ?_
    rw [show cutV [V.int r.a, V.int r.b, V.int r.c, V.int r.t] none (some 3) = r.l.map V.int from rfl] at hb
    refine ⟨_, rfl, .ref b, r.l, m, rfl, ⟨b, rfl, .inr hb⟩, (show 3 ≤ 1000 by decide), fun H2 s2 => ⟨_, rfl, ?_⟩⟩
    have s12 := s1.trans s2
    have bad : (allR m r.l && inR 256 r.t) = false → okR m r = false := fun e => by unfold okR; rw [e, Bool.false_and, Bool.false_and]
    by_cases p1 : allR m r.l = false
    · refine ifT (by rw [p1]; rfl) (iteT ?_)
      have q := k _ s12
      rw [bad (by rw [p1]; rfl)] at q
      exact q
    have p1 : allR m r.l = true := by simpa using p1
    refine ifF (by rw [p1]; rfl) ?_
    refine ⟨_, rfl, a, _, 3, _, rfl, rfl, Same.tup s12 hx, atI_nat (j := 3) rfl, r.t, 0, some 256, rfl, _, rfl, ?_⟩
    rw [numB_in]
    by_cases p2 : inR 256 r.t = false
    · refine ifT (by rw [p2]; rfl) ?_
      have q := k _ s12
      rw [bad (by rw [p2]; simp)] at q
      exact q
    have p2 : inR 256 r.t = true := by simpa using p2
    refine ifF (by rw [p2]; rfl) ?_
    have ok : okR m r = (okU r && okF r) := by
      unfold okR
      rw [p1, p2]
      rfl
    -- used
    refine ⟨_, rfl, 3, rfl, ?_⟩
    refine slA_new (Same.tup s12 hx) fun b2 H3 s3 hb2 => ⟨b2, rfl, ⟨_, hb2⟩, fun D hD => ?_⟩
    rw [show cutV [V.int r.a, V.int r.b, V.int r.c, V.int r.t] none (some 3) = r.l.map V.int from rfl] at hb2
    refine lc_dataT (K := K) (a := b2) (xs := r.l.map V.int) (ds := intsD r.l) (fun d => match d with | .int i => decide (0 < i) | _ => false) id hb2 (dps_ints _) hD (show 3 ≤ 100000 by decide) ?_ ?_
    · intro v d G acc R dm hv sG hG ha hno hyes
      obtain ⟨i, hi, rfl⟩ := List.mem_map.mp dm
      cases dp_int hv
      refine ⟨rfl, _, rfl, _, _, rfl, rfl, _, rfl, ?_⟩
      by_cases h : 0 < i
      · refine ifT (decide_eq_true h) ⟨_, rfl, acc, upd_same, ha, ?_⟩
        rw [upd_app]
        exact hyes (decide_eq_true h) G _ (Same.refl _) hG (.int i)
      · exact ifF (decide_eq_false h) (hno (decide_eq_false h) G (Same.refl _) hG)
    · intro G ys sG hG hys
      have eu : (List.map id ((intsD r.l).filter (fun d => match d with | .int i => decide (0 < i) | _ => false))) = intsD (used r) := by
        rw [List.map_id]
        unfold intsD used
        rw [List.filter_map]
        rfl
      rw [eu] at hys
      cases dps_ints_of hys
      have s4 := ((s12.trans s3).trans sG).trans (same_new (o := HO.lst ((used r).map V.int)) hG)
      have hD2 : upd G D (.lst ((used r).map V.int)) D = some (.lst ((used r).map V.int)) := upd_same
      generalize upd G D (.lst ((used r).map V.int)) = H4 at s4 hD2
      have lu : (used r).length ≤ 3 := List.length_filter_le _ _
      refine ⟨_, rfl, 3, rfl, ?_⟩
      refine slA_new (Same.tup s4 hx) fun b3 H5 s5 hb3 => ⟨b3, _, rfl, .inr hb3, fun p1 m1 => ?_⟩
      rw [show cutV [V.int r.a, V.int r.b, V.int r.c, V.int r.t] none (some 3) = r.l.map V.int from rfl]
      have t1 := same_new (o := HO.lst (r.l.map V.int)) m1
      refine ⟨_, rfl, (show 1 ≤ sizeLine by decide), fun p2 m2 => ?_⟩
      have t2 := same_new (o := HO.lst [V.int 0]) m2
      refine ⟨_, rfl, D, _, rfl, .inl (SqL.of (t2 _ _ (t1 _ _ (s5 _ _ hD2)))), _, _, rfl, rfl, ?_⟩
      have ek : V.int ((3 : Int) - ((((used r).map V.int).length : Nat) : Int)) = V.int ((3 - (used r).length : Nat) : Int) := by
        rw [List.length_map]
        congr 1
        omega
      refine ⟨p2, ((3 - (used r).length : Nat) : Int), _, rfl, ek, upd_same, by omega, by omega, Nat.le_trans (show 1 * _ ≤ 3 by omega) (by decide), fun p3 m3 => ?_⟩
      rw [rep_ints, Int.toNat_natCast]
      have t3 := same_new (o := HO.lst ((List.replicate (3 - (used r).length) 0).map V.int)) m3
      refine ⟨D, p3, _, _, rfl, rfl, t3 _ _ (t2 _ _ (t1 _ _ (s5 _ _ hD2))), upd_same, Nat.le_trans (show _ ≤ 6 by rw [List.length_map, List.length_map, List.length_replicate]; omega) (by decide), fun p4 m4 => ?_⟩
      rw [← List.map_append]
      have t4 := same_new (o := HO.lst ((used r ++ List.replicate (3 - (used r).length) 0).map V.int)) m4
      refine ⟨_, _, dp_lsti (l := r.l) (SqL.of (((t2.trans t3).trans t4) _ _ upd_same)), dp_lsti (SqL.of upd_same), shaped_ints _, shaped_ints _, _, rfl, ?_⟩
      rw [eqv_ints]
      have s6 := ((((s4.trans s5).trans t1).trans t2).trans t3).trans t4
      by_cases p3 : r.l = used r ++ List.replicate (3 - (used r).length) 0
      · refine ifF (by rw [decide_eq_true p3]; rfl) ?_
        have hD9 := (((t1.trans t2).trans t3).trans t4) _ _ (s5 _ _ hD2)
        generalize upd (upd (upd (upd H5 p1 _) p2 _) _ _) p4 _ = H6 at s6 hD9
        refine ⟨_, rfl, _, rfl, D, used r, rfl, SqL.of hD9, by omega, fun c q hc hq => ⟨q, _, c, rfl, upd_same, by omega, fun ns p5 so mem ln hp => ?_⟩⟩
        have s7 := (same_new (o := SetO _ q (fun j => decide (j ∈ used r)) c) hq).trans (same_new (o := HO.lst (ns.map V.int)) hp)
        refine ⟨_, _, dp_lsti (SqL.of (s7 _ _ hD9)), dp_lsti (SqL.of upd_same), shaped_ints _, shaped_ints _, _, rfl, ?_⟩
        rw [eqv_ints, ← asc_set so fun k => by rw [mem k, decide_eq_true_eq]]
        have hDa := s7 _ _ hD9
        have s8 := s6.trans s7
        generalize upd (upd H6 q _) p5 _ = H7 at s8 hDa
        have eU : okU r = asc (used r) := by
          unfold okU
          rw [decide_eq_true p3, Bool.true_and]
        by_cases p6 : asc (used r) = false
        · refine ifT (by rw [p6]; rfl) ?_
          have z := k _ s8
          rw [ok, eU, p6] at z
          exact z
        have p6 : asc (used r) = true := by simpa using p6
        refine ifF (by rw [p6]; rfl) ?_
        refine ⟨_, rfl, D, _, rfl, .inl (SqL.of hDa), _, _, rfl, ⟨by omega, by rw [List.length_map]; omega, by decide, by decide⟩, fun D2 hD2 => ?_⟩
        rw [List.length_map]
        refine lc_range (lo := ((used r).length : Nat)) (n := ((3 : Int) - ((used r).length : Nat)).toNat) (fun i H' => H' = upd H7 D2 (.lst ((((List.range i).map fun k => (((used r).length + k : Nat) : Int)).filter fun k => hangs r.t k).map V.int))) rfl (fun i G2 hi e => ?_) ?_
        · subst e
          refine ⟨rfl, _, rfl, a, _, 3, _, rfl, rfl, Same.tup (same_new hD2) (Same.tup s8 hx), atI_nat (j := 3) rfl, _, rfl, r.t, _, rfl, by omega, by omega, _, rfl, ?_⟩
          have es : (((List.range (i + 1)).map fun k => (((used r).length + k : Nat) : Int)).filter fun k => hangs r.t k) = (((List.range i).map fun k => (((used r).length + k : Nat) : Int)).filter fun k => hangs r.t k) ++ (if hangs r.t (((used r).length : Nat) + (i : Nat) : Int) = true then [(((used r).length : Nat) + (i : Nat) : Int)] else []) := by
            rw [List.range_succ, List.map_append, List.filter_append, List.map_singleton, List.filter_cons, List.filter_nil]
            rfl
          rw [es]
          by_cases h : hangs r.t (((used r).length : Nat) + (i : Nat) : Int) = true
          · refine ifT h ⟨_, rfl, _, upd_same, ?_, ?_⟩
            · refine Nat.lt_of_le_of_lt (show _ ≤ 3 from ?_) (by decide)
              rw [List.length_map]
              refine Nat.le_trans (List.length_filter_le _ _) ?_
              rw [List.length_map, List.length_range]
              omega
            · rw [upd_app, if_pos h, List.map_append]
              rfl
          · refine ifF (Bool.eq_false_iff.mpr h) ?_
            rw [if_neg h, List.append_nil]
        · rintro G2 rfl
          refine ⟨_, .inl ⟨_, SqL.of upd_same, rfl⟩, ?_⟩
          have z := k _ (s8.trans (same_new (o := HO.lst ((((List.range ((3 : Int) - ((used r).length : Nat)).toNat).map fun k => (((used r).length + k : Nat) : Int)).filter fun k => hangs r.t k).map V.int)) hD2))
          have eF : okR m r = (!!((((List.range ((3 : Int) - ((used r).length : Nat)).toNat).map fun k => (((used r).length + k : Nat) : Int)).filter fun k => hangs r.t k).map V.int).isEmpty) := by
            rw [ok, eU, p6, Bool.true_and, Bool.not_not]
            unfold okF
            rw [show ((3 : Int) - ((used r).length : Nat)).toNat = 3 - (used r).length by omega]
            rw [Bool.eq_iff_iff, List.isEmpty_iff, List.map_eq_nil_iff, List.filter_eq_nil_iff, List.all_eq_true]
            simp
          rw [eF] at z
          exact z
      · refine ifT (by rw [decide_eq_false p3]; rfl) (iteT ?_)
        have z := k _ s6
        have eU : okU r = false := by
          unfold okU
          rw [decide_eq_false p3, Bool.false_and]
        rw [ok, eU] at z
        exact z
/-! ### check_tables -/
def spChkT (K : PySem.W.Frag) (C : Addr) : Sp := fun vs H Q E => ∃ (v : V) (g : Tb), vs = [v] ∧ Dp K H v (tbD g) ∧ SmL g.fst g.nxt g.out g.rws.length ∧ (okTb g = true → ∀ H', Same H H' → Q .non H') ∧ (okTb g = false → RaiseF C "form" H E)
theorem ok_chkT {C : Addr} {f : Addr} {fd : FuncData} (F : Fun K "check_tables" "check_tables" s_check_tables f fd) (T : Txt K mg) (c_InvalidTables : Erm P w K mg base 1 "InvalidTables" C "what") (c_is_number : Cal P w K mg base 1 "is_number" spNum []) (c_are_numbers : Cal P w K mg base 2 "are_numbers" (spAre K) []) (c_is_row : Cal P w K mg base 3 "is_row" (spRow K) []) :
    FnOk P w K mg base (L2.CX P w) 4 f fd ["tables"] (spChkT K C) := by
  refine F.okX sc_check_tables (fun vs H Q E h => ?_) (fun cdv A outer s H vs Q E hr h => ?_)
  · obtain ⟨v, g, rfl, _⟩ := h
    rfl
  · obtain ⟨v, g, rfl, hd, hs, ky, kn⟩ := h
    obtain ⟨a, af, an, ag, ao, xg, rfl, hx, hF, hN, hG, hGs, hO⟩ := lv_dp hd
    refine ⟨_, (pss_cons (ps_if (PW.pt (pw_or (pt_not (pt_val (pe_callB call_isi (by rfl) T.b_isinstance boot_isinstance' (pa_cons (pv 0) (pa_cons (pe_bltn (v := .ty "tuple") (by rfl) T.b_tuple boot_tuple' rfl) pa_nil))))) (pw_or (pt_cmpR op_ne (pe_callB call_len_seq (by rfl) T.b_len boot_len' (pa_cons (pv 0) pa_nil)) pe_int (nomark _)) (pw_or1 (pt_not (pt_val (pe_c c_is_number hr (by omega) rfl (pa_cons (pe_ix ix_tup (pv 0) pe_int (fun _ _ => rfl)) (pa_cons pe_int (pa_cons pe_non pa_nil)))))))))) (pss_one (ps_raise rfl (takes_of rfl rfl rfl rfl) (pmk_e c_InvalidTables hr (by omega) rfl (pa_cons pe_str pa_nil)))) pss_nil)
      (pss_cons (ps_asg (pv 0) (pg_tup rfl (pgs_cons (pg_name (i := 1) sc_check_tables.nd rfl (Or.inl rfl)) (pgs_cons (pg_name (i := 2) sc_check_tables.nd rfl (Or.inl rfl)) (pgs_cons (pg_name (i := 3) sc_check_tables.nd rfl (Or.inl rfl)) (pgs_cons (pg_name (i := 4) sc_check_tables.nd rfl (Or.inl rfl)) (pgs_cons (pg_name (i := 5) sc_check_tables.nd rfl (Or.inl rfl)) pgs_nil)))))))
      (pss_cons (ps_if (PW.pt (pw_or (pt_not (pt_val (pe_c c_are_numbers hr (by omega) rfl (pa_cons (pv 2) (pa_cons pe_int pa_nil))))) (pw_or1 (pt_not (pt_val (pe_callB call_isiT (by rfl) T.b_isinstance boot_isinstance' (pa_cons (pv 4) (pa_cons (pe_tup (pa_cons (pe_bltn (v := .ty "tuple") (by rfl) T.b_tuple boot_tuple' rfl) (pa_cons (pe_bltn (v := .ty "list") (by rfl) T.b_list boot_list' rfl) pa_nil))) pa_nil)))))))) (pss_one (ps_raise rfl (takes_of rfl rfl rfl rfl) (pmk_e c_InvalidTables hr (by omega) rfl (pa_cons pe_str pa_nil)))) pss_nil)
      (pss_cons (ps_set (i := 6) sc_check_tables.nd rfl (Or.inl rfl) (pe_op op_add (pe_op op_add pe_int (pv 1)) (pe_callB call_len_seq (by rfl) T.b_len boot_len' (pa_cons (pv 2) pa_nil))))
      (pss_cons (ps_for (passes_of rfl) rfl (pi_list (pv 4)) (pg_name (i := 7) sc_check_tables.nd rfl (Or.inl rfl)) (pss_cons (ps_if (pt_not (pt_val (pe_c c_is_row hr (by omega) rfl (pa_cons (pv 7) (pa_cons (pv 6) pa_nil))))) (pss_one (ps_raise rfl (takes_of rfl rfl rfl rfl) (pmk_e c_InvalidTables hr (by omega) rfl (pa_cons pe_str pa_nil)))) pss_nil)
      (pss_one (ps_aug (i := 6) sc_check_tables.nd rfl (Or.inl rfl) pe_int ip_add))))
      (pss_one (ps_if (PW.pt (pw_or (pt_not (pt_val (pe_c c_are_numbers hr (by omega) rfl (pa_cons (pv 3) (pa_cons (pv 6) pa_nil))))) (pw_or (pt_cmpR op_ne (pe_callB call_len_seq (by rfl) T.b_len boot_len' (pa_cons (pv 3) pa_nil)) (pe_callB call_len_seq (by rfl) T.b_len boot_len' (pa_cons (pv 2) pa_nil)) (nomark _)) (pw_or1 (pt_not (pt_val (pe_c c_are_numbers hr (by omega) rfl (pa_cons (pv 5) (pa_cons (pv 6) pa_nil))))))))) (pss_one (ps_raise rfl (takes_of rfl rfl rfl rfl) (pmk_e c_InvalidTables hr (by omega) rfl (pa_cons pe_str pa_nil)))) pss_nil))))))), ?_⟩
    refine ⟨_, rfl, _, _, _, _, _, rfl, .ty _, dp_ty hd, kitD K _ _ (by decide), _, rfl, ?_⟩
    refine iteF ⟨_, rfl, a, _, rfl, .inr hx, rfl, _, rfl, ?_⟩
    refine ifF (ne_int0 rfl) ⟨_, rfl, a, _, 0, _, rfl, rfl, hx, atI_nat (j := 0) rfl, g.inp, 0, none, rfl, _, rfl, ?_⟩
    rw [numB_none]
    by_cases p0 : ¬ 0 ≤ g.inp
    · refine ifT (by rw [decide_eq_false p0]; rfl) ⟨_, rfl, fun d m => (kn ?_).here (Same.refl _) m⟩
      unfold okTb
      rw [decide_eq_false p0]
      rfl
    have p0 : 0 ≤ g.inp := Decidable.of_not_not p0
    refine ifF (by rw [decide_eq_true p0]; rfl) ?_
    refine ⟨_, rfl, a, _, rfl, hx, rfl, ?_⟩
    refine ⟨_, _, rfl, _, _, rfl, _, _, rfl, _, _, rfl, _, _, rfl, rfl, ?_⟩
    refine ⟨_, rfl, .ref af, g.fst, 2, rfl, ⟨af, rfl, .inl hF⟩, hs.1, fun H1 s1 => ⟨_, rfl, ?_⟩⟩
    by_cases p1 : allR 2 g.fst = false
    · refine ifT (by rw [p1]; rfl) (iteT ⟨_, rfl, fun d m => (kn ?_).here s1 m⟩)
      unfold okTb
      rw [p1]
      simp
    have p1 : allR 2 g.fst = true := by simpa using p1
    refine ifF (by rw [p1]; rfl) ?_
    refine ⟨_, rfl, by decide, fun p n1 => ?_⟩
    have s2 := s1.trans (same_new (o := HO.tup [V.ty "tuple", V.ty "list"]) n1)
    refine ⟨_, _, _, _, _, _, rfl, upd_same, clsv2 _ _, dp_ty (d := .list (g.rws.map rwD)) (.lst (s2.seq hG) (dps_same s2 hGs)), kitD2 K _ _ _ (by decide) (by decide), _, rfl, iteF ?_⟩
    refine ⟨_, rfl, _, _, rfl, rfl, _, rfl, af, _, rfl, .inl (s2.seq hF), _, _, rfl, rfl, ?_⟩
    generalize upd H1 p _ = H2 at s2
    refine ⟨_, rfl, ag, rfl, ⟨_, s2.seq hG⟩, for_list (K := K) (a := ag) (xs := xg) (fun i σ H' => ∃ (o7 : Option V) (Hs : Same H H'),
      σ = [some (.ref a), some (.int g.inp), some (.ref af), some (.ref an), some (.ref ag), some (.ref ao), some (.int (t0 g + i)), o7] ∧ okRs (t0 g) g.rws = okRs (t0 g + i) (g.rws.drop i))
      ⟨none, s2, ?_, ?_⟩ ?_ ?_ ?_⟩
    · rw [show t0 g + ((0 : Nat) : Int) = 1 + g.inp + ((g.fst.map V.int).length : Nat) by rw [List.length_map]; unfold t0; omega]
      rfl
    · simp
    · rintro i σ H' _ ⟨o7, Hs, _, _⟩
      exact Hs.seq hG
    · rintro i x σ H' hi ⟨o7, Hs, rfl, hk⟩
      obtain ⟨d, hdi, dx⟩ := dps_getv hGs hi
      rw [List.getElem?_map] at hdi
      obtain ⟨pr, hpr, rfl⟩ := Option.map_eq_some_iff.mp hdi
      have hdr : g.rws.drop i = pr :: g.rws.drop (i + 1) := by
        rw [List.drop_eq_getElem?_toList_append, hpr]
        rfl
      rw [hdr] at hk
      refine ⟨_, rfl, _, rfl, x, pr, _, rfl, dp_same Hs dx, fun H3 s3 => ⟨_, rfl, ?_⟩⟩
      have s4 := Hs.trans s3
      by_cases p2 : okR (t0 g + i) pr = false
      · refine ifT (by rw [p2]; rfl) ⟨_, rfl, fun d m => (kn ?_).here s4 m⟩
        unfold okTb
        rw [hk, okRs, p2]
        simp
      have p2 : okR (t0 g + i) pr = true := by simpa using p2
      refine ifF (by rw [p2]; rfl) ?_
      refine ⟨_, rfl, _, _, rfl, rfl, some x, s4, ?_, ?_⟩
      · rw [show t0 g + ((i + 1 : Nat) : Int) = t0 g + i + 1 by omega]
        rfl
      · rw [hk, okRs, p2, show t0 g + ((i + 1 : Nat) : Int) = t0 g + i + 1 by omega, Bool.true_and]
    · rintro σ H' ⟨o7, Hs, rfl, hk⟩
      have hgl : xg.length = g.rws.length := by
        rw [dps_len hGs, List.length_map]
      have hk : okRs (t0 g) g.rws = true := by
        rw [hk, hgl, List.drop_length]
        rfl
      have ok : okTb g = (allR (t0 g + g.rws.length) g.nxt && decide (g.nxt.length = g.fst.length) && allR (t0 g + g.rws.length) g.out) := by
        unfold okTb
        rw [decide_eq_true p0, p1, hk]
        rfl
      rw [hgl]
      refine ⟨_, rfl, _, rfl, .ref an, g.nxt, _, rfl, ⟨an, rfl, .inl (Hs.seq hN)⟩, hs.2.1, fun H3 s3 => ⟨_, rfl, ?_⟩⟩
      have s4 := Hs.trans s3
      by_cases p2 : allR (t0 g + g.rws.length) g.nxt = false
      · refine ifT (by rw [p2]; rfl) (iteT ⟨_, rfl, fun d m => (kn ?_).here s4 m⟩)
        rw [ok, p2]
        rfl
      have p2 : allR (t0 g + g.rws.length) g.nxt = true := by simpa using p2
      refine ifF (by rw [p2]; rfl) ?_
      refine ⟨_, rfl, an, _, rfl, .inl (s4.seq hN), _, rfl, af, _, rfl, .inl (s4.seq hF), rfl, _, rfl, ?_⟩
      rw [List.length_map, List.length_map]
      by_cases p3 : ¬ g.nxt.length = g.fst.length
      · refine ifT (ne_len p3) (iteT ⟨_, rfl, fun d m => (kn ?_).here s4 m⟩)
        rw [ok, decide_eq_false p3]
        simp
      have p3 : g.nxt.length = g.fst.length := Decidable.of_not_not p3
      refine ifF (eq_len p3) ?_
      refine ⟨_, rfl, _, rfl, .ref ao, g.out, _, rfl, ⟨ao, rfl, .inl (s4.seq hO)⟩, hs.2.2.2, fun H5 s5 => ⟨_, rfl, ?_⟩⟩
      have s6 := s4.trans s5
      rw [p2, decide_eq_true p3, Bool.true_and, Bool.true_and] at ok
      by_cases p4 : allR (t0 g + g.rws.length) g.out = false
      · refine ifT (by rw [p4]; rfl) ⟨_, rfl, fun d m => (kn ?_).here s6 m⟩
        rw [ok, p4]
      have p4 : allR (t0 g + g.rws.length) g.out = true := by simpa using p4
      exact ifF (by rw [p4]; rfl) (ky (by rw [ok, p4]) _ s6)
end
end Q80



set_option pp.maxSteps 1500
namespace Q80
open PySem L2 G M80
open C8 (Cal Met Mak pe_c pe_mk pe_mt pe_mt0 pe_gc pss_cut tCut)
/-- the lanes and numbers of a clock fit -/
def fits (inp : Int) (fst : List Int) (L : Int) (fl ins : List Int) : Bool := decide (1 ≤ L) && (allR (2 ^ L.toNat) fl && decide (fl.length = fst.length)) && (allR (2 ^ L.toNat) ins && decide ((ins.length : Int) = inp))
section
variable {P : Program} {w : World} {K : PySem.W.Frag} {mg : Str → Option Value} {base : Heap}
/-! ### clock_fits -/
def spFits (K : PySem.W.Frag) : Sp := fun vs H Q _ => ∃ (v vf vi : V) (inp : Int) (fst nxt out : List Int) (ds : List PyData) (L : Int) (fl ins : List Int), vs = [v, .int L, vf, vi] ∧ Dp K H v (lvD inp fst nxt ds out) ∧ Nums K H vf fl ∧ Nums K H vi ins ∧ fl.length ≤ 1000 ∧ ins.length ≤ 1000 ∧ L ≤ 100 ∧
  ∀ H', Same H H' → Q (.bl (fits inp fst L fl ins)) H'
theorem ok_fits {f : Addr} {fd : FuncData} (F : Fun K "clock_fits" "clock_fits" s_clock_fits f fd) (T : Txt K mg) (c_is_number : Cal P w K mg base 1 "is_number" spNum []) (c_are_numbers : Cal P w K mg base 2 "are_numbers" (spAre K) []) :
    FnOk P w K mg base CX0 3 f fd ["level", "lanes", "flops", "inputs"] (spFits K) := by
  refine F.ok sc_clock_fits (fun vs H Q E h => ?_) (fun cdv A outer s H vs Q E hr h => ?_)
  · obtain ⟨v, vf, vi, inp, fst, nxt, out, ds, L, fl, ins, rfl, _⟩ := h
    rfl
  · obtain ⟨v, vf, vi, inp, fst, nxt, out, ds, L, fl, ins, rfl, hd, hf, hi, lf, li, hL, k⟩ := h
    obtain ⟨a, af, an, ag, ao, xg, rfl, hx, hF, hN, hG, hGs, hO⟩ := lv_dp hd
    refine ⟨_, (pss_cons (ps_if (pt_not (pt_val (pe_c c_is_number hr (by omega) rfl (pa_cons (pv 1) (pa_cons pe_int (pa_cons pe_non pa_nil)))))) (pss_one (ps_ret pe_bl)) pss_nil)
      (pss_cons (ps_if (PW.pt (pw_or (pt_not (pt_val (pe_c c_are_numbers hr (by omega) rfl (pa_cons (pv 2) (pa_cons (pe_op op_shl pe_int (pv 1)) pa_nil))))) (pw_or1 (pt_cmpR op_ne (pe_callB call_len_seq (by rfl) T.b_len boot_len' (pa_cons (pv 2) pa_nil)) (pe_callB call_len_seq (by rfl) T.b_len boot_len' (pa_cons (pe_ix ix_tup (pv 0) pe_int (fun _ _ => rfl)) pa_nil)) (nomark _))))) (pss_one (ps_ret pe_bl)) pss_nil)
      (pss_one (ps_ret (pe_and (pe_c c_are_numbers hr (by omega) rfl (pa_cons (pv 3) (pa_cons (pe_op op_shl pe_int (pv 1)) pa_nil))) (pe_one (pe_cmpR op_eq (pe_callB call_len_seq (by rfl) T.b_len boot_len' (pa_cons (pv 3) pa_nil)) (pe_ix ix_tup (pv 0) pe_int (fun _ _ => rfl)) (nomark _)))))))), ?_⟩
    refine ⟨_, rfl, L, 1, none, rfl, _, rfl, ?_⟩
    have e1 : numB 1 none L = decide (1 ≤ L) := by unfold numB; rw [Bool.and_true]
    rw [e1]
    by_cases p1 : ¬ 1 ≤ L
    · refine ifT (by rw [decide_eq_false p1]; rfl) ?_
      have z := k _ (Same.refl _)
      unfold fits at z
      rw [decide_eq_false p1] at z
      exact z
    have p1 : 1 ≤ L := Decidable.of_not_not p1
    refine ifF (by rw [decide_eq_true p1]; rfl) ?_
    have ok : fits inp fst L fl ins = ((allR (2 ^ L.toNat) fl && decide (fl.length = fst.length)) && (allR (2 ^ L.toNat) ins && decide ((ins.length : Int) = inp))) := by
      unfold fits
      rw [decide_eq_true p1, Bool.true_and]
    refine ⟨_, rfl, _, rfl, _, _, rfl, rfl, ⟨by omega, by omega, by decide⟩, vf, fl, _, rfl, hf, lf, fun H1 s1 => ⟨_, rfl, ?_⟩⟩
    rw [Int.one_mul]
    by_cases p2 : allR (2 ^ L.toNat) fl = false
    · refine ifT (by rw [p2]; rfl) (iteT ?_)
      have z := k _ s1
      rw [ok, p2] at z
      exact z
    have p2 : allR (2 ^ L.toNat) fl = true := by simpa using p2
    refine ifF (by rw [p2]; rfl) ?_
    obtain ⟨al, rfl, hf1⟩ := Nums.same s1 hf
    refine ⟨_, rfl, al, _, rfl, hf1, _, rfl, a, _, 1, _, rfl, rfl, Same.tup s1 hx, atI_nat (j := 1) rfl, af, _, rfl, .inl (s1.seq hF), rfl, _, rfl, ?_⟩
    rw [List.length_map, List.length_map]
    by_cases p3 : ¬ fl.length = fst.length
    · refine ifT (ne_len p3) ?_
      have z := k _ s1
      rw [ok, decide_eq_false p3, Bool.and_false] at z
      exact z
    have p3 : fl.length = fst.length := Decidable.of_not_not p3
    refine ifF (eq_len p3) ?_
    rw [p2, decide_eq_true p3, Bool.true_and, Bool.true_and] at ok
    refine ⟨_, rfl, _, rfl, _, _, rfl, rfl, ⟨by omega, by omega, by decide⟩, vi, ins, _, rfl, Nums.same s1 hi, li, fun H2 s2 => ⟨_, rfl, ?_⟩⟩
    rw [Int.one_mul]
    have s3 := s1.trans s2
    by_cases p4 : allR (2 ^ L.toNat) ins = false
    · refine ifF p4 ?_
      have z := k _ s3
      rw [ok, p4] at z
      exact z
    have p4 : allR (2 ^ L.toNat) ins = true := by simpa using p4
    refine ifT p4 ?_
    obtain ⟨ai, rfl, hi2⟩ := Nums.same s3 hi
    refine ⟨_, rfl, ai, _, rfl, hi2, _, rfl, a, _, 0, _, rfl, rfl, Same.tup s3 hx, atI_nat (j := 0) rfl, rfl, ?_⟩
    have z := k _ s3
    have e : decide (V.int (((ins.map V.int).length : Nat) : Int) = V.int inp) = fits inp fst L fl ins := by
      rw [ok, p4, Bool.true_and, List.length_map]
      simp only [V.int.injEq]
    rw [← e] at z
    exact z
/-! ### walked, taken -/
theorem cdiv2 {x : Int} : CDiv x 2 := by refine ⟨?_, ?_⟩ <;> decide
theorem if_turn {j : Nat} {x e : Int} {σ : L2.St} {H : Hp} {Q : VK} (hi : σ[j]? = some (some (.int e))) (q : Q (.int (if x % 2 = 1 then e else 0)) H) : if decide (V.int (x % 2) = V.int 1) = true then tVar j σ H Q else tC (V.int 0) σ H Q := by
  by_cases h : x % 2 = 1
  · rw [if_pos h] at q
    exact ifT (decide_eq_true (by rw [h])) ⟨_, hi, q⟩
  · rw [if_neg h] at q
    exact ifF (decide_eq_false fun z => h (V.int.inj z)) q
theorem half_at {xs : List Int} {k : Int} (h0 : 0 ≤ k) (h1 : k < 2 * xs.length) : atI (xs.map V.int) (k / 2) = some (.int (nth xs (k / 2))) := int_atI (by omega) (by omega)
theorem okP_range {m : Int} {p : Pr} (h : okP m p = true) : (0 ≤ p.1 ∧ p.1 < m) ∧ (0 ≤ p.2 ∧ p.2 < m) ∧ p.1 < p.2 := by
  unfold okP at h
  simp only [Bool.and_eq_true, decide_eq_true_eq] at h
  have q := allR_iff.mp h.1
  exact ⟨q _ (by simp), q _ (by simp), h.2⟩
def spWalk (K : PySem.W.Frag) : Sp := fun vs H Q _ => ∃ (v : V) (p : Addr) (e : Int) (ps : List Pr) (xs : List Int) (H0 : Hp), vs = [v, .ref p, .int e] ∧ Dp K H0 v (.list (ps.map prD)) ∧ ps.length ≤ 1000 ∧ xs.length ≤ 5000 ∧ H0 p = none ∧ Same H0 H ∧ H p = some (.lst (xs.map V.int)) ∧ okPs (2 * xs.length) ps = true ∧
  ∀ H', Same H0 H' → H' p = some (.lst ((walk e xs ps).map V.int)) → Q (.ref p) H'
theorem ok_walk {f : Addr} {fd : FuncData} (F : Fun K "walked" "walked" s_walked f fd) (T : Txt K mg) : FnOk P w K mg base CX0 1 f fd ["pairs", "values", "every"] (spWalk K) := by
  refine F.ok sc_walked (fun vs H Q E h => ?_) (fun cdv A outer s H vs Q E hr h => ?_)
  · obtain ⟨v, p, e, ps, xs, H0, rfl, _⟩ := h
    rfl
  · obtain ⟨v, p, e, ps, xs, H0, rfl, hd, lp, lx, np, s0, hp, ok, k⟩ := h
    obtain ⟨ag, xg, rfl, hG, hGs⟩ := dp_lst hd
    refine ⟨_, (pss_cons (ps_for PassesOwn.never rfl (pi_list (pv 0)) (pg_tup rfl (pgs_cons (pg_name (i := 3) sc_walked.nd rfl (Or.inl rfl)) (pgs_cons (pg_name (i := 4) sc_walked.nd rfl (Or.inl rfl)) pgs_nil))) (pss_cons (ps_set (i := 5) sc_walked.nd rfl (Or.inl rfl) (pe_op op_xor (pe_ix ix_list (pv 1) (pe_op op_fdiv (pv 3) pe_int) (fun _ _ => rfl)) (pe_ifExp (pt_cmpR op_eq (pe_op op_mod (pv 3) pe_int) pe_int (nomark _)) (pv 2) pe_int)))
      (pss_one (ps_expr (pe_bm PySem.F.plainAttrs_list PySem.F.slot_list_append PySem.F.type_list_append mt_append (pv 1) (pa_cons (pe_op op_and (pv 5) (pe_op op_xor (pe_ix ix_list (pv 1) (pe_op op_fdiv (pv 4) pe_int) (fun _ _ => rfl)) (pe_ifExp (pt_cmpR op_eq (pe_op op_mod (pv 4) pe_int) pe_int (nomark _)) (pv 2) pe_int))) pa_nil))))))
      (pss_one (ps_ret (pv 1)))), ?_⟩
    refine ⟨_, rfl, ag, rfl, ⟨_, s0.seq hG⟩, for_list (K := K) (a := ag) (xs := xg) (fun i σ H' => ∃ (o3 o4 o5 : Option V) (Hs : Same H0 H'), σ = [some (.ref ag), some (.ref p), some (.int e), o3, o4, o5] ∧ H' p = some (.lst ((walk e xs (ps.take i)).map V.int)))
      ⟨none, none, none, s0, rfl, hp⟩ ?_ ?_ ?_⟩
    · rintro i σ H' _ ⟨_, _, _, Hs, _, _⟩
      exact Hs.seq hG
    · rintro i x σ H' hi ⟨o3, o4, o5, Hs, rfl, h6⟩
      obtain ⟨d, hdi, dx⟩ := dps_getv hGs hi
      rw [List.getElem?_map] at hdi
      obtain ⟨pr, hpr, rfl⟩ := Option.map_eq_some_iff.mp hdi
      obtain ⟨ap, xp, rfl, hpt, hps⟩ := dp_tup (dp_same Hs dx)
      cases dps_ints_of (ns := [pr.1, pr.2]) hps
      have il : i < ps.length := (List.getElem?_eq_some_iff.mp hpr).1
      obtain ⟨r1, r2, r3⟩ := okP_range (okPs_get ok hpr)
      have hlen : (walk e xs (ps.take i)).length = xs.length + i := by
        rw [walk_len, List.length_take]
        omega
      have hrun := walk_snoc (e := e) pr (ps.take i) xs
      rw [← take_snoc hpr] at hrun
      generalize walk e xs (ps.take i) = cur at h6 hlen hrun
      refine ⟨ap, _, rfl, hpt, rfl, _, _, rfl, _, _, rfl, rfl, ?_⟩
      refine ⟨_, rfl, _, rfl, _, _, rfl, rfl, cdiv2, p, _, _, _, rfl, rfl, SqL.of h6, half_at r1.1 (by omega), ?_⟩
      refine ⟨_, rfl, _, _, rfl, rfl, (show (0 : Int) < 2 by decide), rfl, _, rfl, if_turn (x := pr.1) rfl ⟨_, _, rfl, rfl, ?_⟩⟩
      refine ⟨_, rfl, .inl ⟨rfl, _, SqL.of h6⟩, _, rfl, _, rfl, _, rfl, _, _, rfl, rfl, cdiv2, p, _, _, _, rfl, rfl, SqL.of h6, half_at r2.1 (by omega), ?_⟩
      refine ⟨_, rfl, _, _, rfl, rfl, (show (0 : Int) < 2 by decide), rfl, _, rfl, if_turn (x := pr.2) rfl ⟨_, _, rfl, rfl, _, _, rfl, rfl, _, _, _, rfl, rfl, h6, size_lt (by rw [List.length_map, hlen]; omega), ?_⟩⟩
      refine ⟨_, _, _, same_mut Hs np, rfl, ?_⟩
      rw [upd_same, hrun, List.map_append]
      rfl
    · rintro σ H' ⟨o3, o4, o5, Hs, rfl, h6⟩
      rw [dps_len hGs, List.length_map, List.take_length] at h6
      exact ⟨_, rfl, k _ Hs h6⟩
def gE (e : Int) (xs : List Int) : PyData → PyData
  | .int i => .int (edge e xs i)
  | d => d
theorem gE_map {e : Int} {xs l : List Int} : List.map (gE e xs) ((intsD l).filter fun _ => true) = intsD (outs e xs l) := by
  rw [List.filter_eq_self.mpr fun _ _ => rfl]
  unfold intsD outs
  rw [List.map_map, List.map_map]
  rfl
def spTaken (K : PySem.W.Frag) : Sp := fun vs H Q _ => ∃ (p a : Addr) (e : Int) (xs l : List Int), vs = [.ref p, .ref a, .int e] ∧ SqL K H p (xs.map V.int) ∧ SqL K H a (l.map V.int) ∧ l.length ≤ 1000 ∧ allR (2 * xs.length) l = true ∧
  ∀ (D : Addr) (G : Hp), Same H G → H D = none → G D = some (.lst ((outs e xs l).map V.int)) → Q (.ref D) G
theorem ok_taken {f : Addr} {fd : FuncData} (F : Fun K "taken" "taken" s_taken f fd) (T : Txt K mg) : FnOk P w K mg base CX0 1 f fd ["values", "edges", "every"] (spTaken K) := by
  refine F.ok sc_taken (fun vs H Q E h => ?_) (fun cdv A outer s H vs Q E hr h => ?_)
  · obtain ⟨p, a, e, xs, l, rfl, _⟩ := h
    rfl
  · obtain ⟨p, a, e, xs, l, rfl, hp, ha, hl, ok, k⟩ := h
    refine ⟨_, (pss_one (ps_ret (pe_lc (own := [("edge", 3)]) rfl sc_taken.nd (pi_list (pv 1)) (blkOk_by (own := [("edge", 3)]) (N := ["values", "edges", "every", "edge"]) (sc := defScope s_taken) (by decide +kernel)) (fun _ _ _ _ _ => (pg_name (i := 3) sc_taken.nd rfl (Or.inl rfl))) (fun _ _ _ _ _ => pts_nil) (fun _ _ _ _ _ => (pe_op op_xor (pe_ix (ix_listK (K := K) rfl) (pv 0) (pe_op op_fdiv (pv 3) pe_int) (fun _ _ => rfl)) (pe_ifExp (pt_cmpR op_eq (pe_op op_mod (pv 3) pe_int) pe_int (nomark _)) (pv 2) pe_int)))))), ?_⟩
    refine ⟨_, rfl, a, rfl, ⟨_, ha⟩, fun D hD => ?_⟩
    refine lc_data (K := K) (a := a) (xs := l.map V.int) (ds := intsD l) (fun _ => true) (gE e xs) ha (dps_ints _) hD (by rw [ints_len]; omega) ?_ ?_
    · intro v d G acc R dm hv sG hG hacc _ hyes
      obtain ⟨i, hi, rfl⟩ := List.mem_map.mp dm
      cases dp_int hv
      have r := allR_iff.mp ok i hi
      have sD := same_new (o := HO.lst acc) hG
      refine ⟨rfl, _, rfl, _, rfl, _, _, rfl, rfl, cdiv2, p, _, _, _, rfl, rfl, sD.seq (sG.seq hp), half_at r.1 r.2, ?_⟩
      refine ⟨_, rfl, _, _, rfl, rfl, (show (0 : Int) < 2 by decide), rfl, _, rfl, if_turn (x := i) rfl ⟨_, _, rfl, rfl, acc, upd_same, hacc, ?_⟩⟩
      rw [upd_app]
      exact hyes rfl G _ (Same.refl _) hG (.int _)
    · intro G ys sG hG hys
      rw [gE_map] at hys
      cases dps_ints_of hys
      exact k D _ (sG.trans (same_new hG)) hD upd_same
/-! ### graph_clock -/
/-- what a clock gives: a tuple of two new lists -/
def TwoL (H : Hp) (a b : List Int) (Q : VK) : Prop := ∀ (t l1 l2 : Addr) (H' : Hp), Same H H' → H l1 = none → H l2 = none → H' t = some (.tup [.ref l1, .ref l2]) → H' l1 = some (.lst (a.map V.int)) → H' l2 = some (.lst (b.map V.int)) → Q (.ref t) H'
def spClkG (K : PySem.W.Frag) : Sp := fun vs H Q _ => ∃ (v vf vi : V) (g : Gr) (e : Int) (fl ins : List Int), vs = [v, .int e, vf, vi] ∧ Dp K H v (grD g) ∧ SmL g.fst g.nxt g.out g.prs.length ∧ GrP g ∧ Nums K H vf fl ∧ Nums K H vi ins ∧ fl.length = g.fst.length ∧ (ins.length : Int) = g.inp ∧ ins.length ≤ 1000 ∧
  TwoL H (gstep g e fl ins).1 (gstep g e fl ins).2 Q
theorem ok_clkG {f : Addr} {fd : FuncData} (F : Fun K "graph_clock" "graph_clock" s_graph_clock f fd) (T : Txt K mg) (c_walked : Cal P w K mg base 1 "walked" (spWalk K) []) (c_taken : Cal P w K mg base 1 "taken" (spTaken K) []) :
    FnOk P w K mg base CX0 2 f fd ["graph", "every", "flops", "inputs"] (spClkG K) := by
  refine F.ok sc_graph_clock (fun vs H Q E h => ?_) (fun cdv A outer s H vs Q E hr h => ?_)
  · obtain ⟨v, vf, vi, g, e, fl, ins, rfl, _⟩ := h
    rfl
  · obtain ⟨v, vf, vi, g, e, fl, ins, rfl, hd, hs, gp, hf, hi, lf, li, li2, k⟩ := h
    obtain ⟨a, af, an, ag, ao, xg, rfl, hx, hF, hN, hG, hGs, hO⟩ := lv_dp hd
    obtain ⟨al, rfl, hf⟩ := hf
    obtain ⟨ai, rfl, hi⟩ := hi
    have lf2 : fl.length ≤ 1000 := lf ▸ hs.1
    refine ⟨_, (pss_cons (ps_set (i := 4) sc_graph_clock.nd rfl (Or.inl rfl) (pe_c c_walked hr (by omega) rfl (pa_cons (pe_ix ix_tup (pv 0) pe_int (fun _ _ => rfl)) (pa_cons (pe_op op_cat (pe_op op_cat (pe_lst (pa_cons pe_int pa_nil)) (pe_callTy call_list_of (by rfl) T.b_list boot_list' (pa_cons (pv 3) pa_nil))) (pe_callTy call_list_of (by rfl) T.b_list boot_list' (pa_cons (pv 2) pa_nil))) (pa_cons (pv 1) pa_nil)))))
      (pss_one (ps_ret (pe_tup (pa_cons (pe_c c_taken hr (by omega) rfl (pa_cons (pv 4) (pa_cons (pe_ix ix_tup (pv 0) pe_int (fun _ _ => rfl)) (pa_cons (pv 1) pa_nil)))) (pa_cons (pe_c c_taken hr (by omega) rfl (pa_cons (pv 4) (pa_cons (pe_ix ix_tup (pv 0) pe_int (fun _ _ => rfl)) (pa_cons (pv 1) pa_nil)))) pa_nil)))))), ?_⟩
    refine ⟨_, rfl, a, _, 3, _, rfl, rfl, hx, atI_nat (j := 3) rfl, ?_⟩
    refine ⟨(show 1 ≤ sizeLine by decide), fun p1 m1 => ?_⟩
    have t1 := same_new (o := HO.lst [V.int 0]) m1
    refine ⟨_, rfl, ai, _, rfl, hi.imp (fun z => t1.seq z) (fun z => Same.tup t1 z), fun p2 m2 => ?_⟩
    have t2 := same_new (o := HO.lst (ins.map V.int)) m2
    refine ⟨p1, p2, _, _, rfl, rfl, t2 _ _ upd_same, upd_same, size_of (by rw [List.length_map]; simp only [List.length_singleton]; omega), fun p3 m3 => ?_⟩
    have t3 := same_new (o := HO.lst ([V.int 0] ++ ins.map V.int)) m3
    have t123 := (t1.trans t2).trans t3
    refine ⟨_, rfl, al, _, rfl, hf.imp (fun z => t123.seq z) (fun z => Same.tup t123 z), fun p4 m4 => ?_⟩
    have t4 := same_new (o := HO.lst (fl.map V.int)) m4
    refine ⟨p3, p4, _, _, rfl, rfl, t4 _ _ upd_same, upd_same, size_of (by rw [List.length_append, List.length_map, List.length_map]; simp only [List.length_singleton]; omega), fun p5 m5 => ?_⟩
    have t1234 := t123.trans t4
    have e5 : [V.int 0] ++ ins.map V.int ++ fl.map V.int = (v0 fl ins).map V.int := by simp [v0]
    rw [e5]
    have n5 : H p5 = none := none_of_same t1234 m5
    have s5 : Same H (upd (upd (upd (upd (upd H p1 (.lst [V.int 0])) p2 (.lst (ins.map V.int))) p3 (.lst ([V.int 0] ++ ins.map V.int))) p4 (.lst (fl.map V.int))) p5 (.lst ((v0 fl ins).map V.int))) := t1234.trans (same_new m5)
    have h5 := upd_same (H := upd (upd (upd (upd H p1 (.lst [V.int 0])) p2 (.lst (ins.map V.int))) p3 (.lst ([V.int 0] ++ ins.map V.int))) p4 (.lst (fl.map V.int))) (a := p5) (o := .lst ((v0 fl ins).map V.int))
    generalize upd (upd (upd (upd (upd H p1 (.lst [V.int 0])) p2 (.lst (ins.map V.int))) p3 (.lst ([V.int 0] ++ ins.map V.int))) p4 (.lst (fl.map V.int))) p5 (.lst ((v0 fl ins).map V.int)) = H5 at s5 h5
    have l0 : (v0 fl ins).length = 1 + ins.length + fl.length := by
      unfold v0
      rw [List.length_cons, List.length_append]
      omega
    have em : g0 g = 2 * ((v0 fl ins).length : Nat) := by
      unfold g0
      omega
    have lw := walk_len (e := e) g.prs (v0 fl ins)
    have em2 : g0 g + 2 * (g.prs.length : Nat) = 2 * ((walk e (v0 fl ins) g.prs).length : Nat) := by omega
    refine ⟨_, rfl, .ref ag, p5, e, g.prs, v0 fl ins, H, rfl, .lst hG hGs, hs.2.2.1, by omega, n5, s5, h5, by rw [← em]; exact gp.ps, fun H6 s6 h6 => ?_⟩
    refine ⟨_, rfl, _, rfl, a, _, 4, _, rfl, rfl, Same.tup s6 hx, atI_nat (j := 4) rfl, _, rfl, p5, ao, e, _, g.out, rfl, SqL.of h6, s6.seq hO, hs.2.2.2, by rw [← em2]; exact gp.o, fun D1 G1 s7 n1 d1 => ?_⟩
    refine ⟨_, rfl, _, rfl, a, _, 2, _, rfl, rfl, Same.tup (s6.trans s7) hx, atI_nat (j := 2) rfl, _, rfl, p5, an, e, _, g.nxt, rfl, SqL.of (s7 _ _ h6), (s6.trans s7).seq hN, hs.2.1, by rw [← em2]; exact gp.n, fun D2 G2 s8 n2 d2 => ?_⟩
    refine ⟨(show 2 ≤ sizeLine by decide), fun t nt => ?_⟩
    have s9 := same_new (o := HO.tup [V.ref D1, V.ref D2]) nt
    exact k t D1 D2 _ (((s6.trans s7).trans s8).trans s9) (none_of_same s6 n1) (none_of_same (s6.trans s7) n2) upd_same (s9 _ _ (s8 _ _ d1)) (s9 _ _ d2)
end
end Q80



set_option pp.maxSteps 1500
namespace Q80
open PySem L2 G M80
open C8 (Cal Met Mak pe_c pe_mk pe_mt pe_mt0 pe_gc pss_cut tCut)
def llD (l : List (List Int)) : PyData := .list (l.map fun o => .list (intsD o))
def SmG (g : Gr) : Prop := SmL g.fst g.nxt g.out g.prs.length
def SmT (g : Tb) : Prop := SmL g.fst g.nxt g.out g.rws.length
theorem del1_upd {H : Hp} {a : Addr} {o : HO} : del1 (upd H a o) a = del1 H a := by
  funext b
  unfold del1
  by_cases h : b = a
  · rw [if_pos h, if_pos h]
  · rw [if_neg h, if_neg h, upd_ne h]
theorem same_del1 {H H' : Hp} {a : Addr} (n : H a = none) (s : Same H H') : Same H (del1 H' a) := fun b o e => by
  rw [del1_ne (ne_of_none e n)]
  exact s b o e
theorem del1_none {H : Hp} {a : Addr} (n : H a = none) : del1 H a = H := by
  funext b
  by_cases h : b = a
  · rw [h, del1_at, n]
  · rw [del1_ne h]
theorem lan_all {L : Nat} {l : List Int} : allR (2 ^ L) l = true ↔ Lan (2 ^ L - 1) l := by
  rw [allR_iff]
  exact ⟨fun h x hx => by have := h x hx; omega, fun h x hx => by have := h x hx; omega⟩
section
variable {P : Program} {w : World} {K : PySem.W.Frag} {mg : Str → Option Value} {base : Heap}
/-! ### step_graph, step_tables -/
def spStep (K : PySem.W.Frag) (C : Addr) {α : Type} (D : α → PyData) (sm : α → Prop) (ok : α → Bool) (inp : α → Int) (fst : α → List Int) (stp : α → Stp) : Sp := fun vs H Q E => ∃ (v vf vi : V) (g : α) (L : Int) (fl ins : List Int),
  vs = [v, .int L, vf, vi] ∧ Dp K H v (D g) ∧ sm g ∧ Nums K H vf fl ∧ Nums K H vi ins ∧ fl.length ≤ 1000 ∧ ins.length ≤ 1000 ∧ L ≤ 100 ∧
  (ok g = true → fits (inp g) (fst g) L fl ins = true → TwoL H (stp g (2 ^ L.toNat - 1) fl ins).1 (stp g (2 ^ L.toNat - 1) fl ins).2 Q) ∧ ((ok g && fits (inp g) (fst g) L fl ins) = false → RaiseF C "form" H E)
theorem TwoL.later {H H' : Hp} {a b : List Int} {Q : VK} (s : Same H H') (k : TwoL H a b Q) : TwoL H' a b Q := fun t l1 l2 G sG n1 n2 ht h1 h2 => k t l1 l2 G (s.trans sG) (none_of_same s n1) (none_of_same s n2) ht h1 h2
theorem fits_parts {inp L : Int} {fst fl ins : List Int} (h : fits inp fst L fl ins = true) : 1 ≤ L ∧ allR (2 ^ L.toNat) fl = true ∧ fl.length = fst.length ∧ allR (2 ^ L.toNat) ins = true ∧ (ins.length : Int) = inp := by
  unfold fits at h
  simp only [Bool.and_eq_true, decide_eq_true_eq] at h
  exact ⟨h.1.1, h.1.2.1, h.1.2.2, h.2.1, h.2.2⟩
theorem ok_stepG {C : Addr} {f : Addr} {fd : FuncData} (F : Fun K "step_graph" "step_graph" s_step_graph f fd) (T : Txt K mg) (c_InvalidGraph : Erm P w K mg base 1 "InvalidGraph" C "what") (c_check_graph : CalX P w K mg base 4 "check_graph" (spChkG K C)) (c_clock_fits : Cal P w K mg base 3 "clock_fits" (spFits K) []) (c_graph_clock : Cal P w K mg base 2 "graph_clock" (spClkG K) []) :
    FnOk P w K mg base (L2.CX P w) 5 f fd ["graph", "lanes", "flops", "inputs"] (spStep K C grD SmG okGr Gr.inp Gr.fst gstep) := by
  refine F.okX sc_step_graph (fun vs H Q E h => ?_) (fun cdv A outer s H vs Q E hr h => ?_)
  · obtain ⟨v, vf, vi, g, L, fl, ins, rfl, _⟩ := h
    rfl
  · obtain ⟨v, vf, vi, g, L, fl, ins, rfl, hd, hs, hf, hi, lf, li, hL, ky, kn⟩ := h
    refine ⟨_, (pss_cons (ps_expr (pe_cx c_check_graph hr (by omega) rfl (takes_of rfl rfl rfl rfl) (pa_cons (pv 0) pa_nil)))
      (pss_cons (ps_if (pt_not (pt_val (pe_c c_clock_fits hr (by omega) rfl (pa_cons (pv 0) (pa_cons (pv 1) (pa_cons (pv 2) (pa_cons (pv 3) pa_nil))))))) (pss_one (ps_raise rfl (takes_of rfl rfl rfl rfl) (pmk_e c_InvalidGraph hr (by omega) rfl (pa_cons pe_str pa_nil)))) pss_nil)
      (pss_one (ps_ret (pe_c c_graph_clock hr (by omega) rfl (pa_cons (pv 0) (pa_cons (pe_op op_sub (pe_op op_shl pe_int (pv 1)) pe_int) (pa_cons (pv 2) (pa_cons (pv 3) pa_nil))))))))), ?_⟩
    refine ⟨_, rfl, v, g, rfl, hd, hs, fun ok H1 s1 => ?_, fun no => ?_⟩
    · rw [ok, Bool.true_and] at kn
      refine ⟨_, rfl, _, rfl, _, rfl, _, rfl, v, vf, vi, g.inp, g.fst, g.nxt, g.out, g.prs.map prD, L, fl, ins, rfl, dp_same s1 hd, hf.same s1, hi.same s1, lf, li, hL, fun H2 s2 => ⟨_, rfl, ?_⟩⟩
      have s12 := s1.trans s2
      by_cases p : fits g.inp g.fst L fl ins = false
      · refine ifT (by rw [p]; rfl) ⟨_, rfl, fun d m => (kn p).here s12 m⟩
      have p : fits g.inp g.fst L fl ins = true := by simpa using p
      refine ifF (by rw [p]; rfl) ?_
      obtain ⟨q1, q2, q3, q4, q5⟩ := fits_parts p
      refine ⟨_, rfl, _, rfl, _, _, rfl, rfl, ⟨by omega, by omega, by decide⟩, _, _, rfl, rfl, _, rfl, _, rfl, ?_⟩
      rw [Int.one_mul]
      exact ⟨v, vf, vi, g, _, fl, ins, rfl, dp_same s12 hd, hs, okGr_parts.mp ok, hf.same s12, hi.same s12, q3, q5, li, (ky ok p).later s12⟩
    · exact kn (by rw [no, Bool.false_and])
/-! ### run_graph, run_tables -/
def spRun (K : PySem.W.Frag) {α : Type} (D : α → PyData) (sm : α → Prop) (ok : α → Bool) (inp : α → Int) (fst : α → List Int) (stp : α → Stp) : Sp := fun vs H Q _ => ∃ (v vc : V) (g : α) (L : Nat) (cl : List (List Int)),
  vs = [v, .int L, vc] ∧ Dp K H v (D g) ∧ sm g ∧ ok g = true ∧ 1 ≤ L ∧ L ≤ 100 ∧ (fst g).length ≤ 1000 ∧ allR 2 (fst g) = true ∧ StpOk L (fst g).length (stp g) (stp g) ∧ Dp K H vc (llD cl) ∧ cl.length ≤ 1000 ∧ (∀ i ∈ cl, i.length ≤ 1000 ∧ (i.length : Int) = inp g ∧ allR (2 ^ L) i = true) ∧
  ∀ (z : V) (H' : Hp), Same H H' → Dp K H' z (llD (runP (stp g) (2 ^ L - 1) (allF (2 ^ L - 1) (fst g)) cl)) → Q z H'
def allE (e : Int) : PyData → PyData
  | .int i => .int (e * i)
  | d => d
theorem allE_map {e : Int} {l : List Int} : List.map (allE e) ((intsD l).filter fun _ => true) = intsD (allF e l) := by
  rw [List.filter_eq_self.mpr fun _ _ => rfl]
  unfold intsD allF
  rw [List.map_map, List.map_map]
  rfl
theorem if_first {j : Nat} {x e : Int} {σ : L2.St} {H : Hp} {Q : VK} (hi : σ[j]? = some (some (.int e))) (h : 0 ≤ x ∧ x < 2) (q : Q (.int (e * x)) H) : if decide (V.int x = V.int 1) = true then tVar j σ H Q else tC (V.int 0) σ H Q := by
  rw [← allF_if h] at q
  by_cases h : x = 1
  · rw [if_pos h] at q
    exact ifT (decide_eq_true (by rw [h])) ⟨_, hi, q⟩
  · rw [if_neg h] at q
    exact ifF (decide_eq_false fun z => h (V.int.inj z)) q
theorem flP_ok {L n : Nat} {a : Stp} (h : StpOk L n a a) : ∀ {l : List (List Int)} {fl : List Int}, Lan (2 ^ L - 1) fl → fl.length = n → (∀ i ∈ l, Lan (2 ^ L - 1) i) → Lan (2 ^ L - 1) (flP a (2 ^ L - 1) fl l) ∧ (flP a (2 ^ L - 1) fl l).length = n
  | [], _, hf, hn, _ => ⟨hf, hn⟩
  | i :: r, fl, hf, hn, hi => flP_ok h (l := r) (h.lan fl i hf (hi i List.mem_cons_self)) (h.len _ _ _) fun j hj => hi j (List.mem_cons_of_mem _ hj)
theorem ok_runG {C : Addr} {f : Addr} {fd : FuncData} (F : Fun K "run_graph" "run_graph" s_run_graph f fd) (T : Txt K mg) (c_InvalidGraph : Erm P w K mg base 1 "InvalidGraph" C "what") (c_check_graph : CalX P w K mg base 4 "check_graph" (spChkG K C)) (c_is_number : Cal P w K mg base 1 "is_number" spNum []) (c_clock_fits : Cal P w K mg base 3 "clock_fits" (spFits K) []) (c_graph_clock : Cal P w K mg base 2 "graph_clock" (spClkG K) []) :
    FnOk P w K mg base (L2.CX P w) 5 f fd ["graph", "lanes", "clocks"] (spRun K grD SmG okGr Gr.inp Gr.fst gstep) := by
  refine F.okX sc_run_graph (fun vs H Q E h => ?_) (fun cdv A outer s H vs Q E hr h => ?_)
  · obtain ⟨v, vc, g, L, cl, rfl, _⟩ := h
    rfl
  · obtain ⟨v, vc, g, L, cl, rfl, hd, hs, ok, L1, L2', lfst, afst, so, hc, ll, lc, k⟩ := h
    obtain ⟨a, af, an, ag, ao, xg, e, hx, hF, hN, hG, hGs, hO⟩ := lv_dp hd
    obtain ⟨ac, xc, rfl, hC, hCs⟩ := dp_lst hc
    have pw : (0 : Int) < 2 ^ L := Int.pow_pos (by decide)
    refine ⟨_, (pss_cons (ps_expr (pe_cx c_check_graph hr (by omega) rfl (takes_of rfl rfl rfl rfl) (pa_cons (pv 0) pa_nil)))
      (pss_cons (ps_if (PW.pt (pw_or (pt_not (pt_val (pe_c c_is_number hr (by omega) rfl (pa_cons (pv 1) (pa_cons pe_int (pa_cons pe_non pa_nil)))))) (pw_or1 (pt_not (pt_val (pe_callB call_isiT (by rfl) T.b_isinstance boot_isinstance' (pa_cons (pv 2) (pa_cons (pe_tup (pa_cons (pe_bltn (v := .ty "tuple") (by rfl) T.b_tuple boot_tuple' rfl) (pa_cons (pe_bltn (v := .ty "list") (by rfl) T.b_list boot_list' rfl) pa_nil))) pa_nil)))))))) (pss_one (ps_raise rfl (takes_of rfl rfl rfl rfl) (pmk_e c_InvalidGraph hr (by omega) rfl (pa_cons pe_str pa_nil)))) pss_nil)
      (pss_cons (ps_set (i := 3) sc_run_graph.nd rfl (Or.inr rfl) (pe_op op_sub (pe_op op_shl pe_int (pv 1)) pe_int))
      (pss_cons (ps_setLc (i := 4) (own := [("first", 8)]) rfl sc_run_graph.nd rfl rfl (sw_true rfl rfl rfl (by decide +kernel)) (pi_list (pe_ix ix_tup (pv 0) pe_int (fun _ _ => rfl))) (blkOk_by (own := [("first", 8)]) (N := ["graph", "lanes", "clocks", "every", "flops", "found", "inputs", "outputs", "first"]) (sc := defScope s_run_graph) (by decide +kernel)) (fun _ _ _ _ _ => (pg_name (i := 8) sc_run_graph.nd rfl (Or.inl rfl))) (fun _ _ _ _ _ => pts_nil) (fun _ _ _ _ _ => (pe_ifExp (pt_cmpR op_eq (pv 8) pe_int (nomark _)) (pv 3) pe_int)))
      (pss_cons (ps_set (i := 5) sc_run_graph.nd rfl (Or.inl rfl) (pe_lst pa_nil))
      (pss_cons (ps_for (passes_of rfl) rfl (pi_list (pv 2)) (pg_name (i := 6) sc_run_graph.nd rfl (Or.inl rfl)) (pss_cons (ps_if (pt_not (pt_val (pe_c c_clock_fits hr (by omega) rfl (pa_cons (pv 0) (pa_cons (pv 1) (pa_cons (pv 4) (pa_cons (pv 6) pa_nil))))))) (pss_one (ps_raise rfl (takes_of rfl rfl rfl rfl) (pmk_e c_InvalidGraph hr (by omega) rfl (pa_cons pe_str pa_nil)))) pss_nil)
      (pss_cons (ps_asg (pe_c c_graph_clock hr (by omega) rfl (pa_cons (pv 0) (pa_cons (pv 3) (pa_cons (pv 4) (pa_cons (pv 6) pa_nil))))) (pg_tup rfl (pgs_cons (pg_name (i := 7) sc_run_graph.nd rfl (Or.inl rfl)) (pgs_cons (pg_name (i := 4) sc_run_graph.nd rfl (Or.inl rfl)) pgs_nil))))
      (pss_one (ps_expr (pe_bm PySem.F.plainAttrs_list PySem.F.slot_list_append PySem.F.type_list_append mt_append (pv 5) (pa_cons (pv 7) pa_nil)))))))
      (pss_one (ps_ret (pv 5))))))))), ?_⟩
    refine ⟨_, rfl, v, g, rfl, hd, hs, fun _ H1 s1 => ?_, fun no => absurd (ok.symm.trans no) (by decide)⟩
    subst e
    refine ⟨_, rfl, L, 1, none, rfl, _, rfl, ?_⟩
    have e1 : numB 1 none L = true := by unfold numB; rw [Bool.and_true]; exact decide_eq_true (by omega)
    refine ifF (by rw [e1]; rfl) ?_
    refine ⟨_, rfl, by decide, fun p n1 => ?_⟩
    have s2 := s1.trans (same_new (o := HO.tup [V.ty "tuple", V.ty "list"]) n1)
    refine ⟨_, _, _, _, _, _, rfl, upd_same, clsv2 _ _, dp_ty (d := llD cl) (.lst (s2.seq hC) (dps_same s2 hCs)), kitD2 K _ _ _ (by decide) (by decide), _, rfl, iteF ?_⟩
    refine ⟨_, rfl, _, _, rfl, rfl, ⟨by omega, by omega, by decide⟩, _, _, rfl, rfl, ?_⟩
    rw [Int.one_mul, Int.toNat_natCast]
    generalize upd H1 p _ = H2 at s2
    -- flops
    refine ⟨_, rfl, a, _, 1, _, rfl, rfl, Same.tup s2 hx, atI_nat (j := 1) rfl, af, rfl, ⟨_, s2.seq hF⟩, fun D hD => ?_⟩
    refine lc_data (K := K) (a := af) (xs := g.fst.map V.int) (ds := intsD g.fst) (fun _ => true) (allE (2 ^ L - 1)) (s2.seq hF) (dps_ints _) hD (by rw [ints_len]; omega) ?_ ?_
    · intro v d G acc R dm hv sG hG hacc _ hyes
      obtain ⟨i, hi, rfl⟩ := List.mem_map.mp dm
      cases dp_int hv
      refine ⟨rfl, _, rfl, rfl, _, rfl, if_first rfl (allR_iff.mp afst i hi) ⟨acc, upd_same, hacc, ?_⟩⟩
      rw [upd_app]
      exact hyes rfl G _ (Same.refl _) hG (.int _)
    intro G ys sG hG hys
    rw [allE_map] at hys
    cases dps_ints_of hys
    have s3 := (s2.trans sG).trans (same_new (o := HO.lst ((allF (2 ^ L - 1) g.fst).map V.int)) hG)
    have hf3 := upd_same (H := G) (a := D) (o := .lst ((allF (2 ^ L - 1) g.fst).map V.int))
    generalize upd G D (.lst ((allF (2 ^ L - 1) g.fst).map V.int)) = H3 at s3 hf3
    refine ⟨by decide, fun pd npd => ?_⟩
    have npd0 : H pd = none := none_of_same s3 npd
    have fl0 : Lan (2 ^ L - 1) (allF (2 ^ L - 1) g.fst) := allF_lan (by omega) afst
    have lan_i : ∀ i ∈ cl, Lan (2 ^ L - 1) i := fun i hi => lan_all.mp (lc i hi).2.2
    refine ⟨_, rfl, ac, rfl, ⟨_, (s3.trans (same_new npd)).seq hC⟩, for_list (K := K) (a := ac) (xs := xc) (fun i σ H' => ∃ (pf : Addr) (ys : List V) (o6 o7 : Option V), σ = [some (.ref a), some (.int L), some (.ref ac), some (.int (2 ^ L - 1)), some (.ref pf), some (.ref pd), o6, o7, none] ∧
      Same H (del1 H' pd) ∧ del1 H' pd pf = some (.lst ((flP (gstep g) (2 ^ L - 1) (allF (2 ^ L - 1) g.fst) (cl.take i)).map V.int)) ∧ H' pd = some (.lst ys) ∧ DpAll K (del1 H' pd) ys ((runP (gstep g) (2 ^ L - 1) (allF (2 ^ L - 1) g.fst) (cl.take i)).map fun o => .list (intsD o)))
      ⟨D, [], none, none, rfl, ?_, ?_, upd_same, .nil⟩ ?_ ?_ ?_⟩
    · rw [del1_upd, del1_none npd]
      exact s3
    · rw [del1_upd, del1_none npd]
      exact hf3
    · rintro i σ H' _ ⟨_, _, _, _, _, Hs, _⟩
      exact (Hs.trans del1_sub).seq hC
    · rintro i x σ H' hi ⟨pf, ys, o6, o7, rfl, Hs, hpf, hpd, hys⟩
      obtain ⟨d, hdi, dx⟩ := dps_getv hCs hi
      rw [List.getElem?_map] at hdi
      obtain ⟨ins, hins, rfl⟩ := Option.map_eq_some_iff.mp hdi
      have mem := List.mem_of_getElem? hins
      obtain ⟨li, lj, ri⟩ := lc ins mem
      obtain ⟨q1, q2⟩ := flP_ok so (l := cl.take i) fl0 (List.length_map ..) fun j hj => lan_i j (List.mem_of_mem_take hj)
      have rs := runP_snoc (stp := gstep g) (e := 2 ^ L - 1) (i := ins) (l := cl.take i) (fl := allF (2 ^ L - 1) g.fst)
      have fs := flP_snoc (stp := gstep g) (e := 2 ^ L - 1) (i := ins) (l := cl.take i) (fl := allF (2 ^ L - 1) g.fst)
      rw [← take_snoc hins] at rs fs
      generalize flP (gstep g) (2 ^ L - 1) (allF (2 ^ L - 1) g.fst) (cl.take i) = fl at hpf q1 q2 rs fs
      have Hs' := Hs.trans (del1_sub (H := H') (a := pd))
      have hpf' := del1_sub _ _ hpf
      have ft : fits g.inp g.fst L fl ins = true := by
        unfold fits
        rw [decide_eq_true (p := (1 : Int) ≤ L) (by omega), Int.toNat_natCast, lan_all.mpr q1, ri, decide_eq_true q2, decide_eq_true lj]
        rfl
      obtain ⟨ai, xi, rfl, hai, hais⟩ := dp_lst (dp_same Hs' dx)
      cases dps_ints_of hais
      refine ⟨_, rfl, _, rfl, _, rfl, _, rfl, .ref a, .ref pf, .ref ai, g.inp, g.fst, g.nxt, g.out, g.prs.map prD, L, fl, ins, rfl, dp_same Hs' hd, ⟨pf, rfl, .inl (SqL.of hpf')⟩, ⟨ai, rfl, .inl hai⟩, by omega, li, by omega, fun H5 s5 => ⟨_, rfl, ifF (by rw [ft]; rfl) ?_⟩⟩
      refine ⟨_, rfl, _, rfl, _, rfl, _, rfl, .ref a, .ref pf, .ref ai, g, _, fl, ins, rfl, dp_same (Hs'.trans s5) hd, hs, okGr_parts.mp ok, ⟨pf, rfl, .inl (SqL.of (s5 _ _ hpf'))⟩, ⟨ai, rfl, .inl (s5.seq hai)⟩, q2, lj, li, fun t l1 l2 H6 s6 n1 n2 ht h1 h2 => ?_⟩
      have s56 := s5.trans s6
      have hpd6 := s56 _ _ hpd
      have ne1 : l1 ≠ pd := fun z => by rw [z, s5 _ _ hpd] at n1; cases n1
      have ne2 : l2 ≠ pd := fun z => by rw [z, s5 _ _ hpd] at n2; cases n2
      have yl : ys.length ≤ 1000 := by
        rw [dps_len hys, List.length_map]
        have : ∀ (l : List (List Int)) (fl : List Int), (runP (gstep g) (2 ^ L - 1) fl l).length = l.length := by
          intro l
          induction l with
          | nil => intro _; rfl
          | cons i r ih => intro fl; exact congrArg (· + 1) (ih _)
        rw [this, List.length_take]
        omega
      refine ⟨t, _, rfl, SqT.of ht, rfl, _, _, rfl, _, _, rfl, rfl, _, rfl, .inl ⟨rfl, _, SqL.of hpd6⟩, _, rfl, _, _, _, rfl, rfl, hpd6, size_lt (by omega), l2, ys ++ [.ref l1], _, _, rfl, ?_, ?_, upd_same, ?_⟩
      · rw [del1_upd]
        exact Hs.trans (del1_same s56)
      · rw [del1_upd, del1_ne ne2, fs]
        exact h2
      · rw [del1_upd, rs, List.map_append]
        exact dps_snoc (dps_same (del1_same s56) hys) (.lst (SqL.of (by rw [del1_ne ne1]; exact h1)) (dps_ints _))
    · rintro σ H' ⟨pf, ys, o6, o7, rfl, Hs, hpf, hpd, hys⟩
      rw [dps_len hCs, List.length_map, List.take_length] at hys
      exact ⟨_, rfl, k _ _ (Hs.trans del1_sub) (.lst (SqL.of hpd) (dps_same del1_sub hys))⟩
end
end Q80



set_option pp.maxSteps 1500
namespace Q80
open PySem L2 G M80
open C8 (Cal Met Mak pe_c pe_mk pe_mt pe_mt0 pe_gc pss_cut tCut)
theorem r3_at {r : Rw} {k : Nat} (h : k < 3) : atI [V.int r.a, V.int r.b, V.int r.c, V.int r.t] (k : Int) = some (.int (nth r.l k)) := by
  have : k = 0 ∨ k = 1 ∨ k = 2 := by omega
  rcases this with rfl | rfl | rfl <;> rfl
theorem pt_at {xs : List Int} {x : Int} (h : inR xs.length x = true) : atI (xs.map V.int) x = some (.int (nth xs x)) := int_atI (inR_iff.mp h).1 (by have a := (inR_iff.mp h).1; have b := (inR_iff.mp h).2; omega)
theorem l_at {r : Rw} {k : Nat} (h : k < 3) : nth r.l k ∈ r.l := by
  have : k = 0 ∨ k = 1 ∨ k = 2 := by omega
  rcases this with rfl | rfl | rfl
  · exact List.mem_cons_self
  · exact List.mem_cons_of_mem _ List.mem_cons_self
  · exact List.mem_cons_of_mem _ (List.mem_cons_of_mem _ List.mem_cons_self)
theorem all_at {m : Int} {r : Rw} (h : allR m r.l = true) {k : Nat} (hk : k < 3) : inR m (nth r.l k) = true := inR_iff.mpr (allR_iff.mp h _ (l_at hk))
theorem tru_bit (t c : Int) : (Builtin.bitAnd (t / 2 ^ c.toNat) 1 != 0) = bitC t c := by
  rw [← bitC_and]
  rw [Bool.eq_iff_iff, bne_iff_ne, decide_eq_true_iff]
theorem if_pick {i : Nat} {b : Bool} {x y : Int} {σ : L2.St} {H : Hp} {Q : VK} {t : TE} (hi : σ[i]? = some (some (.int x))) (ht : ∀ Q : VK, Q (.int y) H → t σ H Q) (q : Q (.int (if b = true then x else y)) H) : if b = true then tVar i σ H Q else t σ H Q := by
  cases b with
  | true => exact ifT rfl ⟨_, hi, q⟩
  | false => exact ifF rfl (ht _ q)
section
variable {P : Program} {w : World} {K : PySem.W.Frag} {mg : Str → Option Value} {base : Heap}
/-! ### looked -/
def spLook (K : PySem.W.Frag) (val : Int → List Int → Rw → Int) : Sp := fun vs H Q _ => ∃ (v : V) (p : Addr) (r : Rw) (xs : List Int) (e : Int), vs = [v, .ref p, .int e] ∧ Dp K H v (rwD r) ∧ SqL K H p (xs.map V.int) ∧ allR xs.length r.l = true ∧ Lan e xs ∧ 0 ≤ e ∧ Q (.int (val e xs r)) H
theorem ok_look {f : Addr} {fd : FuncData} (F : Fun K "looked" "looked" s_looked f fd) (T : Txt K mg) : FnOk P w K mg base CX0 1 f fd ["row", "values", "every"] (spLook K lookP) := by
  refine F.ok sc_looked (fun vs H Q E h => ?_) (fun cdv A outer s H vs Q E hr h => ?_)
  · obtain ⟨v, p, r, xs, e, rfl, _⟩ := h
    rfl
  · obtain ⟨v, p, r, xs, e, rfl, hd, hp, hr3, hx, e0, k⟩ := h
    obtain ⟨a, rfl, ha⟩ := rw_dp hd
    refine ⟨_, (pss_cons (ps_if (pt_cmpR op_eq (pv 2) pe_int (nomark _)) (pss_one (ps_ret (pe_op op_and (pe_op op_shr (pe_ix ix_tup (pv 0) pe_int (fun _ _ => rfl)) (pe_op op_add (pe_op op_add (pe_ix ix_list (pv 1) (pe_ix ix_tup (pv 0) pe_int (fun _ _ => rfl)) (fun _ _ => rfl)) (pe_op op_mul pe_int (pe_ix ix_list (pv 1) (pe_ix ix_tup (pv 0) pe_int (fun _ _ => rfl)) (fun _ _ => rfl)))) (pe_op op_mul pe_int (pe_ix ix_list (pv 1) (pe_ix ix_tup (pv 0) pe_int (fun _ _ => rfl)) (fun _ _ => rfl))))) pe_int))) pss_nil)
      (pss_cons (ps_set (i := 3) sc_looked.nd rfl (Or.inl rfl) pe_int)
      (pss_cons (ps_for PassesOwn.never rfl (pi_range1 (by rfl) T.b_range (pa_cons pe_int pa_nil)) (pg_name (i := 4) sc_looked.nd rfl (Or.inl rfl)) (pss_one (ps_if (pt_truth (pe_op op_and (pe_op op_shr (pe_ix ix_tup (pv 0) pe_int (fun _ _ => rfl)) (pv 4)) pe_int) (by intro _; rfl)) (pss_cons (ps_set (i := 5) sc_looked.nd rfl (Or.inl rfl) (pv 2))
      (pss_cons (ps_for PassesOwn.never rfl (pi_range1 (by rfl) T.b_range (pa_cons pe_int pa_nil)) (pg_name (i := 6) sc_looked.nd rfl (Or.inl rfl)) (pss_cons (ps_set (i := 7) sc_looked.nd rfl (Or.inl rfl) (pe_ix ix_list (pv 1) (pe_ix ix_tup (pv 0) (pv 6) (fun _ _ => rfl)) (fun _ _ => rfl)))
      (pss_one (ps_set (i := 5) sc_looked.nd rfl (Or.inl rfl) (pe_op op_and (pv 5) (pe_ifExp (pt_truth (pe_op op_and (pe_op op_shr (pv 4) (pv 6)) pe_int) (by intro _; rfl)) (pv 7) (pe_op op_xor (pv 7) (pv 2))))))))
      (pss_one (ps_set (i := 3) sc_looked.nd rfl (Or.inl rfl) (pe_op op_or (pv 3) (pv 5)))))) pss_nil)))
      (pss_one (ps_ret (pv 3)))))), ?_⟩
    refine ⟨_, rfl, rfl, _, rfl, ?_⟩
    by_cases h1 : e = 1
    · refine ifT (decide_eq_true (by rw [h1])) ?_
      have n0 := (hx.nth e0 r.a).1
      have n1 := (hx.nth e0 r.b).1
      have n2 := (hx.nth e0 r.c).1
      refine ⟨_, rfl, a, _, 3, _, rfl, rfl, ha, atI_nat (j := 3) rfl, ?_⟩
      refine ⟨_, rfl, _, rfl, a, _, 0, _, rfl, rfl, ha, r3_at (k := 0) (by decide), p, _, _, _, rfl, rfl, hp, pt_at (all_at hr3 (k := 0) (by decide)), ?_⟩
      refine ⟨_, rfl, _, rfl, a, _, 1, _, rfl, rfl, ha, r3_at (k := 1) (by decide), p, _, _, _, rfl, rfl, hp, pt_at (all_at hr3 (k := 1) (by decide)), _, _, rfl, rfl, .inl ⟨by decide, by decide⟩, _, _, rfl, rfl, ?_⟩
      refine ⟨_, rfl, _, rfl, a, _, 2, _, rfl, rfl, ha, r3_at (k := 2) (by decide), p, _, _, _, rfl, rfl, hp, pt_at (all_at hr3 (k := 2) (by decide)), _, _, rfl, rfl, .inl ⟨by decide, by decide⟩, _, _, rfl, rfl, ?_⟩
      refine ⟨_, _, rfl, rfl, (show 0 ≤ nth xs r.a + 2 * nth xs r.b + 4 * nth xs r.c by omega), _, _, rfl, rfl, ?_⟩
      unfold lookP at k
      rw [if_pos h1] at k
      exact k
    refine ifF (decide_eq_false fun z => h1 (V.int.inj z)) ?_
    unfold lookP at k
    rw [if_neg h1] at k
    have range3 := allR_iff.mp hr3
    refine ⟨_, rfl, by decide, by decide, for_range (lo := 0) (n := (8 : Int).toNat) (fun i σ' H' => H' = H ∧ ∃ o4 o5 o6 o7 : Option V, σ' = [some (.ref a), some (.ref p), some (.int e), some (.int (fndP e r.t (rowV xs r) i)), o4, o5, o6, o7]) ⟨rfl, none, none, none, none, rfl⟩ ?_ ?_⟩
    · rintro c σ H2 hc ⟨rfl, o4, o5, o6, o7, rfl⟩
      have hc : c < 8 := hc
      rw [Int.zero_add]
      refine ⟨_, rfl, a, _, 3, _, rfl, rfl, ha, atI_nat (j := 3) rfl, _, rfl, _, _, rfl, rfl, (show (0 : Int) ≤ c by omega), _, _, rfl, rfl, _, rfl, ?_⟩
      have ef : fndP e r.t (rowV xs r) (c + 1) = if bitC r.t c = true then Builtin.bitOr (fndP e r.t (rowV xs r) c) (hereP e (rowV xs r) c 3) else fndP e r.t (rowV xs r) c := rfl
      rw [tru_bit]
      by_cases hb : bitC r.t c = true
      · rw [if_pos hb] at ef
        refine ifT hb ?_
        refine ⟨_, rfl, ?_⟩
        refine ⟨_, rfl, by decide, by decide, for_range (lo := 0) (n := (3 : Int).toNat) (fun i σ' H' => H' = H2 ∧ ∃ o6 o7 : Option V, σ' = [some (.ref a), some (.ref p), some (.int e), some (.int (fndP e r.t (rowV xs r) c)), some (.int c), some (.int (hereP e (rowV xs r) c i)), o6, o7]) ⟨rfl, _, _, rfl⟩ ?_ ?_⟩
        · rintro i σ H3 hi ⟨rfl, o6, o7, rfl⟩
          have hi : i < 3 := hi
          rw [Int.zero_add]
          refine ⟨_, rfl, _, rfl, _, rfl, a, _, i, _, rfl, rfl, ha, r3_at hi, p, _, _, _, rfl, rfl, hp, pt_at (all_at hr3 hi), ?_⟩
          refine ⟨_, rfl, _, rfl, _, rfl, _, _, rfl, rfl, (show (0 : Int) ≤ i by omega), _, _, rfl, rfl, _, rfl, ?_⟩
          rw [tru_bit]
          refine if_pick (x := nth xs (nth r.l i)) (y := Builtin.bitXor (nth xs (nth r.l i)) e) rfl (fun Q q => ⟨_, rfl, _, rfl, _, _, rfl, rfl, q⟩) ⟨_, _, rfl, rfl, rfl, _, _, rfl⟩
        · rintro σ H3 ⟨rfl, o6, o7, rfl⟩
          refine ⟨_, rfl, _, rfl, _, _, rfl, rfl, rfl, some (.int c), some (.int (hereP e (rowV xs r) c 3)), o6, o7, ?_⟩
          rw [ef]
          rfl
      · rw [if_neg hb] at ef
        refine ifF (Bool.eq_false_iff.mpr hb) ⟨rfl, some (.int c), o5, o6, o7, ?_⟩
        rw [ef]
        rfl
    · rintro σ H2 ⟨rfl, o4, o5, o6, o7, rfl⟩
      exact ⟨_, rfl, k⟩
/-! ### tables_clock -/
def gP (xs : List Int) : PyData → PyData
  | .int i => .int (nth xs i)
  | d => d
theorem gP_map {xs l : List Int} : List.map (gP xs) ((intsD l).filter fun _ => true) = intsD (pts xs l) := by
  rw [List.filter_eq_self.mpr fun _ _ => rfl]
  unfold intsD pts
  rw [List.map_map, List.map_map]
  rfl
theorem okR_parts {m : Int} {r : Rw} (h : okR m r = true) : allR m r.l = true ∧ 0 ≤ r.t ∧ r.t < 256 := by
  unfold okR at h
  simp only [Bool.and_eq_true] at h
  exact ⟨h.1.1.1, inR_iff.mp h.1.1.2⟩
theorem allR_mono {m n : Int} (h : m ≤ n) {l : List Int} (a : allR m l = true) : allR n l = true := allR_iff.mpr fun x hx => by have := allR_iff.mp a x hx; omega
def spClkT (K : PySem.W.Frag) : Sp := fun vs H Q _ => ∃ (v vf vi : V) (g : Tb) (e : Int) (L : Nat) (fl ins : List Int), vs = [v, .int e, vf, vi] ∧ e = 2 ^ L - 1 ∧ Dp K H v (tbD g) ∧ SmL g.fst g.nxt g.out g.rws.length ∧ TbP g ∧ Nums K H vf fl ∧ Nums K H vi ins ∧ fl.length = g.fst.length ∧ (ins.length : Int) = g.inp ∧ ins.length ≤ 1000 ∧ Lan e fl ∧ Lan e ins ∧
  TwoL H (tstep g e fl ins).1 (tstep g e fl ins).2 Q
theorem ok_clkT {f : Addr} {fd : FuncData} (F : Fun K "tables_clock" "tables_clock" s_tables_clock f fd) (T : Txt K mg) (c_looked : Cal P w K mg base 1 "looked" (spLook K lookP) []) :
    FnOk P w K mg base CX0 2 f fd ["tables", "every", "flops", "inputs"] (spClkT K) := by
  refine F.ok sc_tables_clock (fun vs H Q E h => ?_) (fun cdv A outer s H vs Q E hr h => ?_)
  · obtain ⟨v, vf, vi, g, e, L, fl, ins, rfl, _⟩ := h
    rfl
  · obtain ⟨v, vf, vi, g, e, L, fl, ins, rfl, eL, hd, hs, gp, hf, hi, lf, li, li2, laF, laI, k⟩ := h
    obtain ⟨a, af, an, ag, ao, xg, rfl, hx, hF, hN, hG, hGs, hO⟩ := lv_dp hd
    obtain ⟨al, rfl, hf⟩ := hf
    obtain ⟨ai, rfl, hi⟩ := hi
    have lf2 : fl.length ≤ 1000 := lf ▸ hs.1
    have pw : (0 : Int) < 2 ^ L := Int.pow_pos (by decide)
    have e0 : 0 ≤ e := by omega
    refine ⟨_, (pss_cons (ps_set (i := 4) sc_tables_clock.nd rfl (Or.inr rfl) (pe_op op_cat (pe_op op_cat (pe_lst (pa_cons pe_int pa_nil)) (pe_callTy call_list_of (by rfl) T.b_list boot_list' (pa_cons (pv 3) pa_nil))) (pe_callTy call_list_of (by rfl) T.b_list boot_list' (pa_cons (pv 2) pa_nil))))
      (pss_cons (ps_for PassesOwn.never rfl (pi_list (pe_ix ix_tup (pv 0) pe_int (fun _ _ => rfl))) (pg_name (i := 5) sc_tables_clock.nd rfl (Or.inl rfl)) (pss_one (ps_expr (pe_bm PySem.F.plainAttrs_list PySem.F.slot_list_append PySem.F.type_list_append mt_append (pv 4) (pa_cons (pe_c c_looked hr (by omega) rfl (pa_cons (pv 5) (pa_cons (pv 4) (pa_cons (pv 1) pa_nil)))) pa_nil)))))
      (pss_one (ps_ret (pe_tup (pa_cons (pe_lc (own := [("point", 6)]) rfl sc_tables_clock.nd (pi_list (pe_ix ix_tup (pv 0) pe_int (fun _ _ => rfl))) (blkOk_by (own := [("point", 6)]) (N := ["tables", "every", "flops", "inputs", "values", "row", "point"]) (sc := defScope s_tables_clock) (by decide +kernel)) (fun _ _ _ _ _ => (pg_name (i := 6) sc_tables_clock.nd rfl (Or.inl rfl))) (fun _ _ _ _ _ => pts_nil) (fun _ _ _ _ _ => (pe_ix (ix_listK (K := K) rfl) (pv 4) (pv 6) (fun _ _ => rfl)))) (pa_cons (pe_lc (own := [("point", 6)]) rfl sc_tables_clock.nd (pi_list (pe_ix ix_tup (pv 0) pe_int (fun _ _ => rfl))) (blkOk_by (own := [("point", 6)]) (N := ["tables", "every", "flops", "inputs", "values", "row", "point"]) (sc := defScope s_tables_clock) (by decide +kernel)) (fun _ _ _ _ _ => (pg_name (i := 6) sc_tables_clock.nd rfl (Or.inl rfl))) (fun _ _ _ _ _ => pts_nil) (fun _ _ _ _ _ => (pe_ix (ix_listK (K := K) rfl) (pv 4) (pv 6) (fun _ _ => rfl)))) pa_nil))))))), ?_⟩
    refine ⟨(show 1 ≤ sizeLine by decide), fun p1 m1 => ?_⟩
    have t1 := same_new (o := HO.lst [V.int 0]) m1
    refine ⟨_, rfl, ai, _, rfl, hi.imp (fun z => t1.seq z) (fun z => Same.tup t1 z), fun p2 m2 => ?_⟩
    have t2 := same_new (o := HO.lst (ins.map V.int)) m2
    refine ⟨p1, p2, _, _, rfl, rfl, t2 _ _ upd_same, upd_same, size_of (by rw [List.length_map]; simp only [List.length_singleton]; omega), fun p3 m3 => ?_⟩
    have t3 := same_new (o := HO.lst ([V.int 0] ++ ins.map V.int)) m3
    have t123 := (t1.trans t2).trans t3
    refine ⟨_, rfl, al, _, rfl, hf.imp (fun z => t123.seq z) (fun z => Same.tup t123 z), fun p4 m4 => ?_⟩
    have t4 := same_new (o := HO.lst (fl.map V.int)) m4
    refine ⟨p3, p4, _, _, rfl, rfl, t4 _ _ upd_same, upd_same, size_of (by rw [List.length_append, List.length_map, List.length_map]; simp only [List.length_singleton]; omega), fun p5 m5 => ?_⟩
    have t1234 := t123.trans t4
    have e5 : [V.int 0] ++ ins.map V.int ++ fl.map V.int = (v0 fl ins).map V.int := by simp [v0]
    rw [e5]
    have n5 : H p5 = none := none_of_same t1234 m5
    have s5 : Same H (upd (upd (upd (upd (upd H p1 (.lst [V.int 0])) p2 (.lst (ins.map V.int))) p3 (.lst ([V.int 0] ++ ins.map V.int))) p4 (.lst (fl.map V.int))) p5 (.lst ((v0 fl ins).map V.int))) := t1234.trans (same_new m5)
    have h5 := upd_same (H := upd (upd (upd (upd H p1 (.lst [V.int 0])) p2 (.lst (ins.map V.int))) p3 (.lst ([V.int 0] ++ ins.map V.int))) p4 (.lst (fl.map V.int))) (a := p5) (o := .lst ((v0 fl ins).map V.int))
    generalize upd (upd (upd (upd (upd H p1 (.lst [V.int 0])) p2 (.lst (ins.map V.int))) p3 (.lst ([V.int 0] ++ ins.map V.int))) p4 (.lst (fl.map V.int))) p5 (.lst ((v0 fl ins).map V.int)) = H5 at s5 h5
    have l0 : (v0 fl ins).length = 1 + ins.length + fl.length := by
      unfold v0
      rw [List.length_cons, List.length_append]
      omega
    have em : t0 g = ((v0 fl ins).length : Nat) := by
      unfold t0
      omega
    have la0 : Lan e (v0 fl ins) := v0_lan e0 laF laI
    -- rows
    refine ⟨_, rfl, a, _, 3, _, rfl, rfl, Same.tup s5 hx, atI_nat (j := 3) rfl, ag, rfl, ⟨_, s5.seq hG⟩, for_list (K := K) (a := ag) (xs := xg) (fun i σ H' => ∃ (o5 : Option V), σ = [some (.ref a), some (.int e), some (.ref al), some (.ref ai), some (.ref p5), o5, none] ∧ Same H H' ∧ H' p5 = some (.lst ((rows e (v0 fl ins) (g.rws.take i)).map V.int)))
      ⟨none, rfl, s5, h5⟩ ?_ ?_ ?_⟩
    · rintro i σ H' _ ⟨_, _, Hs, _⟩
      exact Hs.seq hG
    · rintro i x σ H' hi ⟨o5, rfl, Hs, h6⟩
      obtain ⟨d, hdi, dx⟩ := dps_getv hGs hi
      rw [List.getElem?_map] at hdi
      obtain ⟨r, hrw, rfl⟩ := Option.map_eq_some_iff.mp hdi
      have il : i < g.rws.length := (List.getElem?_eq_some_iff.mp hrw).1
      obtain ⟨r1, r2⟩ := okR_parts (okRs_get gp.ps hrw)
      have tr : ∀ q ∈ g.rws.take i, 0 ≤ q.t ∧ q.t < 256 := fun q hq => by
        obtain ⟨j, hj⟩ := List.getElem?_of_mem (List.mem_of_mem_take hq)
        exact (okR_parts (okRs_get gp.ps hj)).2
      have hlen : (rows e (v0 fl ins) (g.rws.take i)).length = (v0 fl ins).length + i := by
        rw [rows_len, List.length_take]
        omega
      have lc : Lan e (rows e (v0 fl ins) (g.rws.take i)) := by
        rw [eL] at la0 ⊢
        exact (rows_eq _ la0 tr).2
      have hrun := rows_snoc (e := e) r (g.rws.take i) (v0 fl ins)
      rw [← take_snoc hrw] at hrun
      generalize rows e (v0 fl ins) (g.rws.take i) = cur at h6 hlen hrun lc
      have gl := hs.2.2.1
      refine ⟨_, rfl, .inl ⟨rfl, _, SqL.of h6⟩, _, rfl, _, rfl, _, rfl, x, p5, r, cur, e, rfl, dp_same Hs dx, SqL.of h6, by rw [hlen]; exact allR_mono (by omega) r1, lc, e0, _, _, _, rfl, rfl, h6, size_lt (by rw [List.length_map, hlen]; omega), some x, rfl, same_mut Hs n5, ?_⟩
      rw [upd_same, hrun, List.map_append]
      rfl
    · rintro σ H6 ⟨o5, rfl, s6, h6⟩
      rw [dps_len hGs, List.length_map, List.take_length] at h6
      have lw := rows_len (e := e) g.rws (v0 fl ins)
      have em2 : t0 g + (g.rws.length : Nat) = ((rows e (v0 fl ins) g.rws).length : Nat) := by omega
      have gO : allR ((rows e (v0 fl ins) g.rws).length : Nat) g.out = true := em2 ▸ gp.o
      have gN : allR ((rows e (v0 fl ins) g.rws).length : Nat) g.nxt = true := em2 ▸ gp.n
      have fin : TwoL H (pts (rows e (v0 fl ins) g.rws) g.out) (pts (rows e (v0 fl ins) g.rws) g.nxt) Q := k
      generalize rows e (v0 fl ins) g.rws = cur at h6 gO gN fin
      refine ⟨_, rfl, a, _, 4, _, rfl, rfl, Same.tup s6 hx, atI_nat (j := 4) rfl, ao, rfl, ⟨_, s6.seq hO⟩, fun D1 hD1 => ?_⟩
      refine lc_data (K := K) (a := ao) (xs := g.out.map V.int) (ds := intsD g.out) (fun _ => true) (gP cur) (s6.seq hO) (dps_ints _) hD1 (by rw [ints_len]; have := hs.2.2.2; omega) ?_ ?_
      · intro v d G acc R dm hv sG hG hacc _ hyes
        obtain ⟨i, hi, rfl⟩ := List.mem_map.mp dm
        cases dp_int hv
        have r := inR_iff.mpr (allR_iff.mp gO i hi)
        refine ⟨rfl, _, rfl, _, rfl, p5, _, _, _, rfl, rfl, SqL.of ((same_new hG) _ _ (sG _ _ h6)), pt_at r, acc, upd_same, hacc, ?_⟩
        rw [upd_app]
        exact hyes rfl G _ (Same.refl _) hG (.int _)
      intro G1 ys1 sG1 hG1 hys1
      rw [gP_map] at hys1
      cases dps_ints_of hys1
      have s7 := sG1.trans (same_new (o := HO.lst ((pts cur g.out).map V.int)) hG1)
      have d1 := upd_same (H := G1) (a := D1) (o := .lst ((pts cur g.out).map V.int))
      generalize upd G1 D1 (.lst ((pts cur g.out).map V.int)) = H7 at s7 d1
      have s67 := s6.trans s7
      refine ⟨_, rfl, a, _, 2, _, rfl, rfl, Same.tup s67 hx, atI_nat (j := 2) rfl, an, rfl, ⟨_, s67.seq hN⟩, fun D2 hD2 => ?_⟩
      refine lc_data (K := K) (a := an) (xs := g.nxt.map V.int) (ds := intsD g.nxt) (fun _ => true) (gP cur) (s67.seq hN) (dps_ints _) hD2 (by rw [ints_len]; have := hs.2.1; omega) ?_ ?_
      · intro v d G acc R dm hv sG hG hacc _ hyes
        obtain ⟨i, hi, rfl⟩ := List.mem_map.mp dm
        cases dp_int hv
        have r := inR_iff.mpr (allR_iff.mp gN i hi)
        refine ⟨rfl, _, rfl, _, rfl, p5, _, _, _, rfl, rfl, SqL.of ((same_new hG) _ _ (sG _ _ (s7 _ _ h6))), pt_at r, acc, upd_same, hacc, ?_⟩
        rw [upd_app]
        exact hyes rfl G _ (Same.refl _) hG (.int _)
      intro G2 ys2 sG2 hG2 hys2
      rw [gP_map] at hys2
      cases dps_ints_of hys2
      have s8 := sG2.trans (same_new (o := HO.lst ((pts cur g.nxt).map V.int)) hG2)
      refine ⟨(show 2 ≤ sizeLine by decide), fun t nt => ?_⟩
      have s9 := same_new (o := HO.tup [V.ref D1, V.ref D2]) nt
      exact fin t D1 D2 _ ((s67.trans s8).trans s9) (none_of_same s6 hD1) (none_of_same s67 hD2) upd_same (s9 _ _ (s8 _ _ d1)) (s9 _ _ upd_same)
end
end Q80



set_option pp.maxSteps 1500
namespace Q80
open PySem L2 G M80
open C8 (Cal Met Mak pe_c pe_mk pe_mt pe_mt0 pe_gc pss_cut tCut)
section
variable {P : Program} {w : World} {K : PySem.W.Frag} {mg : Str → Option Value} {base : Heap}
theorem ok_stepT {C : Addr} {f : Addr} {fd : FuncData} (F : Fun K "step_tables" "step_tables" s_step_tables f fd) (T : Txt K mg) (c_InvalidTables : Erm P w K mg base 1 "InvalidTables" C "what") (c_check_tables : CalX P w K mg base 4 "check_tables" (spChkT K C)) (c_clock_fits : Cal P w K mg base 3 "clock_fits" (spFits K) []) (c_tables_clock : Cal P w K mg base 2 "tables_clock" (spClkT K) []) :
    FnOk P w K mg base (L2.CX P w) 5 f fd ["tables", "lanes", "flops", "inputs"] (spStep K C tbD SmT okTb Tb.inp Tb.fst tstep) := by
  refine F.okX sc_step_tables (fun vs H Q E h => ?_) (fun cdv A outer s H vs Q E hr h => ?_)
  · obtain ⟨v, vf, vi, g, L, fl, ins, rfl, _⟩ := h
    rfl
  · obtain ⟨v, vf, vi, g, L, fl, ins, rfl, hd, hs, hf, hi, lf, li, hL, ky, kn⟩ := h
    refine ⟨_, (pss_cons (ps_expr (pe_cx c_check_tables hr (by omega) rfl (takes_of rfl rfl rfl rfl) (pa_cons (pv 0) pa_nil)))
      (pss_cons (ps_if (pt_not (pt_val (pe_c c_clock_fits hr (by omega) rfl (pa_cons (pv 0) (pa_cons (pv 1) (pa_cons (pv 2) (pa_cons (pv 3) pa_nil))))))) (pss_one (ps_raise rfl (takes_of rfl rfl rfl rfl) (pmk_e c_InvalidTables hr (by omega) rfl (pa_cons pe_str pa_nil)))) pss_nil)
      (pss_one (ps_ret (pe_c c_tables_clock hr (by omega) rfl (pa_cons (pv 0) (pa_cons (pe_op op_sub (pe_op op_shl pe_int (pv 1)) pe_int) (pa_cons (pv 2) (pa_cons (pv 3) pa_nil))))))))), ?_⟩
    refine ⟨_, rfl, v, g, rfl, hd, hs, fun ok H1 s1 => ?_, fun no => ?_⟩
    · rw [ok, Bool.true_and] at kn
      refine ⟨_, rfl, _, rfl, _, rfl, _, rfl, v, vf, vi, g.inp, g.fst, g.nxt, g.out, g.rws.map rwD, L, fl, ins, rfl, dp_same s1 hd, hf.same s1, hi.same s1, lf, li, hL, fun H2 s2 => ⟨_, rfl, ?_⟩⟩
      have s12 := s1.trans s2
      by_cases p : fits g.inp g.fst L fl ins = false
      · refine ifT (by rw [p]; rfl) ⟨_, rfl, fun d m => (kn p).here s12 m⟩
      have p : fits g.inp g.fst L fl ins = true := by simpa using p
      refine ifF (by rw [p]; rfl) ?_
      obtain ⟨q1, q2, q3, q4, q5⟩ := fits_parts p
      refine ⟨_, rfl, _, rfl, _, _, rfl, rfl, ⟨by omega, by omega, by decide⟩, _, _, rfl, rfl, _, rfl, _, rfl, ?_⟩
      rw [Int.one_mul]
      exact ⟨v, vf, vi, g, _, L.toNat, fl, ins, rfl, rfl, dp_same s12 hd, hs, okTb_parts.mp ok, hf.same s12, hi.same s12, q3, q5, li, lan_all.mp q2, lan_all.mp q4, (ky ok p).later s12⟩
    · exact kn (by rw [no, Bool.false_and])
theorem ok_runT {C : Addr} {f : Addr} {fd : FuncData} (F : Fun K "run_tables" "run_tables" s_run_tables f fd) (T : Txt K mg) (c_InvalidTables : Erm P w K mg base 1 "InvalidTables" C "what") (c_check_tables : CalX P w K mg base 4 "check_tables" (spChkT K C)) (c_is_number : Cal P w K mg base 1 "is_number" spNum []) (c_clock_fits : Cal P w K mg base 3 "clock_fits" (spFits K) []) (c_tables_clock : Cal P w K mg base 2 "tables_clock" (spClkT K) []) :
    FnOk P w K mg base (L2.CX P w) 5 f fd ["tables", "lanes", "clocks"] (spRun K tbD SmT okTb Tb.inp Tb.fst tstep) := by
  refine F.okX sc_run_tables (fun vs H Q E h => ?_) (fun cdv A outer s H vs Q E hr h => ?_)
  · obtain ⟨v, vc, g, L, cl, rfl, _⟩ := h
    rfl
  · obtain ⟨v, vc, g, L, cl, rfl, hd, hs, ok, L1, L2', lfst, afst, so, hc, ll, lc, k⟩ := h
    obtain ⟨a, af, an, ag, ao, xg, e, hx, hF, hN, hG, hGs, hO⟩ := lv_dp hd
    obtain ⟨ac, xc, rfl, hC, hCs⟩ := dp_lst hc
    have pw : (0 : Int) < 2 ^ L := Int.pow_pos (by decide)
    refine ⟨_, (pss_cons (ps_expr (pe_cx c_check_tables hr (by omega) rfl (takes_of rfl rfl rfl rfl) (pa_cons (pv 0) pa_nil)))
      (pss_cons (ps_if (PW.pt (pw_or (pt_not (pt_val (pe_c c_is_number hr (by omega) rfl (pa_cons (pv 1) (pa_cons pe_int (pa_cons pe_non pa_nil)))))) (pw_or1 (pt_not (pt_val (pe_callB call_isiT (by rfl) T.b_isinstance boot_isinstance' (pa_cons (pv 2) (pa_cons (pe_tup (pa_cons (pe_bltn (v := .ty "tuple") (by rfl) T.b_tuple boot_tuple' rfl) (pa_cons (pe_bltn (v := .ty "list") (by rfl) T.b_list boot_list' rfl) pa_nil))) pa_nil)))))))) (pss_one (ps_raise rfl (takes_of rfl rfl rfl rfl) (pmk_e c_InvalidTables hr (by omega) rfl (pa_cons pe_str pa_nil)))) pss_nil)
      (pss_cons (ps_set (i := 3) sc_run_tables.nd rfl (Or.inr rfl) (pe_op op_sub (pe_op op_shl pe_int (pv 1)) pe_int))
      (pss_cons (ps_setLc (i := 4) (own := [("first", 8)]) rfl sc_run_tables.nd rfl rfl (sw_true rfl rfl rfl (by decide +kernel)) (pi_list (pe_ix ix_tup (pv 0) pe_int (fun _ _ => rfl))) (blkOk_by (own := [("first", 8)]) (N := ["tables", "lanes", "clocks", "every", "flops", "found", "inputs", "outputs", "first"]) (sc := defScope s_run_tables) (by decide +kernel)) (fun _ _ _ _ _ => (pg_name (i := 8) sc_run_tables.nd rfl (Or.inl rfl))) (fun _ _ _ _ _ => pts_nil) (fun _ _ _ _ _ => (pe_ifExp (pt_cmpR op_eq (pv 8) pe_int (nomark _)) (pv 3) pe_int)))
      (pss_cons (ps_set (i := 5) sc_run_tables.nd rfl (Or.inl rfl) (pe_lst pa_nil))
      (pss_cons (ps_for (passes_of rfl) rfl (pi_list (pv 2)) (pg_name (i := 6) sc_run_tables.nd rfl (Or.inl rfl)) (pss_cons (ps_if (pt_not (pt_val (pe_c c_clock_fits hr (by omega) rfl (pa_cons (pv 0) (pa_cons (pv 1) (pa_cons (pv 4) (pa_cons (pv 6) pa_nil))))))) (pss_one (ps_raise rfl (takes_of rfl rfl rfl rfl) (pmk_e c_InvalidTables hr (by omega) rfl (pa_cons pe_str pa_nil)))) pss_nil)
      (pss_cons (ps_asg (pe_c c_tables_clock hr (by omega) rfl (pa_cons (pv 0) (pa_cons (pv 3) (pa_cons (pv 4) (pa_cons (pv 6) pa_nil))))) (pg_tup rfl (pgs_cons (pg_name (i := 7) sc_run_tables.nd rfl (Or.inl rfl)) (pgs_cons (pg_name (i := 4) sc_run_tables.nd rfl (Or.inl rfl)) pgs_nil))))
      (pss_one (ps_expr (pe_bm PySem.F.plainAttrs_list PySem.F.slot_list_append PySem.F.type_list_append mt_append (pv 5) (pa_cons (pv 7) pa_nil)))))))
      (pss_one (ps_ret (pv 5))))))))), ?_⟩
    refine ⟨_, rfl, v, g, rfl, hd, hs, fun _ H1 s1 => ?_, fun no => absurd (ok.symm.trans no) (by decide)⟩
    subst e
    refine ⟨_, rfl, L, 1, none, rfl, _, rfl, ?_⟩
    have e1 : numB 1 none L = true := by unfold numB; rw [Bool.and_true]; exact decide_eq_true (by omega)
    refine ifF (by rw [e1]; rfl) ?_
    refine ⟨_, rfl, by decide, fun p n1 => ?_⟩
    have s2 := s1.trans (same_new (o := HO.tup [V.ty "tuple", V.ty "list"]) n1)
    refine ⟨_, _, _, _, _, _, rfl, upd_same, clsv2 _ _, dp_ty (d := llD cl) (.lst (s2.seq hC) (dps_same s2 hCs)), kitD2 K _ _ _ (by decide) (by decide), _, rfl, iteF ?_⟩
    refine ⟨_, rfl, _, _, rfl, rfl, ⟨by omega, by omega, by decide⟩, _, _, rfl, rfl, ?_⟩
    rw [Int.one_mul, Int.toNat_natCast]
    generalize upd H1 p _ = H2 at s2
    -- flops
    refine ⟨_, rfl, a, _, 1, _, rfl, rfl, Same.tup s2 hx, atI_nat (j := 1) rfl, af, rfl, ⟨_, s2.seq hF⟩, fun D hD => ?_⟩
    refine lc_data (K := K) (a := af) (xs := g.fst.map V.int) (ds := intsD g.fst) (fun _ => true) (allE (2 ^ L - 1)) (s2.seq hF) (dps_ints _) hD (by rw [ints_len]; omega) ?_ ?_
    · intro v d G acc R dm hv sG hG hacc _ hyes
      obtain ⟨i, hi, rfl⟩ := List.mem_map.mp dm
      cases dp_int hv
      refine ⟨rfl, _, rfl, rfl, _, rfl, if_first rfl (allR_iff.mp afst i hi) ⟨acc, upd_same, hacc, ?_⟩⟩
      rw [upd_app]
      exact hyes rfl G _ (Same.refl _) hG (.int _)
    intro G ys sG hG hys
    rw [allE_map] at hys
    cases dps_ints_of hys
    have s3 := (s2.trans sG).trans (same_new (o := HO.lst ((allF (2 ^ L - 1) g.fst).map V.int)) hG)
    have hf3 := upd_same (H := G) (a := D) (o := .lst ((allF (2 ^ L - 1) g.fst).map V.int))
    generalize upd G D (.lst ((allF (2 ^ L - 1) g.fst).map V.int)) = H3 at s3 hf3
    refine ⟨by decide, fun pd npd => ?_⟩
    have npd0 : H pd = none := none_of_same s3 npd
    have fl0 : Lan (2 ^ L - 1) (allF (2 ^ L - 1) g.fst) := allF_lan (by omega) afst
    have lan_i : ∀ i ∈ cl, Lan (2 ^ L - 1) i := fun i hi => lan_all.mp (lc i hi).2.2
    refine ⟨_, rfl, ac, rfl, ⟨_, (s3.trans (same_new npd)).seq hC⟩, for_list (K := K) (a := ac) (xs := xc) (fun i σ H' => ∃ (pf : Addr) (ys : List V) (o6 o7 : Option V), σ = [some (.ref a), some (.int L), some (.ref ac), some (.int (2 ^ L - 1)), some (.ref pf), some (.ref pd), o6, o7, none] ∧
      Same H (del1 H' pd) ∧ del1 H' pd pf = some (.lst ((flP (tstep g) (2 ^ L - 1) (allF (2 ^ L - 1) g.fst) (cl.take i)).map V.int)) ∧ H' pd = some (.lst ys) ∧ DpAll K (del1 H' pd) ys ((runP (tstep g) (2 ^ L - 1) (allF (2 ^ L - 1) g.fst) (cl.take i)).map fun o => .list (intsD o)))
      ⟨D, [], none, none, rfl, ?_, ?_, upd_same, .nil⟩ ?_ ?_ ?_⟩
    · rw [del1_upd, del1_none npd]
      exact s3
    · rw [del1_upd, del1_none npd]
      exact hf3
    · rintro i σ H' _ ⟨_, _, _, _, _, Hs, _⟩
      exact (Hs.trans del1_sub).seq hC
    · rintro i x σ H' hi ⟨pf, ys, o6, o7, rfl, Hs, hpf, hpd, hys⟩
      obtain ⟨d, hdi, dx⟩ := dps_getv hCs hi
      rw [List.getElem?_map] at hdi
      obtain ⟨ins, hins, rfl⟩ := Option.map_eq_some_iff.mp hdi
      have mem := List.mem_of_getElem? hins
      obtain ⟨li, lj, ri⟩ := lc ins mem
      obtain ⟨q1, q2⟩ := flP_ok so (l := cl.take i) fl0 (List.length_map ..) fun j hj => lan_i j (List.mem_of_mem_take hj)
      have rs := runP_snoc (stp := tstep g) (e := 2 ^ L - 1) (i := ins) (l := cl.take i) (fl := allF (2 ^ L - 1) g.fst)
      have fs := flP_snoc (stp := tstep g) (e := 2 ^ L - 1) (i := ins) (l := cl.take i) (fl := allF (2 ^ L - 1) g.fst)
      rw [← take_snoc hins] at rs fs
      generalize flP (tstep g) (2 ^ L - 1) (allF (2 ^ L - 1) g.fst) (cl.take i) = fl at hpf q1 q2 rs fs
      have Hs' := Hs.trans (del1_sub (H := H') (a := pd))
      have hpf' := del1_sub _ _ hpf
      have ft : fits g.inp g.fst L fl ins = true := by
        unfold fits
        rw [decide_eq_true (p := (1 : Int) ≤ L) (by omega), Int.toNat_natCast, lan_all.mpr q1, ri, decide_eq_true q2, decide_eq_true lj]
        rfl
      obtain ⟨ai, xi, rfl, hai, hais⟩ := dp_lst (dp_same Hs' dx)
      cases dps_ints_of hais
      refine ⟨_, rfl, _, rfl, _, rfl, _, rfl, .ref a, .ref pf, .ref ai, g.inp, g.fst, g.nxt, g.out, g.rws.map rwD, L, fl, ins, rfl, dp_same Hs' hd, ⟨pf, rfl, .inl (SqL.of hpf')⟩, ⟨ai, rfl, .inl hai⟩, by omega, li, by omega, fun H5 s5 => ⟨_, rfl, ifF (by rw [ft]; rfl) ?_⟩⟩
      refine ⟨_, rfl, _, rfl, _, rfl, _, rfl, .ref a, .ref pf, .ref ai, g, _, L, fl, ins, rfl, rfl, dp_same (Hs'.trans s5) hd, hs, okTb_parts.mp ok, ⟨pf, rfl, .inl (SqL.of (s5 _ _ hpf'))⟩, ⟨ai, rfl, .inl (s5.seq hai)⟩, q2, lj, li, q1, lan_all.mp ri, fun t l1 l2 H6 s6 n1 n2 ht h1 h2 => ?_⟩
      have s56 := s5.trans s6
      have hpd6 := s56 _ _ hpd
      have ne1 : l1 ≠ pd := fun z => by rw [z, s5 _ _ hpd] at n1; cases n1
      have ne2 : l2 ≠ pd := fun z => by rw [z, s5 _ _ hpd] at n2; cases n2
      have yl : ys.length ≤ 1000 := by
        rw [dps_len hys, List.length_map]
        have : ∀ (l : List (List Int)) (fl : List Int), (runP (tstep g) (2 ^ L - 1) fl l).length = l.length := by
          intro l
          induction l with
          | nil => intro _; rfl
          | cons i r ih => intro fl; exact congrArg (· + 1) (ih _)
        rw [this, List.length_take]
        omega
      refine ⟨t, _, rfl, SqT.of ht, rfl, _, _, rfl, _, _, rfl, rfl, _, rfl, .inl ⟨rfl, _, SqL.of hpd6⟩, _, rfl, _, _, _, rfl, rfl, hpd6, size_lt (by omega), l2, ys ++ [.ref l1], _, _, rfl, ?_, ?_, upd_same, ?_⟩
      · rw [del1_upd]
        exact Hs.trans (del1_same s56)
      · rw [del1_upd, del1_ne ne2, fs]
        exact h2
      · rw [del1_upd, rs, List.map_append]
        exact dps_snoc (dps_same (del1_same s56) hys) (.lst (SqL.of (by rw [del1_ne ne1]; exact h1)) (dps_ints _))
    · rintro σ H' ⟨pf, ys, o6, o7, rfl, Hs, hpf, hpd, hys⟩
      rw [dps_len hCs, List.length_map, List.take_length] at hys
      exact ⟨_, rfl, k _ _ (Hs.trans del1_sub) (.lst (SqL.of hpd) (dps_same del1_sub hys))⟩
/-! ### depth_of, _law_depth -/
def spDep (K : PySem.W.Frag) : Sp := fun vs H Q _ => ∃ (v : V) (g : Tb), vs = [v] ∧ Dp K H v (tbD g) ∧ SmT g ∧ okTb g = true ∧ g.inp ≤ 1000 ∧ ∀ H', Same H H' → Q (.int (depth g)) H'
theorem ok_dep {C : Addr} {f : Addr} {fd : FuncData} (F : Fun K "depth_of" "depth_of" s_depth_of f fd) (T : Txt K mg) (c_check_tables : CalX P w K mg base 4 "check_tables" (spChkT K C)) :
    FnOk P w K mg base (L2.CX P w) 5 f fd ["tables"] (spDep K) := by
  refine F.okX sc_depth_of (fun vs H Q E h => ?_) (fun cdv A outer s H0 vs Q E hr h => ?_)
  · obtain ⟨v, g, rfl, _⟩ := h
    rfl
  · obtain ⟨v, g, rfl, hd, hs, ok, hin, k⟩ := h
    refine ⟨_, (pss_cons (ps_expr (pe_cx c_check_tables hr (by omega) rfl (takes_of rfl rfl rfl rfl) (pa_cons (pv 0) pa_nil)))
      (pss_cons (ps_set (i := 1) sc_depth_of.nd rfl (Or.inr rfl) (pe_op op_rep (pe_lst (pa_cons pe_int pa_nil)) (pe_op op_add (pe_op op_add pe_int (pe_ix ix_tup (pv 0) pe_int (fun _ _ => rfl))) (pe_callB call_len_seq (by rfl) T.b_len boot_len' (pa_cons (pe_ix ix_tup (pv 0) pe_int (fun _ _ => rfl)) pa_nil)))))
      (pss_cons (ps_for (passes_of rfl) rfl (pi_list (pe_ix ix_tup (pv 0) pe_int (fun _ _ => rfl))) (pg_name (i := 2) sc_depth_of.nd rfl (Or.inl rfl)) (pss_one (ps_expr (pe_bm PySem.F.plainAttrs_list PySem.F.slot_list_append PySem.F.type_list_append mt_append (pv 1) (pa_cons (pe_op op_add pe_int (pe_callB (cr_max rfl) (by rfl) T.b_max boot_max' (pa_cons (pe_lc (own := [("point", 3)]) rfl sc_depth_of.nd (pi_tup (pe_slice sl_tupA (pv 2) po_none (po_some pe_int))) (blkOk_by (own := [("point", 3)]) (N := ["tables", "depths", "row", "point"]) (sc := defScope s_depth_of) (by decide +kernel)) (fun _ _ _ _ _ => (pg_name (i := 3) sc_depth_of.nd rfl (Or.inl rfl))) (fun _ _ _ _ _ => pts_nil) (fun _ _ _ _ _ => (pe_ix (ix_listK (K := K) rfl) (pv 1) (pv 3) (fun _ _ => rfl)))) pa_nil))) pa_nil)))))
      (pss_one (ps_ret (pe_callB (cr_max rfl) (by rfl) T.b_max boot_max' (pa_cons (pe_op op_cat (pe_lst (pa_cons pe_int pa_nil)) (pe_lc (own := [("point", 3)]) rfl sc_depth_of.nd (pi_list (pe_op op_cat (pe_callTy call_list_of (by rfl) T.b_list boot_list' (pa_cons (pe_ix ix_tup (pv 0) pe_int (fun _ _ => rfl)) pa_nil)) (pe_callTy call_list_of (by rfl) T.b_list boot_list' (pa_cons (pe_ix ix_tup (pv 0) pe_int (fun _ _ => rfl)) pa_nil)))) (blkOk_by (own := [("point", 3)]) (N := ["tables", "depths", "row", "point"]) (sc := defScope s_depth_of) (by decide +kernel)) (fun _ _ _ _ _ => (pg_name (i := 3) sc_depth_of.nd rfl (Or.inl rfl))) (fun _ _ _ _ _ => pts_nil) (fun _ _ _ _ _ => (pe_ix (ix_listK (K := K) rfl) (pv 1) (pv 3) (fun _ _ => rfl))))) pa_nil))))))), ?_⟩
    refine ⟨_, rfl, v, g, rfl, hd, hs, fun _ H s0 => ?_, fun no => absurd (ok.symm.trans no) (by decide)⟩
    have hd := dp_same s0 hd
    have k : ∀ H', Same H H' → Q (.int (depth g)) H' := fun H' s => k H' (s0.trans s)
    have gp := okTb_parts.mp ok
    obtain ⟨a, af, an, ag, ao, xg, rfl, hx, hF, hN, hG, hGs, hO⟩ := lv_dp hd
    have p0 := gp.p0
    have l1 := hs.1
    have l2 := hs.2.1
    have l3 := hs.2.2.1
    have l4 := hs.2.2.2
    refine ⟨(show 1 ≤ sizeLine by decide), fun p1 m1 => ?_⟩
    have t1 := same_new (o := HO.lst [V.int 0]) m1
    refine ⟨_, rfl, a, _, 0, _, rfl, rfl, Same.tup t1 hx, atI_nat (j := 0) rfl, _, _, rfl, rfl, _, rfl, a, _, 1, _, rfl, rfl, Same.tup t1 hx, atI_nat (j := 1) rfl, af, _, rfl, .inl (t1.seq hF), _, _, rfl, rfl, ?_⟩
    have tl : 0 ≤ t0 g ∧ t0 g ≤ 5000 := by
      unfold t0
      omega
    refine ⟨p1, t0 g, _, rfl, (by rw [List.length_map]; rfl), upd_same, by omega, by omega, size_of (by simp only [List.length_singleton]; omega), fun p2 m2 => ?_⟩
    rw [rep_ints]
    have t2 := same_new (o := HO.lst ((List.replicate (t0 g).toNat (0 : Int)).map V.int)) m2
    have t12 := t1.trans t2
    have n2 : H p2 = none := none_of_same t1 m2
    have h2 := upd_same (H := upd H p1 (.lst [V.int 0])) (a := p2) (o := .lst ((List.replicate (t0 g).toNat (0 : Int)).map V.int))
    generalize upd (upd H p1 _) p2 _ = H2 at t12 h2
    have dl0 : ((List.replicate (t0 g).toNat (0 : Int)).length : Int) = t0 g := by rw [List.length_replicate]; omega
    have dgoal : depth g = mx (0 :: pts (deps (List.replicate (t0 g).toNat 0) g.rws) (g.nxt ++ g.out)) := rfl
    generalize List.replicate (t0 g).toNat (0 : Int) = d0 at h2 dl0 dgoal
    refine ⟨_, rfl, a, _, 3, _, rfl, rfl, Same.tup t12 hx, atI_nat (j := 3) rfl, ag, rfl, ⟨_, t12.seq hG⟩, for_list (K := K) (a := ag) (xs := xg) (fun i σ H' => ∃ (o2 : Option V), σ = [some (.ref a), some (.ref p2), o2, none] ∧ Same H H' ∧ H' p2 = some (.lst ((deps d0 (g.rws.take i)).map V.int)))
      ⟨none, rfl, t12, h2⟩ ?_ ?_ ?_⟩
    · rintro i σ H' _ ⟨_, _, Hs, _⟩
      exact Hs.seq hG
    · rintro i x σ H' hi ⟨o2, rfl, Hs, h6⟩
      obtain ⟨d, hdi, dx⟩ := dps_getv hGs hi
      rw [List.getElem?_map] at hdi
      obtain ⟨r, hrw, rfl⟩ := Option.map_eq_some_iff.mp hdi
      have il : i < g.rws.length := (List.getElem?_eq_some_iff.mp hrw).1
      obtain ⟨r1, _⟩ := okR_parts (okRs_get gp.ps hrw)
      obtain ⟨ar, rfl, har⟩ := rw_dp (dp_same Hs dx)
      have hlen : (deps d0 (g.rws.take i)).length = d0.length + i := by
        rw [deps_len, List.length_take]
        omega
      have hrun := deps_snoc r (g.rws.take i) d0
      rw [← take_snoc hrw] at hrun
      generalize deps d0 (g.rws.take i) = cur at h6 hlen hrun
      have gR : allR cur.length r.l = true := by rw [hlen]; exact allR_mono (by omega) r1
      refine ⟨_, rfl, .inl ⟨rfl, _, SqL.of h6⟩, ?_⟩
      refine ⟨_, rfl, 3, rfl, ?_⟩
      refine slA_new har fun b H7 s7 hb => ⟨b, rfl, ⟨_, hb⟩, fun D hD => ?_⟩
      rw [show cutV [V.int r.a, V.int r.b, V.int r.c, V.int r.t] none (some 3) = r.l.map V.int from rfl] at hb
      refine lc_dataT (K := K) (a := b) (xs := r.l.map V.int) (ds := intsD r.l) (fun _ => true) (gP cur) hb (dps_ints _) hD (show 3 ≤ 100000 by decide) ?_ ?_
      · intro v d G acc R dm hv sG hG hacc _ hyes
        obtain ⟨j, hj, rfl⟩ := List.mem_map.mp dm
        cases dp_int hv
        have q := inR_iff.mpr (allR_iff.mp gR j hj)
        refine ⟨rfl, _, rfl, _, rfl, p2, _, _, _, rfl, rfl, SqL.of ((same_new hG) _ _ (sG _ _ (s7 _ _ h6))), pt_at q, acc, upd_same, hacc, ?_⟩
        rw [upd_app]
        exact hyes rfl G _ (Same.refl _) hG (.int _)
      intro G ys sG hG hys
      rw [gP_map] at hys
      cases dps_ints_of hys
      have s8 := s7.trans (sG.trans (same_new (o := HO.lst ((pts cur r.l).map V.int)) hG))
      have dD := upd_same (H := G) (a := D) (o := .lst ((pts cur r.l).map V.int))
      generalize upd G D (.lst ((pts cur r.l).map V.int)) = H8 at s8 dD
      refine ⟨D, pts cur r.l, rfl, SqL.of dD, (show 0 < 3 by decide), fun m hm ht => ?_⟩
      have em := mx_eq hm ht
      subst em
      refine ⟨_, _, rfl, rfl, _, _, _, rfl, rfl, s8 _ _ h6, size_lt (by rw [List.length_map, hlen]; omega), some (.ref ar), rfl, same_mut (Hs.trans s8) n2, ?_⟩
      rw [upd_same, hrun, List.map_append]
      rfl
    · rintro σ H6 ⟨o2, rfl, s6, h6⟩
      rw [dps_len hGs, List.length_map, List.take_length] at h6
      have ld := deps_len g.rws d0
      have em2 : t0 g + (g.rws.length : Nat) = ((deps d0 g.rws).length : Nat) := by omega
      have gA : allR ((deps d0 g.rws).length : Nat) (g.nxt ++ g.out) = true := by
        rw [← em2]
        exact allR_iff.mpr fun x hx => (List.mem_append.mp hx).elim (allR_iff.mp gp.n x) (allR_iff.mp gp.o x)
      generalize deps d0 g.rws = cur at h6 gA dgoal
      refine ⟨(show 1 ≤ sizeLine by decide), fun p3 m3 => ?_⟩
      have t3 := same_new (o := HO.lst [V.int 0]) m3
      have s7 := s6.trans t3
      refine ⟨_, rfl, a, _, 2, _, rfl, rfl, Same.tup s7 hx, atI_nat (j := 2) rfl, an, _, rfl, .inl (s7.seq hN), fun p4 m4 => ?_⟩
      have t4 := same_new (o := HO.lst (g.nxt.map V.int)) m4
      have s8 := s7.trans t4
      refine ⟨_, rfl, a, _, 4, _, rfl, rfl, Same.tup s8 hx, atI_nat (j := 4) rfl, ao, _, rfl, .inl (s8.seq hO), fun p5 m5 => ?_⟩
      have t5 := same_new (o := HO.lst (g.out.map V.int)) m5
      refine ⟨p4, p5, _, _, rfl, rfl, t5 _ _ upd_same, upd_same, size_of (by rw [List.length_map, List.length_map]; omega), fun p6 m6 => ?_⟩
      have t6 := same_new (o := HO.lst (g.nxt.map V.int ++ g.out.map V.int)) m6
      rw [← List.map_append] at t6 ⊢
      have s9 := ((t3.trans t4).trans t5).trans t6
      have h9 := s9 _ _ h6
      have hp3 := ((t4.trans t5).trans t6) _ _ (upd_same (H := H6) (a := p3) (o := HO.lst [V.int 0]))
      refine ⟨p6, rfl, ⟨_, SqL.of upd_same⟩, fun D hD => ?_⟩
      refine lc_data (K := K) (a := p6) (xs := (g.nxt ++ g.out).map V.int) (ds := intsD (g.nxt ++ g.out)) (fun _ => true) (gP cur) (SqL.of upd_same) (dps_ints _) hD (by rw [ints_len, List.length_append]; omega) ?_ ?_
      · intro v d G acc R dm hv sG hG hacc _ hyes
        obtain ⟨j, hj, rfl⟩ := List.mem_map.mp dm
        cases dp_int hv
        have q := inR_iff.mpr (allR_iff.mp gA j hj)
        refine ⟨rfl, _, rfl, _, rfl, p2, _, _, _, rfl, rfl, SqL.of ((same_new hG) _ _ (sG _ _ h9)), pt_at q, acc, upd_same, hacc, ?_⟩
        rw [upd_app]
        exact hyes rfl G _ (Same.refl _) hG (.int _)
      intro G ys sG hG hys
      rw [gP_map] at hys
      cases dps_ints_of hys
      have sA := sG.trans (same_new (o := HO.lst ((pts cur (g.nxt ++ g.out)).map V.int)) hG)
      have dD := upd_same (H := G) (a := D) (o := .lst ((pts cur (g.nxt ++ g.out)).map V.int))
      generalize upd G D (.lst ((pts cur (g.nxt ++ g.out)).map V.int)) = HA at sA dD
      refine ⟨p3, D, _, _, rfl, rfl, sA _ _ hp3, dD, size_of (by rw [List.length_map]; unfold pts; rw [List.length_map, List.length_append]; simp only [List.length_singleton]; omega), fun p7 m7 => ?_⟩
      have t7 := same_new (o := HO.lst ([V.int 0] ++ (pts cur (g.nxt ++ g.out)).map V.int)) m7
      refine ⟨p7, 0 :: pts cur (g.nxt ++ g.out), rfl, SqL.of upd_same, Nat.succ_pos _, fun m hm ht => ?_⟩
      have em := mx_eq hm ht
      subst em
      rw [← dgoal]
      exact k _ (((s6.trans s9).trans sA).trans t7)
theorem ok_ldep {f : Addr} {fd : FuncData} (F : Fun K "_law_depth" "_law_depth" s__law_depth f fd) (T : Txt K mg) : FnOk P w K mg base CX0 1 f fd ["tables"] (spDep K) := by
  refine F.ok sc__law_depth (fun vs H Q E h => ?_) (fun cdv A outer s H vs Q E hr h => ?_)
  · obtain ⟨v, g, rfl, _⟩ := h
    rfl
  · obtain ⟨v, g, rfl, hd, hs, ok, hin, k⟩ := h
    refine ⟨_, (pss_cons (ps_set (i := 1) sc__law_depth.nd rfl (Or.inr rfl) (pe_op op_rep (pe_lst (pa_cons pe_int pa_nil)) (pe_op op_add (pe_op op_add pe_int (pe_ix ix_tup (pv 0) pe_int (fun _ _ => rfl))) (pe_callB call_len_seq (by rfl) T.b_len boot_len' (pa_cons (pe_ix ix_tup (pv 0) pe_int (fun _ _ => rfl)) pa_nil)))))
      (pss_cons (ps_for PassesOwn.never rfl (pi_list (pe_ix ix_tup (pv 0) pe_int (fun _ _ => rfl))) (pg_name (i := 2) sc__law_depth.nd rfl (Or.inl rfl)) (pss_one (ps_expr (pe_bm PySem.F.plainAttrs_list PySem.F.slot_list_append PySem.F.type_list_append mt_append (pv 1) (pa_cons (pe_op op_add pe_int (pe_callB (cr_max rfl) (by rfl) T.b_max boot_max' (pa_cons (pe_lc (own := [("point", 3)]) rfl sc__law_depth.nd (pi_tup (pe_slice sl_tupA (pv 2) po_none (po_some pe_int))) (blkOk_by (own := [("point", 3)]) (N := ["tables", "found", "row", "point"]) (sc := defScope s__law_depth) (by decide +kernel)) (fun _ _ _ _ _ => (pg_name (i := 3) sc__law_depth.nd rfl (Or.inl rfl))) (fun _ _ _ _ _ => pts_nil) (fun _ _ _ _ _ => (pe_ix (ix_listK (K := K) rfl) (pv 1) (pv 3) (fun _ _ => rfl)))) pa_nil))) pa_nil)))))
      (pss_one (ps_ret (pe_callB (cr_max rfl) (by rfl) T.b_max boot_max' (pa_cons (pe_op op_cat (pe_lst (pa_cons pe_int pa_nil)) (pe_lc (own := [("point", 3)]) rfl sc__law_depth.nd (pi_list (pe_op op_cat (pe_callTy call_list_of (by rfl) T.b_list boot_list' (pa_cons (pe_ix ix_tup (pv 0) pe_int (fun _ _ => rfl)) pa_nil)) (pe_callTy call_list_of (by rfl) T.b_list boot_list' (pa_cons (pe_ix ix_tup (pv 0) pe_int (fun _ _ => rfl)) pa_nil)))) (blkOk_by (own := [("point", 3)]) (N := ["tables", "found", "row", "point"]) (sc := defScope s__law_depth) (by decide +kernel)) (fun _ _ _ _ _ => (pg_name (i := 3) sc__law_depth.nd rfl (Or.inl rfl))) (fun _ _ _ _ _ => pts_nil) (fun _ _ _ _ _ => (pe_ix (ix_listK (K := K) rfl) (pv 1) (pv 3) (fun _ _ => rfl))))) pa_nil)))))), ?_⟩
    have gp := okTb_parts.mp ok
    obtain ⟨a, af, an, ag, ao, xg, rfl, hx, hF, hN, hG, hGs, hO⟩ := lv_dp hd
    have p0 := gp.p0
    have l1 := hs.1
    have l2 := hs.2.1
    have l3 := hs.2.2.1
    have l4 := hs.2.2.2
    refine ⟨(show 1 ≤ sizeLine by decide), fun p1 m1 => ?_⟩
    have t1 := same_new (o := HO.lst [V.int 0]) m1
    refine ⟨_, rfl, a, _, 0, _, rfl, rfl, Same.tup t1 hx, atI_nat (j := 0) rfl, _, _, rfl, rfl, _, rfl, a, _, 1, _, rfl, rfl, Same.tup t1 hx, atI_nat (j := 1) rfl, af, _, rfl, .inl (t1.seq hF), _, _, rfl, rfl, ?_⟩
    have tl : 0 ≤ t0 g ∧ t0 g ≤ 5000 := by
      unfold t0
      omega
    refine ⟨p1, t0 g, _, rfl, (by rw [List.length_map]; rfl), upd_same, by omega, by omega, size_of (by simp only [List.length_singleton]; omega), fun p2 m2 => ?_⟩
    rw [rep_ints]
    have t2 := same_new (o := HO.lst ((List.replicate (t0 g).toNat (0 : Int)).map V.int)) m2
    have t12 := t1.trans t2
    have n2 : H p2 = none := none_of_same t1 m2
    have h2 := upd_same (H := upd H p1 (.lst [V.int 0])) (a := p2) (o := .lst ((List.replicate (t0 g).toNat (0 : Int)).map V.int))
    generalize upd (upd H p1 _) p2 _ = H2 at t12 h2
    have dl0 : ((List.replicate (t0 g).toNat (0 : Int)).length : Int) = t0 g := by rw [List.length_replicate]; omega
    have dgoal : depth g = mx (0 :: pts (deps (List.replicate (t0 g).toNat 0) g.rws) (g.nxt ++ g.out)) := rfl
    generalize List.replicate (t0 g).toNat (0 : Int) = d0 at h2 dl0 dgoal
    refine ⟨_, rfl, a, _, 3, _, rfl, rfl, Same.tup t12 hx, atI_nat (j := 3) rfl, ag, rfl, ⟨_, t12.seq hG⟩, for_list (K := K) (a := ag) (xs := xg) (fun i σ H' => ∃ (o2 : Option V), σ = [some (.ref a), some (.ref p2), o2, none] ∧ Same H H' ∧ H' p2 = some (.lst ((deps d0 (g.rws.take i)).map V.int)))
      ⟨none, rfl, t12, h2⟩ ?_ ?_ ?_⟩
    · rintro i σ H' _ ⟨_, _, Hs, _⟩
      exact Hs.seq hG
    · rintro i x σ H' hi ⟨o2, rfl, Hs, h6⟩
      obtain ⟨d, hdi, dx⟩ := dps_getv hGs hi
      rw [List.getElem?_map] at hdi
      obtain ⟨r, hrw, rfl⟩ := Option.map_eq_some_iff.mp hdi
      have il : i < g.rws.length := (List.getElem?_eq_some_iff.mp hrw).1
      obtain ⟨r1, _⟩ := okR_parts (okRs_get gp.ps hrw)
      obtain ⟨ar, rfl, har⟩ := rw_dp (dp_same Hs dx)
      have hlen : (deps d0 (g.rws.take i)).length = d0.length + i := by
        rw [deps_len, List.length_take]
        omega
      have hrun := deps_snoc r (g.rws.take i) d0
      rw [← take_snoc hrw] at hrun
      generalize deps d0 (g.rws.take i) = cur at h6 hlen hrun
      have gR : allR cur.length r.l = true := by rw [hlen]; exact allR_mono (by omega) r1
      refine ⟨_, rfl, .inl ⟨rfl, _, SqL.of h6⟩, ?_⟩
      refine ⟨_, rfl, 3, rfl, ?_⟩
      refine slA_new har fun b H7 s7 hb => ⟨b, rfl, ⟨_, hb⟩, fun D hD => ?_⟩
      rw [show cutV [V.int r.a, V.int r.b, V.int r.c, V.int r.t] none (some 3) = r.l.map V.int from rfl] at hb
      refine lc_dataT (K := K) (a := b) (xs := r.l.map V.int) (ds := intsD r.l) (fun _ => true) (gP cur) hb (dps_ints _) hD (show 3 ≤ 100000 by decide) ?_ ?_
      · intro v d G acc R dm hv sG hG hacc _ hyes
        obtain ⟨j, hj, rfl⟩ := List.mem_map.mp dm
        cases dp_int hv
        have q := inR_iff.mpr (allR_iff.mp gR j hj)
        refine ⟨rfl, _, rfl, _, rfl, p2, _, _, _, rfl, rfl, SqL.of ((same_new hG) _ _ (sG _ _ (s7 _ _ h6))), pt_at q, acc, upd_same, hacc, ?_⟩
        rw [upd_app]
        exact hyes rfl G _ (Same.refl _) hG (.int _)
      intro G ys sG hG hys
      rw [gP_map] at hys
      cases dps_ints_of hys
      have s8 := s7.trans (sG.trans (same_new (o := HO.lst ((pts cur r.l).map V.int)) hG))
      have dD := upd_same (H := G) (a := D) (o := .lst ((pts cur r.l).map V.int))
      generalize upd G D (.lst ((pts cur r.l).map V.int)) = H8 at s8 dD
      refine ⟨D, pts cur r.l, rfl, SqL.of dD, (show 0 < 3 by decide), fun m hm ht => ?_⟩
      have em := mx_eq hm ht
      subst em
      refine ⟨_, _, rfl, rfl, _, _, _, rfl, rfl, s8 _ _ h6, size_lt (by rw [List.length_map, hlen]; omega), some (.ref ar), rfl, same_mut (Hs.trans s8) n2, ?_⟩
      rw [upd_same, hrun, List.map_append]
      rfl
    · rintro σ H6 ⟨o2, rfl, s6, h6⟩
      rw [dps_len hGs, List.length_map, List.take_length] at h6
      have ld := deps_len g.rws d0
      have em2 : t0 g + (g.rws.length : Nat) = ((deps d0 g.rws).length : Nat) := by omega
      have gA : allR ((deps d0 g.rws).length : Nat) (g.nxt ++ g.out) = true := by
        rw [← em2]
        exact allR_iff.mpr fun x hx => (List.mem_append.mp hx).elim (allR_iff.mp gp.n x) (allR_iff.mp gp.o x)
      generalize deps d0 g.rws = cur at h6 gA dgoal
      refine ⟨(show 1 ≤ sizeLine by decide), fun p3 m3 => ?_⟩
      have t3 := same_new (o := HO.lst [V.int 0]) m3
      have s7 := s6.trans t3
      refine ⟨_, rfl, a, _, 2, _, rfl, rfl, Same.tup s7 hx, atI_nat (j := 2) rfl, an, _, rfl, .inl (s7.seq hN), fun p4 m4 => ?_⟩
      have t4 := same_new (o := HO.lst (g.nxt.map V.int)) m4
      have s8 := s7.trans t4
      refine ⟨_, rfl, a, _, 4, _, rfl, rfl, Same.tup s8 hx, atI_nat (j := 4) rfl, ao, _, rfl, .inl (s8.seq hO), fun p5 m5 => ?_⟩
      have t5 := same_new (o := HO.lst (g.out.map V.int)) m5
      refine ⟨p4, p5, _, _, rfl, rfl, t5 _ _ upd_same, upd_same, size_of (by rw [List.length_map, List.length_map]; omega), fun p6 m6 => ?_⟩
      have t6 := same_new (o := HO.lst (g.nxt.map V.int ++ g.out.map V.int)) m6
      rw [← List.map_append] at t6 ⊢
      have s9 := ((t3.trans t4).trans t5).trans t6
      have h9 := s9 _ _ h6
      have hp3 := ((t4.trans t5).trans t6) _ _ (upd_same (H := H6) (a := p3) (o := HO.lst [V.int 0]))
      refine ⟨p6, rfl, ⟨_, SqL.of upd_same⟩, fun D hD => ?_⟩
      refine lc_data (K := K) (a := p6) (xs := (g.nxt ++ g.out).map V.int) (ds := intsD (g.nxt ++ g.out)) (fun _ => true) (gP cur) (SqL.of upd_same) (dps_ints _) hD (by rw [ints_len, List.length_append]; omega) ?_ ?_
      · intro v d G acc R dm hv sG hG hacc _ hyes
        obtain ⟨j, hj, rfl⟩ := List.mem_map.mp dm
        cases dp_int hv
        have q := inR_iff.mpr (allR_iff.mp gA j hj)
        refine ⟨rfl, _, rfl, _, rfl, p2, _, _, _, rfl, rfl, SqL.of ((same_new hG) _ _ (sG _ _ h9)), pt_at q, acc, upd_same, hacc, ?_⟩
        rw [upd_app]
        exact hyes rfl G _ (Same.refl _) hG (.int _)
      intro G ys sG hG hys
      rw [gP_map] at hys
      cases dps_ints_of hys
      have sA := sG.trans (same_new (o := HO.lst ((pts cur (g.nxt ++ g.out)).map V.int)) hG)
      have dD := upd_same (H := G) (a := D) (o := .lst ((pts cur (g.nxt ++ g.out)).map V.int))
      generalize upd G D (.lst ((pts cur (g.nxt ++ g.out)).map V.int)) = HA at sA dD
      refine ⟨p3, D, _, _, rfl, rfl, sA _ _ hp3, dD, size_of (by rw [List.length_map]; unfold pts; rw [List.length_map, List.length_append]; simp only [List.length_singleton]; omega), fun p7 m7 => ?_⟩
      have t7 := same_new (o := HO.lst ([V.int 0] ++ (pts cur (g.nxt ++ g.out)).map V.int)) m7
      refine ⟨p7, 0 :: pts cur (g.nxt ++ g.out), rfl, SqL.of upd_same, Nat.succ_pos _, fun m hm ht => ?_⟩
      have em := mx_eq hm ht
      subst em
      rw [← dgoal]
      exact k _ (((s6.trans s9).trans sA).trans t7)
end
end Q80



set_option pp.maxSteps 1500
namespace Q80
open PySem L2 G M80
open C8 (Cal Met Mak pe_c pe_mk pe_mt pe_mt0 pe_gc pss_cut tCut)
theorem upd_del1 {H : Hp} {D : Addr} {o : HO} : upd (del1 H D) D o = upd H D o := by
  funext b
  unfold upd del1
  by_cases h : b = D
  · rw [if_pos h, if_pos h]
  · rw [if_neg h, if_neg h, if_neg h]
section
variable {P : Program} {w : World} {K : PySem.W.Frag} {mg : Str → Option Value} {base : Heap}
/-! ### the law's own walks -/
def spLEdge (K : PySem.W.Frag) : Sp := fun vs H Q _ => ∃ (p : Addr) (k e : Int) (xs : List Int), vs = [.ref p, .int k, .int e] ∧ SqL K H p (xs.map V.int) ∧ 0 ≤ k ∧ k < 2 * xs.length ∧ Q (.int (edgeL e xs k)) H
theorem ok_ledge {f : Addr} {fd : FuncData} (F : Fun K "_law_edge" "_law_edge" s__law_edge f fd) (T : Txt K mg) : FnOk P w K mg base CX0 1 f fd ["values", "edge", "every"] (spLEdge K) := by
  refine F.ok sc__law_edge (fun vs H Q E h => ?_) (fun cdv A outer s H vs Q E hr h => ?_)
  · obtain ⟨p, k, e, xs, rfl, _⟩ := h
    rfl
  · obtain ⟨p, k, e, xs, rfl, hp, k0, k1, q⟩ := h
    refine ⟨_, (pss_one (ps_ret (pe_ifExp (pt_cmpR op_eq (pe_op op_mod (pe_callTy call_int1 (by rfl) T.b_int boot_int' (pa_cons (pv 1) pa_nil)) pe_int) pe_int (nomark _)) (pe_op op_sub (pv 2) (pe_ix ix_list (pv 0) (pe_op op_fdiv (pv 1) pe_int) (fun _ _ => rfl))) (pe_ix ix_list (pv 0) (pe_op op_fdiv (pv 1) pe_int) (fun _ _ => rfl))))), ?_⟩
    refine ⟨_, rfl, .inl ⟨_, rfl, _, _, rfl, rfl, (show (0 : Int) < 2 by decide), rfl, _, rfl, ?_⟩⟩
    unfold edgeL at q
    by_cases h : k % 2 = 1
    · rw [if_pos h] at q
      exact ifT (decide_eq_true (congrArg V.int h)) ⟨_, rfl, _, rfl, _, rfl, _, _, rfl, rfl, cdiv2, p, _, _, _, rfl, rfl, hp, half_at k0 k1, _, _, rfl, rfl, q⟩
    · rw [if_neg h] at q
      exact ifF (decide_eq_false fun z => h (V.int.inj z)) ⟨_, rfl, _, rfl, _, _, rfl, rfl, cdiv2, p, _, _, _, rfl, rfl, hp, half_at k0 k1, q⟩
def spLVal (K : PySem.W.Frag) : Sp := fun vs H Q _ => ∃ (v vf vi : V) (g : Gr) (e : Int) (fl ins : List Int), vs = [v, vf, vi, .int e] ∧ Dp K H v (grD g) ∧ SmG g ∧ GrP g ∧ Nums K H vf fl ∧ Nums K H vi ins ∧ fl.length = g.fst.length ∧ (ins.length : Int) = g.inp ∧ ins.length ≤ 1000 ∧
  ∀ (p : Addr) (H' : Hp), Same H H' → H p = none → H' p = some (.lst ((walkL e (v0 fl ins) g.prs).map V.int)) → Q (.ref p) H'
theorem ok_lgv {f : Addr} {fd : FuncData} (F : Fun K "_law_graph_values" "_law_graph_values" s__law_graph_values f fd) (T : Txt K mg) (c__law_edge : Cal P w K mg base 1 "_law_edge" (spLEdge K) []) : FnOk P w K mg base CX0 2 f fd ["graph", "flops", "inputs", "every"] (spLVal K) := by
  refine F.ok sc__law_graph_values (fun vs H Q E h => ?_) (fun cdv A outer s H vs Q E hr h => ?_)
  · obtain ⟨v, vf, vi, g, e, fl, ins, rfl, _⟩ := h
    rfl
  · obtain ⟨v, vf, vi, g, e, fl, ins, rfl, hd, hs, gp, hf, hi, lf, li, li2, k⟩ := h
    obtain ⟨a, af, an, ag, ao, xg, rfl, hx, hF, hN, hG, hGs, hO⟩ := lv_dp hd
    obtain ⟨al, rfl, hf⟩ := hf
    obtain ⟨ai, rfl, hi⟩ := hi
    have lf2 : fl.length ≤ 1000 := lf ▸ hs.1
    refine ⟨_, (pss_cons (ps_set (i := 4) sc__law_graph_values.nd rfl (Or.inl rfl) (pe_op op_cat (pe_op op_cat (pe_lst (pa_cons pe_int pa_nil)) (pe_callTy call_list_of (by rfl) T.b_list boot_list' (pa_cons (pv 2) pa_nil))) (pe_callTy call_list_of (by rfl) T.b_list boot_list' (pa_cons (pv 1) pa_nil))))
      (pss_cons (ps_for PassesOwn.never rfl (pi_list (pe_ix ix_tup (pv 0) pe_int (fun _ _ => rfl))) (pg_tup rfl (pgs_cons (pg_name (i := 5) sc__law_graph_values.nd rfl (Or.inl rfl)) (pgs_cons (pg_name (i := 6) sc__law_graph_values.nd rfl (Or.inl rfl)) pgs_nil))) (pss_one (ps_expr (pe_bm PySem.F.plainAttrs_list PySem.F.slot_list_append PySem.F.type_list_append mt_append (pv 4) (pa_cons (pe_op op_and (pe_c c__law_edge hr (by omega) rfl (pa_cons (pv 4) (pa_cons (pv 5) (pa_cons (pv 3) pa_nil)))) (pe_c c__law_edge hr (by omega) rfl (pa_cons (pv 4) (pa_cons (pv 6) (pa_cons (pv 3) pa_nil))))) pa_nil)))))
      (pss_one (ps_ret (pv 4))))), ?_⟩
    refine ⟨(show 1 ≤ sizeLine by decide), fun p1 m1 => ?_⟩
    have t1 := same_new (o := HO.lst [V.int 0]) m1
    refine ⟨_, rfl, ai, _, rfl, hi.imp (fun z => t1.seq z) (fun z => Same.tup t1 z), fun p2 m2 => ?_⟩
    have t2 := same_new (o := HO.lst (ins.map V.int)) m2
    refine ⟨p1, p2, _, _, rfl, rfl, t2 _ _ upd_same, upd_same, size_of (by rw [List.length_map]; simp only [List.length_singleton]; omega), fun p3 m3 => ?_⟩
    have t3 := same_new (o := HO.lst ([V.int 0] ++ ins.map V.int)) m3
    have t123 := (t1.trans t2).trans t3
    refine ⟨_, rfl, al, _, rfl, hf.imp (fun z => t123.seq z) (fun z => Same.tup t123 z), fun p4 m4 => ?_⟩
    have t4 := same_new (o := HO.lst (fl.map V.int)) m4
    refine ⟨p3, p4, _, _, rfl, rfl, t4 _ _ upd_same, upd_same, size_of (by rw [List.length_append, List.length_map, List.length_map]; simp only [List.length_singleton]; omega), fun p5 m5 => ?_⟩
    have t1234 := t123.trans t4
    have e5 : [V.int 0] ++ ins.map V.int ++ fl.map V.int = (v0 fl ins).map V.int := by simp [v0]
    rw [e5]
    have n5 : H p5 = none := none_of_same t1234 m5
    have s5 : Same H (upd (upd (upd (upd (upd H p1 (.lst [V.int 0])) p2 (.lst (ins.map V.int))) p3 (.lst ([V.int 0] ++ ins.map V.int))) p4 (.lst (fl.map V.int))) p5 (.lst ((v0 fl ins).map V.int))) := t1234.trans (same_new m5)
    have h5 := upd_same (H := upd (upd (upd (upd H p1 (.lst [V.int 0])) p2 (.lst (ins.map V.int))) p3 (.lst ([V.int 0] ++ ins.map V.int))) p4 (.lst (fl.map V.int))) (a := p5) (o := .lst ((v0 fl ins).map V.int))
    generalize upd (upd (upd (upd (upd H p1 (.lst [V.int 0])) p2 (.lst (ins.map V.int))) p3 (.lst ([V.int 0] ++ ins.map V.int))) p4 (.lst (fl.map V.int))) p5 (.lst ((v0 fl ins).map V.int)) = H5 at s5 h5
    have l0 : (v0 fl ins).length = 1 + ins.length + fl.length := by
      unfold v0
      rw [List.length_cons, List.length_append]
      omega
    have em : g0 g = 2 * ((v0 fl ins).length : Nat) := by
      unfold g0
      omega
    refine ⟨_, rfl, a, _, 3, _, rfl, rfl, Same.tup s5 hx, atI_nat (j := 3) rfl, ag, rfl, ⟨_, s5.seq hG⟩, for_list (K := K) (a := ag) (xs := xg) (fun i σ H' => ∃ (o5 o6 : Option V), σ = [some (.ref a), some (.ref al), some (.ref ai), some (.int e), some (.ref p5), o5, o6] ∧ Same H H' ∧ H' p5 = some (.lst ((walkL e (v0 fl ins) (g.prs.take i)).map V.int)))
      ⟨none, none, rfl, s5, h5⟩ ?_ ?_ ?_⟩
    · rintro i σ H' _ ⟨_, _, _, Hs, _⟩
      exact Hs.seq hG
    · rintro i x σ H' hi ⟨o5, o6, rfl, Hs, h6⟩
      obtain ⟨d, hdi, dx⟩ := dps_getv hGs hi
      rw [List.getElem?_map] at hdi
      obtain ⟨pr, hpr, rfl⟩ := Option.map_eq_some_iff.mp hdi
      obtain ⟨ap, xp, rfl, hpt, hps⟩ := dp_tup (dp_same Hs dx)
      cases dps_ints_of (ns := [pr.1, pr.2]) hps
      have il : i < g.prs.length := (List.getElem?_eq_some_iff.mp hpr).1
      have gl := hs.2.2.1
      obtain ⟨r1, r2, r3⟩ := okP_range (okPs_get gp.ps hpr)
      have hlen : (walkL e (v0 fl ins) (g.prs.take i)).length = (v0 fl ins).length + i := by
        rw [walkL_len, List.length_take]
        omega
      have hrun := walkL_snoc (e := e) pr (g.prs.take i) (v0 fl ins)
      rw [← take_snoc hpr] at hrun
      generalize walkL e (v0 fl ins) (g.prs.take i) = cur at h6 hlen hrun
      refine ⟨ap, _, rfl, hpt, rfl, _, _, rfl, _, _, rfl, rfl, ?_⟩
      refine ⟨_, rfl, .inl ⟨rfl, _, SqL.of h6⟩, _, rfl, _, rfl, _, rfl, p5, pr.1, e, cur, rfl, SqL.of h6, r1.1, by omega, _, rfl, _, rfl, _, rfl, p5, pr.2, e, cur, rfl, SqL.of h6, r2.1, by omega, _, _, rfl, rfl, _, _, _, rfl, rfl, h6, size_lt (by rw [List.length_map, hlen]; omega), _, _, rfl, same_mut Hs n5, ?_⟩
      rw [upd_same, hrun, List.map_append]
      rfl
    · rintro σ H' ⟨o5, o6, rfl, Hs, h6⟩
      rw [dps_len hGs, List.length_map, List.take_length] at h6
      exact ⟨_, rfl, k _ _ Hs n5 h6⟩
def spLStp (K : PySem.W.Frag) {α : Type} (D : α → PyData) (sm : α → Prop) (okp : α → Prop) (inp : α → Int) (fst : α → List Int) (stp : α → Stp) : Sp := fun vs H Q _ => ∃ (v vf vi : V) (g : α) (e : Int) (fl ins : List Int), vs = [v, vf, vi, .int e] ∧ Dp K H v (D g) ∧ sm g ∧ okp g ∧ Nums K H vf fl ∧ Nums K H vi ins ∧ fl.length = (fst g).length ∧ (ins.length : Int) = inp g ∧ ins.length ≤ 1000 ∧
  TwoL H (stp g e fl ins).1 (stp g e fl ins).2 Q
def gEL (e : Int) (xs : List Int) : PyData → PyData
  | .int i => .int (edgeL e xs i)
  | d => d
theorem gEL_map {e : Int} {xs l : List Int} : List.map (gEL e xs) ((intsD l).filter fun _ => true) = intsD (outsL e xs l) := by
  rw [List.filter_eq_self.mpr fun _ _ => rfl]
  unfold intsD outsL
  rw [List.map_map, List.map_map]
  rfl
def sel {α : Type} (i : Nat) (x y : α) : α := if i = 0 then x else y
theorem ok_lgs {f : Addr} {fd : FuncData} (F : Fun K "_law_graph_step" "_law_graph_step" s__law_graph_step f fd) (T : Txt K mg) (c__law_edge : Cal P w K mg base 1 "_law_edge" (spLEdge K) []) (c__law_graph_values : Cal P w K mg base 2 "_law_graph_values" (spLVal K) []) :
    FnOk P w K mg base CX0 3 f fd ["graph", "flops", "inputs", "every"] (spLStp K grD SmG GrP Gr.inp Gr.fst gstepL) := by
  refine F.ok sc__law_graph_step (fun vs H Q E h => ?_) (fun cdv A outer s H vs Q E hr h => ?_)
  · obtain ⟨v, vf, vi, g, e, fl, ins, rfl, _⟩ := h
    rfl
  · obtain ⟨v, vf, vi, g, e, fl, ins, rfl, hd, hs, gp, hf, hi, lf, li, li2, k⟩ := h
    have hd0 := hd
    obtain ⟨a, af, an, ag, ao, xg, ev, hx, hF, hN, hG, hGs, hO⟩ := lv_dp hd
    have lf2 : fl.length ≤ 1000 := lf ▸ hs.1
    refine ⟨_, (pss_cons (ps_set (i := 4) sc__law_graph_step.nd rfl (Or.inr rfl) (pe_c c__law_graph_values hr (by omega) rfl (pa_cons (pv 0) (pa_cons (pv 1) (pa_cons (pv 2) (pa_cons (pv 3) pa_nil))))))
      (pss_cons (ps_setLc (i := 5) (own := [("row", 6)]) rfl sc__law_graph_step.nd rfl rfl (sw_true rfl rfl rfl (by decide +kernel)) (pi_tup (pe_tup (pa_cons (pe_ix ix_tup (pv 0) pe_int (fun _ _ => rfl)) (pa_cons (pe_ix ix_tup (pv 0) pe_int (fun _ _ => rfl)) pa_nil)))) (blkOk_by (own := [("row", 6)]) (N := ["graph", "flops", "inputs", "every", "values", "found", "row", "edge"]) (sc := defScope s__law_graph_step) (by decide +kernel)) (fun _ _ _ _ _ => (pg_name (i := 6) sc__law_graph_step.nd rfl (Or.inl rfl))) (fun _ _ _ _ _ => pts_nil) (fun _ _ _ _ _ => (pe_lc (own := [("edge", 7)]) rfl sc__law_graph_step.nd (kPiL (K := K) rfl (pi_list (pv 6))) (blkOk_by (own := [("edge", 7)]) (N := ["graph", "flops", "inputs", "every", "values", "found", "row", "edge"]) (sc := ({ kind := .function, names := [(".0", .local), ("row", .local), ("every", .cell), ("values", .cell)], isGenerator := false, isCoroutine := false } : Scope)) (by decide +kernel)) (fun _ _ _ _ _ => (pg_name (i := 7) sc__law_graph_step.nd rfl (Or.inl rfl))) (fun _ _ _ _ _ => pts_nil) (fun _ _ _ _ _ => (pe_c c__law_edge hr (by omega) rfl (pa_cons (pv 4) (pa_cons (pv 7) (pa_cons (pv 3) pa_nil))))))))
      (pss_one (ps_ret (pe_tup (pa_cons (pe_ix ix_list (pv 5) pe_int (fun _ _ => rfl)) (pa_cons (pe_ix ix_list (pv 5) pe_int (fun _ _ => rfl)) pa_nil))))))), ?_⟩
    refine ⟨_, rfl, _, rfl, _, rfl, _, rfl, v, vf, vi, g, e, fl, ins, rfl, hd0, hs, gp, hf, hi, lf, li, li2, fun p H5 s5 np h5 => ?_⟩
    subst ev
    have lw := walkL_len (e := e) g.prs (v0 fl ins)
    have l0 : (v0 fl ins).length = 1 + ins.length + fl.length := by
      unfold v0
      rw [List.length_cons, List.length_append]
      omega
    have em2 : g0 g + 2 * (g.prs.length : Nat) = 2 * ((walkL e (v0 fl ins) g.prs).length : Nat) := by
      unfold g0
      omega
    have gO : allR (2 * ((walkL e (v0 fl ins) g.prs).length : Nat)) g.out = true := em2 ▸ gp.o
    have gN : allR (2 * ((walkL e (v0 fl ins) g.prs).length : Nat)) g.nxt = true := em2 ▸ gp.n
    have fin : TwoL H (outsL e (walkL e (v0 fl ins) g.prs) g.out) (outsL e (walkL e (v0 fl ins) g.prs) g.nxt) Q := k
    generalize walkL e (v0 fl ins) g.prs = cur at h5 gO gN fin
    refine ⟨_, rfl, a, _, 4, _, rfl, rfl, Same.tup s5 hx, atI_nat (j := 4) rfl, _, rfl, a, _, 2, _, rfl, rfl, Same.tup s5 hx, atI_nat (j := 2) rfl, (show 2 ≤ sizeLine by decide), fun t nt => ?_⟩
    have s6 := s5.trans (same_new (o := HO.tup [V.ref ao, V.ref an]) nt)
    have h6 := same_new (o := HO.tup [V.ref ao, V.ref an]) nt _ _ h5
    have ht := upd_same (H := H5) (a := t) (o := HO.tup [V.ref ao, V.ref an])
    generalize upd H5 t _ = H6 at s6 h6 ht
    refine ⟨t, rfl, ⟨_, SqT.of ht⟩, fun D hD => ?_⟩
    refine lc_tup (K := K) (a := t) (xs := [V.ref ao, V.ref an]) (fun i H' => ∃ (G : Hp) (ls : List Addr), Same H6 G ∧ G D = none ∧ H' = upd G D (.lst (ls.map V.ref)) ∧ ls.length = i ∧ ∀ j l, ls[j]? = some l → H6 l = none ∧ l ≠ D ∧ G l = some (.lst ((sel j (outsL e cur g.out) (outsL e cur g.nxt)).map V.int)))
      ⟨H6, [], Same.refl _, hD, rfl, rfl, fun j l z => by simp at z⟩ ?_ ?_ ?_
    · rintro i H' _ ⟨G, ls, sG, hG, rfl, _⟩
      exact SqT.of ((same_new hG) _ _ (sG _ _ ht))
    · rintro i x H' hx2 ⟨G, ls, sG, hGD, rfl, ln, hl⟩
      have il : i < 2 := (List.getElem?_eq_some_iff.mp hx2).1
      obtain ⟨ax, l, rfl, hax, gl, sl, ll⟩ : ∃ ax l, x = V.ref ax ∧ SqL K H ax (l.map V.int) ∧ allR (2 * (cur.length : Nat)) l = true ∧ outsL e cur l = sel i (outsL e cur g.out) (outsL e cur g.nxt) ∧ l.length ≤ 1000 := by
        have : i = 0 ∨ i = 1 := by omega
        rcases this with rfl | rfl
        · cases hx2
          exact ⟨ao, g.out, rfl, hO, gO, rfl, hs.2.2.2⟩
        · cases hx2
          exact ⟨an, g.nxt, rfl, hN, gN, rfl, hs.2.1⟩
      have sX := sG.trans (same_new (o := HO.lst (ls.map V.ref)) hGD)
      have hX := upd_same (H := G) (a := D) (o := HO.lst (ls.map V.ref))
      have sGX := same_new (o := HO.lst (ls.map V.ref)) hGD
      generalize upd G D (.lst (ls.map V.ref)) = HX at sX hX sGX
      refine ⟨rfl, _, rfl, ax, rfl, ⟨_, (s6.trans sX).seq hax⟩, fun D2 hD2 => ?_⟩
      refine lc_data (K := K) (a := ax) (xs := l.map V.int) (ds := intsD l) (fun _ => true) (gEL e cur) ((s6.trans sX).seq hax) (dps_ints _) hD2 (by rw [ints_len]; omega) ?_ ?_
      · intro v d G2 acc R dm hv sG2 hG2 hacc _ hyes
        obtain ⟨j, hj, rfl⟩ := List.mem_map.mp dm
        cases dp_int hv
        have q := allR_iff.mp gl j hj
        refine ⟨rfl, _, rfl, _, rfl, _, rfl, p, j, e, cur, rfl, SqL.of ((same_new hG2) _ _ (sG2 _ _ (sX _ _ h6))), q.1, q.2, acc, upd_same, hacc, ?_⟩
        rw [upd_app]
        exact hyes rfl G2 _ (Same.refl _) hG2 (.int _)
      intro G2 ys sG2 hG2 hys
      rw [gEL_map] at hys
      cases dps_ints_of hys
      rw [sl]
      have s7 := sG2.trans (same_new (o := HO.lst ((sel i (outsL e cur g.out) (outsL e cur g.nxt)).map V.int)) hG2)
      have d7 := upd_same (H := G2) (a := D2) (o := HO.lst ((sel i (outsL e cur g.out) (outsL e cur g.nxt)).map V.int))
      generalize upd G2 D2 _ = H7 at s7 d7
      have nD2 : D2 ≠ D := fun z => by rw [z, hX] at hD2; cases hD2
      have n6 : H6 D2 = none := none_of_same sX hD2
      refine ⟨_, s7 _ _ hX, size_lt (by rw [List.length_map]; omega), del1 H7 D, ls ++ [D2], same_del1 hD (sX.trans s7), del1_at _ _, ?_, by rw [List.length_append, ln]; rfl, fun j l hj => ?_⟩
      · rw [upd_del1, List.map_append]
        rfl
      · by_cases hlt : j < ls.length
        · rw [List.getElem?_append_left hlt] at hj
          obtain ⟨z1, z2, z3⟩ := hl j l hj
          exact ⟨z1, z2, by rw [del1_ne z2]; exact s7 _ _ (sGX _ _ z3)⟩
        · rw [List.getElem?_append_right (by omega)] at hj
          have : j = ls.length := by
            have := (List.getElem?_eq_some_iff.mp hj).1
            simp only [List.length_singleton] at this
            omega
          subst this
          rw [Nat.sub_self] at hj
          cases hj
          exact ⟨n6, nD2, by rw [del1_ne nD2, ln]; exact d7⟩
    · rintro H' ⟨G, ls, sG, hGD, rfl, ln, hl⟩
      match ls, ln with
      | [l1, l2], _ =>
        obtain ⟨a1, a2, a3⟩ := hl 0 l1 rfl
        obtain ⟨b1, b2, b3⟩ := hl 1 l2 rfl
        have sX := sG.trans (same_new (o := HO.lst ([l1, l2].map V.ref)) hGD)
        have hX := upd_same (H := G) (a := D) (o := HO.lst ([l1, l2].map V.ref))
        have sGX := same_new (o := HO.lst ([l1, l2].map V.ref)) hGD
        generalize upd G D _ = HX at sX hX sGX
        refine ⟨_, rfl, D, _, 0, _, rfl, rfl, SqL.of hX, atI_nat (j := 0) rfl, _, rfl, D, _, 1, _, rfl, rfl, SqL.of hX, atI_nat (j := 1) rfl, (show 2 ≤ sizeLine by decide), fun u nu => ?_⟩
        have s9 := same_new (o := HO.tup [V.ref l1, V.ref l2]) nu
        exact fin u l1 l2 _ ((s6.trans sX).trans s9) (none_of_same s6 a1) (none_of_same s6 b1) upd_same (s9 _ _ (sGX _ _ a3)) (s9 _ _ (sGX _ _ b3))
end
end Q80



set_option pp.maxSteps 1500
namespace Q80
open PySem L2 G M80
open C8 (Cal Met Mak pe_c pe_mk pe_mt pe_mt0 pe_gc pss_cut tCut)
/-! ### draws in a comprehension -/
def DrawP (dk D : Addr) (H1 : Hp) (m : Int) (i : Nat) (H : Hp) : Prop := ∃ rs : List Int, rs.length = i ∧ (∀ r ∈ rs, 0 ≤ r ∧ r < m) ∧ But dk H1 H ∧ H D = some (.lst (rs.map V.int)) ∧ Deck H dk
theorem draw0 {dk D : Addr} {H1 : Hp} {m : Int} (hD : H1 D = none) (hk : Deck H1 dk) : DrawP dk D H1 m 0 (upd H1 D (.lst [])) :=
  ⟨[], rfl, (fun _ h => by cases h), But.of (same_new hD), upd_same, hk.same (same_new hD)⟩
theorem draw_keep {dk D : Addr} {H1 H H' : Hp} {m : Int} {i : Nat} (hD : H1 D = none) (hk : Deck H1 dk) (p : DrawP dk D H1 m i H) (b : But dk H H') (k : Deck H' dk) : DrawP dk D H1 m i H' := by
  obtain ⟨rs, hl, hr, b1, hd, _⟩ := p
  exact ⟨rs, hl, hr, b1.trans b, b _ _ (Deck.ne hk hD) hd, k⟩
theorem draw_put {dk D : Addr} {H1 H : Hp} {m r : Int} {i : Nat} (hD : H1 D = none) (hk : Deck H1 dk) (p : DrawP dk D H1 m i H) (r0 : 0 ≤ r) (r1 : r < m) (hi : i < 100000) :
    ∃ acc, H D = some (.lst acc) ∧ acc.length < sizeLine ∧ DrawP dk D H1 m (i + 1) (upd H D (.lst (acc ++ [.int r]))) := by
  obtain ⟨rs, hl, hr, b1, hd, k⟩ := p
  have ne := Deck.ne hk hD
  refine ⟨_, hd, size_lt (by rw [List.length_map]; omega), rs ++ [r], by rw [List.length_append, hl]; rfl, fun x hx => ?_, but_mut b1 hD, by rw [upd_same, List.map_append]; rfl, ?_⟩
  · rcases List.mem_append.mp hx with hx | hx
    · exact hr x hx
    · rw [List.mem_singleton.mp hx]
      exact ⟨r0, r1⟩
  · obtain ⟨ds, h1, h2⟩ := k
    exact ⟨ds, h1, by rw [upd_ne (Ne.symm ne)]; exact h2⟩
theorem draw_next {dk D : Addr} {H1 H : Hp} {m : Int} {i : Nat} {E : XK} (hD : H1 D = none) (hk : Deck H1 dk) (hm : 0 < m) (hi : i < 100000) (p : DrawP dk D H1 m i H) :
    spTake [.ref dk, .int m] H (fun y H4 => ∃ acc, H4 D = some (.lst acc) ∧ acc.length < sizeLine ∧ DrawP dk D H1 m (i + 1) (upd H4 D (.lst (acc ++ [y])))) E :=
  ⟨dk, m, rfl, hm, p.choose_spec.2.2.2.2, fun _ _ r0 r1 b2 k2 => draw_put hD hk (draw_keep hD hk p b2 k2) r0 r1 hi⟩
theorem law_bit (t c : Int) : decide (V.int (t / (1 * 2 ^ c.toNat) % 2) = V.int 1) = bitC t c := by
  rw [Int.one_mul]
  unfold bitC
  simp only [V.int.injEq]
theorem law_bit2 (t c : Int) : decide (V.int (t / 2 ^ c.toNat % 2) = V.int 1) = bitC t c := by
  unfold bitC
  simp only [V.int.injEq]
theorem cdivP {t : Int} {c : Nat} (h : c < 8) : CDiv t (1 * 2 ^ ((c : Nat) : Int).toNat) := by
  have : c = 0 ∨ c = 1 ∨ c = 2 ∨ c = 3 ∨ c = 4 ∨ c = 5 ∨ c = 6 ∨ c = 7 := by omega
  rcases this with rfl | rfl | rfl | rfl | rfl | rfl | rfl | rfl <;> exact ⟨by decide, by decide⟩
section
variable {P : Program} {w : World} {K : PySem.W.Frag} {mg : Str → Option Value} {base : Heap}
/-! ### _law_row -/
def spLLook (K : PySem.W.Frag) : Sp := fun vs H Q _ => ∃ (v : V) (p : Addr) (r : Rw) (xs : List Int) (e : Int), vs = [v, .ref p, .int e] ∧ Dp K H v (rwD r) ∧ SqL K H p (xs.map V.int) ∧ allR xs.length r.l = true ∧ Q (.int (lookL e xs r)) H
theorem ok_lrow {f : Addr} {fd : FuncData} (F : Fun K "_law_row" "_law_row" s__law_row f fd) (T : Txt K mg) : FnOk P w K mg base CX0 1 f fd ["row", "values", "every"] (spLLook K) := by
  refine F.ok sc__law_row (fun vs H Q E h => ?_) (fun cdv A outer s H vs Q E hr h => ?_)
  · obtain ⟨v, p, r, xs, e, rfl, _⟩ := h
    rfl
  · obtain ⟨v, p, r, xs, e, rfl, hd, hp, hr3, k⟩ := h
    obtain ⟨a, rfl, ha⟩ := rw_dp hd
    refine ⟨_, (pss_cons (ps_set (i := 3) sc__law_row.nd rfl (Or.inl rfl) pe_int)
      (pss_cons (ps_for PassesOwn.never rfl (pi_range1 (by rfl) T.b_range (pa_cons pe_int pa_nil)) (pg_name (i := 4) sc__law_row.nd rfl (Or.inl rfl)) (pss_one (ps_if (pt_cmpR op_eq (pe_op op_mod (pe_callTy call_int1 (by rfl) T.b_int boot_int' (pa_cons (pe_op op_fdiv (pe_ix ix_tup (pv 0) pe_int (fun _ _ => rfl)) (pe_op op_shl pe_int (pv 4))) pa_nil)) pe_int) pe_int (nomark _)) (pss_cons (ps_set (i := 5) sc__law_row.nd rfl (Or.inl rfl) (pv 2))
      (pss_cons (ps_for PassesOwn.never rfl (pi_range1 (by rfl) T.b_range (pa_cons pe_int pa_nil)) (pg_name (i := 6) sc__law_row.nd rfl (Or.inl rfl)) (pss_cons (ps_set (i := 7) sc__law_row.nd rfl (Or.inl rfl) (pe_ix ix_list (pv 1) (pe_ix ix_tup (pv 0) (pv 6) (fun _ _ => rfl)) (fun _ _ => rfl)))
      (pss_one (ps_set (i := 5) sc__law_row.nd rfl (Or.inl rfl) (pe_op op_and (pv 5) (pe_ifExp (pt_cmpR op_eq (pe_op op_mod (pe_callTy call_int1 (by rfl) T.b_int boot_int' (pa_cons (pe_op op_shr (pv 4) (pv 6)) pa_nil)) pe_int) pe_int (nomark _)) (pv 7) (pe_op op_sub (pv 2) (pv 7))))))))
      (pss_one (ps_set (i := 3) sc__law_row.nd rfl (Or.inl rfl) (pe_op op_or (pv 3) (pv 5)))))) pss_nil)))
      (pss_one (ps_ret (pv 3))))), ?_⟩
    unfold lookL at k
    refine ⟨_, rfl, by decide, by decide, for_range (lo := 0) (n := (8 : Int).toNat) (fun i σ' H' => H' = H ∧ ∃ o4 o5 o6 o7 : Option V, σ' = [some (.ref a), some (.ref p), some (.int e), some (.int (fndL e r.t (rowV xs r) i)), o4, o5, o6, o7]) ⟨rfl, none, none, none, none, rfl⟩ ?_ ?_⟩
    · rintro c σ H2 hc ⟨rfl, o4, o5, o6, o7, rfl⟩
      have hc : c < 8 := hc
      rw [Int.zero_add]
      refine ⟨_, rfl, a, _, 3, _, rfl, rfl, ha, atI_nat (j := 3) rfl, _, rfl, _, _, rfl, rfl, ⟨by omega, by omega, by decide⟩, _, _, rfl, rfl, cdivP hc, .inl ⟨_, rfl, _, _, rfl, rfl, (show (0 : Int) < 2 by decide), rfl, _, rfl, ?_⟩⟩
      have ef : fndL e r.t (rowV xs r) (c + 1) = if bitC r.t c = true then Builtin.bitOr (fndL e r.t (rowV xs r) c) (hereL e (rowV xs r) c 3) else fndL e r.t (rowV xs r) c := rfl
      by_cases hb : bitC r.t c = true
      · rw [if_pos hb] at ef
        refine ifT ((law_bit r.t c).trans hb) ?_
        refine ⟨_, rfl, ?_⟩
        refine ⟨_, rfl, by decide, by decide, for_range (lo := 0) (n := (3 : Int).toNat) (fun i σ' H' => H' = H2 ∧ ∃ o6 o7 : Option V, σ' = [some (.ref a), some (.ref p), some (.int e), some (.int (fndL e r.t (rowV xs r) c)), some (.int c), some (.int (hereL e (rowV xs r) c i)), o6, o7]) ⟨rfl, _, _, rfl⟩ ?_ ?_⟩
        · rintro i σ H3 hi ⟨rfl, o6, o7, rfl⟩
          have hi : i < 3 := hi
          rw [Int.zero_add]
          refine ⟨_, rfl, _, rfl, _, rfl, a, _, i, _, rfl, rfl, ha, r3_at hi, p, _, _, _, rfl, rfl, hp, pt_at (all_at hr3 hi), ?_⟩
          refine ⟨_, rfl, _, rfl, _, rfl, _, _, rfl, rfl, (show (0 : Int) ≤ i by omega), .inl ⟨_, rfl, _, _, rfl, rfl, (show (0 : Int) < 2 by decide), rfl, _, rfl, ?_⟩⟩
          have pick := @if_pick 7 (bitC c i) (nth xs (nth r.l i)) (e - nth xs (nth r.l i))
          rw [← law_bit2 c i] at pick
          refine pick rfl (fun Q q => ⟨_, rfl, _, rfl, _, _, rfl, rfl, q⟩) ⟨_, _, rfl, rfl, rfl, some (.int i), some (.int (nth xs (nth r.l i))), ?_⟩
          rw [law_bit2]
          rfl
        · rintro σ H3 ⟨rfl, o6, o7, rfl⟩
          refine ⟨_, rfl, _, rfl, _, _, rfl, rfl, rfl, some (.int c), some (.int (hereL e (rowV xs r) c 3)), o6, o7, ?_⟩
          rw [ef]
          rfl
      · rw [if_neg hb] at ef
        refine ifF ((law_bit r.t c).trans (Bool.eq_false_iff.mpr hb)) ⟨rfl, some (.int c), o5, o6, o7, ?_⟩
        rw [ef]
        rfl
    · rintro σ H2 ⟨rfl, o4, o5, o6, o7, rfl⟩
      exact ⟨_, rfl, k⟩
theorem ok_lts {f : Addr} {fd : FuncData} (F : Fun K "_law_table_step" "_law_table_step" s__law_table_step f fd) (T : Txt K mg) (c__law_row : Cal P w K mg base 1 "_law_row" (spLLook K) []) :
    FnOk P w K mg base CX0 2 f fd ["tables", "flops", "inputs", "every"] (spLStp K tbD SmT TbP Tb.inp Tb.fst tstepL) := by
  refine F.ok sc__law_table_step (fun vs H Q E h => ?_) (fun cdv A outer s H vs Q E hr h => ?_)
  · obtain ⟨v, vf, vi, g, e, fl, ins, rfl, _⟩ := h
    rfl
  · obtain ⟨v, vf, vi, g, e, fl, ins, rfl, hd, hs, gp, hf, hi, lf, li, li2, k⟩ := h
    obtain ⟨a, af, an, ag, ao, xg, rfl, hx, hF, hN, hG, hGs, hO⟩ := lv_dp hd
    obtain ⟨al, rfl, hf⟩ := hf
    obtain ⟨ai, rfl, hi⟩ := hi
    have lf2 : fl.length ≤ 1000 := lf ▸ hs.1
    refine ⟨_, (pss_cons (ps_set (i := 4) sc__law_table_step.nd rfl (Or.inr rfl) (pe_op op_cat (pe_op op_cat (pe_lst (pa_cons pe_int pa_nil)) (pe_callTy call_list_of (by rfl) T.b_list boot_list' (pa_cons (pv 2) pa_nil))) (pe_callTy call_list_of (by rfl) T.b_list boot_list' (pa_cons (pv 1) pa_nil))))
      (pss_cons (ps_for PassesOwn.never rfl (pi_list (pe_ix ix_tup (pv 0) pe_int (fun _ _ => rfl))) (pg_name (i := 5) sc__law_table_step.nd rfl (Or.inl rfl)) (pss_one (ps_expr (pe_bm PySem.F.plainAttrs_list PySem.F.slot_list_append PySem.F.type_list_append mt_append (pv 4) (pa_cons (pe_c c__law_row hr (by omega) rfl (pa_cons (pv 5) (pa_cons (pv 4) (pa_cons (pv 3) pa_nil)))) pa_nil)))))
      (pss_one (ps_ret (pe_tup (pa_cons (pe_lc (own := [("point", 6)]) rfl sc__law_table_step.nd (pi_list (pe_ix ix_tup (pv 0) pe_int (fun _ _ => rfl))) (blkOk_by (own := [("point", 6)]) (N := ["tables", "flops", "inputs", "every", "values", "row", "point"]) (sc := defScope s__law_table_step) (by decide +kernel)) (fun _ _ _ _ _ => (pg_name (i := 6) sc__law_table_step.nd rfl (Or.inl rfl))) (fun _ _ _ _ _ => pts_nil) (fun _ _ _ _ _ => (pe_ix (ix_listK (K := K) rfl) (pv 4) (pv 6) (fun _ _ => rfl)))) (pa_cons (pe_lc (own := [("point", 6)]) rfl sc__law_table_step.nd (pi_list (pe_ix ix_tup (pv 0) pe_int (fun _ _ => rfl))) (blkOk_by (own := [("point", 6)]) (N := ["tables", "flops", "inputs", "every", "values", "row", "point"]) (sc := defScope s__law_table_step) (by decide +kernel)) (fun _ _ _ _ _ => (pg_name (i := 6) sc__law_table_step.nd rfl (Or.inl rfl))) (fun _ _ _ _ _ => pts_nil) (fun _ _ _ _ _ => (pe_ix (ix_listK (K := K) rfl) (pv 4) (pv 6) (fun _ _ => rfl)))) pa_nil))))))), ?_⟩
    refine ⟨(show 1 ≤ sizeLine by decide), fun p1 m1 => ?_⟩
    have t1 := same_new (o := HO.lst [V.int 0]) m1
    refine ⟨_, rfl, ai, _, rfl, hi.imp (fun z => t1.seq z) (fun z => Same.tup t1 z), fun p2 m2 => ?_⟩
    have t2 := same_new (o := HO.lst (ins.map V.int)) m2
    refine ⟨p1, p2, _, _, rfl, rfl, t2 _ _ upd_same, upd_same, size_of (by rw [List.length_map]; simp only [List.length_singleton]; omega), fun p3 m3 => ?_⟩
    have t3 := same_new (o := HO.lst ([V.int 0] ++ ins.map V.int)) m3
    have t123 := (t1.trans t2).trans t3
    refine ⟨_, rfl, al, _, rfl, hf.imp (fun z => t123.seq z) (fun z => Same.tup t123 z), fun p4 m4 => ?_⟩
    have t4 := same_new (o := HO.lst (fl.map V.int)) m4
    refine ⟨p3, p4, _, _, rfl, rfl, t4 _ _ upd_same, upd_same, size_of (by rw [List.length_append, List.length_map, List.length_map]; simp only [List.length_singleton]; omega), fun p5 m5 => ?_⟩
    have t1234 := t123.trans t4
    have e5 : [V.int 0] ++ ins.map V.int ++ fl.map V.int = (v0 fl ins).map V.int := by simp [v0]
    rw [e5]
    have n5 : H p5 = none := none_of_same t1234 m5
    have s5 : Same H (upd (upd (upd (upd (upd H p1 (.lst [V.int 0])) p2 (.lst (ins.map V.int))) p3 (.lst ([V.int 0] ++ ins.map V.int))) p4 (.lst (fl.map V.int))) p5 (.lst ((v0 fl ins).map V.int))) := t1234.trans (same_new m5)
    have h5 := upd_same (H := upd (upd (upd (upd H p1 (.lst [V.int 0])) p2 (.lst (ins.map V.int))) p3 (.lst ([V.int 0] ++ ins.map V.int))) p4 (.lst (fl.map V.int))) (a := p5) (o := .lst ((v0 fl ins).map V.int))
    generalize upd (upd (upd (upd (upd H p1 (.lst [V.int 0])) p2 (.lst (ins.map V.int))) p3 (.lst ([V.int 0] ++ ins.map V.int))) p4 (.lst (fl.map V.int))) p5 (.lst ((v0 fl ins).map V.int)) = H5 at s5 h5
    have l0 : (v0 fl ins).length = 1 + ins.length + fl.length := by
      unfold v0
      rw [List.length_cons, List.length_append]
      omega
    have em : t0 g = ((v0 fl ins).length : Nat) := by
      unfold t0
      omega
    -- rows
    refine ⟨_, rfl, a, _, 3, _, rfl, rfl, Same.tup s5 hx, atI_nat (j := 3) rfl, ag, rfl, ⟨_, s5.seq hG⟩, for_list (K := K) (a := ag) (xs := xg) (fun i σ H' => ∃ (o5 : Option V), σ = [some (.ref a), some (.ref al), some (.ref ai), some (.int e), some (.ref p5), o5, none] ∧ Same H H' ∧ H' p5 = some (.lst ((rowsL e (v0 fl ins) (g.rws.take i)).map V.int)))
      ⟨none, rfl, s5, h5⟩ ?_ ?_ ?_⟩
    · rintro i σ H' _ ⟨_, _, Hs, _⟩
      exact Hs.seq hG
    · rintro i x σ H' hi ⟨o5, rfl, Hs, h6⟩
      obtain ⟨d, hdi, dx⟩ := dps_getv hGs hi
      rw [List.getElem?_map] at hdi
      obtain ⟨r, hrw, rfl⟩ := Option.map_eq_some_iff.mp hdi
      have il : i < g.rws.length := (List.getElem?_eq_some_iff.mp hrw).1
      obtain ⟨r1, r2⟩ := okR_parts (okRs_get gp.ps hrw)
      have hlen : (rowsL e (v0 fl ins) (g.rws.take i)).length = (v0 fl ins).length + i := by
        rw [rowsL_len, List.length_take]
        omega
      have hrun := rowsL_snoc (e := e) r (g.rws.take i) (v0 fl ins)
      rw [← take_snoc hrw] at hrun
      generalize rowsL e (v0 fl ins) (g.rws.take i) = cur at h6 hlen hrun
      have gl := hs.2.2.1
      refine ⟨_, rfl, .inl ⟨rfl, _, SqL.of h6⟩, _, rfl, _, rfl, _, rfl, x, p5, r, cur, e, rfl, dp_same Hs dx, SqL.of h6, by rw [hlen]; exact allR_mono (by omega) r1, _, _, _, rfl, rfl, h6, size_lt (by rw [List.length_map, hlen]; omega), some x, rfl, same_mut Hs n5, ?_⟩
      rw [upd_same, hrun, List.map_append]
      rfl
    · rintro σ H6 ⟨o5, rfl, s6, h6⟩
      rw [dps_len hGs, List.length_map, List.take_length] at h6
      have lw := rowsL_len (e := e) g.rws (v0 fl ins)
      have em2 : t0 g + (g.rws.length : Nat) = ((rowsL e (v0 fl ins) g.rws).length : Nat) := by omega
      have gO : allR ((rowsL e (v0 fl ins) g.rws).length : Nat) g.out = true := em2 ▸ gp.o
      have gN : allR ((rowsL e (v0 fl ins) g.rws).length : Nat) g.nxt = true := em2 ▸ gp.n
      have fin : TwoL H (pts (rowsL e (v0 fl ins) g.rws) g.out) (pts (rowsL e (v0 fl ins) g.rws) g.nxt) Q := k
      generalize rowsL e (v0 fl ins) g.rws = cur at h6 gO gN fin
      refine ⟨_, rfl, a, _, 4, _, rfl, rfl, Same.tup s6 hx, atI_nat (j := 4) rfl, ao, rfl, ⟨_, s6.seq hO⟩, fun D1 hD1 => ?_⟩
      refine lc_data (K := K) (a := ao) (xs := g.out.map V.int) (ds := intsD g.out) (fun _ => true) (gP cur) (s6.seq hO) (dps_ints _) hD1 (by rw [ints_len]; have := hs.2.2.2; omega) ?_ ?_
      · intro v d G acc R dm hv sG hG hacc _ hyes
        obtain ⟨i, hi, rfl⟩ := List.mem_map.mp dm
        cases dp_int hv
        have r := inR_iff.mpr (allR_iff.mp gO i hi)
        refine ⟨rfl, _, rfl, _, rfl, p5, _, _, _, rfl, rfl, SqL.of ((same_new hG) _ _ (sG _ _ h6)), pt_at r, acc, upd_same, hacc, ?_⟩
        rw [upd_app]
        exact hyes rfl G _ (Same.refl _) hG (.int _)
      intro G1 ys1 sG1 hG1 hys1
      rw [gP_map] at hys1
      cases dps_ints_of hys1
      have s7 := sG1.trans (same_new (o := HO.lst ((pts cur g.out).map V.int)) hG1)
      have d1 := upd_same (H := G1) (a := D1) (o := .lst ((pts cur g.out).map V.int))
      generalize upd G1 D1 (.lst ((pts cur g.out).map V.int)) = H7 at s7 d1
      have s67 := s6.trans s7
      refine ⟨_, rfl, a, _, 2, _, rfl, rfl, Same.tup s67 hx, atI_nat (j := 2) rfl, an, rfl, ⟨_, s67.seq hN⟩, fun D2 hD2 => ?_⟩
      refine lc_data (K := K) (a := an) (xs := g.nxt.map V.int) (ds := intsD g.nxt) (fun _ => true) (gP cur) (s67.seq hN) (dps_ints _) hD2 (by rw [ints_len]; have := hs.2.1; omega) ?_ ?_
      · intro v d G acc R dm hv sG hG hacc _ hyes
        obtain ⟨i, hi, rfl⟩ := List.mem_map.mp dm
        cases dp_int hv
        have r := inR_iff.mpr (allR_iff.mp gN i hi)
        refine ⟨rfl, _, rfl, _, rfl, p5, _, _, _, rfl, rfl, SqL.of ((same_new hG) _ _ (sG _ _ (s7 _ _ h6))), pt_at r, acc, upd_same, hacc, ?_⟩
        rw [upd_app]
        exact hyes rfl G _ (Same.refl _) hG (.int _)
      intro G2 ys2 sG2 hG2 hys2
      rw [gP_map] at hys2
      cases dps_ints_of hys2
      have s8 := sG2.trans (same_new (o := HO.lst ((pts cur g.nxt).map V.int)) hG2)
      refine ⟨(show 2 ≤ sizeLine by decide), fun t nt => ?_⟩
      have s9 := same_new (o := HO.tup [V.ref D1, V.ref D2]) nt
      exact fin t D1 D2 _ ((s67.trans s8).trans s9) (none_of_same s6 hD1) (none_of_same s67 hD2) upd_same (s9 _ _ (s8 _ _ d1)) (s9 _ _ upd_same)
/-! ### _law_lanes, _law_spread -/
def spLns : Sp := fun vs H Q _ => ∃ (dk : Addr) (m e : Int), vs = [.ref dk, .int m, .int e] ∧ 0 ≤ m ∧ m ≤ 1000 ∧ 0 ≤ e ∧ Deck H dk ∧ ∀ (D : Addr) (ns : List Int) (H' : Hp), But dk H H' → Deck H' dk → H D = none → H' D = some (.lst (ns.map V.int)) → (ns.length : Int) = m → Lan e ns → Q (.ref D) H'
theorem ok_lns {f : Addr} {fd : FuncData} (F : Fun K "_law_lanes" "_law_lanes" s__law_lanes f fd) (T : Txt K mg) (c__law_take : Cal P w K mg base 1 "_law_take" spTake []) : FnOk P w K mg base CX0 2 f fd ["deck", "many", "every"] spLns := by
  refine F.ok sc__law_lanes (fun vs H Q E h => ?_) (fun cdv A outer s H vs Q E hr h => ?_)
  · obtain ⟨dk, m, e, rfl, _⟩ := h
    rfl
  · obtain ⟨dk, m, e, rfl, m0, m1, e0, hk, k⟩ := h
    refine ⟨_, (pss_one (ps_ret (pe_lc (own := [("turn", 3)]) rfl sc__law_lanes.nd (pi_range1 (by rfl) T.b_range (pa_cons (pv 1) pa_nil)) (blkOk_by (own := [("turn", 3)]) (N := ["deck", "many", "every", "turn"]) (sc := defScope s__law_lanes) (by decide +kernel)) (fun _ _ _ _ _ => (pg_name (i := 3) sc__law_lanes.nd rfl (Or.inl rfl))) (fun _ _ _ _ _ => pts_nil) (fun _ _ _ _ _ => (pe_c c__law_take hr (by omega) rfl (pa_cons (pv 0) (pa_cons (pe_op op_add (pv 2) pe_int) pa_nil))))))), ?_⟩
    refine ⟨_, rfl, _, rfl, by omega, by omega, fun D hD => ?_⟩
    refine lc_range (lo := 0) (n := m.toNat) (DrawP dk D H (e + 1)) (draw0 hD hk) (fun j G hj p => ⟨rfl, _, rfl, _, rfl, _, _, rfl, rfl, draw_next (E := C8.E0) hD hk (by omega) (by omega) p⟩) ?_
    rintro H' ⟨rs, hl, hr, b, hd, kk⟩
    exact k D rs H' b kk hD hd (by omega) fun x hx => by have := hr x hx; omega
def spSpr : Sp := fun vs H Q _ => ∃ (dk : Addr) (n : Nat), vs = [.ref dk, .int n] ∧ n ≤ 3 ∧ Deck H dk ∧ ∀ (b : List Int) (H' : Hp), But dk H H' → Deck H' dk → b.length = 2 ^ n → (∀ x ∈ b, 0 ≤ x ∧ x < 2) → Q (.int (sprd b n)) H'
theorem ok_spr {f : Addr} {fd : FuncData} (F : Fun K "_law_spread" "_law_spread" s__law_spread f fd) (T : Txt K mg) (c__law_take : Cal P w K mg base 1 "_law_take" spTake []) : FnOk P w K mg base CX0 2 f fd ["deck", "many"] spSpr := by
  refine F.ok sc__law_spread (fun vs H Q E h => ?_) (fun cdv A outer s H vs Q E hr h => ?_)
  · obtain ⟨dk, n, rfl, _⟩ := h
    rfl
  · obtain ⟨dk, n, rfl, hn, hk, k⟩ := h
    refine ⟨_, (pss_cons (ps_set (i := 2) sc__law_spread.nd rfl (Or.inr rfl) (pe_lc (own := [("turn", 3)]) rfl sc__law_spread.nd (pi_range1 (by rfl) T.b_range (pa_cons (pe_op op_shl pe_int (pv 1)) pa_nil)) (blkOk_by (own := [("turn", 3)]) (N := ["deck", "many", "base", "turn", "case"]) (sc := defScope s__law_spread) (by decide +kernel)) (fun _ _ _ _ _ => (pg_name (i := 3) sc__law_spread.nd rfl (Or.inl rfl))) (fun _ _ _ _ _ => pts_nil) (fun _ _ _ _ _ => (pe_c c__law_take hr (by omega) rfl (pa_cons (pv 0) (pa_cons pe_int pa_nil))))))
      (pss_one (ps_ret (pe_callB (cr_sum rfl) (by rfl) T.b_sum boot_sum' (pa_cons (pe_lc (own := [("case", 4)]) rfl sc__law_spread.nd (pi_range1 (by rfl) T.b_range (pa_cons pe_int pa_nil)) (blkOk_by (own := [("case", 4)]) (N := ["deck", "many", "base", "turn", "case"]) (sc := defScope s__law_spread) (by decide +kernel)) (fun _ _ _ _ _ => (pg_name (i := 4) sc__law_spread.nd rfl (Or.inl rfl))) (fun _ _ _ _ _ => pts_nil) (fun _ _ _ _ _ => (pe_op op_mul (pe_ix (ix_listK (K := K) rfl) (pv 2) (pe_op op_sub (pv 4) (pe_op op_mul (pe_op op_fdiv (pv 4) (pe_op op_shl pe_int (pv 1))) (pe_op op_shl pe_int (pv 1)))) (fun _ _ => rfl)) (pe_op op_shl pe_int (pv 4))))) pa_nil))))), ?_⟩
    have pn : 2 ^ n ≤ 8 ∧ 1 ≤ 2 ^ n := by
      have : n = 0 ∨ n = 1 ∨ n = 2 ∨ n = 3 := by omega
      rcases this with rfl | rfl | rfl | rfl <;> decide
    have ep : (1 : Int) * 2 ^ ((n : Nat) : Int).toNat = ((2 ^ n : Nat) : Int) := by
      rw [Int.one_mul, Int.toNat_natCast, Int.natCast_pow]
      rfl
    refine ⟨_, rfl, _, _, rfl, rfl, ⟨by omega, by omega, by decide⟩, _, rfl, ?_⟩
    rw [ep]
    refine ⟨by omega, by omega, fun D hD => ?_⟩
    refine lc_range (lo := 0) (n := ((2 ^ n : Nat) : Int).toNat) (DrawP dk D H 2) (draw0 hD hk) (fun j G hj p => ⟨rfl, _, rfl, draw_next (E := C8.E0) hD hk (by decide) (by omega) p⟩) ?_
    rintro H1 ⟨rs, hl, hr, b, hd, kk⟩
    rw [Int.toNat_natCast] at hl
    refine ⟨_, rfl, by decide, by decide, fun D2 hD2 => ?_⟩
    refine lc_range (lo := 0) (n := (8 : Int).toNat) (fun i H' => H' = upd H1 D2 (.lst (((List.range i).map fun c => rs.getD (c - c / 2 ^ n * 2 ^ n) 0 * 2 ^ c).map V.int))) rfl (fun c G2 hc e => ?_) ?_
    · subst e
      have hc : c < 8 := hc
      have m0 : c / 2 ^ n * 2 ^ n ≤ c := Nat.div_mul_le_self c (2 ^ n)
      have m1 : c - c / 2 ^ n * 2 ^ n < rs.length := by
        rw [hl]
        have := Nat.div_add_mod' c (2 ^ n)
        have := Nat.mod_lt c (show 2 ^ n > 0 by omega)
        omega
      have ei : ((c : Nat) : Int) - ((c : Nat) : Int) / ((2 ^ n : Nat) : Int) * ((2 ^ n : Nat) : Int) = ((c - c / 2 ^ n * 2 ^ n : Nat) : Int) := by
        rw [Int.natCast_sub m0, Int.natCast_mul, Int.natCast_ediv]
      have e2 : (1 : Int) * 2 ^ ((c : Nat) : Int).toNat = 2 ^ c := by rw [Int.one_mul, Int.toNat_natCast]
      have gx := hr _ (List.getElem_mem m1)
      have gd : rs.getD (c - c / 2 ^ n * 2 ^ n) 0 = rs[c - c / 2 ^ n * 2 ^ n] := by rw [List.getD_eq_getElem?_getD, List.getElem?_eq_getElem m1]; rfl
      have dv : 0 ≤ ((c : Nat) : Int) / ((2 ^ n : Nat) : Int) ∧ ((c : Nat) : Int) / ((2 ^ n : Nat) : Int) ≤ 7 := by
        rw [← Int.natCast_ediv]
        have : c / 2 ^ n ≤ c := Nat.div_le_self c _
        exact ⟨Int.natCast_nonneg _, Int.ofNat_le.mpr (show c / 2 ^ n ≤ 7 from Nat.le_trans this (Nat.le_of_lt_succ hc))⟩
      rw [Int.zero_add]
      refine ⟨rfl, _, rfl, _, rfl, _, rfl, _, rfl, _, _, rfl, rfl, ⟨by omega, by omega, by decide⟩, _, _, rfl, rfl, by rw [ep]; exact ⟨by omega, by omega⟩, _, rfl, _, _, rfl, rfl, ⟨by omega, by omega, by decide⟩, _, _, rfl, rfl, ?_, _, _, rfl, rfl, D, _, _, V.int (rs.getD (c - c / 2 ^ n * 2 ^ n) 0), rfl, rfl, SqL.of ((same_new hD2) _ _ hd), ?_, ?_⟩
      · rw [ep]
        exact .inl ⟨by omega, by omega⟩
      · rw [ep, ei]
        exact atI_nat (int_at m1)
      · refine ⟨_, rfl, _, _, rfl, rfl, ⟨by omega, by omega, by decide⟩, _, _, rfl, rfl, .inl ⟨by omega, by omega⟩, _, upd_same, ?_, ?_⟩
        · refine Nat.lt_of_le_of_lt (show _ ≤ 8 from ?_) (by decide)
          rw [List.length_map, List.length_map, List.length_range]
          omega
        · rw [upd_app, List.range_succ, List.map_append, List.map_append]
          show upd H1 D2 (.lst (_ ++ [V.int (_ * ((1 : Int) * 2 ^ ((c : Nat) : Int).toNat))])) = _
          rw [e2]
          rfl
    · rintro G2 rfl
      refine ⟨D2, ((List.range 8).map fun c => rs.getD (c - c / 2 ^ n * 2 ^ n) 0 * 2 ^ c), rfl, SqL.of upd_same, ?_⟩
      exact k rs _ (b.trans (But.of (same_new hD2))) (kk.same (same_new hD2)) hl hr
end
end Q80



set_option pp.maxSteps 1500
namespace Q80
open PySem L2 G M80
open C8 (Cal Met Mak pe_c pe_mk pe_mt pe_mt0 pe_gc pss_cut tCut)
theorem okPs_snoc {p : Pr} : ∀ {ps : List Pr} {m : Int}, okPs m (ps ++ [p]) = (okPs m ps && okP (m + 2 * ps.length) p)
  | [], m => by
    show (okP m p && true) = (true && okP (m + 2 * ((0 : Nat) : Int)) p)
    rw [Bool.and_true, Bool.true_and]
    congr 1
    omega
  | q :: r, m => by
    show (okP m q && okPs (m + 2) (r ++ [p])) = (okP m q && okPs (m + 2) r && okP (m + 2 * ((r.length + 1 : Nat) : Int)) p)
    rw [okPs_snoc (ps := r), Bool.and_assoc]
    rw [show m + 2 + 2 * (r.length : Int) = m + 2 * ((r.length + 1 : Nat) : Int) by omega]
theorem keep_del1 {H : Hp} {a : Addr} (h : Deck H a) : KeepT H (del1 H a) := fun b u e n => by
  have ne : b ≠ a := fun z => by
    obtain ⟨ds, _, q⟩ := h
    rw [z, q] at e
    exact n _ (Option.some.inj e).symm
  rw [del1_ne ne]
  exact e
theorem deck_mut {H : Hp} {dk p : Addr} {o : HO} (h : Deck H dk) (n : p ≠ dk) : Deck (upd H p o) dk := by
  obtain ⟨ds, h1, h2⟩ := h
  exact ⟨ds, h1, by rw [upd_ne (Ne.symm n)]; exact h2⟩
theorem noL_pr (p : Pr) : noL (prD p) = true := rfl
theorem noL_rw (r : Rw) : noL (rwD r) = true := rfl
theorem but_at {dk b : Addr} {H H' : Hp} {o : HO} (k : But dk H H') (n : b ≠ dk) (h : H b = some o) : H' b = some o := k b o n h
section
variable {P : Program} {w : World} {K : PySem.W.Frag} {mg : Str → Option Value} {base : Heap}
theorem lv_mk {H : Hp} {t af an ag ao : Addr} {inp : Int} {fst nxt out : List Int} {ds : List PyData} {xg : List V} (ht : H t = some (.tup [.int inp, .ref af, .ref an, .ref ag, .ref ao])) (hf : H af = some (.lst (fst.map V.int))) (hn : H an = some (.lst (nxt.map V.int)))
    (hg : H ag = some (.lst xg)) (hgs : DpAll K H xg ds) (ho : H ao = some (.lst (out.map V.int))) : Dp K H (.ref t) (lvD inp fst nxt ds out) :=
  .tup (SqT.of ht) (.cons (.int _) (.cons (.lst (SqL.of hf) (dps_ints _)) (.cons (.lst (SqL.of hn) (dps_ints _)) (.cons (.lst (SqL.of hg) hgs) (.cons (.lst (SqL.of ho) (dps_ints _)) .nil)))))
/-! ### _law_graph -/
def spLG (K : PySem.W.Frag) : Sp := fun vs H Q _ => ∃ dk : Addr, vs = [.ref dk] ∧ Deck H dk ∧ ∀ (v : V) (g : Gr) (H' : Hp), But dk H H' → Deck H' dk → Dp K (del1 H' dk) v (grD g) → SmG g → GrP g → g.inp ≤ 1000 → Q v H'
theorem ok_lg {f : Addr} {fd : FuncData} (F : Fun K "_law_graph" "_law_graph" s__law_graph f fd) (T : Txt K mg) (c__law_take : Cal P w K mg base 1 "_law_take" spTake []) : FnOk P w K mg base CX0 2 f fd ["deck"] (spLG K) := by
  refine F.ok sc__law_graph (fun vs H Q E h => ?_) (fun cdv A outer s H vs Q E hr h => ?_)
  · obtain ⟨dk, rfl, _⟩ := h
    rfl
  · obtain ⟨dk, rfl, k0, k⟩ := h
    refine ⟨_, (pss_cons (ps_set (i := 1) sc__law_graph.nd rfl (Or.inl rfl) (pe_op op_add pe_int (pe_c c__law_take hr (by omega) rfl (pa_cons (pv 0) (pa_cons pe_int pa_nil)))))
      (pss_cons (ps_setLc (i := 2) (own := [("turn", 5)]) rfl sc__law_graph.nd rfl rfl (sw_true rfl rfl rfl (by decide +kernel)) (pi_range1 (by rfl) T.b_range (pa_cons (pe_c c__law_take hr (by omega) rfl (pa_cons (pv 0) (pa_cons pe_int pa_nil))) pa_nil)) (blkOk_by (own := [("turn", 5)]) (N := ["deck", "inputs", "firsts", "edges", "pairs", "turn", "row", "nexts"]) (sc := defScope s__law_graph) (by decide +kernel)) (fun _ _ _ _ _ => (pg_name (i := 5) sc__law_graph.nd rfl (Or.inl rfl))) (fun _ _ _ _ _ => pts_nil) (fun _ _ _ _ _ => (pe_c c__law_take hr (by omega) rfl (pa_cons (pv 0) (pa_cons pe_int pa_nil)))))
      (pss_cons (ps_set (i := 3) sc__law_graph.nd rfl (Or.inr rfl) (pe_op op_mul pe_int (pe_op op_add (pe_op op_add pe_int (pv 1)) (pe_callB call_len_seq (by rfl) T.b_len boot_len' (pa_cons (pv 2) pa_nil)))))
      (pss_cons (ps_set (i := 4) sc__law_graph.nd rfl (Or.inl rfl) (pe_lst pa_nil))
      (pss_cons (ps_for PassesOwn.never rfl (pi_range1 (by rfl) T.b_range (pa_cons (pe_c c__law_take hr (by omega) rfl (pa_cons (pv 0) (pa_cons pe_int pa_nil))) pa_nil)) (pg_name (i := 5) sc__law_graph.nd rfl (Or.inl rfl)) (pss_cons (ps_set (i := 6) sc__law_graph.nd rfl (Or.inl rfl) (pe_callB cr_sortedI (by rfl) T.b_sorted boot_sorted' (pa_cons (pe_lst (pa_cons (pe_c c__law_take hr (by omega) rfl (pa_cons (pv 0) (pa_cons (pv 3) pa_nil))) (pa_cons (pe_c c__law_take hr (by omega) rfl (pa_cons (pv 0) (pa_cons (pe_op op_sub (pv 3) pe_int) pa_nil))) pa_nil))) pa_nil)))
      (pss_cons (ps_expr (pe_bm PySem.F.plainAttrs_list PySem.F.slot_list_append PySem.F.type_list_append mt_append (pv 4) (pa_cons (pe_tup (pa_cons (pe_ix ix_list (pv 6) pe_int (fun _ _ => rfl)) (pa_cons (pe_op op_add (pe_ix ix_list (pv 6) pe_int (fun _ _ => rfl)) (pe_callTy call_int1 (by rfl) T.b_int boot_int' (pa_cons (pe_cmpR op_eq (pe_ix ix_list (pv 6) pe_int (fun _ _ => rfl)) (pe_ix ix_list (pv 6) pe_int (fun _ _ => rfl)) (nomark _)) pa_nil))) pa_nil))) pa_nil)))
      (pss_one (ps_set (i := 3) sc__law_graph.nd rfl (Or.inr rfl) (pe_op op_add (pv 3) pe_int))))))
      (pss_cons (ps_setLc (i := 7) (own := [("turn", 5)]) rfl sc__law_graph.nd rfl rfl (sw_true rfl rfl rfl (by decide +kernel)) (pi_list (pv 2)) (blkOk_by (own := [("turn", 5)]) (N := ["deck", "inputs", "firsts", "edges", "pairs", "turn", "row", "nexts"]) (sc := defScope s__law_graph) (by decide +kernel)) (fun _ _ _ _ _ => (pg_name (i := 5) sc__law_graph.nd rfl (Or.inl rfl))) (fun _ _ _ _ _ => pts_nil) (fun _ _ _ _ _ => (pe_c c__law_take hr (by omega) rfl (pa_cons (pv 0) (pa_cons (pv 3) pa_nil)))))
      (pss_one (ps_ret (pe_tup (pa_cons (pv 1) (pa_cons (pv 2) (pa_cons (pv 7) (pa_cons (pv 4) (pa_cons (pe_lc (own := [("turn", 5)]) rfl sc__law_graph.nd (pi_range1 (by rfl) T.b_range (pa_cons (pe_c c__law_take hr (by omega) rfl (pa_cons (pv 0) (pa_cons pe_int pa_nil))) pa_nil)) (blkOk_by (own := [("turn", 5)]) (N := ["deck", "inputs", "firsts", "edges", "pairs", "turn", "row", "nexts"]) (sc := defScope s__law_graph) (by decide +kernel)) (fun _ _ _ _ _ => (pg_name (i := 5) sc__law_graph.nd rfl (Or.inl rfl))) (fun _ _ _ _ _ => pts_nil) (fun _ _ _ _ _ => (pe_c c__law_take hr (by omega) rfl (pa_cons (pv 0) (pa_cons (pv 3) pa_nil))))) pa_nil)))))))))))))), ?_⟩
    refine ⟨_, rfl, dk, 4, rfl, by decide, k0, fun r1 H1 a0 a1 b1 k1 => ⟨_, _, rfl, rfl, ?_⟩⟩
    -- firsts
    refine ⟨_, rfl, dk, 3, rfl, by decide, k1, fun r2 H2 c0 c1 b2 k2 => ⟨_, rfl, by omega, by omega, fun D1 nD1 => ?_⟩⟩
    refine lc_range (lo := 0) (n := r2.toNat) (DrawP dk D1 H2 2) (draw0 nD1 k2) (fun j G hj p => ⟨rfl, _, rfl, draw_next (E := C8.E0) nD1 k2 (by decide) (by omega) p⟩) ?_
    rintro H3 ⟨fs, lfs, rfs, b3, h1, k3⟩
    have ne1 : D1 ≠ dk := Deck.ne k2 nD1
    have afs : allR 2 fs = true := allR_iff.mpr rfs
    refine ⟨_, rfl, _, _, rfl, rfl, _, rfl, D1, _, rfl, .inl (SqL.of h1), _, _, rfl, rfl, _, _, rfl, rfl, .inl ⟨by decide, by decide⟩, ?_⟩
    rw [List.length_map]
    obtain ⟨E0, hE⟩ : ∃ E0 : Int, E0 = 2 * (1 + (1 + r1) + (fs.length : Nat)) := ⟨_, rfl⟩
    refine ⟨by decide, fun pp npp => ?_⟩
    have nep : pp ≠ dk := Deck.ne k3 npp
    have npp0 : pp ≠ D1 := fun z => by rw [z, h1] at npp; cases npp
    have bAll := (b1.trans b2).trans (b3.trans (But.of (same_new (o := HO.lst []) npp)))
    refine ⟨_, rfl, dk, 9, rfl, by decide, k3.same (same_new npp), fun r4 H4 d0 d1 b4 k4 => ⟨_, rfl, by omega, by omega, ?_⟩⟩
    refine for_range (lo := 0) (n := r4.toNat) (fun i σ' H' => ∃ (o5 o6 : Option V) (ps : List Pr) (ys : List V), σ' = [some (.ref dk), some (.int (1 + r1)), some (.ref D1), some (.int (E0 + 2 * i)), some (.ref pp), o5, o6, none] ∧ But dk H H' ∧ Deck H' dk ∧ H' D1 = some (.lst (fs.map V.int)) ∧ H' pp = some (.lst ys) ∧ DpAll K H' ys (ps.map prD) ∧ ps.length = i ∧ okPs E0 ps = true)
      ⟨none, none, [], [], ?_, bAll.trans b4, k4, b4 _ _ ne1 ((same_new npp) _ _ h1), b4 _ _ nep upd_same, .nil, rfl, rfl⟩ ?_ ?_
    · rw [show E0 + 2 * ((0 : Nat) : Int) = 2 * (1 + (1 + r1) + (fs.length : Nat)) by omega]
      rfl
    · rintro i σ H5 hi ⟨o5, o6, ps, ys, rfl, bH, k5, h1, hp, hys, lps, oks⟩
      have hi9 : i < 9 := by omega
      have l2 : 0 ≤ r2 ∧ fs.length ≤ 2 := by omega
      -- row
      refine ⟨_, rfl, _, rfl, dk, _, rfl, by omega, k5, fun x G1 x0 x1 c1 j1 => ⟨_, rfl, _, rfl, _, _, rfl, rfl, dk, _, rfl, by omega, j1, fun y G2 y0 y1 c2 j2 => ⟨(show 2 ≤ sizeLine by decide), fun pl npl => ⟨pl, [x, y], rfl, SqL.of upd_same, fun ns q pm so nq => ?_⟩⟩⟩⟩
      have s1 := (same_new (o := HO.lst [V.int x, V.int y]) npl).trans (same_new (o := HO.lst (ns.map V.int)) nq)
      have hq := upd_same (H := upd G2 pl (.lst [V.int x, V.int y])) (a := q) (o := HO.lst (ns.map V.int))
      generalize upd (upd G2 pl (.lst [V.int x, V.int y])) q (.lst (ns.map V.int)) = G3 at s1 hq
      have bG := (c1.trans c2).trans (But.of s1)
      have kG : Deck G3 dk := j2.same s1
      have kp := (KeepT.of_but k5 (c1.trans c2)).trans (KeepT.of_same s1)
      have hpG := bG _ _ nep hp
      obtain ⟨a, b, rfl, rab, hab, bb⟩ : ∃ a b : Int, ns = [a, b] ∧ 0 ≤ a ∧ a ≤ b ∧ b + (if a = b then 1 else 0) < E0 + 2 * i := by
        have ln := pm.length_eq
        match ns, ln with
        | [a, b], _ =>
          have ma : a = x ∨ a = y := by simpa using pm.mem_iff.mp (List.mem_cons_self)
          have mb : b = x ∨ b = y := by simpa using pm.mem_iff.mp (show b ∈ [a, b] by simp)
          have mx' : x = a ∨ x = b := by simpa using pm.mem_iff.mpr (show x ∈ [x, y] by simp)
          have my' : y = a ∨ y = b := by simpa using pm.mem_iff.mpr (show y ∈ [x, y] by simp)
          have le : a ≤ b := (List.pairwise_cons.mp so).1 b (by simp)
          refine ⟨a, b, rfl, by omega, le, ?_⟩
          split <;> omega
      refine ⟨_, rfl, .inl ⟨rfl, _, SqL.of hpG⟩, _, rfl, q, _, 0, _, rfl, rfl, SqL.of hq, atI_nat (j := 0) rfl, _, rfl, q, _, 1, _, rfl, rfl, SqL.of hq, atI_nat (j := 1) rfl, _, rfl, q, _, 0, _, rfl, rfl, SqL.of hq, atI_nat (j := 0) rfl, _, rfl, q, _, 1, _, rfl, rfl, SqL.of hq, atI_nat (j := 1) rfl, rfl, .inr ⟨_, rfl, _, _, rfl, rfl, (show 2 ≤ sizeLine by decide), fun t nt => ?_⟩⟩
      have ei : (if decide (V.int a = V.int b) = true then (1 : Int) else 0) = if a = b then 1 else 0 := by
        by_cases h : a = b
        · rw [if_pos h, if_pos (decide_eq_true (by rw [h]))]
        · rw [if_neg h, if_neg fun z => h (V.int.inj (of_decide_eq_true z))]
      rw [ei]
      obtain ⟨b', hb'⟩ : ∃ b', b' = b + (if a = b then 1 else 0) := ⟨_, rfl⟩
      have ts := same_new (o := HO.tup [V.int a, V.int (b + if a = b then 1 else 0)]) nt
      have tt := upd_same (H := G3) (a := t) (o := HO.tup [V.int a, V.int (b + if a = b then 1 else 0)])
      have hpT := ts _ _ hpG
      have yl : ys.length ≤ 9 := by rw [dps_len hys, List.length_map]; omega
      refine ⟨_, _, _, rfl, rfl, hpT, size_lt (by omega), ?_⟩
      refine ⟨_, rfl, _, _, rfl, rfl, some (.int (0 + (i : Int))), some (.ref q), ps ++ [(a, b + if a = b then 1 else 0)], ys ++ [.ref t], ?_, ?_, deck_mut (kG.same ts) nep, ?_, upd_same, ?_, by rw [List.length_append, lps]; rfl, ?_⟩
      · rw [show E0 + 2 * ((i + 1 : Nat) : Int) = E0 + 2 * i + 2 by omega]
        rfl
      · exact fun c u nc e => by
          have nn : H pp = none := none_of_but (by exact k3) ((b1.trans b2).trans b3) npp
          rw [upd_ne (fun z => by rw [z, nn] at e; cases e)]
          exact ts _ _ (bG _ _ nc (bH _ _ nc e))
      · rw [upd_ne (Ne.symm npp0)]
        exact ts _ _ (bG _ _ ne1 h1)
      · rw [List.map_append]
        have kp2 := (kp.trans (KeepT.of_same ts)).trans (KeepT.mut (H := H) (ys := ys ++ [.ref t]) hpT)
        refine dps_snoc (dps_keep kp2 (noLs_map fun p _ => noL_pr p) hys) (.tup (SqT.of ?_) (dps_ints [a, b + if a = b then 1 else 0]))
        rw [upd_ne (fun z => by rw [z, hpG] at nt; cases nt)]
        exact tt
      · rw [okPs_snoc, oks, lps, Bool.true_and]
        unfold okP
        rw [allR_iff.mpr (fun z hz => ?_), decide_eq_true (show a < b + if a = b then 1 else 0 by split <;> omega)]
        · rfl
        · simp only [List.mem_cons, List.not_mem_nil, or_false] at hz
          rcases hz with rfl | rfl
          · refine ⟨rab, ?_⟩
            split at bb <;> omega
          · refine ⟨?_, bb⟩
            split <;> omega
    · rintro σ H5 ⟨o5, o6, ps, ys, rfl, bH, k5, h1, hp, hys, lps, oks⟩
      -- nexts
      refine ⟨_, rfl, D1, rfl, ⟨_, SqL.of h1⟩, fun Dn nDn => ?_⟩
      have ne5 : Dn ≠ dk := Deck.ne k5 nDn
      refine lc_list (K := K) (a := D1) (xs := fs.map V.int) (DrawP dk Dn H5 (E0 + 2 * (r4.toNat : Nat))) (draw0 nDn k5) (fun i G _ p => ?_) (fun i x G hx p => ?_) ?_
      · obtain ⟨rs, _, _, b, _⟩ := p
        exact SqL.of (b _ _ ne1 h1)
      · have := (List.getElem?_eq_some_iff.mp hx).1
        rw [List.length_map] at this
        exact ⟨rfl, _, rfl, _, rfl, draw_next (E := C8.E0) nDn k5 (by omega) (by omega) p⟩
      rintro H6 ⟨ns, lns, rns, b6, hn, k6⟩
      rw [List.length_map] at lns
      refine ⟨_, rfl, _, rfl, _, rfl, _, rfl, _, rfl, dk, 4, rfl, by decide, k6, fun r5 H7 e0 e1 b7 k7 => ⟨_, rfl, by omega, by omega, fun Do nDo => ?_⟩⟩
      have ne7 : Do ≠ dk := Deck.ne k7 nDo
      refine lc_range (lo := 0) (n := r5.toNat) (DrawP dk Do H7 (E0 + 2 * (r4.toNat : Nat))) (draw0 nDo k7) (fun j G hj p => ⟨rfl, _, rfl, _, rfl, draw_next (E := C8.E0) nDo k7 (by omega) (by omega) p⟩) ?_
      rintro H8 ⟨os, los, ros, b8, ho, k8⟩
      refine ⟨(show 5 ≤ sizeLine by decide), fun t nt => ?_⟩
      have net : t ≠ dk := Deck.ne k8 nt
      have st := same_new (o := HO.tup [V.int (1 + r1), V.ref D1, V.ref Dn, V.ref pp, V.ref Do]) nt
      have b58 := (b6.trans b7).trans b8
      have b5t := b58.trans (But.of st)
      have yl : ps.length ≤ 9 := by omega
      have kt : KeepT H5 (del1 (upd H8 t (.tup [V.int (1 + r1), V.ref D1, V.ref Dn, V.ref pp, V.ref Do])) dk) := (KeepT.of_but k5 b5t).trans (keep_del1 (k8.same st))
      refine k _ ⟨1 + r1, fs, ns, ps, os⟩ _ (bH.trans b5t) (k8.same st) (lv_mk (xg := ys) (by rw [del1_ne net]; exact upd_same) (by rw [del1_ne ne1]; exact b5t _ _ ne1 h1) (by rw [del1_ne ne5]; exact (b7.trans (b8.trans (But.of st))) _ _ ne5 hn) (by rw [del1_ne nep]; exact b5t _ _ nep hp) (dps_keep kt (noLs_map fun p _ => noL_pr p) hys) (by rw [del1_ne ne7]; exact (But.of st (a := dk)) _ _ ne7 ho)) ⟨show fs.length ≤ 1000 by omega, show ns.length ≤ 1000 by omega, show ps.length ≤ 1000 by omega, show os.length ≤ 1000 by omega⟩ ?_ (by show 1 + r1 ≤ 1000; omega)
      have em : g0 ⟨1 + r1, fs, ns, ps, os⟩ = E0 := by
        show 2 * (1 + (1 + r1) + (fs.length : Int)) = E0
        omega
      exact ⟨by show 0 ≤ 1 + r1; omega, afs, by rw [em]; exact oks, by rw [em, lps]; exact allR_iff.mpr rns, lns, by rw [em, lps]; exact allR_iff.mpr ros⟩
end
end Q80



set_option pp.maxSteps 1500
namespace Q80
open PySem L2 G M80
open C8 (Cal Met Mak pe_c pe_mk pe_mt pe_mt0 pe_gc pss_cut tCut)
theorem okRs_snoc {p : Rw} : ∀ {ps : List Rw} {m : Int}, okRs m (ps ++ [p]) = (okRs m ps && okR (m + ps.length) p)
  | [], m => by
    show (okR m p && true) = (true && okR (m + ((0 : Nat) : Int)) p)
    rw [Bool.and_true, Bool.true_and]
    congr 1
    omega
  | q :: r, m => by
    show (okR m q && okRs (m + 1) (r ++ [p])) = (okR m q && okRs (m + 1) r && okR (m + ((r.length + 1 : Nat) : Int)) p)
    rw [okRs_snoc (ps := r), Bool.and_assoc]
    rw [show m + 1 + (r.length : Int) = m + ((r.length + 1 : Nat) : Int) by omega]
theorem rowOf_vals {us : List Int} {t : Int} (h : us.length ≤ 3) : us ++ List.replicate (3 - us.length) 0 ++ [t] = [(rowOf us t).a, (rowOf us t).b, (rowOf us t).c, (rowOf us t).t] := by
  match us, h with
  | [], _ => rfl
  | [x], _ => rfl
  | [x, y], _ => rfl
  | [x, y, z], _ => rfl
  | _ :: _ :: _ :: _ :: _, h => simp at h
def DrawQ (dk D : Addr) (H1 : Hp) (lo m : Int) (i : Nat) (H : Hp) : Prop := ∃ rs : List Int, rs.length = i ∧ (∀ r ∈ rs, lo ≤ r ∧ r < m) ∧ But dk H1 H ∧ H D = some (.lst (rs.map V.int)) ∧ Deck H dk
theorem drawQ_put {dk D : Addr} {H1 H H' : Hp} {lo m r : Int} {i : Nat} (hD : H1 D = none) (hk : Deck H1 dk) (p : DrawQ dk D H1 lo m i H) (b : But dk H H') (k : Deck H' dk) (r0 : lo ≤ r) (r1 : r < m) (hi : i < 100000) :
    ∃ acc, H' D = some (.lst acc) ∧ acc.length < sizeLine ∧ DrawQ dk D H1 lo m (i + 1) (upd H' D (.lst (acc ++ [.int r]))) := by
  obtain ⟨rs, hl, hr, b1, hd, _⟩ := p
  have ne := Deck.ne hk hD
  refine ⟨_, b _ _ ne hd, size_lt (by rw [List.length_map]; omega), rs ++ [r], by rw [List.length_append, hl]; rfl, fun x hx => ?_, but_mut (b1.trans b) hD, by rw [upd_same, List.map_append]; rfl, deck_mut k ne⟩
  rcases List.mem_append.mp hx with hx | hx
  · exact hr x hx
  · rw [List.mem_singleton.mp hx]
    exact ⟨r0, r1⟩
theorem after2 {G1 : Hp} {qs q : Addr} {o : HO} {l : List V} (n1 : G1 qs = none) (n2 : upd G1 qs o q = none) : Same G1 (upd (upd G1 qs o) q (.lst l)) ∧ upd (upd G1 qs o) q (.lst l) q = some (.lst l) := ⟨(same_new n1).trans (same_new n2), upd_same⟩
section
variable {P : Program} {w : World} {K : PySem.W.Frag} {mg : Str → Option Value} {base : Heap}
/-! ### _law_tables -/
def spLT (K : PySem.W.Frag) : Sp := fun vs H Q _ => ∃ dk : Addr, vs = [.ref dk] ∧ Deck H dk ∧ ∀ (v : V) (g : Tb) (H' : Hp), But dk H H' → Deck H' dk → Dp K (del1 H' dk) v (tbD g) → SmT g → TbP g → g.inp ≤ 1000 → Q v H'
theorem ok_lt {f : Addr} {fd : FuncData} (F : Fun K "_law_tables" "_law_tables" s__law_tables f fd) (T : Txt K mg) (c__law_take : Cal P w K mg base 1 "_law_take" spTake []) (c__law_spread : Cal P w K mg base 2 "_law_spread" spSpr []) : FnOk P w K mg base CX0 3 f fd ["deck"] (spLT K) := by
  refine F.ok sc__law_tables (fun vs H Q E h => ?_) (fun cdv A outer s H vs Q E hr h => ?_)
  · obtain ⟨dk, rfl, _⟩ := h
    rfl
  · obtain ⟨dk, rfl, k0, k⟩ := h
    refine ⟨_, (pss_cons (ps_set (i := 1) sc__law_tables.nd rfl (Or.inl rfl) (pe_op op_add pe_int (pe_c c__law_take hr (by omega) rfl (pa_cons (pv 0) (pa_cons pe_int pa_nil)))))
      (pss_cons (ps_setLc (i := 2) (own := [("turn", 5)]) rfl sc__law_tables.nd rfl rfl (sw_true rfl rfl rfl (by decide +kernel)) (pi_range1 (by rfl) T.b_range (pa_cons (pe_c c__law_take hr (by omega) rfl (pa_cons (pv 0) (pa_cons pe_int pa_nil))) pa_nil)) (blkOk_by (own := [("turn", 5)]) (N := ["deck", "inputs", "firsts", "points", "rows", "turn", "used", "nexts", "part"]) (sc := defScope s__law_tables) (by decide +kernel)) (fun _ _ _ _ _ => (pg_name (i := 5) sc__law_tables.nd rfl (Or.inl rfl))) (fun _ _ _ _ _ => pts_nil) (fun _ _ _ _ _ => (pe_c c__law_take hr (by omega) rfl (pa_cons (pv 0) (pa_cons pe_int pa_nil)))))
      (pss_cons (ps_set (i := 3) sc__law_tables.nd rfl (Or.inr rfl) (pe_op op_add (pe_op op_add pe_int (pv 1)) (pe_callB call_len_seq (by rfl) T.b_len boot_len' (pa_cons (pv 2) pa_nil))))
      (pss_cons (ps_set (i := 4) sc__law_tables.nd rfl (Or.inl rfl) (pe_lst pa_nil))
      (pss_cons (ps_for PassesOwn.never rfl (pi_range1 (by rfl) T.b_range (pa_cons (pe_c c__law_take hr (by omega) rfl (pa_cons (pv 0) (pa_cons pe_int pa_nil))) pa_nil)) (pg_name (i := 5) sc__law_tables.nd rfl (Or.inl rfl)) (pss_cons (ps_set (i := 6) sc__law_tables.nd rfl (Or.inl rfl) (pe_callB (cr_sortedSet rfl) (by rfl) T.b_sorted boot_sorted' (pa_cons (pe_callTy (cr_setL rfl) (by rfl) T.b_set boot_set' (pa_cons (pe_lc (own := [("part", 8)]) rfl sc__law_tables.nd (pi_range1 (by rfl) T.b_range (pa_cons (pe_c c__law_take hr (by omega) rfl (pa_cons (pv 0) (pa_cons pe_int pa_nil))) pa_nil)) (blkOk_by (own := [("part", 8)]) (N := ["deck", "inputs", "firsts", "points", "rows", "turn", "used", "nexts", "part"]) (sc := defScope s__law_tables) (by decide +kernel)) (fun _ _ _ _ _ => (pg_name (i := 8) sc__law_tables.nd rfl (Or.inl rfl))) (fun _ _ _ _ _ => pts_nil) (fun _ _ _ _ _ => (pe_op op_add pe_int (pe_c c__law_take hr (by omega) rfl (pa_cons (pv 0) (pa_cons (pe_op op_sub (pv 3) pe_int) pa_nil)))))) pa_nil)) pa_nil)))
      (pss_cons (ps_expr (pe_bm PySem.F.plainAttrs_list PySem.F.slot_list_append PySem.F.type_list_append mt_append (pv 4) (pa_cons (pe_callTy call_tuple_of (by rfl) T.b_tuple boot_tuple' (pa_cons (pe_op op_cat (pe_op op_cat (pv 6) (pe_op op_rep (pe_lst (pa_cons pe_int pa_nil)) (pe_op op_sub pe_int (pe_callB call_len_seq (by rfl) T.b_len boot_len' (pa_cons (pv 6) pa_nil))))) (pe_lst (pa_cons (pe_c c__law_spread hr (by omega) rfl (pa_cons (pv 0) (pa_cons (pe_callB call_len_seq (by rfl) T.b_len boot_len' (pa_cons (pv 6) pa_nil)) pa_nil))) pa_nil))) pa_nil)) pa_nil)))
      (pss_one (ps_set (i := 3) sc__law_tables.nd rfl (Or.inr rfl) (pe_op op_add (pv 3) pe_int))))))
      (pss_cons (ps_setLc (i := 7) (own := [("turn", 5)]) rfl sc__law_tables.nd rfl rfl (sw_true rfl rfl rfl (by decide +kernel)) (pi_list (pv 2)) (blkOk_by (own := [("turn", 5)]) (N := ["deck", "inputs", "firsts", "points", "rows", "turn", "used", "nexts", "part"]) (sc := defScope s__law_tables) (by decide +kernel)) (fun _ _ _ _ _ => (pg_name (i := 5) sc__law_tables.nd rfl (Or.inl rfl))) (fun _ _ _ _ _ => pts_nil) (fun _ _ _ _ _ => (pe_c c__law_take hr (by omega) rfl (pa_cons (pv 0) (pa_cons (pv 3) pa_nil)))))
      (pss_one (ps_ret (pe_tup (pa_cons (pv 1) (pa_cons (pv 2) (pa_cons (pv 7) (pa_cons (pv 4) (pa_cons (pe_lc (own := [("turn", 5)]) rfl sc__law_tables.nd (pi_range1 (by rfl) T.b_range (pa_cons (pe_c c__law_take hr (by omega) rfl (pa_cons (pv 0) (pa_cons pe_int pa_nil))) pa_nil)) (blkOk_by (own := [("turn", 5)]) (N := ["deck", "inputs", "firsts", "points", "rows", "turn", "used", "nexts", "part"]) (sc := defScope s__law_tables) (by decide +kernel)) (fun _ _ _ _ _ => (pg_name (i := 5) sc__law_tables.nd rfl (Or.inl rfl))) (fun _ _ _ _ _ => pts_nil) (fun _ _ _ _ _ => (pe_c c__law_take hr (by omega) rfl (pa_cons (pv 0) (pa_cons (pv 3) pa_nil))))) pa_nil)))))))))))))), ?_⟩
    refine ⟨_, rfl, dk, 4, rfl, by decide, k0, fun r1 H1 a0 a1 b1 k1 => ⟨_, _, rfl, rfl, ?_⟩⟩
    -- firsts
    refine ⟨_, rfl, dk, 3, rfl, by decide, k1, fun r2 H2 c0 c1 b2 k2 => ⟨_, rfl, by omega, by omega, fun D1 nD1 => ?_⟩⟩
    refine lc_range (lo := 0) (n := r2.toNat) (DrawP dk D1 H2 2) (draw0 nD1 k2) (fun j G hj p => ⟨rfl, _, rfl, draw_next (E := C8.E0) nD1 k2 (by decide) (by omega) p⟩) ?_
    rintro H3 ⟨fs, lfs, rfs, b3, h1, k3⟩
    have ne1 : D1 ≠ dk := Deck.ne k2 nD1
    have afs : allR 2 fs = true := allR_iff.mpr rfs
    refine ⟨_, rfl, _, _, rfl, rfl, _, rfl, D1, _, rfl, .inl (SqL.of h1), _, _, rfl, rfl, ?_⟩
    rw [List.length_map]
    obtain ⟨E0, hE⟩ : ∃ E0 : Int, E0 = 1 + (1 + r1) + (fs.length : Nat) := ⟨_, rfl⟩
    refine ⟨by decide, fun pp npp => ?_⟩
    have nep : pp ≠ dk := Deck.ne k3 npp
    have npp0 : pp ≠ D1 := fun z => by rw [z, h1] at npp; cases npp
    have bAll := (b1.trans b2).trans (b3.trans (But.of (same_new (o := HO.lst []) npp)))
    refine ⟨_, rfl, dk, 8, rfl, by decide, k3.same (same_new npp), fun r4 H4 d0 d1 b4 k4 => ⟨_, rfl, by omega, by omega, ?_⟩⟩
    refine for_range (lo := 0) (n := r4.toNat) (fun i σ' H' => ∃ (o5 o6 : Option V) (ps : List Rw) (ys : List V), σ' = [some (.ref dk), some (.int (1 + r1)), some (.ref D1), some (.int (E0 + i)), some (.ref pp), o5, o6, none, none] ∧ But dk H H' ∧ Deck H' dk ∧ H' D1 = some (.lst (fs.map V.int)) ∧ H' pp = some (.lst ys) ∧ DpAll K H' ys (ps.map rwD) ∧ ps.length = i ∧ okRs E0 ps = true)
      ⟨none, none, [], [], ?_, bAll.trans b4, k4, b4 _ _ ne1 ((same_new npp) _ _ h1), b4 _ _ nep upd_same, .nil, rfl, rfl⟩ ?_ ?_
    · rw [show E0 + ((0 : Nat) : Int) = 1 + (1 + r1) + (fs.length : Nat) by omega]
      rfl
    · rintro i σ H5 hi ⟨o5, o6, ps, ys, rfl, bH, k5, h1, hp, hys, lps, oks⟩
      have hi9 : i < 9 := by omega
      have l2 : 0 ≤ r2 ∧ fs.length ≤ 2 := by omega
      -- used
      refine ⟨_, rfl, dk, 4, rfl, by decide, k5, fun x G0 x0 x1 c0 j0 => ⟨_, rfl, by omega, by omega, fun Du nDu => ?_⟩⟩
      refine lc_range (lo := 0) (n := x.toNat) (DrawQ dk Du G0 1 (E0 + i)) ⟨[], rfl, (fun _ h => by cases h), But.of (same_new nDu), upd_same, j0.same (same_new nDu)⟩ (fun j G hj p => ⟨rfl, _, rfl, _, rfl, _, _, rfl, rfl, dk, _, rfl, by omega, p.choose_spec.2.2.2.2, fun z G' z0 z1 b2 k2 => ⟨_, _, rfl, rfl, drawQ_put nDu j0 p b2 k2 (by omega) (by omega) (by omega)⟩⟩) ?_
      rintro G1 ⟨us, lus, rus, c1, hus, j1⟩
      refine ⟨Du, us, rfl, SqL.of hus, by omega, fun n qs hn hqs => ⟨qs, _, n, rfl, upd_same, by omega, fun ns q so mem ln hq => ?_⟩⟩
      obtain ⟨s1, hqG⟩ := after2 (l := ns.map V.int) hqs hq
      have nsr : ∀ z ∈ ns, 1 ≤ z ∧ z < E0 + i := fun z hz => rus z (of_decide_eq_true ((mem z).mp hz))
      have ns3 : ns.length ≤ 3 := by omega
      generalize upd (upd G1 qs _) q (.lst (ns.map V.int)) = G3 at s1 hqG
      have bG := (c0.trans c1).trans (But.of s1)
      have kG : Deck G3 dk := j1.same s1
      have kp := (KeepT.of_but k5 (c0.trans c1)).trans (KeepT.of_same s1)
      have hpG := bG _ _ nep hp
      have neq : q ≠ dk := Deck.ne (j1.same (same_new hqs)) hq
      refine ⟨_, rfl, .inl ⟨rfl, _, SqL.of hpG⟩, _, rfl, (show 1 ≤ sizeLine by decide), fun p1 m1 => ?_⟩
      have t1 := same_new (o := HO.lst [V.int 0]) m1
      refine ⟨_, rfl, q, _, rfl, .inl (SqL.of (t1 _ _ hqG)), _, _, rfl, rfl, ?_⟩
      have ek : V.int ((3 : Int) - (((ns.map V.int).length : Nat) : Int)) = V.int ((3 - ns.length : Nat) : Int) := by
        rw [List.length_map]
        congr 1
        omega
      refine ⟨p1, ((3 - ns.length : Nat) : Int), _, rfl, ek, upd_same, by omega, by omega, Nat.le_trans (show 1 * _ ≤ 3 by omega) (by decide), fun p2 m2 => ?_⟩
      rw [rep_ints, Int.toNat_natCast]
      have t2 := same_new (o := HO.lst ((List.replicate (3 - ns.length) (0 : Int)).map V.int)) m2
      refine ⟨q, p2, _, _, rfl, rfl, t2 _ _ (t1 _ _ hqG), upd_same, Nat.le_trans (show _ ≤ 6 by rw [List.length_map, List.length_map, List.length_replicate]; omega) (by decide), fun p3 m3 => ?_⟩
      rw [← List.map_append]
      have t3 := same_new (o := HO.lst ((ns ++ List.replicate (3 - ns.length) (0 : Int)).map V.int)) m3
      have t123 := (t1.trans t2).trans t3
      have h3 := upd_same (H := upd (upd G3 p1 (.lst [V.int 0])) p2 (.lst ((List.replicate (3 - ns.length) (0 : Int)).map V.int))) (a := p3) (o := HO.lst ((ns ++ List.replicate (3 - ns.length) (0 : Int)).map V.int))
      have ne3 : p3 ≠ dk := Deck.ne (kG.same (t1.trans t2)) m3
      generalize upd (upd (upd G3 p1 _) p2 _) p3 _ = G4 at t123 h3
      have kG4 := kG.same t123
      refine ⟨_, rfl, _, rfl, q, _, rfl, .inl (SqL.of (t123 _ _ hqG)), dk, (ns.map V.int).length, rfl, by rw [List.length_map]; omega, kG4, fun bs G5 b5 kG5 lb rb => ?_⟩
      rw [List.length_map] at lb ⊢
      have okS := spread_ok (n := ns.length) ns3 lb rb
      refine ⟨(show 1 ≤ sizeLine by decide), fun p4 m4 => ?_⟩
      have t4 := same_new (o := HO.lst [V.int (sprd bs ns.length)]) m4
      refine ⟨p3, p4, _, _, rfl, rfl, t4 _ _ (b5 _ _ ne3 h3), upd_same, Nat.le_trans (show _ ≤ 4 by rw [List.length_map, List.length_append, List.length_replicate]; simp only [List.length_singleton]; omega) (by decide), fun p5 m5 => ⟨p5, _, rfl, .inl ⟨SqL.of upd_same, fun t nt => ?_⟩⟩⟩
      rw [show (ns ++ List.replicate (3 - ns.length) (0 : Int)).map V.int ++ [V.int (sprd bs ns.length)] = (ns ++ List.replicate (3 - ns.length) (0 : Int) ++ [sprd bs ns.length]).map V.int from (List.map_append (f := V.int) (l₁ := ns ++ List.replicate (3 - ns.length) (0 : Int)) (l₂ := [sprd bs ns.length])).symm, rowOf_vals ns3] at nt ⊢
      generalize hR : rowOf ns (sprd bs ns.length) = R at nt ⊢
      have t5 := same_new (o := HO.lst ([R.a, R.b, R.c, R.t].map V.int)) m5
      have t6 := same_new (o := HO.tup ([R.a, R.b, R.c, R.t].map V.int)) nt
      have tt := upd_same (H := upd (upd G5 p4 (.lst [V.int (sprd bs ns.length)])) p5 (.lst ([R.a, R.b, R.c, R.t].map V.int))) (a := t) (o := HO.tup ([R.a, R.b, R.c, R.t].map V.int))
      have b7 := ((But.of t123).trans b5).trans (But.of ((t4.trans t5).trans t6))
      have kp2 := kp.trans (KeepT.of_but kG b7)
      have kG7 := kG5.same ((t4.trans t5).trans t6)
      have npt : pp ≠ t := fun z => by
        have := (t4.trans t5) _ _ (b5 _ _ nep (t123 _ _ hpG))
        rw [z, nt] at this
        cases this
      generalize upd (upd (upd G5 p4 _) p5 _) t _ = G7 at tt b7 kp2 kG7
      have hpT := b7 _ _ nep hpG
      have bT := bG.trans b7
      have yl : ys.length ≤ 9 := by rw [dps_len hys, List.length_map]; omega
      refine ⟨_, _, _, rfl, rfl, hpT, size_lt (by omega), ?_⟩
      refine ⟨_, rfl, _, _, rfl, rfl, some (.int (0 + (i : Int))), some (.ref q), ps ++ [R], ys ++ [.ref t], ?_, ?_, deck_mut kG7 nep, ?_, upd_same, ?_, by rw [List.length_append, lps]; rfl, ?_⟩
      · rw [show E0 + ((i + 1 : Nat) : Int) = E0 + i + 1 by omega]
        rfl
      · exact fun c u nc e => by
          have nn : H pp = none := none_of_but (by exact k3) ((b1.trans b2).trans b3) npp
          rw [upd_ne (fun z => by rw [z, nn] at e; cases e)]
          exact bT _ _ nc (bH _ _ nc e)
      · rw [upd_ne (Ne.symm npp0)]
        exact bT _ _ ne1 h1
      · rw [List.map_append]
        refine dps_snoc (dps_keep (kp2.trans (KeepT.mut (H := H) (ys := ys ++ [.ref t]) hpT)) (noLs_map fun p _ => noL_rw p) hys) (.tup (SqT.of ?_) (dps_ints [R.a, R.b, R.c, R.t]))
        rw [upd_ne (Ne.symm npt)]
        exact tt
      · rw [okRs_snoc, oks, lps, Bool.true_and, ← hR]
        exact okR_of (by omega) ns3 so nsr okS
    · rintro σ H5 ⟨o5, o6, ps, ys, rfl, bH, k5, h1, hp, hys, lps, oks⟩
      -- nexts
      refine ⟨_, rfl, D1, rfl, ⟨_, SqL.of h1⟩, fun Dn nDn => ?_⟩
      have ne5 : Dn ≠ dk := Deck.ne k5 nDn
      refine lc_list (K := K) (a := D1) (xs := fs.map V.int) (DrawP dk Dn H5 (E0 + (r4.toNat : Nat))) (draw0 nDn k5) (fun i G _ p => ?_) (fun i x G hx p => ?_) ?_
      · obtain ⟨rs, _, _, b, _⟩ := p
        exact SqL.of (b _ _ ne1 h1)
      · have := (List.getElem?_eq_some_iff.mp hx).1
        rw [List.length_map] at this
        exact ⟨rfl, _, rfl, _, rfl, draw_next (E := C8.E0) nDn k5 (by omega) (by omega) p⟩
      rintro H6 ⟨ns, lns, rns, b6, hn, k6⟩
      rw [List.length_map] at lns
      refine ⟨_, rfl, _, rfl, _, rfl, _, rfl, _, rfl, dk, 4, rfl, by decide, k6, fun r5 H7 e0 e1 b7 k7 => ⟨_, rfl, by omega, by omega, fun Do nDo => ?_⟩⟩
      have ne7 : Do ≠ dk := Deck.ne k7 nDo
      refine lc_range (lo := 0) (n := r5.toNat) (DrawP dk Do H7 (E0 + (r4.toNat : Nat))) (draw0 nDo k7) (fun j G hj p => ⟨rfl, _, rfl, _, rfl, draw_next (E := C8.E0) nDo k7 (by omega) (by omega) p⟩) ?_
      rintro H8 ⟨os, los, ros, b8, ho, k8⟩
      refine ⟨(show 5 ≤ sizeLine by decide), fun t nt => ?_⟩
      have net : t ≠ dk := Deck.ne k8 nt
      have st := same_new (o := HO.tup [V.int (1 + r1), V.ref D1, V.ref Dn, V.ref pp, V.ref Do]) nt
      have b58 := (b6.trans b7).trans b8
      have b5t := b58.trans (But.of st)
      have yl : ps.length ≤ 9 := by omega
      have kt : KeepT H5 (del1 (upd H8 t (.tup [V.int (1 + r1), V.ref D1, V.ref Dn, V.ref pp, V.ref Do])) dk) := (KeepT.of_but k5 b5t).trans (keep_del1 (k8.same st))
      refine k _ ⟨1 + r1, fs, ns, ps, os⟩ _ (bH.trans b5t) (k8.same st) (lv_mk (xg := ys) (by rw [del1_ne net]; exact upd_same) (by rw [del1_ne ne1]; exact b5t _ _ ne1 h1) (by rw [del1_ne ne5]; exact (b7.trans (b8.trans (But.of st))) _ _ ne5 hn) (by rw [del1_ne nep]; exact b5t _ _ nep hp) (dps_keep kt (noLs_map fun p _ => noL_rw p) hys) (by rw [del1_ne ne7]; exact (But.of st (a := dk)) _ _ ne7 ho)) ⟨show fs.length ≤ 1000 by omega, show ns.length ≤ 1000 by omega, show ps.length ≤ 1000 by omega, show os.length ≤ 1000 by omega⟩ ?_ (by show 1 + r1 ≤ 1000; omega)
      have em : t0 ⟨1 + r1, fs, ns, ps, os⟩ = E0 := by
        show 1 + (1 + r1) + (fs.length : Int) = E0
        omega
      exact ⟨by show 0 ≤ 1 + r1; omega, afs, by rw [em]; exact oks, by rw [em, lps]; exact allR_iff.mpr rns, lns, by rw [em, lps]; exact allR_iff.mpr ros⟩
end
end Q80



set_option pp.maxSteps 1500
namespace Q80
open PySem L2 G M80
open C8 (Cal Met Mak pe_c pe_mk pe_mt pe_mt0 pe_gc pss_cut tCut)
mutual
/-- data that can be laid, that can be made plain and laid -/
def okD : Nat → PyData → Bool
  | _, .none => true
  | _, .bool _ => true
  | _, .int _ => true
  | _, .str z => PyData.strOk z
  | n + 1, .list ds => decide (ds.length ≤ 10000) && okDs n ds
  | n + 1, .tuple ds => decide (ds.length ≤ 10000) && okDs n ds
  | _, _ => false
def okDs : Nat → List PyData → Bool
  | _, [] => true
  | n, d :: r => okD n d && okDs n r
end
mutual
theorem ok_lay : ∀ {n : Nat} {d : PyData}, okD n d = true → d.canLay0 = true ∧ d.depth ≤ n
  | n, .none, _ => ⟨by simp [PyData.canLay0], by simp [PyData.depth]⟩
  | n, .bool _, _ => ⟨by simp [PyData.canLay0], by simp [PyData.depth]⟩
  | n, .int _, _ => ⟨by simp [PyData.canLay0], by simp [PyData.depth]⟩
  | n, .str z, h => ⟨by simpa [PyData.canLay0, okD] using h, by simp [PyData.depth]⟩
  | n, .dict _, h => by simp [okD] at h
  | 0, .list _, h => by simp [okD] at h
  | 0, .tuple _, h => by simp [okD] at h
  | n + 1, .list xs, h => by
    simp only [okD, Bool.and_eq_true, decide_eq_true_eq] at h
    obtain ⟨h1, h2⟩ := oks_lay h.2
    exact ⟨by simp only [PyData.canLay0]; exact h1, by simp only [PyData.depth]; omega⟩
  | n + 1, .tuple xs, h => by
    simp only [okD, Bool.and_eq_true, decide_eq_true_eq] at h
    obtain ⟨h1, h2⟩ := oks_lay h.2
    exact ⟨by simp only [PyData.canLay0]; exact h1, by simp only [PyData.depth]; omega⟩
theorem oks_lay : ∀ {n : Nat} {ds : List PyData}, okDs n ds = true → PyData.canLayAll0 ds = true ∧ PyData.depthAll ds ≤ n
  | n, [], _ => ⟨by simp [PyData.canLayAll0], by simp [PyData.depthAll]⟩
  | n, x :: xs, h => by
    simp only [okDs, Bool.and_eq_true] at h
    obtain ⟨a1, a2⟩ := ok_lay h.1
    obtain ⟨b1, b2⟩ := oks_lay h.2
    exact ⟨by simp only [PyData.canLayAll0, a1, b1, Bool.and_true], by simp only [PyData.depthAll]; omega⟩
end
theorem ok_shaped {n : Nat} {d : PyData} (h : okD n d = true) (hn : n ≤ 64) : SeqAt.shaped d = true := by
  obtain ⟨h1, h2⟩ := ok_lay h
  show (d.canLay0 && decide (d.depth ≤ 64)) = true
  rw [h1, Bool.true_and]
  exact decide_eq_true (by omega)
mutual
theorem ok_plainD : ∀ {n : Nat} {d : PyData}, okD n d = true → (plain d).canLay0 = true ∧ (plain d).depth ≤ n + 1 ∧ tall d n
  | n, .none, _ => ⟨by decide +kernel, by simp [plain, PyData.depth], by cases n <;> trivial⟩
  | n, .bool b, _ => ⟨by cases b <;> decide +kernel, by cases b <;> simp [plain, PyData.depth], by cases n <;> trivial⟩
  | n, .int _, _ => ⟨by simp [plain, PyData.canLay0, PyData.canLayAll0], by simp [plain, PyData.depth, PyData.depthAll], by cases n <;> trivial⟩
  | n, .str z, h => ⟨by
      have : PyData.strOk z = true := by simpa [okD] using h
      simp [plain, PyData.canLay0, PyData.canLayAll0, this], by simp [plain, PyData.depth, PyData.depthAll], by cases n <;> trivial⟩
  | n, .dict _, h => by simp [okD] at h
  | 0, .list _, h => by simp [okD] at h
  | 0, .tuple _, h => by simp [okD] at h
  | n + 1, .list xs, h => by
    simp only [okD, Bool.and_eq_true, decide_eq_true_eq] at h
    obtain ⟨h1, h2, h3⟩ := oks_plainD h.2
    exact ⟨by simp [plain, PyData.canLay0, PyData.canLayAll0, h1], by simp only [plain, PyData.depth, PyData.depthAll]; omega, h.1, h3⟩
  | n + 1, .tuple xs, h => by
    simp only [okD, Bool.and_eq_true, decide_eq_true_eq] at h
    obtain ⟨h1, h2, h3⟩ := oks_plainD h.2
    exact ⟨by simp [plain, PyData.canLay0, PyData.canLayAll0, h1], by simp only [plain, PyData.depth, PyData.depthAll]; omega, h.1, h3⟩
theorem oks_plainD : ∀ {n : Nat} {ds : List PyData}, okDs n ds = true → PyData.canLayAll0 (plains ds) = true ∧ PyData.depthAll (plains ds) ≤ n + 1 ∧ talls ds n
  | n, [], _ => ⟨by simp [plains, PyData.canLayAll0], by simp [plains, PyData.depthAll], by cases n <;> trivial⟩
  | n, x :: xs, h => by
    simp only [okDs, Bool.and_eq_true] at h
    obtain ⟨a1, a2, a3⟩ := ok_plainD h.1
    obtain ⟨b1, b2, b3⟩ := oks_plainD h.2
    exact ⟨by simp only [plains, PyData.canLayAll0, a1, b1, Bool.and_true], by simp only [plains, PyData.depthAll]; omega, a3, b3⟩
end
theorem okp_shaped {n : Nat} {d : PyData} (h : okD n d = true) (hn : n ≤ 60) : SeqAt.shaped (plain d) = true := by
  obtain ⟨h1, h2, _⟩ := ok_plainD h
  show ((plain d).canLay0 && decide ((plain d).depth ≤ 64)) = true
  rw [h1, Bool.true_and]
  exact decide_eq_true (by omega)
theorem ok_eqv {n : Nat} {d : PyData} (h : okD n d = true) : PyData.eqv d d = true := SeqAt.eqv_refl _ (ok_lay h).1
theorem okp_eqv {n : Nat} {d : PyData} (h : okD n d = true) : PyData.eqv (plain d) (plain d) = true := SeqAt.eqv_refl _ (ok_plainD h).1
theorem okDs_map {α : Type} {n : Nat} {f : α → PyData} : ∀ {l : List α}, (∀ x ∈ l, okD n (f x) = true) → okDs n (l.map f) = true
  | [], _ => by simp [okDs]
  | a :: r, h => by
    have := okDs_map (n := n) (f := f) (l := r) fun x hx => h x (List.mem_cons_of_mem _ hx)
    simp [okDs, h a List.mem_cons_self, this]
theorem okD_ints (n : Nat) (xs : List Int) : okDs n (intsD xs) = true := okDs_map fun x _ => by cases n <;> rfl
theorem okD_ll {l : List (List Int)} (h : l.length ≤ 10000) (h2 : ∀ o ∈ l, o.length ≤ 10000) : okD 3 (llD l) = true := by
  have : okDs 2 (l.map fun o => PyData.list (intsD o)) = true := okDs_map fun o ho => by
    have := h2 o ho
    simp [okD, okD_ints, ints_len, this]
  simp [llD, okD, this, h]
/-- the step of a level stays in the lanes -/
theorem stp_swap {L n : Nat} {a b : Stp} (h : StpOk L n a b) (hl : ∀ e fl ins, (b e fl ins).2.length = n) : StpOk L n b b :=
  ⟨fun _ _ _ _ => rfl, fun fl ins hf hi => h.eq fl ins hf hi ▸ h.lan fl ins hf hi, hl⟩
theorem stp_refl {L n : Nat} {a b : Stp} (h : StpOk L n a b) : StpOk L n a a := ⟨fun _ _ _ _ => rfl, h.lan, h.len⟩
def twoD (p : List Int × List Int) : PyData := .tuple [.list (intsD p.1), .list (intsD p.2)]
theorem two_dp {K : PySem.W.Frag} {H : Hp} {t l1 l2 : Addr} {p : List Int × List Int} (ht : H t = some (.tup [.ref l1, .ref l2])) (h1 : H l1 = some (.lst (p.1.map V.int))) (h2 : H l2 = some (.lst (p.2.map V.int))) : Dp K H (.ref t) (twoD p) :=
  .tup (SqT.of ht) (.cons (.lst (SqL.of h1) (dps_ints _)) (.cons (.lst (SqL.of h2) (dps_ints _)) .nil))
theorem okD_two {p : List Int × List Int} (h1 : p.1.length ≤ 10000) (h2 : p.2.length ≤ 10000) : okD 3 (twoD p) = true := by
  simp [twoD, okD, okDs, okD_ints, ints_len, h1, h2]
mutual
theorem ok_up : ∀ {n : Nat} {d : PyData}, okD n d = true → okD (n + 1) d = true
  | n, .none, _ => by simp [okD]
  | n, .bool _, _ => by simp [okD]
  | n, .int _, _ => by simp [okD]
  | n, .str z, h => by simpa [okD] using h
  | n, .dict _, h => by simp [okD] at h
  | 0, .list _, h => by simp [okD] at h
  | 0, .tuple _, h => by simp [okD] at h
  | n + 1, .list xs, h => by
    simp only [okD, Bool.and_eq_true] at h ⊢
    exact ⟨h.1, oks_up h.2⟩
  | n + 1, .tuple xs, h => by
    simp only [okD, Bool.and_eq_true] at h ⊢
    exact ⟨h.1, oks_up h.2⟩
theorem oks_up : ∀ {n : Nat} {ds : List PyData}, okDs n ds = true → okDs (n + 1) ds = true
  | n, [], _ => by simp [okDs]
  | n, x :: xs, h => by
    simp only [okDs, Bool.and_eq_true] at h ⊢
    exact ⟨ok_up h.1, oks_up h.2⟩
end
theorem del1_swap {H : Hp} {a b : Addr} (_ : a ≠ b) : del1 (del1 H b) a = del1 (del1 H a) b := by
  funext c
  unfold del1
  by_cases h1 : c = a
  · by_cases h2 : c = b <;> simp [h1, h2]
  · by_cases h2 : c = b <;> simp [h1, h2]
theorem runP_len {stp : Stp} {e : Int} : ∀ {l : List (List Int)} {fl : List Int}, (runP stp e fl l).length = l.length
  | [], _ => rfl
  | i :: r, fl => congrArg (· + 1) (runP_len (l := r))
theorem runP_all {stp : Stp} {e : Int} (h : ∀ e fl ins, (stp e fl ins).1.length ≤ 1000) : ∀ {l : List (List Int)} {fl : List Int}, ∀ o ∈ runP stp e fl l, o.length ≤ 1000
  | [], _, _, ho => by cases ho
  | i :: r, fl, o, ho => by
    rcases List.mem_cons.mp ho with rfl | ho
    · exact h _ _ _
    · exact runP_all h (l := r) o ho
section
variable {P : Program} {w : World} {K : PySem.W.Frag} {mg : Str → Option Value} {base : Heap}
/-! ### one level: what its defs promise -/
def spStep1 (K : PySem.W.Frag) (d : PyData) (inp : Int) (many : Nat) (stp : Stp) : Sp := fun vs H Q _ => ∃ (v vf vi : V) (L : Nat) (fl ins : List Int), vs = [v, .int L, vf, vi] ∧ Dp K H v d ∧ Nums K H vf fl ∧ Nums K H vi ins ∧ 1 ≤ L ∧ L ≤ 100 ∧ fl.length = many ∧ (ins.length : Int) = inp ∧ many ≤ 1000 ∧ inp ≤ 1000 ∧
  Lan (2 ^ L - 1) fl ∧ Lan (2 ^ L - 1) ins ∧ TwoL H (stp (2 ^ L - 1) fl ins).1 (stp (2 ^ L - 1) fl ins).2 Q
def spRun1 (K : PySem.W.Frag) (d : PyData) (inp : Int) (fst : List Int) (stp : Stp) : Sp := fun vs H Q _ => ∃ (v vc : V) (L : Nat) (cl : List (List Int)), vs = [v, .int L, vc] ∧ Dp K H v d ∧ 1 ≤ L ∧ L ≤ 100 ∧ Dp K H vc (llD cl) ∧ cl.length ≤ 1000 ∧ (∀ i ∈ cl, i.length ≤ 1000 ∧ (i.length : Int) = inp ∧ Lan (2 ^ L - 1) i) ∧
  ∀ (z : V) (H' : Hp), Same H H' → Dp K H' z (llD (runP stp (2 ^ L - 1) (allF (2 ^ L - 1) fst) cl)) → Q z H'
def spWalk1 (K : PySem.W.Frag) (d : PyData) (inp : Int) (many : Nat) (stp : Stp) : Sp := fun vs H Q _ => ∃ (v vf vi : V) (e : Int) (fl ins : List Int), vs = [v, vf, vi, .int e] ∧ Dp K H v d ∧ Nums K H vf fl ∧ Nums K H vi ins ∧ fl.length = many ∧ (ins.length : Int) = inp ∧ inp ≤ 1000 ∧
  TwoL H (stp e fl ins).1 (stp e fl ins).2 Q
theorem step_1 {C : Addr} {α : Type} {D : α → PyData} {sm : α → Prop} {ok : α → Bool} {inp : α → Int} {fst : α → List Int} {stp : α → Stp} (g : α) (hs : sm g) (ho : ok g = true) {vs : List V} {H : Hp} {Q : VK} {E : XK} (h : spStep1 K (D g) (inp g) (fst g).length (stp g) vs H Q E) : spStep K C D sm ok inp fst stp vs H Q E := by
  obtain ⟨v, vf, vi, L, fl, ins, rfl, hd, hf, hi, l1, l2, hl, hm, h1, h2, la, lb, k⟩ := h
  have ft : fits (inp g) (fst g) L fl ins = true := by
    unfold fits
    rw [decide_eq_true (p := (1 : Int) ≤ L) (by omega), Int.toNat_natCast, lan_all.mpr la, lan_all.mpr lb, decide_eq_true hl, decide_eq_true hm]
    rfl
  exact ⟨v, vf, vi, g, L, fl, ins, rfl, hd, hs, hf, hi, by omega, by omega, by omega, fun _ _ => k, fun no => by rw [ho, ft] at no; cases no⟩
theorem run_1 {α : Type} {D : α → PyData} {sm : α → Prop} {ok : α → Bool} {inp : α → Int} {fst : α → List Int} {stp : α → Stp} (g : α) (hs : sm g) (ho : ok g = true) (hf : (fst g).length ≤ 1000) (ha : allR 2 (fst g) = true) (so : ∀ L, StpOk L (fst g).length (stp g) (stp g))
    {vs : List V} {H : Hp} {Q : VK} {E : XK} (h : spRun1 K (D g) (inp g) (fst g) (stp g) vs H Q E) : spRun K D sm ok inp fst stp vs H Q E := by
  obtain ⟨v, vc, L, cl, rfl, hd, l1, l2, hc, lc, hcl, k⟩ := h
  exact ⟨v, vc, g, L, cl, rfl, hd, hs, ho, l1, l2, hf, ha, so L, hc, lc, fun i hi => ⟨(hcl i hi).1, (hcl i hi).2.1, lan_all.mpr (hcl i hi).2.2⟩, k⟩
theorem walk_1 {α : Type} {D : α → PyData} {sm okp : α → Prop} {inp : α → Int} {fst : α → List Int} {stp : α → Stp} (g : α) (hs : sm g) (ho : okp g) {vs : List V} {H : Hp} {Q : VK} {E : XK} (h : spWalk1 K (D g) (inp g) (fst g).length (stp g) vs H Q E) : spLStp K D sm okp inp fst stp vs H Q E := by
  obtain ⟨v, vf, vi, e, fl, ins, rfl, hd, hf, hi, hl, hm, h2, k⟩ := h
  exact ⟨v, vf, vi, g, e, fl, ins, rfl, hd, hs, ho, hf, hi, hl, hm, by omega, k⟩
/-! ### _law_run_right -/
/-- clocks drawn -/
def ClkP (K : PySem.W.Frag) (dk D : Addr) (H1 : Hp) (inp e : Int) (i : Nat) (H : Hp) : Prop := ∃ (cl : List (List Int)) (ys : List V), cl.length = i ∧ (∀ c ∈ cl, (c.length : Int) = inp ∧ Lan e c) ∧ But dk H1 H ∧ H D = some (.lst ys) ∧ DpAll K (del1 (del1 H dk) D) ys (cl.map fun o => .list (intsD o)) ∧ Deck H dk
def spRR (P : Program) (w : World) (K : PySem.W.Frag) (mg : Str → Option Value) (base : Heap) : Sp := fun vs H Q _ => ∃ (dk fr fs fw : Addr) (v : V) (inp : Int) (fst nxt out : List Int) (ds : List PyData) (stp stpL : Stp), vs = [.ref dk, v, .ref fr, .ref fs, .ref fw] ∧ Deck H dk ∧ Dp K (del1 H dk) v (lvD inp fst nxt ds out) ∧ 0 ≤ inp ∧ inp ≤ 1000 ∧ fst.length ≤ 1000 ∧ allR 2 fst = true ∧
  (∀ L, StpOk L fst.length stp stpL) ∧ (∀ e fl ins, (stpL e fl ins).1.length ≤ 1000 ∧ (stpL e fl ins).2.length = fst.length) ∧
  HeldX P w K mg base 5 fr (spRun1 K (lvD inp fst nxt ds out) inp fst stp) ∧ HeldX P w K mg base 5 fs (spStep1 K (lvD inp fst nxt ds out) inp fst.length stp) ∧ HeldX P w K mg base 5 fw (spWalk1 K (lvD inp fst nxt ds out) inp fst.length stpL) ∧
  ∀ H', But dk H H' → Deck H' dk → Q (.bl true) H'
theorem ok_rr {f : Addr} {fd : FuncData} (F : Fun K "_law_run_right" "_law_run_right" s__law_run_right f fd) (T : Txt K mg) (c__law_take : Cal P w K mg base 1 "_law_take" spTake []) (c__law_lanes : Cal P w K mg base 2 "_law_lanes" spLns []) (c__law_plain : Cal P w K mg base 5 "_law_plain" (spPlain K 5) []) :
    FnOk P w K mg base CX0 6 f fd ["deck", "level", "run", "step", "walk"] (spRR P w K mg base) := by
  refine F.ok sc__law_run_right (fun vs H Q E h => ?_) (fun cdv A outer s H vs Q E hr h => ?_)
  · obtain ⟨dk, fr, fs, fw, v, inp, fst, nxt, out, ds, stp, stpL, rfl, _⟩ := h
    rfl
  · obtain ⟨dk, fr, fs, fw, v, inp, fst, nxt, out, ds, stp, stpL, rfl, k0, hd, p0, p1, lf, af1, so, sl, c_run, c_step, c_walk, k⟩ := h
    obtain ⟨a, af, an, ag, ao, xg, ev, hx, hF, hN, hG, hGs, hO⟩ := lv_dp hd
    subst ev
    refine ⟨_, (pss_cons (ps_set (i := 5) sc__law_run_right.nd rfl (Or.inl rfl) (pe_op op_add pe_int (pe_c c__law_take hr (by omega) rfl (pa_cons (pv 0) (pa_cons pe_int pa_nil)))))
      (pss_cut (ps_set (i := 6) sc__law_run_right.nd rfl (Or.inr rfl) (pe_op op_sub (pe_op op_shl pe_int (pv 5)) pe_int))
      (pss_cons (ps_set (i := 7) sc__law_run_right.nd rfl (Or.inl rfl) (pe_c c__law_lanes hr (by omega) rfl (pa_cons (pv 0) (pa_cons (pe_callB call_len_seq (by rfl) T.b_len boot_len' (pa_cons (pe_ix ix_tup (pv 1) pe_int (fun _ _ => rfl)) pa_nil)) (pa_cons (pv 6) pa_nil)))))
      (pss_cons (ps_set (i := 8) sc__law_run_right.nd rfl (Or.inl rfl) (pe_c c__law_lanes hr (by omega) rfl (pa_cons (pv 0) (pa_cons (pe_ix ix_tup (pv 1) pe_int (fun _ _ => rfl)) (pa_cons (pv 6) pa_nil)))))
      (pss_cut (ps_set (i := 9) sc__law_run_right.nd rfl (Or.inl rfl) (pe_held (i := 4) c_walk hr (by omega) rfl (Or.inl rfl) (pa_cons (pv 1) (pa_cons (pv 7) (pa_cons (pv 8) (pa_cons (pv 6) pa_nil))))))
      (pss_cut (ps_if (pt_cmpR (op_neD hr.units) (pe_c c__law_plain hr (by omega) rfl (pa_cons (pe_held (i := 3) c_step hr (by omega) rfl (Or.inl rfl) (pa_cons (pv 1) (pa_cons (pv 5) (pa_cons (pv 7) (pa_cons (pv 8) pa_nil))))) pa_nil)) (pe_c c__law_plain hr (by omega) rfl (pa_cons (pv 9) pa_nil)) (nomark _)) (pss_one (ps_ret pe_bl)) pss_nil)
      (pss_cut (ps_setLc (i := 10) (own := [("turn", 13)]) rfl sc__law_run_right.nd rfl rfl (sw_true rfl rfl rfl (by decide +kernel)) (pi_range1 (by rfl) T.b_range (pa_cons (pe_c c__law_take hr (by omega) rfl (pa_cons (pv 0) (pa_cons pe_int pa_nil))) pa_nil)) (blkOk_by (own := [("turn", 13)]) (N := ["deck", "level", "run", "step", "walk", "lanes", "every", "flops", "inputs", "due", "clocks", "found", "outputs", "turn", "first"]) (sc := defScope s__law_run_right) (by decide +kernel)) (fun _ _ _ _ _ => (pg_name (i := 13) sc__law_run_right.nd rfl (Or.inl rfl))) (fun _ _ _ _ _ => pts_nil) (fun _ _ _ _ _ => (pe_c c__law_lanes hr (by omega) rfl (pa_cons (pv 0) (pa_cons (pe_ix (ix_tupK (K := K) rfl) (pv 1) pe_int (fun _ _ => rfl)) (pa_cons (pv 6) pa_nil))))))
      (pss_cons (ps_setLc (i := 7) (own := [("first", 14)]) rfl sc__law_run_right.nd rfl rfl (sw_true rfl rfl rfl (by decide +kernel)) (pi_list (pe_ix ix_tup (pv 1) pe_int (fun _ _ => rfl))) (blkOk_by (own := [("first", 14)]) (N := ["deck", "level", "run", "step", "walk", "lanes", "every", "flops", "inputs", "due", "clocks", "found", "outputs", "turn", "first"]) (sc := defScope s__law_run_right) (by decide +kernel)) (fun _ _ _ _ _ => (pg_name (i := 14) sc__law_run_right.nd rfl (Or.inl rfl))) (fun _ _ _ _ _ => pts_nil) (fun _ _ _ _ _ => (pe_op op_mul (pv 6) (pv 14))))
      (pss_cut (ps_set (i := 11) sc__law_run_right.nd rfl (Or.inl rfl) (pe_lst pa_nil))
      (pss_cons (ps_for PassesOwn.never rfl (pi_list (pv 10)) (pg_name (i := 8) sc__law_run_right.nd rfl (Or.inl rfl)) (pss_cons (ps_asg (pe_held (i := 4) c_walk hr (by omega) rfl (Or.inl rfl) (pa_cons (pv 1) (pa_cons (pv 7) (pa_cons (pv 8) (pa_cons (pv 6) pa_nil))))) (pg_tup rfl (pgs_cons (pg_name (i := 12) sc__law_run_right.nd rfl (Or.inl rfl)) (pgs_cons (pg_name (i := 7) sc__law_run_right.nd rfl (Or.inl rfl)) pgs_nil))))
      (pss_one (ps_expr (pe_bm PySem.F.plainAttrs_list PySem.F.slot_list_append PySem.F.type_list_append mt_append (pv 11) (pa_cons (pv 12) pa_nil))))))
      (pss_one (ps_ret (pe_cmpR (op_eqD hr.units) (pe_c c__law_plain hr (by omega) rfl (pa_cons (pe_held (i := 2) c_run hr (by omega) rfl (Or.inl rfl) (pa_cons (pv 1) (pa_cons (pv 5) (pa_cons (pv 10) pa_nil)))) pa_nil)) (pe_c c__law_plain hr (by omega) rfl (pa_cons (pv 11) pa_nil)) (nomark _)))))))))))))), ?_⟩
    refine ⟨_, rfl, dk, 9, rfl, by decide, k0, fun r H1 r0 r1 b1 k1 => ⟨_, _, rfl, rfl, ?_⟩⟩
    obtain ⟨L, eL⟩ := Int.eq_ofNat_of_zero_le (show 0 ≤ 1 + r by omega)
    have pw : (0 : Int) < 2 ^ L := Int.pow_pos (by decide)
    refine ⟨fun σ' H' => σ' = [some (.ref dk), some (.ref a), some (.ref fr), some (.ref fs), some (.ref fw), some (.int L), some (.int (2 ^ L - 1)), none, none, none, none, none, none, none, none] ∧ H' = H1, ⟨_, rfl, _, _, rfl, rfl, ⟨by omega, by omega, by decide⟩, _, _, rfl, rfl, ?_⟩, ?_⟩
    · show [some (V.ref dk), some (.ref a), some (.ref fr), some (.ref fs), some (.ref fw), some (.int (1 + r)), some (.int (1 * 2 ^ (1 + r).toNat - 1)), none, none, none, none, none, none, none, none] = _ ∧ _
      rw [eL, Int.one_mul, Int.toNat_natCast]
      exact ⟨rfl, rfl⟩
    rintro σ' H1' ⟨rfl, rfl⟩
    have up : ∀ {H' : Hp}, But dk H H' → Same (del1 H dk) H' := fun b => (del1_but b).trans del1_sub
    have e0 : (0 : Int) ≤ 2 ^ L - 1 := by omega
    have L1 : 1 ≤ L := by omega
    have L9 : L ≤ 100 := by omega
    -- flops, inputs
    refine ⟨_, rfl, _, rfl, a, _, 1, _, rfl, rfl, Same.tup (up b1) hx, atI_nat (j := 1) rfl, af, _, rfl, .inl ((up b1).seq hF), _, rfl, dk, _, _, rfl, by omega, by rw [List.length_map]; omega, e0, k1, fun pf fl H2 b2 k2 nf hf lfl laf => ?_⟩
    rw [List.length_map] at lfl
    have lfl : fl.length = fst.length := by omega
    refine ⟨_, rfl, _, rfl, a, _, 0, _, rfl, rfl, Same.tup (up (b1.trans b2)) hx, atI_nat (j := 0) rfl, _, rfl, dk, _, _, rfl, p0, p1, e0, k2, fun pi ins H3 b3 k3 ni hi lin lai => ?_⟩
    have b13 := (b1.trans b2).trans b3
    have hf3 := b3 _ _ (Deck.ne k1 nf) hf
    -- due
    refine ⟨fun σ' H' => ∃ td : Addr, σ' = [some (.ref dk), some (.ref a), some (.ref fr), some (.ref fs), some (.ref fw), some (.int L), some (.int (2 ^ L - 1)), some (.ref pf), some (.ref pi), some (.ref td), none, none, none, none, none] ∧ Same H3 H' ∧ Dp K H' (.ref td) (twoD (stpL (2 ^ L - 1) fl ins)), ⟨rfl, _, rfl, _, rfl, _, rfl, _, rfl, ?_⟩, ?_⟩
    · exact ⟨.ref a, .ref pf, .ref pi, _, fl, ins, rfl, dp_same (up b13) hd, ⟨pf, rfl, .inl (SqL.of hf3)⟩, ⟨pi, rfl, .inl (SqL.of hi)⟩, lfl, lin, p1, fun t l1 l2 H' s n1 n2 ht h1 h2 => ⟨t, rfl, s, two_dp ht h1 h2⟩⟩
    rintro σ' H4 ⟨td, rfl, s4, dd⟩
    have okW : okD 3 (twoD (stpL (2 ^ L - 1) fl ins)) = true := by
      have q := sl (2 ^ L - 1) fl ins
      exact okD_two (by omega) (by omega)
    -- step
    refine ⟨fun σ' H' => σ' = [some (.ref dk), some (.ref a), some (.ref fr), some (.ref fs), some (.ref fw), some (.int L), some (.int (2 ^ L - 1)), some (.ref pf), some (.ref pi), some (.ref td), none, none, none, none, none] ∧ Same H4 H', ?_, ?_⟩
    · refine ⟨rfl, _, rfl, _, rfl, _, rfl, _, rfl, .ref a, .ref pf, .ref pi, L, fl, ins, rfl, dp_same ((up b13).trans s4) hd, ⟨pf, rfl, .inl (SqL.of (s4 _ _ hf3))⟩, ⟨pi, rfl, .inl (SqL.of (s4 _ _ hi))⟩, L1, L9, lfl, lin, lf, p1, laf, lai, fun t l1 l2 H5 s5 n1 n2 ht h1 h2 => ?_⟩
      rw [(so L).eq fl ins laf lai] at h1 h2
      refine ⟨.ref t, twoD (stpL (2 ^ L - 1) fl ins), rfl, two_dp ht h1 h2, (ok_plainD (ok_up okW)).2.2, fun u1 G1 y1 e1 => ?_⟩
      refine ⟨_, rfl, .ref td, _, rfl, dp_same (s5.trans y1) dd, (ok_plainD (ok_up okW)).2.2, fun u2 G2 y2 e2 => ?_⟩
      exact ⟨_, _, dp_same y2 e1, e2, okp_shaped okW (by decide), okp_shaped okW (by decide), _, rfl, ifF (by rw [okp_eqv okW]; rfl) ⟨rfl, (s5.trans y1).trans y2⟩⟩
    rintro σ' H5 ⟨rfl, s5⟩
    have b15 := b13.trans (But.of (s4.trans s5))
    have k5 := k3.same (s4.trans s5)
    -- clocks
    refine ⟨fun σ' H' => ∃ (pc : Addr) (cl : List (List Int)), σ' = [some (.ref dk), some (.ref a), some (.ref fr), some (.ref fs), some (.ref fw), some (.int L), some (.int (2 ^ L - 1)), some (.ref pf), some (.ref pi), some (.ref td), some (.ref pc), none, none, none, none] ∧ But dk H H' ∧ Deck H' dk ∧ Dp K (del1 H' dk) (.ref pc) (llD cl) ∧ cl.length ≤ 4 ∧ ∀ c ∈ cl, (c.length : Int) = inp ∧ Lan (2 ^ L - 1) c, ?_, ?_⟩
    · refine ⟨_, rfl, dk, 5, rfl, by decide, k5, fun r5 H6 d0 d1 b6 k6 => ⟨_, rfl, by omega, by omega, fun D nD => ?_⟩⟩
      have neD : D ≠ dk := Deck.ne k6 nD
      refine lc_range (lo := 0) (n := r5.toNat) (ClkP K dk D H6 inp (2 ^ L - 1)) ⟨[], [], rfl, (fun _ h => by cases h), But.of (same_new nD), upd_same, .nil, k6.same (same_new nD)⟩ (fun j G hj p => ?_) ?_
      · obtain ⟨cl, ys, lc, hc, b, hD, hys, kG⟩ := p
        have yl : ys.length ≤ 4 := by rw [dps_len hys, List.length_map]; omega
        refine ⟨rfl, _, rfl, _, rfl, a, _, 0, _, rfl, rfl, Same.tup (up (b15.trans (b6.trans b))) hx, atI_nat (j := 0) rfl, _, rfl, dk, _, _, rfl, p0, p1, e0, kG, fun D2 ns G2 b2 k2 n2 h2 l2 la2 => ?_⟩
        have ne2 : D2 ≠ D := fun z => by rw [z, hD] at n2; cases n2
        have ne2k : D2 ≠ dk := Deck.ne kG n2
        refine ⟨ys, b2 _ _ neD hD, size_lt (by omega), cl ++ [ns], ys ++ [.ref D2], by rw [List.length_append, lc]; rfl, fun c hcm => ?_, but_mut (b.trans b2) nD, upd_same, ?_, deck_mut k2 neD⟩
        · rcases List.mem_append.mp hcm with hcm | hcm
          · exact hc c hcm
          · rw [List.mem_singleton.mp hcm]
            exact ⟨l2, la2⟩
        · rw [del1_swap neD, del1_upd, List.map_append, ← del1_swap neD]
          refine dps_snoc (dps_same (del1_same (del1_but b2)) hys) (.lst (SqL.of ?_) (dps_ints _))
          rw [del1_ne ne2, del1_ne ne2k]
          exact h2
      · rintro G ⟨cl, ys, lc, hc, b, hD, hys, kG⟩
        exact ⟨D, cl, rfl, b15.trans (b6.trans b), kG, .lst (SqL.of (by rw [del1_ne neD]; exact hD)) (dps_same del1_sub hys), by omega, hc⟩
    rintro σ' H6 ⟨pc, cl, rfl, b16, k6, dc, lcl, hcl⟩
    have dc6 := dp_same del1_sub dc
    have s6 := up b16
    -- flops
    refine ⟨_, rfl, a, _, 1, _, rfl, rfl, Same.tup s6 hx, atI_nat (j := 1) rfl, af, rfl, ⟨_, s6.seq hF⟩, fun D hD => ?_⟩
    refine lc_data (K := K) (a := af) (xs := fst.map V.int) (ds := intsD fst) (fun _ => true) (allE (2 ^ L - 1)) (s6.seq hF) (dps_ints _) hD (by rw [ints_len]; omega) ?_ ?_
    · intro v d G acc R dm hv sG hG hacc _ hyes
      obtain ⟨i, hi, rfl⟩ := List.mem_map.mp dm
      cases dp_int hv
      have q := allR_iff.mp af1 i hi
      refine ⟨rfl, _, rfl, _, rfl, _, _, rfl, rfl, .inr ⟨by omega, by omega⟩, acc, upd_same, hacc, ?_⟩
      rw [upd_app]
      exact hyes rfl G _ (Same.refl _) hG (.int _)
    intro G ys sG hG hys
    rw [allE_map] at hys
    cases dps_ints_of hys
    have s7 := sG.trans (same_new (o := HO.lst ((allF (2 ^ L - 1) fst).map V.int)) hG)
    have hf7 := upd_same (H := G) (a := D) (o := .lst ((allF (2 ^ L - 1) fst).map V.int))
    generalize upd G D (.lst ((allF (2 ^ L - 1) fst).map V.int)) = H7 at s7 hf7
    -- found
    refine ⟨fun σ' H' => ∃ pd : Addr, σ' = [some (.ref dk), some (.ref a), some (.ref fr), some (.ref fs), some (.ref fw), some (.int L), some (.int (2 ^ L - 1)), some (.ref D), some (.ref pi), some (.ref td), some (.ref pc), some (.ref pd), none, none, none] ∧ H7 pd = none ∧ H' = upd H7 pd (.lst []), ⟨by decide, fun pd npd => ⟨pd, rfl, npd, rfl⟩⟩, ?_⟩
    rintro σ' H7' ⟨pd, rfl, npd, rfl⟩
    have fl0 : Lan (2 ^ L - 1) (allF (2 ^ L - 1) fst) := allF_lan e0 af1
    have sb := stp_swap (so L) fun e fl ins => (sl e fl ins).2
    have dc7 := dp_same s7 dc6
    obtain ⟨ac, xc, e, hC, hCs⟩ := dp_lst dc7
    cases e
    refine ⟨_, rfl, pc, rfl, ⟨_, (same_new npd).seq hC⟩, for_list (K := K) (a := pc) (xs := xc) (fun i σ H' => ∃ (pf : Addr) (ys : List V) (o8 o12 : Option V), σ = [some (.ref dk), some (.ref a), some (.ref fr), some (.ref fs), some (.ref fw), some (.int L), some (.int (2 ^ L - 1)), some (.ref pf), o8, some (.ref td), some (.ref pc), some (.ref pd), o12, none, none] ∧
      Same H7 (del1 H' pd) ∧ del1 H' pd pf = some (.lst ((flP stpL (2 ^ L - 1) (allF (2 ^ L - 1) fst) (cl.take i)).map V.int)) ∧ H' pd = some (.lst ys) ∧ DpAll K (del1 H' pd) ys ((runP stpL (2 ^ L - 1) (allF (2 ^ L - 1) fst) (cl.take i)).map fun o => .list (intsD o)))
      ⟨D, [], _, _, rfl, ?_, ?_, upd_same, .nil⟩ ?_ ?_ ?_⟩
    · rw [del1_upd, del1_none npd]
      exact Same.refl _
    · rw [del1_upd, del1_none npd]
      exact hf7
    · rintro i σ H' _ ⟨_, _, _, _, _, Hs, _⟩
      exact (Hs.trans del1_sub).seq hC
    · rintro i x σ H' hi ⟨pf, ys, o6, o7, rfl, Hs, hpf, hpd, hys⟩
      obtain ⟨d, hdi, dx⟩ := dps_getv hCs hi
      rw [List.getElem?_map] at hdi
      obtain ⟨ins, hins, rfl⟩ := Option.map_eq_some_iff.mp hdi
      have mem := List.mem_of_getElem? hins
      obtain ⟨lj, ri⟩ := hcl ins mem
      obtain ⟨q1, q2⟩ := flP_ok sb (l := cl.take i) fl0 (List.length_map ..) fun j hj => (hcl j (List.mem_of_mem_take hj)).2
      have rs := runP_snoc (stp := stpL) (e := 2 ^ L - 1) (i := ins) (l := cl.take i) (fl := allF (2 ^ L - 1) fst)
      have fs := flP_snoc (stp := stpL) (e := 2 ^ L - 1) (i := ins) (l := cl.take i) (fl := allF (2 ^ L - 1) fst)
      rw [← take_snoc hins] at rs fs
      generalize flP stpL (2 ^ L - 1) (allF (2 ^ L - 1) fst) (cl.take i) = fl at hpf q1 q2 rs fs
      have Hs' := Hs.trans (del1_sub (H := H') (a := pd))
      have hpf' := del1_sub _ _ hpf
      obtain ⟨ai, xi, rfl, hai, hais⟩ := dp_lst (dp_same Hs' dx)
      cases dps_ints_of hais
      have yl : ys.length ≤ 4 := by
        rw [dps_len hys, List.length_map, runP_len, List.length_take]
        omega
      refine ⟨rfl, _, rfl, _, rfl, _, rfl, _, rfl, .ref a, .ref pf, .ref ai, _, fl, ins, rfl, dp_same ((s6.trans s7).trans Hs') hd, ⟨pf, rfl, .inl (SqL.of hpf')⟩, ⟨ai, rfl, .inl hai⟩, q2, lj, p1, fun t l1 l2 H6 s6 n1 n2 ht h1 h2 => ?_⟩
      have hpd6 := s6 _ _ hpd
      have ne1 : l1 ≠ pd := fun z => by rw [z, hpd] at n1; cases n1
      have ne2 : l2 ≠ pd := fun z => by rw [z, hpd] at n2; cases n2
      refine ⟨t, _, rfl, SqT.of ht, rfl, _, _, rfl, _, _, rfl, rfl, _, rfl, .inl ⟨rfl, _, SqL.of hpd6⟩, _, rfl, _, _, _, rfl, rfl, hpd6, size_lt (by omega), l2, ys ++ [.ref l1], _, _, rfl, ?_, ?_, upd_same, ?_⟩
      · rw [del1_upd]
        exact Hs.trans (del1_same s6)
      · rw [del1_upd, del1_ne ne2, fs]
        exact h2
      · rw [del1_upd, rs, List.map_append]
        exact dps_snoc (dps_same (del1_same s6) hys) (.lst (SqL.of (by rw [del1_ne ne1]; exact h1)) (dps_ints _))
    · rintro σ H' ⟨pf, ys, o6, o7, rfl, Hs, hpf, hpd, hys⟩
      rw [dps_len hCs, List.length_map, List.take_length] at hys
      have Hs' := Hs.trans (del1_sub (H := H') (a := pd))
      have okR : okD 3 (llD (runP stpL (2 ^ L - 1) (allF (2 ^ L - 1) fst) cl)) = true := okD_ll (by rw [runP_len]; omega) fun o ho => by
        have := runP_all (fun e fl ins => (sl e fl ins).1) o ho
        omega
      have er := run_ok (so L) fl0 fun i hi => (hcl i hi).2
      refine ⟨rfl, _, rfl, _, rfl, _, rfl, .ref a, .ref pc, L, cl, rfl, dp_same ((s6.trans s7).trans Hs') hd, L1, L9, dp_same Hs' dc7, by omega, fun i hi => ⟨by have := (hcl i hi).1; omega, (hcl i hi).1, (hcl i hi).2⟩, fun z G1 y1 dz => ?_⟩
      rw [er] at dz
      refine ⟨z, _, rfl, dz, (ok_plainD (ok_up okR)).2.2, fun u1 G2 y2 e1 => ?_⟩
      refine ⟨_, rfl, .ref pd, llD (runP stpL (2 ^ L - 1) (allF (2 ^ L - 1) fst) cl), rfl, dp_same (y1.trans y2) (.lst (SqL.of hpd) (dps_same del1_sub hys)), (ok_plainD (ok_up okR)).2.2, fun u2 G3 y3 e2 => ?_⟩
      refine ⟨_, _, dp_same y3 e1, e2, okp_shaped okR (by decide), okp_shaped okR (by decide), ?_⟩
      rw [okp_eqv okR]
      have S := ((s7.trans Hs').trans y1).trans (y2.trans y3)
      exact k _ (b16.trans (But.of S)) (k6.same S)
end
end Q80



set_option pp.maxSteps 1500
namespace Q80
open PySem L2 G M80
open C8 (Cal Met Mak pe_c pe_mk pe_mt pe_mt0 pe_gc pss_cut tCut)
theorem exm_not {K : PySem.W.Frag} {C D : Addr} (he : PySem.W.subIn K (.ref D) (.type "BaseException") = some true) (hd : PySem.W.hasDictIn K D = true) (ht : PySem.W.typeIn K (.ref D) = some (.type "type")) (h : PySem.W.subIn K (.ref C) (.ref D) = some false) : PySem.W.exmOne K (.ref C) (.ref D) = some false := by
  obtain ⟨cd, hc, _⟩ := PySem.W.any_some hd
  unfold PySem.W.exmOne
  rw [he, if_pos (by decide)]
  unfold PySem.W.kitCls
  simp [hc, ht, h]
theorem op_inTK {X : Cx} {K : PySem.W.Frag} (h : X.K = K) (hu : X.A.units + 65 < cLine) : OpR X (compareOp .In) (rInT K) := h ▸ op_inT hu
section
variable {P : Program} {w : World} {K : PySem.W.Frag} {mg : Str → Option Value} {base : Heap}
/-! ### _law_refusal -/
inductive Bad (K : PySem.W.Frag) (H : Hp) (v vL vf vi : V) : Int → Prop
  | stepG (g : Gr) (L : Int) (fl ins : List Int) : vL = .int L → Dp K H v (grD g) → SmG g → Nums K H vf fl → Nums K H vi ins → fl.length ≤ 1000 → ins.length ≤ 1000 → L ≤ 100 → (okGr g && fits g.inp g.fst L fl ins) = false → Bad K H v vL vf vi 0
  | stepT (g : Tb) (L : Int) (fl ins : List Int) : vL = .int L → Dp K H v (tbD g) → SmT g → Nums K H vf fl → Nums K H vi ins → fl.length ≤ 1000 → ins.length ≤ 1000 → L ≤ 100 → (okTb g && fits g.inp g.fst L fl ins) = false → Bad K H v vL vf vi 1
  | chkG (g : Gr) : Dp K H v (grD g) → SmG g → okGr g = false → Bad K H v vL vf vi 2
  | chkT (g : Tb) : Dp K H v (tbD g) → SmT g → okTb g = false → Bad K H v vL vf vi 3
def spRef (K : PySem.W.Frag) : Sp := fun vs H Q _ => ∃ (ask : Int) (v vL vf vi : V), vs = [.int ask, v, vL, vf, vi] ∧ Bad K H v vL vf vi ask ∧ ∀ H', Same H H' → Q (.str "form") H'
theorem ok_ref {CG CT : Addr} {f : Addr} {fd : FuncData} (F : Fun K "_law_refusal" "_law_refusal" s__law_refusal f fd) (T : Txt K mg) (R_InvalidGraph : ErrT K mg "InvalidGraph" CG "what") (R_InvalidTables : ErrT K mg "InvalidTables" CT "what") (hTG : PySem.W.exmOne K (.ref CT) (.ref CG) = some false)
    (c_step_graph : CalX P w K mg base 5 "step_graph" (spStep K CG grD SmG okGr Gr.inp Gr.fst gstep)) (c_step_tables : CalX P w K mg base 5 "step_tables" (spStep K CT tbD SmT okTb Tb.inp Tb.fst tstep)) (c_check_graph : CalX P w K mg base 4 "check_graph" (spChkG K CG)) (c_check_tables : CalX P w K mg base 4 "check_tables" (spChkT K CT)) :
    FnOk P w K mg base CX0 6 f fd ["ask", "level", "lanes", "flops", "inputs"] (spRef K) := by
  refine F.ok sc__law_refusal (fun vs H Q E h => ?_) (fun cdv A outer s H vs Q E hr h => ?_)
  · obtain ⟨ask, v, vL, vf, vi, rfl, _⟩ := h
    rfl
  · obtain ⟨ask, v, vL, vf, vi, rfl, hb, k⟩ := h
    have hu65 := hu65_of hr
    refine ⟨_, (pss_cons (ps_try_manyAs rfl rfl sc__law_refusal.nd takes0 (fun W pn xe tk po => (pss_one (ps_if (pt_cmpR op_eq (pv 0) pe_int (nomark _)) (pss_one (ps_expr (pe_cx c_step_graph hr (by omega) rfl tk (pa_cons (pv 1) (pa_cons (pv 2) (pa_cons (pv 3) (pa_cons (pv 4) pa_nil))))))) (pss_one (ps_if (pt_cmpR op_eq (pv 0) pe_int (nomark _)) (pss_one (ps_expr (pe_cx c_step_tables hr (by omega) rfl tk (pa_cons (pv 1) (pa_cons (pv 2) (pa_cons (pv 3) (pa_cons (pv 4) pa_nil))))))) (pss_one (ps_if (pt_cmpR op_eq (pv 0) pe_int (nomark _)) (pss_one (ps_expr (pe_cx c_check_graph hr (by omega) rfl tk (pa_cons (pv 1) pa_nil)))) (pss_one (ps_expr (pe_cx c_check_tables hr (by omega) rfl tk (pa_cons (pv 1) pa_nil))))))))))) (HdsAs.cons (i := 5) rfl rfl ⟨rfl, by decide, .inl R_InvalidGraph.gC⟩ (fun a oe cls d pn hz hf => (pss_one (ps_ret (pe_ifExp (pt_cmpR (op_inTK (K := K) rfl hu65) (pv 0) (pe_tup (pa_cons pe_int (pa_cons pe_int pa_nil))) rfl) (pe_xf R_InvalidGraph.xf R_InvalidGraph.no hz hf (pv 5)) pe_non)))) (HdsAs.cons (i := 5) rfl rfl ⟨rfl, by decide, .inl R_InvalidTables.gC⟩ (fun a oe cls d pn hz hf => (pss_one (ps_ret (pe_ifExp (pt_cmpR (op_inTK (K := K) rfl hu65) (pv 0) (pe_tup (pa_cons pe_int (pa_cons pe_int pa_nil))) rfl) (pe_xf R_InvalidTables.xf R_InvalidTables.no hz hf (pv 5)) pe_non)))) HdsAs.nil)))
      (pss_one (ps_ret pe_non))), ?_⟩
    cases hb with
    | stepG g L fl ins e hd hs hf hi l1 l2 hL no =>
      subst e
      refine ⟨_, rfl, rfl, _, rfl, ifT (by decide) ?_⟩
      exact ⟨_, rfl, _, rfl, _, rfl, _, rfl, v, vf, vi, g, L, fl, ins, rfl, hd, hs, hf, hi, l1, l2, hL, (fun o f => by rw [o, f] at no; cases no), fun _ H' dd s1 hx => ⟨true, R_InvalidGraph.te, fun _ a ha => ⟨_, rfl, (show 2 ≤ sizeLine by decide), fun p np => ⟨.int 0, [.int 0, .int 2], .int _, .tup (SqT.of upd_same) (dps_ints [0, 2]), rfl, (by decide +kernel), _, rfl, ifT (by decide +kernel) ⟨_, rfl, rfl, rfl, dd, _, _, rfl, (same_new np) _ _ hx, rfl, k _ (s1.trans (same_new np))⟩⟩⟩, fun q => Bool.noConfusion q⟩⟩
    | stepT g L fl ins e hd hs hf hi l1 l2 hL no =>
      subst e
      refine ⟨_, rfl, rfl, _, rfl, ifF (by decide) ?_⟩
      refine ⟨_, rfl, rfl, _, rfl, ifT (by decide) ?_⟩
      exact ⟨_, rfl, _, rfl, _, rfl, _, rfl, v, vf, vi, g, L, fl, ins, rfl, hd, hs, hf, hi, l1, l2, hL, (fun o f => by rw [o, f] at no; cases no), fun _ H' dd s1 hx => ⟨false, hTG, fun q => Bool.noConfusion q, fun _ => ⟨true, R_InvalidTables.te, fun _ a ha => ⟨_, rfl, (show 2 ≤ sizeLine by decide), fun p np => ⟨.int 1, [.int 1, .int 3], .int _, .tup (SqT.of upd_same) (dps_ints [1, 3]), rfl, (by decide +kernel), _, rfl, ifT (by decide +kernel) ⟨_, rfl, rfl, rfl, dd, _, _, rfl, (same_new np) _ _ hx, rfl, k _ (s1.trans (same_new np))⟩⟩⟩, fun q => Bool.noConfusion q⟩⟩⟩
    | chkG g hd hs no =>
      refine ⟨_, rfl, rfl, _, rfl, ifF (by decide) ?_⟩
      refine ⟨_, rfl, rfl, _, rfl, ifF (by decide) ?_⟩
      refine ⟨_, rfl, rfl, _, rfl, ifT (by decide) ?_⟩
      exact ⟨_, rfl, v, g, rfl, hd, hs, (fun o => by rw [o] at no; cases no), fun _ H' dd s1 hx => ⟨true, R_InvalidGraph.te, fun _ a ha => ⟨_, rfl, (show 2 ≤ sizeLine by decide), fun p np => ⟨.int 2, [.int 0, .int 2], .int _, .tup (SqT.of upd_same) (dps_ints [0, 2]), rfl, (by decide +kernel), _, rfl, ifT (by decide +kernel) ⟨_, rfl, rfl, rfl, dd, _, _, rfl, (same_new np) _ _ hx, rfl, k _ (s1.trans (same_new np))⟩⟩⟩, fun q => Bool.noConfusion q⟩⟩
    | chkT g hd hs no =>
      refine ⟨_, rfl, rfl, _, rfl, ifF (by decide) ?_⟩
      refine ⟨_, rfl, rfl, _, rfl, ifF (by decide) ?_⟩
      refine ⟨_, rfl, rfl, _, rfl, ifF (by decide) ?_⟩
      exact ⟨_, rfl, v, g, rfl, hd, hs, (fun o => by rw [o] at no; cases no), fun _ H' dd s1 hx => ⟨false, hTG, fun q => Bool.noConfusion q, fun _ => ⟨true, R_InvalidTables.te, fun _ a ha => ⟨_, rfl, (show 2 ≤ sizeLine by decide), fun p np => ⟨.int 3, [.int 1, .int 3], .int _, .tup (SqT.of upd_same) (dps_ints [1, 3]), rfl, (by decide +kernel), _, rfl, ifT (by decide +kernel) ⟨_, rfl, rfl, rfl, dd, _, _, rfl, (same_new np) _ _ hx, rfl, k _ (s1.trans (same_new np))⟩⟩⟩, fun q => Bool.noConfusion q⟩⟩⟩
end
end Q80



set_option pp.maxSteps 1500
namespace Q80
open PySem L2 G M80
open C8 (Cal Met Mak pe_c pe_mk pe_mt pe_mt0 pe_gc pss_cut tCut)
/-! ### data that an expression makes -/
def Mk (K : PySem.W.Frag) (dk : Addr) (H0 : Hp) (σ : L2.St) (t : TE) (d : PyData) : Prop := ∀ H, Same H0 H → Deck H dk → ∀ Q : VK, (∀ v H', Same H H' → Dp K (del1 H' dk) v d → Q v H') → t σ H Q
def MkA (K : PySem.W.Frag) (dk : Addr) (H0 : Hp) (σ : L2.St) (t : TA) (ds : List PyData) : Prop := ∀ H, Same H0 H → Deck H dk → ∀ Q : List V → Hp → Prop, (∀ vs H', Same H H' → DpAll K (del1 H' dk) vs ds → Q vs H') → t σ H Q
section
variable {K : PySem.W.Frag} {dk : Addr} {H0 : Hp} {σ : L2.St} {t : TE} {ts : TA} {d : PyData} {ds : List PyData}
theorem mk_int {i : Int} : Mk K dk H0 σ (tC (.int i)) (.int i) := fun H _ _ Q k => k _ _ (Same.refl _) (.int i)
theorem mk_var {i : Nat} {v : V} (h : Dp K (del1 H0 dk) v d) (e : σ[i]? = some (some v)) : Mk K dk H0 σ (tVar i) d := fun H s _ Q k => ⟨v, e, k v H (Same.refl _) (dp_same (del1_same s) h)⟩
theorem mk_nil : MkA K dk H0 σ tNil [] := fun H _ _ Q k => k _ _ (Same.refl _) .nil
theorem mk_cons (h : Mk K dk H0 σ t d) (r : MkA K dk H0 σ ts ds) : MkA K dk H0 σ (tCons t ts) (d :: ds) := fun H s z Q k => h H s z _ fun v H1 s1 d1 => r H1 (s.trans s1) (z.same s1) _ fun vs H2 s2 d2 => k _ _ (s1.trans s2) (.cons (dp_same (del1_same s2) d1) d2)
theorem mk_tup (r : MkA K dk H0 σ ts ds) (l : ds.length ≤ 1000) : Mk K dk H0 σ (tTup ts) (.tuple ds) := fun H s z Q k => r H s z _ fun vs H1 s1 d1 => ⟨size_of (by rw [dps_len d1]; omega), fun p n => k _ _ (s1.trans (same_new n)) (.tup (SqT.of (by rw [del1_ne (Deck.ne (z.same s1) n)]; exact upd_same)) (dps_same (del1_same (same_new n)) d1))⟩
theorem mk_lst (r : MkA K dk H0 σ ts ds) (l : ds.length ≤ 1000) : Mk K dk H0 σ (tLst ts) (.list ds) := fun H s z Q k => r H s z _ fun vs H1 s1 d1 => ⟨size_of (by rw [dps_len d1]; omega), fun p n => k _ _ (s1.trans (same_new n)) (.lst (SqL.of (by rw [del1_ne (Deck.ne (z.same s1) n)]; exact upd_same)) (dps_same (del1_same (same_new n)) d1))⟩
/-- a new list that is known -/
theorem mk_new (r : MkA K dk H0 σ ts ds) (z : Deck H0 dk) (l : ds.length ≤ 1000) {Q : VK} (k : ∀ p xs H', Same H0 H' → p ≠ dk → H' p = some (.lst xs) → DpAll K (del1 H' dk) xs ds → Q (.ref p) H') : tLst ts σ H0 Q :=
  r H0 (Same.refl _) z _ fun vs H1 s1 d1 => ⟨size_of (by rw [dps_len d1]; omega), fun p n => k _ _ _ (s1.trans (same_new n)) (Deck.ne (z.same s1) n) upd_same (dps_same (del1_same (same_new n)) d1)⟩
theorem mk_add {i : Nat} {p : Addr} {xs : List V} {es : List PyData} (e : σ[i]? = some (some (.ref p))) (hp : H0 p = some (.lst xs)) (hx : DpAll K (del1 H0 dk) xs es) (r : MkA K dk H0 σ ts ds) (z : Deck H0 dk) (l : es.length + ds.length ≤ 1000) {Q : VK} (k : ∀ p xs H', Same H0 H' → p ≠ dk → H' p = some (.lst xs) → DpAll K (del1 H' dk) xs (es ++ ds) → Q (.ref p) H') :
    tOp rCat (tVar i) (tLst ts) σ H0 Q :=
  ⟨_, e, mk_new r z (by omega) fun q ys H1 s1 _ h1 d1 => ⟨p, q, xs, ys, rfl, rfl, s1 _ _ hp, h1, size_of (by rw [dps_len hx, dps_len d1]; omega), fun u n => k _ _ _ (s1.trans (same_new n)) (Deck.ne (z.same s1) n) upd_same (dps_app (dps_same (del1_same (s1.trans (same_new n))) hx) (dps_same (del1_same (same_new n)) d1))⟩⟩
end
/-! ### the rows -/
def bd (ask : Int) (lv : PyData) (L : Int) (f i : PyData) : PyData := .tuple [.int ask, lv, .int L, f, i]
def li (l : List Int) : PyData := .list (intsD l)
def gA : Gr := ⟨1, [0], [2], [(2, 4)], [6]⟩
def tA : Tb := ⟨1, [0], [1], [⟨1, 2, 0, 136⟩], [3]⟩
def rws1 : List PyData := [bd 0 (grD gA) 1 (li [2]) (li [0]), bd 0 (grD gA) 0 (li [0]) (li [0]), bd 0 (grD gA) 1 (li []) (li [0]), bd 1 (tbD tA) 1 (li [0]) (li [0, 0])]
def rws2 : List PyData := [bd 1 (tbD tA) 2 (li [0]) (li [4]), bd 2 (grD ⟨1, [0], [2], [(4, 2)], [6]⟩) 0 (.int 0) (.int 0)]
def rws3 : List PyData := [bd 2 (grD ⟨1, [0], [2], [(2, 6)], [6]⟩) 0 (.int 0) (.int 0), bd 2 (grD ⟨1, [2], [2], [], []⟩) 0 (.int 0) (.int 0)]
def rws4 : List PyData := [bd 2 (grD ⟨1, [0], [], [], []⟩) 0 (.int 0) (.int 0), bd 3 (tbD ⟨1, [0], [9], [], []⟩) 0 (.int 0) (.int 0)]
def rws5 : List PyData := [bd 3 (tbD ⟨2, [], [], [⟨2, 1, 0, 136⟩], []⟩) 0 (.int 0) (.int 0), bd 3 (tbD ⟨2, [], [], [⟨1, 0, 0, 136⟩], []⟩) 0 (.int 0) (.int 0)]
def rws6 : List PyData := [bd 3 (tbD ⟨2, [], [], [⟨0, 1, 0, 170⟩], []⟩) 0 (.int 0) (.int 0), bd 3 (tbD ⟨2, [], [], [⟨1, 1, 0, 136⟩], []⟩) 0 (.int 0) (.int 0)]
def rwsA : List PyData := rws1 ++ rws2 ++ rws3 ++ rws4 ++ rws5 ++ rws6
def BadD (K : PySem.W.Frag) (d : PyData) : Prop := ∃ (ask : Int) (lv dL df di : PyData), d = .tuple [.int ask, lv, dL, df, di] ∧ ∀ (H : Hp) (v vL vf vi : V), Dp K H v lv → Dp K H vL dL → Dp K H vf df → Dp K H vi di → Bad K H v vL vf vi ask
theorem nums_dp {K : PySem.W.Frag} {H : Hp} {v : V} {l : List Int} (h : Dp K H v (li l)) : Nums K H v l := by
  obtain ⟨a, xs, rfl, ha, hx⟩ := dp_lst h
  cases dps_ints_of hx
  exact ⟨a, rfl, .inl ha⟩
theorem bad_sG {K : PySem.W.Frag} (g : Gr) (L : Int) (fl ins : List Int) (hs : SmG g) (l1 : fl.length ≤ 1000) (l2 : ins.length ≤ 1000) (hL : L ≤ 100) (no : (okGr g && fits g.inp g.fst L fl ins) = false) : BadD K (bd 0 (grD g) L (li fl) (li ins)) :=
  ⟨0, _, _, _, _, rfl, fun _ _ _ _ _ hv hL' hf hi => .stepG g L fl ins (dp_int hL') hv hs (nums_dp hf) (nums_dp hi) l1 l2 hL no⟩
theorem bad_sT {K : PySem.W.Frag} (g : Tb) (L : Int) (fl ins : List Int) (hs : SmT g) (l1 : fl.length ≤ 1000) (l2 : ins.length ≤ 1000) (hL : L ≤ 100) (no : (okTb g && fits g.inp g.fst L fl ins) = false) : BadD K (bd 1 (tbD g) L (li fl) (li ins)) :=
  ⟨1, _, _, _, _, rfl, fun _ _ _ _ _ hv hL' hf hi => .stepT g L fl ins (dp_int hL') hv hs (nums_dp hf) (nums_dp hi) l1 l2 hL no⟩
theorem bad_cG {K : PySem.W.Frag} (g : Gr) (hs : SmG g) (no : okGr g = false) : BadD K (bd 2 (grD g) 0 (.int 0) (.int 0)) := ⟨2, _, _, _, _, rfl, fun _ _ _ _ _ hv _ _ _ => .chkG g hv hs no⟩
theorem bad_cT {K : PySem.W.Frag} (g : Tb) (hs : SmT g) (no : okTb g = false) : BadD K (bd 3 (tbD g) 0 (.int 0) (.int 0)) := ⟨3, _, _, _, _, rfl, fun _ _ _ _ _ hv _ _ _ => .chkT g hv hs no⟩
theorem sm4 {a b c d : Nat} (h : (decide (a ≤ 1000) && decide (b ≤ 1000) && decide (c ≤ 1000) && decide (d ≤ 1000)) = true) : a ≤ 1000 ∧ b ≤ 1000 ∧ c ≤ 1000 ∧ d ≤ 1000 := by
  simp only [Bool.and_eq_true, decide_eq_true_eq] at h
  exact ⟨h.1.1.1, h.1.1.2, h.1.2, h.2⟩
theorem rws_bad {K : PySem.W.Frag} : ∀ d ∈ rwsA, BadD K d := by
  intro d hd
  simp only [rwsA, rws1, rws2, rws3, rws4, rws5, rws6, List.cons_append, List.nil_append, List.mem_cons, List.not_mem_nil, or_false] at hd
  rcases hd with rfl | rfl | rfl | rfl | rfl | rfl | rfl | rfl | rfl | rfl | rfl | rfl | rfl | rfl
  · exact bad_sG _ _ _ _ (sm4 rfl) (by decide) (by decide) (by decide) (by decide +kernel)
  · exact bad_sG _ _ _ _ (sm4 rfl) (by decide) (by decide) (by decide) (by decide +kernel)
  · exact bad_sG _ _ _ _ (sm4 rfl) (by decide) (by decide) (by decide) (by decide +kernel)
  · exact bad_sT _ _ _ _ (sm4 rfl) (by decide) (by decide) (by decide) (by decide +kernel)
  · exact bad_sT _ _ _ _ (sm4 rfl) (by decide) (by decide) (by decide) (by decide +kernel)
  · exact bad_cG _ (sm4 rfl) (by decide +kernel)
  · exact bad_cG _ (sm4 rfl) (by decide +kernel)
  · exact bad_cG _ (sm4 rfl) (by decide +kernel)
  · exact bad_cG _ (sm4 rfl) (by decide +kernel)
  · exact bad_cT _ (sm4 rfl) (by decide +kernel)
  · exact bad_cT _ (sm4 rfl) (by decide +kernel)
  · exact bad_cT _ (sm4 rfl) (by decide +kernel)
  · exact bad_cT _ (sm4 rfl) (by decide +kernel)
  · exact bad_cT _ (sm4 rfl) (by decide +kernel)
section
variable {P : Program} {w : World} {K : PySem.W.Frag} {mg : Str → Option Value} {base : Heap}
/-! ### _law_refused -/
def spRfd : Sp := fun vs H Q _ => ∃ dk : Addr, vs = [.ref dk] ∧ Deck H dk ∧ ∀ H', Q (.bl true) H'
theorem ok_rfd {f : Addr} {fd : FuncData} (F : Fun K "_law_refused" "_law_refused" s__law_refused f fd) (T : Txt K mg) (c__law_take : Cal P w K mg base 1 "_law_take" spTake []) (c__law_refusal : Cal P w K mg base 6 "_law_refusal" (spRef K) []) :
    FnOk P w K mg base CX0 7 f fd ["deck"] spRfd := by
  refine F.ok sc__law_refused (fun vs H Q E h => ?_) (fun cdv A outer s H vs Q E hr h => ?_)
  · obtain ⟨dk, rfl, _⟩ := h
    rfl
  · obtain ⟨dk, rfl, k0, k⟩ := h
    have hu := hu_of hr
    refine ⟨_, (pss_cut (ps_set (i := 1) sc__law_refused.nd rfl (Or.inl rfl) (pe_tup (pa_cons pe_int (pa_cons (pe_lst (pa_cons pe_int pa_nil)) (pa_cons (pe_lst (pa_cons pe_int pa_nil)) (pa_cons (pe_lst (pa_cons (pe_tup (pa_cons pe_int (pa_cons pe_int pa_nil))) pa_nil)) (pa_cons (pe_lst (pa_cons pe_int pa_nil)) pa_nil)))))))
      (pss_cut (ps_set (i := 2) sc__law_refused.nd rfl (Or.inl rfl) (pe_tup (pa_cons pe_int (pa_cons (pe_lst (pa_cons pe_int pa_nil)) (pa_cons (pe_lst (pa_cons pe_int pa_nil)) (pa_cons (pe_lst (pa_cons (pe_tup (pa_cons pe_int (pa_cons pe_int (pa_cons pe_int (pa_cons pe_int pa_nil))))) pa_nil)) (pa_cons (pe_lst (pa_cons pe_int pa_nil)) pa_nil)))))))
      (pss_cut (ps_set (i := 3) sc__law_refused.nd rfl (Or.inl rfl) (pe_lst (pa_cons (pe_tup (pa_cons pe_int (pa_cons (pv 1) (pa_cons pe_int (pa_cons (pe_lst (pa_cons pe_int pa_nil)) (pa_cons (pe_lst (pa_cons pe_int pa_nil)) pa_nil)))))) (pa_cons (pe_tup (pa_cons pe_int (pa_cons (pv 1) (pa_cons pe_int (pa_cons (pe_lst (pa_cons pe_int pa_nil)) (pa_cons (pe_lst (pa_cons pe_int pa_nil)) pa_nil)))))) (pa_cons (pe_tup (pa_cons pe_int (pa_cons (pv 1) (pa_cons pe_int (pa_cons (pe_lst pa_nil) (pa_cons (pe_lst (pa_cons pe_int pa_nil)) pa_nil)))))) (pa_cons (pe_tup (pa_cons pe_int (pa_cons (pv 2) (pa_cons pe_int (pa_cons (pe_lst (pa_cons pe_int pa_nil)) (pa_cons (pe_lst (pa_cons pe_int (pa_cons pe_int pa_nil))) pa_nil)))))) pa_nil))))))
      (pss_cut (ps_set (i := 3) sc__law_refused.nd rfl (Or.inl rfl) (pe_op op_cat (pv 3) (pe_lst (pa_cons (pe_tup (pa_cons pe_int (pa_cons (pv 2) (pa_cons pe_int (pa_cons (pe_lst (pa_cons pe_int pa_nil)) (pa_cons (pe_lst (pa_cons pe_int pa_nil)) pa_nil)))))) (pa_cons (pe_tup (pa_cons pe_int (pa_cons (pe_tup (pa_cons pe_int (pa_cons (pe_lst (pa_cons pe_int pa_nil)) (pa_cons (pe_lst (pa_cons pe_int pa_nil)) (pa_cons (pe_lst (pa_cons (pe_tup (pa_cons pe_int (pa_cons pe_int pa_nil))) pa_nil)) (pa_cons (pe_lst (pa_cons pe_int pa_nil)) pa_nil)))))) (pa_cons pe_int (pa_cons pe_int (pa_cons pe_int pa_nil)))))) pa_nil)))))
      (pss_cut (ps_set (i := 3) sc__law_refused.nd rfl (Or.inl rfl) (pe_op op_cat (pv 3) (pe_lst (pa_cons (pe_tup (pa_cons pe_int (pa_cons (pe_tup (pa_cons pe_int (pa_cons (pe_lst (pa_cons pe_int pa_nil)) (pa_cons (pe_lst (pa_cons pe_int pa_nil)) (pa_cons (pe_lst (pa_cons (pe_tup (pa_cons pe_int (pa_cons pe_int pa_nil))) pa_nil)) (pa_cons (pe_lst (pa_cons pe_int pa_nil)) pa_nil)))))) (pa_cons pe_int (pa_cons pe_int (pa_cons pe_int pa_nil)))))) (pa_cons (pe_tup (pa_cons pe_int (pa_cons (pe_tup (pa_cons pe_int (pa_cons (pe_lst (pa_cons pe_int pa_nil)) (pa_cons (pe_lst (pa_cons pe_int pa_nil)) (pa_cons (pe_lst pa_nil) (pa_cons (pe_lst pa_nil) pa_nil)))))) (pa_cons pe_int (pa_cons pe_int (pa_cons pe_int pa_nil)))))) pa_nil)))))
      (pss_cut (ps_set (i := 3) sc__law_refused.nd rfl (Or.inl rfl) (pe_op op_cat (pv 3) (pe_lst (pa_cons (pe_tup (pa_cons pe_int (pa_cons (pe_tup (pa_cons pe_int (pa_cons (pe_lst (pa_cons pe_int pa_nil)) (pa_cons (pe_lst pa_nil) (pa_cons (pe_lst pa_nil) (pa_cons (pe_lst pa_nil) pa_nil)))))) (pa_cons pe_int (pa_cons pe_int (pa_cons pe_int pa_nil)))))) (pa_cons (pe_tup (pa_cons pe_int (pa_cons (pe_tup (pa_cons pe_int (pa_cons (pe_lst (pa_cons pe_int pa_nil)) (pa_cons (pe_lst (pa_cons pe_int pa_nil)) (pa_cons (pe_lst pa_nil) (pa_cons (pe_lst pa_nil) pa_nil)))))) (pa_cons pe_int (pa_cons pe_int (pa_cons pe_int pa_nil)))))) pa_nil)))))
      (pss_cut (ps_set (i := 3) sc__law_refused.nd rfl (Or.inl rfl) (pe_op op_cat (pv 3) (pe_lst (pa_cons (pe_tup (pa_cons pe_int (pa_cons (pe_tup (pa_cons pe_int (pa_cons (pe_lst pa_nil) (pa_cons (pe_lst pa_nil) (pa_cons (pe_lst (pa_cons (pe_tup (pa_cons pe_int (pa_cons pe_int (pa_cons pe_int (pa_cons pe_int pa_nil))))) pa_nil)) (pa_cons (pe_lst pa_nil) pa_nil)))))) (pa_cons pe_int (pa_cons pe_int (pa_cons pe_int pa_nil)))))) (pa_cons (pe_tup (pa_cons pe_int (pa_cons (pe_tup (pa_cons pe_int (pa_cons (pe_lst pa_nil) (pa_cons (pe_lst pa_nil) (pa_cons (pe_lst (pa_cons (pe_tup (pa_cons pe_int (pa_cons pe_int (pa_cons pe_int (pa_cons pe_int pa_nil))))) pa_nil)) (pa_cons (pe_lst pa_nil) pa_nil)))))) (pa_cons pe_int (pa_cons pe_int (pa_cons pe_int pa_nil)))))) pa_nil)))))
      (pss_cut (ps_set (i := 3) sc__law_refused.nd rfl (Or.inl rfl) (pe_op op_cat (pv 3) (pe_lst (pa_cons (pe_tup (pa_cons pe_int (pa_cons (pe_tup (pa_cons pe_int (pa_cons (pe_lst pa_nil) (pa_cons (pe_lst pa_nil) (pa_cons (pe_lst (pa_cons (pe_tup (pa_cons pe_int (pa_cons pe_int (pa_cons pe_int (pa_cons pe_int pa_nil))))) pa_nil)) (pa_cons (pe_lst pa_nil) pa_nil)))))) (pa_cons pe_int (pa_cons pe_int (pa_cons pe_int pa_nil)))))) (pa_cons (pe_tup (pa_cons pe_int (pa_cons (pe_tup (pa_cons pe_int (pa_cons (pe_lst pa_nil) (pa_cons (pe_lst pa_nil) (pa_cons (pe_lst (pa_cons (pe_tup (pa_cons pe_int (pa_cons pe_int (pa_cons pe_int (pa_cons pe_int pa_nil))))) pa_nil)) (pa_cons (pe_lst pa_nil) pa_nil)))))) (pa_cons pe_int (pa_cons pe_int (pa_cons pe_int pa_nil)))))) pa_nil)))))
      (pss_cons (ps_asg (pe_ix ix_list (pv 3) (pe_c c__law_take hr (by omega) rfl (pa_cons (pv 0) (pa_cons (pe_callB call_len_seq (by rfl) T.b_len boot_len' (pa_cons (pv 3) pa_nil)) pa_nil))) (fun _ _ => rfl)) (pg_tup rfl (pgs_cons (pg_name (i := 4) sc__law_refused.nd rfl (Or.inl rfl)) (pgs_cons (pg_name (i := 5) sc__law_refused.nd rfl (Or.inl rfl)) (pgs_cons (pg_name (i := 6) sc__law_refused.nd rfl (Or.inl rfl)) (pgs_cons (pg_name (i := 7) sc__law_refused.nd rfl (Or.inl rfl)) (pgs_cons (pg_name (i := 8) sc__law_refused.nd rfl (Or.inl rfl)) pgs_nil)))))))
      (pss_one (ps_ret (pe_cmpR (op_eqD hr.units) (pe_c c__law_refusal hr (by omega) rfl (pa_cons (pv 4) (pa_cons (pv 5) (pa_cons (pv 6) (pa_cons (pv 7) (pa_cons (pv 8) pa_nil)))))) pe_str (nomark _))))))))))))), ?_⟩
    refine ⟨fun σ' H' => ∃ vg : V, σ' = [some (.ref dk), some vg, none, none, none, none, none, none, none] ∧ Same H H' ∧ Dp K (del1 H' dk) vg (grD gA), ?_, ?_⟩
    · refine mk_tup (dk := dk) (H0 := H) (ds := [.int 1, li [0], li [2], .list [prD (2, 4)], li [6]]) ?_ (by decide) H (Same.refl _) k0 _ fun v H' s d => ⟨v, rfl, s, d⟩
      repeat (first | exact mk_int | exact mk_nil | apply mk_cons | apply mk_tup | apply mk_lst | decide)
    rintro σ' H1 ⟨vg, rfl, s1, dg⟩
    have k1 := k0.same s1
    refine ⟨fun σ' H' => ∃ vt : V, σ' = [some (.ref dk), some vg, some vt, none, none, none, none, none, none] ∧ Same H1 H' ∧ Dp K (del1 H' dk) vt (tbD tA), ?_, ?_⟩
    · refine mk_tup (dk := dk) (H0 := H1) (ds := [.int 1, li [0], li [1], .list [rwD ⟨1, 2, 0, 136⟩], li [3]]) ?_ (by decide) H1 (Same.refl _) k1 _ fun v H' s d => ⟨v, rfl, s, d⟩
      repeat (first | exact mk_int | exact mk_nil | apply mk_cons | apply mk_tup | apply mk_lst | decide)
    rintro σ' H2 ⟨vt, rfl, s2, dt⟩
    have dg := dp_same (del1_same s2) dg
    have k2 := k1.same s2
    refine ⟨fun σ' H' => ∃ (p : Addr) (xs : List V), σ' = [some (.ref dk), some vg, some vt, some (.ref p), none, none, none, none, none] ∧ Same H2 H' ∧ p ≠ dk ∧ H' p = some (.lst xs) ∧ DpAll K (del1 H' dk) xs (rws1), ?_, ?_⟩
    · refine mk_new (K := K) (dk := dk) (ds := rws1) ?_ k2 (by decide) fun p xs H' s n h d => ⟨p, xs, rfl, s, n, h, d⟩
      repeat (first | exact mk_int | exact mk_nil | exact mk_var dg rfl | exact mk_var dt rfl | apply mk_cons | apply mk_tup | apply mk_lst | decide)
    rintro σ' H3 ⟨p, xs, rfl, s3, np, hp, hx⟩
    have dg := dp_same (del1_same s3) dg
    have dt := dp_same (del1_same s3) dt
    have k3 := k2.same s3
    refine ⟨fun σ' H' => ∃ (p : Addr) (xs : List V), σ' = [some (.ref dk), some vg, some vt, some (.ref p), none, none, none, none, none] ∧ Same H3 H' ∧ p ≠ dk ∧ H' p = some (.lst xs) ∧ DpAll K (del1 H' dk) xs (rws1 ++ rws2), ?_, ?_⟩
    · refine mk_add (K := K) (dk := dk) (ds := rws2) rfl hp hx ?_ k3 (by decide) fun p xs H' s n h d => ⟨p, xs, rfl, s, n, h, d⟩
      repeat (first | exact mk_int | exact mk_nil | exact mk_var dg rfl | exact mk_var dt rfl | apply mk_cons | apply mk_tup | apply mk_lst | decide)
    rintro σ' H4 ⟨p, xs, rfl, s4, np, hp, hx⟩
    have dg := dp_same (del1_same s4) dg
    have dt := dp_same (del1_same s4) dt
    have k4 := k3.same s4
    refine ⟨fun σ' H' => ∃ (p : Addr) (xs : List V), σ' = [some (.ref dk), some vg, some vt, some (.ref p), none, none, none, none, none] ∧ Same H4 H' ∧ p ≠ dk ∧ H' p = some (.lst xs) ∧ DpAll K (del1 H' dk) xs (rws1 ++ rws2 ++ rws3), ?_, ?_⟩
    · refine mk_add (K := K) (dk := dk) (ds := rws3) rfl hp hx ?_ k4 (by decide) fun p xs H' s n h d => ⟨p, xs, rfl, s, n, h, d⟩
      repeat (first | exact mk_int | exact mk_nil | exact mk_var dg rfl | exact mk_var dt rfl | apply mk_cons | apply mk_tup | apply mk_lst | decide)
    rintro σ' H5 ⟨p, xs, rfl, s5, np, hp, hx⟩
    have dg := dp_same (del1_same s5) dg
    have dt := dp_same (del1_same s5) dt
    have k5 := k4.same s5
    refine ⟨fun σ' H' => ∃ (p : Addr) (xs : List V), σ' = [some (.ref dk), some vg, some vt, some (.ref p), none, none, none, none, none] ∧ Same H5 H' ∧ p ≠ dk ∧ H' p = some (.lst xs) ∧ DpAll K (del1 H' dk) xs (rws1 ++ rws2 ++ rws3 ++ rws4), ?_, ?_⟩
    · refine mk_add (K := K) (dk := dk) (ds := rws4) rfl hp hx ?_ k5 (by decide) fun p xs H' s n h d => ⟨p, xs, rfl, s, n, h, d⟩
      repeat (first | exact mk_int | exact mk_nil | exact mk_var dg rfl | exact mk_var dt rfl | apply mk_cons | apply mk_tup | apply mk_lst | decide)
    rintro σ' H6 ⟨p, xs, rfl, s6, np, hp, hx⟩
    have dg := dp_same (del1_same s6) dg
    have dt := dp_same (del1_same s6) dt
    have k6 := k5.same s6
    refine ⟨fun σ' H' => ∃ (p : Addr) (xs : List V), σ' = [some (.ref dk), some vg, some vt, some (.ref p), none, none, none, none, none] ∧ Same H6 H' ∧ p ≠ dk ∧ H' p = some (.lst xs) ∧ DpAll K (del1 H' dk) xs (rws1 ++ rws2 ++ rws3 ++ rws4 ++ rws5), ?_, ?_⟩
    · refine mk_add (K := K) (dk := dk) (ds := rws5) rfl hp hx ?_ k6 (by decide) fun p xs H' s n h d => ⟨p, xs, rfl, s, n, h, d⟩
      repeat (first | exact mk_int | exact mk_nil | exact mk_var dg rfl | exact mk_var dt rfl | apply mk_cons | apply mk_tup | apply mk_lst | decide)
    rintro σ' H7 ⟨p, xs, rfl, s7, np, hp, hx⟩
    have dg := dp_same (del1_same s7) dg
    have dt := dp_same (del1_same s7) dt
    have k7 := k6.same s7
    refine ⟨fun σ' H' => ∃ (p : Addr) (xs : List V), σ' = [some (.ref dk), some vg, some vt, some (.ref p), none, none, none, none, none] ∧ Same H7 H' ∧ p ≠ dk ∧ H' p = some (.lst xs) ∧ DpAll K (del1 H' dk) xs (rws1 ++ rws2 ++ rws3 ++ rws4 ++ rws5 ++ rws6), ?_, ?_⟩
    · refine mk_add (K := K) (dk := dk) (ds := rws6) rfl hp hx ?_ k7 (by decide) fun p xs H' s n h d => ⟨p, xs, rfl, s, n, h, d⟩
      repeat (first | exact mk_int | exact mk_nil | exact mk_var dg rfl | exact mk_var dt rfl | apply mk_cons | apply mk_tup | apply mk_lst | decide)
    rintro σ' H8 ⟨p, xs, rfl, s8, np, hp, hx⟩
    have dg := dp_same (del1_same s8) dg
    have dt := dp_same (del1_same s8) dt
    have k8 := k7.same s8
    have lx : xs.length = 14 := dps_len hx
    refine ⟨_, rfl, _, rfl, _, rfl, p, _, rfl, .inl (SqL.of hp), dk, _, rfl, by omega, k8, fun r H9 r0 r1 b9 k9 => ?_⟩
    obtain ⟨i, rfl⟩ := Int.eq_ofNat_of_zero_le r0
    have il : i < xs.length := by omega
    have hx9 := dps_same (del1_but b9) hx
    obtain ⟨d, hdi, dx⟩ := dps_getv hx9 (List.getElem?_eq_getElem il)
    obtain ⟨ask, lv, dL, df, di, rfl, B⟩ := rws_bad (K := K) d (List.mem_of_getElem? hdi)
    obtain ⟨t, ys, et, ht, hys⟩ := dp_tup dx
    obtain ⟨v0, v1, v2, v3, v4, rfl, d0, d1, d2, d3, d4⟩ := dps5 hys
    cases dp_int d0
    refine ⟨p, xs, i, xs[i], rfl, rfl, SqL.of (b9 _ _ np hp), atI_nat (List.getElem?_eq_getElem il), ?_⟩
    rw [et]
    refine ⟨t, _, rfl, Same.tup del1_sub ht, rfl, _, _, rfl, _, _, rfl, _, _, rfl, _, _, rfl, _, _, rfl, rfl, ?_⟩
    refine ⟨_, rfl, _, rfl, _, rfl, _, rfl, _, rfl, ask, v1, v2, v3, v4, rfl, B H9 _ _ _ _ (dp_same del1_sub d1) (dp_same del1_sub d2) (dp_same del1_sub d3) (dp_same del1_sub d4), fun H10 s => ?_⟩
    exact ⟨.str "form", .str "form", .str _, .str _, (by decide +kernel), (by decide +kernel), k _⟩
end
end Q80



set_option pp.maxSteps 1500
namespace Q80
open PySem L2 G M80
open C8 (Cal Met Mak pe_c pe_mk pe_mt pe_mt0 pe_gc pss_cut tCut)
section
variable {P : Program} {w : World} {K : PySem.W.Frag} {mg : Str → Option Value} {base : Heap}
/-! ### the law -/
def spLaw (K : PySem.W.Frag) : Sp := fun vs H Q _ => ∃ (a : Addr) (ns : List Int), vs = [.ref a] ∧ SqL K H a (ns.map V.int) ∧ ns.length ≤ 63 ∧ ∀ H', Q (.bl true) H'
structure CalsL (P : Program) (w : World) (K : PySem.W.Frag) (mg : Str → Option Value) (base : Heap) (CG CT frG fsG fwG frT fsT fwT : Addr) : Prop where
  deck : Cal P w K mg base 1 "_law_deck" (spDeck K) []
  graph : Cal P w K mg base 2 "_law_graph" (spLG K) []
  tables : Cal P w K mg base 3 "_law_tables" (spLT K) []
  chkG : CalX P w K mg base 4 "check_graph" (spChkG K CG)
  chkT : CalX P w K mg base 4 "check_tables" (spChkT K CT)
  rr : Cal P w K mg base 6 "_law_run_right" (spRR P w K mg base) []
  dep : CalX P w K mg base 5 "depth_of" (spDep K)
  ldep : Cal P w K mg base 1 "_law_depth" (spDep K) []
  rfd : Cal P w K mg base 7 "_law_refused" spRfd []
  gRunG : mg "run_graph" = some (.ref frG)
  gStepG : mg "step_graph" = some (.ref fsG)
  gWalkG : mg "_law_graph_step" = some (.ref fwG)
  gRunT : mg "run_tables" = some (.ref frT)
  gStepT : mg "step_tables" = some (.ref fsT)
  gWalkT : mg "_law_table_step" = some (.ref fwT)
  hRunG : ∀ g : Gr, SmG g → GrP g → HeldX P w K mg base 5 frG (spRun1 K (grD g) g.inp g.fst (gstep g))
  hStepG : ∀ g : Gr, SmG g → GrP g → HeldX P w K mg base 5 fsG (spStep1 K (grD g) g.inp g.fst.length (gstep g))
  hWalkG : ∀ g : Gr, SmG g → GrP g → HeldX P w K mg base 5 fwG (spWalk1 K (grD g) g.inp g.fst.length (gstepL g))
  hRunT : ∀ g : Tb, SmT g → TbP g → HeldX P w K mg base 5 frT (spRun1 K (tbD g) g.inp g.fst (tstep g))
  hStepT : ∀ g : Tb, SmT g → TbP g → HeldX P w K mg base 5 fsT (spStep1 K (tbD g) g.inp g.fst.length (tstep g))
  hWalkT : ∀ g : Tb, SmT g → TbP g → HeldX P w K mg base 5 fwT (spWalk1 K (tbD g) g.inp g.fst.length (tstepL g))
theorem ok_law {CG CT frG fsG fwG frT fsT fwT f : Addr} {fd : FuncData} (F : Fun K "law" "law" s_law f fd) (T : Txt K mg) (c : CalsL P w K mg base CG CT frG fsG fwG frT fsT fwT) : FnOk P w K mg base CX0 10 f fd ["script"] (spLaw K) := by
  refine F.ok sc_law (fun vs H Q E h => ?_) (fun cdv A outer s H vs Q E hr h => ?_)
  · obtain ⟨a, ns, rfl, _⟩ := h
    rfl
  · obtain ⟨a, ns, rfl, ha, hn, k⟩ := h
    have c__law_deck := c.deck
    have c__law_graph := c.graph
    have c__law_tables := c.tables
    have c_check_graph := c.chkG
    have c_check_tables := c.chkT
    have c__law_run_right := c.rr
    have c_depth_of := c.dep
    have c__law_depth := c.ldep
    have c__law_refused := c.rfd
    have g_run_graph : ∃ u, mg "run_graph" = some u ∧ RelV (.ref frG) u := ⟨_, c.gRunG, rfl⟩
    have g_step_graph : ∃ u, mg "step_graph" = some u ∧ RelV (.ref fsG) u := ⟨_, c.gStepG, rfl⟩
    have g__law_graph_step : ∃ u, mg "_law_graph_step" = some u ∧ RelV (.ref fwG) u := ⟨_, c.gWalkG, rfl⟩
    have g_run_tables : ∃ u, mg "run_tables" = some u ∧ RelV (.ref frT) u := ⟨_, c.gRunT, rfl⟩
    have g_step_tables : ∃ u, mg "step_tables" = some u ∧ RelV (.ref fsT) u := ⟨_, c.gStepT, rfl⟩
    have g__law_table_step : ∃ u, mg "_law_table_step" = some u ∧ RelV (.ref fwT) u := ⟨_, c.gWalkT, rfl⟩
    refine ⟨_, (pss_cons (ps_set (i := 1) sc_law.nd rfl (Or.inl rfl) (pe_c c__law_deck hr (by omega) rfl (pa_cons (pv 0) (pa_cons pe_int (pa_cons pe_int pa_nil)))))
      (pss_cons (ps_for PassesOwn.never rfl (pi_range1 (by rfl) T.b_range (pa_cons pe_int pa_nil)) (pg_name (i := 2) sc_law.nd rfl (Or.inl rfl)) (pss_cons (ps_set (i := 3) sc_law.nd rfl (Or.inl rfl) (pe_c c__law_graph hr (by omega) rfl (pa_cons (pv 1) pa_nil)))
      (pss_cons (ps_set (i := 4) sc_law.nd rfl (Or.inl rfl) (pe_c c__law_tables hr (by omega) rfl (pa_cons (pv 1) pa_nil)))
      (pss_cons (ps_if (PW.pt (pw_or (pt_cmpR op_notN (pe_cx c_check_graph hr (by omega) rfl takes0 (pa_cons (pv 3) pa_nil)) pe_non (nomark _)) (pw_or1 (pt_cmpR op_notN (pe_cx c_check_tables hr (by omega) rfl takes0 (pa_cons (pv 4) pa_nil)) pe_non (nomark _))))) (pss_one (ps_ret pe_bl)) pss_nil)
      (pss_cons (ps_if (pt_not (pt_val (pe_c c__law_run_right hr (by omega) rfl (pa_cons (pv 1) (pa_cons (pv 3) (pa_cons (pe_gc (by rfl) g_run_graph) (pa_cons (pe_gc (by rfl) g_step_graph) (pa_cons (pe_gc (by rfl) g__law_graph_step) pa_nil)))))))) (pss_one (ps_ret pe_bl)) pss_nil)
      (pss_cons (ps_if (pt_not (pt_val (pe_c c__law_run_right hr (by omega) rfl (pa_cons (pv 1) (pa_cons (pv 4) (pa_cons (pe_gc (by rfl) g_run_tables) (pa_cons (pe_gc (by rfl) g_step_tables) (pa_cons (pe_gc (by rfl) g__law_table_step) pa_nil)))))))) (pss_one (ps_ret pe_bl)) pss_nil)
      (pss_one (ps_if (pt_cmpR op_ne (pe_cx c_depth_of hr (by omega) rfl takes0 (pa_cons (pv 4) pa_nil)) (pe_c c__law_depth hr (by omega) rfl (pa_cons (pv 4) pa_nil)) (nomark _)) (pss_one (ps_ret pe_bl)) pss_nil))))))))
      (pss_one (ps_ret (pe_c c__law_refused hr (by omega) rfl (pa_cons (pv 1) pa_nil)))))), ?_⟩
    refine ⟨_, rfl, a, ns, 90, 14, rfl, ha, by omega, by decide, by decide, by decide, fun dk H1 nd s1 k1 => ?_⟩
    refine ⟨_, rfl, by decide, by decide, for_range (lo := 0) (n := (3 : Int).toNat) (fun i σ' H' => (∃ o2 o3 o4 : Option V, σ' = [some (.ref a), some (.ref dk), o2, o3, o4]) ∧ Deck H' dk) ⟨⟨none, none, none, rfl⟩, k1⟩ ?_ ?_⟩
    · rintro i σ H2 hi ⟨⟨o2, o3, o4, rfl⟩, k2⟩
      refine ⟨_, rfl, dk, rfl, k2, fun vg g H3 b3 k3 dg hs gp hin => ?_⟩
      refine ⟨_, rfl, dk, rfl, k3, fun vt tb H4 b4 k4 dt hst tp tin => ?_⟩
      have dg := dp_same (del1_but b4) dg
      have okG := okGr_parts.mpr gp
      have okT := okTb_parts.mpr tp
      refine ⟨_, rfl, vg, g, rfl, dp_same del1_sub dg, hs, fun _ H5 s5 => ?_, fun no => absurd (okG.symm.trans no) (by decide)⟩
      refine ⟨rfl, _, rfl, ifF (by simp) ?_⟩
      refine ⟨_, rfl, vt, tb, rfl, dp_same (del1_sub.trans s5) dt, hst, fun _ H6 s6 => ?_, fun no => absurd (okT.symm.trans no) (by decide)⟩
      refine ⟨rfl, _, rfl, ifF (by simp) ?_⟩
      have s56 := s5.trans s6
      have k6 := k4.same s56
      have dt6 := dp_same (del1_same s56) dt
      refine ⟨_, rfl, _, rfl, dk, frG, fsG, fwG, vg, g.inp, g.fst, g.nxt, g.out, g.prs.map prD, gstep g, gstepL g, rfl, k6, dp_same (del1_same s56) dg, gp.p0, hin, hs.1, gp.f, fun L => gp.l ▸ gstep_ok g L, fun e fl ins => ⟨?_, ?_⟩, c.hRunG g hs gp, c.hStepG g hs gp, c.hWalkG g hs gp, fun H7 b7 k7 => ⟨_, rfl, ifF rfl ?_⟩⟩
      · exact Nat.le_trans (Nat.le_of_eq (List.length_map ..)) hs.2.2.2
      · exact (List.length_map ..).trans gp.l
      have dt7 := dp_same (del1_but b7) dt6
      refine ⟨_, rfl, _, rfl, dk, frT, fsT, fwT, vt, tb.inp, tb.fst, tb.nxt, tb.out, tb.rws.map rwD, tstep tb, tstepL tb, rfl, k7, dt7, tp.p0, tin, hst.1, tp.f, fun L => tp.l ▸ tstep_ok tp L, fun e fl ins => ⟨?_, ?_⟩, c.hRunT tb hst tp, c.hStepT tb hst tp, c.hWalkT tb hst tp, fun H8 b8 k8 => ⟨_, rfl, ifF rfl ?_⟩⟩
      · exact Nat.le_trans (Nat.le_of_eq (List.length_map ..)) hst.2.2.2
      · exact (List.length_map ..).trans tp.l
      have dt8 := dp_same ((del1_but b8).trans del1_sub) dt7
      refine ⟨_, rfl, vt, tb, rfl, dt8, hst, okT, tin, fun H9 s9 => ⟨_, rfl, vt, tb, rfl, dp_same s9 dt8, hst, okT, tin, fun H10 s10 => ⟨rfl, _, rfl, ifF (by simp) ⟨⟨_, _, _, rfl⟩, (k8.same s9).same s10⟩⟩⟩⟩
    · rintro σ H2 ⟨⟨o2, o3, o4, rfl⟩, k2⟩
      exact ⟨_, rfl, dk, rfl, k2, k⟩
end
end Q80



namespace Q80
open PySem L2 G M80 NdefX
open C8 (Cal Met Mak pe_c pe_mk pe_mt pe_mt0 pe_gc pss_cut tCut)
/-! ### what the top has written, the head -/
theorem all_mk {l : PySem.W.OpenLaw} {w : World} {K : PySem.W.Frag} {h : Heap} {mg : Str → Option Value} {fa f__law_deck f__law_take f__law_plain f_is_number f_are_numbers f_check_graph f_walked f_taken f_clock_fits f_graph_clock f_step_graph f_run_graph f_hangs_on f_is_row f_check_tables f_looked f_tables_clock f_step_tables f_run_tables f_depth_of f__law_edge f__law_graph_values f__law_graph_step f__law_row f__law_table_step f__law_lanes f__law_graph f__law_spread f__law_tables f__law_depth f__law_run_right f__law_refusal f__law_refused f_law C_InvalidGraph f_InvalidGraph cc_InvalidGraph cda_InvalidGraph C_InvalidTables f_InvalidTables cc_InvalidTables cda_InvalidTables : Addr} (X : K.In h) (G : h.Ns mainGlobals mg) (hfa : mg "law" = some (.ref fa))
    {od__law_deck an__law_deck : Option Addr} {sl__law_deck : Array (Option Value)} {oc__law_deck kV__law_deck dc__law_deck pm__law_deck cd__law_deck ct__law_deck : Value}
    {od__law_take an__law_take : Option Addr} {sl__law_take : Array (Option Value)} {oc__law_take kV__law_take dc__law_take pm__law_take cd__law_take ct__law_take : Value}
    {od__law_plain an__law_plain : Option Addr} {sl__law_plain : Array (Option Value)} {oc__law_plain kV__law_plain dc__law_plain pm__law_plain cd__law_plain ct__law_plain : Value}
    {od_is_number an_is_number : Option Addr} {sl_is_number : Array (Option Value)} {oc_is_number kV_is_number dc_is_number pm_is_number cd_is_number ct_is_number : Value}
    {od_are_numbers an_are_numbers : Option Addr} {sl_are_numbers : Array (Option Value)} {oc_are_numbers kV_are_numbers dc_are_numbers pm_are_numbers cd_are_numbers ct_are_numbers : Value}
    {od_check_graph an_check_graph : Option Addr} {sl_check_graph : Array (Option Value)} {oc_check_graph kV_check_graph dc_check_graph pm_check_graph cd_check_graph ct_check_graph : Value}
    {od_walked an_walked : Option Addr} {sl_walked : Array (Option Value)} {oc_walked kV_walked dc_walked pm_walked cd_walked ct_walked : Value}
    {od_taken an_taken : Option Addr} {sl_taken : Array (Option Value)} {oc_taken kV_taken dc_taken pm_taken cd_taken ct_taken : Value}
    {od_clock_fits an_clock_fits : Option Addr} {sl_clock_fits : Array (Option Value)} {oc_clock_fits kV_clock_fits dc_clock_fits pm_clock_fits cd_clock_fits ct_clock_fits : Value}
    {od_graph_clock an_graph_clock : Option Addr} {sl_graph_clock : Array (Option Value)} {oc_graph_clock kV_graph_clock dc_graph_clock pm_graph_clock cd_graph_clock ct_graph_clock : Value}
    {od_step_graph an_step_graph : Option Addr} {sl_step_graph : Array (Option Value)} {oc_step_graph kV_step_graph dc_step_graph pm_step_graph cd_step_graph ct_step_graph : Value}
    {od_run_graph an_run_graph : Option Addr} {sl_run_graph : Array (Option Value)} {oc_run_graph kV_run_graph dc_run_graph pm_run_graph cd_run_graph ct_run_graph : Value}
    {od_hangs_on an_hangs_on : Option Addr} {sl_hangs_on : Array (Option Value)} {oc_hangs_on kV_hangs_on dc_hangs_on pm_hangs_on cd_hangs_on ct_hangs_on : Value}
    {od_is_row an_is_row : Option Addr} {sl_is_row : Array (Option Value)} {oc_is_row kV_is_row dc_is_row pm_is_row cd_is_row ct_is_row : Value}
    {od_check_tables an_check_tables : Option Addr} {sl_check_tables : Array (Option Value)} {oc_check_tables kV_check_tables dc_check_tables pm_check_tables cd_check_tables ct_check_tables : Value}
    {od_looked an_looked : Option Addr} {sl_looked : Array (Option Value)} {oc_looked kV_looked dc_looked pm_looked cd_looked ct_looked : Value}
    {od_tables_clock an_tables_clock : Option Addr} {sl_tables_clock : Array (Option Value)} {oc_tables_clock kV_tables_clock dc_tables_clock pm_tables_clock cd_tables_clock ct_tables_clock : Value}
    {od_step_tables an_step_tables : Option Addr} {sl_step_tables : Array (Option Value)} {oc_step_tables kV_step_tables dc_step_tables pm_step_tables cd_step_tables ct_step_tables : Value}
    {od_run_tables an_run_tables : Option Addr} {sl_run_tables : Array (Option Value)} {oc_run_tables kV_run_tables dc_run_tables pm_run_tables cd_run_tables ct_run_tables : Value}
    {od_depth_of an_depth_of : Option Addr} {sl_depth_of : Array (Option Value)} {oc_depth_of kV_depth_of dc_depth_of pm_depth_of cd_depth_of ct_depth_of : Value}
    {od__law_edge an__law_edge : Option Addr} {sl__law_edge : Array (Option Value)} {oc__law_edge kV__law_edge dc__law_edge pm__law_edge cd__law_edge ct__law_edge : Value}
    {od__law_graph_values an__law_graph_values : Option Addr} {sl__law_graph_values : Array (Option Value)} {oc__law_graph_values kV__law_graph_values dc__law_graph_values pm__law_graph_values cd__law_graph_values ct__law_graph_values : Value}
    {od__law_graph_step an__law_graph_step : Option Addr} {sl__law_graph_step : Array (Option Value)} {oc__law_graph_step kV__law_graph_step dc__law_graph_step pm__law_graph_step cd__law_graph_step ct__law_graph_step : Value}
    {od__law_row an__law_row : Option Addr} {sl__law_row : Array (Option Value)} {oc__law_row kV__law_row dc__law_row pm__law_row cd__law_row ct__law_row : Value}
    {od__law_table_step an__law_table_step : Option Addr} {sl__law_table_step : Array (Option Value)} {oc__law_table_step kV__law_table_step dc__law_table_step pm__law_table_step cd__law_table_step ct__law_table_step : Value}
    {od__law_lanes an__law_lanes : Option Addr} {sl__law_lanes : Array (Option Value)} {oc__law_lanes kV__law_lanes dc__law_lanes pm__law_lanes cd__law_lanes ct__law_lanes : Value}
    {od__law_graph an__law_graph : Option Addr} {sl__law_graph : Array (Option Value)} {oc__law_graph kV__law_graph dc__law_graph pm__law_graph cd__law_graph ct__law_graph : Value}
    {od__law_spread an__law_spread : Option Addr} {sl__law_spread : Array (Option Value)} {oc__law_spread kV__law_spread dc__law_spread pm__law_spread cd__law_spread ct__law_spread : Value}
    {od__law_tables an__law_tables : Option Addr} {sl__law_tables : Array (Option Value)} {oc__law_tables kV__law_tables dc__law_tables pm__law_tables cd__law_tables ct__law_tables : Value}
    {od__law_depth an__law_depth : Option Addr} {sl__law_depth : Array (Option Value)} {oc__law_depth kV__law_depth dc__law_depth pm__law_depth cd__law_depth ct__law_depth : Value}
    {od__law_run_right an__law_run_right : Option Addr} {sl__law_run_right : Array (Option Value)} {oc__law_run_right kV__law_run_right dc__law_run_right pm__law_run_right cd__law_run_right ct__law_run_right : Value}
    {od__law_refusal an__law_refusal : Option Addr} {sl__law_refusal : Array (Option Value)} {oc__law_refusal kV__law_refusal dc__law_refusal pm__law_refusal cd__law_refusal ct__law_refusal : Value}
    {od__law_refused an__law_refused : Option Addr} {sl__law_refused : Array (Option Value)} {oc__law_refused kV__law_refused dc__law_refused pm__law_refused cd__law_refused ct__law_refused : Value}
    {od_law an_law : Option Addr} {sl_law : Array (Option Value)} {oc_law kV_law dc_law pm_law cd_law ct_law : Value}
    {nm_InvalidGraph qu_InvalidGraph : Str} {N_InvalidGraph : Addr} {bs_InvalidGraph bm_InvalidGraph : List Value} {sn_InvalidGraph : List Str} {sub_InvalidGraph : List Value} {ab_InvalidGraph : Bool} {col_InvalidGraph : Option Bool} {dd_InvalidGraph : Option Addr} {m0_InvalidGraph m1_InvalidGraph m2_InvalidGraph m3_InvalidGraph m5_InvalidGraph : Option Value} {oc_InvalidGraph kV_InvalidGraph dc_InvalidGraph pm_InvalidGraph ct_InvalidGraph cl_InvalidGraph ccl_InvalidGraph : Value} {od_InvalidGraph an_InvalidGraph cld_InvalidGraph cdd_InvalidGraph : Option Addr} {sl_InvalidGraph csl_InvalidGraph ccs_InvalidGraph : Array (Option Value)} {fv_InvalidGraph : Array Value} {fi_InvalidGraph : Str} {tf_InvalidGraph : Tok}
    {nm_InvalidTables qu_InvalidTables : Str} {N_InvalidTables : Addr} {bs_InvalidTables bm_InvalidTables : List Value} {sn_InvalidTables : List Str} {sub_InvalidTables : List Value} {ab_InvalidTables : Bool} {col_InvalidTables : Option Bool} {dd_InvalidTables : Option Addr} {m0_InvalidTables m1_InvalidTables m2_InvalidTables m3_InvalidTables m5_InvalidTables : Option Value} {oc_InvalidTables kV_InvalidTables dc_InvalidTables pm_InvalidTables ct_InvalidTables cl_InvalidTables ccl_InvalidTables : Value} {od_InvalidTables an_InvalidTables cld_InvalidTables cdd_InvalidTables : Option Addr} {sl_InvalidTables csl_InvalidTables ccs_InvalidTables : Array (Option Value)} {fv_InvalidTables : Array Value} {fi_InvalidTables : Str} {tf_InvalidTables : Tok}
    (a__law_deck : PySem.W.nsIn K mainGlobals "_law_deck" = some (some (.ref f__law_deck)))
    (l__law_deck : K.lookup f__law_deck = some ⟨oc__law_deck, od__law_deck, .func (PySem.W.fnOf "_law_deck" "_law_deck" (defArgs s__law_deck) (defBody s__law_deck) (defScope s__law_deck) .none kV__law_deck dc__law_deck pm__law_deck an__law_deck cd__law_deck ct__law_deck), sl__law_deck⟩) (c__law_deck : PySem.W.codeIn K cd__law_deck "_law_deck" = true) (k__law_deck : PySem.W.keepIn K (.ref f__law_deck) = true)
    (a__law_take : PySem.W.nsIn K mainGlobals "_law_take" = some (some (.ref f__law_take)))
    (l__law_take : K.lookup f__law_take = some ⟨oc__law_take, od__law_take, .func (PySem.W.fnOf "_law_take" "_law_take" (defArgs s__law_take) (defBody s__law_take) (defScope s__law_take) .none kV__law_take dc__law_take pm__law_take an__law_take cd__law_take ct__law_take), sl__law_take⟩) (c__law_take : PySem.W.codeIn K cd__law_take "_law_take" = true) (k__law_take : PySem.W.keepIn K (.ref f__law_take) = true)
    (a__law_plain : PySem.W.nsIn K mainGlobals "_law_plain" = some (some (.ref f__law_plain)))
    (l__law_plain : K.lookup f__law_plain = some ⟨oc__law_plain, od__law_plain, .func (PySem.W.fnOf "_law_plain" "_law_plain" (defArgs s__law_plain) (defBody s__law_plain) (defScope s__law_plain) .none kV__law_plain dc__law_plain pm__law_plain an__law_plain cd__law_plain ct__law_plain), sl__law_plain⟩) (c__law_plain : PySem.W.codeIn K cd__law_plain "_law_plain" = true) (k__law_plain : PySem.W.keepIn K (.ref f__law_plain) = true)
    (a_is_number : PySem.W.nsIn K mainGlobals "is_number" = some (some (.ref f_is_number)))
    (l_is_number : K.lookup f_is_number = some ⟨oc_is_number, od_is_number, .func (PySem.W.fnOf "is_number" "is_number" (defArgs s_is_number) (defBody s_is_number) (defScope s_is_number) .none kV_is_number dc_is_number pm_is_number an_is_number cd_is_number ct_is_number), sl_is_number⟩) (c_is_number : PySem.W.codeIn K cd_is_number "is_number" = true) (k_is_number : PySem.W.keepIn K (.ref f_is_number) = true)
    (a_are_numbers : PySem.W.nsIn K mainGlobals "are_numbers" = some (some (.ref f_are_numbers)))
    (l_are_numbers : K.lookup f_are_numbers = some ⟨oc_are_numbers, od_are_numbers, .func (PySem.W.fnOf "are_numbers" "are_numbers" (defArgs s_are_numbers) (defBody s_are_numbers) (defScope s_are_numbers) .none kV_are_numbers dc_are_numbers pm_are_numbers an_are_numbers cd_are_numbers ct_are_numbers), sl_are_numbers⟩) (c_are_numbers : PySem.W.codeIn K cd_are_numbers "are_numbers" = true) (k_are_numbers : PySem.W.keepIn K (.ref f_are_numbers) = true)
    (a_check_graph : PySem.W.nsIn K mainGlobals "check_graph" = some (some (.ref f_check_graph)))
    (l_check_graph : K.lookup f_check_graph = some ⟨oc_check_graph, od_check_graph, .func (PySem.W.fnOf "check_graph" "check_graph" (defArgs s_check_graph) (defBody s_check_graph) (defScope s_check_graph) .none kV_check_graph dc_check_graph pm_check_graph an_check_graph cd_check_graph ct_check_graph), sl_check_graph⟩) (c_check_graph : PySem.W.codeIn K cd_check_graph "check_graph" = true) (k_check_graph : PySem.W.keepIn K (.ref f_check_graph) = true)
    (a_walked : PySem.W.nsIn K mainGlobals "walked" = some (some (.ref f_walked)))
    (l_walked : K.lookup f_walked = some ⟨oc_walked, od_walked, .func (PySem.W.fnOf "walked" "walked" (defArgs s_walked) (defBody s_walked) (defScope s_walked) .none kV_walked dc_walked pm_walked an_walked cd_walked ct_walked), sl_walked⟩) (c_walked : PySem.W.codeIn K cd_walked "walked" = true) (k_walked : PySem.W.keepIn K (.ref f_walked) = true)
    (a_taken : PySem.W.nsIn K mainGlobals "taken" = some (some (.ref f_taken)))
    (l_taken : K.lookup f_taken = some ⟨oc_taken, od_taken, .func (PySem.W.fnOf "taken" "taken" (defArgs s_taken) (defBody s_taken) (defScope s_taken) .none kV_taken dc_taken pm_taken an_taken cd_taken ct_taken), sl_taken⟩) (c_taken : PySem.W.codeIn K cd_taken "taken" = true) (k_taken : PySem.W.keepIn K (.ref f_taken) = true)
    (a_clock_fits : PySem.W.nsIn K mainGlobals "clock_fits" = some (some (.ref f_clock_fits)))
    (l_clock_fits : K.lookup f_clock_fits = some ⟨oc_clock_fits, od_clock_fits, .func (PySem.W.fnOf "clock_fits" "clock_fits" (defArgs s_clock_fits) (defBody s_clock_fits) (defScope s_clock_fits) .none kV_clock_fits dc_clock_fits pm_clock_fits an_clock_fits cd_clock_fits ct_clock_fits), sl_clock_fits⟩) (c_clock_fits : PySem.W.codeIn K cd_clock_fits "clock_fits" = true) (k_clock_fits : PySem.W.keepIn K (.ref f_clock_fits) = true)
    (a_graph_clock : PySem.W.nsIn K mainGlobals "graph_clock" = some (some (.ref f_graph_clock)))
    (l_graph_clock : K.lookup f_graph_clock = some ⟨oc_graph_clock, od_graph_clock, .func (PySem.W.fnOf "graph_clock" "graph_clock" (defArgs s_graph_clock) (defBody s_graph_clock) (defScope s_graph_clock) .none kV_graph_clock dc_graph_clock pm_graph_clock an_graph_clock cd_graph_clock ct_graph_clock), sl_graph_clock⟩) (c_graph_clock : PySem.W.codeIn K cd_graph_clock "graph_clock" = true) (k_graph_clock : PySem.W.keepIn K (.ref f_graph_clock) = true)
    (a_step_graph : PySem.W.nsIn K mainGlobals "step_graph" = some (some (.ref f_step_graph)))
    (l_step_graph : K.lookup f_step_graph = some ⟨oc_step_graph, od_step_graph, .func (PySem.W.fnOf "step_graph" "step_graph" (defArgs s_step_graph) (defBody s_step_graph) (defScope s_step_graph) .none kV_step_graph dc_step_graph pm_step_graph an_step_graph cd_step_graph ct_step_graph), sl_step_graph⟩) (c_step_graph : PySem.W.codeIn K cd_step_graph "step_graph" = true) (k_step_graph : PySem.W.keepIn K (.ref f_step_graph) = true)
    (a_run_graph : PySem.W.nsIn K mainGlobals "run_graph" = some (some (.ref f_run_graph)))
    (l_run_graph : K.lookup f_run_graph = some ⟨oc_run_graph, od_run_graph, .func (PySem.W.fnOf "run_graph" "run_graph" (defArgs s_run_graph) (defBody s_run_graph) (defScope s_run_graph) .none kV_run_graph dc_run_graph pm_run_graph an_run_graph cd_run_graph ct_run_graph), sl_run_graph⟩) (c_run_graph : PySem.W.codeIn K cd_run_graph "run_graph" = true) (k_run_graph : PySem.W.keepIn K (.ref f_run_graph) = true)
    (a_hangs_on : PySem.W.nsIn K mainGlobals "hangs_on" = some (some (.ref f_hangs_on)))
    (l_hangs_on : K.lookup f_hangs_on = some ⟨oc_hangs_on, od_hangs_on, .func (PySem.W.fnOf "hangs_on" "hangs_on" (defArgs s_hangs_on) (defBody s_hangs_on) (defScope s_hangs_on) .none kV_hangs_on dc_hangs_on pm_hangs_on an_hangs_on cd_hangs_on ct_hangs_on), sl_hangs_on⟩) (c_hangs_on : PySem.W.codeIn K cd_hangs_on "hangs_on" = true) (k_hangs_on : PySem.W.keepIn K (.ref f_hangs_on) = true)
    (a_is_row : PySem.W.nsIn K mainGlobals "is_row" = some (some (.ref f_is_row)))
    (l_is_row : K.lookup f_is_row = some ⟨oc_is_row, od_is_row, .func (PySem.W.fnOf "is_row" "is_row" (defArgs s_is_row) (defBody s_is_row) (defScope s_is_row) .none kV_is_row dc_is_row pm_is_row an_is_row cd_is_row ct_is_row), sl_is_row⟩) (c_is_row : PySem.W.codeIn K cd_is_row "is_row" = true) (k_is_row : PySem.W.keepIn K (.ref f_is_row) = true)
    (a_check_tables : PySem.W.nsIn K mainGlobals "check_tables" = some (some (.ref f_check_tables)))
    (l_check_tables : K.lookup f_check_tables = some ⟨oc_check_tables, od_check_tables, .func (PySem.W.fnOf "check_tables" "check_tables" (defArgs s_check_tables) (defBody s_check_tables) (defScope s_check_tables) .none kV_check_tables dc_check_tables pm_check_tables an_check_tables cd_check_tables ct_check_tables), sl_check_tables⟩) (c_check_tables : PySem.W.codeIn K cd_check_tables "check_tables" = true) (k_check_tables : PySem.W.keepIn K (.ref f_check_tables) = true)
    (a_looked : PySem.W.nsIn K mainGlobals "looked" = some (some (.ref f_looked)))
    (l_looked : K.lookup f_looked = some ⟨oc_looked, od_looked, .func (PySem.W.fnOf "looked" "looked" (defArgs s_looked) (defBody s_looked) (defScope s_looked) .none kV_looked dc_looked pm_looked an_looked cd_looked ct_looked), sl_looked⟩) (c_looked : PySem.W.codeIn K cd_looked "looked" = true) (k_looked : PySem.W.keepIn K (.ref f_looked) = true)
    (a_tables_clock : PySem.W.nsIn K mainGlobals "tables_clock" = some (some (.ref f_tables_clock)))
    (l_tables_clock : K.lookup f_tables_clock = some ⟨oc_tables_clock, od_tables_clock, .func (PySem.W.fnOf "tables_clock" "tables_clock" (defArgs s_tables_clock) (defBody s_tables_clock) (defScope s_tables_clock) .none kV_tables_clock dc_tables_clock pm_tables_clock an_tables_clock cd_tables_clock ct_tables_clock), sl_tables_clock⟩) (c_tables_clock : PySem.W.codeIn K cd_tables_clock "tables_clock" = true) (k_tables_clock : PySem.W.keepIn K (.ref f_tables_clock) = true)
    (a_step_tables : PySem.W.nsIn K mainGlobals "step_tables" = some (some (.ref f_step_tables)))
    (l_step_tables : K.lookup f_step_tables = some ⟨oc_step_tables, od_step_tables, .func (PySem.W.fnOf "step_tables" "step_tables" (defArgs s_step_tables) (defBody s_step_tables) (defScope s_step_tables) .none kV_step_tables dc_step_tables pm_step_tables an_step_tables cd_step_tables ct_step_tables), sl_step_tables⟩) (c_step_tables : PySem.W.codeIn K cd_step_tables "step_tables" = true) (k_step_tables : PySem.W.keepIn K (.ref f_step_tables) = true)
    (a_run_tables : PySem.W.nsIn K mainGlobals "run_tables" = some (some (.ref f_run_tables)))
    (l_run_tables : K.lookup f_run_tables = some ⟨oc_run_tables, od_run_tables, .func (PySem.W.fnOf "run_tables" "run_tables" (defArgs s_run_tables) (defBody s_run_tables) (defScope s_run_tables) .none kV_run_tables dc_run_tables pm_run_tables an_run_tables cd_run_tables ct_run_tables), sl_run_tables⟩) (c_run_tables : PySem.W.codeIn K cd_run_tables "run_tables" = true) (k_run_tables : PySem.W.keepIn K (.ref f_run_tables) = true)
    (a_depth_of : PySem.W.nsIn K mainGlobals "depth_of" = some (some (.ref f_depth_of)))
    (l_depth_of : K.lookup f_depth_of = some ⟨oc_depth_of, od_depth_of, .func (PySem.W.fnOf "depth_of" "depth_of" (defArgs s_depth_of) (defBody s_depth_of) (defScope s_depth_of) .none kV_depth_of dc_depth_of pm_depth_of an_depth_of cd_depth_of ct_depth_of), sl_depth_of⟩) (c_depth_of : PySem.W.codeIn K cd_depth_of "depth_of" = true) (k_depth_of : PySem.W.keepIn K (.ref f_depth_of) = true)
    (a__law_edge : PySem.W.nsIn K mainGlobals "_law_edge" = some (some (.ref f__law_edge)))
    (l__law_edge : K.lookup f__law_edge = some ⟨oc__law_edge, od__law_edge, .func (PySem.W.fnOf "_law_edge" "_law_edge" (defArgs s__law_edge) (defBody s__law_edge) (defScope s__law_edge) .none kV__law_edge dc__law_edge pm__law_edge an__law_edge cd__law_edge ct__law_edge), sl__law_edge⟩) (c__law_edge : PySem.W.codeIn K cd__law_edge "_law_edge" = true) (k__law_edge : PySem.W.keepIn K (.ref f__law_edge) = true)
    (a__law_graph_values : PySem.W.nsIn K mainGlobals "_law_graph_values" = some (some (.ref f__law_graph_values)))
    (l__law_graph_values : K.lookup f__law_graph_values = some ⟨oc__law_graph_values, od__law_graph_values, .func (PySem.W.fnOf "_law_graph_values" "_law_graph_values" (defArgs s__law_graph_values) (defBody s__law_graph_values) (defScope s__law_graph_values) .none kV__law_graph_values dc__law_graph_values pm__law_graph_values an__law_graph_values cd__law_graph_values ct__law_graph_values), sl__law_graph_values⟩) (c__law_graph_values : PySem.W.codeIn K cd__law_graph_values "_law_graph_values" = true) (k__law_graph_values : PySem.W.keepIn K (.ref f__law_graph_values) = true)
    (a__law_graph_step : PySem.W.nsIn K mainGlobals "_law_graph_step" = some (some (.ref f__law_graph_step)))
    (l__law_graph_step : K.lookup f__law_graph_step = some ⟨oc__law_graph_step, od__law_graph_step, .func (PySem.W.fnOf "_law_graph_step" "_law_graph_step" (defArgs s__law_graph_step) (defBody s__law_graph_step) (defScope s__law_graph_step) .none kV__law_graph_step dc__law_graph_step pm__law_graph_step an__law_graph_step cd__law_graph_step ct__law_graph_step), sl__law_graph_step⟩) (c__law_graph_step : PySem.W.codeIn K cd__law_graph_step "_law_graph_step" = true) (k__law_graph_step : PySem.W.keepIn K (.ref f__law_graph_step) = true)
    (a__law_row : PySem.W.nsIn K mainGlobals "_law_row" = some (some (.ref f__law_row)))
    (l__law_row : K.lookup f__law_row = some ⟨oc__law_row, od__law_row, .func (PySem.W.fnOf "_law_row" "_law_row" (defArgs s__law_row) (defBody s__law_row) (defScope s__law_row) .none kV__law_row dc__law_row pm__law_row an__law_row cd__law_row ct__law_row), sl__law_row⟩) (c__law_row : PySem.W.codeIn K cd__law_row "_law_row" = true) (k__law_row : PySem.W.keepIn K (.ref f__law_row) = true)
    (a__law_table_step : PySem.W.nsIn K mainGlobals "_law_table_step" = some (some (.ref f__law_table_step)))
    (l__law_table_step : K.lookup f__law_table_step = some ⟨oc__law_table_step, od__law_table_step, .func (PySem.W.fnOf "_law_table_step" "_law_table_step" (defArgs s__law_table_step) (defBody s__law_table_step) (defScope s__law_table_step) .none kV__law_table_step dc__law_table_step pm__law_table_step an__law_table_step cd__law_table_step ct__law_table_step), sl__law_table_step⟩) (c__law_table_step : PySem.W.codeIn K cd__law_table_step "_law_table_step" = true) (k__law_table_step : PySem.W.keepIn K (.ref f__law_table_step) = true)
    (a__law_lanes : PySem.W.nsIn K mainGlobals "_law_lanes" = some (some (.ref f__law_lanes)))
    (l__law_lanes : K.lookup f__law_lanes = some ⟨oc__law_lanes, od__law_lanes, .func (PySem.W.fnOf "_law_lanes" "_law_lanes" (defArgs s__law_lanes) (defBody s__law_lanes) (defScope s__law_lanes) .none kV__law_lanes dc__law_lanes pm__law_lanes an__law_lanes cd__law_lanes ct__law_lanes), sl__law_lanes⟩) (c__law_lanes : PySem.W.codeIn K cd__law_lanes "_law_lanes" = true) (k__law_lanes : PySem.W.keepIn K (.ref f__law_lanes) = true)
    (a__law_graph : PySem.W.nsIn K mainGlobals "_law_graph" = some (some (.ref f__law_graph)))
    (l__law_graph : K.lookup f__law_graph = some ⟨oc__law_graph, od__law_graph, .func (PySem.W.fnOf "_law_graph" "_law_graph" (defArgs s__law_graph) (defBody s__law_graph) (defScope s__law_graph) .none kV__law_graph dc__law_graph pm__law_graph an__law_graph cd__law_graph ct__law_graph), sl__law_graph⟩) (c__law_graph : PySem.W.codeIn K cd__law_graph "_law_graph" = true) (k__law_graph : PySem.W.keepIn K (.ref f__law_graph) = true)
    (a__law_spread : PySem.W.nsIn K mainGlobals "_law_spread" = some (some (.ref f__law_spread)))
    (l__law_spread : K.lookup f__law_spread = some ⟨oc__law_spread, od__law_spread, .func (PySem.W.fnOf "_law_spread" "_law_spread" (defArgs s__law_spread) (defBody s__law_spread) (defScope s__law_spread) .none kV__law_spread dc__law_spread pm__law_spread an__law_spread cd__law_spread ct__law_spread), sl__law_spread⟩) (c__law_spread : PySem.W.codeIn K cd__law_spread "_law_spread" = true) (k__law_spread : PySem.W.keepIn K (.ref f__law_spread) = true)
    (a__law_tables : PySem.W.nsIn K mainGlobals "_law_tables" = some (some (.ref f__law_tables)))
    (l__law_tables : K.lookup f__law_tables = some ⟨oc__law_tables, od__law_tables, .func (PySem.W.fnOf "_law_tables" "_law_tables" (defArgs s__law_tables) (defBody s__law_tables) (defScope s__law_tables) .none kV__law_tables dc__law_tables pm__law_tables an__law_tables cd__law_tables ct__law_tables), sl__law_tables⟩) (c__law_tables : PySem.W.codeIn K cd__law_tables "_law_tables" = true) (k__law_tables : PySem.W.keepIn K (.ref f__law_tables) = true)
    (a__law_depth : PySem.W.nsIn K mainGlobals "_law_depth" = some (some (.ref f__law_depth)))
    (l__law_depth : K.lookup f__law_depth = some ⟨oc__law_depth, od__law_depth, .func (PySem.W.fnOf "_law_depth" "_law_depth" (defArgs s__law_depth) (defBody s__law_depth) (defScope s__law_depth) .none kV__law_depth dc__law_depth pm__law_depth an__law_depth cd__law_depth ct__law_depth), sl__law_depth⟩) (c__law_depth : PySem.W.codeIn K cd__law_depth "_law_depth" = true) (k__law_depth : PySem.W.keepIn K (.ref f__law_depth) = true)
    (a__law_run_right : PySem.W.nsIn K mainGlobals "_law_run_right" = some (some (.ref f__law_run_right)))
    (l__law_run_right : K.lookup f__law_run_right = some ⟨oc__law_run_right, od__law_run_right, .func (PySem.W.fnOf "_law_run_right" "_law_run_right" (defArgs s__law_run_right) (defBody s__law_run_right) (defScope s__law_run_right) .none kV__law_run_right dc__law_run_right pm__law_run_right an__law_run_right cd__law_run_right ct__law_run_right), sl__law_run_right⟩) (c__law_run_right : PySem.W.codeIn K cd__law_run_right "_law_run_right" = true) (k__law_run_right : PySem.W.keepIn K (.ref f__law_run_right) = true)
    (a__law_refusal : PySem.W.nsIn K mainGlobals "_law_refusal" = some (some (.ref f__law_refusal)))
    (l__law_refusal : K.lookup f__law_refusal = some ⟨oc__law_refusal, od__law_refusal, .func (PySem.W.fnOf "_law_refusal" "_law_refusal" (defArgs s__law_refusal) (defBody s__law_refusal) (defScope s__law_refusal) .none kV__law_refusal dc__law_refusal pm__law_refusal an__law_refusal cd__law_refusal ct__law_refusal), sl__law_refusal⟩) (c__law_refusal : PySem.W.codeIn K cd__law_refusal "_law_refusal" = true) (k__law_refusal : PySem.W.keepIn K (.ref f__law_refusal) = true)
    (a__law_refused : PySem.W.nsIn K mainGlobals "_law_refused" = some (some (.ref f__law_refused)))
    (l__law_refused : K.lookup f__law_refused = some ⟨oc__law_refused, od__law_refused, .func (PySem.W.fnOf "_law_refused" "_law_refused" (defArgs s__law_refused) (defBody s__law_refused) (defScope s__law_refused) .none kV__law_refused dc__law_refused pm__law_refused an__law_refused cd__law_refused ct__law_refused), sl__law_refused⟩) (c__law_refused : PySem.W.codeIn K cd__law_refused "_law_refused" = true) (k__law_refused : PySem.W.keepIn K (.ref f__law_refused) = true)
    (a_law : PySem.W.nsIn K mainGlobals "law" = some (some (.ref f_law)))
    (l_law : K.lookup f_law = some ⟨oc_law, od_law, .func (PySem.W.fnOf "law" "law" (defArgs s_law) (defBody s_law) (defScope s_law) .none kV_law dc_law pm_law an_law cd_law ct_law), sl_law⟩) (c_law : PySem.W.codeIn K cd_law "law" = true) (k_law : PySem.W.keepIn K (.ref f_law) = true)
    (z_abs : PySem.W.nsIn K mainGlobals "abs" = some none)
    (z_bool : PySem.W.nsIn K mainGlobals "bool" = some none)
    (z_int : PySem.W.nsIn K mainGlobals "int" = some none)
    (z_isinstance : PySem.W.nsIn K mainGlobals "isinstance" = some none)
    (z_len : PySem.W.nsIn K mainGlobals "len" = some none)
    (z_list : PySem.W.nsIn K mainGlobals "list" = some none)
    (z_max : PySem.W.nsIn K mainGlobals "max" = some none)
    (z_range : PySem.W.nsIn K mainGlobals "range" = some none)
    (z_set : PySem.W.nsIn K mainGlobals "set" = some none)
    (z_sorted : PySem.W.nsIn K mainGlobals "sorted" = some none)
    (z_str : PySem.W.nsIn K mainGlobals "str" = some none)
    (z_sum : PySem.W.nsIn K mainGlobals "sum" = some none)
    (z_tuple : PySem.W.nsIn K mainGlobals "tuple" = some none)
    (w_CASES : constK K "CASES" = some (.tuple [.int 170, .int 204, .int 240]))
    (w_EVERY : constK K "EVERY" = some (.int 255))
    (a_InvalidGraph : PySem.W.nsIn K mainGlobals "InvalidGraph" = some (some (.ref C_InvalidGraph)))
    (x_InvalidGraph : K.lookup C_InvalidGraph = some (excClassObj nm_InvalidGraph qu_InvalidGraph C_InvalidGraph N_InvalidGraph bs_InvalidGraph bm_InvalidGraph true sn_InvalidGraph sub_InvalidGraph ab_InvalidGraph col_InvalidGraph dd_InvalidGraph m0_InvalidGraph m1_InvalidGraph m2_InvalidGraph m3_InvalidGraph m5_InvalidGraph "ValueError.__new__"))
    (v_InvalidGraph : PySem.HandSPX.refsVE bm_InvalidGraph = true)
    (sa_InvalidGraph : PySem.W.findIn K (.ref C_InvalidGraph) "__setattr__" = some (some (.builtin "object.__setattr__")))
    (ga_InvalidGraph : PySem.W.findIn K (.ref C_InvalidGraph) "__getattribute__" = some (some (.builtin "BaseException.__getattribute__")))
    (gg_InvalidGraph : PySem.W.findIn K (.ref C_InvalidGraph) "__getattr__" = some none)
    (n_InvalidGraph : PySem.W.findIn K (.ref C_InvalidGraph) "what" = some none)
    (i_InvalidGraph : PySem.W.findIn K (.ref C_InvalidGraph) "__init__" = some (some (.ref f_InvalidGraph)))
    (t_InvalidGraph : PySem.W.typeIn K (.ref f_InvalidGraph) = some (.type "function"))
    (l_InvalidGraph : K.lookup f_InvalidGraph = some ⟨oc_InvalidGraph, od_InvalidGraph, .func (PySem.W.fnX "__init__" "InvalidGraph.__init__" (defArgs s_InvalidGraph___init__) (defBody s_InvalidGraph___init__) (defScope s_InvalidGraph___init__) [("__class__", cc_InvalidGraph)] .none kV_InvalidGraph dc_InvalidGraph pm_InvalidGraph an_InvalidGraph (.ref cda_InvalidGraph) ct_InvalidGraph), sl_InvalidGraph⟩)
    (c_InvalidGraph : PySem.W.codeIn K (.ref cda_InvalidGraph) "InvalidGraph.__init__" = true)
    (kc_InvalidGraph : PySem.W.keepIn K (.ref C_InvalidGraph) = true)
    (e_InvalidGraph : PySem.W.subIn K (.ref C_InvalidGraph) (.type "BaseException") = some true)
    (tt_InvalidGraph : PySem.W.typeIn K (.ref C_InvalidGraph) = some (.type "type"))
    (hd_InvalidGraph : PySem.W.hasDictIn K C_InvalidGraph = true)
    (ic_InvalidGraph : PySem.W.isClsIn K C_InvalidGraph = true)
    (ss_InvalidGraph : PySem.W.subIn K (.ref C_InvalidGraph) (.ref C_InvalidGraph) = some true)
    (mr_InvalidGraph : PySem.W.mroIn K C_InvalidGraph (.ref C_InvalidGraph) = some true)
    (su_InvalidGraph : PySem.W.ks_superIn K C_InvalidGraph C_InvalidGraph "__init__" = some (some (.builtin "ValueError.__init__")))
    (sb_InvalidGraph : PySem.W.subIn K (.ref C_InvalidGraph) (.type "ValueError") = some true)
    (th_InvalidGraph : PySem.W.nsIn K cStatics "thirdparty.any" = some none)
    (ce_InvalidGraph : K.lookup cc_InvalidGraph = some ⟨cl_InvalidGraph, cld_InvalidGraph, .cell (some (.ref C_InvalidGraph)), csl_InvalidGraph⟩)
    (co_InvalidGraph : K.lookup cda_InvalidGraph = some ⟨ccl_InvalidGraph, cdd_InvalidGraph, .fields fv_InvalidGraph, ccs_InvalidGraph⟩)
    (cv_InvalidGraph : fv_InvalidGraph[2]? = some (.str fi_InvalidGraph tf_InvalidGraph))
    (cf_InvalidGraph : ((l.prog.main.file : Str) == fi_InvalidGraph) = true)
    (tp_InvalidGraph : (l.prog.main.scope.names.lookup ("super" : Str)).isSome = false)
    (zs_InvalidGraph : PySem.W.nsIn K mainGlobals "super" = some none)
    (a_InvalidTables : PySem.W.nsIn K mainGlobals "InvalidTables" = some (some (.ref C_InvalidTables)))
    (x_InvalidTables : K.lookup C_InvalidTables = some (excClassObj nm_InvalidTables qu_InvalidTables C_InvalidTables N_InvalidTables bs_InvalidTables bm_InvalidTables true sn_InvalidTables sub_InvalidTables ab_InvalidTables col_InvalidTables dd_InvalidTables m0_InvalidTables m1_InvalidTables m2_InvalidTables m3_InvalidTables m5_InvalidTables "ValueError.__new__"))
    (v_InvalidTables : PySem.HandSPX.refsVE bm_InvalidTables = true)
    (sa_InvalidTables : PySem.W.findIn K (.ref C_InvalidTables) "__setattr__" = some (some (.builtin "object.__setattr__")))
    (ga_InvalidTables : PySem.W.findIn K (.ref C_InvalidTables) "__getattribute__" = some (some (.builtin "BaseException.__getattribute__")))
    (gg_InvalidTables : PySem.W.findIn K (.ref C_InvalidTables) "__getattr__" = some none)
    (n_InvalidTables : PySem.W.findIn K (.ref C_InvalidTables) "what" = some none)
    (i_InvalidTables : PySem.W.findIn K (.ref C_InvalidTables) "__init__" = some (some (.ref f_InvalidTables)))
    (t_InvalidTables : PySem.W.typeIn K (.ref f_InvalidTables) = some (.type "function"))
    (l_InvalidTables : K.lookup f_InvalidTables = some ⟨oc_InvalidTables, od_InvalidTables, .func (PySem.W.fnX "__init__" "InvalidTables.__init__" (defArgs s_InvalidTables___init__) (defBody s_InvalidTables___init__) (defScope s_InvalidTables___init__) [("__class__", cc_InvalidTables)] .none kV_InvalidTables dc_InvalidTables pm_InvalidTables an_InvalidTables (.ref cda_InvalidTables) ct_InvalidTables), sl_InvalidTables⟩)
    (c_InvalidTables : PySem.W.codeIn K (.ref cda_InvalidTables) "InvalidTables.__init__" = true)
    (kc_InvalidTables : PySem.W.keepIn K (.ref C_InvalidTables) = true)
    (e_InvalidTables : PySem.W.subIn K (.ref C_InvalidTables) (.type "BaseException") = some true)
    (tt_InvalidTables : PySem.W.typeIn K (.ref C_InvalidTables) = some (.type "type"))
    (hd_InvalidTables : PySem.W.hasDictIn K C_InvalidTables = true)
    (ic_InvalidTables : PySem.W.isClsIn K C_InvalidTables = true)
    (ss_InvalidTables : PySem.W.subIn K (.ref C_InvalidTables) (.ref C_InvalidTables) = some true)
    (mr_InvalidTables : PySem.W.mroIn K C_InvalidTables (.ref C_InvalidTables) = some true)
    (su_InvalidTables : PySem.W.ks_superIn K C_InvalidTables C_InvalidTables "__init__" = some (some (.builtin "ValueError.__init__")))
    (sb_InvalidTables : PySem.W.subIn K (.ref C_InvalidTables) (.type "ValueError") = some true)
    (th_InvalidTables : PySem.W.nsIn K cStatics "thirdparty.any" = some none)
    (ce_InvalidTables : K.lookup cc_InvalidTables = some ⟨cl_InvalidTables, cld_InvalidTables, .cell (some (.ref C_InvalidTables)), csl_InvalidTables⟩)
    (co_InvalidTables : K.lookup cda_InvalidTables = some ⟨ccl_InvalidTables, cdd_InvalidTables, .fields fv_InvalidTables, ccs_InvalidTables⟩)
    (cv_InvalidTables : fv_InvalidTables[2]? = some (.str fi_InvalidTables tf_InvalidTables))
    (cf_InvalidTables : ((l.prog.main.file : Str) == fi_InvalidTables) = true)
    (tp_InvalidTables : (l.prog.main.scope.names.lookup ("super" : Str)).isSome = false)
    (zs_InvalidTables : PySem.W.nsIn K mainGlobals "super" = some none)
    (gk_InvalidGraph_InvalidTables : PySem.W.subIn K (.ref C_InvalidGraph) (.ref C_InvalidTables) = some false)
    (gk_InvalidTables_InvalidGraph : PySem.W.subIn K (.ref C_InvalidTables) (.ref C_InvalidGraph) = some false) :
    ∃ fd : FuncData, (∀ (s : Shared) (v : Value), BindsTo s fd ⟨[v], []⟩ [("script", v)]) ∧ ∀ base : Heap, K.In base → base.Ns mainGlobals mg → FnOk l.prog w K mg base CX0 10 fa fd ["script"] (spLaw K) := by
  have e := hfa.symm.trans (PySem.W.mg_of X G a_law)
  cases e
  have T : Txt K mg := ⟨PySem.W.mg_none_of X G z_abs, PySem.W.mg_none_of X G z_bool, PySem.W.mg_none_of X G z_int, PySem.W.mg_none_of X G z_isinstance, PySem.W.mg_none_of X G z_len, PySem.W.mg_none_of X G z_list, PySem.W.mg_none_of X G z_max, PySem.W.mg_none_of X G z_range, PySem.W.mg_none_of X G z_set, PySem.W.mg_none_of X G z_sorted, PySem.W.mg_none_of X G z_str, PySem.W.mg_none_of X G z_sum, PySem.W.mg_none_of X G z_tuple, const_of X G w_CASES, const_of X G w_EVERY⟩
  have F__law_deck := fun_mk (st := s__law_deck) l__law_deck c__law_deck k__law_deck
  have B__law_deck := F__law_deck.binds (ps := ["script", "cells", "each"]) fun _ _ _ _ _ _ us hl => match us, hl with | [_, _, _], _ => rfl
  have m__law_deck := PySem.W.mg_of X G a__law_deck
  have F__law_take := fun_mk (st := s__law_take) l__law_take c__law_take k__law_take
  have B__law_take := F__law_take.binds (ps := ["deck", "many"]) fun _ _ _ _ _ _ us hl => match us, hl with | [_, _], _ => rfl
  have m__law_take := PySem.W.mg_of X G a__law_take
  have F__law_plain := fun_mk (st := s__law_plain) l__law_plain c__law_plain k__law_plain
  have B__law_plain := F__law_plain.binds (ps := ["value"]) fun _ _ _ _ _ _ us hl => match us, hl with | [_], _ => rfl
  have m__law_plain := PySem.W.mg_of X G a__law_plain
  have F_is_number := fun_mk (st := s_is_number) l_is_number c_is_number k_is_number
  have B_is_number := F_is_number.binds (ps := ["value", "least", "bound"]) fun _ _ _ _ _ _ us hl => match us, hl with | [_, _, _], _ => rfl
  have m_is_number := PySem.W.mg_of X G a_is_number
  have F_are_numbers := fun_mk (st := s_are_numbers) l_are_numbers c_are_numbers k_are_numbers
  have B_are_numbers := F_are_numbers.binds (ps := ["values", "bound"]) fun _ _ _ _ _ _ us hl => match us, hl with | [_, _], _ => rfl
  have m_are_numbers := PySem.W.mg_of X G a_are_numbers
  have F_check_graph := fun_mk (st := s_check_graph) l_check_graph c_check_graph k_check_graph
  have B_check_graph := F_check_graph.binds (ps := ["graph"]) fun _ _ _ _ _ _ us hl => match us, hl with | [_], _ => rfl
  have m_check_graph := PySem.W.mg_of X G a_check_graph
  have F_walked := fun_mk (st := s_walked) l_walked c_walked k_walked
  have B_walked := F_walked.binds (ps := ["pairs", "values", "every"]) fun _ _ _ _ _ _ us hl => match us, hl with | [_, _, _], _ => rfl
  have m_walked := PySem.W.mg_of X G a_walked
  have F_taken := fun_mk (st := s_taken) l_taken c_taken k_taken
  have B_taken := F_taken.binds (ps := ["values", "edges", "every"]) fun _ _ _ _ _ _ us hl => match us, hl with | [_, _, _], _ => rfl
  have m_taken := PySem.W.mg_of X G a_taken
  have F_clock_fits := fun_mk (st := s_clock_fits) l_clock_fits c_clock_fits k_clock_fits
  have B_clock_fits := F_clock_fits.binds (ps := ["level", "lanes", "flops", "inputs"]) fun _ _ _ _ _ _ us hl => match us, hl with | [_, _, _, _], _ => rfl
  have m_clock_fits := PySem.W.mg_of X G a_clock_fits
  have F_graph_clock := fun_mk (st := s_graph_clock) l_graph_clock c_graph_clock k_graph_clock
  have B_graph_clock := F_graph_clock.binds (ps := ["graph", "every", "flops", "inputs"]) fun _ _ _ _ _ _ us hl => match us, hl with | [_, _, _, _], _ => rfl
  have m_graph_clock := PySem.W.mg_of X G a_graph_clock
  have F_step_graph := fun_mk (st := s_step_graph) l_step_graph c_step_graph k_step_graph
  have B_step_graph := F_step_graph.binds (ps := ["graph", "lanes", "flops", "inputs"]) fun _ _ _ _ _ _ us hl => match us, hl with | [_, _, _, _], _ => rfl
  have m_step_graph := PySem.W.mg_of X G a_step_graph
  have F_run_graph := fun_mk (st := s_run_graph) l_run_graph c_run_graph k_run_graph
  have B_run_graph := F_run_graph.binds (ps := ["graph", "lanes", "clocks"]) fun _ _ _ _ _ _ us hl => match us, hl with | [_, _, _], _ => rfl
  have m_run_graph := PySem.W.mg_of X G a_run_graph
  have F_hangs_on := fun_mk (st := s_hangs_on) l_hangs_on c_hangs_on k_hangs_on
  have B_hangs_on := F_hangs_on.binds (ps := ["byte", "at"]) fun _ _ _ _ _ _ us hl => match us, hl with | [_, _], _ => rfl
  have m_hangs_on := PySem.W.mg_of X G a_hangs_on
  have F_is_row := fun_mk (st := s_is_row) l_is_row c_is_row k_is_row
  have B_is_row := F_is_row.binds (ps := ["row", "bound"]) fun _ _ _ _ _ _ us hl => match us, hl with | [_, _], _ => rfl
  have m_is_row := PySem.W.mg_of X G a_is_row
  have F_check_tables := fun_mk (st := s_check_tables) l_check_tables c_check_tables k_check_tables
  have B_check_tables := F_check_tables.binds (ps := ["tables"]) fun _ _ _ _ _ _ us hl => match us, hl with | [_], _ => rfl
  have m_check_tables := PySem.W.mg_of X G a_check_tables
  have F_looked := fun_mk (st := s_looked) l_looked c_looked k_looked
  have B_looked := F_looked.binds (ps := ["row", "values", "every"]) fun _ _ _ _ _ _ us hl => match us, hl with | [_, _, _], _ => rfl
  have m_looked := PySem.W.mg_of X G a_looked
  have F_tables_clock := fun_mk (st := s_tables_clock) l_tables_clock c_tables_clock k_tables_clock
  have B_tables_clock := F_tables_clock.binds (ps := ["tables", "every", "flops", "inputs"]) fun _ _ _ _ _ _ us hl => match us, hl with | [_, _, _, _], _ => rfl
  have m_tables_clock := PySem.W.mg_of X G a_tables_clock
  have F_step_tables := fun_mk (st := s_step_tables) l_step_tables c_step_tables k_step_tables
  have B_step_tables := F_step_tables.binds (ps := ["tables", "lanes", "flops", "inputs"]) fun _ _ _ _ _ _ us hl => match us, hl with | [_, _, _, _], _ => rfl
  have m_step_tables := PySem.W.mg_of X G a_step_tables
  have F_run_tables := fun_mk (st := s_run_tables) l_run_tables c_run_tables k_run_tables
  have B_run_tables := F_run_tables.binds (ps := ["tables", "lanes", "clocks"]) fun _ _ _ _ _ _ us hl => match us, hl with | [_, _, _], _ => rfl
  have m_run_tables := PySem.W.mg_of X G a_run_tables
  have F_depth_of := fun_mk (st := s_depth_of) l_depth_of c_depth_of k_depth_of
  have B_depth_of := F_depth_of.binds (ps := ["tables"]) fun _ _ _ _ _ _ us hl => match us, hl with | [_], _ => rfl
  have m_depth_of := PySem.W.mg_of X G a_depth_of
  have F__law_edge := fun_mk (st := s__law_edge) l__law_edge c__law_edge k__law_edge
  have B__law_edge := F__law_edge.binds (ps := ["values", "edge", "every"]) fun _ _ _ _ _ _ us hl => match us, hl with | [_, _, _], _ => rfl
  have m__law_edge := PySem.W.mg_of X G a__law_edge
  have F__law_graph_values := fun_mk (st := s__law_graph_values) l__law_graph_values c__law_graph_values k__law_graph_values
  have B__law_graph_values := F__law_graph_values.binds (ps := ["graph", "flops", "inputs", "every"]) fun _ _ _ _ _ _ us hl => match us, hl with | [_, _, _, _], _ => rfl
  have m__law_graph_values := PySem.W.mg_of X G a__law_graph_values
  have F__law_graph_step := fun_mk (st := s__law_graph_step) l__law_graph_step c__law_graph_step k__law_graph_step
  have B__law_graph_step := F__law_graph_step.binds (ps := ["graph", "flops", "inputs", "every"]) fun _ _ _ _ _ _ us hl => match us, hl with | [_, _, _, _], _ => rfl
  have m__law_graph_step := PySem.W.mg_of X G a__law_graph_step
  have F__law_row := fun_mk (st := s__law_row) l__law_row c__law_row k__law_row
  have B__law_row := F__law_row.binds (ps := ["row", "values", "every"]) fun _ _ _ _ _ _ us hl => match us, hl with | [_, _, _], _ => rfl
  have m__law_row := PySem.W.mg_of X G a__law_row
  have F__law_table_step := fun_mk (st := s__law_table_step) l__law_table_step c__law_table_step k__law_table_step
  have B__law_table_step := F__law_table_step.binds (ps := ["tables", "flops", "inputs", "every"]) fun _ _ _ _ _ _ us hl => match us, hl with | [_, _, _, _], _ => rfl
  have m__law_table_step := PySem.W.mg_of X G a__law_table_step
  have F__law_lanes := fun_mk (st := s__law_lanes) l__law_lanes c__law_lanes k__law_lanes
  have B__law_lanes := F__law_lanes.binds (ps := ["deck", "many", "every"]) fun _ _ _ _ _ _ us hl => match us, hl with | [_, _, _], _ => rfl
  have m__law_lanes := PySem.W.mg_of X G a__law_lanes
  have F__law_graph := fun_mk (st := s__law_graph) l__law_graph c__law_graph k__law_graph
  have B__law_graph := F__law_graph.binds (ps := ["deck"]) fun _ _ _ _ _ _ us hl => match us, hl with | [_], _ => rfl
  have m__law_graph := PySem.W.mg_of X G a__law_graph
  have F__law_spread := fun_mk (st := s__law_spread) l__law_spread c__law_spread k__law_spread
  have B__law_spread := F__law_spread.binds (ps := ["deck", "many"]) fun _ _ _ _ _ _ us hl => match us, hl with | [_, _], _ => rfl
  have m__law_spread := PySem.W.mg_of X G a__law_spread
  have F__law_tables := fun_mk (st := s__law_tables) l__law_tables c__law_tables k__law_tables
  have B__law_tables := F__law_tables.binds (ps := ["deck"]) fun _ _ _ _ _ _ us hl => match us, hl with | [_], _ => rfl
  have m__law_tables := PySem.W.mg_of X G a__law_tables
  have F__law_depth := fun_mk (st := s__law_depth) l__law_depth c__law_depth k__law_depth
  have B__law_depth := F__law_depth.binds (ps := ["tables"]) fun _ _ _ _ _ _ us hl => match us, hl with | [_], _ => rfl
  have m__law_depth := PySem.W.mg_of X G a__law_depth
  have F__law_run_right := fun_mk (st := s__law_run_right) l__law_run_right c__law_run_right k__law_run_right
  have B__law_run_right := F__law_run_right.binds (ps := ["deck", "level", "run", "step", "walk"]) fun _ _ _ _ _ _ us hl => match us, hl with | [_, _, _, _, _], _ => rfl
  have m__law_run_right := PySem.W.mg_of X G a__law_run_right
  have F__law_refusal := fun_mk (st := s__law_refusal) l__law_refusal c__law_refusal k__law_refusal
  have B__law_refusal := F__law_refusal.binds (ps := ["ask", "level", "lanes", "flops", "inputs"]) fun _ _ _ _ _ _ us hl => match us, hl with | [_, _, _, _, _], _ => rfl
  have m__law_refusal := PySem.W.mg_of X G a__law_refusal
  have F__law_refused := fun_mk (st := s__law_refused) l__law_refused c__law_refused k__law_refused
  have B__law_refused := F__law_refused.binds (ps := ["deck"]) fun _ _ _ _ _ _ us hl => match us, hl with | [_], _ => rfl
  have m__law_refused := PySem.W.mg_of X G a__law_refused
  have F_law := fun_mk (st := s_law) l_law c_law k_law
  have B_law := F_law.binds (ps := ["script"]) fun _ _ _ _ _ _ us hl => match us, hl with | [_], _ => rfl
  have m_law := PySem.W.mg_of X G a_law
  have m_InvalidGraph := PySem.W.mg_of X G a_InvalidGraph
  have X_InvalidGraph : SupTxt l.prog K mg C_InvalidGraph cc_InvalidGraph cda_InvalidGraph := { ox := ⟨⟨nm_InvalidGraph, qu_InvalidGraph, N_InvalidGraph, bs_InvalidGraph, bm_InvalidGraph, sn_InvalidGraph, sub_InvalidGraph, ab_InvalidGraph, col_InvalidGraph, dd_InvalidGraph, m0_InvalidGraph, m1_InvalidGraph, m2_InvalidGraph, m3_InvalidGraph, m5_InvalidGraph, x_InvalidGraph, v_InvalidGraph⟩, sa_InvalidGraph, e_InvalidGraph, tt_InvalidGraph, kc_InvalidGraph⟩, mro := mr_InvalidGraph, sup := su_InvalidGraph, sub := sb_InvalidGraph, third := th_InvalidGraph, cell := ⟨_, _, _, ce_InvalidGraph⟩, code := ⟨_, _, _, _, _, _, co_InvalidGraph, cv_InvalidGraph, cf_InvalidGraph⟩, top := tp_InvalidGraph, mgs := PySem.W.mg_none_of X G zs_InvalidGraph }
  have R_InvalidGraph : ErrT K mg "InvalidGraph" C_InvalidGraph "what" := ⟨m_InvalidGraph, PySem.W.exm_ref e_InvalidGraph hd_InvalidGraph tt_InvalidGraph ss_InvalidGraph, ⟨ga_InvalidGraph, gg_InvalidGraph, e_InvalidGraph, hd_InvalidGraph⟩, n_InvalidGraph⟩
  have m_InvalidTables := PySem.W.mg_of X G a_InvalidTables
  have X_InvalidTables : SupTxt l.prog K mg C_InvalidTables cc_InvalidTables cda_InvalidTables := { ox := ⟨⟨nm_InvalidTables, qu_InvalidTables, N_InvalidTables, bs_InvalidTables, bm_InvalidTables, sn_InvalidTables, sub_InvalidTables, ab_InvalidTables, col_InvalidTables, dd_InvalidTables, m0_InvalidTables, m1_InvalidTables, m2_InvalidTables, m3_InvalidTables, m5_InvalidTables, x_InvalidTables, v_InvalidTables⟩, sa_InvalidTables, e_InvalidTables, tt_InvalidTables, kc_InvalidTables⟩, mro := mr_InvalidTables, sup := su_InvalidTables, sub := sb_InvalidTables, third := th_InvalidTables, cell := ⟨_, _, _, ce_InvalidTables⟩, code := ⟨_, _, _, _, _, _, co_InvalidTables, cv_InvalidTables, cf_InvalidTables⟩, top := tp_InvalidTables, mgs := PySem.W.mg_none_of X G zs_InvalidTables }
  have R_InvalidTables : ErrT K mg "InvalidTables" C_InvalidTables "what" := ⟨m_InvalidTables, PySem.W.exm_ref e_InvalidTables hd_InvalidTables tt_InvalidTables ss_InvalidTables, ⟨ga_InvalidTables, gg_InvalidTables, e_InvalidTables, hd_InvalidTables⟩, n_InvalidTables⟩
  refine ⟨PySem.W.fnOf "law" "law" (defArgs s_law) (defBody s_law) (defScope s_law) .none kV_law dc_law pm_law an_law cd_law ct_law, fun s v => .of_eq rfl, fun base _ _ => ?_⟩
  have c_InvalidGraph : Erm l.prog w K mg base 1 "InvalidGraph" C_InvalidGraph "what" := ⟨_, _, _, X_InvalidGraph.ox, i_InvalidGraph, t_InvalidGraph, ok_err X_InvalidGraph n_InvalidGraph l_InvalidGraph rfl c_InvalidGraph (nscope_by (by decide +kernel)) rfl rfl rfl rfl rfl (fun _ => ⟨_, rfl⟩), Binds.all (fun us hl => match us, hl with | [_, _], _ => rfl), m_InvalidGraph⟩
  have c_InvalidTables : Erm l.prog w K mg base 1 "InvalidTables" C_InvalidTables "what" := ⟨_, _, _, X_InvalidTables.ox, i_InvalidTables, t_InvalidTables, ok_err X_InvalidTables n_InvalidTables l_InvalidTables rfl c_InvalidTables (nscope_by (by decide +kernel)) rfl rfl rfl rfl rfl (fun _ => ⟨_, rfl⟩), Binds.all (fun us hl => match us, hl with | [_, _], _ => rfl), m_InvalidTables⟩
  have hTG : PySem.W.exmOne K (.ref C_InvalidTables) (.ref C_InvalidGraph) = some false := exm_not e_InvalidGraph hd_InvalidGraph tt_InvalidGraph gk_InvalidTables_InvalidGraph
  have c_take : Cal l.prog w K mg base 1 "_law_take" spTake [] := ⟨_, _, _, _, ok_take F__law_take T, m__law_take, F__law_take.kp, B__law_take, .nil⟩
  have c_num : Cal l.prog w K mg base 1 "is_number" spNum [] := ⟨_, _, _, _, ok_num F_is_number T, m_is_number, F_is_number.kp, B_is_number, .nil⟩
  have c_are : Cal l.prog w K mg base 2 "are_numbers" (spAre K) [] := ⟨_, _, _, _, ok_are F_are_numbers T c_num, m_are_numbers, F_are_numbers.kp, B_are_numbers, .nil⟩
  have c_hang : Cal l.prog w K mg base 1 "hangs_on" spHang [] := ⟨_, _, _, _, ok_hang F_hangs_on T, m_hangs_on, F_hangs_on.kp, B_hangs_on, .nil⟩
  have c_row : Cal l.prog w K mg base 3 "is_row" (spRow K) [] := ⟨_, _, _, _, ok_row F_is_row T c_num c_are c_hang, m_is_row, F_is_row.kp, B_is_row, .nil⟩
  have c_chkG : CalX l.prog w K mg base 4 "check_graph" (spChkG K C_InvalidGraph) := ⟨_, _, _, (ok_chkG F_check_graph T c_InvalidGraph c_num c_are).mono (by decide), m_check_graph, F_check_graph.kp, B_check_graph⟩
  have c_chkT : CalX l.prog w K mg base 4 "check_tables" (spChkT K C_InvalidTables) := ⟨_, _, _, ok_chkT F_check_tables T c_InvalidTables c_num c_are c_row, m_check_tables, F_check_tables.kp, B_check_tables⟩
  have c_fits : Cal l.prog w K mg base 3 "clock_fits" (spFits K) [] := ⟨_, _, _, _, ok_fits F_clock_fits T c_num c_are, m_clock_fits, F_clock_fits.kp, B_clock_fits, .nil⟩
  have c_walk : Cal l.prog w K mg base 1 "walked" (spWalk K) [] := ⟨_, _, _, _, ok_walk F_walked T, m_walked, F_walked.kp, B_walked, .nil⟩
  have c_taken : Cal l.prog w K mg base 1 "taken" (spTaken K) [] := ⟨_, _, _, _, ok_taken F_taken T, m_taken, F_taken.kp, B_taken, .nil⟩
  have c_clkG : Cal l.prog w K mg base 2 "graph_clock" (spClkG K) [] := ⟨_, _, _, _, ok_clkG F_graph_clock T c_walk c_taken, m_graph_clock, F_graph_clock.kp, B_graph_clock, .nil⟩
  have c_look : Cal l.prog w K mg base 1 "looked" (spLook K lookP) [] := ⟨_, _, _, _, ok_look F_looked T, m_looked, F_looked.kp, B_looked, .nil⟩
  have c_clkT : Cal l.prog w K mg base 2 "tables_clock" (spClkT K) [] := ⟨_, _, _, _, ok_clkT F_tables_clock T c_look, m_tables_clock, F_tables_clock.kp, B_tables_clock, .nil⟩
  have f_stepG := ok_stepG F_step_graph T c_InvalidGraph c_chkG c_fits c_clkG
  have f_stepT := ok_stepT F_step_tables T c_InvalidTables c_chkT c_fits c_clkT
  have f_runG := ok_runG F_run_graph T c_InvalidGraph c_chkG c_num c_fits c_clkG
  have f_runT := ok_runT F_run_tables T c_InvalidTables c_chkT c_num c_fits c_clkT
  have c_ledge : Cal l.prog w K mg base 1 "_law_edge" (spLEdge K) [] := ⟨_, _, _, _, ok_ledge F__law_edge T, m__law_edge, F__law_edge.kp, B__law_edge, .nil⟩
  have c_lgv : Cal l.prog w K mg base 2 "_law_graph_values" (spLVal K) [] := ⟨_, _, _, _, ok_lgv F__law_graph_values T c_ledge, m__law_graph_values, F__law_graph_values.kp, B__law_graph_values, .nil⟩
  have c_lrow : Cal l.prog w K mg base 1 "_law_row" (spLLook K) [] := ⟨_, _, _, _, ok_lrow F__law_row T, m__law_row, F__law_row.kp, B__law_row, .nil⟩
  have f_walkG := ok_lgs F__law_graph_step T c_ledge c_lgv
  have f_walkT := ok_lts F__law_table_step T c_lrow
  have c_lns : Cal l.prog w K mg base 2 "_law_lanes" spLns [] := ⟨_, _, _, _, ok_lns F__law_lanes T c_take, m__law_lanes, F__law_lanes.kp, B__law_lanes, .nil⟩
  have c_spr : Cal l.prog w K mg base 2 "_law_spread" spSpr [] := ⟨_, _, _, _, ok_spr F__law_spread T c_take, m__law_spread, F__law_spread.kp, B__law_spread, .nil⟩
  have c_plain : Cal l.prog w K mg base 5 "_law_plain" (spPlain K 5) [] := ⟨_, _, _, _, ok_plain F__law_plain T m__law_plain B__law_plain 5, m__law_plain, F__law_plain.kp, B__law_plain, .nil⟩
  have c_ref : Cal l.prog w K mg base 6 "_law_refusal" (spRef K) [] := ⟨_, _, _, _, ok_ref F__law_refusal T R_InvalidGraph R_InvalidTables hTG ⟨_, _, _, f_stepG, m_step_graph, F_step_graph.kp, B_step_graph⟩ ⟨_, _, _, f_stepT, m_step_tables, F_step_tables.kp, B_step_tables⟩ c_chkG c_chkT, m__law_refusal, F__law_refusal.kp, B__law_refusal, .nil⟩
  have soG : ∀ g : Gr, GrP g → ∀ L, StpOk L g.fst.length (gstep g) (gstep g) := fun g gp L => stp_refl (gp.l ▸ gstep_ok g L)
  have soT : ∀ g : Tb, TbP g → ∀ L, StpOk L g.fst.length (tstep g) (tstep g) := fun g gp L => stp_refl (gp.l ▸ tstep_ok gp L)
  exact ok_law F_law T {
    deck := ⟨_, _, _, _, ok_deck F__law_deck T, m__law_deck, F__law_deck.kp, B__law_deck, .nil⟩
    graph := ⟨_, _, _, _, ok_lg F__law_graph T c_take, m__law_graph, F__law_graph.kp, B__law_graph, .nil⟩
    tables := ⟨_, _, _, _, ok_lt F__law_tables T c_take c_spr, m__law_tables, F__law_tables.kp, B__law_tables, .nil⟩
    chkG := c_chkG
    chkT := c_chkT
    rr := ⟨_, _, _, _, ok_rr F__law_run_right T c_take c_lns c_plain, m__law_run_right, F__law_run_right.kp, B__law_run_right, .nil⟩
    dep := ⟨_, _, _, ok_dep F_depth_of T c_chkT, m_depth_of, F_depth_of.kp, B_depth_of⟩
    ldep := ⟨_, _, _, _, ok_ldep F__law_depth T, m__law_depth, F__law_depth.kp, B__law_depth, .nil⟩
    rfd := ⟨_, _, _, _, ok_rfd F__law_refused T c_take c_ref, m__law_refused, F__law_refused.kp, B__law_refused, .nil⟩
    gRunG := m_run_graph
    gStepG := m_step_graph
    gWalkG := m__law_graph_step
    gRunT := m_run_tables
    gStepT := m_step_tables
    gWalkT := m__law_table_step
    hRunG := fun g hs gp => ⟨_, _, _, f_runG.imp fun _ _ _ _ h => run_1 g hs (okGr_parts.mpr gp) hs.1 gp.f (soG g gp) h, F_run_graph.kp, B_run_graph, fun _ _ _ _ _ => cx_no⟩
    hStepG := fun g hs gp => ⟨_, _, _, f_stepG.imp fun _ _ _ _ h => step_1 g hs (okGr_parts.mpr gp) h, F_step_graph.kp, B_step_graph, fun _ _ _ _ _ => cx_no⟩
    hWalkG := fun g hs gp => ⟨_, _, _, (f_walkG.imp fun _ _ _ _ h => walk_1 g hs gp h).mono (by decide), F__law_graph_step.kp, B__law_graph_step, fun _ _ _ _ _ z => z⟩
    hRunT := fun g hs gp => ⟨_, _, _, f_runT.imp fun _ _ _ _ h => run_1 g hs (okTb_parts.mpr gp) hs.1 gp.f (soT g gp) h, F_run_tables.kp, B_run_tables, fun _ _ _ _ _ => cx_no⟩
    hStepT := fun g hs gp => ⟨_, _, _, f_stepT.imp fun _ _ _ _ h => step_1 g hs (okTb_parts.mpr gp) h, F_step_tables.kp, B_step_tables, fun _ _ _ _ _ => cx_no⟩
    hWalkT := fun g hs gp => ⟨_, _, _, (f_walkT.imp fun _ _ _ _ h => walk_1 g hs gp h).mono (by decide), F__law_table_step.kp, B__law_table_step, fun _ _ _ _ _ z => z⟩ }
theorem walk {l : PySem.W.OpenLaw} {q : Program} {loose : List Str} {XP : (Str → Option Value) → Heap → Prop} {YP : World → Heap → Prop} {d : DefRec} {K : Params → PySem.W.Frag} (hn : l.most = some 63) (hdf : d.params.defaults = [])
    (hY : ∀ (w : World) (h : Heap), YP w h → (K w.params).In h)
    (F : ∀ (w : World) (mg : Str → Option Value) (fa : Addr) (h : Heap), (K w.params).In h → h.Ns mainGlobals mg → mg d.name = some (.ref fa) →
      ∃ fd : FuncData, (∀ (s : Shared) (u : Value), BindsTo s fd ⟨[u], []⟩ [("script", u)]) ∧ ∀ base : Heap, (K w.params).In base → base.Ns mainGlobals mg → FnOk l.prog w (K w.params) mg base CX0 10 fa fd ["script"] (spLaw (K w.params))) :
    PySem.W.WalkO q loose XP YP l.row.toRowW d [] (fun f vs => PySem.call f vs) :=
  L2.walk_of (n := 63) (k := 10) (x := "script") (CX := fun _ => CX0) (sp := fun w => spLaw (K w.params)) hn (by decide) hdf ⟨rfl, by decide, by decide⟩ hY F (fun _ _ a ns hl _ hS => ⟨a, ns, rfl, hS, hl, fun _ => rfl⟩) fun _ _ _ _ _ z => z
end Q80

open PySem PySem.W PyProof.Rows in
set_option maxRecDepth 100000 in
set_option maxHeartbeats 0 in
theorem PySem.Challenge.cw_gatework_k80_whole_graphs_and_tables_run_holds : PySem.Challenge.rw_gatework_k80_whole_graphs_and_tables_run.Holds := by
  w_on; o_law; k_head; (case hw => w_witness2)
  k_fill
  refine Q80.walk (l := PySem.Challenge.rw_gatework_k80_whole_graphs_and_tables_run) rfl rfl (fun w h Y => PySem.W.kIn_of Y) ?F
  case F =>
    intro w mg fa h KX G hmg
    refine' Q80.all_mk KX G hmg ?a__law_deck ?l__law_deck ?c__law_deck ?k__law_deck ?a__law_take ?l__law_take ?c__law_take ?k__law_take ?a__law_plain ?l__law_plain ?c__law_plain ?k__law_plain ?a_is_number ?l_is_number ?c_is_number ?k_is_number ?a_are_numbers ?l_are_numbers ?c_are_numbers ?k_are_numbers ?a_check_graph ?l_check_graph ?c_check_graph ?k_check_graph ?a_walked ?l_walked ?c_walked ?k_walked ?a_taken ?l_taken ?c_taken ?k_taken ?a_clock_fits ?l_clock_fits ?c_clock_fits ?k_clock_fits ?a_graph_clock ?l_graph_clock ?c_graph_clock ?k_graph_clock ?a_step_graph ?l_step_graph ?c_step_graph ?k_step_graph ?a_run_graph ?l_run_graph ?c_run_graph ?k_run_graph ?a_hangs_on ?l_hangs_on ?c_hangs_on ?k_hangs_on ?a_is_row ?l_is_row ?c_is_row ?k_is_row ?a_check_tables ?l_check_tables ?c_check_tables ?k_check_tables ?a_looked ?l_looked ?c_looked ?k_looked ?a_tables_clock ?l_tables_clock ?c_tables_clock ?k_tables_clock ?a_step_tables ?l_step_tables ?c_step_tables ?k_step_tables ?a_run_tables ?l_run_tables ?c_run_tables ?k_run_tables ?a_depth_of ?l_depth_of ?c_depth_of ?k_depth_of ?a__law_edge ?l__law_edge ?c__law_edge ?k__law_edge ?a__law_graph_values ?l__law_graph_values ?c__law_graph_values ?k__law_graph_values ?a__law_graph_step ?l__law_graph_step ?c__law_graph_step ?k__law_graph_step ?a__law_row ?l__law_row ?c__law_row ?k__law_row ?a__law_table_step ?l__law_table_step ?c__law_table_step ?k__law_table_step ?a__law_lanes ?l__law_lanes ?c__law_lanes ?k__law_lanes ?a__law_graph ?l__law_graph ?c__law_graph ?k__law_graph ?a__law_spread ?l__law_spread ?c__law_spread ?k__law_spread ?a__law_tables ?l__law_tables ?c__law_tables ?k__law_tables ?a__law_depth ?l__law_depth ?c__law_depth ?k__law_depth ?a__law_run_right ?l__law_run_right ?c__law_run_right ?k__law_run_right ?a__law_refusal ?l__law_refusal ?c__law_refusal ?k__law_refusal ?a__law_refused ?l__law_refused ?c__law_refused ?k__law_refused ?a_law ?l_law ?c_law ?k_law ?z_abs ?z_bool ?z_int ?z_isinstance ?z_len ?z_list ?z_max ?z_range ?z_set ?z_sorted ?z_str ?z_sum ?z_tuple ?w_CASES ?w_EVERY ?a_InvalidGraph ?x_InvalidGraph ?v_InvalidGraph ?sa_InvalidGraph ?ga_InvalidGraph ?gg_InvalidGraph ?n_InvalidGraph ?i_InvalidGraph ?t_InvalidGraph ?l_InvalidGraph ?c_InvalidGraph ?kc_InvalidGraph ?e_InvalidGraph ?tt_InvalidGraph ?hd_InvalidGraph ?ic_InvalidGraph ?ss_InvalidGraph ?mr_InvalidGraph ?su_InvalidGraph ?sb_InvalidGraph ?th_InvalidGraph ?ce_InvalidGraph ?co_InvalidGraph ?cv_InvalidGraph ?cf_InvalidGraph ?tp_InvalidGraph ?zs_InvalidGraph ?a_InvalidTables ?x_InvalidTables ?v_InvalidTables ?sa_InvalidTables ?ga_InvalidTables ?gg_InvalidTables ?n_InvalidTables ?i_InvalidTables ?t_InvalidTables ?l_InvalidTables ?c_InvalidTables ?kc_InvalidTables ?e_InvalidTables ?tt_InvalidTables ?hd_InvalidTables ?ic_InvalidTables ?ss_InvalidTables ?mr_InvalidTables ?su_InvalidTables ?sb_InvalidTables ?th_InvalidTables ?ce_InvalidTables ?co_InvalidTables ?cv_InvalidTables ?cf_InvalidTables ?tp_InvalidTables ?zs_InvalidTables ?gk_InvalidGraph_InvalidTables ?gk_InvalidTables_InvalidGraph
    (case a_InvalidGraph => k_is)
    (case a_InvalidTables => k_is)
    (case a__law_deck => k_is)
    (case l__law_deck => k_is)
    (case c__law_deck => k_is)
    (case k__law_deck => k_is)
    (case a__law_take => k_is)
    (case l__law_take => k_is)
    (case c__law_take => k_is)
    (case k__law_take => k_is)
    (case a__law_plain => k_is)
    (case l__law_plain => k_is)
    (case c__law_plain => k_is)
    (case k__law_plain => k_is)
    (case a_is_number => k_is)
    (case l_is_number => k_is)
    (case c_is_number => k_is)
    (case k_is_number => k_is)
    (case a_are_numbers => k_is)
    (case l_are_numbers => k_is)
    (case c_are_numbers => k_is)
    (case k_are_numbers => k_is)
    (case a_check_graph => k_is)
    (case l_check_graph => k_is)
    (case c_check_graph => k_is)
    (case k_check_graph => k_is)
    (case a_walked => k_is)
    (case l_walked => k_is)
    (case c_walked => k_is)
    (case k_walked => k_is)
    (case a_taken => k_is)
    (case l_taken => k_is)
    (case c_taken => k_is)
    (case k_taken => k_is)
    (case a_clock_fits => k_is)
    (case l_clock_fits => k_is)
    (case c_clock_fits => k_is)
    (case k_clock_fits => k_is)
    (case a_graph_clock => k_is)
    (case l_graph_clock => k_is)
    (case c_graph_clock => k_is)
    (case k_graph_clock => k_is)
    (case a_step_graph => k_is)
    (case l_step_graph => k_is)
    (case c_step_graph => k_is)
    (case k_step_graph => k_is)
    (case a_run_graph => k_is)
    (case l_run_graph => k_is)
    (case c_run_graph => k_is)
    (case k_run_graph => k_is)
    (case a_hangs_on => k_is)
    (case l_hangs_on => k_is)
    (case c_hangs_on => k_is)
    (case k_hangs_on => k_is)
    (case a_is_row => k_is)
    (case l_is_row => k_is)
    (case c_is_row => k_is)
    (case k_is_row => k_is)
    (case a_check_tables => k_is)
    (case l_check_tables => k_is)
    (case c_check_tables => k_is)
    (case k_check_tables => k_is)
    (case a_looked => k_is)
    (case l_looked => k_is)
    (case c_looked => k_is)
    (case k_looked => k_is)
    (case a_tables_clock => k_is)
    (case l_tables_clock => k_is)
    (case c_tables_clock => k_is)
    (case k_tables_clock => k_is)
    (case a_step_tables => k_is)
    (case l_step_tables => k_is)
    (case c_step_tables => k_is)
    (case k_step_tables => k_is)
    (case a_run_tables => k_is)
    (case l_run_tables => k_is)
    (case c_run_tables => k_is)
    (case k_run_tables => k_is)
    (case a_depth_of => k_is)
    (case l_depth_of => k_is)
    (case c_depth_of => k_is)
    (case k_depth_of => k_is)
    (case a__law_edge => k_is)
    (case l__law_edge => k_is)
    (case c__law_edge => k_is)
    (case k__law_edge => k_is)
    (case a__law_graph_values => k_is)
    (case l__law_graph_values => k_is)
    (case c__law_graph_values => k_is)
    (case k__law_graph_values => k_is)
    (case a__law_graph_step => k_is)
    (case l__law_graph_step => k_is)
    (case c__law_graph_step => k_is)
    (case k__law_graph_step => k_is)
    (case a__law_row => k_is)
    (case l__law_row => k_is)
    (case c__law_row => k_is)
    (case k__law_row => k_is)
    (case a__law_table_step => k_is)
    (case l__law_table_step => k_is)
    (case c__law_table_step => k_is)
    (case k__law_table_step => k_is)
    (case a__law_lanes => k_is)
    (case l__law_lanes => k_is)
    (case c__law_lanes => k_is)
    (case k__law_lanes => k_is)
    (case a__law_graph => k_is)
    (case l__law_graph => k_is)
    (case c__law_graph => k_is)
    (case k__law_graph => k_is)
    (case a__law_spread => k_is)
    (case l__law_spread => k_is)
    (case c__law_spread => k_is)
    (case k__law_spread => k_is)
    (case a__law_tables => k_is)
    (case l__law_tables => k_is)
    (case c__law_tables => k_is)
    (case k__law_tables => k_is)
    (case a__law_depth => k_is)
    (case l__law_depth => k_is)
    (case c__law_depth => k_is)
    (case k__law_depth => k_is)
    (case a__law_run_right => k_is)
    (case l__law_run_right => k_is)
    (case c__law_run_right => k_is)
    (case k__law_run_right => k_is)
    (case a__law_refusal => k_is)
    (case l__law_refusal => k_is)
    (case c__law_refusal => k_is)
    (case k__law_refusal => k_is)
    (case a__law_refused => k_is)
    (case l__law_refused => k_is)
    (case c__law_refused => k_is)
    (case k__law_refused => k_is)
    (case a_law => k_is)
    (case l_law => k_is)
    (case c_law => k_is)
    (case k_law => k_is)
    (case z_abs => k_is)
    (case z_bool => k_is)
    (case z_int => k_is)
    (case z_isinstance => k_is)
    (case z_len => k_is)
    (case z_list => k_is)
    (case z_max => k_is)
    (case z_range => k_is)
    (case z_set => k_is)
    (case z_sorted => k_is)
    (case z_str => k_is)
    (case z_sum => k_is)
    (case z_tuple => k_is)
    (case w_CASES => kernel_rfl)
    (case w_EVERY => kernel_rfl)
    (case x_InvalidGraph => k_is)
    (case v_InvalidGraph => rfl)
    (case sa_InvalidGraph => k_is)
    (case ga_InvalidGraph => k_is)
    (case gg_InvalidGraph => k_is)
    (case n_InvalidGraph => k_is)
    (case i_InvalidGraph => k_is)
    (case t_InvalidGraph => k_is)
    (case l_InvalidGraph => k_is)
    (case c_InvalidGraph => k_is)
    (case kc_InvalidGraph => k_is)
    (case e_InvalidGraph => k_is)
    (case tt_InvalidGraph => k_is)
    (case hd_InvalidGraph => k_is)
    (case ic_InvalidGraph => k_is)
    (case ss_InvalidGraph => k_is)
    (case mr_InvalidGraph => k_is)
    (case su_InvalidGraph => ks_is)
    (case sb_InvalidGraph => k_is)
    (case th_InvalidGraph => k_is)
    (case ce_InvalidGraph => k_is)
    (case co_InvalidGraph => k_is)
    (case cv_InvalidGraph => rfl)
    (case cf_InvalidGraph => decide +kernel)
    (case tp_InvalidGraph => decide +kernel)
    (case zs_InvalidGraph => k_is)
    (case x_InvalidTables => k_is)
    (case v_InvalidTables => rfl)
    (case sa_InvalidTables => k_is)
    (case ga_InvalidTables => k_is)
    (case gg_InvalidTables => k_is)
    (case n_InvalidTables => k_is)
    (case i_InvalidTables => k_is)
    (case t_InvalidTables => k_is)
    (case l_InvalidTables => k_is)
    (case c_InvalidTables => k_is)
    (case kc_InvalidTables => k_is)
    (case e_InvalidTables => k_is)
    (case tt_InvalidTables => k_is)
    (case hd_InvalidTables => k_is)
    (case ic_InvalidTables => k_is)
    (case ss_InvalidTables => k_is)
    (case mr_InvalidTables => k_is)
    (case su_InvalidTables => ks_is)
    (case sb_InvalidTables => k_is)
    (case th_InvalidTables => k_is)
    (case ce_InvalidTables => k_is)
    (case co_InvalidTables => k_is)
    (case cv_InvalidTables => rfl)
    (case cf_InvalidTables => decide +kernel)
    (case tp_InvalidTables => decide +kernel)
    (case zs_InvalidTables => k_is)
    (case gk_InvalidGraph_InvalidTables => k_is)
    (case gk_InvalidTables_InvalidGraph => k_is)

