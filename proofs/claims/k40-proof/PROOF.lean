import PyProof.Rows.All
import Wide.All
import OpenK.AllK
import Wide.FinOn
import HandS.ForMost
import HandS.Codes
import HandS.IsInst
import HandS.Deep
import HandS.Style
import HandS.Wide
import HandS.TupAny
import HandS.Nested
import HandS.ExcInit
import HandS.ExcField
import HandS.TryOnly
import HandS.WordsExc
import KE.KExcSuper
import HandS.ExcIs
import HandS.Flow
import HandS.Conv
import HandS.Strs
import HandS.SetFor
import HandS.Rev
import PySem.Challenge.RW_gatework_k40_whole_runs_of_the_machine
set_option Elab.async false
set_option linter.all false
set_option maxRecDepth 100000
set_option maxHeartbeats 8000000
/-! ## general lemmas about the abstract heap and data (my own) -/
namespace G
open PySem L2

theorem same_new {H : Hp} {p : Addr} {o : HO} (h : H p = none) : Same H (upd H p o) := fun b u e => by
  rw [upd_ne (ne_of_none e h)]
  exact e
theorem same_mut {H H' : Hp} {p : Addr} {o : HO} (e : Same H H') (h : H p = none) : Same H (upd H' p o) := fun a u ha => by
  rw [upd_ne (ne_of_none ha h)]
  exact e a u ha
/-- all but what stands at a is as it was -/
def But (a : Addr) (H H' : Hp) : Prop := ∀ b o, b ≠ a → H b = some o → H' b = some o
theorem But.refl (a : Addr) (H : Hp) : But a H H := fun _ _ _ h => h
theorem But.trans {a : Addr} {H H1 H2 : Hp} (x : But a H H1) (y : But a H1 H2) : But a H H2 := fun b o n h => y b o n (x b o n h)
theorem But.of {a : Addr} {H H' : Hp} (x : Same H H') : But a H H' := fun b o _ h => x b o h
theorem but_upd {H : Hp} {p : Addr} {o : HO} : But p H (upd H p o) := fun b u n e => by
  rw [upd_ne n]
  exact e
theorem upd_self {H : Hp} {a : Addr} {o : HO} (h : H a = some o) : upd H a o = H := by
  funext b
  unfold upd
  split
  · rename_i e
    rw [e, h]
  · rfl
theorem Same.tup {K : PySem.W.Frag} {H H' : Hp} {a : Addr} {xs : List V} (e : Same H H') (h : SqT K H a xs) : SqT K H' a xs := by
  rcases h with (h | ⟨o, h⟩) | h
  · exact .inl (.inl (e _ _ h))
  · exact .inl (.inr ⟨o, e _ _ h⟩)
  · exact .inr h
theorem SqT.of' {K : PySem.W.Frag} {H : Hp} {a : Addr} {xs : List V} (h : H a = some (.tup xs)) : SqT K H a xs := .inl (.inl h)
theorem SqL.of' {K : PySem.W.Frag} {H : Hp} {a : Addr} {xs : List V} (h : H a = some (.lst xs)) : SqL K H a xs := .inl (.inl h)

mutual
theorem dp_same {K : PySem.W.Frag} {H H' : Hp} (e : Same H H') : ∀ {v : V} {d : PyData}, Dp K H v d → Dp K H' v d
  | _, _, .non => .non
  | _, _, .bl b => .bl b
  | _, _, .int i => .int i
  | _, _, .str x => .str x
  | _, _, .lst h a => .lst (Same.seq e h) (dps_same e a)
  | _, _, .tup h a => .tup (Same.tup e h) (dps_same e a)
theorem dps_same {K : PySem.W.Frag} {H H' : Hp} (e : Same H H') : ∀ {v : List V} {d : List PyData}, DpAll K H v d → DpAll K H' v d
  | _, _, .nil => .nil
  | _, _, .cons h t => .cons (dp_same e h) (dps_same e t)
end
theorem dp_int {K : PySem.W.Frag} {H : Hp} {v : V} {i : Int} (h : Dp K H v (.int i)) : v = .int i := by cases h; rfl
theorem dp_str {K : PySem.W.Frag} {H : Hp} {v : V} {i : Str} (h : Dp K H v (.str i)) : v = .str i := by cases h; rfl
theorem dp_bl {K : PySem.W.Frag} {H : Hp} {v : V} {i : Bool} (h : Dp K H v (.bool i)) : v = .bl i := by cases h; rfl
theorem dp_non {K : PySem.W.Frag} {H : Hp} {v : V} (h : Dp K H v .none) : v = .non := by cases h; rfl
theorem dp_lst {K : PySem.W.Frag} {H : Hp} {v : V} {ds : List PyData} (h : Dp K H v (.list ds)) : ∃ a xs, v = .ref a ∧ SqL K H a xs ∧ DpAll K H xs ds := by
  cases h with
  | lst h a => exact ⟨_, _, rfl, h, a⟩
theorem dp_tup {K : PySem.W.Frag} {H : Hp} {v : V} {ds : List PyData} (h : Dp K H v (.tuple ds)) : ∃ a xs, v = .ref a ∧ SqT K H a xs ∧ DpAll K H xs ds := by
  cases h with
  | tup h a => exact ⟨_, _, rfl, h, a⟩
theorem dps_len {K : PySem.W.Frag} {H : Hp} : ∀ {vs : List V} {ds : List PyData}, DpAll K H vs ds → vs.length = ds.length
  | _, _, .nil => rfl
  | _, _, .cons _ t => congrArg (· + 1) (dps_len t)
theorem dps_get {K : PySem.W.Frag} {H : Hp} : ∀ {vs : List V} {ds : List PyData} {i : Nat} {d : PyData}, DpAll K H vs ds → ds[i]? = some d → ∃ v, vs[i]? = some v ∧ Dp K H v d
  | _, _, i, d, .nil, e => by simp at e
  | _, _, 0, d, .cons h t, e => by
    simp at e
    subst e
    exact ⟨_, rfl, h⟩
  | _, _, i + 1, d, .cons h t, e => by
    obtain ⟨v, h1, h2⟩ := dps_get (i := i) (d := d) t (by simpa using e)
    exact ⟨v, by simpa using h1, h2⟩
theorem dps_getv {K : PySem.W.Frag} {H : Hp} : ∀ {vs : List V} {ds : List PyData} {i : Nat} {v : V}, DpAll K H vs ds → vs[i]? = some v → ∃ d, ds[i]? = some d ∧ Dp K H v d
  | _, _, i, d, .nil, e => by simp at e
  | _, _, 0, d, .cons h t, e => by
    simp at e
    subst e
    exact ⟨_, rfl, h⟩
  | _, _, i + 1, d, .cons h t, e => by
    obtain ⟨v, h1, h2⟩ := dps_getv (i := i) (v := d) t (by simpa using e)
    exact ⟨v, by simpa using h1, h2⟩
theorem dps_app {K : PySem.W.Frag} {H : Hp} : ∀ {vs ws : List V} {ds es : List PyData}, DpAll K H vs ds → DpAll K H ws es → DpAll K H (vs ++ ws) (ds ++ es)
  | _, _, _, _, .nil, t => t
  | _, _, _, _, .cons h r, t => .cons h (dps_app r t)
theorem dps_snoc {K : PySem.W.Frag} {H : Hp} {vs : List V} {w : V} {ds : List PyData} {e : PyData} (h : DpAll K H vs ds) (t : Dp K H w e) : DpAll K H (vs ++ [w]) (ds ++ [e]) := dps_app h (.cons t .nil)
theorem dps_take {K : PySem.W.Frag} {H : Hp} : ∀ {vs : List V} {ds : List PyData} (n : Nat), DpAll K H vs ds → DpAll K H (vs.take n) (ds.take n)
  | _, _, 0, _ => by simpa using .nil
  | _, _, _ + 1, .nil => .nil
  | _, _, n + 1, .cons h t => .cons h (dps_take n t)
theorem dps_drop {K : PySem.W.Frag} {H : Hp} : ∀ {vs : List V} {ds : List PyData} (n : Nat), DpAll K H vs ds → DpAll K H (vs.drop n) (ds.drop n)
  | _, _, 0, h => h
  | _, _, _ + 1, .nil => .nil
  | _, _, n + 1, .cons h t => dps_drop n t
theorem dps_rev {K : PySem.W.Frag} {H : Hp} : ∀ {vs : List V} {ds : List PyData}, DpAll K H vs ds → DpAll K H vs.reverse ds.reverse
  | _, _, .nil => .nil
  | _, _, .cons h t => by
    rw [List.reverse_cons, List.reverse_cons]
    exact dps_snoc (dps_rev t) h
theorem dps_set {K : PySem.W.Frag} {H : Hp} {v : V} {d : PyData} (hd : Dp K H v d) : ∀ {vs : List V} {ds : List PyData} (n : Nat), DpAll K H vs ds → DpAll K H (vs.set n v) (ds.set n d)
  | _, _, _, .nil => .nil
  | _, _, 0, .cons _ t => .cons hd t
  | _, _, n + 1, .cons h t => .cons h (dps_set hd n t)
theorem dps_ints {K : PySem.W.Frag} {H : Hp} : ∀ (ns : List Int), DpAll K H (ns.map V.int) (ns.map PyData.int)
  | [] => .nil
  | n :: r => .cons (.int n) (dps_ints r)
theorem dps_ints_of {K : PySem.W.Frag} {H : Hp} : ∀ {ns : List Int} {vs : List V}, DpAll K H vs (ns.map PyData.int) → vs = ns.map V.int
  | [], _, .nil => rfl
  | n :: r, _, .cons h t => by
    cases dp_int h
    rw [dps_ints_of t]
    rfl
/-- the name of a datum's type -/
def tyD : PyData → String
  | .none => "NoneType"
  | .bool _ => "bool"
  | .int _ => "int"
  | .str _ => "str"
  | .list _ => "list"
  | .tuple _ => "tuple"
  | .dict _ => "dict"
theorem dp_ty {K : PySem.W.Frag} {H : Hp} {v : V} {d : PyData} (h : Dp K H v d) : TyX K H v (.type (tyD d)) := by
  cases h with
  | non => exact .base .non
  | bl b => exact .base (.bl b)
  | int i => exact .base (.int i)
  | str x => exact .base (.str x)
  | lst h a =>
    rcases h with (h | ⟨o, h⟩) | ⟨o, _, _, h1, h2, _⟩
    · exact .base (.lst h)
    · exact .base (.frz h)
    · exact .kList h1 h2
  | tup h a =>
    rcases h with (h | ⟨o, h⟩) | ⟨o, _, _, h1, h2, _⟩
    · exact .base (.tup h)
    · exact .fTuple h
    · exact .kTuple h1 h2
/-- isinstance(x, T) of data: the answers -/
def isT (t T : String) : Bool := decide (t = T) || (decide (t = "bool") && decide (T = "int"))
def isD (T : String) (d : PyData) : Bool := isT (tyD d) T
theorem kit_tab : ∀ t ∈ ["NoneType", "bool", "int", "str", "list", "tuple", "dict"], ∀ T ∈ ["int", "bool", "str", "list", "tuple", "dict"], kitB t T = some (isT t T) := by decide +kernel
theorem tyD_mem (d : PyData) : tyD d ∈ ["NoneType", "bool", "int", "str", "list", "tuple", "dict"] := by cases d <;> simp [tyD]
theorem kitD (K : PySem.W.Frag) (d : PyData) (T : String) (hT : T ∈ ["int", "bool", "str", "list", "tuple", "dict"]) : PySem.W.kitOne K (.type (tyD d)) (.type T) = some (isD T d) :=
  kit_ty (kit_tab _ (tyD_mem d) T hT)
theorem kitD2 (K : PySem.W.Frag) (d : PyData) (S T : String) (hS : S ∈ ["int", "bool", "str", "list", "tuple", "dict"]) (hT : T ∈ ["int", "bool", "str", "list", "tuple", "dict"]) :
    PySem.W.kitAny K (.type (tyD d)) [.type S, .type T] = some (isD S d || isD T d) := by
  refine kitAny_cons (kitD K d S hS) (fun h => ?_) (fun h => by rw [h]; rfl)
  rw [h]
  refine kitAny_cons (kitD K d T hT) (fun h => ?_) (fun h => by rw [h]; rfl)
  rw [h]
  rfl
theorem clsv2 (S T : String) : Paired ClsV [V.ty S, V.ty T] [Value.type S, Value.type T] := .cons (.ty S) (.cons (.ty T) .nil)
/-- items of a list, a tuple by a number that is not below 0 -/
theorem at_nat {xs : List V} {i : Nat} {v : V} (h : xs[i]? = some v) : atI xs (i : Int) = some v := atI_nat h
/-- only a deck is known: some ints, not many -/
def Deck (H : Hp) (a : Addr) : Prop := ∃ ds : List Int, ds.length ≤ 2000 ∧ H a = some (.lst (ds.map V.int))
theorem Deck.same {H H' : Hp} {a : Addr} (h : Deck H a) (e : Same H H') : Deck H' a := let ⟨ds, h1, h2⟩ := h; ⟨ds, h1, e _ _ h2⟩

/-! ### the frame: what a call does not see stands as it was -/
/-- without the lists of S -/
def out (H : Hp) (S : Addr → Bool) : Hp := fun b => if S b = true then none else H b
/-- the lists of S put back -/
def back (H H' : Hp) (S : Addr → Bool) : Hp := fun b => if S b = true then H b else H' b
theorem out_in {H : Hp} {S : Addr → Bool} {b : Addr} (h : S b = true) : out H S b = none := by unfold out; rw [if_pos h]
theorem out_ne {H : Hp} {S : Addr → Bool} {b : Addr} (h : ¬ S b = true) : out H S b = H b := by unfold out; rw [if_neg h]
theorem back_in {H H' : Hp} {S : Addr → Bool} {b : Addr} (h : S b = true) : back H H' S b = H b := by unfold back; rw [if_pos h]
theorem back_ne {H H' : Hp} {S : Addr → Bool} {b : Addr} (h : ¬ S b = true) : back H H' S b = H' b := by unfold back; rw [if_neg h]
/-- a promise that may be used over a part of the heap -/
@[irreducible] def fr (sp : Sp) : Sp := fun vs H Q E => ∃ S : Addr → Bool, (∀ b, S b = true → ∃ xs, H b = some (.lst xs)) ∧ sp vs (out H S) (fun v H' => (∀ b, S b = true → H' b = none) → Q v (back H H' S)) E
theorem fn_fr {P : Program} {w : World} {K : PySem.W.Frag} {mg : Str → Option Value} {base : Heap} {k : Nat} {f : Addr} {fd : FuncData} {ps : List Str} {sp : Sp} (F : FnOk P w K mg base CX0 k f fd ps sp) : FnOk P w K mg base CX0 k f fd ps (fr sp) := by
  refine ⟨fun vs H Q E hs => by unfold fr at hs; obtain ⟨S, _, h⟩ := hs; exact F.len _ _ _ _ h, fun A outer s H args us vs Q E hr e0 hb hv hs => ?_⟩
  unfold fr at hs
  obtain ⟨S, hS, h⟩ := hs
  have hne : ∀ b, H b = none → ¬ S b = true := fun b n q => by
    obtain ⟨xs, e⟩ := hS b q
    rw [n] at e
    cases e
  have hout : ∀ b, H b = none → out H S b = none := fun b n => by rw [out_ne (hne b n)]; exact n
  have hoth : ∀ b o, H b = some o → (∀ xs, o ≠ .lst xs) → ¬ S b = true := fun b o e n q => by
    obtain ⟨xs, e'⟩ := hS b q
    rw [e] at e'
    exact n xs (Option.some.inj e')
  have okout : HOk P w (out H S) s.heap := fun a o e => by
    have ns : ¬ S a = true := fun q => by rw [out_in q] at e; cases e
    rw [out_ne ns] at e
    refine (e0.hok a o e).stay (fun b u _ q => q) (fun b q => ?_) (fun b xs q => ?_)
    · rw [out_ne (hoth b _ q fun xs z => by cases z)]; exact q
    · rw [out_ne (hoth b _ q fun xs z => by cases z)]; exact q
  have e1 : Env0 P w K mg base A outer s (out H S) := ⟨e0.frames, e0.mod, fun b o q => ⟨(e0.bs b o q).1, hout b (e0.bs b o q).2⟩, e0.bsz, e0.funs, fun b q => hout b (e0.frf b q), okout, e0.bare⟩
  refine codeAny_mono (F.run A outer s (out H S) args us vs _ E hr e1 hb hv h) fun r s' q => ?_
  cases r with
  | error e => exact q
  | ok fl =>
    cases fl with
    | next => exact q
    | brk => exact q
    | cont => exact q
    | ret u =>
      obtain ⟨v, H', os, bare, un, hok, rv, q⟩ := q
      have hobj : ∀ b, S b = true → ∃ o, s.heap.get? b = some o := fun b q => by
        obtain ⟨xs, e⟩ := hS b q
        obtain ⟨_, its, n, _, e'⟩ := e0.hok b _ e
        exact ⟨_, e'⟩
      have hfree : ∀ b, S b = true → H' b = none := fun b q => by
        obtain ⟨o, e⟩ := hobj b q
        exact un.free b o e (out_in q) (by simp)
      have hkeep : ∀ b o, S b = true → s.heap.get? b = some o → s'.heap.get? b = some o := fun b o q e => by
        obtain ⟨xs, e'⟩ := hS b q
        exact un.keep b o e (out_in q) (fun z => by rw [e0.frf b z] at e'; cases e') (by simp)
      refine ⟨v, back H H' S, os, bare, ⟨fun b o e n hb hx => un.keep b o e (hout b n) hb hx, fun b o e n hb hx => un.slot b o e (hout b n) hb hx, fun b o e n hx => ?_, un.there, fun b xs e => ?_, fun b o u e => ?_, fun b ps e => ?_⟩, fun a o e => ?_, rv, q hfree⟩
      · rw [back_ne (hne b n)]
        exact un.free b o e (hout b n) hx
      · have ns := hoth b _ e fun xs z => by cases z
        rw [back_ne ns]
        exact un.tups b xs (by rw [out_ne ns]; exact e)
      · have ns := hoth b _ e fun xs z => by cases z
        rw [back_ne ns]
        exact un.frzs b o u (by rw [out_ne ns]; exact e)
      · have ns := hoth b _ e fun xs z => by cases z
        rw [back_ne ns]
        exact un.tbls b ps (by rw [out_ne ns]; exact e)
      · by_cases sa : S a = true
        · rw [back_in sa] at e
          obtain ⟨xs, e'⟩ := hS a sa
          rw [e'] at e
          cases e
          obtain ⟨hl, its, n, r, g⟩ := e0.hok a _ e'
          exact ⟨hl, its, n, r, hkeep a _ sa g⟩
        · rw [back_ne sa] at e
          refine (hok a o e).stay (fun b u _ z => z) (fun b z => ?_) (fun b xs z => ?_)
          · rw [back_ne fun sb => by rw [hfree b sb] at z; cases z]; exact z
          · rw [back_ne fun sb => by rw [hfree b sb] at z; cases z]; exact z
/-- one list put aside -/
theorem fr_one {sp : Sp} {vs : List V} {G : Hp} {D : Addr} {acc : List V} {Q : VK} {E : XK} (hD : G D = none) (h : sp vs G (fun v G' => G' D = none → Q v (upd G' D (.lst acc))) E)
    (mono : ∀ (Q1 Q2 : VK), (∀ v G', Q1 v G' → Q2 v G') → sp vs G Q1 E → sp vs G Q2 E) : fr sp vs (upd G D (.lst acc)) Q E := by
  have e : out (upd G D (.lst acc)) (fun b => decide (b = D)) = G := by
    funext b
    unfold out upd
    by_cases hb : b = D
    · rw [if_pos (decide_eq_true hb), hb, hD]
    · rw [if_neg (fun z => hb (of_decide_eq_true z)), if_neg hb]
  unfold fr
  refine ⟨fun b => decide (b = D), fun b hb => ⟨acc, by rw [of_decide_eq_true hb, upd_same]⟩, ?_⟩
  rw [e]
  refine mono _ _ (fun v G' q hn => ?_) h
  have hn' : G' D = none := hn D (decide_eq_true rfl)
  have e2 : back (upd G D (.lst acc)) G' (fun b => decide (b = D)) = upd G' D (.lst acc) := by
    funext b
    unfold back upd
    by_cases hb : b = D
    · rw [if_pos (decide_eq_true hb), if_pos hb, if_pos hb]
    · rw [if_neg (fun z => hb (of_decide_eq_true z)), if_neg hb]
  rw [e2]
  exact q hn'
/-- a comprehension over data, with one test, that changes nothing: its list has the images of those that are kept -/
theorem lc_data {K : PySem.W.Frag} {a : Addr} {xs : List V} {ds : List PyData} {gt : TG} {tt : TT} {te : TE} {vs : List Nat} {σ : St} {H1 : Hp} {D : Addr} {Qd : Hp → Prop} (p : PyData → Bool) (g : PyData → PyData)
    (hx : SqL K H1 a xs) (hd : DpAll K H1 xs ds) (hD : H1 D = none) (hl : ds.length ≤ 100000)
    (hs : ∀ (v : V) (d : PyData) (G : Hp) (acc : List V) (R : Hp → Prop), d ∈ ds → Dp K G v d → Same H1 G → G D = none → acc.length < sizeLine →
      (p d = false → ∀ G', Same G G' → G' D = none → R (upd G' D (.lst acc))) →
      (p d = true → ∀ (G' : Hp) (u : V), Same G G' → G' D = none → Dp K G' u (g d) → R (upd G' D (.lst (acc ++ [u])))) →
      gt v (wipe σ vs) (upd G D (.lst acc)) fun σ2 H2 => wipe σ2 vs = wipe σ vs ∧ tt σ2 H2 fun b H3 =>
        if b = true then te σ2 H3 fun y H4 => ∃ acc, H4 D = some (.lst acc) ∧ acc.length < sizeLine ∧ R (upd H4 D (.lst (acc ++ [y]))) else R H3)
    (hq : ∀ (G : Hp) (ys : List V), Same H1 G → G D = none → DpAll K G ys ((ds.filter p).map g) → Qd (upd G D (.lst ys))) :
    ∃ W : Nat → Nat → Hp → Prop, (∃ m, W 0 m (upd H1 D (.lst []))) ∧ ∀ i m H, W i m H →
      ((Itl K a).stop i H ∧ Qd H) ∨ ((Itl K a).go i H ∧ ∃ Nx : Hp → Prop, (∀ H', Nx H' → ∃ m', m' < m ∧ W (i + 1) m' H') ∧ ∀ x H', (Itl K a).yld i H x H' → gt x (wipe σ vs) H' fun σ2 H2 => wipe σ2 vs = wipe σ vs ∧ tt σ2 H2 fun b H3 =>
        if b = true then te σ2 H3 fun y H4 => ∃ acc, H4 D = some (.lst acc) ∧ acc.length < sizeLine ∧ Nx (upd H4 D (.lst (acc ++ [y]))) else Nx H3) := by
  have hxd := dps_len hd
  refine lc_list (K := K) (a := a) (xs := xs) (fun i H => ∃ (G : Hp) (ys : List V), Same H1 G ∧ G D = none ∧ H = upd G D (.lst ys) ∧ DpAll K G ys (((ds.take i).filter p).map g)) ⟨H1, [], Same.refl _, hD, rfl, .nil⟩ ?_ ?_ ?_
  · rintro i H _ ⟨G, ys, s, hG, rfl, _⟩
    exact (same_new hG).seq (s.seq hx)
  · rintro i x H hi ⟨G, ys, s, hG, rfl, hy⟩
    obtain ⟨d, hdi, dx⟩ := dps_getv hd hi
    have il : i < ds.length := (List.getElem?_eq_some_iff.mp hdi).1
    have dm : d ∈ ds := List.mem_of_getElem? hdi
    have yl : ys.length ≤ i := by
      rw [dps_len hy, List.length_map]
      refine Nat.le_trans (List.length_filter_le _ _) ?_
      rw [List.length_take]
      omega
    have tk : ds.take (i + 1) = ds.take i ++ [d] := by rw [List.take_add_one, hdi]; rfl
    refine hs x d G ys _ dm (dp_same s dx) s hG (Nat.lt_of_lt_of_le (show ys.length < 100001 by omega) (by decide)) (fun pf G' s' hG' => ⟨G', ys, s.trans s', hG', rfl, ?_⟩) (fun pt G' u s' hG' du => ⟨G', _, s.trans s', hG', rfl, ?_⟩)
    · rw [tk, List.filter_append, List.filter_cons, if_neg (by rw [pf]; decide), List.filter_nil, List.append_nil]
      exact dps_same s' hy
    · rw [tk, List.filter_append, List.filter_cons, if_pos pt, List.filter_nil, List.map_append]
      exact dps_snoc (dps_same s' hy) du
  · rintro H ⟨G, ys, s, hG, rfl, hy⟩
    refine hq G ys s hG ?_
    rw [List.take_of_length_le (by omega)] at hy
    exact hy
/-- .. over a tuple -/
theorem lc_dataT {K : PySem.W.Frag} {a : Addr} {xs : List V} {ds : List PyData} {gt : TG} {tt : TT} {te : TE} {vs : List Nat} {σ : St} {H1 : Hp} {D : Addr} {Qd : Hp → Prop} (p : PyData → Bool) (g : PyData → PyData)
    (hx : SqT K H1 a xs) (hd : DpAll K H1 xs ds) (hD : H1 D = none) (hl : ds.length ≤ 100000)
    (hs : ∀ (v : V) (d : PyData) (G : Hp) (acc : List V) (R : Hp → Prop), d ∈ ds → Dp K G v d → Same H1 G → G D = none → acc.length < sizeLine →
      (p d = false → ∀ G', Same G G' → G' D = none → R (upd G' D (.lst acc))) →
      (p d = true → ∀ (G' : Hp) (u : V), Same G G' → G' D = none → Dp K G' u (g d) → R (upd G' D (.lst (acc ++ [u])))) →
      gt v (wipe σ vs) (upd G D (.lst acc)) fun σ2 H2 => wipe σ2 vs = wipe σ vs ∧ tt σ2 H2 fun b H3 =>
        if b = true then te σ2 H3 fun y H4 => ∃ acc, H4 D = some (.lst acc) ∧ acc.length < sizeLine ∧ R (upd H4 D (.lst (acc ++ [y]))) else R H3)
    (hq : ∀ (G : Hp) (ys : List V), Same H1 G → G D = none → DpAll K G ys ((ds.filter p).map g) → Qd (upd G D (.lst ys))) :
    ∃ W : Nat → Nat → Hp → Prop, (∃ m, W 0 m (upd H1 D (.lst []))) ∧ ∀ i m H, W i m H →
      ((Itt K a).stop i H ∧ Qd H) ∨ ((Itt K a).go i H ∧ ∃ Nx : Hp → Prop, (∀ H', Nx H' → ∃ m', m' < m ∧ W (i + 1) m' H') ∧ ∀ x H', (Itt K a).yld i H x H' → gt x (wipe σ vs) H' fun σ2 H2 => wipe σ2 vs = wipe σ vs ∧ tt σ2 H2 fun b H3 =>
        if b = true then te σ2 H3 fun y H4 => ∃ acc, H4 D = some (.lst acc) ∧ acc.length < sizeLine ∧ Nx (upd H4 D (.lst (acc ++ [y]))) else Nx H3) := by
  have hxd := dps_len hd
  refine lc_tup (K := K) (a := a) (xs := xs) (fun i H => ∃ (G : Hp) (ys : List V), Same H1 G ∧ G D = none ∧ H = upd G D (.lst ys) ∧ DpAll K G ys (((ds.take i).filter p).map g)) ⟨H1, [], Same.refl _, hD, rfl, .nil⟩ ?_ ?_ ?_
  · rintro i H _ ⟨G, ys, s, hG, rfl, _⟩
    exact Same.tup (same_new hG) (Same.tup s hx)
  · rintro i x H hi ⟨G, ys, s, hG, rfl, hy⟩
    obtain ⟨d, hdi, dx⟩ := dps_getv hd hi
    have il : i < ds.length := (List.getElem?_eq_some_iff.mp hdi).1
    have dm : d ∈ ds := List.mem_of_getElem? hdi
    have yl : ys.length ≤ i := by
      rw [dps_len hy, List.length_map]
      refine Nat.le_trans (List.length_filter_le _ _) ?_
      rw [List.length_take]
      omega
    have tk : ds.take (i + 1) = ds.take i ++ [d] := by rw [List.take_add_one, hdi]; rfl
    refine hs x d G ys _ dm (dp_same s dx) s hG (Nat.lt_of_lt_of_le (show ys.length < 100001 by omega) (by decide)) (fun pf G' s' hG' => ⟨G', ys, s.trans s', hG', rfl, ?_⟩) (fun pt G' u s' hG' du => ⟨G', _, s.trans s', hG', rfl, ?_⟩)
    · rw [tk, List.filter_append, List.filter_cons, if_neg (by rw [pf]; decide), List.filter_nil, List.append_nil]
      exact dps_same s' hy
    · rw [tk, List.filter_append, List.filter_cons, if_pos pt, List.filter_nil, List.map_append]
      exact dps_snoc (dps_same s' hy) du
  · rintro H ⟨G, ys, s, hG, rfl, hy⟩
    refine hq G ys s hG ?_
    rw [List.take_of_length_le (by omega)] at hy
    exact hy
/-- x is True, x is not True: x any flat value but a number, a text -/
def rIsX (neg : Bool) : R2 := fun x y H Q => ∃ b : Bool, y = .bl b ∧ (x = .non ∨ (∃ a : Bool, x = .bl a) ∨ (∃ i : Int, x = .int i) ∨ ∃ z : Str, x = .str z) ∧ Q (.bl (if neg = true then !decide (x = .bl b) else decide (x = .bl b))) H
section
variable {X : Cx}
theorem op_isX : OpR X (compareOp .Is) (rIsX false) := by
  intro pins s σ H x y v u Q I rx ry h
  obtain ⟨b, rfl, hx, q⟩ := h
  cases (show u = Value.bool b from ry)
  rcases hx with rfl | ⟨a, rfl⟩ | ⟨i, rfl⟩ | ⟨z, rfl⟩
  · cases (show v = Value.none from rx)
    exact PySem.wpAny_is_other rfl (fun z => nomatch z) ⟨.bl false, H, I, rfl, by simpa using q⟩
  · cases (show v = Value.bool a from rx)
    by_cases e : a = b
    · subst e
      exact PySem.wpAny_is_self rfl ⟨.bl true, H, I, rfl, by simpa using q⟩
    · exact PySem.wpAny_is_other rfl (fun z => e (Value.bool.inj z)) ⟨.bl false, H, I, rfl, by simpa [e] using q⟩
  · obtain ⟨t, rfl⟩ := (show ∃ t, v = Value.int i t from rx)
    exact PySem.wpAny_is_other rfl (fun z => nomatch z) ⟨.bl false, H, I, rfl, by simpa using q⟩
  · obtain ⟨t, rfl⟩ := (show ∃ t, v = Value.str z t from rx)
    exact PySem.wpAny_is_other rfl (fun z => nomatch z) ⟨.bl false, H, I, rfl, by simpa using q⟩
theorem op_notX : OpR X (compareOp .IsNot) (rIsX true) := by
  intro pins s σ H x y v u Q I rx ry h
  obtain ⟨b, rfl, hx, q⟩ := h
  cases (show u = Value.bool b from ry)
  rcases hx with rfl | ⟨a, rfl⟩ | ⟨i, rfl⟩ | ⟨z, rfl⟩
  · cases (show v = Value.none from rx)
    exact PySem.wpAny_isNot_other rfl (fun z => nomatch z) ⟨.bl true, H, I, rfl, by simpa using q⟩
  · cases (show v = Value.bool a from rx)
    by_cases e : a = b
    · subst e
      exact PySem.wpAny_isNot_self rfl ⟨.bl false, H, I, rfl, by simpa using q⟩
    · exact PySem.wpAny_isNot_other rfl (fun z => e (Value.bool.inj z)) ⟨.bl true, H, I, rfl, by simpa [e] using q⟩
  · obtain ⟨t, rfl⟩ := (show ∃ t, v = Value.int i t from rx)
    exact PySem.wpAny_isNot_other rfl (fun z => nomatch z) ⟨.bl true, H, I, rfl, by simpa using q⟩
  · obtain ⟨t, rfl⟩ := (show ∃ t, v = Value.str z t from rx)
    exact PySem.wpAny_isNot_other rfl (fun z => nomatch z) ⟨.bl true, H, I, rfl, by simpa using q⟩
end
theorem upd_app {G : Hp} {D : Addr} {acc ys : List V} : upd (upd G D (.lst acc)) D (.lst ys) = upd G D (.lst ys) := upd_upd

/-! ### lists whose items stand in a relation to plain things -/
theorem paired_get {α β : Type} {F : α → β → Prop} : ∀ {l₁ : List α} {l₂ : List β} {i : Nat} {b : β}, Paired F l₁ l₂ → l₂[i]? = some b → ∃ a, l₁[i]? = some a ∧ F a b
  | _, _, i, b, .nil, e => by simp at e
  | _, _, 0, b, .cons h t, e => by
    simp at e
    subst e
    exact ⟨_, rfl, h⟩
  | _, _, i + 1, b, .cons h t, e => by
    obtain ⟨v, h1, h2⟩ := paired_get (i := i) (b := b) t (by simpa using e)
    exact ⟨v, by simpa using h1, h2⟩
theorem paired_getv {α β : Type} {F : α → β → Prop} : ∀ {l₁ : List α} {l₂ : List β} {i : Nat} {a : α}, Paired F l₁ l₂ → l₁[i]? = some a → ∃ b, l₂[i]? = some b ∧ F a b
  | _, _, i, b, .nil, e => by simp at e
  | _, _, 0, b, .cons h t, e => by
    simp at e
    subst e
    exact ⟨_, rfl, h⟩
  | _, _, i + 1, b, .cons h t, e => by
    obtain ⟨v, h1, h2⟩ := paired_getv (i := i) (a := b) t (by simpa using e)
    exact ⟨v, by simpa using h1, h2⟩
theorem paired_app {α β : Type} {F : α → β → Prop} : ∀ {l₁ m₁ : List α} {l₂ m₂ : List β}, Paired F l₁ l₂ → Paired F m₁ m₂ → Paired F (l₁ ++ m₁) (l₂ ++ m₂)
  | _, _, _, _, .nil, h => h
  | _, _, _, _, .cons h t, k => .cons h (paired_app t k)
theorem paired_take {α β : Type} {F : α → β → Prop} : ∀ {l₁ : List α} {l₂ : List β} (n : Nat), Paired F l₁ l₂ → Paired F (l₁.take n) (l₂.take n)
  | _, _, 0, _ => by simpa using .nil
  | _, _, _ + 1, .nil => .nil
  | _, _, n + 1, .cons h t => .cons h (paired_take n t)
theorem paired_drop {α β : Type} {F : α → β → Prop} : ∀ {l₁ : List α} {l₂ : List β} (n : Nat), Paired F l₁ l₂ → Paired F (l₁.drop n) (l₂.drop n)
  | _, _, 0, h => h
  | _, _, _ + 1, .nil => .nil
  | _, _, n + 1, .cons h t => paired_drop n t
theorem paired_rev {α β : Type} {F : α → β → Prop} : ∀ {l₁ : List α} {l₂ : List β}, Paired F l₁ l₂ → Paired F l₁.reverse l₂.reverse
  | _, _, .nil => .nil
  | _, _, .cons h t => by
    rw [List.reverse_cons, List.reverse_cons]
    exact Paired.snoc (paired_rev t) h
theorem paired_set {α β : Type} {F : α → β → Prop} {a : α} {b : β} (hd : F a b) : ∀ {l₁ : List α} {l₂ : List β} (n : Nat), Paired F l₁ l₂ → Paired F (l₁.set n a) (l₂.set n b)
  | _, _, _, .nil => .nil
  | _, _, 0, .cons _ t => .cons hd t
  | _, _, n + 1, .cons h t => .cons h (paired_set hd n t)
theorem paired_map {α β γ : Type} {F : α → β → Prop} {F' : α → γ → Prop} {g : β → γ} (h : ∀ a b, F a b → F' a (g b)) : ∀ {l₁ : List α} {l₂ : List β}, Paired F l₁ l₂ → Paired F' l₁ (l₂.map g)
  | _, _, .nil => .nil
  | _, _, .cons k t => .cons (h _ _ k) (paired_map h t)
/-- a comprehension with one test that changes nothing, over items that stand in a relation -/
theorem lc_rel {α β : Type} {K : PySem.W.Frag} {a : Addr} {xs : List V} {as : List α} {gt : TG} {tt : TT} {te : TE} {vs : List Nat} {σ : St} {H1 : Hp} {D : Addr} {Qd : Hp → Prop} (RA : Hp → V → α → Prop) (RB : Hp → V → β → Prop)
    (mA : ∀ {H H' : Hp} {v : V} {x : α}, Same H H' → RA H v x → RA H' v x) (mB : ∀ {H H' : Hp} {v : V} {x : β}, Same H H' → RB H v x → RB H' v x) (p : α → Bool) (g : α → β)
    (hx : SqL K H1 a xs) (hd : Paired (RA H1) xs as) (hD : H1 D = none) (hl : as.length ≤ 100000)
    (hs : ∀ (v : V) (x : α) (G : Hp) (acc : List V) (R : Hp → Prop), x ∈ as → RA G v x → Same H1 G → G D = none → acc.length < sizeLine →
      (p x = false → ∀ G', Same G G' → G' D = none → R (upd G' D (.lst acc))) →
      (p x = true → ∀ (G' : Hp) (u : V), Same G G' → G' D = none → RB G' u (g x) → R (upd G' D (.lst (acc ++ [u])))) →
      gt v (wipe σ vs) (upd G D (.lst acc)) fun σ2 H2 => wipe σ2 vs = wipe σ vs ∧ tt σ2 H2 fun b H3 =>
        if b = true then te σ2 H3 fun y H4 => ∃ acc, H4 D = some (.lst acc) ∧ acc.length < sizeLine ∧ R (upd H4 D (.lst (acc ++ [y]))) else R H3)
    (hq : ∀ (G : Hp) (ys : List V), Same H1 G → G D = none → Paired (RB G) ys ((as.filter p).map g) → Qd (upd G D (.lst ys))) :
    ∃ W : Nat → Nat → Hp → Prop, (∃ m, W 0 m (upd H1 D (.lst []))) ∧ ∀ i m H, W i m H →
      ((Itl K a).stop i H ∧ Qd H) ∨ ((Itl K a).go i H ∧ ∃ Nx : Hp → Prop, (∀ H', Nx H' → ∃ m', m' < m ∧ W (i + 1) m' H') ∧ ∀ x H', (Itl K a).yld i H x H' → gt x (wipe σ vs) H' fun σ2 H2 => wipe σ2 vs = wipe σ vs ∧ tt σ2 H2 fun b H3 =>
        if b = true then te σ2 H3 fun y H4 => ∃ acc, H4 D = some (.lst acc) ∧ acc.length < sizeLine ∧ Nx (upd H4 D (.lst (acc ++ [y]))) else Nx H3) := by
  have hxd := hd.length
  refine lc_list (K := K) (a := a) (xs := xs) (fun i H => ∃ (G : Hp) (ys : List V), Same H1 G ∧ G D = none ∧ H = upd G D (.lst ys) ∧ Paired (RB G) ys (((as.take i).filter p).map g)) ⟨H1, [], Same.refl _, hD, rfl, .nil⟩ ?_ ?_ ?_
  · rintro i H _ ⟨G, ys, s, hG, rfl, _⟩
    exact (same_new hG).seq (s.seq hx)
  · rintro i x H hi ⟨G, ys, s, hG, rfl, hy⟩
    obtain ⟨d, hdi, dx⟩ := paired_getv hd hi
    have il : i < as.length := (List.getElem?_eq_some_iff.mp hdi).1
    have dm : d ∈ as := List.mem_of_getElem? hdi
    have yl : ys.length ≤ i := by
      rw [hy.length, List.length_map]
      refine Nat.le_trans (List.length_filter_le _ _) ?_
      rw [List.length_take]
      omega
    have tk : as.take (i + 1) = as.take i ++ [d] := by rw [List.take_add_one, hdi]; rfl
    refine hs x d G ys _ dm (mA s dx) s hG (Nat.lt_of_lt_of_le (show ys.length < 100001 by omega) (by decide)) (fun pf G' s' hG' => ⟨G', ys, s.trans s', hG', rfl, ?_⟩) (fun pt G' u s' hG' du => ⟨G', _, s.trans s', hG', rfl, ?_⟩)
    · rw [tk, List.filter_append, List.filter_cons, if_neg (by rw [pf]; decide), List.filter_nil, List.append_nil]
      exact Paired.mapP hy fun _ _ z => mB s' z
    · rw [tk, List.filter_append, List.filter_cons, if_pos pt, List.filter_nil, List.map_append]
      exact Paired.snoc (Paired.mapP hy fun _ _ z => mB s' z) du
  · rintro H ⟨G, ys, s, hG, rfl, hy⟩
    refine hq G ys s hG ?_
    rw [List.take_of_length_le (by omega)] at hy
    exact hy
/-- a tracked tuple of these values -/
def TupL (H : Hp) (v : V) (ws : List V) : Prop := ∃ t, v = .ref t ∧ H t = some (.tup ws)
theorem TupL.same {H H' : Hp} {v : V} {ws : List V} (s : Same H H') : TupL H v ws → TupL H' v ws := fun ⟨t, e, h⟩ => ⟨t, e, s _ _ h⟩
theorem TupL.but {H H' : Hp} {v : V} {ws : List V} (s : ∀ b ys, H b = some (.tup ys) → H' b = some (.tup ys)) : TupL H v ws → TupL H' v ws := fun ⟨t, e, h⟩ => ⟨t, e, s _ _ h⟩
/-- a deck's change leaves tuples -/
theorem But.tups {a : Addr} {H H' : Hp} (h : But a H H') (hn : ∀ ys, H a ≠ some (.tup ys)) : ∀ b ys, H b = some (.tup ys) → H' b = some (.tup ys) := fun b ys e => h b _ (fun q => hn ys (q ▸ e)) e
theorem upd_none {H : Hp} {p q : Addr} {o : HO} (h : upd H p o q = none) : q ≠ p ∧ H q = none := by
  have e : q ≠ p := by
    rintro rfl
    rw [upd_same] at h
    cases h
  exact ⟨e, by rw [upd_ne e] at h; exact h⟩
theorem int_at {l : List Int} {i : Nat} (h : i < l.length) : (l.map V.int)[i]? = some (.int (l.getD i 0)) := by
  rw [List.getElem?_map, List.getD_eq_getElem?_getD, List.getElem?_eq_getElem h]
  rfl
theorem int_atI {l : List Int} {z : Int} (h0 : 0 ≤ z) (h : z.toNat < l.length) : atI (l.map V.int) z = some (.int (l.getD z.toNat 0)) := by
  obtain ⟨n, rfl⟩ := Int.eq_ofNat_of_zero_le h0
  exact atI_nat (int_at h)
theorem take_snoc {α : Type} {l : List α} {i : Nat} {a : α} (h : l[i]? = some a) : l.take (i + 1) = l.take i ++ [a] := by
  rw [List.take_add_one, h]
  rfl
/-- x + y of two tracked tuples, either may be empty -/
theorem catA_new {K : PySem.W.Frag} {H : Hp} {v u : V} {xs ys : List V} {Q : VK} (h1 : TupL H v xs) (h2 : TupL H u ys) (hl : xs.length + ys.length ≤ sizeLine) (k : ∀ (z : V) (H' : Hp), Same H H' → TupL H' z (xs ++ ys) → Q z H') : rCatA K v u H Q := by
  obtain ⟨a, rfl, ha⟩ := h1
  obtain ⟨b, rfl, hb⟩ := h2
  refine ⟨a, b, xs, ys, rfl, rfl, SqT.of' ha, SqT.of' hb, hl, fun e => ?_, fun _ e => ?_, fun _ _ p hp => ?_⟩
  · exact k _ _ (Same.refl _) ⟨b, rfl, by rw [e, List.nil_append]; exact hb⟩
  · exact k _ _ (Same.refl _) ⟨a, rfl, by rw [e, List.append_nil]; exact ha⟩
  · exact k _ _ (same_new hp) ⟨p, rfl, upd_same⟩
theorem size_of {n : Nat} (h : n ≤ 100000) : n ≤ sizeLine := Nat.le_trans h (by decide)

/-! ### slices -/
theorem cut_to {xs : List V} {i : Nat} (h : i ≤ xs.length) : cutV xs none (some (i : Int)) = xs.take i := by
  unfold cutV
  rw [HT.sIx_none, HT.sIx_nat, List.drop_zero, Nat.sub_zero, Nat.min_eq_left h]
theorem cut_from {xs : List V} {i : Nat} (h : i ≤ xs.length) : cutV xs (some (i : Int)) none = xs.drop i := by
  unfold cutV
  rw [HT.sIx_none, HT.sIx_nat, Nat.min_eq_left h]
  exact List.take_of_length_le (by rw [List.length_drop]; exact Nat.le_refl _)
theorem cut_mid {xs : List V} {i j : Nat} (hi : i ≤ j) (h : j ≤ xs.length) : cutV xs (some (i : Int)) (some (j : Int)) = (xs.drop i).take (j - i) := by
  unfold cutV
  rw [HT.sIx_nat, HT.sIx_nat, Nat.min_eq_left h, Nat.min_eq_left (Nat.le_trans hi h)]

/-! ### data without truth values: equal is the same -/
mutual
def pur : PyData → Bool
  | .none | .int _ | .str _ => true
  | .bool _ => false
  | .list xs | .tuple xs => purs xs
  | .dict _ => false
def purs : List PyData → Bool
  | [] => true
  | x :: xs => pur x && purs xs
end
mutual
theorem eqv_pur : ∀ {d e : PyData}, pur d = true → pur e = true → PyData.eqv d e = true → d = e
  | .none, .none, _, _, _ => rfl
  | .int i, .int j, _, _, h => by rw [eq_of_beq (show (i == j) = true from h)]
  | .str i, .str j, _, _, h => by rw [eq_of_beq (show (i == j) = true from h)]
  | .list xs, .list ys, h1, h2, h => by rw [eqvs_pur (ds := xs) (es := ys) h1 h2 (by simpa [PyData.eqv] using h)]
  | .tuple xs, .tuple ys, h1, h2, h => by rw [eqvs_pur (ds := xs) (es := ys) h1 h2 (by simpa [PyData.eqv] using h)]
  | .bool _, _, h1, _, _ => by simp [pur] at h1
  | .dict _, _, h1, _, _ => by simp [pur] at h1
  | .none, .bool _, _, h2, _ => by simp [pur] at h2
  | .int _, .bool _, _, h2, _ => by simp [pur] at h2
  | .str _, .bool _, _, h2, _ => by simp [pur] at h2
  | .list _, .bool _, _, h2, _ => by simp [pur] at h2
  | .tuple _, .bool _, _, h2, _ => by simp [pur] at h2
  | .none, .dict _, _, h2, _ => by simp [pur] at h2
  | .int _, .dict _, _, h2, _ => by simp [pur] at h2
  | .str _, .dict _, _, h2, _ => by simp [pur] at h2
  | .list _, .dict _, _, h2, _ => by simp [pur] at h2
  | .tuple _, .dict _, _, h2, _ => by simp [pur] at h2
  | .none, .int _, _, _, h => by simp [PyData.eqv] at h
  | .none, .str _, _, _, h => by simp [PyData.eqv] at h
  | .none, .list _, _, _, h => by simp [PyData.eqv] at h
  | .none, .tuple _, _, _, h => by simp [PyData.eqv] at h
  | .int _, .none, _, _, h => by simp [PyData.eqv] at h
  | .int _, .str _, _, _, h => by simp [PyData.eqv] at h
  | .int _, .list _, _, _, h => by simp [PyData.eqv] at h
  | .int _, .tuple _, _, _, h => by simp [PyData.eqv] at h
  | .str _, .none, _, _, h => by simp [PyData.eqv] at h
  | .str _, .int _, _, _, h => by simp [PyData.eqv] at h
  | .str _, .list _, _, _, h => by simp [PyData.eqv] at h
  | .str _, .tuple _, _, _, h => by simp [PyData.eqv] at h
  | .list _, .none, _, _, h => by simp [PyData.eqv] at h
  | .list _, .int _, _, _, h => by simp [PyData.eqv] at h
  | .list _, .str _, _, _, h => by simp [PyData.eqv] at h
  | .list _, .tuple _, _, _, h => by simp [PyData.eqv] at h
  | .tuple _, .none, _, _, h => by simp [PyData.eqv] at h
  | .tuple _, .int _, _, _, h => by simp [PyData.eqv] at h
  | .tuple _, .str _, _, _, h => by simp [PyData.eqv] at h
  | .tuple _, .list _, _, _, h => by simp [PyData.eqv] at h
theorem eqvs_pur : ∀ {ds es : List PyData}, purs ds = true → purs es = true → PyData.eqvAll ds es = true → ds = es
  | [], [], _, _, _ => rfl
  | x :: xs, y :: ys, h1, h2, h => by
    simp only [purs, Bool.and_eq_true] at h1 h2
    simp only [PyData.eqvAll, Bool.and_eq_true] at h
    rw [eqv_pur h1.1 h2.1 h.1, eqvs_pur h1.2 h2.2 h.2]
  | [], _ :: _, _, _, h => by simp [PyData.eqvAll] at h
  | _ :: _, [], _, _, h => by simp [PyData.eqvAll] at h
end
theorem eqv_iff {d e : PyData} (hd : pur d = true) (he : pur e = true) (hs : SeqAt.shaped d = true) : PyData.eqv d e = true ↔ d = e :=
  ⟨eqv_pur hd he, fun h => by rw [← h]; exact SeqAt.eqv_refl d (SeqAt.canLay_of_shaped hs)⟩
mutual
/-- data without texts and dicts, of a depth at most n -/
def flat : Nat → PyData → Bool
  | _, .none | _, .bool _ | _, .int _ => true
  | _, .str _ | _, .dict _ => false
  | 0, .list _ | 0, .tuple _ => false
  | n + 1, .list xs => flats n xs
  | n + 1, .tuple xs => flats n xs
def flats : Nat → List PyData → Bool
  | _, [] => true
  | n, x :: xs => flat n x && flats n xs
end
mutual
theorem flat_lay : ∀ {n : Nat} {d : PyData}, flat n d = true → d.canLay0 = true ∧ d.depth ≤ n
  | n, .none, _ => ⟨by simp [PyData.canLay0], by simp [PyData.depth]⟩
  | n, .bool _, _ => ⟨by simp [PyData.canLay0], by simp [PyData.depth]⟩
  | n, .int _, _ => ⟨by simp [PyData.canLay0], by simp [PyData.depth]⟩
  | n, .str _, h => by simp [flat] at h
  | n, .dict _, h => by simp [flat] at h
  | 0, .list _, h => by simp [flat] at h
  | 0, .tuple _, h => by simp [flat] at h
  | n + 1, .list xs, h => by
    obtain ⟨h1, h2⟩ := flats_lay (n := n) (ds := xs) (by simpa [flat] using h)
    exact ⟨by simp only [PyData.canLay0]; exact h1, by simp only [PyData.depth]; omega⟩
  | n + 1, .tuple xs, h => by
    obtain ⟨h1, h2⟩ := flats_lay (n := n) (ds := xs) (by simpa [flat] using h)
    exact ⟨by simp only [PyData.canLay0]; exact h1, by simp only [PyData.depth]; omega⟩
theorem flats_lay : ∀ {n : Nat} {ds : List PyData}, flats n ds = true → PyData.canLayAll0 ds = true ∧ PyData.depthAll ds ≤ n
  | n, [], _ => ⟨by simp [PyData.canLayAll0], by simp [PyData.depthAll]⟩
  | n, x :: xs, h => by
    simp only [flats, Bool.and_eq_true] at h
    obtain ⟨a1, a2⟩ := flat_lay h.1
    obtain ⟨b1, b2⟩ := flats_lay h.2
    exact ⟨by simp only [PyData.canLayAll0, a1, b1, Bool.and_true], by simp only [PyData.depthAll]; omega⟩
end
theorem shaped_flat {n : Nat} {d : PyData} (h : flat n d = true) (hn : n ≤ 64) : SeqAt.shaped d = true := by
  obtain ⟨h1, h2⟩ := flat_lay h
  show (d.canLay0 && decide (d.depth ≤ 64)) = true
  rw [h1, Bool.true_and]
  exact decide_eq_true (by omega)
theorem flats_ints (n : Nat) : ∀ ns : List Int, flats n (ns.map PyData.int) = true
  | [] => by simp [flats]
  | i :: r => by simp [flats, flat, flats_ints n r]
theorem purs_ints : ∀ ns : List Int, purs (ns.map PyData.int) = true
  | [] => by simp [purs]
  | i :: r => by simp [purs, pur, purs_ints r]
theorem flats_map {α : Type} {n : Nat} {f : α → PyData} (h : ∀ a, flat n (f a) = true) : ∀ l : List α, flats n (l.map f) = true
  | [] => by simp [flats]
  | a :: r => by simp [flats, h a, flats_map h r]
theorem purs_map {α : Type} {f : α → PyData} (h : ∀ a, pur (f a) = true) : ∀ l : List α, purs (l.map f) = true
  | [] => by simp [purs]
  | a :: r => by simp [purs, h a, purs_map h r]

/-! ### rules whose reading names the written part, for the inside of a comprehension -/
section
variable {X : Cx} {K : PySem.W.Frag}
theorem ix_tupK (h : X.K = K) : IxR X (rIxT K) := h ▸ ix_tup
theorem ix_listK (h : X.K = K) : IxR X (rIxL K) := h ▸ ix_list
theorem ix_seqK (h : X.K = K) : IxR X (rIx K) := h ▸ ix_seq
theorem sl_tupAK (h : X.K = K) : SlR X (rSlA K) := h ▸ sl_tupA
theorem sl_tupK (h : X.K = K) : SlR X (rSlT K) := h ▸ sl_tup
theorem sl_listK (h : X.K = K) : SlR X (rSlL K) := h ▸ sl_list
theorem call_isiK' (h : X.K = K) : CallR X (.builtin "isinstance") (rIsi K) := h ▸ call_isi
theorem call_isiTK (h : X.K = K) : CallR X (.builtin "isinstance") (rIsiT K) := h ▸ call_isiT
theorem op_eqDK (h : X.K = K) (hu : X.A.units + 64 < cLine) : OpR X (compareOp .Eq) (rEqD K) := h ▸ op_eqD hu
theorem op_neDK (h : X.K = K) (hu : X.A.units + 64 < cLine) : OpR X (compareOp .NotEq) (rNeD K) := h ▸ op_neD hu
theorem op_inDK (h : X.K = K) (hu : X.A.units + 65 < cLine) : OpR X (compareOp .In) (rInD K) := h ▸ op_inD hu
theorem op_notInDK (h : X.K = K) (hu : X.A.units + 65 < cLine) : OpR X (compareOp .NotIn) (rNotInD K) := h ▸ op_notInD hu
theorem op_catAK (h : X.K = K) : OpR X (binaryOp .Add) (rCatA K) := h ▸ op_catA
def rLenS (K : PySem.W.Frag) : List V → Hp → VK → Prop := fun xs H Q => ∃ p ys, xs = [V.ref p] ∧ (SqL K H p ys ∨ SqT K H p ys) ∧ Q (.int ys.length) H
theorem call_len_seqK (h : X.K = K) : CallR X (.builtin "len") (rLenS K) := by
  subst h
  exact call_len_seq
theorem call_tupleTK (h : X.K = K) : CallR X (.type "tuple") (fun xs H Q => ∃ a ys, xs = [V.ref a] ∧ SqT K H a ys ∧ Q (.ref a) H) := by
  subst h
  exact call_tupleT
theorem call_list_ofK (h : X.K = K) : CallR X (.type "list") (fun xs H Q => ∃ p ys, xs = [V.ref p] ∧ (SqL K H p ys ∨ SqT K H p ys) ∧ ∀ l, H l = none → Q (.ref l) (upd H l (.lst ys))) := by
  subst h
  exact call_list_of
theorem kBM {e : Expr} {T : String} {r : V → List V → Hp → VK → Prop} {to : TE} {t : TA} (h : X.K = K) (p : PE X e (tBM X.K T r to t)) : PE X e (tBM K T r to t) := h ▸ p
theorem kBM0 {e : Expr} {T : String} {r : V → List V → Hp → VK → Prop} {to : TE} (h : X.K = K) (p : PE X e (tBM0 X.K T r to)) : PE X e (tBM0 K T r to) := h ▸ p
theorem kFld {e : Expr} {ta : TE} {f : Str} (h : X.K = K) (p : PE X e (tFld X.K ta f)) : PE X e (tFld K ta f) := h ▸ p
theorem kTup {e : Expr} {n : Nat} {t : TGs} (h : X.K = K) (p : PG X e (gTup X.K n t)) : PG X e (gTup K n t) := h ▸ p
theorem kTru {a : Expr} {ta : TE} (h : X.K = K) (p : PT X a (fun σ H Q => ta σ H fun x H' => ∃ k, TruV X.K x H' k ∧ Q k H')) : PT X a (fun σ H Q => ta σ H fun x H' => ∃ k, TruV K x H' k ∧ Q k H') := by
  subst h
  exact p
theorem kRevL {e : Expr} {te : TE} (h : X.K = K) (p : PE X e (tRevL X.K te)) : PE X e (tRevL K te) := h ▸ p
end

/-! ### a call within a comprehension that leaves all as it was -/
def del1 (H : Hp) (D : Addr) : Hp := fun b => if b = D then none else H b
theorem del1_at (H : Hp) (D : Addr) : del1 H D D = none := by unfold del1; rw [if_pos rfl]
theorem del1_ne {H : Hp} {D b : Addr} (h : b ≠ D) : del1 H D b = H b := by unfold del1; rw [if_neg h]
theorem split_at {H : Hp} {D : Addr} {o : HO} (h : H D = some o) : H = upd (del1 H D) D o := by
  funext b
  unfold upd del1
  by_cases e : b = D
  · rw [if_pos e, e, h]
  · rw [if_neg e, if_neg e]
theorem same_del {G H' : Hp} {D : Addr} {o : HO} (hD : G D = none) (s : Same (upd G D o) H') : Same G (del1 H' D) := fun b u e => by
  have n : b ≠ D := ne_of_none e hD
  rw [del1_ne n]
  exact s b u (by rw [upd_ne n]; exact e)
/-- what was seen ahead of a deck's change is seen behind it -/
theorem TupL.deck {a : Addr} {H H' : Hp} (hd : Deck H a) (b : But a H H') {v : V} {ws : List V} (h : TupL H v ws) : TupL H' v ws :=
  h.but (b.tups fun ys e => by obtain ⟨ds, _, q⟩ := hd; rw [q] at e; cases e)
theorem ixN_at {n i : Nat} (h : i < n) : ixN n (i : Int) = some i := by
  unfold ixN
  rw [if_pos (by omega), if_pos (by omega), Int.toNat_natCast]
theorem upd_comm {H : Hp} {a b : Addr} {o u : HO} (h : a ≠ b) : upd (upd H a o) b u = upd (upd H b u) a o := by
  funext c
  unfold upd
  by_cases h1 : c = b
  · rw [if_pos h1, if_neg (fun z => h (z.symm.trans h1)), if_pos h1]
  · rw [if_neg h1, if_neg h1]
end G

/-! ## an own error whose __init__ begins with super().__init__(..) (my own) -/
namespace G
open PySem PySem.Spec PySem.Calls PyProof.Rows L2 NdefX

/-- what the text says of the class C of errors and of the code of its __init__ -/
structure SupTxt (P : Program) (K : PySem.W.Frag) (mg : Str → Option Value) (C cc cda : Addr) : Prop where
  ox : OexC K C
  mro : PySem.W.mroIn K C (.ref C) = some true
  sup : PySem.W.ks_superIn K C C "__init__" = some (some (.builtin "ValueError.__init__"))
  sub : PySem.W.subIn K (.ref C) (.type "ValueError") = some true
  third : PySem.W.nsIn K cStatics "thirdparty.any" = some none
  cell : ∃ cl cld csl, K.lookup cc = some ⟨cl, cld, .cell (some (.ref C)), csl⟩
  code : ∃ ccl cdd vs ccs file tf, K.lookup cda = some ⟨ccl, cdd, .fields vs, ccs⟩ ∧ vs[2]? = some (.str file tf) ∧ ((P.main.file : Str) == file) = true
  top : (P.main.scope.names.lookup ("super" : Str)).isSome = false
  mgs : mg "super" = none

section
variable {prog : Program} {w : World} {A : Around} {E : Value → Shared → Prop} {s : Shared}
/-- the bound ValueError.__init__ is called -/
theorem call_mw {K : PySem.W.Frag} {C x u t1 : Addr} {us : List Value} {Q : Value → Shared → Prop} (T : OexC K C) (X : K.In s.heap) (hu : s.heap.get? u = some (PySem.W.kxs_mw "ValueError.__init__" x))
    (hx : s.heap.get? x = some ({ cls := .ref C, dict := none, data := .fields #[.ref t1, .none, .none, .none, .bool false, .none] } : Obj)) (hz : us.length ≤ sizeLine)
    (h : ∀ h' t2, (∀ b o, b ≠ x → s.heap.get? b = some o → h'.get? b = some o) → h'.get? x = some ({ cls := .ref C, dict := none, data := .fields #[.ref t2, .none, .none, .none, .bool false, .none] } : Obj) → Q .none { s with heap := h' }) :
    wpAny (model prog w) A (call (.ref u) us) Q E s := by
  obtain ⟨nm, q, N, bs, bm, sn, sub, ab, col, dd, k0, k1, k2, k3, k5, hC, hbm⟩ := T.cls
  obtain ⟨hp, g, d, t, os⟩ := s
  refine wpAny_call (codeAny_of_tree ?_)
  change wpAny _ A.in1 (callAny (.ref u) ⟨us, []⟩) _ _ _
  simp only [callAny]
  refine wpAny_bind (wpAny_load hu ?_)
  have e1 : (Value.type "method-wrapper" == Value.type "method" || Value.type "method-wrapper" == Value.type "builtin_function_or_method" || Value.type "method-wrapper" == Value.type "method-wrapper") = true := by decide
  simp only [PySem.W.kxs_mw, e1, if_true]
  refine PySem.W.KFB.if_so (by decide) ?_
  refine wpAny_bind (PySem.W.check_bound_init PySem.F.excBase_ValueError.toExcCallFacts (X _ _ hC) hx rfl ?_)
  refine wpAny_bind (wpAny_pure (wpAny_pure ?_))
  refine ⟨plainId_quiet PySem.F.excBase_ValueError.init.plain _, codeAny_builtin PySem.F.excBase_ValueError.initEntry ?_⟩
  refine PySem.W.exc_init_tree (cls := .ref C) (t0 := t1) (dv := none) (c2 := .none) (c3 := .none) (b4 := .bool false) hx hz fun h' k e _ => h h' _ k e
end

section
variable {P : Program} {w : World} {K : PySem.W.Frag} {mg : Str → Option Value} {base : Heap} {C cc cda f : Addr} {CX : CXT} {k : Nat} {N ps : List Str} {sp : Sp}
variable {name qual x0 : Str} {params : Arguments} {e : Expr} {es : List Expr} {rest : List Stmt} {scope : Scope} {dV kV doc pm ct oc : Value} {an od : Option Addr} {osl : Array (Option Value)} {p0 p1 p2 p3 p4 : Pos} {ar : Arg}
theorem look_one {k y : Str} {c c' : Addr} (h : [(k, c)].lookup y = some c') : y = k ∧ c' = c := by
  by_cases e : y = k
  · subst e
    simp [List.lookup] at h
    exact ⟨rfl, h.symm⟩
  · have z : (y == k) = false := by simpa using e
    simp [List.lookup, z] at h
/-- THE RULE: an error's __init__ that begins with super().__init__(..): the arguments, then the rest of the body -/
theorem sup_init (T : SupTxt P K mg C cc cda)
    (lk : K.lookup f = some ⟨oc, od, .func (PySem.W.fnX name qual params (.Expr (.Call (.Attribute (.Call (.Name "super" p0) [] [] p1) "__init__" p2) (e :: es) [] p3) p4 :: rest) scope [("__class__", cc)] dV kV doc pm an (.ref cda) ct), osl⟩)
    (hcd : PySem.W.codeIn K (.ref cda) qual = true) (S : NScope N ps ["__class__"] scope) (hps : (params.posonlyargs ++ params.args).head? = some ar) (hself : ps[0]? = some ar.arg)
    (hsu : scope.names.lookup ("super" : Str) = some .globalImplicit)
    (len : ∀ vs H Q E, sp vs H Q E → vs.length = ps.length)
    (he : ∀ env, starEach (e :: es) env = (false, eval e env) :: starEach es env) (hpl : ∀ pos env, (backTo pos (starEach es env)).any (·.1) = false)
    (hev : ∀ env, ∃ pl, eval (.Call (.Attribute (.Call (.Name "super" p0) [] [] p1) "__init__" p2) (e :: es) [] p3) env = (do
      let ov ← attributeBase (.Call (.Name "super" p0) [] [] p1) "__init__" env (eval (.Call (.Name "super" p0) [] [] p1) env)
      standAt p2.atName
      let (f, first) ← holding [ov] (getMethod ov "__init__" pl)
      callWith p3 f first (backTo p3 (starEach (e :: es) env)) []))
    (hbody : ∀ (X : Cx) (A : Around) (outer : List Env) (s : Shared) (H : Hp) (vs : List V) (Q : VK) (E : XK), X = ncx CX P w K mg base N ⟨name, qual, params, [], scope, [("__class__", cc)], cda⟩ f A outer s H E → Room k X.A → sp vs H Q E →
      ∃ a ta t, vs[0]? = some (.ref a) ∧ H a = some (exo a C none) ∧ PA X (e :: es) ta ∧ PSs X rest t ∧
        ta (startF N vs [none]) H fun ws H1 => ws.length ≤ 1000 ∧ H1 a = some (exo a C none) ∧ t { nx := fun _ H' => Q .non H', rt := Q } (startF N vs [none]) H1) :
    FnOk P w K mg base CX (k + 1) f (PySem.W.fnX name qual params (.Expr (.Call (.Attribute (.Call (.Name "super" p0) [] [] p1) "__init__" p2) (e :: es) [] p3) p4 :: rest) scope [("__class__", cc)] dV kV doc pm an (.ref cda) ct) ps sp := by
  refine ⟨len, fun A outer s H args us vs Q E hr e0 hb r hsp => ?_⟩
  have hl := len _ _ _ _ hsp
  have KX : K.In s.heap := e0.mod.kin.keeps fun b o q => (e0.bs b o q).1
  have lim : s.heap.NoLimit := e0.mod.nolimit.keeps fun b o q => (e0.bs b o q).1
  obtain ⟨a, ta, t, ha0, hex, hA, hR, hq⟩ := hbody _ A outer s H vs Q E rfl (hr.deeper _) hsp
  obtain ⟨cl, cld, csl, hcell⟩ := T.cell
  obtain ⟨ccl, cdd, fv, ccs, file, tf, hco, hvs, hfile⟩ := T.code
  have hkc : scope.names.lookup ("__class__" : Str) = some .free := S.frk _ (by simp)
  have hka : scope.names.lookup ar.arg = some .local := S.par _ (List.mem_of_getElem? hself)
  have hcs : CellsAt [("__class__", cc)] ["__class__"] [none] s.heap H := by
    refine ⟨rfl, fun y c z => ?_, fun x y c z1 z2 => ?_, fun i y z => ?_⟩
    · have hy : c = cc := (look_one z).2
      subst hy
      exact ⟨(e0.bs _ _ (e0.mod.kin _ _ hcell)).2, _, _, KX _ _ hcell, rfl⟩
    · exact (look_one z1).1.trans (look_one z2).1.symm
    · cases i with
      | zero =>
        cases z
        exact ⟨cc, rfl, fun v z => by cases z⟩
      | succ i => cases z
  obtain ⟨t1, hx⟩ := exo_at e0.hok hex
  have hu0 : us[0]? = some (.ref a) := by
    obtain ⟨u, q1, q2⟩ := r.get ha0
    cases q2
    exact q1
  have ndP : ps.Nodup := by
    have q := S.nd.sublist (List.take_sublist (ps.length + 1) N)
    rw [show N.take (ps.length + 1) = ps ++ [("__class__" : Str)] from S.pre] at q
    exact (List.nodup_append.mp q).1
  have hloc : ∀ y ∈ ps.zip us, scope.names.lookup y.1 = some .local := fun ⟨n, v⟩ hy => S.par n (List.of_mem_zip hy).1
  refine ks_codeAny_call_defAt (binds := ps.zip us) hr.depth (KX _ _ lk) rfl lim (PySem.W.codeRec_of KX hcd) rfl hb S.nocell hloc (fun h₁ hns hk₁ => ?_) S.co S.gen S.kind
  have I : Inv (ncx CX P w K mg base N ⟨name, qual, params, [], scope, [("__class__", cc)], cda⟩ f A outer s H E) [] (startF N vs [none]) H { s with heap := h₁, toks := s.toks + (ps.zip us).length } := inv_startN S hr.hd e0 hl r hcs hns hk₁
  have X1 : K.In h₁ := I.kIn
  obtain ⟨cd, hcd1⟩ : ∃ cd, PySem.W.clsIn K C = some cd := by
    cases z : PySem.W.clsIn K C with
    | none =>
      have q := T.sup
      unfold PySem.W.ks_superIn at q
      rw [z] at q
      cases q
    | some cd => exact ⟨cd, rfl⟩
  obtain ⟨oD, hD1, hD2⟩ : ∃ oD, h₁.get? C = some oD ∧ oD.data = .cls cd := by
    have q := hcd1
    unfold PySem.W.clsIn at q
    split at q
    · rename_i c d cd' sl ho
      cases q
      exact ⟨_, X1 _ _ ho, rfl⟩
    · cases q
  have hx1 := hk₁ _ _ hx
  have neC : a ≠ C := fun z => by
    rw [z] at hx1
    rw [hx1] at hD1
    cases hD1
    cases hD2
  obtain ⟨pl, hev⟩ := hev (ncx CX P w K mg base N ⟨name, qual, params, [], scope, [("__class__", cc)], cda⟩ f A outer s H E).env
  refine ks_wpAt_execs_cons (ks_wpAt_Expr_any (ks_wpAt_MethodCall (pl := pl) ?_ hev) I.quiet)
  refine ks_wpAt_super_base hsu hkc rfl rfl (X1 _ _ lk) rfl hps rfl (X1 _ _ hco) rfl hvs hfile T.top ?_
  obtain ⟨mb, hb1, hb2⟩ := I.mod.blt
  refine PySem.W.ks_loadName_global S.kind hsu (loadGlobal_builtin (I.mod.glob.keeps I.bk) T.mgs (hb1.keeps I.bk) ((hb2 _ (by decide)).trans (by decide +kernel)) ⟨rfl, ?_⟩)
  refine wpAny_loadName_free S.kind hkc rfl ⟨_, X1 _ _ hcell, rfl⟩ ?_
  refine wpAny_loadName_local S.kind hka hns (zip_look ndP hself hu0) ?_
  refine ks_wpAny_isType_cls hD1 hD2 ⟨rfl, ?_⟩
  refine ks_wpAny_call_super hD1 hD2 hx1 rfl (fun c z => by cases z) (PySem.W.looks_mroIn X1 T.mro) (fun h2 hso k2 => ?_)
  have I2 := I.kept (t' := s.toks + (ps.zip us).length) k2
  have X2 : K.In h2 := I2.kIn
  have hx2 := k2 _ _ hx1
  have hin2 : PySem.W.Looks (model P w) h2 (isInstance (.ref a) (.type "ValueError")) true :=
    (show PySem.W.InstAt h2 a _ C none from ⟨hx2, rfl, rfl, trivial⟩).type.andThen (PySem.W.looks_subIn X2 T.sub)
  refine PySem.W.kxs_getMethod PySem.W.kxs_ValueError hso (PySem.W.looks_opaque X2 T.third) (l₀ := cd.mro) (fun A Q E s k q => wpAny_bind ((PySem.W.looks_clsIn X2 hcd1) A _ E s k (wpAny_pure q))) rfl X2 (by
    have q := T.sup
    unfold PySem.W.ks_superIn at q
    rw [hcd1] at q
    exact q) hin2 neC rfl ?_
  have hu3 : (h2.push (PySem.W.kxs_mw "ValueError.__init__" a)).get? h2.objs.size = some (PySem.W.kxs_mw "ValueError.__init__" a) := Heap.get?_push_at rfl rfl
  have I3 := (I2.kept (h' := h2.push (PySem.W.kxs_mw "ValueError.__init__" a)) (t' := s.toks + (ps.zip us).length + 1) fun b o q => Heap.get?_push_of_some _ q).pins_of (pins' := [(h2.objs.size, PySem.W.kxs_mw "ValueError.__init__" a)]) (fun p hp => by
    rw [List.mem_singleton.mp hp]
    exact ⟨hu3, I2.hok.fresh (Nat.le_refl _), Nat.ne_of_gt I2.lt, I2.nofs (Nat.le_refl _), fun v z => by cases z⟩)
  have hrun := hA.run p3 _ _ _ H _ I3 hq
  change wpAny _ _ (callWith p3 (.ref h2.objs.size) [] (backTo p3 (starEach (e :: es) _)) []) _ _ _
  have hep := hpl p3 (ncx CX P w K mg base N ⟨name, qual, params, [], scope, [("__class__", cc)], cda⟩ f A outer s H E).env
  refine PySem.W.kxs_callWith (i := "ValueError.__init__") (x := a) (by
    rw [he]
    exact hep) ?_
  have hrun2 := hrun
  rw [he] at hrun2 ⊢
  refine evalArgs_plain (thn hrun2 fun us4 s4 hh => ?_)
  obtain ⟨ws, H4, I4, r4, hz, hx4, ht⟩ := hh
  have pin4 := (I4.pin (h2.objs.size, PySem.W.kxs_mw "ValueError.__init__" a) (List.mem_append_right _ List.mem_cons_self)).1
  refine ⟨pin4, ?_⟩
  obtain ⟨t4, ho4⟩ := exo_at I4.hok hx4
  refine call_mw T.ox I4.kIn pin4 ho4 (by
    change us4.length ≤ _
    rw [← Paired.length r4, sizeLine_eq]
    omega) fun h5 t5 k5 hx5 => ?_
  have J0 := I4.write (t' := s4.toks) (x := a) (e := a) (o := exo a C none) (by rw [hx4]; exact True.intro) (.inl rfl) k5 ⟨_, hx5⟩ (exo_ok hx5)
  rw [upd_self hx4] at J0
  refine wpAt_of_wpAny (wpAny_mono (hR.run _ _ _ _ _ J0 ht) (fun fl s' hs => ?_) fun e s' hs => hs)
  have fin : ∀ {pins : List (Addr × Obj)} {σ' : L2.St} {H' : Hp} {v : V} {u : Value}, Inv (ncx CX P w K mg base N ⟨name, qual, params, [], scope, [("__class__", cc)], cda⟩ f A outer s H E) pins σ' H' s' → RelV v u → Q v H' → CE outer P w H s Q u s' :=
    fun {_ σ' H' v u} J rv q => ⟨v, H', J.os, J.bare, J.base, J.hok, rv, q⟩
  cases fl with
  | ret u =>
    obtain ⟨v, σ', H', J, rv, q⟩ := hs
    exact fin J rv q
  | next =>
    obtain ⟨σ', H', J, q⟩ := hs
    exact fin (v := V.non) (u := Value.none) J rfl q
  | brk =>
    obtain ⟨_, _, _, q⟩ := hs
    exact False.elim q
  | cont =>
    obtain ⟨_, _, _, q⟩ := hs
    exact False.elim q
end

/-- __init__ of an error with one field -/
def spErr (C : Addr) (fl : Str) : Sp := fun vs H Q _ => ∃ (a : Addr) (v : V), vs = [.ref a, v] ∧ H a = some (exo a C none) ∧ ∀ d, H d = none → d ≠ a → Q .non (upd (upd H d (exd d [(fl, v)])) a (exo a C (some d)))
section
variable {P : Program} {w : World} {K : PySem.W.Frag} {mg : Str → Option Value} {base : Heap} {C cc cda f : Addr}
variable {qual fl : Str} {params : Arguments} {scope : Scope} {dV kV doc pm ct oc : Value} {an od : Option Addr} {osl : Array (Option Value)} {p0 p1 p2 p3 p4 q1 q2 q3 q4 q5 : Pos} {ar : Arg} {body : List Stmt}
theorem ok_err (T : SupTxt P K mg C cc cda) (hno : PySem.W.findIn K (.ref C) fl = some none)
    (lk : K.lookup f = some ⟨oc, od, .func (PySem.W.fnX "__init__" qual params body scope [("__class__", cc)] dV kV doc pm an (.ref cda) ct), osl⟩)
    (hb : body = [.Expr (.Call (.Attribute (.Call (.Name "super" p0) [] [] p1) "__init__" p2) [.Name fl q1] [] p3) p4, .Assign [.Attribute (.Name "self" q2) fl q3] (.Name fl q4) q5])
    (hcd : PySem.W.codeIn K (.ref cda) qual = true) (S : NScope ["self", fl, "__class__"] ["self", fl] ["__class__"] scope) (hps : (params.posonlyargs ++ params.args).head? = some ar) (hself : ar.arg = "self")
    (hsu : scope.names.lookup ("super" : Str) = some .globalImplicit) (hdb : (fl == ("__debug__" : Str)) = false) (hcn : (fl == ("__classdict__" : Str)) = false)
    (hev : ∀ env, ∃ pl, eval (.Call (.Attribute (.Call (.Name "super" p0) [] [] p1) "__init__" p2) [.Name fl q1] [] p3) env = (do
      let ov ← attributeBase (.Call (.Name "super" p0) [] [] p1) "__init__" env (eval (.Call (.Name "super" p0) [] [] p1) env)
      standAt p2.atName
      let (f, first) ← holding [ov] (getMethod ov "__init__" pl)
      callWith p3 f first (backTo p3 (starEach [.Name fl q1] env)) [])) :
    FnOk P w K mg base CX0 1 f (PySem.W.fnX "__init__" qual params body scope [("__class__", cc)] dV kV doc pm an (.ref cda) ct) ["self", fl] (spErr C fl) := by
  subst hb
  refine sup_init (N := ["self", fl, "__class__"]) T lk hcd S hps (by rw [hself]; rfl) hsu (fun vs H Q E h => ?_) (fun _ => rfl) (fun _ _ => rfl) hev (fun X A outer s H vs Q E hX hr h => ?_)
  · obtain ⟨a, v, rfl, _⟩ := h
    rfl
  · obtain ⟨a, v, rfl, ha, k⟩ := h
    subst hX
    have v1 : PE (ncx CX0 P w K mg base ["self", fl, "__class__"] ⟨"__init__", qual, params, [], scope, [("__class__", cc)], cda⟩ f A outer s H E) (.Name fl q1) (tVar 1) := pe_var (i := 1) rfl (.inl (S.par fl (by simp))) hdb hcn
    have v2 : PE (ncx CX0 P w K mg base ["self", fl, "__class__"] ⟨"__init__", qual, params, [], scope, [("__class__", cc)], cda⟩ f A outer s H E) (.Name fl q4) (tVar 1) := pe_var (i := 1) rfl (.inl (S.par fl (by simp))) hdb hcn
    have v0 : PE (ncx CX0 P w K mg base ["self", fl, "__class__"] ⟨"__init__", qual, params, [], scope, [("__class__", cc)], cda⟩ f A outer s H E) (.Name "self" q2) (tVar 0) := pe_var (i := 0) rfl (.inl (S.par "self" (by simp)))
    refine ⟨a, _, _, rfl, ha, pa_cons v1 pa_nil, pss_one (ps_ost v0 v2), ?_⟩
    refine ⟨_, rfl, (show 1 ≤ 1000 by decide), ha, ?_⟩
    refine ⟨_, rfl, _, rfl, a, C, rfl, T.ox, hno, .inl ⟨ha, fun d hd hne => k d hd hne⟩⟩
end

/-! ## defs that may raise, called; errors made -/
/-- a def that may be called by its name and may raise -/
structure CalX (P : Program) (w : World) (K : PySem.W.Frag) (mg : Str → Option Value) (base : Heap) (k : Nat) (x : Str) (sp : Sp) : Prop where
  ex : ∃ (f : Addr) (fd : FuncData) (ps : List Str), FnOk P w K mg base (L2.CX P w) k f fd ps sp ∧ mg x = some (.ref f) ∧ PySem.W.keepIn K (.ref f) = true ∧ Binds K fd ps []
/-- a class of errors with one field -/
structure Erm (P : Program) (w : World) (K : PySem.W.Frag) (mg : Str → Option Value) (base : Heap) (k : Nat) (x : Str) (C : Addr) (fl : Str) : Prop where
  ex : ∃ (f : Addr) (fd : FuncData) (ps : List Str), OexC K C ∧ PySem.W.findIn K (.ref C) "__init__" = some (some (.ref f)) ∧ PySem.W.typeIn K (.ref f) = some (.type "function") ∧ FnOk P w K mg base CX0 k f fd ps (spErr C fl) ∧ Binds K fd ps [] ∧ mg x = some (.ref C)
/-- X(e): an error of the class C whose dict holds the one field -/
def tErr (C : Addr) (fl : Str) (ta : TA) : L2.St → Hp → XK → Prop := fun σ H Q => ta σ H fun vs H1 => ∃ v, vs = [v] ∧ ∀ d, H1 d = none → Q (.ref C) (some d) (upd H1 d (.xd [(fl, v)]))
section
variable {X : Cx} {W : WX} {k j : Nat} {C : Addr} {x fl : Str} {sp : Sp} {p pos : Pos} {e : Expr} {es : List Expr} {ta : TA} {t : TA}
theorem pe_cx (c : CalX X.prog X.w X.K X.mg X.base k x sp) (hr : Room j X.A) (hk : k ≤ j) (hg : Gl X x) (tk : Takes X W) (ha : PA X (e :: es) t)
    (hdb : (x == ("__debug__" : Str)) = false := by decide) (he : starEach (e :: es) X.env = (false, eval e X.env) :: starEach es X.env := by rfl) (hpl : (backTo pos (starEach es X.env)).any (·.1) = false := by rfl) :
    PE X (.Call (.Name x p) (e :: es) [] pos) (tCallS sp (WE W) t) := by
  obtain ⟨f, fd, ps, F, hm, kp, b⟩ := c.ex
  exact pe_callS F (hr.mono hk) hg hm kp b (fun σ => passAt tk σ) ha hdb he hpl
theorem err_end {H : Hp} {a d : Addr} {fl : Str} {v : V} (ha : H a = none) (hd : H d = none) (hne : d ≠ a) : upd (del (upd (upd (upd H a (exo a C none)) d (exd d [(fl, v)])) a (exo a C (some d))) a) d (.xd [(fl, v)]) = upd H d (.xd [(fl, v)]) := by
  funext b
  by_cases h1 : b = d
  · subst h1
    rw [upd_same, upd_same]
  · rw [upd_ne h1, upd_ne h1]
    by_cases h2 : b = a
    · subst h2
      rw [del_same, ha]
    · rw [del_ne h2, upd_ne h2, upd_ne h1, upd_ne h2]
theorem pmk_e (c : Erm X.prog X.w X.K X.mg X.base k x C fl) (hr : Room j X.A) (hk : k + 1 ≤ j) (hg : Gl X x) (ha : PA X (e :: es) ta)
    (hdb : (x == ("__debug__" : Str)) = false := by decide) (he : starEach (e :: es) X.env = (false, eval e X.env) :: starEach es X.env := by rfl) (hpl : (backTo pos (starEach es X.env)).any (·.1) = false := by rfl) :
    PMk X (.Call (.Name x p) (e :: es) [] pos) (tErr C fl ta) := by
  obtain ⟨f, fd, ps, T, iC, tI, F, b, hm⟩ := c.ex
  intro pins s σ H Q I h
  have ha' : PA X (e :: es) (fun σ H Q' => ∃ Q, ta σ H Q ∧ ∀ vs H1, Q vs H1 → Q' vs H1) := ⟨fun pos pins s σ H Q' I ⟨Q, h, m⟩ => thn (ha.run pos pins s σ H Q I h) fun us s' ⟨vs, H1, J, r, q⟩ => ⟨vs, H1, J, r, m _ _ q⟩⟩
  refine pmk_oex T iC tI F (hr.mono hk) b .nil pass0 hg hm ha' hdb he hpl pins s σ H Q I ⟨_, h, fun vs H1 z => ?_⟩
  obtain ⟨v, rfl, q⟩ := z
  refine ⟨(show 1 ≤ 1000 by decide), fun a ha => ⟨a, v, rfl, upd_same, fun d hd hne => ⟨rfl, d, [(fl, v)], upd_same, ?_, ?_, ?_⟩⟩⟩
  · rw [upd_ne hne, upd_same]
  · rw [upd_ne hne] at hd
    exact hd
  · rw [upd_ne hne] at hd
    rw [err_end ha hd hne]
    exact q d hd
end
/-- what the written part says of a class of errors, for its catching -/
structure ErrT (K : PySem.W.Frag) (mg : Str → Option Value) (x : Str) (C : Addr) (fl : Str) : Prop where
  gC : mg x = some (.ref C)
  te : PySem.W.exmOne K (.ref C) (.ref C) = some true
  xf : XfC K C
  no : PySem.W.findIn K (.ref C) fl = some none
/-! ## constants of the module: data that stands in the written part -/
def mapO (f : Value → Option PyData) : List Value → Option (List PyData)
  | [] => some []
  | u :: r => (f u).bind fun d => (mapO f r).map (d :: ·)
def datK (K : PySem.W.Frag) : Nat → Value → Option PyData
  | 0, _ => none
  | n + 1, v => match v with
    | .none => some .none
    | .bool b => some (.bool b)
    | .int i _ => some (.int i)
    | .str x _ => some (.str x)
    | .ref a => match K.lookup a with
      | some o => match o.data with
        | .seq its _ => if its.size ≤ 1000 then (if o.cls = .type "tuple" then (mapO (datK K n) its.toList).map .tuple else if o.cls = .type "list" ∧ o.dict = none then (mapO (datK K n) its.toList).map .list else none) else none
        | _ => none
      | none => none
    | _ => none
def constK (K : PySem.W.Frag) (x : Str) : Option PyData := match PySem.W.nsIn K mainGlobals x with
  | some (some u) => datK K 6 u
  | _ => none
theorem mapO_ok {K : PySem.W.Frag} {f : Value → Option PyData} (hf : ∀ u d, f u = some d → ∃ v, RelV v u ∧ ∀ H, Dp K H v d) : ∀ (us : List Value) (ds : List PyData), mapO f us = some ds → ∃ vs, Vals vs us ∧ ∀ H, DpAll K H vs ds
  | [], ds, e => by
    cases e
    exact ⟨[], .nil, fun _ => .nil⟩
  | u :: r, ds, e => by
    unfold mapO at e
    cases h1 : f u with
    | none => rw [h1] at e; cases e
    | some d =>
      rw [h1, Option.bind_some] at e
      cases h2 : mapO f r with
      | none => rw [h2] at e; cases e
      | some es =>
        rw [h2] at e
        cases e
        obtain ⟨v, r1, q1⟩ := hf u d h1
        obtain ⟨vs, r2, q2⟩ := mapO_ok hf r es h2
        exact ⟨v :: vs, .cons r1 r2, fun H => .cons (q1 H) (q2 H)⟩
theorem datK_ok {K : PySem.W.Frag} : ∀ (n : Nat) (u : Value) (d : PyData), datK K n u = some d → ∃ v, RelV v u ∧ ∀ H, Dp K H v d
  | 0, _, _, e => by cases e
  | n + 1, u, d, e => by
    unfold datK at e
    cases u with
    | none => cases e; exact ⟨.non, rfl, fun _ => .non⟩
    | bool b => cases e; exact ⟨.bl b, rfl, fun _ => .bl b⟩
    | int i t => cases e; exact ⟨.int i, ⟨t, rfl⟩, fun _ => .int i⟩
    | str x t => cases e; exact ⟨.str x, ⟨t, rfl⟩, fun _ => .str x⟩
    | ref a =>
      dsimp only at e
      cases hl : K.lookup a with
      | none => rw [hl] at e; cases e
      | some o =>
        rw [hl] at e
        dsimp only at e
        split at e
        · rename_i its m hd
          split at e
          · rename_i hz
            have hz' : its.size ≤ sizeLine := Nat.le_trans hz (by rw [sizeLine_eq]; decide)
            split at e
            · rename_i hc
              cases h2 : mapO (datK K n) its.toList with
              | none => rw [h2] at e; cases e
              | some ds =>
                rw [h2] at e
                cases e
                obtain ⟨vs, r, q⟩ := mapO_ok (datK_ok n) _ _ h2
                exact ⟨.ref a, rfl, fun H => .tup (.inr ⟨o, its, m, hl, hc, hd, hz', r⟩) (q H)⟩
            · split at e
              · rename_i hc
                cases h2 : mapO (datK K n) its.toList with
                | none => rw [h2] at e; cases e
                | some ds =>
                  rw [h2] at e
                  cases e
                  obtain ⟨vs, r, q⟩ := mapO_ok (datK_ok n) _ _ h2
                  exact ⟨.ref a, rfl, fun H => .lst (.inr ⟨o, its, m, hl, hc.1, hc.2, hd, hz', r⟩) (q H)⟩
              · cases e
          · cases e
        · cases e
    | _ => cases e
theorem const_of {K : PySem.W.Frag} {h : Heap} {mg : Str → Option Value} {x : Str} {d : PyData} (X : K.In h) (G : h.Ns mainGlobals mg) (e : constK K x = some d) : ∃ v : V, (∃ u, mg x = some u ∧ RelV v u) ∧ ∀ H : Hp, Dp K H v d := by
  unfold constK at e
  split at e
  · rename_i u hu
    obtain ⟨v, r, q⟩ := datK_ok _ _ _ e
    exact ⟨v, ⟨u, PySem.W.mg_of X G hu, r⟩, q⟩
  · cases e
/-! ## x in, x not in a tuple of data -/
def rInT (K : PySem.W.Frag) : R2 := fun x y H Q => ∃ d ds, Dp K H x d ∧ Dp K H y (.tuple ds) ∧ SeqAt.shaped d = true ∧ SeqAt.shaped (.tuple ds) = true ∧ Q (.bl (ds.any fun z => PyData.eqv z d)) H
def rNotInT (K : PySem.W.Frag) : R2 := fun x y H Q => ∃ d ds, Dp K H x d ∧ Dp K H y (.tuple ds) ∧ SeqAt.shaped d = true ∧ SeqAt.shaped (.tuple ds) = true ∧ Q (.bl (!ds.any fun z => PyData.eqv z d)) H
section
variable {X : Cx}
theorem op_inT (hu : X.A.units + 65 < cLine) : OpR X (compareOp .In) (rInT X.K) := by
  intro pins s σ H x y v u Q I rx ry ⟨d, ds, hd, he, sd, se, q⟩
  obtain ⟨as, r1⟩ := Dp.reads I d x v hd rx
  obtain ⟨bs, r2⟩ := Dp.reads I (.tuple ds) y u he ry
  exact SeqAt.in_tuple_reads r2 r1 (SeqAt.canLay_of_shaped se) (SeqAt.canLay_of_shaped sd) (room_in_shaped sd hu) ⟨.bl _, H, I, rfl, q⟩
theorem op_notInT (hu : X.A.units + 65 < cLine) : OpR X (compareOp .NotIn) (rNotInT X.K) := by
  intro pins s σ H x y v u Q I rx ry ⟨d, ds, hd, he, sd, se, q⟩
  obtain ⟨as, r1⟩ := Dp.reads I d x v hd rx
  obtain ⟨bs, r2⟩ := Dp.reads I (.tuple ds) y u he ry
  exact SeqAt.notIn_tuple_reads r2 r1 (SeqAt.canLay_of_shaped se) (SeqAt.canLay_of_shaped sd) (room_in_shaped sd hu) ⟨.bl _, H, I, rfl, q⟩
end
theorem slA_new {K : PySem.W.Frag} {H : Hp} {a : Addr} {xs : List V} {lo hi : Option Int} {Q : VK} (h : SqT K H a xs) (k : ∀ (b : Addr) (H' : Hp), Same H H' → SqT K H' b (cutV xs lo hi) → Q (.ref b) H') : rSlA K (.ref a) lo hi H Q := by
  refine ⟨a, xs, rfl, h, fun e => k a H (Same.refl _) ?_, fun _ p n => k p _ (same_new n) (SqT.of upd_same)⟩
  have q : cutV xs lo hi = xs := by
    unfold cutV
    rw [e.1, e.2]
    simp
  rw [q]
  exact h
theorem cut_tail {v : V} {vs : List V} : cutV (v :: vs) (some 1) none = vs := (cut_from (xs := v :: vs) (i := 1) (by simp)).trans rfl
/-- an «if» whose test is known -/
theorem ifT {A B : Prop} {b : Bool} (e : b = true) (h : A) : (if b = true then A else B) := by
  rw [if_pos e]
  exact h
theorem ifF {A B : Prop} {b : Bool} (e : b = false) (h : B) : (if b = true then A else B) := by
  rw [if_neg (by rw [e]; decide)]
  exact h
theorem ne_int {i j : Int} (h : i ≠ j) : (!decide (V.int i = V.int j)) = true := by
  simp [h]
theorem ne_int0 {i j : Int} (h : i = j) : (!decide (V.int i = V.int j)) = false := by
  simp [h]
end G

/-! ## sets of ints; isinstance of a caught error that has a dict (my own) -/
namespace G
open PySem PySem.Spec PySem.Calls PyProof.Rows L2
/-- set(t), t a tuple of ints -/
def rSetT (K : PySem.W.Frag) (w : World) : List V → Hp → VK → Prop := fun xs H Q => ∃ (p : Addr) (ns : List Int), xs = [.ref p] ∧ SqT K H p (ns.map V.int) ∧ ns.length ≤ 1000 ∧
  ∀ (n : Nat) (q : Addr), n ≤ ns.length → H q = none → Q (.ref q) (upd H q (SetO w q (fun j => decide (j ∈ ns)) n))
section
variable {X : Cx}
theorem cr_setT (hc : X.calm = true) : CallR X (.type "set") (rSetT X.K X.w) := by
  intro pins s σ H xs us Q I r h
  obtain ⟨p, ns, rfl, hq, hl, q⟩ := h
  cases r with
  | cons rx rr =>
    cases rr
    cases rx
    obtain ⟨its, rv, pt, _⟩ := I.tuple hq
    refine call_set_tupI ns (I.ok.hd hc) (show s.heap.IsTuple p its.toArray from pt) (ints_of_vals rv) (by unfold scanBound; omega) fun h' tk c R hcn k => ?_
    exact ⟨.ref _, upd H s.heap.objs.size (SetO X.w s.heap.objs.size (fun j => decide (j ∈ ns)) c), I.laid (t' := tk) k (Nat.le_refl _) (setO_new R), rfl, q c _ hcn (I.hok.fresh (Nat.le_refl _))⟩
end
section
open PySem.W
variable {prog : Program} {w : World} {A : Around} {E : Value → Shared → Prop} {s : Shared} {K : Frag} {x D : Addr} {ox : Obj} {od : Option Obj}
theorem cls_found (c : ExcC K D) : findObj K D od "__class__" = some (.bind (.builtin "getset_descriptor.__get__") (.builtin "object.__class__")) := by
  obtain ⟨cd, h, _⟩ := any_some c.hd
  simp [findObj, h, c.ha, c.hn, c.ht]
/-- x.__class__, x an error with or without a dict -/
theorem err_cls {Q : Option Value → Shared → Prop} (c : ExcC K D) (X : K.In s.heap) (I : PySem.W.InstAt s.heap x ox D od) (q : Q (some (.ref D)) { s with toks := s.toks + 1 }) : wpAny (model prog w) A (getAttr? (.ref x) "__class__") Q E s := by
  rcases s with ⟨hp, gs, dr, tk, os⟩
  have ty := I.type (M := model prog w)
  have own := looks_find (M := model prog w) X I (cls_found c)
  have isB : Looks (model prog w) hp (isInstance (.ref x) (.type "BaseException")) true := ty.andThen (looks_subIn X c.hs)
  have off : (onTheHeap (.ref D) && Value.builtin "BaseException.__getattribute__" == Value.builtin "object.__getattribute__") = false := by
    rw [show (Value.builtin "BaseException.__getattribute__" == Value.builtin "object.__getattribute__") = false by decide +kernel, Bool.and_false]
  unfold getAttr? getAttrBy? getAttrBy
  refine wpAny_bind (wpAny_mkText (wpAny_bind (wpAny_attempt (wpAny_holding (wpAny_bind (ty.at (wpAny_bind ((looks_findIn X c.hg).at ?_))))))))
  refine PySem.W.KFB.if_not off ?_
  unfold getAttrByItsOwn hookBefore
  refine wpAny_bind (PySem.W.KFB.if_so rfl ((looks_findIn X c.hk).at (wpAny_bind (wpAny_attempt (wpAny_holding ?_)))))
  unfold callGetattribute boundAndCalled
  refine PySem.W.KFB.if_not rfl ?_
  rw [F.excAttr_ValueError.ga.bind (.ref x)]
  refine wpAny_bind (wpAny_pure (wpAny_call (codeAny_call_builtin F.excAttr_ValueError.ga.plain F.entry_bexc_ga (@check_slot (model prog w) _ _ ⟨hp, gs, dr, tk + 1, os⟩ "BaseException.__getattribute__" "BaseException" "__getattribute__" (.ref x) [.str "__class__" tk] [] _ (by decide +kernel) (by decide +kernel) isB (F.args_bexc_ga (.ref x) (.str "__class__" tk)) ?_))))
  unfold Builtin.«object.__getattribute__»
  refine wpAny_bind (wpAny_of_eq (a := (Value.ref x, [Value.str "__class__" tk])) (by simp only [slotArgs]; rfl) (wpAny_bind (wpAny_pure (wpAny_bind (ty.at (wpAny_bind (own.at ?_)))))))
  refine wpAny_bind (wpAny_holding (wpAny_call (class_get (s := ⟨hp, gs, dr, tk + 1, os⟩) X I c.hm (wpAny_pure ?_))))
  dsimp only
  rw [handedOut_of (v := Value.ref D) rfl]
  exact wpAny_pure (wpAny_pure q)
/-- isinstance asks the instances of such a class -/
theorem kitx_err (c : ExcC K D) : KitX K (.ref x) (.ref D) (fun h => PySem.W.InstAt h x ox D od) :=
  have z := handS_kitx_exc (x := x) (ox := ox) c.hg c.hk c.hs c.hd c.ha c.hn c.ht c.hm
  { ty := fun _ _ _ I => I.type, it := fun M h X _ => by
      obtain ⟨cd, e, _⟩ := any_some c.hd
      exact (fun A Q E s k q => by
        unfold isType loadHead
        unfold clsIn at e
        split at e
        · rename_i o
          exact wpAny_bind (wpAny_loadPart (k _ _ (X _ _ o)) (wpAny_pure q))
        · cases e)
    ne := z.ne, ca := fun X I q => err_cls c X I q }
end
/-- isinstance(e, c), e the error that the suite holds, with its dict -/
def rIsD (K : PySem.W.Frag) (cls : Value) (d : Option Addr) (a : Addr) : List V → Hp → VK → Prop := fun xs H Q => ∃ (D : Addr) (c : V) (cv : Value) (b : Bool) (dd : Addr) (fs : List (Str × V)), cls = .ref D ∧ d = some dd ∧ H dd = some (.xd fs) ∧ ExcC K D ∧
  xs = [.ref a, c] ∧ (∀ u, RelV c u → u = cv) ∧ PySem.W.kitOne K (.ref D) cv = some b ∧ Q (.bl b) H
/-- error.f in the suite, the error's class known there -/
def tXg (K : PySem.W.Frag) (a : Addr) (cls : Value) (d : Option Addr) (f : Str) (i : Nat) : TE := fun σ H Q => ∃ x, σ[i]? = some (some x) ∧ x = .ref a ∧ ∃ (C dd : Addr) (fs : List (Str × V)) (v : V), cls = .ref C ∧ XfC K C ∧ PySem.W.findIn K (.ref C) f = some none ∧ d = some dd ∧ H dd = some (.xd fs) ∧ fs.lookup f = some v ∧ Q v H
section
variable {X : Cx} {a : Addr} {oe : Obj} {cls : Value} {d : Option Addr} {pn : List (Addr × Obj)}
theorem call_isD (hz : Zc cls d oe) (hf : ∃ vs, oe.data = .fields vs) : CallR (X.suite a ((a, oe) :: pn)) (.builtin "isinstance") (rIsD X.K cls d a) := by
  intro pins s σ H xs us Q I r h
  obtain ⟨D, c, cv, b, dd, fs, rfl, rfl, hx, C, rfl, hcv, e, q⟩ := h
  cases r with
  | cons rx rr =>
    cases rx
    cases rr with
    | cons rt rr =>
      cases rr
      have ec := hcv _ rt
      subst ec
      obtain ⟨vs, hd⟩ := hf
      obtain ⟨mA, hns, _⟩ : ObjOk X.prog X.w H s.heap dd (.xd fs) := I.hok dd _ hx
      obtain ⟨od, ho, _⟩ := lookIn_ns hns
      have J : PySem.W.InstAt s.heap a oe D (some od) := ⟨(I.pin (a, oe) (List.mem_append_left _ List.mem_cons_self)).1, hz.1, by simp [PySem.W.notCls, hd], by rw [hz.2]; exact ho⟩
      exact PySem.W.kia_one (kitx_err C) I.kIn J e (fun z => nomatch z) fun tk => ⟨.bl b, H, I.kept (t' := tk) fun _ _ z => z, rfl, q⟩
theorem pe_xg {e : Expr} {pos : Pos} {n : Str} {i : Nat} (hz : Zc cls d oe) (hf : ∃ vs, oe.data = .fields vs) (he : PE (X.suite a ((a, oe) :: pn)) e (tVar i)) (hb : attributeBase e n X.env (eval e X.env) = eval e X.env := by rfl) :
    PE (X.suite a ((a, oe) :: pn)) (.Attribute e n pos) (tXg X.K a cls d n i) :=
  ⟨fun pins s σ H Q I ⟨x, hx, ex, C, dd, fs, v, ec, T, hno, ed, hdd, l, q⟩ => (pe_xf T hno hz hf he hb).run pins s σ H Q I ⟨x, hx, ex, ec, dd, fs, v, ed, hdd, l, q⟩⟩
end
/-! ### errors that leave, new tuples and lists, heaps without some lists -/
/-- an error with this word leaves -/
def RaiseF (C : Addr) (x : Str) (H : Hp) (E : XK) : Prop := ∀ (H' : Hp) (d : Addr), Same H H' → H' d = some (.xd [("what", .str x)]) → E (.ref C) (some d) H'
theorem RaiseF.here {C : Addr} {x : Str} {H H' : Hp} {E : XK} {d : Addr} (r : RaiseF C x H E) (s : Same H H') (n : H' d = none) : E (.ref C) (some d) (upd H' d (.xd [("what", .str x)])) := r _ d (s.trans (same_new n)) upd_same
theorem RaiseF.later {C : Addr} {x : Str} {H H' : Hp} {E : XK} (s : Same H H') (r : RaiseF C x H E) : RaiseF C x H' E := fun H2 d s2 e => r H2 d (s.trans s2) e
theorem size_lt {m : Nat} (h : m < 100000) : m < sizeLine := Nat.lt_of_lt_of_le h (by decide)
theorem none_of_same {H H' : Hp} {p : Addr} (s : Same H H') (n : H' p = none) : H p = none := by
  cases e : H p with
  | none => rfl
  | some o =>
    rw [s _ _ e] at n
    cases n
theorem del1_same {H H' : Hp} {a : Addr} (s : Same H H') : Same (del1 H a) (del1 H' a) := fun b o e => by
  by_cases z : b = a
  · rw [z, del1_at] at e
    cases e
  · rw [del1_ne z] at e ⊢
    exact s b o e
theorem del1_sub {H : Hp} {a : Addr} : Same (del1 H a) H := fun b o e => by
  by_cases z : b = a
  · rw [z, del1_at] at e
    cases e
  · rwa [del1_ne z] at e
theorem del1_but {H H' : Hp} {a : Addr} (k : But a H H') : Same (del1 H a) (del1 H' a) := fun b o e => by
  by_cases z : b = a
  · rw [z, del1_at] at e
    cases e
  · rw [del1_ne z] at e ⊢
    exact k b o z e
theorem del2_step {H H' : Hp} {a c : Addr} (k : ∀ b o, b ≠ a → b ≠ c → H b = some o → H' b = some o) : Same (del1 (del1 H a) c) (del1 (del1 H' a) c) := fun b o e => by
  by_cases z : b = c
  · rw [z, del1_at] at e
    cases e
  · by_cases y : b = a
    · rw [del1_ne z, y, del1_at] at e
      cases e
    · rw [del1_ne z, del1_ne y] at e ⊢
      exact k b o y z e
theorem Deck.ne {H : Hp} {a D : Addr} (h : Deck H a) (hD : H D = none) : D ≠ a := fun e => by
  obtain ⟨ds, _, q⟩ := h
  rw [← e, hD] at q
  cases q
theorem but_mut {dk p : Addr} {H H' : Hp} {o : HO} (b : But dk H H') (n : H p = none) : But dk H (upd H' p o) := fun c u nc e => by
  rw [upd_ne (fun z => by rw [z, n] at e; cases e)]
  exact b c u nc e
theorem none_of_but {dk p : Addr} {H H' : Hp} (hk : Deck H' dk) (b : But dk H H') (n : H' p = none) : H p = none := by
  have ne := Deck.ne hk n
  cases e : H p with
  | none => rfl
  | some o =>
    rw [b _ _ ne e] at n
    cases n
section
variable {K : PySem.W.Frag}
theorem tupD {H : Hp} {p : Addr} {xs : List V} {ds : List PyData} (h : DpAll K H xs ds) (n : H p = none) : Same H (upd H p (.tup xs)) ∧ Dp K (upd H p (.tup xs)) (.ref p) (.tuple ds) :=
  ⟨same_new n, .tup (SqT.of upd_same) (dps_same (same_new n) h)⟩
theorem lstD {H : Hp} {p : Addr} {xs : List V} {ds : List PyData} (h : DpAll K H xs ds) (n : H p = none) : Same H (upd H p (.lst xs)) ∧ Dp K (upd H p (.lst xs)) (.ref p) (.list ds) :=
  ⟨same_new n, .lst (SqL.of upd_same) (dps_same (same_new n) h)⟩
theorem catD {H : Hp} {v u : V} {ds es : List PyData} {Q : VK} (h1 : Dp K H v (.tuple ds)) (h2 : Dp K H u (.tuple es)) (hl : ds.length + es.length ≤ 100000) (k : ∀ (z : V) (H' : Hp), Same H H' → Dp K H' z (.tuple (ds ++ es)) → Q z H') : rCatA K v u H Q := by
  obtain ⟨a, xs, rfl, ha, hxs⟩ := dp_tup h1
  obtain ⟨b, ys, rfl, hb, hys⟩ := dp_tup h2
  have l1 := dps_len hxs
  have l2 := dps_len hys
  refine ⟨a, b, xs, ys, rfl, rfl, ha, hb, size_of (by omega), fun e => ?_, fun _ e => ?_, fun _ _ p hp => ?_⟩
  · subst e
    cases hxs
    exact k _ _ (Same.refl _) h2
  · subst e
    cases hys
    rw [List.append_nil] at k
    exact k _ _ (Same.refl _) h1
  · exact k _ _ (same_new hp) (.tup (SqT.of upd_same) (dps_app (dps_same (same_new hp) hxs) (dps_same (same_new hp) hys)))
/-- a new list of two lists -/
theorem catL {H : Hp} {l b : Addr} {xs zs : List V} {ds es : List PyData} {Q : VK} (h1 : H l = some (.lst xs)) (h2 : H b = some (.lst zs)) (d1 : DpAll K H xs ds) (d2 : DpAll K H zs es) (hl : ds.length + es.length ≤ 100000)
    (k : ∀ p, H p = none → DpAll K (upd H p (.lst (xs ++ zs))) (xs ++ zs) (ds ++ es) → Q (.ref p) (upd H p (.lst (xs ++ zs)))) : rCat (.ref l) (.ref b) H Q :=
  ⟨l, b, xs, zs, rfl, rfl, h1, h2, by rw [dps_len d1, dps_len d2]; exact size_of hl, fun p n => k p n (dps_same (same_new n) (dps_app d1 d2))⟩
theorem dps5 {H : Hp} {xs : List V} {d0 d1 d2 d3 d4 : PyData} (h : DpAll K H xs [d0, d1, d2, d3, d4]) : ∃ v0 v1 v2 v3 v4, xs = [v0, v1, v2, v3, v4] ∧ Dp K H v0 d0 ∧ Dp K H v1 d1 ∧ Dp K H v2 d2 ∧ Dp K H v3 d3 ∧ Dp K H v4 d4 := by
  cases h with
  | cons a h => cases h with
    | cons b h => cases h with
      | cons c h => cases h with
        | cons d h => cases h with
          | cons e h => cases h; exact ⟨_, _, _, _, _, rfl, a, b, c, d, e⟩
end
theorem paired_imp {α β : Type} {F F' : α → β → Prop} (h : ∀ a b, F a b → F' a b) : ∀ {l₁ : List α} {l₂ : List β}, Paired F l₁ l₂ → Paired F' l₁ l₂
  | _, _, .nil => .nil
  | _, _, .cons k t => .cons (h _ _ k) (paired_imp h t)
theorem paired_eq {α : Type} : ∀ {l₁ l₂ : List α}, Paired (fun u y => u = y) l₁ l₂ → l₁ = l₂
  | _, _, .nil => rfl
  | _, _, .cons k t => by rw [k, paired_eq t]
/-! ### all but lists stands -/
def KeepT (H H' : Hp) : Prop := ∀ b u, H b = some u → (∀ xs, u ≠ .lst xs) → H' b = some u
theorem KeepT.of_same {H H' : Hp} (s : Same H H') : KeepT H H' := fun b u e _ => s b u e
theorem KeepT.of_but {H H' : Hp} {a : Addr} (hk : Deck H a) (s : But a H H') : KeepT H H' := fun b u e n => s b u (fun q => by
  obtain ⟨ds, _, h⟩ := hk
  rw [q, h] at e
  exact n _ (Option.some.inj e).symm) e
theorem KeepT.trans {H H1 H2 : Hp} (s : KeepT H H1) (t : KeepT H1 H2) : KeepT H H2 := fun b u e n => t b u (s b u e n) n
theorem KeepT.upd {H H' : Hp} {a : Addr} {xs ys : List V} (s : KeepT H H') (h : H' a = some (.lst xs)) : KeepT H (upd H' a (.lst ys)) := fun b u e n => by
  have q := s b u e n
  have ne : b ≠ a := fun z => by
    rw [z, h] at q
    exact n _ (Option.some.inj q).symm
  rw [upd_ne ne]
  exact q
theorem SqT.keep {K : PySem.W.Frag} {H H' : Hp} {a : Addr} {xs : List V} (s : KeepT H H') (h : SqT K H a xs) : SqT K H' a xs := by
  rcases h with (h | ⟨o, h⟩) | h
  · exact .inl (.inl (s _ _ h (fun _ z => by cases z)))
  · exact .inl (.inr ⟨o, s _ _ h (fun _ z => by cases z)⟩)
  · exact .inr h
mutual
def noL : PyData → Bool
  | .list _ => false
  | .tuple ds => noLs ds
  | _ => true
def noLs : List PyData → Bool
  | [] => true
  | d :: r => noL d && noLs r
end
mutual
theorem dp_keep {K : PySem.W.Frag} {H H' : Hp} (e : KeepT H H') : ∀ {v : V} {d : PyData}, noL d = true → Dp K H v d → Dp K H' v d
  | _, _, _, .non => .non
  | _, _, _, .bl b => .bl b
  | _, _, _, .int i => .int i
  | _, _, _, .str x => .str x
  | _, _, n, .lst _ _ => by simp [noL] at n
  | _, _, n, .tup h a => .tup (SqT.keep e h) (dps_keep e (by simpa [noL] using n) a)
theorem dps_keep {K : PySem.W.Frag} {H H' : Hp} (e : KeepT H H') : ∀ {v : List V} {d : List PyData}, noLs d = true → DpAll K H v d → DpAll K H' v d
  | _, _, _, .nil => .nil
  | _, _, n, .cons h t => .cons (dp_keep e (by simp only [noLs, Bool.and_eq_true] at n; exact n.1) h) (dps_keep e (by simp only [noLs, Bool.and_eq_true] at n; exact n.2) t)
end
theorem noLs_all {ds : List PyData} (h : ∀ d ∈ ds, noL d = true) : noLs ds = true := by
  induction ds with
  | nil => rfl
  | cons d r ih =>
    unfold noLs
    rw [h d List.mem_cons_self, ih fun x hx => h x (List.mem_cons_of_mem _ hx)]
    rfl
theorem noLs_map {α : Type} {f : α → PyData} {l : List α} (h : ∀ x ∈ l, noL (f x) = true) : noLs (l.map f) = true := noLs_all fun d hd => by
  obtain ⟨x, hx, rfl⟩ := List.mem_map.mp hd
  exact h x hx
theorem KeepT.mut {H H' : Hp} {a : Addr} {xs ys : List V} (h : H' a = some (.lst xs)) : KeepT H' (L2.upd H' a (.lst ys)) := KeepT.upd (KeepT.of_same (Same.refl _)) h
/-- a walk by enumerate -/
theorem for_enum {K : PySem.W.Frag} {a : Addr} {xs : List V} {g : TG} {tb : TS} {D : Ends} {σ : L2.St} {H : Hp} (Pv : Nat → L2.St → Hp → Prop) (p0 : Pv 0 σ H) (seen : ∀ i σ H, i ≤ xs.length → Pv i σ H → SqL K H a xs)
    (step : ∀ i x σ H T, xs[i]? = some x → Pv i σ H → H T = none → g (.ref T) σ (L2.upd H T (.tup [.int (i : Nat), x])) fun σ2 H2 => tb { D with nx := Pv (i + 1), ct := Pv (i + 1), bk := D.nx } σ2 H2) (done : ∀ σ H, Pv xs.length σ H → D.nx σ H) :
    ∃ W : Nat → Nat → L2.St → Hp → Prop, (∃ m, W 0 m σ H) ∧ ∀ i m σ H, W i m σ H →
      ((Ite K a).stop i H ∧ D.nx σ H) ∨ ((Ite K a).go i H ∧ ∃ N : L2.St → Hp → Prop, (∀ σ' H', N σ' H' → ∃ m', m' < m ∧ W (i + 1) m' σ' H') ∧ ∀ x H', (Ite K a).yld i H x H' → g x σ H' fun σ2 H2 => tb { D with nx := N, ct := N, bk := D.nx } σ2 H2) := by
  refine ⟨fun i m σ H => i + m = xs.length ∧ Pv i σ H, ⟨xs.length, Nat.zero_add _, p0⟩, fun i m σ H h => ?_⟩
  have q := seen i σ H (by omega) h.2
  cases m with
  | zero =>
    have e : i = xs.length := h.1
    subst e
    exact .inl ⟨⟨xs, q, Nat.le_refl _⟩, done σ H h.2⟩
  | succ m =>
    have z : i < xs.length := by omega
    refine .inr ⟨⟨xs, xs[i], q, List.getElem?_eq_getElem z⟩, Pv (i + 1), fun σ' H' p' => ⟨m, Nat.lt_succ_self m, by omega, p'⟩, ?_⟩
    rintro v H' ⟨T, x, rfl, nT, rfl, hx⟩
    exact step i x σ H T (hx xs q) h.2 nT
theorem kit_self {K : PySem.W.Frag} {t : Value} : PySem.W.kitOne K t t = some true := by
  unfold PySem.W.kitOne
  rw [if_pos (beq_self_eq_true t)]
theorem kit_not {K : PySem.W.Frag} {C D : Addr} (hd : PySem.W.hasDictIn K D = true) (ht : PySem.W.typeIn K (.ref D) = some (.type "type")) (hs : PySem.W.subIn K (.ref C) (.ref C) = some true) (h : PySem.W.subIn K (.ref C) (.ref D) = some false) : PySem.W.kitOne K (.ref C) (.ref D) = some false := by
  have ne : C ≠ D := fun z => by
    rw [z] at hs h
    rw [hs] at h
    cases h
  obtain ⟨cd, hc, _⟩ := PySem.W.any_some hd
  unfold PySem.W.kitOne
  rw [if_neg (by simpa using ne)]
  unfold PySem.W.kitCls
  simp [hc, ht, h]
end G



namespace Q40
open PySem L2 G
open C8 (Cal Met Mak pe_c pe_mk pe_mt pe_mt0 pe_gc pss_cut tCut)
def top (i : Nat) : Stmt := PySem.Challenge.pw_gatework_k40_whole_runs_of_the_machine.main.body.getD i (.Pass ⟨0, 0, 0, 0⟩)
abbrev s__law_deck : Stmt := top 33
theorem sc__law_deck : FnScope ["script", "cells", "each", "deck", "seed", "k", "cell", "rest", "at"] ["script", "cells", "each"] (defScope s__law_deck) := ⟨rfl, rfl, rfl, by decide +kernel, rfl, by decide +kernel, by decide +kernel⟩
abbrev s__law_take : Stmt := top 34
theorem sc__law_take : FnScope ["deck", "many"] ["deck", "many"] (defScope s__law_take) := ⟨rfl, rfl, rfl, by decide +kernel, rfl, by decide +kernel, by decide +kernel⟩
abbrev s__law_plain : Stmt := top 35
theorem sc__law_plain : FnScope ["value", "item"] ["value"] (defScope s__law_plain) := ⟨rfl, rfl, rfl, by decide +kernel, rfl, by decide +kernel, by decide +kernel⟩
abbrev s_check_words : Stmt := top 7
theorem sc_check_words : FnScope ["words", "word"] ["words"] (defScope s_check_words) := ⟨rfl, rfl, rfl, by decide +kernel, rfl, by decide +kernel, by decide +kernel⟩
abbrev s_fields_of : Stmt := top 8
theorem sc_fields_of : FnScope ["word"] ["word"] (defScope s_fields_of) := ⟨rfl, rfl, rfl, by decide +kernel, rfl, by decide +kernel, by decide +kernel⟩
abbrev s_is_byte : Stmt := top 14
theorem sc_is_byte : FnScope ["value"] ["value"] (defScope s_is_byte) := ⟨rfl, rfl, rfl, by decide +kernel, rfl, by decide +kernel, by decide +kernel⟩
abbrev s_is_count : Stmt := top 15
theorem sc_is_count : FnScope ["value"] ["value"] (defScope s_is_count) := ⟨rfl, rfl, rfl, by decide +kernel, rfl, by decide +kernel, by decide +kernel⟩
abbrev s_check_data : Stmt := top 16
theorem sc_check_data : FnScope ["data", "value"] ["data"] (defScope s_check_data) := ⟨rfl, rfl, rfl, by decide +kernel, rfl, by decide +kernel, by decide +kernel⟩
abbrev s_check_state : Stmt := top 17
theorem sc_check_state : FnScope ["state", "value"] ["state"] (defScope s_check_state) := ⟨rfl, rfl, rfl, by decide +kernel, rfl, by decide +kernel, by decide +kernel⟩
abbrev s_first_state : Stmt := top 18
theorem sc_first_state : FnScope ["data"] ["data"] (defScope s_first_state) := ⟨rfl, rfl, rfl, by decide +kernel, rfl, by decide +kernel, by decide +kernel⟩
abbrev s_replaced : Stmt := top 19
theorem sc_replaced : FnScope ["row", "at", "value"] ["row", "at", "value"] (defScope s_replaced) := ⟨rfl, rfl, rfl, by decide +kernel, rfl, by decide +kernel, by decide +kernel⟩
abbrev s_result_of : Stmt := top 20
theorem sc_result_of : FnScope ["n", "one", "two", "results"] ["n", "one", "two"] (defScope s_result_of) := ⟨rfl, rfl, rfl, by decide +kernel, rfl, by decide +kernel, by decide +kernel⟩
abbrev s_set_register : Stmt := top 21
theorem sc_set_register : FnScope ["state", "a", "value", "pc", "registers", "data", "taken", "row"] ["state", "a", "value", "pc"] (defScope s_set_register) := ⟨rfl, rfl, rfl, by decide +kernel, rfl, by decide +kernel, by decide +kernel⟩
abbrev s_set_data : Stmt := top 22
theorem sc_set_data : FnScope ["state", "address", "value", "pc", "registers", "data", "taken", "row"] ["state", "address", "value", "pc"] (defScope s_set_data) := ⟨rfl, rfl, rfl, by decide +kernel, rfl, by decide +kernel, by decide +kernel⟩
abbrev s_go_to : Stmt := top 23
theorem sc_go_to : FnScope ["state", "pc", "registers", "data", "taken"] ["state", "pc"] (defScope s_go_to) := ⟨rfl, rfl, rfl, by decide +kernel, rfl, by decide +kernel, by decide +kernel⟩
abbrev s_take_byte : Stmt := top 24
theorem sc_take_byte : FnScope ["state", "a", "bytes_in", "pc", "registers", "data", "taken", "row", "value", "there"] ["state", "a", "bytes_in", "pc"] (defScope s_take_byte) := ⟨rfl, rfl, rfl, by decide +kernel, rfl, by decide +kernel, by decide +kernel⟩
abbrev s_moved : Stmt := top 25
theorem sc_moved : FnScope ["state", "fields", "bytes_in", "op", "a", "b", "n", "registers", "data", "_", "pc", "one", "two"] ["state", "fields", "bytes_in"] (defScope s_moved) := ⟨rfl, rfl, rfl, by decide +kernel, rfl, by decide +kernel, by decide +kernel⟩
abbrev s_end_of : Stmt := top 26
theorem sc_end_of : FnScope ["fields", "op", "_", "n"] ["fields"] (defScope s_end_of) := ⟨rfl, rfl, rfl, by decide +kernel, rfl, by decide +kernel, by decide +kernel⟩
abbrev s_once : Stmt := top 27
theorem sc_once : FnScope ["words", "state", "bytes_in", "at", "fields", "end", "later", "row"] ["words", "state", "bytes_in"] (defScope s_once) := ⟨rfl, rfl, rfl, by decide +kernel, rfl, by decide +kernel, by decide +kernel⟩
abbrev s_after : Stmt := top 28
theorem sc_after : FnScope ["words", "state", "bytes_in"] ["words", "state", "bytes_in"] (defScope s_after) := ⟨rfl, rfl, rfl, by decide +kernel, rfl, by decide +kernel, by decide +kernel⟩
abbrev s_run_words : Stmt := top 29
theorem sc_run_words : FnScope ["words", "state", "bytes_in", "most", "here", "out", "trace", "turn", "byte", "end", "row"] ["words", "state", "bytes_in", "most"] (defScope s_run_words) := ⟨rfl, rfl, rfl, by decide +kernel, rfl, by decide +kernel, by decide +kernel⟩
abbrev s_check_row : Stmt := top 30
theorem sc_check_row : FnScope ["row", "good", "what", "bound"] ["row"] (defScope s_check_row) := ⟨rfl, rfl, rfl, by decide +kernel, rfl, by decide +kernel, by decide +kernel⟩
abbrev s_run_back : Stmt := top 31
theorem sc_run_back : FnScope ["state", "trace", "registers", "data", "taken", "row", "at", "what"] ["state", "trace"] (defScope s_run_back) := ⟨rfl, rfl, rfl, by decide +kernel, rfl, by decide +kernel, by decide +kernel⟩
abbrev s__law_spoil : Stmt := top 36
theorem sc__law_spoil : FnScope ["value", "item"] ["value"] (defScope s__law_spoil) := ⟨rfl, rfl, rfl, by decide +kernel, rfl, by decide +kernel, by decide +kernel⟩
abbrev s__law_machine : Stmt := top 37
theorem sc__law_machine : FnScope ["words", "registers", "data", "taken", "bytes_in", "most", "row", "out", "trace", "turn", "pc", "word", "op", "a", "b", "n", "what", "goal", "end", "one", "two", "value", "address"] ["words", "registers", "data", "taken", "bytes_in", "most"] (defScope s__law_machine) := ⟨rfl, rfl, rfl, by decide +kernel, rfl, by decide +kernel, by decide +kernel⟩
abbrev s__law_state : Stmt := top 38
theorem sc__law_state : FnScope ["deck", "registers", "turn"] ["deck"] (defScope s__law_state) := ⟨rfl, rfl, rfl, by decide +kernel, rfl, by decide +kernel, by decide +kernel⟩
abbrev s__law_drawn_word : Stmt := top 39
theorem sc__law_drawn_word : FnScope ["deck", "op", "n"] ["deck"] (defScope s__law_drawn_word) := ⟨rfl, rfl, rfl, by decide +kernel, rfl, by decide +kernel, by decide +kernel⟩
abbrev s__law_why : Stmt := top 40
theorem sc__law_why : FnScope ["ask", "words", "state", "trace", "error"] ["ask", "words", "state", "trace"] (defScope s__law_why) := ⟨rfl, rfl, rfl, by decide +kernel, rfl, by decide +kernel, by decide +kernel⟩
abbrev s_law : Stmt := top 41
theorem sc_law : FnScope ["script", "deck", "words", "state", "coming", "most", "due", "told", "out", "end", "there", "trace", "cut", "first", "second", "here", "turn", "step", "bad", "row", "place", "answers", "wrong"] ["script"] (defScope s_law) := ⟨rfl, rfl, rfl, by decide +kernel, rfl, by decide +kernel, by decide +kernel⟩
abbrev s_InvalidCode___init__ : Stmt := inClass (top 2) 0
abbrev s_InvalidState___init__ : Stmt := inClass (top 3) 0
theorem boot_abs' : bootBuiltins "abs" = some (.builtin "abs") := by decide +kernel
theorem boot_all' : bootBuiltins "all" = some (.builtin "all") := by decide +kernel
theorem boot_any' : bootBuiltins "any" = some (.builtin "any") := by decide +kernel
theorem boot_bool' : bootBuiltins "bool" = some (.type "bool") := by decide +kernel
theorem boot_int' : bootBuiltins "int" = some (.type "int") := by decide +kernel
theorem boot_isinstance' : bootBuiltins "isinstance" = some (.builtin "isinstance") := by decide +kernel
theorem boot_len' : bootBuiltins "len" = some (.builtin "len") := by decide +kernel
theorem boot_list' : bootBuiltins "list" = some (.type "list") := by decide +kernel
theorem boot_min' : bootBuiltins "min" = some (.builtin "min") := by decide +kernel
theorem boot_range' : bootBuiltins "range" = some (.type "range") := by decide +kernel
theorem boot_reversed' : bootBuiltins "reversed" = some (.type "reversed") := by decide +kernel
theorem boot_str' : bootBuiltins "str" = some (.type "str") := by decide +kernel
theorem boot_tuple' : bootBuiltins "tuple" = some (.type "tuple") := by decide +kernel
/-- what the top has left: the built-in names are the built-in ones -/
structure Txt (K : PySem.W.Frag) (mg : Str → Option Value) : Prop where
  b_abs : mg "abs" = none
  b_all : mg "all" = none
  b_any : mg "any" = none
  b_bool : mg "bool" = none
  b_int : mg "int" = none
  b_isinstance : mg "isinstance" = none
  b_len : mg "len" = none
  b_list : mg "list" = none
  b_min : mg "min" = none
  b_range : mg "range" = none
  b_reversed : mg "reversed" = none
  b_str : mg "str" = none
  b_tuple : mg "tuple" = none
  c_MOST_WORDS : ∃ v : V, (∃ u, mg "MOST_WORDS" = some u ∧ RelV v u) ∧ ∀ H : Hp, Dp K H v (.int 256)
  c_MOST_WORD : ∃ v : V, (∃ u, mg "MOST_WORD" = some u ∧ RelV v u) ∧ ∀ H : Hp, Dp K H v (.int 65535)
  c_ENDS : ∃ v : V, (∃ u, mg "ENDS" = some u ∧ RelV v u) ∧ ∀ H : Hp, Dp K H v (.tuple [.str "done", .str "zero", .str "index"])
  c_REGISTERS : ∃ v : V, (∃ u, mg "REGISTERS" = some u ∧ RelV v u) ∧ ∀ H : Hp, Dp K H v (.int 4)
  c_DATA : ∃ v : V, (∃ u, mg "DATA" = some u ∧ RelV v u) ∧ ∀ H : Hp, Dp K H v (.int 64)
  c_BYTE : ∃ v : V, (∃ u, mg "BYTE" = some u ∧ RelV v u) ∧ ∀ H : Hp, Dp K H v (.int 256)
theorem small1000' {n : Nat} (h : n < 100000) : n < sizeLine := Nat.lt_of_lt_of_le h (by decide)
theorem hu65_of {A : Around} {k : Nat} (hr : Room k A) : A.units + 65 < cLine := Nat.lt_of_le_of_lt (by omega) hr.un

section
variable {P : Program} {w : World} {K : PySem.W.Frag} {mg : Str → Option Value} {base : Heap}

/-! ### _law_take: some number below -/
def spTake : Sp := fun vs H Q _ => ∃ (a : Addr) (m : Int), vs = [.ref a, .int m] ∧ 0 < m ∧ Deck H a ∧ ∀ (r : Int) (H' : Hp), 0 ≤ r → r < m → But a H H' → Deck H' a → Q (.int r) H'
theorem ok_take {f : Addr} {fd : FuncData} (F : Fun K "_law_take" "_law_take" s__law_take f fd) (T : Txt K mg) : FnOk P w K mg base CX0 1 f fd ["deck", "many"] spTake := by
  refine F.ok sc__law_take (fun vs H Q E h => ?_) (fun cdv A outer s H vs Q E hr h => ?_)
  · obtain ⟨a, m, rfl, _⟩ := h
    rfl
  · obtain ⟨a, m, rfl, hm, ⟨ds, hl, hd⟩, k⟩ := h
    refine ⟨_, (pss_cons (ps_if (pt_cmpR op_eq (pe_callB call_len_seq (by rfl) T.b_len boot_len' (pa_cons (pv 0) pa_nil)) pe_int (nomark _)) (pss_one (ps_ret pe_int)) pss_nil)
      (pss_one (ps_ret (pe_op op_mod (pe_callTy call_int1 (by rfl) T.b_int boot_int' (pa_cons (pe_bm0 PySem.F.plainAttrs_list PySem.F.slot_list_pop PySem.F.type_list_pop mt_pop (pv 0)) pa_nil)) (pv 1))))), ?_⟩
    refine ⟨_, rfl, a, _, rfl, .inl (SqL.of hd), rfl, _, rfl, ?_⟩
    rw [List.length_map]
    refine ite2 (fun hc => ?_) (fun hc => ?_)
    · exact k 0 H (by decide) hm (But.refl _ _) ⟨ds, hl, hd⟩
    · have hne : ds ≠ [] := fun e => hc (by rw [e]; rfl)
      have hp : 0 < ds.length := List.length_pos_iff.mpr hne
      refine ⟨_, rfl, .inl ⟨rfl, _, SqL.of hd⟩, a, _, .int (ds.getLast hne), rfl, rfl, hd, ?_, .inl ⟨_, rfl, _, rfl, _, _, rfl, rfl, hm, ?_⟩⟩
      · rw [List.length_map, List.getElem?_map, List.getLast_eq_getElem, List.getElem?_eq_getElem (by omega)]
        rfl
      · refine k _ _ (Int.emod_nonneg _ (by omega)) (Int.emod_lt_of_pos _ hm) but_upd ⟨ds.dropLast, by rw [List.length_dropLast]; omega, ?_⟩
        rw [upd_same, List.map_dropLast]

/-! ### _law_deck: some ints -/
def spDeck (K : PySem.W.Frag) : Sp := fun vs H Q _ => ∃ (a : Addr) (ns : List Int) (c e : Nat), vs = [.ref a, .int c, .int e] ∧ SqL K H a (ns.map V.int) ∧ ns.length ≤ 1000 ∧ c * e ≤ 2000 ∧ c ≤ 1000 ∧ e ≤ 1000 ∧ ∀ (p : Addr) (H' : Hp), H p = none → Same H H' → Deck H' p → Q (.ref p) H'
theorem ok_deck {f : Addr} {fd : FuncData} (F : Fun K "_law_deck" "_law_deck" s__law_deck f fd) (T : Txt K mg) : FnOk P w K mg base CX0 1 f fd ["script", "cells", "each"] (spDeck K) := by
  refine F.ok sc__law_deck (fun vs H Q E h => ?_) (fun cdv A outer s H vs Q E hr h => ?_)
  · obtain ⟨a, ns, c, e, rfl, _⟩ := h
    rfl
  · obtain ⟨a, ns, c, e, rfl, hS, hn, hce, hc, he, k⟩ := h
    refine ⟨_, (pss_cons (ps_set (i := 3) sc__law_deck.nd rfl (Or.inl rfl) (pe_lst pa_nil))
      (pss_cons (ps_set (i := 4) sc__law_deck.nd rfl (Or.inl rfl) (pe_op op_add pe_int (pe_callB call_len_seq (by rfl) T.b_len boot_len' (pa_cons (pv 0) pa_nil))))
      (pss_cons (ps_for PassesOwn.never rfl (pi_range1 (by rfl) T.b_range (pa_cons (pv 1) pa_nil)) (pg_name (i := 5) sc__law_deck.nd rfl (Or.inl rfl)) (pss_cons (ps_set (i := 6) sc__law_deck.nd rfl (Or.inl rfl) pe_int)
      (pss_cut (ps_if (pt_cmpR op_lt (pv 5) (pe_callB call_len_seq (by rfl) T.b_len boot_len' (pa_cons (pv 0) pa_nil)) (nomark _)) (pss_one (ps_set (i := 6) sc__law_deck.nd rfl (Or.inl rfl) (pe_ix ix_list (pv 0) (pv 5) (fun _ _ => rfl)))) pss_nil)
      (pss_cons (ps_set (i := 7) sc__law_deck.nd rfl (Or.inl rfl) (pe_callB call_abs (by rfl) T.b_abs boot_abs' (pa_cons (pv 6) pa_nil)))
      (pss_one (ps_if (pt_cmpR op_ge (pv 7) (pe_op op_pow pe_int pe_int) (nomark _)) (pss_one (ps_for PassesOwn.never rfl (pi_range1 (by rfl) T.b_range (pa_cons (pv 2) pa_nil)) (pg_name (i := 8) sc__law_deck.nd rfl (Or.inl rfl)) (pss_cons (ps_expr (pe_bm PySem.F.plainAttrs_list PySem.F.slot_list_append PySem.F.type_list_append mt_append (pv 3) (pa_cons (pe_op op_mod (pe_callTy call_int1 (by rfl) T.b_int boot_int' (pa_cons (pv 7) pa_nil)) pe_int) pa_nil)))
      (pss_one (ps_set (i := 7) sc__law_deck.nd rfl (Or.inl rfl) (pe_op op_fdiv (pv 7) pe_int)))))) (pss_cons (ps_set (i := 4) sc__law_deck.nd rfl (Or.inl rfl) (pe_op op_mod (pe_callTy call_int1 (by rfl) T.b_int boot_int' (pa_cons (pe_op op_add (pe_op op_add (pe_op op_add (pe_op op_mul (pv 4) pe_int) (pe_op op_mul pe_int (pv 7))) (pe_callTy call_int1 (by rfl) T.b_int boot_int' (pa_cons (pe_cmpR op_lt (pv 6) pe_int (nomark _)) pa_nil))) (pv 5)) pa_nil)) pe_int))
      (pss_one (ps_for PassesOwn.never rfl (pi_range1 (by rfl) T.b_range (pa_cons (pv 2) pa_nil)) (pg_name (i := 8) sc__law_deck.nd rfl (Or.inl rfl)) (pss_cons (ps_set (i := 4) sc__law_deck.nd rfl (Or.inl rfl) (pe_op op_mod (pe_callTy call_int1 (by rfl) T.b_int boot_int' (pa_cons (pe_op op_add (pe_op op_add (pe_op op_mul (pv 4) pe_int) (pv 8)) pe_int) pa_nil)) pe_int))
      (pss_one (ps_expr (pe_bm PySem.F.plainAttrs_list PySem.F.slot_list_append PySem.F.type_list_append mt_append (pv 3) (pa_cons (pe_op op_mod (pe_callTy call_int1 (by rfl) T.b_int boot_int' (pa_cons (pe_op op_fdiv (pv 4) pe_int) pa_nil)) pe_int) pa_nil))))))))))))))
      (pss_cons (ps_expr (pe_bm0 PySem.F.plainAttrs_list PySem.F.slot_list_reverse PySem.F.type_list_reverse mt_reverse (pv 3)))
      (pss_one (ps_ret (pv 3))))))), ?_⟩
    refine ⟨Nat.zero_le _, fun p hp => ?_⟩
    have hap : a ≠ p → True := fun _ => trivial
    refine ⟨_, rfl, a, _, rfl, .inl ((same_new hp).seq hS), _, _, rfl, rfl, ?_⟩
    rw [List.length_map]
    refine ⟨_, rfl, _, rfl, by omega, by omega, for_range (lo := 0) (n := (c : Int).toNat) (fun i σ H' => ∃ (ds : List Int) (sd : Int) (o1 o2 o3 o4 : Option V),
      σ = [some (.ref a), some (.int c), some (.int e), some (.ref p), some (.int sd), o1, o2, o3, o4] ∧ Same H H' ∧ H' p = some (.lst (ds.map V.int)) ∧ ds.length ≤ i * e ∧ 0 ≤ sd ∧ sd < 2147483647)
      ⟨[], _, none, none, none, none, rfl, same_new hp, upd_same, Nat.zero_le _, by omega, by omega⟩ ?_ ?_⟩
    · rintro i σ H1 hi ⟨ds, sd, o1, o2, o3, o4, rfl, e1, h1, hl, s0, s1⟩
      have hie : (i + 1) * e ≤ 2000 := Nat.le_trans (Nat.mul_le_mul_right e (by omega)) hce
      have hie2 : (i + 1) * e = i * e + e := Nat.succ_mul i e
      -- cell = 0 ; if k < len(script): cell = script[k]
      refine ⟨fun σ' H' => ∃ cl : Int, σ' = [some (.ref a), some (.int c), some (.int e), some (.ref p), some (.int sd), some (.int (0 + (i : Int))), some (.int cl), o3, o4] ∧ H' = H1, ?_, ?_⟩
      · refine ⟨_, rfl, _, rfl, a, _, rfl, .inl (e1.seq hS), _, _, rfl, rfl, _, rfl, ?_⟩
        rw [List.length_map]
        refine ite2 (fun hk => ?_) (fun hk => ⟨0, rfl, rfl⟩)
        have hk' : i < ns.length := by
          have := of_decide_eq_true hk
          omega
        refine ⟨_, rfl, _, rfl, a, _, _, .int ns[i], rfl, rfl, e1.seq hS, ?_, ⟨_, rfl, rfl⟩⟩
        rw [Int.zero_add]
        refine atI_nat ?_
        rw [List.getElem?_map, List.getElem?_eq_getElem hk']
        rfl
      · rintro σ' H' ⟨cl, rfl, rfl⟩
        -- rest = abs(cell)
        refine ⟨_, rfl, _, rfl, ?_⟩
        -- if rest >= 10 ** 30
        refine ⟨_, rfl, _, _, rfl, rfl, ⟨by decide, by decide, by decide⟩, _, _, rfl, rfl, _, rfl, ?_⟩
        have hrest : 0 ≤ (if cl < 0 then -cl else cl) := by split <;> omega
        generalize (if cl < 0 then -cl else cl) = rest at hrest
        refine ite2 (fun hb => ?_) (fun hb => ?_)
        · refine ⟨_, rfl, _, rfl, by omega, by omega, for_range (lo := 0) (n := (e : Int).toNat) (fun j σ H2 => ∃ (es : List Int) (rs : Int) (o : Option V),
            σ = [some (.ref a), some (.int c), some (.int e), some (.ref p), some (.int sd), some (.int (0 + (i : Int))), some (.int cl), some (.int rs), o] ∧ Same H H2 ∧ H2 p = some (.lst (es.map V.int)) ∧ es.length ≤ i * e + j)
            ⟨ds, rest, o4, rfl, e1, h1, hl⟩ ?_ ?_⟩
          · rintro j σ H2 hj ⟨es, rs, o, rfl, e2, h2, hl2⟩
            refine ⟨_, rfl, .inl ⟨rfl, _, SqL.of h2⟩, _, rfl, .inl ⟨_, rfl, _, _, rfl, rfl, (by decide : (0 : Int) < 1000003), ?_⟩⟩
            refine ⟨_, _, _, rfl, rfl, h2, small1000' (by rw [List.length_map]; omega), ?_⟩
            refine ⟨_, rfl, _, _, rfl, rfl, ⟨by decide, by decide⟩, ?_⟩
            refine ⟨es ++ [_], _, _, rfl, same_mut e2 hp, by rw [upd_same, List.map_append]; rfl, by rw [List.length_append, List.length_singleton]; omega⟩
          · rintro σ H2 ⟨es, rs, o, rfl, e2, h2, hl2⟩
            exact ⟨es, sd, _, _, _, _, rfl, e2, h2, by omega, s0, s1⟩
        · have hb2 : rest < 10 ^ 30 := by
            have := hb
            simp only [decide_eq_true_eq] at this
            have h3 : ((10 : Int) ^ (30 : Int).toNat) = 10 ^ 30 := by decide
            omega
          refine ⟨_, rfl, _, _, rfl, rfl, .inl ⟨by omega, by omega⟩, _, rfl, _, _, rfl, rfl, .inl ⟨by decide, by decide⟩, _, _, rfl, rfl, ?_⟩
          refine ⟨_, rfl, _, _, rfl, rfl, .inr ⟨_, rfl, _, _, rfl, rfl, _, rfl, _, _, rfl, rfl, .inl ⟨_, rfl, _, _, rfl, rfl, (by decide : (0 : Int) < 2147483647), ?_⟩⟩⟩
          refine ⟨_, rfl, _, rfl, by omega, by omega, for_range (lo := 0) (n := (e : Int).toNat) (fun j σ H2 => ∃ (es : List Int) (se : Int) (o : Option V),
            σ = [some (.ref a), some (.int c), some (.int e), some (.ref p), some (.int se), some (.int (0 + (i : Int))), some (.int cl), some (.int rest), o] ∧ Same H H2 ∧ H2 p = some (.lst (es.map V.int)) ∧ es.length ≤ i * e + j ∧ 0 ≤ se ∧ se < 2147483647)
            ⟨ds, _, o4, rfl, e1, h1, hl, Int.emod_nonneg _ (by decide), Int.emod_lt_of_pos _ (by decide)⟩ ?_ ?_⟩
          · rintro j σ H2 hj ⟨es, se, o, rfl, e2, h2, hl2, u0, u1⟩
            refine ⟨_, rfl, _, _, rfl, rfl, .inl ⟨by omega, by omega⟩, _, rfl, _, _, rfl, rfl, _, _, rfl, rfl, .inl ⟨_, rfl, _, _, rfl, rfl, (by decide : (0 : Int) < 2147483629), ?_⟩⟩
            have v1 := Int.emod_lt_of_pos (se * 69621 + (0 + (j : Int)) + 1) (by decide : (0 : Int) < 2147483629)
            refine ⟨_, rfl, .inl ⟨rfl, _, SqL.of h2⟩, _, rfl, _, _, rfl, rfl, ⟨by decide, by decide⟩, .inl ⟨_, rfl, _, _, rfl, rfl, (by decide : (0 : Int) < 1000003), ?_⟩⟩
            refine ⟨_, _, _, rfl, rfl, h2, small1000' (by rw [List.length_map]; omega), ?_⟩
            exact ⟨es ++ [_], _, _, rfl, same_mut e2 hp, by rw [upd_same, List.map_append]; rfl, by rw [List.length_append, List.length_singleton]; omega, Int.emod_nonneg _ (by decide), Int.lt_trans v1 (by decide)⟩
          · rintro σ H2 ⟨es, se, o, rfl, e2, h2, hl2, u0, u1⟩
            exact ⟨es, se, _, _, _, _, rfl, e2, h2, by omega, u0, u1⟩
    · rintro σ H1 ⟨ds, sd, o1, o2, o3, o4, rfl, e1, h1, hl, s0, s1⟩
      refine ⟨_, rfl, .inl ⟨rfl, _, SqL.of h1⟩, p, _, rfl, rfl, h1, ?_⟩
      refine ⟨_, rfl, k p _ hp (same_mut e1 hp) ⟨ds.reverse, by rw [List.length_reverse]; have : (c : Int).toNat * e = c * e := rfl; omega, by rw [upd_same, List.map_reverse]⟩⟩

/-! ### _law_plain -/
mutual
def plain : PyData → PyData
  | .tuple ds => .list (.bool false :: plains ds)
  | .list ds => .list (.bool true :: plains ds)
  | .none => .str "None"
  | .bool b => .str (if b then "True" else "False")
  | .int i => .list [.bool false, .int i]
  | .str z => .list [.bool true, .str z]
  | .dict _ => .str "another"
def plains : List PyData → List PyData
  | [] => []
  | d :: r => plain d :: plains r
end
theorem plains_map : ∀ ds : List PyData, plains ds = ds.map plain
  | [] => rfl
  | d :: r => by rw [plains, plains_map r, List.map_cons]
mutual
/-- how deep, with no dict in it and no list too long -/
def tall : PyData → Nat → Prop
  | .tuple ds, n + 1 => ds.length ≤ 10000 ∧ talls ds n
  | .list ds, n + 1 => ds.length ≤ 10000 ∧ talls ds n
  | .tuple _, 0 => False
  | .list _, 0 => False
  | .dict _, _ => False
  | _, _ => True
def talls : List PyData → Nat → Prop
  | [], _ => True
  | d :: r, n => tall d n ∧ talls r n
end
theorem talls_get : ∀ {ds : List PyData} {n i : Nat} {d : PyData}, talls ds n → ds[i]? = some d → tall d n
  | [], _, i, d, _, e => by simp at e
  | _ :: _, _, 0, d, h, e => by
    simp at e
    subst e
    exact h.1
  | _ :: r, n, i + 1, d, h, e => talls_get (ds := r) h.2 (by simpa using e)
theorem talls_mem {ds : List PyData} {n : Nat} {d : PyData} (h : talls ds n) (hm : d ∈ ds) : tall d n := by
  obtain ⟨i, hi⟩ := List.mem_iff_getElem?.mp hm
  exact talls_get h hi
def spPlain (K : PySem.W.Frag) : Nat → Sp
  | 0 => fun _ _ _ _ => False
  | n + 1 => fun vs H Q _ => ∃ (v : V) (d : PyData), vs = [v] ∧ Dp K H v d ∧ tall d n ∧ ∀ (u : V) (H' : Hp), Same H H' → Dp K H' u (plain d) → Q u H'
theorem spPlain_mono {K : PySem.W.Frag} {n : Nat} {vs : List V} {H : Hp} {E : XK} (Q1 Q2 : VK) (q : ∀ v G', Q1 v G' → Q2 v G') (h : spPlain K n vs H Q1 E) : spPlain K n vs H Q2 E := by
  cases n with
  | zero => exact h
  | succ n =>
    obtain ⟨v, d, e, h1, h2, k⟩ := h
    exact ⟨v, d, e, h1, h2, fun u H' s p => q u H' (k u H' s p)⟩
theorem plain_step {K : PySem.W.Frag} {n : Nat} {G : Hp} {D : Addr} {acc : List V} {v : V} {d : PyData} {Q : VK} {E : XK} (hD : G D = none) (hd : Dp K G v d) (ht : tall d n)
    (h : ∀ (u : V) (G' : Hp), Same G G' → G' D = none → Dp K G' u (plain d) → Q u (upd G' D (.lst acc))) : fr (spPlain K (n + 1)) [v] (upd G D (.lst acc)) Q E :=
  fr_one hD ⟨v, d, rfl, hd, ht, fun u G' s p hn => h u G' s hn p⟩ fun Q1 Q2 q z => spPlain_mono Q1 Q2 q z
theorem ok_plain {f : Addr} {fd : FuncData} (F : Fun K "_law_plain" "_law_plain" s__law_plain f fd) (T : Txt K mg) (hm : mg "_law_plain" = some (.ref f)) (b : Binds K fd ["value"] []) : ∀ n : Nat, FnOk P w K mg base CX0 n f fd ["value"] (spPlain K n) := by
  intro n
  induction n with
  | zero => exact ⟨fun _ _ _ _ h => h.elim, fun _ _ _ _ _ _ _ _ _ _ _ _ _ h => h.elim⟩
  | succ n ih =>
    have c__law_plain : Cal P w K mg base n "_law_plain" (fr (spPlain K n)) [] := ⟨f, fd, _, _, fn_fr ih, hm, F.kp, b, .nil⟩
    refine F.ok sc__law_plain (fun vs H Q E h => ?_) (fun cdv A outer s H vs Q E hr h => ?_)
    · obtain ⟨v, d, rfl, _⟩ := h
      rfl
    · obtain ⟨v, d, rfl, hd, ht, k⟩ := h
      cases d with
      | tuple ds =>
        cases n with
        | zero => exact ht.elim
        | succ n =>
          obtain ⟨hl, ht⟩ := ht
          obtain ⟨a, xs, rfl, hx, hxs⟩ := dp_tup hd
          refine ⟨_, (pss_cons (ps_if (pt_val (pe_callB call_isiT (by rfl) T.b_isinstance boot_isinstance' (pa_cons (pv 0) (pa_cons (pe_tup (pa_cons (pe_bltn (v := .ty "tuple") (by rfl) T.b_tuple boot_tuple' rfl) (pa_cons (pe_bltn (v := .ty "list") (by rfl) T.b_list boot_list' rfl) pa_nil))) pa_nil)))) (pss_one (ps_ret (pe_op op_cat (pe_lst (pa_cons (pe_callB call_isi (by rfl) T.b_isinstance boot_isinstance' (pa_cons (pv 0) (pa_cons (pe_bltn (v := .ty "list") (by rfl) T.b_list boot_list' rfl) pa_nil))) pa_nil)) (pe_lc (own := [("item", 1)]) rfl sc__law_plain.nd (pi_tup (pv 0)) (blkOk_by (own := [("item", 1)]) (N := ["value", "item"]) (sc := defScope s__law_plain) (by decide +kernel)) (fun _ _ _ _ _ => (pg_name (i := 1) sc__law_plain.nd rfl (Or.inl rfl))) (fun _ _ _ _ _ => pts_nil) (fun _ _ _ _ _ => (pe_c c__law_plain hr (by omega) rfl (pa_cons (pv 1) pa_nil))))))) pss_nil)
      (pss_cons (ps_if (PW.pt (pw_or (pt_cmpR op_isN (pv 0) pe_non (nomark _)) (pw_or1 (pt_val (pe_callB call_isi (by rfl) T.b_isinstance boot_isinstance' (pa_cons (pv 0) (pa_cons (pe_bltn (v := .ty "bool") (by rfl) T.b_bool boot_bool' rfl) pa_nil))))))) (pss_one (ps_ret (pe_ix ix_list (pe_lst (pa_cons pe_str (pa_cons pe_str (pa_cons pe_str pa_nil)))) (pe_op op_add (pe_callTy call_int1 (by rfl) T.b_int boot_int' (pa_cons (pe_cmpR op_notN (pv 0) pe_non (nomark _)) pa_nil)) (pe_callTy call_int1 (by rfl) T.b_int boot_int' (pa_cons (pe_cmpR op_isX (pv 0) pe_bl (nomark _)) pa_nil))) (fun _ _ => rfl)))) pss_nil)
      (pss_cons (ps_if (pt_val (pe_callB call_isiT (by rfl) T.b_isinstance boot_isinstance' (pa_cons (pv 0) (pa_cons (pe_tup (pa_cons (pe_bltn (v := .ty "int") (by rfl) T.b_int boot_int' rfl) (pa_cons (pe_bltn (v := .ty "str") (by rfl) T.b_str boot_str' rfl) pa_nil))) pa_nil)))) (pss_one (ps_ret (pe_lst (pa_cons (pe_callB call_isi (by rfl) T.b_isinstance boot_isinstance' (pa_cons (pv 0) (pa_cons (pe_bltn (v := .ty "str") (by rfl) T.b_str boot_str' rfl) pa_nil))) (pa_cons (pv 0) pa_nil))))) pss_nil)
      (pss_one (ps_ret pe_str))))), ?_⟩
          refine ⟨_, rfl, by decide, fun p1 n1 => ?_⟩
          refine ⟨_, _, _, _, _, _, rfl, upd_same, clsv2 _ _, dp_ty (dp_same (same_new n1) hd), kitD2 K _ _ _ (by decide) (by decide), _, rfl, iteT ?_⟩
          refine ⟨_, rfl, _, _, _, _, _, rfl, .ty _, dp_ty (dp_same (same_new n1) hd), kitD K _ _ (by decide), (show 1 ≤ sizeLine by decide), fun p2 n2 => ?_⟩
          have s2 := (same_new (o := HO.tup [V.ty "tuple", V.ty "list"]) n1).trans (same_new (o := HO.lst [V.bl (isD "list" (.tuple ds))]) n2)
          refine ⟨_, rfl, a, rfl, ⟨_, Same.tup s2 hx⟩, fun D hD => lc_dataT (K := K) (a := a) (xs := xs) (ds := ds) (fun _ => true) plain (Same.tup s2 hx) (dps_same s2 hxs) hD (by omega) ?_ ?_⟩
          · intro v d G acc R dm hv sG hG ha _ hk
            refine ⟨rfl, _, rfl, ?_⟩
            refine plain_step hG hv (talls_mem ht dm) fun u G' s' hG' du => ⟨acc, upd_same, ha, ?_⟩
            rw [upd_app]
            exact hk rfl G' u s' hG' du
          · intro G ys sG hG hys
            have hF : ds.filter (fun _ => true) = ds := List.filter_eq_self.mpr fun _ _ => rfl
            rw [hF] at hys
            have hp2 : G p2 = some (.lst [V.bl (isD "list" (.tuple ds))]) := sG _ _ upd_same
            refine ⟨p2, D, _, _, rfl, rfl, by rw [upd_ne (ne_of_none hp2 hG)]; exact hp2, upd_same, ?_, fun p n3 => ?_⟩
            · show 1 + ys.length ≤ sizeLine
              have q := dps_len hys
              rw [List.length_map] at q
              exact Nat.le_of_lt (small1000' (by omega))
            · have s4 : Same G (upd (upd G D (.lst ys)) p (.lst ([V.bl (isD "list" (.tuple ds))] ++ ys))) := (same_new hG).trans (same_new n3)
              refine k _ _ (s2.trans (sG.trans s4)) (.lst (SqL.of upd_same) (.cons ?_ ?_))
              · exact .bl _
              · rw [plains_map]
                exact dps_same s4 hys
      | list ds =>
        cases n with
        | zero => exact ht.elim
        | succ n =>
          obtain ⟨hl, ht⟩ := ht
          obtain ⟨a, xs, rfl, hx, hxs⟩ := dp_lst hd
          refine ⟨_, (pss_cons (ps_if (pt_val (pe_callB call_isiT (by rfl) T.b_isinstance boot_isinstance' (pa_cons (pv 0) (pa_cons (pe_tup (pa_cons (pe_bltn (v := .ty "tuple") (by rfl) T.b_tuple boot_tuple' rfl) (pa_cons (pe_bltn (v := .ty "list") (by rfl) T.b_list boot_list' rfl) pa_nil))) pa_nil)))) (pss_one (ps_ret (pe_op op_cat (pe_lst (pa_cons (pe_callB call_isi (by rfl) T.b_isinstance boot_isinstance' (pa_cons (pv 0) (pa_cons (pe_bltn (v := .ty "list") (by rfl) T.b_list boot_list' rfl) pa_nil))) pa_nil)) (pe_lc (own := [("item", 1)]) rfl sc__law_plain.nd (pi_list (pv 0)) (blkOk_by (own := [("item", 1)]) (N := ["value", "item"]) (sc := defScope s__law_plain) (by decide +kernel)) (fun _ _ _ _ _ => (pg_name (i := 1) sc__law_plain.nd rfl (Or.inl rfl))) (fun _ _ _ _ _ => pts_nil) (fun _ _ _ _ _ => (pe_c c__law_plain hr (by omega) rfl (pa_cons (pv 1) pa_nil))))))) pss_nil)
      (pss_cons (ps_if (PW.pt (pw_or (pt_cmpR op_isN (pv 0) pe_non (nomark _)) (pw_or1 (pt_val (pe_callB call_isi (by rfl) T.b_isinstance boot_isinstance' (pa_cons (pv 0) (pa_cons (pe_bltn (v := .ty "bool") (by rfl) T.b_bool boot_bool' rfl) pa_nil))))))) (pss_one (ps_ret (pe_ix ix_list (pe_lst (pa_cons pe_str (pa_cons pe_str (pa_cons pe_str pa_nil)))) (pe_op op_add (pe_callTy call_int1 (by rfl) T.b_int boot_int' (pa_cons (pe_cmpR op_notN (pv 0) pe_non (nomark _)) pa_nil)) (pe_callTy call_int1 (by rfl) T.b_int boot_int' (pa_cons (pe_cmpR op_isX (pv 0) pe_bl (nomark _)) pa_nil))) (fun _ _ => rfl)))) pss_nil)
      (pss_cons (ps_if (pt_val (pe_callB call_isiT (by rfl) T.b_isinstance boot_isinstance' (pa_cons (pv 0) (pa_cons (pe_tup (pa_cons (pe_bltn (v := .ty "int") (by rfl) T.b_int boot_int' rfl) (pa_cons (pe_bltn (v := .ty "str") (by rfl) T.b_str boot_str' rfl) pa_nil))) pa_nil)))) (pss_one (ps_ret (pe_lst (pa_cons (pe_callB call_isi (by rfl) T.b_isinstance boot_isinstance' (pa_cons (pv 0) (pa_cons (pe_bltn (v := .ty "str") (by rfl) T.b_str boot_str' rfl) pa_nil))) (pa_cons (pv 0) pa_nil))))) pss_nil)
      (pss_one (ps_ret pe_str))))), ?_⟩
          refine ⟨_, rfl, by decide, fun p1 n1 => ?_⟩
          refine ⟨_, _, _, _, _, _, rfl, upd_same, clsv2 _ _, dp_ty (dp_same (same_new n1) hd), kitD2 K _ _ _ (by decide) (by decide), _, rfl, iteT ?_⟩
          refine ⟨_, rfl, _, _, _, _, _, rfl, .ty _, dp_ty (dp_same (same_new n1) hd), kitD K _ _ (by decide), (show 1 ≤ sizeLine by decide), fun p2 n2 => ?_⟩
          have s2 := (same_new (o := HO.tup [V.ty "tuple", V.ty "list"]) n1).trans (same_new (o := HO.lst [V.bl (isD "list" (.list ds))]) n2)
          refine ⟨_, rfl, a, rfl, ⟨_, s2.seq hx⟩, fun D hD => lc_data (K := K) (a := a) (xs := xs) (ds := ds) (fun _ => true) plain (s2.seq hx) (dps_same s2 hxs) hD (by omega) ?_ ?_⟩
          · intro v d G acc R dm hv sG hG ha _ hk
            refine ⟨rfl, _, rfl, ?_⟩
            refine plain_step hG hv (talls_mem ht dm) fun u G' s' hG' du => ⟨acc, upd_same, ha, ?_⟩
            rw [upd_app]
            exact hk rfl G' u s' hG' du
          · intro G ys sG hG hys
            have hF : ds.filter (fun _ => true) = ds := List.filter_eq_self.mpr fun _ _ => rfl
            rw [hF] at hys
            have hp2 : G p2 = some (.lst [V.bl (isD "list" (.list ds))]) := sG _ _ upd_same
            refine ⟨p2, D, _, _, rfl, rfl, by rw [upd_ne (ne_of_none hp2 hG)]; exact hp2, upd_same, ?_, fun p n3 => ?_⟩
            · show 1 + ys.length ≤ sizeLine
              have q := dps_len hys
              rw [List.length_map] at q
              exact Nat.le_of_lt (small1000' (by omega))
            · have s4 : Same G (upd (upd G D (.lst ys)) p (.lst ([V.bl (isD "list" (.list ds))] ++ ys))) := (same_new hG).trans (same_new n3)
              refine k _ _ (s2.trans (sG.trans s4)) (.lst (SqL.of upd_same) (.cons ?_ ?_))
              · exact .bl _
              · rw [plains_map]
                exact dps_same s4 hys
      | dict _ => cases hd
      | none =>
        cases dp_non hd
        refine ⟨_, (pss_cons (ps_if (pt_val (pe_callB call_isiT (by rfl) T.b_isinstance boot_isinstance' (pa_cons (pv 0) (pa_cons (pe_tup (pa_cons (pe_bltn (v := .ty "tuple") (by rfl) T.b_tuple boot_tuple' rfl) (pa_cons (pe_bltn (v := .ty "list") (by rfl) T.b_list boot_list' rfl) pa_nil))) pa_nil)))) (pss_one (ps_ret (pe_op op_cat (pe_lst (pa_cons (pe_callB call_isi (by rfl) T.b_isinstance boot_isinstance' (pa_cons (pv 0) (pa_cons (pe_bltn (v := .ty "list") (by rfl) T.b_list boot_list' rfl) pa_nil))) pa_nil)) (pe_lc (own := [("item", 1)]) rfl sc__law_plain.nd (pi_list (pv 0)) (blkOk_by (own := [("item", 1)]) (N := ["value", "item"]) (sc := defScope s__law_plain) (by decide +kernel)) (fun _ _ _ _ _ => (pg_name (i := 1) sc__law_plain.nd rfl (Or.inl rfl))) (fun _ _ _ _ _ => pts_nil) (fun _ _ _ _ _ => (pe_c c__law_plain hr (by omega) rfl (pa_cons (pv 1) pa_nil))))))) pss_nil)
      (pss_cons (ps_if (PW.pt (pw_or (pt_cmpR op_isN (pv 0) pe_non (nomark _)) (pw_or1 (pt_val (pe_callB call_isi (by rfl) T.b_isinstance boot_isinstance' (pa_cons (pv 0) (pa_cons (pe_bltn (v := .ty "bool") (by rfl) T.b_bool boot_bool' rfl) pa_nil))))))) (pss_one (ps_ret (pe_ix ix_list (pe_lst (pa_cons pe_str (pa_cons pe_str (pa_cons pe_str pa_nil)))) (pe_op op_add (pe_callTy call_int1 (by rfl) T.b_int boot_int' (pa_cons (pe_cmpR op_notN (pv 0) pe_non (nomark _)) pa_nil)) (pe_callTy call_int1 (by rfl) T.b_int boot_int' (pa_cons (pe_cmpR op_isX (pv 0) pe_bl (nomark _)) pa_nil))) (fun _ _ => rfl)))) pss_nil)
      (pss_cons (ps_if (pt_val (pe_callB call_isiT (by rfl) T.b_isinstance boot_isinstance' (pa_cons (pv 0) (pa_cons (pe_tup (pa_cons (pe_bltn (v := .ty "int") (by rfl) T.b_int boot_int' rfl) (pa_cons (pe_bltn (v := .ty "str") (by rfl) T.b_str boot_str' rfl) pa_nil))) pa_nil)))) (pss_one (ps_ret (pe_lst (pa_cons (pe_callB call_isi (by rfl) T.b_isinstance boot_isinstance' (pa_cons (pv 0) (pa_cons (pe_bltn (v := .ty "str") (by rfl) T.b_str boot_str' rfl) pa_nil))) (pa_cons (pv 0) pa_nil))))) pss_nil)
      (pss_one (ps_ret pe_str))))), ?_⟩
        refine ⟨_, rfl, by decide, fun p1 n1 => ?_⟩
        refine ⟨_, _, _, _, _, _, rfl, upd_same, clsv2 _ _, dp_ty (dp_same (same_new n1) hd), kitD2 K _ _ _ (by decide) (by decide), _, rfl, iteF ?_⟩
        refine ⟨_, rfl, rfl, _, rfl, iteT (iteT ?_)⟩
        refine ⟨(show 3 ≤ sizeLine by decide), fun p2 n2 => ?_⟩
        refine ⟨_, rfl, rfl, .inr ⟨_, rfl, _, rfl, _, rfl, .inl rfl, .inr ⟨_, rfl, _, _, rfl, rfl, p2, _, 0, .str "None", rfl, rfl, SqL.of upd_same, rfl, ?_⟩⟩⟩
        exact k _ _ ((same_new n1).trans (same_new n2)) (.str _)
      | bool z =>
        cases dp_bl hd
        refine ⟨_, (pss_cons (ps_if (pt_val (pe_callB call_isiT (by rfl) T.b_isinstance boot_isinstance' (pa_cons (pv 0) (pa_cons (pe_tup (pa_cons (pe_bltn (v := .ty "tuple") (by rfl) T.b_tuple boot_tuple' rfl) (pa_cons (pe_bltn (v := .ty "list") (by rfl) T.b_list boot_list' rfl) pa_nil))) pa_nil)))) (pss_one (ps_ret (pe_op op_cat (pe_lst (pa_cons (pe_callB call_isi (by rfl) T.b_isinstance boot_isinstance' (pa_cons (pv 0) (pa_cons (pe_bltn (v := .ty "list") (by rfl) T.b_list boot_list' rfl) pa_nil))) pa_nil)) (pe_lc (own := [("item", 1)]) rfl sc__law_plain.nd (pi_list (pv 0)) (blkOk_by (own := [("item", 1)]) (N := ["value", "item"]) (sc := defScope s__law_plain) (by decide +kernel)) (fun _ _ _ _ _ => (pg_name (i := 1) sc__law_plain.nd rfl (Or.inl rfl))) (fun _ _ _ _ _ => pts_nil) (fun _ _ _ _ _ => (pe_c c__law_plain hr (by omega) rfl (pa_cons (pv 1) pa_nil))))))) pss_nil)
      (pss_cons (ps_if (PW.pt (pw_or (pt_cmpR op_isN (pv 0) pe_non (nomark _)) (pw_or1 (pt_val (pe_callB call_isi (by rfl) T.b_isinstance boot_isinstance' (pa_cons (pv 0) (pa_cons (pe_bltn (v := .ty "bool") (by rfl) T.b_bool boot_bool' rfl) pa_nil))))))) (pss_one (ps_ret (pe_ix ix_list (pe_lst (pa_cons pe_str (pa_cons pe_str (pa_cons pe_str pa_nil)))) (pe_op op_add (pe_callTy call_int1 (by rfl) T.b_int boot_int' (pa_cons (pe_cmpR op_notN (pv 0) pe_non (nomark _)) pa_nil)) (pe_callTy call_int1 (by rfl) T.b_int boot_int' (pa_cons (pe_cmpR op_isX (pv 0) pe_bl (nomark _)) pa_nil))) (fun _ _ => rfl)))) pss_nil)
      (pss_cons (ps_if (pt_val (pe_callB call_isiT (by rfl) T.b_isinstance boot_isinstance' (pa_cons (pv 0) (pa_cons (pe_tup (pa_cons (pe_bltn (v := .ty "int") (by rfl) T.b_int boot_int' rfl) (pa_cons (pe_bltn (v := .ty "str") (by rfl) T.b_str boot_str' rfl) pa_nil))) pa_nil)))) (pss_one (ps_ret (pe_lst (pa_cons (pe_callB call_isi (by rfl) T.b_isinstance boot_isinstance' (pa_cons (pv 0) (pa_cons (pe_bltn (v := .ty "str") (by rfl) T.b_str boot_str' rfl) pa_nil))) (pa_cons (pv 0) pa_nil))))) pss_nil)
      (pss_one (ps_ret pe_str))))), ?_⟩
        refine ⟨_, rfl, by decide, fun p1 n1 => ?_⟩
        refine ⟨_, _, _, _, _, _, rfl, upd_same, clsv2 _ _, dp_ty (dp_same (same_new n1) hd), kitD2 K _ _ _ (by decide) (by decide), _, rfl, iteF ?_⟩
        refine ⟨_, rfl, rfl, _, rfl, iteF ⟨_, rfl, _, _, _, _, _, rfl, .ty _, dp_ty (dp_same (same_new n1) hd), kitD K _ _ (by decide), _, rfl, iteT ?_⟩⟩
        refine ⟨(show 3 ≤ sizeLine by decide), fun p2 n2 => ?_⟩
        cases z with
        | true =>
          refine ⟨_, rfl, rfl, .inr ⟨_, rfl, _, rfl, _, rfl, .inr (.inl ⟨_, rfl⟩), .inr ⟨_, rfl, _, _, rfl, rfl, p2, _, 2, .str "True", rfl, rfl, SqL.of upd_same, rfl, ?_⟩⟩⟩
          exact k _ _ ((same_new n1).trans (same_new n2)) (.str _)
        | false =>
          refine ⟨_, rfl, rfl, .inr ⟨_, rfl, _, rfl, _, rfl, .inr (.inl ⟨_, rfl⟩), .inr ⟨_, rfl, _, _, rfl, rfl, p2, _, 1, .str "False", rfl, rfl, SqL.of upd_same, rfl, ?_⟩⟩⟩
          exact k _ _ ((same_new n1).trans (same_new n2)) (.str _)
      | int i =>
        cases dp_int hd
        refine ⟨_, (pss_cons (ps_if (pt_val (pe_callB call_isiT (by rfl) T.b_isinstance boot_isinstance' (pa_cons (pv 0) (pa_cons (pe_tup (pa_cons (pe_bltn (v := .ty "tuple") (by rfl) T.b_tuple boot_tuple' rfl) (pa_cons (pe_bltn (v := .ty "list") (by rfl) T.b_list boot_list' rfl) pa_nil))) pa_nil)))) (pss_one (ps_ret (pe_op op_cat (pe_lst (pa_cons (pe_callB call_isi (by rfl) T.b_isinstance boot_isinstance' (pa_cons (pv 0) (pa_cons (pe_bltn (v := .ty "list") (by rfl) T.b_list boot_list' rfl) pa_nil))) pa_nil)) (pe_lc (own := [("item", 1)]) rfl sc__law_plain.nd (pi_list (pv 0)) (blkOk_by (own := [("item", 1)]) (N := ["value", "item"]) (sc := defScope s__law_plain) (by decide +kernel)) (fun _ _ _ _ _ => (pg_name (i := 1) sc__law_plain.nd rfl (Or.inl rfl))) (fun _ _ _ _ _ => pts_nil) (fun _ _ _ _ _ => (pe_c c__law_plain hr (by omega) rfl (pa_cons (pv 1) pa_nil))))))) pss_nil)
      (pss_cons (ps_if (PW.pt (pw_or (pt_cmpR op_isN (pv 0) pe_non (nomark _)) (pw_or1 (pt_val (pe_callB call_isi (by rfl) T.b_isinstance boot_isinstance' (pa_cons (pv 0) (pa_cons (pe_bltn (v := .ty "bool") (by rfl) T.b_bool boot_bool' rfl) pa_nil))))))) (pss_one (ps_ret (pe_ix ix_list (pe_lst (pa_cons pe_str (pa_cons pe_str (pa_cons pe_str pa_nil)))) (pe_op op_add (pe_callTy call_int1 (by rfl) T.b_int boot_int' (pa_cons (pe_cmpR op_notN (pv 0) pe_non (nomark _)) pa_nil)) (pe_callTy call_int1 (by rfl) T.b_int boot_int' (pa_cons (pe_cmpR op_isX (pv 0) pe_bl (nomark _)) pa_nil))) (fun _ _ => rfl)))) pss_nil)
      (pss_cons (ps_if (pt_val (pe_callB call_isiT (by rfl) T.b_isinstance boot_isinstance' (pa_cons (pv 0) (pa_cons (pe_tup (pa_cons (pe_bltn (v := .ty "int") (by rfl) T.b_int boot_int' rfl) (pa_cons (pe_bltn (v := .ty "str") (by rfl) T.b_str boot_str' rfl) pa_nil))) pa_nil)))) (pss_one (ps_ret (pe_lst (pa_cons (pe_callB call_isi (by rfl) T.b_isinstance boot_isinstance' (pa_cons (pv 0) (pa_cons (pe_bltn (v := .ty "str") (by rfl) T.b_str boot_str' rfl) pa_nil))) (pa_cons (pv 0) pa_nil))))) pss_nil)
      (pss_one (ps_ret pe_str))))), ?_⟩
        refine ⟨_, rfl, by decide, fun p1 n1 => ?_⟩
        refine ⟨_, _, _, _, _, _, rfl, upd_same, clsv2 _ _, dp_ty (dp_same (same_new n1) hd), kitD2 K _ _ _ (by decide) (by decide), _, rfl, iteF ?_⟩
        refine ⟨_, rfl, rfl, _, rfl, iteF ⟨_, rfl, _, _, _, _, _, rfl, .ty _, dp_ty (dp_same (same_new n1) hd), kitD K _ _ (by decide), _, rfl, iteF ?_⟩⟩
        refine ⟨_, rfl, by decide, fun p2 n2 => ?_⟩
        have s2 := (same_new (o := HO.tup [V.ty "tuple", V.ty "list"]) n1).trans (same_new (o := HO.tup [V.ty "int", V.ty "str"]) n2)
        refine ⟨_, _, _, _, _, _, rfl, upd_same, clsv2 _ _, dp_ty (dp_same s2 hd), kitD2 K _ _ _ (by decide) (by decide), _, rfl, iteT ?_⟩
        refine ⟨_, rfl, _, _, _, _, _, rfl, .ty _, dp_ty (dp_same s2 hd), kitD K _ _ (by decide), _, rfl, (show 2 ≤ sizeLine by decide), fun p3 n3 => ?_⟩
        exact k _ _ (s2.trans (same_new n3)) (.lst (SqL.of upd_same) (.cons (.bl _) (.cons (.int _) .nil)))
      | str z =>
        cases dp_str hd
        refine ⟨_, (pss_cons (ps_if (pt_val (pe_callB call_isiT (by rfl) T.b_isinstance boot_isinstance' (pa_cons (pv 0) (pa_cons (pe_tup (pa_cons (pe_bltn (v := .ty "tuple") (by rfl) T.b_tuple boot_tuple' rfl) (pa_cons (pe_bltn (v := .ty "list") (by rfl) T.b_list boot_list' rfl) pa_nil))) pa_nil)))) (pss_one (ps_ret (pe_op op_cat (pe_lst (pa_cons (pe_callB call_isi (by rfl) T.b_isinstance boot_isinstance' (pa_cons (pv 0) (pa_cons (pe_bltn (v := .ty "list") (by rfl) T.b_list boot_list' rfl) pa_nil))) pa_nil)) (pe_lc (own := [("item", 1)]) rfl sc__law_plain.nd (pi_list (pv 0)) (blkOk_by (own := [("item", 1)]) (N := ["value", "item"]) (sc := defScope s__law_plain) (by decide +kernel)) (fun _ _ _ _ _ => (pg_name (i := 1) sc__law_plain.nd rfl (Or.inl rfl))) (fun _ _ _ _ _ => pts_nil) (fun _ _ _ _ _ => (pe_c c__law_plain hr (by omega) rfl (pa_cons (pv 1) pa_nil))))))) pss_nil)
      (pss_cons (ps_if (PW.pt (pw_or (pt_cmpR op_isN (pv 0) pe_non (nomark _)) (pw_or1 (pt_val (pe_callB call_isi (by rfl) T.b_isinstance boot_isinstance' (pa_cons (pv 0) (pa_cons (pe_bltn (v := .ty "bool") (by rfl) T.b_bool boot_bool' rfl) pa_nil))))))) (pss_one (ps_ret (pe_ix ix_list (pe_lst (pa_cons pe_str (pa_cons pe_str (pa_cons pe_str pa_nil)))) (pe_op op_add (pe_callTy call_int1 (by rfl) T.b_int boot_int' (pa_cons (pe_cmpR op_notN (pv 0) pe_non (nomark _)) pa_nil)) (pe_callTy call_int1 (by rfl) T.b_int boot_int' (pa_cons (pe_cmpR op_isX (pv 0) pe_bl (nomark _)) pa_nil))) (fun _ _ => rfl)))) pss_nil)
      (pss_cons (ps_if (pt_val (pe_callB call_isiT (by rfl) T.b_isinstance boot_isinstance' (pa_cons (pv 0) (pa_cons (pe_tup (pa_cons (pe_bltn (v := .ty "int") (by rfl) T.b_int boot_int' rfl) (pa_cons (pe_bltn (v := .ty "str") (by rfl) T.b_str boot_str' rfl) pa_nil))) pa_nil)))) (pss_one (ps_ret (pe_lst (pa_cons (pe_callB call_isi (by rfl) T.b_isinstance boot_isinstance' (pa_cons (pv 0) (pa_cons (pe_bltn (v := .ty "str") (by rfl) T.b_str boot_str' rfl) pa_nil))) (pa_cons (pv 0) pa_nil))))) pss_nil)
      (pss_one (ps_ret pe_str))))), ?_⟩
        refine ⟨_, rfl, by decide, fun p1 n1 => ?_⟩
        refine ⟨_, _, _, _, _, _, rfl, upd_same, clsv2 _ _, dp_ty (dp_same (same_new n1) hd), kitD2 K _ _ _ (by decide) (by decide), _, rfl, iteF ?_⟩
        refine ⟨_, rfl, rfl, _, rfl, iteF ⟨_, rfl, _, _, _, _, _, rfl, .ty _, dp_ty (dp_same (same_new n1) hd), kitD K _ _ (by decide), _, rfl, iteF ?_⟩⟩
        refine ⟨_, rfl, by decide, fun p2 n2 => ?_⟩
        have s2 := (same_new (o := HO.tup [V.ty "tuple", V.ty "list"]) n1).trans (same_new (o := HO.tup [V.ty "int", V.ty "str"]) n2)
        refine ⟨_, _, _, _, _, _, rfl, upd_same, clsv2 _ _, dp_ty (dp_same s2 hd), kitD2 K _ _ _ (by decide) (by decide), _, rfl, iteT ?_⟩
        refine ⟨_, rfl, _, _, _, _, _, rfl, .ty _, dp_ty (dp_same s2 hd), kitD K _ _ (by decide), _, rfl, (show 2 ≤ sizeLine by decide), fun p3 n3 => ?_⟩
        exact k _ _ (s2.trans (same_new n3)) (.lst (SqL.of upd_same) (.cons (.bl _) (.cons (.str _) .nil)))

end
end Q40

/-! # plain mathematics of the machine: no program here -/
namespace M40
open PySem
def g (xs : List Int) (i : Int) : Int := xs.getD i.toNat 0
def put (xs : List Int) (i v : Int) : List Int := xs.set i.toNat v
structure Mc where
  r : List Int
  d : List Int
  t : Int
inductive What where
  | non
  | reg (a o : Int)
  | byt (a o : Int)
  | inp (a o t : Int)
def Byte (x : Int) : Prop := 0 ≤ x ∧ x < 256
def Bytes (xs : List Int) : Prop := ∀ x ∈ xs, Byte x
structure Good (s : Mc) : Prop where
  lr : s.r.length = 5
  ld : s.d.length = 64
  br : Bytes s.r
  bd : Bytes s.d
  t0 : 0 ≤ s.t
theorem byte_mod (x : Int) : Byte (x % 256) := ⟨Int.emod_nonneg _ (by decide), Int.emod_lt_of_pos _ (by decide)⟩
theorem Bytes.g {xs : List Int} (h : Bytes xs) (i : Int) : Byte (g xs i) := by
  unfold M40.g
  rw [List.getD_eq_getElem?_getD]
  cases e : xs[i.toNat]? with
  | none => exact ⟨by decide, by decide⟩
  | some x => exact h x (List.mem_of_getElem? e)
theorem Bytes.put {xs : List Int} (h : Bytes xs) (i : Int) {v : Int} (hv : Byte v) : Bytes (put xs i v) := fun x hx => by
  rcases List.mem_or_eq_of_mem_set hx with hx | rfl
  · exact h x hx
  · exact hv
theorem put_len (xs : List Int) (i v : Int) : (put xs i v).length = xs.length := List.length_set ..
def fop (w : Int) : Int := w / 4096
def fa (w : Int) : Int := w / 1024 % 4
def fb (w : Int) : Int := w / 256 % 4
def fn (w : Int) : Int := w % 256
def results (one two : Int) : List Int := [two, one + two, one - two, Builtin.bitAnd one two, Builtin.bitOr one two, Builtin.bitXor one two, if one < two then 1 else 0, if one = two then 1 else 0, two / 2]
def res (n one two : Int) : Int := g (results one two) n % 256
def setR (s : Mc) (a v pc : Int) : Mc × What := (⟨put (put s.r 4 pc) a v, s.d, s.t⟩, .reg a (g s.r a))
def setD (s : Mc) (a v pc : Int) : Mc × What := (⟨put s.r 4 pc, put s.d a v, s.t⟩, .byt a (g s.d a))
def goTo (s : Mc) (pc : Int) : Mc × What := (⟨put s.r 4 pc, s.d, s.t⟩, .non)
def takeB (s : Mc) (a : Int) (bi : List Int) (pc : Int) : Mc × What :=
  (⟨put (put s.r 4 pc) a (if s.t < bi.length then g bi s.t else 0), s.d, s.t + (if s.t < bi.length then 1 else 0)⟩, .inp a (g s.r a) s.t)
def mv (s : Mc) (op a b n : Int) (bi : List Int) : Mc × What :=
  let pc := (g s.r 4 + 1) % 256
  let one := g s.r a
  let two := g s.r b
  if op = 1 then setR s a n pc else if op = 2 then setR s a (res n one two) pc else if op = 3 then setR s a (g s.d ((two + n) % 64)) pc
  else if op = 4 then setD s ((two + n) % 64) one pc else if op = 5 then setR s a (g s.d (n % 64)) pc else if op = 6 then setD s (n % 64) one pc
  else if op = 7 then goTo s n else if op = 8 then goTo s (if one = 0 then n else pc) else if op = 9 then setR s a pc n else if op = 10 then goTo s one
  else if op = 12 then takeB s a bi pc else goTo s pc
def ends : List Str := ["done", "zero", "index"]
def endOf (op n : Int) : Option Str := if op = 0 then some (if n < 3 then ends.getD n.toNat "" else "wrong") else if 12 < op ∨ (op = 2 ∧ 8 < n) then some "wrong" else none
def wordAt (ws : List Int) (s : Mc) : Int := if g s.r 4 < ws.length then g ws (g s.r 4) else 0
abbrev Row := Int × What
/-- one instruction: the state behind it, what it puts out, the row -/
def nxt (ws : List Int) (s : Mc) (bi : List Int) : Mc × Option Int × Row :=
  let w := wordAt ws s
  let m := mv s (fop w) (fa w) (fb w) (fn w) bi
  (m.1, if fop w = 11 then some (g s.r (fa w)) else none, (g s.r 4, m.2))
def endAt (ws : List Int) (s : Mc) : Option Str := endOf (fop (wordAt ws s)) (fn (wordAt ws s))
structure Res where
  out : List Int
  fin : Str
  st : Mc
  tr : List Row
def run (ws bi : List Int) : Nat → Mc → Res
  | 0, s => ⟨[], "cut", s, []⟩
  | k + 1, s => match endAt ws s with
    | some e => ⟨[], e, s, [(g s.r 4, .non)]⟩
    | none =>
      let z := nxt ws s bi
      let q := run ws bi k z.1
      ⟨z.2.1.toList ++ q.out, q.fin, q.st, z.2.2 :: q.tr⟩
def undo (s : Mc) (w : Row) : Mc :=
  match w.2 with
  | .non => ⟨put s.r 4 w.1, s.d, s.t⟩
  | .reg a o => ⟨put (put s.r a o) 4 w.1, s.d, s.t⟩
  | .byt a o => ⟨put s.r 4 w.1, put s.d a o, s.t⟩
  | .inp a o t => ⟨put (put s.r a o) 4 w.1, s.d, t⟩
def back (s : Mc) (tr : List Row) : Mc := tr.foldr (fun w s => undo s w) s
/-- words that fit -/
def Wds (ws : List Int) : Prop := ∀ w ∈ ws, 0 ≤ w ∧ w ≤ 65535
theorem word_ok {ws : List Int} (h : Wds ws) (s : Mc) : 0 ≤ wordAt ws s ∧ wordAt ws s ≤ 65535 := by
  unfold wordAt
  split
  · unfold g
    rw [List.getD_eq_getElem?_getD]
    cases e : ws[(s.r.getD (4 : Int).toNat 0).toNat]? with
    | none => exact ⟨by decide, by decide⟩
    | some x => exact h x (List.mem_of_getElem? e)
  · exact ⟨by decide, by decide⟩
structure Flds (w : Int) : Prop where
  op : 0 ≤ fop w ∧ fop w < 16
  a : 0 ≤ fa w ∧ fa w < 4
  b : 0 ≤ fb w ∧ fb w < 4
  n : 0 ≤ fn w ∧ fn w < 256
theorem flds {w : Int} (h : 0 ≤ w ∧ w ≤ 65535) : Flds w := by
  constructor
  · unfold fop; omega
  · unfold fa; omega
  · unfold fb; omega
  · unfold fn; omega
theorem put_put {xs : List Int} {a v o b p q : Int} (ha : 0 ≤ a ∧ a < xs.length) (hb : 0 ≤ b ∧ b < xs.length) (ho : o = g xs a) (hq : q = g xs b) (ne : a ≠ b) : put (put (put (put xs b p) a v) a o) b q = xs := by
  unfold put g at *
  refine List.ext_getElem? fun i => ?_
  have la : a.toNat < xs.length := by omega
  have lb : b.toNat < xs.length := by omega
  simp only [List.getElem?_set, List.length_set]
  by_cases h1 : b.toNat = i
  · subst h1
    rw [if_pos rfl, if_pos lb, hq, List.getD_eq_getElem?_getD, List.getElem?_eq_getElem lb]
    rfl
  · rw [if_neg h1]
    by_cases h2 : a.toNat = i
    · subst h2
      rw [if_pos rfl, if_pos la, ho, List.getD_eq_getElem?_getD, List.getElem?_eq_getElem la]
      rfl
    · rw [if_neg h2, if_neg h2, if_neg h1]
theorem put_back {xs : List Int} {b p q : Int} (hb : 0 ≤ b ∧ b < xs.length) (hq : q = g xs b) : put (put xs b p) b q = xs := by
  unfold put g at *
  refine List.ext_getElem? fun i => ?_
  have lb : b.toNat < xs.length := by omega
  simp only [List.getElem?_set, List.length_set]
  by_cases h1 : b.toNat = i
  · subst h1
    rw [if_pos rfl, if_pos lb, hq, List.getD_eq_getElem?_getD, List.getElem?_eq_getElem lb]
    rfl
  · rw [if_neg h1, if_neg h1]
section
variable {s : Mc} {ws bi : List Int}
theorem mc_eta (s : Mc) : (⟨s.r, s.d, s.t⟩ : Mc) = s := rfl
theorem undo_setR (h : Good s) {a v pc : Int} (ha : 0 ≤ a ∧ a < 4) : undo (setR s a v pc).1 (g s.r 4, (setR s a v pc).2) = s := by
  have l := h.lr
  unfold setR undo
  dsimp only
  rw [put_put (by omega) (by omega) rfl rfl (by omega)]
theorem undo_setD (h : Good s) {a v pc : Int} (ha : 0 ≤ a ∧ a < 64) : undo (setD s a v pc).1 (g s.r 4, (setD s a v pc).2) = s := by
  have l := h.lr
  have l2 := h.ld
  unfold setD undo
  dsimp only
  rw [put_back (by omega) rfl, put_back (by omega) rfl]
theorem undo_goTo (h : Good s) {pc : Int} : undo (goTo s pc).1 (g s.r 4, (goTo s pc).2) = s := by
  have l := h.lr
  unfold goTo undo
  dsimp only
  rw [put_back (by omega) rfl]
theorem undo_takeB (h : Good s) {a pc : Int} (ha : 0 ≤ a ∧ a < 4) : undo (takeB s a bi pc).1 (g s.r 4, (takeB s a bi pc).2) = s := by
  have l := h.lr
  unfold takeB undo
  dsimp only
  rw [put_put (by omega) (by omega) rfl rfl (by omega)]
theorem mod64 (x : Int) : 0 ≤ x % 64 ∧ x % 64 < 64 := ⟨Int.emod_nonneg _ (by decide), Int.emod_lt_of_pos _ (by decide)⟩
theorem mv_all {P : Mc × What → Prop} {s : Mc} {op a b n : Int} {bi : List Int} (h0 : P (setR s a n ((g s.r 4 + 1) % 256))) (h1 : P (setR s a (res n (g s.r a) (g s.r b)) ((g s.r 4 + 1) % 256))) (h2 : P (setR s a (g s.d ((g s.r b + n) % 64)) ((g s.r 4 + 1) % 256))) (h3 : P (setD s ((g s.r b + n) % 64) (g s.r a) ((g s.r 4 + 1) % 256))) (h4 : P (setR s a (g s.d (n % 64)) ((g s.r 4 + 1) % 256))) (h5 : P (setD s (n % 64) (g s.r a) ((g s.r 4 + 1) % 256))) (h6 : P (goTo s n)) (h7 : P (goTo s (if g s.r a = 0 then n else ((g s.r 4 + 1) % 256)))) (h8 : P (setR s a ((g s.r 4 + 1) % 256) n)) (h9 : P (goTo s (g s.r a))) (h10 : P (takeB s a bi ((g s.r 4 + 1) % 256))) (hx : P (goTo s ((g s.r 4 + 1) % 256))) : P (mv s op a b n bi) := by
  unfold mv
  dsimp only
  by_cases c0 : op = 1
  · rw [if_pos c0]
    exact h0
  · rw [if_neg c0]
    by_cases c1 : op = 2
    · rw [if_pos c1]
      exact h1
    · rw [if_neg c1]
      by_cases c2 : op = 3
      · rw [if_pos c2]
        exact h2
      · rw [if_neg c2]
        by_cases c3 : op = 4
        · rw [if_pos c3]
          exact h3
        · rw [if_neg c3]
          by_cases c4 : op = 5
          · rw [if_pos c4]
            exact h4
          · rw [if_neg c4]
            by_cases c5 : op = 6
            · rw [if_pos c5]
              exact h5
            · rw [if_neg c5]
              by_cases c6 : op = 7
              · rw [if_pos c6]
                exact h6
              · rw [if_neg c6]
                by_cases c7 : op = 8
                · rw [if_pos c7]
                  exact h7
                · rw [if_neg c7]
                  by_cases c8 : op = 9
                  · rw [if_pos c8]
                    exact h8
                  · rw [if_neg c8]
                    by_cases c9 : op = 10
                    · rw [if_pos c9]
                      exact h9
                    · rw [if_neg c9]
                      by_cases c10 : op = 12
                      · rw [if_pos c10]
                        exact h10
                      · rw [if_neg c10]
                        exact hx
theorem undo_nxt (h : Good s) (hw : Wds ws) : undo (nxt ws s bi).1 (nxt ws s bi).2.2 = s := by
  have F := flds (word_ok hw s)
  unfold nxt
  dsimp only
  generalize wordAt ws s = w at F
  exact mv_all (P := fun m => undo m.1 (g s.r 4, m.2) = s) (undo_setR h F.a) (undo_setR h F.a) (undo_setR h F.a) (undo_setD h (mod64 _)) (undo_setR h F.a) (undo_setD h (mod64 _)) (undo_goTo h) (undo_goTo h) (undo_setR h F.a) (undo_goTo h) (undo_takeB h F.a) (undo_goTo h)
theorem good_setR (h : Good s) {a v pc : Int} (hv : Byte v) (hp : Byte pc) : Good (setR s a v pc).1 := ⟨by unfold setR; simp only [put_len]; exact h.lr, h.ld, (h.br.put _ hp).put _ hv, h.bd, h.t0⟩
theorem good_setD (h : Good s) {a v pc : Int} (hv : Byte v) (hp : Byte pc) : Good (setD s a v pc).1 := ⟨by unfold setD; simp only [put_len]; exact h.lr, by unfold setD; simp only [put_len]; exact h.ld, h.br.put _ hp, h.bd.put _ hv, h.t0⟩
theorem good_goTo (h : Good s) {pc : Int} (hp : Byte pc) : Good (goTo s pc).1 := ⟨by unfold goTo; simp only [put_len]; exact h.lr, h.ld, h.br.put _ hp, h.bd, h.t0⟩
theorem good_takeB (h : Good s) {a pc : Int} (hb : Bytes bi) (hp : Byte pc) : Good (takeB s a bi pc).1 := by
  have t0 := h.t0
  refine ⟨by unfold takeB; simp only [put_len]; exact h.lr, h.ld, (h.br.put _ hp).put _ ?_, h.bd, ?_⟩
  · split
    · exact hb.g _
    · exact ⟨by decide, by decide⟩
  · show 0 ≤ s.t + (if s.t < bi.length then 1 else 0)
    split <;> omega
theorem good_nxt (h : Good s) (hw : Wds ws) (hb : Bytes bi) : Good (nxt ws s bi).1 := by
  have F := flds (word_ok hw s)
  have hp := byte_mod (g s.r 4 + 1)
  unfold nxt
  dsimp only
  generalize wordAt ws s = w at F
  have fnB : Byte (fn w) := F.n
  have h1 := h.br.g (fa w)
  exact mv_all (P := fun m => Good m.1) (good_setR h fnB hp) (good_setR h (byte_mod _) hp) (good_setR h (h.bd.g _) hp) (good_setD h h1 hp) (good_setR h (h.bd.g _) hp) (good_setD h h1 hp) (good_goTo h fnB)
    (good_goTo h (by split <;> assumption)) (good_setR h hp fnB) (good_goTo h h1) (good_takeB h hb hp) (good_goTo h hp)
theorem run_good (hw : Wds ws) (hb : Bytes bi) : ∀ (k : Nat) {s : Mc}, Good s → Good (run ws bi k s).st
  | 0, _, h => h
  | k + 1, s, h => by
    unfold run
    split
    · exact h
    · exact run_good hw hb k (good_nxt h hw hb)
theorem run_back (hw : Wds ws) (hb : Bytes bi) : ∀ (k : Nat) {s : Mc}, Good s → back (run ws bi k s).st (run ws bi k s).tr = s
  | 0, _, _ => rfl
  | k + 1, s, h => by
    have u := undo_nxt (bi := bi) h hw
    have q := run_back hw hb k (good_nxt h hw hb)
    unfold run
    split
    · have l := h.lr
      show undo s (g s.r 4, .non) = s
      unfold undo
      dsimp only
      have e : put s.r 4 (g s.r 4) = s.r := by
        unfold put g
        refine List.ext_getElem? fun i => ?_
        rw [List.getElem?_set]
        split
        · rename_i e
          subst e
          rw [if_pos (show (4 : Int).toNat < s.r.length by omega), List.getD_eq_getElem?_getD, List.getElem?_eq_getElem (show (4 : Int).toNat < s.r.length by omega)]
          rfl
        · rfl
      rw [e]
    · show undo (back _ _) _ = s
      rw [q]
      exact u
/-- a run cut and gone on with -/
theorem run_cut : ∀ (c k : Nat) (s : Mc), (run ws bi c s).fin = "cut" → run ws bi (c + k) s = ⟨(run ws bi c s).out ++ (run ws bi k (run ws bi c s).st).out, (run ws bi k (run ws bi c s).st).fin, (run ws bi k (run ws bi c s).st).st, (run ws bi c s).tr ++ (run ws bi k (run ws bi c s).st).tr⟩
  | 0, k, s, _ => by
    rw [Nat.zero_add]
    rfl
  | c + 1, k, s, h => by
    rw [show c + 1 + k = c + k + 1 by omega]
    cases e : endAt ws s with
    | some z =>
      exfalso
      unfold run at h
      rw [e] at h
      have h : z = "cut" := h
      unfold endAt endOf at e
      split at e
      · cases e
        split at h
        · unfold ends at h
          rename_i a b
          have hn : fn (wordAt ws s) = 0 ∨ fn (wordAt ws s) = 1 ∨ fn (wordAt ws s) = 2 := by
            have : 0 ≤ fn (wordAt ws s) := Int.emod_nonneg _ (by decide)
            omega
          rcases hn with q | q | q <;> rw [q] at h <;> exact absurd h (by decide +kernel)
        · exact absurd h (by decide +kernel)
      · split at e
        · cases e
          exact absurd h (by decide +kernel)
        · cases e
    | none =>
      have h1 : run ws bi (c + 1) s = ⟨(nxt ws s bi).2.1.toList ++ (run ws bi c (nxt ws s bi).1).out, (run ws bi c (nxt ws s bi).1).fin, (run ws bi c (nxt ws s bi).1).st, (nxt ws s bi).2.2 :: (run ws bi c (nxt ws s bi).1).tr⟩ := by
        conv => lhs; unfold run
        rw [e]
      have h2 : run ws bi (c + k + 1) s = ⟨(nxt ws s bi).2.1.toList ++ (run ws bi (c + k) (nxt ws s bi).1).out, (run ws bi (c + k) (nxt ws s bi).1).fin, (run ws bi (c + k) (nxt ws s bi).1).st, (nxt ws s bi).2.2 :: (run ws bi (c + k) (nxt ws s bi).1).tr⟩ := by
        conv => lhs; unfold run
        rw [e]
      rw [h1] at h
      have ih := run_cut c k (nxt ws s bi).1 h
      rw [h2, h1, ih]
      simp
/-- behind its end a run ends at once -/
theorem run_ended : ∀ (k : Nat) (s : Mc), (run ws bi k s).fin ≠ "cut" → ∀ j, run ws bi (j + 1) (run ws bi k s).st = ⟨[], (run ws bi k s).fin, (run ws bi k s).st, [(g (run ws bi k s).st.r 4, .non)]⟩
  | 0, s, h, _ => absurd rfl h
  | k + 1, s, h, j => by
    cases e : endAt ws s with
    | some z =>
      have h1 : run ws bi (k + 1) s = ⟨[], z, s, [(g s.r 4, .non)]⟩ := by
        conv => lhs; unfold run
        rw [e]
      rw [h1]
      show run ws bi (j + 1) s = _
      conv => lhs; unfold run
      rw [e]
    | none =>
      have h1 : run ws bi (k + 1) s = ⟨(nxt ws s bi).2.1.toList ++ (run ws bi k (nxt ws s bi).1).out, (run ws bi k (nxt ws s bi).1).fin, (run ws bi k (nxt ws s bi).1).st, (nxt ws s bi).2.2 :: (run ws bi k (nxt ws s bi).1).tr⟩ := by
        conv => lhs; unfold run
        rw [e]
      rw [h1] at h ⊢
      exact run_ended k _ h j
end
end M40



set_option pp.maxSteps 1500
namespace Q40
open PySem L2 G M40
open C8 (Cal Met Mak pe_c pe_mk pe_mt pe_mt0 pe_gc pss_cut tCut)
def intsD (l : List Int) : List PyData := l.map PyData.int
theorem ints_len (l : List Int) : (intsD l).length = l.length := by simp [intsD]
def byteD : PyData → Bool
  | .int i => decide (0 ≤ i) && decide (i < 256)
  | _ => false
def countD : PyData → Bool
  | .int i => decide (0 ≤ i)
  | _ => false
/-- data of one place -/
def flatD : PyData → Bool
  | .none => true
  | .bool _ => true
  | .int _ => true
  | _ => false
def badW : PyData → PyData
  | .int i => .bool (!(decide (0 ≤ i) && decide (i ≤ 65535)))
  | d => d
theorem dps_bl_of {K : PySem.W.Frag} {H : Hp} : ∀ {bs : List Bool} {vs : List V}, DpAll K H vs (bs.map PyData.bool) → vs = bs.map V.bl
  | [], _, .nil => rfl
  | b :: r, _, .cons h t => by
    cases dp_bl h
    rw [dps_bl_of t]
    rfl
section
variable {P : Program} {w : World} {K : PySem.W.Frag} {mg : Str → Option Value} {base : Heap}
/-! ### is_byte, is_count -/
def spByte (K : PySem.W.Frag) : Sp := fun vs H Q _ => ∃ (v : V) (d : PyData), vs = [v] ∧ Dp K H v d ∧ flatD d = true ∧ Q (.bl (byteD d)) H
theorem ok_byte {f : Addr} {fd : FuncData} (F : Fun K "is_byte" "is_byte" s_is_byte f fd) (T : Txt K mg) : FnOk P w K mg base CX0 1 f fd ["value"] (spByte K) := by
  refine F.ok sc_is_byte (fun vs H Q E h => ?_) (fun cdv A outer s H vs Q E hr h => ?_)
  · obtain ⟨v, d, rfl, _⟩ := h
    rfl
  · obtain ⟨v, d, rfl, hd, hf, k⟩ := h
    obtain ⟨vB, g_BYTE, dB⟩ := T.c_BYTE
    refine ⟨_, (pss_one (ps_ret (pe_and (pe_callB call_isi (by rfl) T.b_isinstance boot_isinstance' (pa_cons (pv 0) (pa_cons (pe_bltn (v := .ty "int") (by rfl) T.b_int boot_int' rfl) pa_nil))) (pe_and (pe_not (pe_callB call_isi (by rfl) T.b_isinstance boot_isinstance' (pa_cons (pv 0) (pa_cons (pe_bltn (v := .ty "bool") (by rfl) T.b_bool boot_bool' rfl) pa_nil)))) (pe_one (pe_chain op_le op_lt pe_int (pv 0) (pe_gc (by rfl) g_BYTE))))))), ?_⟩
    refine ⟨_, rfl, _, _, _, _, _, rfl, .ty _, dp_ty hd, kitD K _ _ (by decide), ?_⟩
    cases dp_int (dB H)
    cases d with
    | none => exact ⟨_, rfl, ifF rfl k⟩
    | bool b =>
      cases dp_bl hd
      refine ⟨_, rfl, ifT rfl ⟨_, rfl, _, _, _, _, _, rfl, .ty _, dp_ty hd, kitD K _ _ (by decide), ?_⟩⟩
      exact ⟨_, rfl, _, rfl, ifF rfl k⟩
    | int i =>
      cases dp_int hd
      refine ⟨_, rfl, ifT rfl ⟨_, rfl, _, _, _, _, _, rfl, .ty _, dp_ty hd, kitD K _ _ (by decide), ?_⟩⟩
      refine ⟨_, rfl, _, rfl, ifT rfl ⟨_, rfl, _, _, rfl, rfl, _, rfl, ?_⟩⟩
      by_cases h : 0 ≤ i
      · refine ifT (decide_eq_true h) ⟨_, _, rfl, rfl, ?_⟩
        have e : byteD (.int i) = decide (i < 256) := by show (decide (0 ≤ i) && decide (i < 256)) = _; rw [decide_eq_true h, Bool.true_and]
        rw [e] at k
        exact k
      · refine ifF (decide_eq_false h) ?_
        have e : byteD (.int i) = false := by show (decide (0 ≤ i) && decide (i < 256)) = _; rw [decide_eq_false h, Bool.false_and]
        rw [e] at k
        exact k
    | str _ => cases hf
    | list _ => cases hf
    | tuple _ => cases hf
    | dict _ => cases hf
def spCount (K : PySem.W.Frag) : Sp := fun vs H Q _ => ∃ (v : V) (d : PyData), vs = [v] ∧ Dp K H v d ∧ flatD d = true ∧ Q (.bl (countD d)) H
theorem ok_count {f : Addr} {fd : FuncData} (F : Fun K "is_count" "is_count" s_is_count f fd) (T : Txt K mg) : FnOk P w K mg base CX0 1 f fd ["value"] (spCount K) := by
  refine F.ok sc_is_count (fun vs H Q E h => ?_) (fun cdv A outer s H vs Q E hr h => ?_)
  · obtain ⟨v, d, rfl, _⟩ := h
    rfl
  · obtain ⟨v, d, rfl, hd, hf, k⟩ := h
    refine ⟨_, (pss_one (ps_ret (pe_and (pe_callB call_isi (by rfl) T.b_isinstance boot_isinstance' (pa_cons (pv 0) (pa_cons (pe_bltn (v := .ty "int") (by rfl) T.b_int boot_int' rfl) pa_nil))) (pe_and (pe_not (pe_callB call_isi (by rfl) T.b_isinstance boot_isinstance' (pa_cons (pv 0) (pa_cons (pe_bltn (v := .ty "bool") (by rfl) T.b_bool boot_bool' rfl) pa_nil)))) (pe_one (pe_cmpR op_ge (pv 0) pe_int (nomark _))))))), ?_⟩
    refine ⟨_, rfl, _, _, _, _, _, rfl, .ty _, dp_ty hd, kitD K _ _ (by decide), ?_⟩
    cases d with
    | none => exact ⟨_, rfl, ifF rfl k⟩
    | bool b =>
      cases dp_bl hd
      refine ⟨_, rfl, ifT rfl ⟨_, rfl, _, _, _, _, _, rfl, .ty _, dp_ty hd, kitD K _ _ (by decide), ?_⟩⟩
      exact ⟨_, rfl, _, rfl, ifF rfl k⟩
    | int i =>
      cases dp_int hd
      refine ⟨_, rfl, ifT rfl ⟨_, rfl, _, _, _, _, _, rfl, .ty _, dp_ty hd, kitD K _ _ (by decide), ?_⟩⟩
      exact ⟨_, rfl, _, rfl, ifT rfl ⟨_, rfl, _, _, rfl, rfl, k⟩⟩
    | str _ => cases hf
    | list _ => cases hf
    | tuple _ => cases hf
    | dict _ => cases hf
/-! ### check_words, fields_of -/
/-- a list or a tuple of ints -/
def Nums (K : PySem.W.Frag) (H : Hp) (v : V) (ns : List Int) : Prop := ∃ a : Addr, v = .ref a ∧ (SqL K H a (ns.map V.int) ∨ SqT K H a (ns.map V.int))
theorem Nums.same {K : PySem.W.Frag} {H H' : Hp} {v : V} {ns : List Int} (s : Same H H') : Nums K H v ns → Nums K H' v ns := fun ⟨a, e, h⟩ => ⟨a, e, h.imp (fun z => s.seq z) (fun z => Same.tup s z)⟩
def wordB (x : Int) : Bool := decide (0 ≤ x) && decide (x ≤ 65535)
def wordsB (ws : List Int) : Bool := decide (ws.length ≤ 256) && ws.all wordB
theorem any_not {α : Type} (p : α → Bool) : ∀ l : List α, ((l.map fun x => !p x).any id) = !l.all p
  | [] => rfl
  | x :: r => by
    rw [List.map_cons, List.any_cons, any_not p r, List.all_cons, Bool.not_and]
    rfl
theorem badW_map (ws : List Int) : (intsD ws).map badW = (ws.map fun x => !wordB x).map PyData.bool := by
  unfold intsD
  rw [List.map_map, List.map_map]
  rfl
def byteB (x : Int) : Bool := decide (0 ≤ x) && decide (x < 256)
theorem byteD_map (ns : List Int) : (intsD ns).map (fun d => PyData.bool (byteD d)) = (ns.map byteB).map PyData.bool := by
  unfold intsD
  rw [List.map_map, List.map_map]
  rfl
def spWords (K : PySem.W.Frag) (C : Addr) : Sp := fun vs H Q E => ∃ (v : V) (ws : List Int), vs = [v] ∧ Nums K H v ws ∧ ws.length ≤ 1000 ∧ (wordsB ws = true → ∀ H', Same H H' → Q .non H') ∧ (wordsB ws = false → RaiseF C "words" H E)
theorem ok_words {C : Addr} {f : Addr} {fd : FuncData} (F : Fun K "check_words" "check_words" s_check_words f fd) (T : Txt K mg) (c_InvalidCode : Erm P w K mg base 1 "InvalidCode" C "what") : FnOk P w K mg base (L2.CX P w) 3 f fd ["words"] (spWords K C) := by
  refine F.okX sc_check_words (fun vs H Q E h => ?_) (fun cdv A outer s H vs Q E hr h => ?_)
  · obtain ⟨v, ws, rfl, _⟩ := h
    rfl
  · obtain ⟨v, ws, rfl, hv, hl, ky, kn⟩ := h
    obtain ⟨v1, g_MOST_WORDS, d1⟩ := T.c_MOST_WORDS
    obtain ⟨v2, g_MOST_WORD, d2⟩ := T.c_MOST_WORD
    obtain ⟨a, rfl, ha⟩ := hv
    rcases ha with ha | ha
    · refine ⟨_, (pss_one (ps_if (PW.pt (pw_or (pt_cmpR op_gt (pe_callB call_len_seq (by rfl) T.b_len boot_len' (pa_cons (pv 0) pa_nil)) (pe_gc (by rfl) g_MOST_WORDS) (nomark _)) (pw_or1 (pt_val (pe_callB (cr_any rfl) (by rfl) T.b_any boot_any' (pa_cons (pe_lc (own := [("word", 1)]) rfl sc_check_words.nd (pi_list (pv 0)) (blkOk_by (own := [("word", 1)]) (N := ["words", "word"]) (sc := defScope s_check_words) (by decide +kernel)) (fun _ _ _ _ _ => (pg_name (i := 1) sc_check_words.nd rfl (Or.inl rfl))) (fun _ _ _ _ _ => pts_nil) (fun _ _ _ _ _ => (pe_not (pe_chain op_le op_le pe_int (pv 1) (pe_gc (by rfl) g_MOST_WORD))))) pa_nil)))))) (pss_one (ps_raise rfl (takes_of rfl rfl rfl rfl) (pmk_e c_InvalidCode hr (by omega) rfl (pa_cons pe_str pa_nil)))) pss_nil)), ?_⟩
      cases dp_int (d1 H)
      cases dp_int (d2 H)
      refine ⟨_, rfl, a, _, rfl, .inl ha, _, _, rfl, rfl, _, rfl, ?_⟩
      rw [List.length_map]
      by_cases hn : ws.length ≤ 256
      · refine ifF (decide_eq_false (by omega)) ?_
        refine ⟨_, rfl, a, rfl, ⟨_, ha⟩, fun D hD => ?_⟩
        refine lc_data (K := K) (a := a) (xs := ws.map V.int) (ds := intsD ws) (fun _ => true) badW ha (dps_ints _) hD (by rw [ints_len]; omega) ?_ ?_
        · intro v d G acc R dm hv sG hG ha2 _ hyes
          obtain ⟨i, hi, rfl⟩ := List.mem_map.mp dm
          cases dp_int hv
          have fin : ∀ b : Bool, b = !wordB i → ∃ acc', upd G D (.lst acc) D = some (.lst acc') ∧ acc'.length < sizeLine ∧ R (upd (upd G D (.lst acc)) D (.lst (acc' ++ [V.bl b]))) := fun b e => ⟨acc, upd_same, ha2, by
            rw [upd_app]
            exact hyes rfl G _ (Same.refl _) hG (by rw [e]; exact .bl _)⟩
          refine ⟨rfl, _, rfl, _, _, rfl, rfl, _, rfl, ?_⟩
          by_cases h0 : 0 ≤ i
          · refine ifT (decide_eq_true h0) ⟨_, _, rfl, rfl, _, rfl, fin _ ?_⟩
            unfold wordB
            rw [decide_eq_true h0, Bool.true_and]
          · refine ifF (decide_eq_false h0) ⟨_, rfl, fin _ ?_⟩
            unfold wordB
            rw [decide_eq_false h0, Bool.false_and]
        intro G ys sG hG hys
        rw [List.filter_eq_self.mpr fun _ _ => rfl, badW_map] at hys
        cases dps_bl_of hys
        have sD : Same H (upd G D (.lst ((ws.map fun x => !wordB x).map V.bl))) := sG.trans (same_new hG)
        refine ⟨D, _, rfl, SqL.of upd_same, _, rfl, ?_⟩
        have e : ((ws.map fun x => !wordB x).any id) = !ws.all wordB := by
          exact any_not wordB ws
        rw [e]
        have ew : wordsB ws = ws.all wordB := by unfold wordsB; rw [decide_eq_true hn, Bool.true_and]
        by_cases ha3 : ws.all wordB = true
        · exact ifF (by rw [ha3]; rfl) (ky (ew.trans ha3) _ sD)
        · have ha3 := Bool.eq_false_iff.mpr ha3
          refine ifT (by rw [ha3]; rfl) ?_
          exact ⟨_, rfl, fun d hd => (kn (ew.trans ha3)).here sD hd⟩
      · refine ifT (decide_eq_true (by omega)) ?_
        exact ⟨_, rfl, fun d hd => (kn (by unfold wordsB; rw [decide_eq_false hn, Bool.false_and])).here (Same.refl _) hd⟩
    · refine ⟨_, (pss_one (ps_if (PW.pt (pw_or (pt_cmpR op_gt (pe_callB call_len_seq (by rfl) T.b_len boot_len' (pa_cons (pv 0) pa_nil)) (pe_gc (by rfl) g_MOST_WORDS) (nomark _)) (pw_or1 (pt_val (pe_callB (cr_any rfl) (by rfl) T.b_any boot_any' (pa_cons (pe_lc (own := [("word", 1)]) rfl sc_check_words.nd (pi_tup (pv 0)) (blkOk_by (own := [("word", 1)]) (N := ["words", "word"]) (sc := defScope s_check_words) (by decide +kernel)) (fun _ _ _ _ _ => (pg_name (i := 1) sc_check_words.nd rfl (Or.inl rfl))) (fun _ _ _ _ _ => pts_nil) (fun _ _ _ _ _ => (pe_not (pe_chain op_le op_le pe_int (pv 1) (pe_gc (by rfl) g_MOST_WORD))))) pa_nil)))))) (pss_one (ps_raise rfl (takes_of rfl rfl rfl rfl) (pmk_e c_InvalidCode hr (by omega) rfl (pa_cons pe_str pa_nil)))) pss_nil)), ?_⟩
      cases dp_int (d1 H)
      cases dp_int (d2 H)
      refine ⟨_, rfl, a, _, rfl, .inr ha, _, _, rfl, rfl, _, rfl, ?_⟩
      rw [List.length_map]
      by_cases hn : ws.length ≤ 256
      · refine ifF (decide_eq_false (by omega)) ?_
        refine ⟨_, rfl, a, rfl, ⟨_, ha⟩, fun D hD => ?_⟩
        refine lc_dataT (K := K) (a := a) (xs := ws.map V.int) (ds := intsD ws) (fun _ => true) badW ha (dps_ints _) hD (by rw [ints_len]; omega) ?_ ?_
        · intro v d G acc R dm hv sG hG ha2 _ hyes
          obtain ⟨i, hi, rfl⟩ := List.mem_map.mp dm
          cases dp_int hv
          have fin : ∀ b : Bool, b = !wordB i → ∃ acc', upd G D (.lst acc) D = some (.lst acc') ∧ acc'.length < sizeLine ∧ R (upd (upd G D (.lst acc)) D (.lst (acc' ++ [V.bl b]))) := fun b e => ⟨acc, upd_same, ha2, by
            rw [upd_app]
            exact hyes rfl G _ (Same.refl _) hG (by rw [e]; exact .bl _)⟩
          refine ⟨rfl, _, rfl, _, _, rfl, rfl, _, rfl, ?_⟩
          by_cases h0 : 0 ≤ i
          · refine ifT (decide_eq_true h0) ⟨_, _, rfl, rfl, _, rfl, fin _ ?_⟩
            unfold wordB
            rw [decide_eq_true h0, Bool.true_and]
          · refine ifF (decide_eq_false h0) ⟨_, rfl, fin _ ?_⟩
            unfold wordB
            rw [decide_eq_false h0, Bool.false_and]
        intro G ys sG hG hys
        rw [List.filter_eq_self.mpr fun _ _ => rfl, badW_map] at hys
        cases dps_bl_of hys
        have sD : Same H (upd G D (.lst ((ws.map fun x => !wordB x).map V.bl))) := sG.trans (same_new hG)
        refine ⟨D, _, rfl, SqL.of upd_same, _, rfl, ?_⟩
        have e : ((ws.map fun x => !wordB x).any id) = !ws.all wordB := by
          exact any_not wordB ws
        rw [e]
        have ew : wordsB ws = ws.all wordB := by unfold wordsB; rw [decide_eq_true hn, Bool.true_and]
        by_cases ha3 : ws.all wordB = true
        · exact ifF (by rw [ha3]; rfl) (ky (ew.trans ha3) _ sD)
        · have ha3 := Bool.eq_false_iff.mpr ha3
          refine ifT (by rw [ha3]; rfl) ?_
          exact ⟨_, rfl, fun d hd => (kn (ew.trans ha3)).here sD hd⟩
      · refine ifT (decide_eq_true (by omega)) ?_
        exact ⟨_, rfl, fun d hd => (kn (by unfold wordsB; rw [decide_eq_false hn, Bool.false_and])).here (Same.refl _) hd⟩
def spFields (K : PySem.W.Frag) : Sp := fun vs H Q _ => ∃ w : Int, vs = [.int w] ∧ wordB w = true ∧ ∀ (t : Addr) (H' : Hp), Same H H' → H' t = some (.tup [.int (fop w), .int (fa w), .int (fb w), .int (fn w)]) → Q (.ref t) H'
theorem ok_fields {C : Addr} {f : Addr} {fd : FuncData} (F : Fun K "fields_of" "fields_of" s_fields_of f fd) (T : Txt K mg) (c_check_words : CalX P w K mg base 3 "check_words" (spWords K C)) : FnOk P w K mg base (L2.CX P w) 4 f fd ["word"] (spFields K) := by
  refine F.okX sc_fields_of (fun vs H Q E h => ?_) (fun cdv A outer s H vs Q E hr h => ?_)
  · obtain ⟨w, rfl, _⟩ := h
    rfl
  · obtain ⟨w, rfl, hw, k⟩ := h
    have hw' := hw
    unfold wordB at hw'
    simp only [Bool.and_eq_true, decide_eq_true_eq] at hw'
    have hok : wordsB [w] = true := by
      unfold wordsB
      rw [List.all_cons, hw]
      rfl
    refine ⟨_, (pss_cons (ps_expr (pe_cx c_check_words hr (by omega) rfl (takes_of rfl rfl rfl rfl) (pa_cons (pe_lst (pa_cons (pv 0) pa_nil)) pa_nil)))
      (pss_one (ps_ret (pe_tup (pa_cons (pe_op op_fdiv (pv 0) pe_int) (pa_cons (pe_op op_mod (pe_op op_fdiv (pv 0) pe_int) pe_int) (pa_cons (pe_op op_mod (pe_op op_fdiv (pv 0) pe_int) pe_int) (pa_cons (pe_op op_mod (pv 0) pe_int) pa_nil)))))))), ?_⟩
    refine ⟨_, rfl, (show 1 ≤ sizeLine by decide), fun q nq => ?_⟩
    have s1 := same_new (o := HO.lst [V.int w]) nq
    refine ⟨.ref q, [w], rfl, ⟨q, rfl, .inl (SqL.of upd_same)⟩, (show 1 ≤ 1000 by decide), fun _ H2 s2 => ?_, fun e => absurd hok (by rw [e]; decide)⟩
    refine ⟨_, rfl, _, _, rfl, rfl, ⟨by decide, by decide⟩, _, rfl, _, _, rfl, rfl, ⟨by decide, by decide⟩, _, _, rfl, rfl, (show (0 : Int) < 4 by decide), _, rfl, _, _, rfl, rfl, ⟨by decide, by decide⟩, _, _, rfl, rfl, (show (0 : Int) < 4 by decide), _, rfl, _, _, rfl, rfl, (show (0 : Int) < 256 by decide), (show 4 ≤ sizeLine by decide), fun t nt => ?_⟩
    exact k t _ ((s1.trans s2).trans (same_new nt)) upd_same
/-! ### check_data -/
def dataB (ns : List Int) : Bool := decide (ns.length = 64) && ns.all fun x => decide (0 ≤ x) && decide (x < 256)
def spData (K : PySem.W.Frag) (C : Addr) : Sp := fun vs H Q E => ∃ (v : V) (ns : List Int), vs = [v] ∧ Nums K H v ns ∧ ns.length ≤ 1000 ∧ (dataB ns = true → ∀ H', Same H H' → Q .non H') ∧ (dataB ns = false → RaiseF C "form" H E)
theorem ok_data {C : Addr} {f : Addr} {fd : FuncData} (F : Fun K "check_data" "check_data" s_check_data f fd) (T : Txt K mg) (c_InvalidState : Erm P w K mg base 1 "InvalidState" C "what") (c_is_byte : Cal P w K mg base 1 "is_byte" (spByte K) []) : FnOk P w K mg base (L2.CX P w) 3 f fd ["data"] (spData K C) := by
  refine F.okX sc_check_data (fun vs H Q E h => ?_) (fun cdv A outer s H vs Q E hr h => ?_)
  · obtain ⟨v, ns, rfl, _⟩ := h
    rfl
  · obtain ⟨v, ns, rfl, hv, hl, ky, kn⟩ := h
    obtain ⟨v1, g_DATA, d1⟩ := T.c_DATA
    obtain ⟨a, rfl, ha⟩ := hv
    rcases ha with ha | ha
    · refine ⟨_, (pss_one (ps_if (PW.pt (pw_or (pt_cmpR op_ne (pe_callB call_len_seq (by rfl) T.b_len boot_len' (pa_cons (pv 0) pa_nil)) (pe_gc (by rfl) g_DATA) (nomark _)) (pw_or1 (pt_not (pt_val (pe_callB (cr_all rfl) (by rfl) T.b_all boot_all' (pa_cons (pe_lc (own := [("value", 1)]) rfl sc_check_data.nd (pi_list (pv 0)) (blkOk_by (own := [("value", 1)]) (N := ["data", "value"]) (sc := defScope s_check_data) (by decide +kernel)) (fun _ _ _ _ _ => (pg_name (i := 1) sc_check_data.nd rfl (Or.inl rfl))) (fun _ _ _ _ _ => pts_nil) (fun _ _ _ _ _ => (pe_c c_is_byte hr (by omega) rfl (pa_cons (pv 1) pa_nil)))) pa_nil))))))) (pss_one (ps_raise rfl (takes_of rfl rfl rfl rfl) (pmk_e c_InvalidState hr (by omega) rfl (pa_cons pe_str pa_nil)))) pss_nil)), ?_⟩
      cases dp_int (d1 H)
      refine ⟨_, rfl, a, _, rfl, .inl ha, rfl, _, rfl, ?_⟩
      rw [List.length_map]
      by_cases hn : ns.length = 64
      · refine ifF (ne_int0 (by omega)) ?_
        refine ⟨_, rfl, a, rfl, ⟨_, ha⟩, fun D hD => ?_⟩
        refine lc_data (K := K) (a := a) (xs := ns.map V.int) (ds := intsD ns) (fun _ => true) (fun d => .bool (byteD d)) ha (dps_ints _) hD (by rw [ints_len]; omega) ?_ ?_
        · intro v d G acc R dm hv sG hG ha2 _ hyes
          obtain ⟨i, hi, rfl⟩ := List.mem_map.mp dm
          cases dp_int hv
          refine ⟨rfl, _, rfl, _, .int i, rfl, .int i, rfl, acc, upd_same, ha2, ?_⟩
          rw [upd_app]
          exact hyes rfl G _ (Same.refl _) hG (.bl _)
        intro G ys sG hG hys
        rw [List.filter_eq_self.mpr fun _ _ => rfl, byteD_map] at hys
        cases dps_bl_of hys
        have sD : Same H (upd G D (.lst ((ns.map byteB).map V.bl))) := sG.trans (same_new hG)
        refine ⟨D, _, rfl, SqL.of upd_same, _, rfl, ?_⟩
        have e : ((ns.map byteB).all id) = ns.all byteB := by
          rw [List.all_map]
          rfl
        rw [e]
        have ew : dataB ns = ns.all byteB := by unfold dataB; rw [decide_eq_true hn, Bool.true_and]; rfl
        by_cases ha3 : ns.all byteB = true
        · exact ifF (by rw [ha3]; rfl) (ky (ew.trans ha3) _ sD)
        · have ha3 := Bool.eq_false_iff.mpr ha3
          refine ifT (by rw [ha3]; rfl) ?_
          exact ⟨_, rfl, fun d hd => (kn (ew.trans ha3)).here sD hd⟩
      · refine ifT (ne_int (by omega)) ?_
        exact ⟨_, rfl, fun d hd => (kn (by unfold dataB; rw [decide_eq_false hn, Bool.false_and])).here (Same.refl _) hd⟩
    · refine ⟨_, (pss_one (ps_if (PW.pt (pw_or (pt_cmpR op_ne (pe_callB call_len_seq (by rfl) T.b_len boot_len' (pa_cons (pv 0) pa_nil)) (pe_gc (by rfl) g_DATA) (nomark _)) (pw_or1 (pt_not (pt_val (pe_callB (cr_all rfl) (by rfl) T.b_all boot_all' (pa_cons (pe_lc (own := [("value", 1)]) rfl sc_check_data.nd (pi_tup (pv 0)) (blkOk_by (own := [("value", 1)]) (N := ["data", "value"]) (sc := defScope s_check_data) (by decide +kernel)) (fun _ _ _ _ _ => (pg_name (i := 1) sc_check_data.nd rfl (Or.inl rfl))) (fun _ _ _ _ _ => pts_nil) (fun _ _ _ _ _ => (pe_c c_is_byte hr (by omega) rfl (pa_cons (pv 1) pa_nil)))) pa_nil))))))) (pss_one (ps_raise rfl (takes_of rfl rfl rfl rfl) (pmk_e c_InvalidState hr (by omega) rfl (pa_cons pe_str pa_nil)))) pss_nil)), ?_⟩
      cases dp_int (d1 H)
      refine ⟨_, rfl, a, _, rfl, .inr ha, rfl, _, rfl, ?_⟩
      rw [List.length_map]
      by_cases hn : ns.length = 64
      · refine ifF (ne_int0 (by omega)) ?_
        refine ⟨_, rfl, a, rfl, ⟨_, ha⟩, fun D hD => ?_⟩
        refine lc_dataT (K := K) (a := a) (xs := ns.map V.int) (ds := intsD ns) (fun _ => true) (fun d => .bool (byteD d)) ha (dps_ints _) hD (by rw [ints_len]; omega) ?_ ?_
        · intro v d G acc R dm hv sG hG ha2 _ hyes
          obtain ⟨i, hi, rfl⟩ := List.mem_map.mp dm
          cases dp_int hv
          refine ⟨rfl, _, rfl, _, .int i, rfl, .int i, rfl, acc, upd_same, ha2, ?_⟩
          rw [upd_app]
          exact hyes rfl G _ (Same.refl _) hG (.bl _)
        intro G ys sG hG hys
        rw [List.filter_eq_self.mpr fun _ _ => rfl, byteD_map] at hys
        cases dps_bl_of hys
        have sD : Same H (upd G D (.lst ((ns.map byteB).map V.bl))) := sG.trans (same_new hG)
        refine ⟨D, _, rfl, SqL.of upd_same, _, rfl, ?_⟩
        have e : ((ns.map byteB).all id) = ns.all byteB := by
          rw [List.all_map]
          rfl
        rw [e]
        have ew : dataB ns = ns.all byteB := by unfold dataB; rw [decide_eq_true hn, Bool.true_and]; rfl
        by_cases ha3 : ns.all byteB = true
        · exact ifF (by rw [ha3]; rfl) (ky (ew.trans ha3) _ sD)
        · have ha3 := Bool.eq_false_iff.mpr ha3
          refine ifT (by rw [ha3]; rfl) ?_
          exact ⟨_, rfl, fun d hd => (kn (ew.trans ha3)).here sD hd⟩
      · refine ifT (ne_int (by omega)) ?_
        exact ⟨_, rfl, fun d hd => (kn (by unfold dataB; rw [decide_eq_false hn, Bool.false_and])).here (Same.refl _) hd⟩
/-! ### first_state, replaced, result_of -/
def stD (s : Mc) : PyData := .tuple [.tuple (intsD s.r), .tuple (intsD s.d), .int s.t]
def spFirst (K : PySem.W.Frag) : Sp := fun vs H Q _ => ∃ (v : V) (ns : List Int), vs = [v] ∧ Nums K H v ns ∧ dataB ns = true ∧ ∀ (u : V) (H' : Hp), Same H H' → Dp K H' u (stD ⟨[0, 0, 0, 0, 0], ns, 0⟩) → Q u H'
theorem ok_first {C : Addr} {f : Addr} {fd : FuncData} (F : Fun K "first_state" "first_state" s_first_state f fd) (T : Txt K mg) (c_check_data : CalX P w K mg base 3 "check_data" (spData K C)) : FnOk P w K mg base (L2.CX P w) 4 f fd ["data"] (spFirst K) := by
  refine F.okX sc_first_state (fun vs H Q E h => ?_) (fun cdv A outer s H vs Q E hr h => ?_)
  · obtain ⟨v, ns, rfl, _⟩ := h
    rfl
  · obtain ⟨v, ns, rfl, hv, hd, k⟩ := h
    have hl : ns.length = 64 := by
      unfold dataB at hd
      simp only [Bool.and_eq_true, decide_eq_true_eq] at hd
      exact hd.1
    refine ⟨_, (pss_cons (ps_expr (pe_cx c_check_data hr (by omega) rfl (takes_of rfl rfl rfl rfl) (pa_cons (pv 0) pa_nil)))
      (pss_one (ps_ret (pe_tup (pa_cons (pe_tup (pa_cons pe_int (pa_cons pe_int (pa_cons pe_int (pa_cons pe_int (pa_cons pe_int pa_nil)))))) (pa_cons (pe_callTy call_tuple_of (by rfl) T.b_tuple boot_tuple' (pa_cons (pv 0) pa_nil)) (pa_cons pe_int pa_nil))))))), ?_⟩
    refine ⟨_, rfl, v, ns, rfl, hv, by omega, fun _ H1 s1 => ?_, fun e => absurd hd (by rw [e]; decide)⟩
    obtain ⟨a, rfl, ha⟩ := Nums.same s1 hv
    refine ⟨(show 5 ≤ sizeLine by decide), fun t1 n1 => ?_⟩
    have x1 := same_new (o := HO.tup [V.int 0, V.int 0, V.int 0, V.int 0, V.int 0]) n1
    have fin : ∀ (u : V) (H2 : Hp), Same (upd H1 t1 (.tup [V.int 0, V.int 0, V.int 0, V.int 0, V.int 0])) H2 → Dp K H2 u (.tuple (intsD ns)) → (3 ≤ sizeLine ∧ ∀ p, H2 p = none → Q (.ref p) (upd H2 p (.tup [.ref t1, u, .int 0]))) := fun u H2 s2 du =>
      ⟨(show 3 ≤ sizeLine by decide), fun p np => k _ _ ((s1.trans x1).trans (s2.trans (same_new np))) (.tup (SqT.of upd_same) (.cons (.tup (SqT.of ((s2.trans (same_new np)) _ _ upd_same)) (dps_ints [0, 0, 0, 0, 0])) (.cons (dp_same (same_new np) du) (.cons (.int _) .nil))))⟩
    refine ⟨_, rfl, a, ns.map V.int, rfl, ?_⟩
    rcases ha with ha | ha
    · refine .inl ⟨x1.seq ha, fun t2 n2 => ?_⟩
      exact fin (.ref t2) _ (same_new n2) (.tup (SqT.of upd_same) (dps_ints _))
    · refine .inr ⟨Same.tup x1 ha, ?_⟩
      exact fin (.ref a) _ (Same.refl _) (.tup (Same.tup x1 ha) (dps_ints _))
theorem take_set {α : Type} (xs : List α) {i : Nat} (x : α) (h : i < xs.length) : xs.take i ++ [x] ++ xs.drop (i + 1) = xs.set i x := by
  refine List.ext_getElem? fun j => ?_
  rw [List.getElem?_set, List.append_assoc, List.getElem?_append, List.length_take, Nat.min_eq_left (by omega)]
  by_cases h1 : j < i
  · rw [if_pos h1, if_neg (by omega), List.getElem?_take, if_pos h1]
  · rw [if_neg h1]
    by_cases h2 : i = j
    · subst h2
      rw [if_pos rfl, if_pos h, Nat.sub_self]
      rfl
    · rw [if_neg h2, List.getElem?_append, if_neg (by simp only [List.length_singleton]; omega), List.length_singleton, List.getElem?_drop]
      congr 1
      omega
def spRepl (K : PySem.W.Frag) : Sp := fun vs H Q _ => ∃ (v : V) (xs : List Int) (i x : Int), vs = [v, .int i, .int x] ∧ Dp K H v (.tuple (intsD xs)) ∧ 0 ≤ i ∧ i < xs.length ∧ xs.length ≤ 1000 ∧ ∀ (u : V) (H' : Hp), Same H H' → Dp K H' u (.tuple (intsD (put xs i x))) → Q u H'
theorem ok_repl {f : Addr} {fd : FuncData} (F : Fun K "replaced" "replaced" s_replaced f fd) (T : Txt K mg) : FnOk P w K mg base CX0 1 f fd ["row", "at", "value"] (spRepl K) := by
  refine F.ok sc_replaced (fun vs H Q E h => ?_) (fun cdv A outer s H vs Q E hr h => ?_)
  · obtain ⟨v, xs, i, x, rfl, _⟩ := h
    rfl
  · obtain ⟨v, xs, i, x, rfl, hv, i0, i1, hl, k⟩ := h
    obtain ⟨a, ys, rfl, ha, hys⟩ := dp_tup hv
    cases dps_ints_of hys
    obtain ⟨j, rfl⟩ := Int.eq_ofNat_of_zero_le i0
    refine ⟨_, (pss_one (ps_ret (pe_op op_catA (pe_op op_catA (pe_slice sl_tupA (pv 0) po_none (po_some (pv 1))) (pe_tup (pa_cons (pv 2) pa_nil))) (pe_slice sl_tupA (pv 0) (po_some (pe_op op_add (pv 1) pe_int)) po_none)))), ?_⟩
    refine ⟨_, rfl, ?_⟩
    unfold tNoPart
    refine ⟨_, rfl, _, rfl, ?_⟩
    refine slA_new ha fun b1 H1 s1 h1 => ?_
    rw [cut_to (by rw [List.length_map]; omega), ← List.map_take] at h1
    refine ⟨_, rfl, (show 1 ≤ sizeLine by decide), fun t1 n1 => ?_⟩
    have x1 := same_new (o := HO.tup [V.int x]) n1
    refine catD (ds := intsD (xs.take j)) (es := [.int x]) (.tup (Same.tup x1 h1) (dps_ints _)) (.tup (SqT.of upd_same) (.cons (.int _) .nil)) (by rw [ints_len, List.length_take]; simp only [List.length_singleton]; omega) fun z1 H2 s2 d2 => ?_
    refine ⟨_, rfl, _, rfl, _, _, rfl, rfl, _, rfl, ?_⟩
    refine slA_new (Same.tup ((s1.trans x1).trans s2) ha) fun b2 H3 s3 h3 => ?_
    rw [show ((j : Int) + 1) = ((j + 1 : Nat) : Int) by omega, cut_from (by rw [List.length_map]; omega), ← List.map_drop] at h3
    refine catD (es := intsD (xs.drop (j + 1))) (dp_same s3 d2) (.tup h3 (dps_ints _)) (by rw [List.length_append, ints_len, ints_len, List.length_take, List.length_drop]; simp only [List.length_singleton]; omega) fun z2 H4 s4 d4 => ?_
    refine k z2 H4 ((((s1.trans x1).trans s2).trans s3).trans s4) ?_
    have e : intsD (xs.take j) ++ [.int x] ++ intsD (xs.drop (j + 1)) = intsD (put xs (j : Int) x) := by
      unfold put intsD
      rw [Int.toNat_natCast, ← take_set xs x (by omega), List.map_append, List.map_append]
      rfl
    rw [← e]
    exact d4
def spRes : Sp := fun vs H Q _ => ∃ n one two : Int, vs = [.int n, .int one, .int two] ∧ 0 ≤ n ∧ n ≤ 8 ∧ ∀ H', Same H H' → Q (.int (res n one two)) H'
theorem ok_res {f : Addr} {fd : FuncData} (F : Fun K "result_of" "result_of" s_result_of f fd) (T : Txt K mg) : FnOk P w K mg base CX0 1 f fd ["n", "one", "two"] spRes := by
  refine F.ok sc_result_of (fun vs H Q E h => ?_) (fun cdv A outer s H vs Q E hr h => ?_)
  · obtain ⟨n, one, two, rfl, _⟩ := h
    rfl
  · obtain ⟨n, one, two, rfl, n0, n1, k⟩ := h
    obtain ⟨v1, g_BYTE, d1⟩ := T.c_BYTE
    refine ⟨_, (pss_cons (ps_set (i := 3) sc_result_of.nd rfl (Or.inl rfl) (pe_tup (pa_cons (pv 2) (pa_cons (pe_op op_add (pv 1) (pv 2)) (pa_cons (pe_op op_sub (pv 1) (pv 2)) (pa_cons (pe_op op_and (pv 1) (pv 2)) (pa_cons (pe_op op_or (pv 1) (pv 2)) (pa_cons (pe_op op_xor (pv 1) (pv 2)) (pa_cons (pe_callTy call_int1 (by rfl) T.b_int boot_int' (pa_cons (pe_cmpR op_lt (pv 1) (pv 2) (nomark _)) pa_nil)) (pa_cons (pe_callTy call_int1 (by rfl) T.b_int boot_int' (pa_cons (pe_cmpR op_eq (pv 1) (pv 2) (nomark _)) pa_nil)) (pa_cons (pe_op op_shr (pv 2) pe_int) pa_nil)))))))))))
      (pss_one (ps_ret (pe_op op_mod (pe_ix ix_tup (pv 3) (pv 0) (fun _ _ => rfl)) (pe_gc (by rfl) g_BYTE))))), ?_⟩
    cases dp_int (d1 H)
    refine ⟨_, rfl, _, rfl, _, rfl, _, _, rfl, rfl, _, rfl, _, rfl, _, _, rfl, rfl, _, rfl, _, rfl, _, _, rfl, rfl, _, rfl, _, rfl, _, _, rfl, rfl, _, rfl, _, rfl, _, _, rfl, rfl, _, rfl, _, rfl, _, _, rfl, rfl, .inr ⟨_, rfl, _, rfl, _, rfl, rfl, .inr ⟨_, rfl, _, rfl, _, _, rfl, rfl, (show (0 : Int) ≤ 1 by decide), (show 9 ≤ sizeLine by decide), fun t nt => ?_⟩⟩⟩
    have at_ : atI [V.int two, V.int (one + two), V.int (one - two), V.int (Builtin.bitAnd one two), V.int (Builtin.bitOr one two), V.int (Builtin.bitXor one two), V.int (if decide (one < two) = true then 1 else 0), V.int (if decide (V.int one = V.int two) = true then 1 else 0), V.int (two / 2 ^ (1 : Int).toNat)] n = some (.int (g (results one two) n)) := by
      have e1 : (if decide (one < two) = true then (1 : Int) else 0) = if one < two then 1 else 0 := by simp
      have e2 : (if decide (V.int one = V.int two) = true then (1 : Int) else 0) = if one = two then 1 else 0 := by simp
      rw [e1, e2]
      have : n = 0 ∨ n = 1 ∨ n = 2 ∨ n = 3 ∨ n = 4 ∨ n = 5 ∨ n = 6 ∨ n = 7 ∨ n = 8 := by omega
      rcases this with rfl | rfl | rfl | rfl | rfl | rfl | rfl | rfl | rfl <;> rfl
    refine ⟨_, rfl, _, rfl, t, _, n, _, rfl, rfl, SqT.of upd_same, at_, _, _, rfl, rfl, (show (0 : Int) < 256 by decide), ?_⟩
    exact k _ (same_new nt)
end
end Q40



set_option pp.maxSteps 1500
namespace Q40
open PySem L2 G M40
open C8 (Cal Met Mak pe_c pe_mk pe_mt pe_mt0 pe_gc pss_cut tCut)
def whatD : What → PyData
  | .non => .tuple []
  | .reg a o => .tuple [.str "r", .int a, .int o]
  | .byt a o => .tuple [.str "b", .int a, .int o]
  | .inp a o t => .tuple [.str "in", .int a, .int o, .int t]
def rowD (r : Row) : PyData := .tuple [.int r.1, whatD r.2]
def stepD (s : Mc) (m : Mc × What) : PyData := .tuple [stD m.1, rowD (g s.r 4, m.2)]
theorem g_at {xs : List Int} {i : Int} (h0 : 0 ≤ i) (h1 : i < xs.length) : atI (xs.map V.int) i = some (.int (g xs i)) := int_atI h0 (by omega)
section
variable {P : Program} {w : World} {K : PySem.W.Frag} {mg : Str → Option Value} {base : Heap}
theorem st_dp {H : Hp} {v : V} {s : Mc} (h : Dp K H v (stD s)) : ∃ a ar ad : Addr, v = .ref a ∧ SqT K H a [.ref ar, .ref ad, .int s.t] ∧ SqT K H ar (s.r.map V.int) ∧ SqT K H ad (s.d.map V.int) := by
  obtain ⟨a, xs, rfl, ha, hxs⟩ := dp_tup h
  cases hxs with
  | cons h1 hxs =>
    cases hxs with
    | cons h2 hxs =>
      cases hxs with
      | cons h3 hxs =>
        cases hxs
        obtain ⟨ar, x1, rfl, hr, hx1⟩ := dp_tup h1
        obtain ⟨ad, x2, rfl, hd, hx2⟩ := dp_tup h2
        cases dps_ints_of hx1
        cases dps_ints_of hx2
        cases dp_int h3
        exact ⟨a, ar, ad, rfl, ha, hr, hd⟩
theorem dp_ints {H : Hp} {a : Addr} {xs : List Int} (h : SqT K H a (xs.map V.int)) : Dp K H (.ref a) (.tuple (intsD xs)) := .tup h (dps_ints _)
/-! ### set_register, set_data, go_to, take_byte -/
def Lens (s : Mc) : Prop := s.r.length = 5 ∧ s.d.length = 64
def KStep (K : PySem.W.Frag) (H : Hp) (s : Mc) (m : Mc × What) (Q : VK) : Prop := ∀ (u : V) (H' : Hp), Same H H' → Dp K H' u (stepD s m) → Q u H'
def spSetR (K : PySem.W.Frag) : Sp := fun vs H Q _ => ∃ (v : V) (s : Mc) (a x pc : Int), vs = [v, .int a, .int x, .int pc] ∧ Dp K H v (stD s) ∧ Lens s ∧ 0 ≤ a ∧ a < 5 ∧ KStep K H s (setR s a x pc) Q
theorem ok_setR {f : Addr} {fd : FuncData} (F : Fun K "set_register" "set_register" s_set_register f fd) (T : Txt K mg) (c_replaced : Cal P w K mg base 1 "replaced" (spRepl K) []) : FnOk P w K mg base CX0 2 f fd ["state", "a", "value", "pc"] (spSetR K) := by
  refine F.ok sc_set_register (fun vs H Q E h => ?_) (fun cdv A outer s H vs Q E hr h => ?_)
  · obtain ⟨v, s, a, x, pc, rfl, _⟩ := h
    rfl
  · obtain ⟨v, st, a, x, pc, rfl, hv, ⟨lr, ld⟩, a0, a1, k⟩ := h
    obtain ⟨v1, g_REGISTERS, d1⟩ := T.c_REGISTERS
    obtain ⟨sa, ar, ad, rfl, hs, hr1, hd1⟩ := st_dp hv
    refine ⟨_, (pss_cons (ps_asg (pv 0) (pg_tup rfl (pgs_cons (pg_name (i := 4) sc_set_register.nd rfl (Or.inl rfl)) (pgs_cons (pg_name (i := 5) sc_set_register.nd rfl (Or.inl rfl)) (pgs_cons (pg_name (i := 6) sc_set_register.nd rfl (Or.inl rfl)) pgs_nil)))))
      (pss_cons (ps_set (i := 7) sc_set_register.nd rfl (Or.inl rfl) (pe_tup (pa_cons (pe_ix ix_tup (pv 4) (pe_gc (by rfl) g_REGISTERS) (fun _ _ => rfl)) (pa_cons (pe_tup (pa_cons pe_str (pa_cons (pv 1) (pa_cons (pe_ix ix_tup (pv 4) (pv 1) (fun _ _ => rfl)) pa_nil)))) pa_nil))))
      (pss_one (ps_ret (pe_tup (pa_cons (pe_tup (pa_cons (pe_c c_replaced hr (by omega) rfl (pa_cons (pe_c c_replaced hr (by omega) rfl (pa_cons (pv 4) (pa_cons (pe_gc (by rfl) g_REGISTERS) (pa_cons (pv 3) pa_nil)))) (pa_cons (pv 1) (pa_cons (pv 2) pa_nil)))) (pa_cons (pv 5) (pa_cons (pv 6) pa_nil)))) (pa_cons (pv 7) pa_nil))))))), ?_⟩
    cases dp_int (d1 H)
    refine ⟨_, rfl, sa, _, rfl, hs, rfl, ?_⟩
    refine ⟨_, _, rfl, _, _, rfl, _, _, rfl, rfl, ?_⟩
    refine ⟨_, rfl, ar, _, 4, _, rfl, rfl, hr1, g_at (by decide) (by omega), _, rfl, _, rfl, _, rfl, ar, _, _, _, rfl, rfl, hr1, g_at a0 (by omega), (show 3 ≤ sizeLine by decide), fun t1 n1 => ⟨(show 2 ≤ sizeLine by decide), fun t2 n2 => ?_⟩⟩
    have x1 := same_new (o := HO.tup [V.str "r", V.int a, V.int (g st.r a)]) n1
    have x2 := same_new (o := HO.tup [V.int (g st.r 4), V.ref t1]) n2
    have x12 := x1.trans x2
    refine ⟨_, rfl, _, rfl, .ref ar, st.r, 4, pc, rfl, dp_same x12 (dp_ints hr1), by decide, by omega, by omega, fun u1 H3 s3 d3 => ?_⟩
    refine ⟨_, rfl, _, rfl, u1, put st.r 4 pc, a, x, rfl, d3, a0, by rw [put_len]; omega, by rw [put_len]; omega, fun u2 H4 s4 d4 => ?_⟩
    refine ⟨_, rfl, _, rfl, (show 3 ≤ sizeLine by decide), fun t3 n3 => ⟨_, rfl, (show 2 ≤ sizeLine by decide), fun t4 n4 => ?_⟩⟩
    have x34 := s3.trans s4
    have x5 := same_new (o := HO.tup [u2, V.ref ad, V.int st.t]) n3
    have x6 := same_new (o := HO.tup [V.ref t3, V.ref t2]) n4
    refine k _ _ (((x12.trans x34).trans x5).trans x6) (.tup (SqT.of upd_same) (.cons (.tup (SqT.of (x6 _ _ upd_same)) (.cons (dp_same (x5.trans x6) d4) (.cons (dp_same (((x12.trans x34).trans x5).trans x6) (dp_ints hd1)) (.cons (.int _) .nil)))) (.cons (.tup (SqT.of (((x34.trans x5).trans x6) _ _ upd_same)) (.cons (.int _) (.cons (.tup (SqT.of ((((x2.trans x34).trans x5).trans x6) _ _ upd_same)) (.cons (.str _) (.cons (.int _) (.cons (.int _) .nil)))) .nil))) .nil)))
def spSetD (K : PySem.W.Frag) : Sp := fun vs H Q _ => ∃ (v : V) (s : Mc) (a x pc : Int), vs = [v, .int a, .int x, .int pc] ∧ Dp K H v (stD s) ∧ Lens s ∧ 0 ≤ a ∧ a < 64 ∧ KStep K H s (setD s a x pc) Q
theorem ok_setD {f : Addr} {fd : FuncData} (F : Fun K "set_data" "set_data" s_set_data f fd) (T : Txt K mg) (c_replaced : Cal P w K mg base 1 "replaced" (spRepl K) []) : FnOk P w K mg base CX0 2 f fd ["state", "address", "value", "pc"] (spSetD K) := by
  refine F.ok sc_set_data (fun vs H Q E h => ?_) (fun cdv A outer s H vs Q E hr h => ?_)
  · obtain ⟨v, s, a, x, pc, rfl, _⟩ := h
    rfl
  · obtain ⟨v, st, a, x, pc, rfl, hv, ⟨lr, ld⟩, a0, a1, k⟩ := h
    obtain ⟨v1, g_REGISTERS, d1⟩ := T.c_REGISTERS
    obtain ⟨sa, ar, ad, rfl, hs, hr1, hd1⟩ := st_dp hv
    refine ⟨_, (pss_cons (ps_asg (pv 0) (pg_tup rfl (pgs_cons (pg_name (i := 4) sc_set_data.nd rfl (Or.inl rfl)) (pgs_cons (pg_name (i := 5) sc_set_data.nd rfl (Or.inl rfl)) (pgs_cons (pg_name (i := 6) sc_set_data.nd rfl (Or.inl rfl)) pgs_nil)))))
      (pss_cons (ps_set (i := 7) sc_set_data.nd rfl (Or.inl rfl) (pe_tup (pa_cons (pe_ix ix_tup (pv 4) (pe_gc (by rfl) g_REGISTERS) (fun _ _ => rfl)) (pa_cons (pe_tup (pa_cons pe_str (pa_cons (pv 1) (pa_cons (pe_ix ix_tup (pv 5) (pv 1) (fun _ _ => rfl)) pa_nil)))) pa_nil))))
      (pss_one (ps_ret (pe_tup (pa_cons (pe_tup (pa_cons (pe_c c_replaced hr (by omega) rfl (pa_cons (pv 4) (pa_cons (pe_gc (by rfl) g_REGISTERS) (pa_cons (pv 3) pa_nil)))) (pa_cons (pe_c c_replaced hr (by omega) rfl (pa_cons (pv 5) (pa_cons (pv 1) (pa_cons (pv 2) pa_nil)))) (pa_cons (pv 6) pa_nil)))) (pa_cons (pv 7) pa_nil))))))), ?_⟩
    cases dp_int (d1 H)
    refine ⟨_, rfl, sa, _, rfl, hs, rfl, ?_⟩
    refine ⟨_, _, rfl, _, _, rfl, _, _, rfl, rfl, ?_⟩
    refine ⟨_, rfl, ar, _, 4, _, rfl, rfl, hr1, g_at (by decide) (by omega), _, rfl, _, rfl, _, rfl, ad, _, _, _, rfl, rfl, hd1, g_at a0 (by omega), (show 3 ≤ sizeLine by decide), fun t1 n1 => ⟨(show 2 ≤ sizeLine by decide), fun t2 n2 => ?_⟩⟩
    have x1 := same_new (o := HO.tup [V.str "b", V.int a, V.int (g st.d a)]) n1
    have x2 := same_new (o := HO.tup [V.int (g st.r 4), V.ref t1]) n2
    have x12 := x1.trans x2
    refine ⟨_, rfl, _, rfl, .ref ar, st.r, 4, pc, rfl, dp_same x12 (dp_ints hr1), by decide, by omega, by omega, fun u1 H3 s3 d3 => ?_⟩
    refine ⟨_, rfl, _, rfl, _, rfl, .ref ad, st.d, a, x, rfl, dp_same (x12.trans s3) (dp_ints hd1), a0, by omega, by omega, fun u2 H4 s4 d4 => ?_⟩
    refine ⟨_, rfl, (show 3 ≤ sizeLine by decide), fun t3 n3 => ⟨_, rfl, (show 2 ≤ sizeLine by decide), fun t4 n4 => ?_⟩⟩
    have x34 := s3.trans s4
    have x5 := same_new (o := HO.tup [u1, u2, V.int st.t]) n3
    have x6 := same_new (o := HO.tup [V.ref t3, V.ref t2]) n4
    refine k _ _ (((x12.trans x34).trans x5).trans x6) (.tup (SqT.of upd_same) (.cons (.tup (SqT.of (x6 _ _ upd_same)) (.cons (dp_same ((s4.trans x5).trans x6) d3) (.cons (dp_same (x5.trans x6) d4) (.cons (.int _) .nil)))) (.cons (.tup (SqT.of (((x34.trans x5).trans x6) _ _ upd_same)) (.cons (.int _) (.cons (.tup (SqT.of ((((x2.trans x34).trans x5).trans x6) _ _ upd_same)) (.cons (.str _) (.cons (.int _) (.cons (.int _) .nil)))) .nil))) .nil)))
def spGoTo (K : PySem.W.Frag) : Sp := fun vs H Q _ => ∃ (v : V) (s : Mc) (pc : Int), vs = [v, .int pc] ∧ Dp K H v (stD s) ∧ Lens s ∧ KStep K H s (goTo s pc) Q
theorem ok_goTo {f : Addr} {fd : FuncData} (F : Fun K "go_to" "go_to" s_go_to f fd) (T : Txt K mg) (c_replaced : Cal P w K mg base 1 "replaced" (spRepl K) []) : FnOk P w K mg base CX0 2 f fd ["state", "pc"] (spGoTo K) := by
  refine F.ok sc_go_to (fun vs H Q E h => ?_) (fun cdv A outer s H vs Q E hr h => ?_)
  · obtain ⟨v, s, pc, rfl, _⟩ := h
    rfl
  · obtain ⟨v, st, pc, rfl, hv, ⟨lr, ld⟩, k⟩ := h
    obtain ⟨v1, g_REGISTERS, d1⟩ := T.c_REGISTERS
    obtain ⟨sa, ar, ad, rfl, hs, hr1, hd1⟩ := st_dp hv
    refine ⟨_, (pss_cons (ps_asg (pv 0) (pg_tup rfl (pgs_cons (pg_name (i := 2) sc_go_to.nd rfl (Or.inl rfl)) (pgs_cons (pg_name (i := 3) sc_go_to.nd rfl (Or.inl rfl)) (pgs_cons (pg_name (i := 4) sc_go_to.nd rfl (Or.inl rfl)) pgs_nil)))))
      (pss_one (ps_ret (pe_tup (pa_cons (pe_tup (pa_cons (pe_c c_replaced hr (by omega) rfl (pa_cons (pv 2) (pa_cons (pe_gc (by rfl) g_REGISTERS) (pa_cons (pv 1) pa_nil)))) (pa_cons (pv 3) (pa_cons (pv 4) pa_nil)))) (pa_cons (pe_tup (pa_cons (pe_ix ix_tup (pv 2) (pe_gc (by rfl) g_REGISTERS) (fun _ _ => rfl)) (pa_cons (pe_tup pa_nil) pa_nil))) pa_nil)))))), ?_⟩
    cases dp_int (d1 H)
    refine ⟨_, rfl, sa, _, rfl, hs, rfl, ?_⟩
    refine ⟨_, _, rfl, _, _, rfl, _, _, rfl, rfl, ?_⟩
    refine ⟨_, rfl, _, rfl, .ref ar, st.r, 4, pc, rfl, dp_ints hr1, by decide, by omega, by omega, fun u1 H3 s3 d3 => ?_⟩
    refine ⟨_, rfl, _, rfl, (show 3 ≤ sizeLine by decide), fun t1 n1 => ?_⟩
    have x1 := same_new (o := HO.tup [u1, V.ref ad, V.int st.t]) n1
    refine ⟨_, rfl, ar, _, 4, _, rfl, rfl, Same.tup (s3.trans x1) hr1, g_at (by decide) (by omega), (show 0 ≤ sizeLine by decide), fun t2 n2 => ⟨(show 2 ≤ sizeLine by decide), fun t3 n3 => ⟨(show 2 ≤ sizeLine by decide), fun t4 n4 => ?_⟩⟩⟩
    have x2 := same_new (o := HO.tup []) n2
    have x3 := same_new (o := HO.tup [V.int (g st.r 4), V.ref t2]) n3
    have x4 := same_new (o := HO.tup [V.ref t1, V.ref t3]) n4
    have x24 := (x2.trans x3).trans x4
    refine k _ _ ((s3.trans x1).trans x24) (.tup (SqT.of upd_same) (.cons (.tup (SqT.of (x24 _ _ upd_same)) (.cons (dp_same (x1.trans x24) d3) (.cons (dp_same ((s3.trans x1).trans x24) (dp_ints hd1)) (.cons (.int _) .nil)))) (.cons (.tup (SqT.of (x4 _ _ upd_same)) (.cons (.int _) (.cons (.tup (SqT.of ((x3.trans x4) _ _ upd_same)) .nil) .nil))) .nil)))
def spTakeB (K : PySem.W.Frag) : Sp := fun vs H Q _ => ∃ (v vb : V) (s : Mc) (a pc : Int) (bi : List Int), vs = [v, .int a, vb, .int pc] ∧ Dp K H v (stD s) ∧ Lens s ∧ 0 ≤ a ∧ a < 5 ∧ 0 ≤ s.t ∧ Dp K H vb (.list (intsD bi)) ∧ KStep K H s (takeB s a bi pc) Q
theorem ok_takeB {f : Addr} {fd : FuncData} (F : Fun K "take_byte" "take_byte" s_take_byte f fd) (T : Txt K mg) (c_replaced : Cal P w K mg base 1 "replaced" (spRepl K) []) : FnOk P w K mg base CX0 2 f fd ["state", "a", "bytes_in", "pc"] (spTakeB K) := by
  refine F.ok sc_take_byte (fun vs H Q E h => ?_) (fun cdv A outer s H vs Q E hr h => ?_)
  · obtain ⟨v, vb, s, a, pc, bi, rfl, _⟩ := h
    rfl
  · obtain ⟨v, vb, st, a, pc, bi, rfl, hv, ⟨lr, ld⟩, a0, a1, t0, hb, k⟩ := h
    obtain ⟨v1, g_REGISTERS, d1⟩ := T.c_REGISTERS
    obtain ⟨sa, ar, ad, rfl, hs, hr1, hd1⟩ := st_dp hv
    obtain ⟨ab, xb, rfl, hab, hxb⟩ := dp_lst hb
    cases dps_ints_of hxb
    refine ⟨_, (pss_cons (ps_asg (pv 0) (pg_tup rfl (pgs_cons (pg_name (i := 4) sc_take_byte.nd rfl (Or.inl rfl)) (pgs_cons (pg_name (i := 5) sc_take_byte.nd rfl (Or.inl rfl)) (pgs_cons (pg_name (i := 6) sc_take_byte.nd rfl (Or.inl rfl)) pgs_nil)))))
      (pss_cons (ps_set (i := 7) sc_take_byte.nd rfl (Or.inl rfl) (pe_tup (pa_cons (pe_ix ix_tup (pv 4) (pe_gc (by rfl) g_REGISTERS) (fun _ _ => rfl)) (pa_cons (pe_tup (pa_cons pe_str (pa_cons (pv 1) (pa_cons (pe_ix ix_tup (pv 4) (pv 1) (fun _ _ => rfl)) (pa_cons (pv 6) pa_nil))))) pa_nil))))
      (pss_cons (ps_set (i := 8) sc_take_byte.nd rfl (Or.inl rfl) (pe_ifExp (pt_cmpR op_lt (pv 6) (pe_callB call_len_seq (by rfl) T.b_len boot_len' (pa_cons (pv 2) pa_nil)) (nomark _)) (pe_ix ix_list (pv 2) (pv 6) (fun _ _ => rfl)) pe_int))
      (pss_cons (ps_set (i := 9) sc_take_byte.nd rfl (Or.inl rfl) (pe_c c_replaced hr (by omega) rfl (pa_cons (pe_c c_replaced hr (by omega) rfl (pa_cons (pv 4) (pa_cons (pe_gc (by rfl) g_REGISTERS) (pa_cons (pv 3) pa_nil)))) (pa_cons (pv 1) (pa_cons (pv 8) pa_nil)))))
      (pss_one (ps_ret (pe_tup (pa_cons (pe_tup (pa_cons (pv 9) (pa_cons (pv 5) (pa_cons (pe_op op_add (pv 6) (pe_callTy call_int1 (by rfl) T.b_int boot_int' (pa_cons (pe_cmpR op_lt (pv 6) (pe_callB call_len_seq (by rfl) T.b_len boot_len' (pa_cons (pv 2) pa_nil)) (nomark _)) pa_nil))) pa_nil)))) (pa_cons (pv 7) pa_nil))))))))), ?_⟩
    cases dp_int (d1 H)
    refine ⟨_, rfl, sa, _, rfl, hs, rfl, ?_⟩
    refine ⟨_, _, rfl, _, _, rfl, _, _, rfl, rfl, ?_⟩
    refine ⟨_, rfl, ar, _, 4, _, rfl, rfl, hr1, g_at (by decide) (by omega), _, rfl, _, rfl, _, rfl, ar, _, _, _, rfl, rfl, hr1, g_at a0 (by omega), _, rfl, (show 4 ≤ sizeLine by decide), fun t1 n1 => ⟨(show 2 ≤ sizeLine by decide), fun t2 n2 => ?_⟩⟩
    have x1 := same_new (o := HO.tup [V.str "in", V.int a, V.int (g st.r a), V.int st.t]) n1
    have x2 := same_new (o := HO.tup [V.int (g st.r 4), V.ref t1]) n2
    have x12 := x1.trans x2
    by_cases ht : st.t < bi.length
    · have z0 : True := trivial
      have k : KStep K H st (⟨put (put st.r 4 pc) a (g bi st.t), st.d, st.t + 1⟩, .inp a (g st.r a) st.t) Q := by
        unfold takeB at k
        rw [if_pos ht, if_pos ht] at k
        exact k
      refine ⟨_, rfl, _, rfl, ab, _, rfl, .inl (x12.seq hab), _, _, rfl, rfl, _, rfl, ifT (by rw [List.length_map]; exact decide_eq_true ht) ⟨_, rfl, _, rfl, ab, _, _, _, rfl, rfl, x12.seq hab, g_at t0 ht, ?_⟩⟩
      refine ⟨_, rfl, _, rfl, .ref ar, st.r, 4, pc, rfl, dp_same x12 (dp_ints hr1), by decide, by omega, by omega, fun u1 H3 s3 d3 => ?_⟩
      refine ⟨_, rfl, _, rfl, u1, put st.r 4 pc, a, g bi st.t, rfl, d3, a0, by rw [put_len]; omega, by rw [put_len]; omega, fun u2 H4 s4 d4 => ?_⟩
      have x34 := s3.trans s4
      refine ⟨_, rfl, _, rfl, _, rfl, _, rfl, _, rfl, ab, _, rfl, .inl ((x12.trans x34).seq hab), _, _, rfl, rfl, .inr ⟨_, rfl, _, _, rfl, rfl, (show 3 ≤ sizeLine by decide), fun t3 n3 => ?_⟩⟩
      have et : st.t + (if decide (st.t < ((bi.map V.int).length : Int)) = true then 1 else 0) = st.t + 1 := by rw [List.length_map, decide_eq_true ht]; rfl
      have dt : ∀ Hx : Hp, Dp K Hx (V.int (st.t + (if decide (st.t < ((bi.map V.int).length : Int)) = true then 1 else 0))) (.int (st.t + 1)) := fun _ => by
        rw [et]
        exact .int _
      have x5 := same_new (o := HO.tup [u2, V.ref ad, V.int (st.t + (if decide (st.t < ((bi.map V.int).length : Int)) = true then 1 else 0))]) n3
      refine ⟨_, rfl, (show 2 ≤ sizeLine by decide), fun t4 n4 => ?_⟩
      have x6 := same_new (o := HO.tup [V.ref t3, V.ref t2]) n4
      refine k _ _ (((x12.trans x34).trans x5).trans x6) (.tup (SqT.of upd_same) (.cons (.tup (SqT.of (x6 _ _ upd_same)) (.cons (dp_same (x5.trans x6) d4) (.cons (dp_same (((x12.trans x34).trans x5).trans x6) (dp_ints hd1)) (.cons (dt _) .nil)))) (.cons (.tup (SqT.of (((x34.trans x5).trans x6) _ _ upd_same)) (.cons (.int _) (.cons (.tup (SqT.of ((((x2.trans x34).trans x5).trans x6) _ _ upd_same)) (.cons (.str _) (.cons (.int _) (.cons (.int _) (.cons (.int _) .nil))))) .nil))) .nil)))
    · have z0 : True := trivial
      have k : KStep K H st (⟨put (put st.r 4 pc) a (0), st.d, st.t + 0⟩, .inp a (g st.r a) st.t) Q := by
        unfold takeB at k
        rw [if_neg ht, if_neg ht] at k
        exact k
      refine ⟨_, rfl, _, rfl, ab, _, rfl, .inl (x12.seq hab), _, _, rfl, rfl, _, rfl, ifF (by rw [List.length_map]; exact decide_eq_false ht) ?_⟩
      refine ⟨_, rfl, _, rfl, .ref ar, st.r, 4, pc, rfl, dp_same x12 (dp_ints hr1), by decide, by omega, by omega, fun u1 H3 s3 d3 => ?_⟩
      refine ⟨_, rfl, _, rfl, u1, put st.r 4 pc, a, 0, rfl, d3, a0, by rw [put_len]; omega, by rw [put_len]; omega, fun u2 H4 s4 d4 => ?_⟩
      have x34 := s3.trans s4
      refine ⟨_, rfl, _, rfl, _, rfl, _, rfl, _, rfl, ab, _, rfl, .inl ((x12.trans x34).seq hab), _, _, rfl, rfl, .inr ⟨_, rfl, _, _, rfl, rfl, (show 3 ≤ sizeLine by decide), fun t3 n3 => ?_⟩⟩
      have et : st.t + (if decide (st.t < ((bi.map V.int).length : Int)) = true then 1 else 0) = st.t + 0 := by rw [List.length_map, decide_eq_false ht]; rfl
      have dt : ∀ Hx : Hp, Dp K Hx (V.int (st.t + (if decide (st.t < ((bi.map V.int).length : Int)) = true then 1 else 0))) (.int (st.t + 0)) := fun _ => by
        rw [et]
        exact .int _
      have x5 := same_new (o := HO.tup [u2, V.ref ad, V.int (st.t + (if decide (st.t < ((bi.map V.int).length : Int)) = true then 1 else 0))]) n3
      refine ⟨_, rfl, (show 2 ≤ sizeLine by decide), fun t4 n4 => ?_⟩
      have x6 := same_new (o := HO.tup [V.ref t3, V.ref t2]) n4
      refine k _ _ (((x12.trans x34).trans x5).trans x6) (.tup (SqT.of upd_same) (.cons (.tup (SqT.of (x6 _ _ upd_same)) (.cons (dp_same (x5.trans x6) d4) (.cons (dp_same (((x12.trans x34).trans x5).trans x6) (dp_ints hd1)) (.cons (dt _) .nil)))) (.cons (.tup (SqT.of (((x34.trans x5).trans x6) _ _ upd_same)) (.cons (.int _) (.cons (.tup (SqT.of ((((x2.trans x34).trans x5).trans x6) _ _ upd_same)) (.cons (.str _) (.cons (.int _) (.cons (.int _) (.cons (.int _) .nil))))) .nil))) .nil)))
end
end Q40



set_option pp.maxSteps 1500
namespace Q40
open PySem L2 G M40
open C8 (Cal Met Mak pe_c pe_mk pe_mt pe_mt0 pe_gc pss_cut tCut)
section
variable {P : Program} {w : World} {K : PySem.W.Frag} {mg : Str → Option Value} {base : Heap}
/-! ### moved, end_of -/
structure CalsM (P : Program) (w : World) (K : PySem.W.Frag) (mg : Str → Option Value) (base : Heap) : Prop where
  setR : Cal P w K mg base 2 "set_register" (spSetR K) []
  setD : Cal P w K mg base 2 "set_data" (spSetD K) []
  goTo : Cal P w K mg base 2 "go_to" (spGoTo K) []
  takeB : Cal P w K mg base 2 "take_byte" (spTakeB K) []
  res : Cal P w K mg base 1 "result_of" spRes []
def spMoved (K : PySem.W.Frag) : Sp := fun vs H Q _ => ∃ (v vb : V) (t : Addr) (s : Mc) (op a b n : Int) (bi : List Int), vs = [v, .ref t, vb] ∧ Dp K H v (stD s) ∧ Lens s ∧ 0 ≤ s.t ∧ SqT K H t [.int op, .int a, .int b, .int n] ∧ 0 ≤ a ∧ a < 4 ∧ 0 ≤ b ∧ b < 4 ∧ 0 ≤ n ∧ (op = 2 → n ≤ 8) ∧ Dp K H vb (.list (intsD bi)) ∧ KStep K H s (mv s op a b n bi) Q
theorem ok_moved {f : Addr} {fd : FuncData} (F : Fun K "moved" "moved" s_moved f fd) (T : Txt K mg) (c : CalsM P w K mg base) : FnOk P w K mg base CX0 3 f fd ["state", "fields", "bytes_in"] (spMoved K) := by
  refine F.ok sc_moved (fun vs H Q E h => ?_) (fun cdv A outer s H vs Q E hr h => ?_)
  · obtain ⟨v, vb, t, s, op, a, b, n, bi, rfl, _⟩ := h
    rfl
  · obtain ⟨v, vb, t, st, op, a, b, n, bi, rfl, hv, ⟨lr, ld⟩, t0, ht, a0, a1, b0, b1, n0, n8, hb, k⟩ := h
    have c_set_register := c.setR
    have c_set_data := c.setD
    have c_go_to := c.goTo
    have c_take_byte := c.takeB
    have c_result_of := c.res
    obtain ⟨v1, g_REGISTERS, d1⟩ := T.c_REGISTERS
    obtain ⟨v2, g_DATA, d2⟩ := T.c_DATA
    obtain ⟨v3, g_BYTE, d3⟩ := T.c_BYTE
    obtain ⟨sa, ar, ad, rfl, hs, hr1, hd1⟩ := st_dp hv
    have L : Lens st := ⟨lr, ld⟩
    refine ⟨_, (pss_cons (ps_asg (pv 1) (pg_tup rfl (pgs_cons (pg_name (i := 3) sc_moved.nd rfl (Or.inl rfl)) (pgs_cons (pg_name (i := 4) sc_moved.nd rfl (Or.inl rfl)) (pgs_cons (pg_name (i := 5) sc_moved.nd rfl (Or.inl rfl)) (pgs_cons (pg_name (i := 6) sc_moved.nd rfl (Or.inl rfl)) pgs_nil))))))
      (pss_cons (ps_asg (pv 0) (pg_tup rfl (pgs_cons (pg_name (i := 7) sc_moved.nd rfl (Or.inl rfl)) (pgs_cons (pg_name (i := 8) sc_moved.nd rfl (Or.inl rfl)) (pgs_cons (pg_name (i := 9) sc_moved.nd rfl (Or.inl rfl)) pgs_nil)))))
      (pss_cons (ps_set (i := 10) sc_moved.nd rfl (Or.inl rfl) (pe_op op_mod (pe_op op_add (pe_ix ix_tup (pv 7) (pe_gc (by rfl) g_REGISTERS) (fun _ _ => rfl)) pe_int) (pe_gc (by rfl) g_BYTE)))
      (pss_cut (ps_par (i := 11) (j := 12) (by rfl) sc_moved.nd rfl rfl (by decide) rfl rfl (pa_cons (pe_ix ix_tup (pv 7) (pv 4) (fun _ _ => rfl)) (pa_cons (pe_ix ix_tup (pv 7) (pv 5) (fun _ _ => rfl)) pa_nil)) (by rfl))
      (pss_cons (ps_if (pt_cmpR op_eq (pv 3) pe_int (nomark _)) (pss_one (ps_ret (pe_c c_set_register hr (by omega) rfl (pa_cons (pv 0) (pa_cons (pv 4) (pa_cons (pv 6) (pa_cons (pv 10) pa_nil))))))) pss_nil)
      (pss_cons (ps_if (pt_cmpR op_eq (pv 3) pe_int (nomark _)) (pss_one (ps_ret (pe_c c_set_register hr (by omega) rfl (pa_cons (pv 0) (pa_cons (pv 4) (pa_cons (pe_c c_result_of hr (by omega) rfl (pa_cons (pv 6) (pa_cons (pv 11) (pa_cons (pv 12) pa_nil)))) (pa_cons (pv 10) pa_nil))))))) pss_nil)
      (pss_cons (ps_if (pt_cmpR op_eq (pv 3) pe_int (nomark _)) (pss_one (ps_ret (pe_c c_set_register hr (by omega) rfl (pa_cons (pv 0) (pa_cons (pv 4) (pa_cons (pe_ix ix_tup (pv 8) (pe_op op_mod (pe_op op_add (pv 12) (pv 6)) (pe_gc (by rfl) g_DATA)) (fun _ _ => rfl)) (pa_cons (pv 10) pa_nil))))))) pss_nil)
      (pss_cons (ps_if (pt_cmpR op_eq (pv 3) pe_int (nomark _)) (pss_one (ps_ret (pe_c c_set_data hr (by omega) rfl (pa_cons (pv 0) (pa_cons (pe_op op_mod (pe_op op_add (pv 12) (pv 6)) (pe_gc (by rfl) g_DATA)) (pa_cons (pv 11) (pa_cons (pv 10) pa_nil))))))) pss_nil)
      (pss_cons (ps_if (pt_cmpR op_eq (pv 3) pe_int (nomark _)) (pss_one (ps_ret (pe_c c_set_register hr (by omega) rfl (pa_cons (pv 0) (pa_cons (pv 4) (pa_cons (pe_ix ix_tup (pv 8) (pe_op op_mod (pv 6) (pe_gc (by rfl) g_DATA)) (fun _ _ => rfl)) (pa_cons (pv 10) pa_nil))))))) pss_nil)
      (pss_cons (ps_if (pt_cmpR op_eq (pv 3) pe_int (nomark _)) (pss_one (ps_ret (pe_c c_set_data hr (by omega) rfl (pa_cons (pv 0) (pa_cons (pe_op op_mod (pv 6) (pe_gc (by rfl) g_DATA)) (pa_cons (pv 11) (pa_cons (pv 10) pa_nil))))))) pss_nil)
      (pss_cons (ps_if (pt_cmpR op_eq (pv 3) pe_int (nomark _)) (pss_one (ps_ret (pe_c c_go_to hr (by omega) rfl (pa_cons (pv 0) (pa_cons (pv 6) pa_nil))))) pss_nil)
      (pss_cons (ps_if (pt_cmpR op_eq (pv 3) pe_int (nomark _)) (pss_one (ps_ret (pe_c c_go_to hr (by omega) rfl (pa_cons (pv 0) (pa_cons (pe_ifExp (pt_cmpR op_eq (pv 11) pe_int (nomark _)) (pv 6) (pv 10)) pa_nil))))) pss_nil)
      (pss_cons (ps_if (pt_cmpR op_eq (pv 3) pe_int (nomark _)) (pss_one (ps_ret (pe_c c_set_register hr (by omega) rfl (pa_cons (pv 0) (pa_cons (pv 4) (pa_cons (pv 10) (pa_cons (pv 6) pa_nil))))))) pss_nil)
      (pss_cons (ps_if (pt_cmpR op_eq (pv 3) pe_int (nomark _)) (pss_one (ps_ret (pe_c c_go_to hr (by omega) rfl (pa_cons (pv 0) (pa_cons (pv 11) pa_nil))))) pss_nil)
      (pss_cons (ps_if (pt_cmpR op_eq (pv 3) pe_int (nomark _)) (pss_one (ps_ret (pe_c c_take_byte hr (by omega) rfl (pa_cons (pv 0) (pa_cons (pv 4) (pa_cons (pv 2) (pa_cons (pv 10) pa_nil))))))) pss_nil)
      (pss_one (ps_ret (pe_c c_go_to hr (by omega) rfl (pa_cons (pv 0) (pa_cons (pv 10) pa_nil)))))))))))))))))))), ?_⟩
    cases dp_int (d1 H)
    cases dp_int (d2 H)
    cases dp_int (d3 H)
    refine ⟨_, rfl, t, _, rfl, ht, rfl, ?_⟩
    refine ⟨_, _, rfl, _, _, rfl, _, _, rfl, _, _, rfl, rfl, ?_⟩
    refine ⟨_, rfl, sa, _, rfl, hs, rfl, ?_⟩
    refine ⟨_, _, rfl, _, _, rfl, _, _, rfl, rfl, ?_⟩
    refine ⟨_, rfl, ar, _, 4, _, rfl, rfl, hr1, g_at (by decide) (by omega), _, _, rfl, rfl, _, _, rfl, rfl, (show (0 : Int) < 256 by decide), ?_⟩
    refine ⟨fun σ' H' => σ' = [some (.ref sa), some (.ref t), some vb, some (.int op), some (.int a), some (.int b), some (.int n), some (.ref ar), some (.ref ad), some (.int st.t), some (.int ((g st.r 4 + 1) % 256)), some (.int (g st.r a)), some (.int (g st.r b))] ∧ H' = H, ?_, ?_⟩
    · refine ⟨_, rfl, _, rfl, ar, _, _, _, rfl, rfl, hr1, g_at a0 (by omega), _, rfl, _, rfl, ar, _, _, _, rfl, rfl, hr1, g_at b0 (by omega), _, _, rfl, rfl, rfl⟩
    rintro σ' H' ⟨rfl, rfl⟩
    unfold mv at k
    dsimp only at k
    have hm := mod64 (g st.r b + n)
    have hm2 := mod64 n
    by_cases e0 : op = 1
    · rw [if_pos e0] at k
      refine ⟨_, rfl, rfl, _, rfl, ifT (by rw [e0]; decide) ?_⟩
      refine ⟨_, rfl, _, rfl, _, rfl, _, rfl, .ref sa, st, a, n, _, rfl, hv, L, a0, by omega, k⟩
    · rw [if_neg e0] at k
      refine ⟨_, rfl, rfl, _, rfl, ifF (decide_eq_false fun z => e0 (V.int.inj z)) ?_⟩
      by_cases e1 : op = 2
      · rw [if_pos e1] at k
        refine ⟨_, rfl, rfl, _, rfl, ifT (by rw [e1]; decide) ?_⟩
        refine ⟨_, rfl, _, rfl, _, rfl, _, rfl, _, rfl, n, g st.r a, g st.r b, rfl, n0, n8 e1, fun H2 s2 => ?_⟩
        exact ⟨_, rfl, .ref sa, st, a, _, _, rfl, dp_same s2 hv, L, a0, by omega, fun u H3 s3 d3 => k u H3 (s2.trans s3) d3⟩
      · rw [if_neg e1] at k
        refine ⟨_, rfl, rfl, _, rfl, ifF (decide_eq_false fun z => e1 (V.int.inj z)) ?_⟩
        by_cases e2 : op = 3
        · rw [if_pos e2] at k
          refine ⟨_, rfl, rfl, _, rfl, ifT (by rw [e2]; decide) ?_⟩
          exact ⟨_, rfl, _, rfl, _, rfl, _, rfl, _, rfl, _, _, rfl, rfl, _, _, rfl, rfl, (show (0 : Int) < 64 by decide), ad, _, _, _, rfl, rfl, hd1, g_at hm.1 (by omega), _, rfl, .ref sa, st, a, _, _, rfl, hv, L, a0, by omega, k⟩
        · rw [if_neg e2] at k
          refine ⟨_, rfl, rfl, _, rfl, ifF (decide_eq_false fun z => e2 (V.int.inj z)) ?_⟩
          by_cases e3 : op = 4
          · rw [if_pos e3] at k
            refine ⟨_, rfl, rfl, _, rfl, ifT (by rw [e3]; decide) ?_⟩
            exact ⟨_, rfl, _, rfl, _, rfl, _, _, rfl, rfl, _, _, rfl, rfl, (show (0 : Int) < 64 by decide), _, rfl, _, rfl, .ref sa, st, _, _, _, rfl, hv, L, hm.1, hm.2, k⟩
          · rw [if_neg e3] at k
            refine ⟨_, rfl, rfl, _, rfl, ifF (decide_eq_false fun z => e3 (V.int.inj z)) ?_⟩
            by_cases e4 : op = 5
            · rw [if_pos e4] at k
              refine ⟨_, rfl, rfl, _, rfl, ifT (by rw [e4]; decide) ?_⟩
              exact ⟨_, rfl, _, rfl, _, rfl, _, rfl, _, _, rfl, rfl, (show (0 : Int) < 64 by decide), ad, _, _, _, rfl, rfl, hd1, g_at hm2.1 (by omega), _, rfl, .ref sa, st, a, _, _, rfl, hv, L, a0, by omega, k⟩
            · rw [if_neg e4] at k
              refine ⟨_, rfl, rfl, _, rfl, ifF (decide_eq_false fun z => e4 (V.int.inj z)) ?_⟩
              by_cases e5 : op = 6
              · rw [if_pos e5] at k
                refine ⟨_, rfl, rfl, _, rfl, ifT (by rw [e5]; decide) ?_⟩
                exact ⟨_, rfl, _, rfl, _, _, rfl, rfl, (show (0 : Int) < 64 by decide), _, rfl, _, rfl, .ref sa, st, _, _, _, rfl, hv, L, hm2.1, hm2.2, k⟩
              · rw [if_neg e5] at k
                refine ⟨_, rfl, rfl, _, rfl, ifF (decide_eq_false fun z => e5 (V.int.inj z)) ?_⟩
                by_cases e6 : op = 7
                · rw [if_pos e6] at k
                  refine ⟨_, rfl, rfl, _, rfl, ifT (by rw [e6]; decide) ?_⟩
                  exact ⟨_, rfl, _, rfl, .ref sa, st, _, rfl, hv, L, k⟩
                · rw [if_neg e6] at k
                  refine ⟨_, rfl, rfl, _, rfl, ifF (decide_eq_false fun z => e6 (V.int.inj z)) ?_⟩
                  by_cases e7 : op = 8
                  · rw [if_pos e7] at k
                    refine ⟨_, rfl, rfl, _, rfl, ifT (by rw [e7]; decide) ?_⟩
                    refine ⟨_, rfl, _, rfl, rfl, _, rfl, ?_⟩
                    by_cases ez : g st.r a = 0
                    · rw [if_pos ez] at k
                      exact ifT (by rw [ez]; decide) ⟨_, rfl, .ref sa, st, _, rfl, hv, L, k⟩
                    · rw [if_neg ez] at k
                      exact ifF (decide_eq_false fun z => ez (V.int.inj z)) ⟨_, rfl, .ref sa, st, _, rfl, hv, L, k⟩
                  · rw [if_neg e7] at k
                    refine ⟨_, rfl, rfl, _, rfl, ifF (decide_eq_false fun z => e7 (V.int.inj z)) ?_⟩
                    by_cases e8 : op = 9
                    · rw [if_pos e8] at k
                      refine ⟨_, rfl, rfl, _, rfl, ifT (by rw [e8]; decide) ?_⟩
                      exact ⟨_, rfl, _, rfl, _, rfl, _, rfl, .ref sa, st, a, _, _, rfl, hv, L, a0, by omega, k⟩
                    · rw [if_neg e8] at k
                      refine ⟨_, rfl, rfl, _, rfl, ifF (decide_eq_false fun z => e8 (V.int.inj z)) ?_⟩
                      by_cases e9 : op = 10
                      · rw [if_pos e9] at k
                        refine ⟨_, rfl, rfl, _, rfl, ifT (by rw [e9]; decide) ?_⟩
                        exact ⟨_, rfl, _, rfl, .ref sa, st, _, rfl, hv, L, k⟩
                      · rw [if_neg e9] at k
                        refine ⟨_, rfl, rfl, _, rfl, ifF (decide_eq_false fun z => e9 (V.int.inj z)) ?_⟩
                        by_cases e10 : op = 12
                        · rw [if_pos e10] at k
                          refine ⟨_, rfl, rfl, _, rfl, ifT (by rw [e10]; decide) ?_⟩
                          exact ⟨_, rfl, _, rfl, _, rfl, _, rfl, .ref sa, vb, st, a, _, bi, rfl, hv, L, a0, by omega, t0, hb, k⟩
                        · rw [if_neg e10] at k
                          refine ⟨_, rfl, rfl, _, rfl, ifF (decide_eq_false fun z => e10 (V.int.inj z)) ?_⟩
                          exact ⟨_, rfl, _, rfl, .ref sa, st, _, rfl, hv, L, k⟩
def endV : Option Str → V
  | some e => .str e
  | none => .non
def spEnd (K : PySem.W.Frag) : Sp := fun vs H Q _ => ∃ (t : Addr) (op a b n : Int), vs = [.ref t] ∧ SqT K H t [.int op, .int a, .int b, .int n] ∧ 0 ≤ n ∧ Q (endV (endOf op n)) H
theorem ok_end {f : Addr} {fd : FuncData} (F : Fun K "end_of" "end_of" s_end_of f fd) (T : Txt K mg) : FnOk P w K mg base CX0 1 f fd ["fields"] (spEnd K) := by
  refine F.ok sc_end_of (fun vs H Q E h => ?_) (fun cdv A outer s H vs Q E hr h => ?_)
  · obtain ⟨t, op, a, b, n, rfl, _⟩ := h
    rfl
  · obtain ⟨t, op, a, b, n, rfl, ht, n0, k⟩ := h
    obtain ⟨v1, g_ENDS, d1⟩ := T.c_ENDS
    refine ⟨_, (pss_cons (ps_asg (pv 0) (pg_tup rfl (pgs_cons (pg_name (i := 1) sc_end_of.nd rfl (Or.inl rfl)) (pgs_cons (pg_name (i := 2) sc_end_of.nd rfl (Or.inl rfl)) (pgs_cons (pg_name (i := 2) sc_end_of.nd rfl (Or.inl rfl)) (pgs_cons (pg_name (i := 3) sc_end_of.nd rfl (Or.inl rfl)) pgs_nil))))))
      (pss_cons (ps_if (pt_cmpR op_eq (pv 1) pe_int (nomark _)) (pss_one (ps_ret (pe_ifExp (pt_cmpR op_lt (pv 3) (pe_callB call_len_seq (by rfl) T.b_len boot_len' (pa_cons (pe_gc (by rfl) g_ENDS) pa_nil)) (nomark _)) (pe_ix ix_tup (pe_gc (by rfl) g_ENDS) (pv 3) (fun _ _ => rfl)) pe_str))) pss_nil)
      (pss_cons (ps_if (PW.pt (pw_or (pt_cmpR op_gt (pv 1) pe_int (nomark _)) (pw_or1 (PW.pt (pw_and (pt_cmpR op_eq (pv 1) pe_int (nomark _)) (pw_and1 (pt_cmpR op_gt (pv 3) pe_int (nomark _)))))))) (pss_one (ps_ret pe_str)) pss_nil)
      (pss_one (ps_ret pe_non))))), ?_⟩
    obtain ⟨ea, es, rfl, hea, hes⟩ := dp_tup (d1 H)
    refine ⟨_, rfl, t, _, rfl, ht, rfl, ?_⟩
    refine ⟨_, _, rfl, _, _, rfl, _, _, rfl, _, _, rfl, rfl, ?_⟩
    have e3 : ∃ w0 w1 w2 : V, es = [w0, w1, w2] ∧ w0 = .str "done" ∧ w1 = .str "zero" ∧ w2 = .str "index" := by
      cases hes with
      | cons h0 h => cases h with
        | cons h1 h => cases h with
          | cons h2 h => cases h; exact ⟨_, _, _, rfl, dp_str h0, dp_str h1, dp_str h2⟩
    obtain ⟨_, _, _, rfl, rfl, rfl, rfl⟩ := e3
    unfold endOf at k
    by_cases e0 : op = 0
    · rw [if_pos e0] at k
      refine ⟨_, rfl, rfl, _, rfl, ifT (by rw [e0]; decide) ?_⟩
      refine ⟨_, rfl, ea, _, rfl, .inr hea, _, _, rfl, rfl, _, rfl, ?_⟩
      by_cases hn : n < 3
      · rw [if_pos hn] at k
        have at_ : atI [V.str "done", V.str "zero", V.str "index"] n = some (.str (ends.getD n.toNat "")) := by
          have : n = 0 ∨ n = 1 ∨ n = 2 := by omega
          rcases this with rfl | rfl | rfl <;> rfl
        refine ifT (decide_eq_true (show n < 3 from hn)) ⟨_, rfl, ea, _, n, _, rfl, rfl, hea, at_, k⟩
      · rw [if_neg hn] at k
        exact ifF (decide_eq_false (show ¬ n < 3 from hn)) k
    · rw [if_neg e0] at k
      refine ⟨_, rfl, rfl, _, rfl, ifF (decide_eq_false fun z => e0 (V.int.inj z)) ?_⟩
      refine ⟨_, rfl, _, _, rfl, rfl, _, rfl, ?_⟩
      by_cases e1 : 12 < op
      · rw [if_pos (.inl e1)] at k
        exact ifT (decide_eq_true e1) k
      · refine ifF (decide_eq_false e1) ⟨_, rfl, rfl, _, rfl, ?_⟩
        by_cases e2 : op = 2
        · refine ifT (by rw [e2]; decide) ⟨_, rfl, _, _, rfl, rfl, _, rfl, ?_⟩
          by_cases e4 : 8 < n
          · rw [if_pos (.inr ⟨e2, e4⟩)] at k
            exact ifT (decide_eq_true e4) k
          · rw [if_neg (fun z => z.elim e1 fun z => e4 z.2)] at k
            exact ifF (decide_eq_false e4) k
        · rw [if_neg (fun z => z.elim e1 fun z => e2 z.1)] at k
          exact ifF (decide_eq_false fun z => e2 (V.int.inj z)) k
end
end Q40



set_option pp.maxSteps 1500
namespace Q40
open PySem L2 G M40
open C8 (Cal Met Mak pe_c pe_mk pe_mt pe_mt0 pe_gc pss_cut tCut)
def isTup : PyData → Bool
  | .tuple _ => true
  | _ => false
def seqD (t : Bool) (ds : List PyData) : PyData := if t = true then .tuple ds else .list ds
theorem seqD_dp {K : PySem.W.Frag} {H : Hp} {v : V} {t : Bool} {ds : List PyData} (h : Dp K H v (seqD t ds)) : ∃ (a : Addr) (xs : List V), v = .ref a ∧ (if t = true then SqT K H a xs else SqL K H a xs) ∧ DpAll K H xs ds := by
  cases t with
  | true =>
    obtain ⟨a, xs, rfl, ha, hxs⟩ := dp_tup h
    exact ⟨a, xs, rfl, ha, hxs⟩
  | false =>
    obtain ⟨a, xs, rfl, ha, hxs⟩ := dp_lst h
    exact ⟨a, xs, rfl, ha, hxs⟩
def okS (t0 t1 : Bool) (ds : List PyData) (ns : List Int) (d2 : PyData) : Bool := t0 && t1 && (decide (ds.length = 5) && ds.all byteD && countD d2) && dataB ns
section
variable {P : Program} {w : World} {K : PySem.W.Frag} {mg : Str → Option Value} {base : Heap}
/-! ### check_state -/
def spState (K : PySem.W.Frag) (C : Addr) : Sp := fun vs H Q E => ∃ (v : V) (t0 t1 : Bool) (ds : List PyData) (ns : List Int) (d2 : PyData), vs = [v] ∧ Dp K H v (.tuple [seqD t0 ds, seqD t1 (intsD ns), d2]) ∧ (∀ d ∈ ds, flatD d = true) ∧ flatD d2 = true ∧ ds.length ≤ 1000 ∧ ns.length ≤ 1000 ∧
  (okS t0 t1 ds ns d2 = true → ∀ H', Same H H' → Q .non H') ∧ (okS t0 t1 ds ns d2 = false → RaiseF C "form" H E)
theorem ok_state {C : Addr} {f : Addr} {fd : FuncData} (F : Fun K "check_state" "check_state" s_check_state f fd) (T : Txt K mg) (c_InvalidState : Erm P w K mg base 1 "InvalidState" C "what") (c_is_byte : Cal P w K mg base 1 "is_byte" (spByte K) []) (c_is_count : Cal P w K mg base 1 "is_count" (spCount K) []) (c_check_data : CalX P w K mg base 3 "check_data" (spData K C)) :
    FnOk P w K mg base (L2.CX P w) 4 f fd ["state"] (spState K C) := by
  refine F.okX sc_check_state (fun vs H Q E h => ?_) (fun cdv A outer s H vs Q E hr h => ?_)
  · obtain ⟨v, t0, t1, ds, ns, d2, rfl, _⟩ := h
    rfl
  · obtain ⟨v, t0, t1, ds, ns, d2, rfl, hv, hf, hf2, hl, hl2, ky, kn⟩ := h
    obtain ⟨v1, g_REGISTERS, dR⟩ := T.c_REGISTERS
    obtain ⟨a, xs, rfl, ha, hxs⟩ := dp_tup hv
    cases hxs with
    | cons h0 hxs =>
      cases hxs with
      | cons h1 hxs =>
        cases hxs with
        | cons h2 hxs =>
          cases hxs
          rename_i x0 x1 x2
          refine ⟨_, (pss_cons (ps_if (PW.pt (pw_or (pt_not (pt_val (pe_callB call_isi (by rfl) T.b_isinstance boot_isinstance' (pa_cons (pv 0) (pa_cons (pe_bltn (v := .ty "tuple") (by rfl) T.b_tuple boot_tuple' rfl) pa_nil))))) (pw_or1 (pt_cmpR op_ne (pe_callB call_len_seq (by rfl) T.b_len boot_len' (pa_cons (pv 0) pa_nil)) pe_int (nomark _))))) (pss_one (ps_raise rfl (takes_of rfl rfl rfl rfl) (pmk_e c_InvalidState hr (by omega) rfl (pa_cons pe_str pa_nil)))) pss_nil)
      (pss_cons (ps_if (PW.pt (pw_or (pt_not (pt_val (pe_callB call_isi (by rfl) T.b_isinstance boot_isinstance' (pa_cons (pe_ix ix_tup (pv 0) pe_int (fun _ _ => rfl)) (pa_cons (pe_bltn (v := .ty "tuple") (by rfl) T.b_tuple boot_tuple' rfl) pa_nil))))) (pw_or1 (pt_not (pt_val (pe_callB call_isi (by rfl) T.b_isinstance boot_isinstance' (pa_cons (pe_ix ix_tup (pv 0) pe_int (fun _ _ => rfl)) (pa_cons (pe_bltn (v := .ty "tuple") (by rfl) T.b_tuple boot_tuple' rfl) pa_nil)))))))) (pss_one (ps_raise rfl (takes_of rfl rfl rfl rfl) (pmk_e c_InvalidState hr (by omega) rfl (pa_cons pe_str pa_nil)))) pss_nil)
      (pss_cons (ps_if (PW.pt (pw_or (pt_cmpR op_ne (pe_callB call_len_seq (by rfl) T.b_len boot_len' (pa_cons (pe_ix ix_tup (pv 0) pe_int (fun _ _ => rfl)) pa_nil)) (pe_op op_add (pe_gc (by rfl) g_REGISTERS) pe_int) (nomark _)) (pw_or (pt_not (pt_val (pe_callB (cr_all rfl) (by rfl) T.b_all boot_all' (pa_cons (pe_lc (own := [("value", 1)]) rfl sc_check_state.nd (pi_tup (pe_ix ix_tup (pv 0) pe_int (fun _ _ => rfl))) (blkOk_by (own := [("value", 1)]) (N := ["state", "value"]) (sc := defScope s_check_state) (by decide +kernel)) (fun _ _ _ _ _ => (pg_name (i := 1) sc_check_state.nd rfl (Or.inl rfl))) (fun _ _ _ _ _ => pts_nil) (fun _ _ _ _ _ => (pe_c c_is_byte hr (by omega) rfl (pa_cons (pv 1) pa_nil)))) pa_nil)))) (pw_or1 (pt_not (pt_val (pe_c c_is_count hr (by omega) rfl (pa_cons (pe_ix ix_tup (pv 0) pe_int (fun _ _ => rfl)) pa_nil)))))))) (pss_one (ps_raise rfl (takes_of rfl rfl rfl rfl) (pmk_e c_InvalidState hr (by omega) rfl (pa_cons pe_str pa_nil)))) pss_nil)
      (pss_one (ps_expr (pe_cx c_check_data hr (by omega) rfl (takes_of rfl rfl rfl rfl) (pa_cons (pe_ix ix_tup (pv 0) pe_int (fun _ _ => rfl)) pa_nil))))))), ?_⟩
          cases dp_int (dR H)
          refine ⟨_, rfl, _, _, _, _, _, rfl, .ty _, dp_ty hv, kitD K _ _ (by decide), _, rfl, ?_⟩
          refine iteF ?_
          refine ⟨_, rfl, a, _, rfl, .inr ha, rfl, _, rfl, ?_⟩
          refine ifF (ne_int0 rfl) ?_
          refine ⟨_, rfl, a, _, 0, _, rfl, rfl, ha, atI_nat (j := 0) rfl, _, _, _, _, _, rfl, .ty _, dp_ty h0, kitD K _ _ (by decide), _, rfl, ?_⟩
          cases t0 with
          | false =>
            refine iteT ?_
            exact ⟨_, rfl, fun d hd => (kn rfl).here (Same.refl _) hd⟩
          | true =>
            refine iteF ?_
            refine ⟨_, rfl, a, _, 1, _, rfl, rfl, ha, atI_nat (j := 1) rfl, _, _, _, _, _, rfl, .ty _, dp_ty h1, kitD K _ _ (by decide), _, rfl, ?_⟩
            cases t1 with
            | false =>
              refine iteT ?_
              exact ⟨_, rfl, fun d hd => (kn rfl).here (Same.refl _) hd⟩
            | true =>
              refine iteF ?_
              obtain ⟨b0, ys0, rfl, hb0, hys0⟩ := dp_tup h0
              obtain ⟨b1, ys1, rfl, hb1, hys1⟩ := dp_tup h1
              cases dps_ints_of hys1
              have yl := dps_len hys0
              have ok : okS true true ds ns d2 = ((decide (ds.length = 5) && ds.all byteD && countD d2) && dataB ns) := rfl
              rw [ok] at ky kn
              refine ⟨_, rfl, a, _, 0, _, rfl, rfl, ha, atI_nat (j := 0) rfl, b0, _, rfl, .inr hb0, ?_⟩
              refine ⟨_, _, rfl, rfl, rfl, _, rfl, ?_⟩
              rw [yl]
              by_cases hn : ds.length = 5
              · refine ifF (ne_int0 (by omega)) ?_
                refine ⟨_, rfl, a, _, 0, _, rfl, rfl, ha, atI_nat (j := 0) rfl, b0, rfl, ⟨_, hb0⟩, fun D hD => ?_⟩
                refine lc_dataT (K := K) (a := b0) (xs := ys0) (ds := ds) (fun _ => true) (fun d => .bool (byteD d)) hb0 hys0 hD (by omega) ?_ ?_
                · intro v d G acc R dm hv sG hG ha2 _ hyes
                  refine ⟨rfl, _, rfl, v, d, rfl, dp_same (same_new hG) hv, hf d dm, acc, upd_same, ha2, ?_⟩
                  rw [upd_app]
                  exact hyes rfl G _ (Same.refl _) hG (.bl _)
                intro G ys sG hG hys
                rw [List.filter_eq_self.mpr fun _ _ => rfl, show ds.map (fun d => PyData.bool (byteD d)) = (ds.map byteD).map PyData.bool by rw [List.map_map]; rfl] at hys
                cases dps_bl_of hys
                have sD : Same H (upd G D (.lst ((ds.map byteD).map V.bl))) := sG.trans (same_new hG)
                refine ⟨D, _, rfl, SqL.of upd_same, _, rfl, ?_⟩
                have e : ((ds.map byteD).all id) = ds.all byteD := by
                  rw [List.all_map]
                  rfl
                rw [e]
                rw [decide_eq_true hn, Bool.true_and] at ky kn
                by_cases ha3 : ds.all byteD = true
                · rw [ha3, Bool.true_and] at ky kn
                  refine ifF (by rw [ha3]; rfl) ?_
                  refine ⟨_, rfl, a, _, 2, _, rfl, rfl, Same.tup sD ha, atI_nat (j := 2) rfl, x2, d2, rfl, dp_same sD h2, hf2, ?_⟩
                  by_cases hc : countD d2 = true
                  · rw [hc, Bool.true_and] at ky kn
                    refine ⟨_, rfl, ifF (show (!countD d2) = false by rw [hc]; rfl) ?_⟩
                    refine ⟨_, rfl, a, _, 1, _, rfl, rfl, Same.tup sD ha, atI_nat (j := 1) rfl, .ref b1, ns, rfl, ⟨b1, rfl, .inr (Same.tup sD hb1)⟩, hl2, fun e H' s' => ky e _ (sD.trans s'), fun e => (kn e).later sD⟩
                  · have hc := Bool.eq_false_iff.mpr hc
                    rw [hc, Bool.false_and] at kn
                    refine ⟨_, rfl, ifT (show (!countD d2) = true by rw [hc]; rfl) ?_⟩
                    exact ⟨_, rfl, fun d hd => (kn rfl).here sD hd⟩
                · have ha3 := Bool.eq_false_iff.mpr ha3
                  rw [ha3, Bool.false_and, Bool.false_and] at kn
                  refine ifT (by rw [ha3]; rfl) ?_
                  exact ⟨_, rfl, fun d hd => (kn rfl).here sD hd⟩
              · refine ifT (ne_int (by omega)) ?_
                rw [decide_eq_false hn, Bool.false_and, Bool.false_and, Bool.false_and] at kn
                exact ⟨_, rfl, fun d hd => (kn rfl).here (Same.refl _) hd⟩
end
end Q40



set_option pp.maxSteps 1500
namespace Q40
open PySem L2 G M40
open C8 (Cal Met Mak pe_c pe_mk pe_mt pe_mt0 pe_gc pss_cut tCut)
def optI : Option Int → PyData
  | some i => .int i
  | none => .none
def onceD (ws : List Int) (s : Mc) (bi : List Int) : PyData :=
  match endAt ws s with
  | some e => .tuple [stD s, .none, .str e, rowD (g s.r 4, .non)]
  | none => .tuple [stD (nxt ws s bi).1, optI (nxt ws s bi).2.1, .none, rowD (nxt ws s bi).2.2]
theorem wordB_ok {x : Int} (h : 0 ≤ x ∧ x ≤ 65535) : wordB x = true := by
  unfold wordB
  rw [decide_eq_true h.1, decide_eq_true h.2]
  rfl
section
variable {P : Program} {w : World} {K : PySem.W.Frag} {mg : Str → Option Value} {base : Heap}
theorem nums_ix {H : Hp} {a : Addr} {ws : List Int} {i : Int} {Q : VK} (h : SqL K H a (ws.map V.int) ∨ SqT K H a (ws.map V.int)) (h0 : 0 ≤ i) (h1 : i < ws.length) (q : Q (.int (g ws i)) H) : rIx K (.ref a) (.int i) H Q := by
  rcases h with h | h
  · exact .inl ⟨a, _, i, _, rfl, rfl, h, g_at h0 h1, q⟩
  · exact .inr (.inl ⟨a, _, i, _, rfl, rfl, h, g_at h0 h1, q⟩)
/-! ### once -/
structure CalsO (P : Program) (w : World) (K : PySem.W.Frag) (mg : Str → Option Value) (base : Heap) : Prop where
  fields : CalX P w K mg base 4 "fields_of" (spFields K)
  endOf : Cal P w K mg base 1 "end_of" (spEnd K) []
  moved : Cal P w K mg base 3 "moved" (spMoved K) []
def spOnce (K : PySem.W.Frag) : Sp := fun vs H Q _ => ∃ (vw v vb : V) (ws bi : List Int) (s : Mc), vs = [vw, v, vb] ∧ Nums K H vw ws ∧ Wds ws ∧ Dp K H v (stD s) ∧ Good s ∧ Dp K H vb (.list (intsD bi)) ∧ ∀ (u : V) (H' : Hp), Same H H' → Dp K H' u (onceD ws s bi) → Q u H'
theorem ok_once {f : Addr} {fd : FuncData} (F : Fun K "once" "once" s_once f fd) (T : Txt K mg) (c : CalsO P w K mg base) :
    FnOk P w K mg base (L2.CX P w) 5 f fd ["words", "state", "bytes_in"] (spOnce K) := by
  refine F.okX sc_once (fun vs H Q E h => ?_) (fun cdv A outer s H vs Q E hr h => ?_)
  · obtain ⟨vw, v, vb, ws, bi, s, rfl, _⟩ := h
    rfl
  · obtain ⟨vw, v, vb, ws, bi, st, rfl, hw, wd, hv, hg, hb, k⟩ := h
    obtain ⟨v1, g_REGISTERS, dR⟩ := T.c_REGISTERS
    have c_fields_of := c.fields
    have c_end_of := c.endOf
    have c_moved := c.moved
    obtain ⟨sa, ar, ad, rfl, hs, hr1, hd1⟩ := st_dp hv
    obtain ⟨aw, rfl, haw⟩ := hw
    have lr := hg.lr
    refine ⟨_, (pss_cons (ps_set (i := 3) sc_once.nd rfl (Or.inl rfl) (pe_ix ix_tup (pe_ix ix_tup (pv 1) pe_int (fun _ _ => rfl)) (pe_gc (by rfl) g_REGISTERS) (fun _ _ => rfl)))
      (pss_cons (ps_set (i := 4) sc_once.nd rfl (Or.inl rfl) (pe_cx c_fields_of hr (by omega) rfl (takes_of rfl rfl rfl rfl) (pa_cons (pe_ifExp (pt_cmpR op_lt (pv 3) (pe_callB call_len_seq (by rfl) T.b_len boot_len' (pa_cons (pv 0) pa_nil)) (nomark _)) (pe_ix ix_seq (pv 0) (pv 3) (fun _ _ => rfl)) pe_int) pa_nil)))
      (pss_cons (ps_set (i := 5) sc_once.nd rfl (Or.inl rfl) (pe_c c_end_of hr (by omega) rfl (pa_cons (pv 4) pa_nil)))
      (pss_cons (ps_if (pt_cmpR op_notN (pv 5) pe_non (nomark _)) (pss_one (ps_ret (pe_tup (pa_cons (pv 1) (pa_cons pe_non (pa_cons (pv 5) (pa_cons (pe_tup (pa_cons (pv 3) (pa_cons (pe_tup pa_nil) pa_nil))) pa_nil))))))) pss_nil)
      (pss_cons (ps_asg (pe_c c_moved hr (by omega) rfl (pa_cons (pv 1) (pa_cons (pv 4) (pa_cons (pv 2) pa_nil)))) (pg_tup rfl (pgs_cons (pg_name (i := 6) sc_once.nd rfl (Or.inl rfl)) (pgs_cons (pg_name (i := 7) sc_once.nd rfl (Or.inl rfl)) pgs_nil))))
      (pss_one (ps_ret (pe_tup (pa_cons (pv 6) (pa_cons (pe_ifExp (pt_cmpR op_eq (pe_ix ix_tup (pv 4) pe_int (fun _ _ => rfl)) pe_int (nomark _)) (pe_ix ix_tup (pe_ix ix_tup (pv 1) pe_int (fun _ _ => rfl)) (pe_ix ix_tup (pv 4) pe_int (fun _ _ => rfl)) (fun _ _ => rfl)) pe_non) (pa_cons pe_non (pa_cons (pv 7) pa_nil)))))))))))), ?_⟩
    cases dp_int (dR H)
    refine ⟨_, rfl, sa, _, 0, _, rfl, rfl, hs, atI_nat (j := 0) rfl, ar, _, 4, _, rfl, rfl, hr1, g_at (by decide) (by omega), ?_⟩
    have hwd : wordB (wordAt ws st) = true := wordB_ok (word_ok wd st)
    have F := flds (word_ok wd st)
    have g0 : 0 ≤ g st.r 4 := (hg.br.g 4).1
    refine ⟨_, rfl, _, rfl, aw, _, rfl, haw, _, _, rfl, rfl, _, rfl, ?_⟩
    rw [List.length_map]
    by_cases hlt : g st.r 4 < ws.length
    · have ew : wordAt ws st = g ws (g st.r 4) := if_pos hlt
      refine ifT (decide_eq_true hlt) ⟨_, rfl, _, rfl, nums_ix haw g0 hlt ?_⟩
      refine ⟨wordAt ws st, by rw [ew], hwd, fun t H1 s1 ht => ?_⟩
      clear ew
      refine ⟨_, rfl, t, _, _, _, _, rfl, SqT.of ht, F.n.1, ?_⟩
      refine ⟨_, rfl, rfl, _, rfl, ?_⟩
      have ee : endOf (fop (wordAt ws st)) (fn (wordAt ws st)) = endAt ws st := rfl
      rw [ee]
      unfold onceD at k
      cases e : endAt ws st with
      | some z =>
        rw [e] at k
        refine ifT rfl ?_
        refine ⟨_, rfl, _, rfl, _, rfl, (show 0 ≤ sizeLine by decide), fun t1 n1 => ⟨(show 2 ≤ sizeLine by decide), fun t2 n2 => ⟨(show 4 ≤ sizeLine by decide), fun t3 n3 => ?_⟩⟩⟩
        have x1 := same_new (o := HO.tup []) n1
        have x2 := same_new (o := HO.tup [V.int (g st.r 4), V.ref t1]) n2
        have x3 := same_new (o := HO.tup [V.ref sa, .non, .str z, V.ref t2]) n3
        refine k _ _ (((s1.trans x1).trans x2).trans x3) (.tup (SqT.of upd_same) (.cons (dp_same (((s1.trans x1).trans x2).trans x3) hv) (.cons .non (.cons (.str _) (.cons (.tup (SqT.of (x3 _ _ upd_same)) (.cons (.int _) (.cons (.tup (SqT.of ((x2.trans x3) _ _ upd_same)) .nil) .nil))) .nil)))))
      | none =>
        rw [e] at k
        refine ifF rfl ?_
        have n8 : fop (wordAt ws st) = 2 → fn (wordAt ws st) ≤ 8 := fun e2 => by
          unfold endAt endOf at e
          rw [if_neg (by omega)] at e
          by_cases q : 8 < fn (wordAt ws st)
          · rw [if_pos (.inr ⟨e2, q⟩)] at e
            cases e
          · omega
        refine ⟨_, rfl, _, rfl, _, rfl, .ref sa, vb, t, st, _, _, _, _, bi, rfl, dp_same s1 hv, ⟨hg.lr, hg.ld⟩, hg.t0, SqT.of ht, F.a.1, F.a.2, F.b.1, F.b.2, F.n.1, n8, dp_same s1 hb, fun u H2 s2 d2 => ?_⟩
        obtain ⟨z, xs, rfl, hz, hxs⟩ := dp_tup d2
        cases hxs with
        | cons q1 hxs => cases hxs with
          | cons q2 hxs =>
            cases hxs
            rename_i y1 y2
            refine ⟨z, _, rfl, hz, rfl, ?_⟩
            refine ⟨_, _, rfl, _, _, rfl, rfl, ?_⟩
            have ht2 := SqT.of (K := K) (s2 _ _ ht)
            refine ⟨_, rfl, _, rfl, t, _, 0, _, rfl, rfl, ht2, atI_nat (j := 0) rfl, rfl, _, rfl, ?_⟩
            by_cases e11 : fop (wordAt ws st) = 11
            · refine ifT (by rw [e11]; decide) ?_
              refine ⟨_, rfl, sa, _, 0, _, rfl, rfl, Same.tup (s1.trans s2) hs, atI_nat (j := 0) rfl, _, rfl, t, _, 1, _, rfl, rfl, ht2, atI_nat (j := 1) rfl, ar, _, _, _, rfl, rfl, Same.tup (s1.trans s2) hr1, g_at F.a.1 (by have := F.a.2; omega), _, rfl, (show 4 ≤ sizeLine by decide), fun t3 n3 => ?_⟩
              have x3 := same_new (o := HO.tup [y1, V.int (g st.r (fa (wordAt ws st))), V.non, y2]) n3
              refine k _ _ ((s1.trans s2).trans x3) (.tup (SqT.of upd_same) (.cons (dp_same x3 q1) (.cons ?_ (.cons .non (.cons (dp_same x3 q2) .nil)))))
              unfold nxt
              dsimp only
              rw [if_pos e11]
              exact .int _
            · refine ifF (decide_eq_false fun z => e11 (V.int.inj z)) ?_
              refine ⟨_, rfl, (show 4 ≤ sizeLine by decide), fun t3 n3 => ?_⟩
              have x3 := same_new (o := HO.tup [y1, V.non, V.non, y2]) n3
              refine k _ _ ((s1.trans s2).trans x3) (.tup (SqT.of upd_same) (.cons (dp_same x3 q1) (.cons ?_ (.cons .non (.cons (dp_same x3 q2) .nil)))))
              unfold nxt
              dsimp only
              rw [if_neg e11]
              exact .non
    · have ew : wordAt ws st = 0 := if_neg hlt
      refine ifF (decide_eq_false hlt) ?_
      refine ⟨wordAt ws st, by rw [ew], hwd, fun t H1 s1 ht => ?_⟩
      clear ew
      refine ⟨_, rfl, t, _, _, _, _, rfl, SqT.of ht, F.n.1, ?_⟩
      refine ⟨_, rfl, rfl, _, rfl, ?_⟩
      have ee : endOf (fop (wordAt ws st)) (fn (wordAt ws st)) = endAt ws st := rfl
      rw [ee]
      unfold onceD at k
      cases e : endAt ws st with
      | some z =>
        rw [e] at k
        refine ifT rfl ?_
        refine ⟨_, rfl, _, rfl, _, rfl, (show 0 ≤ sizeLine by decide), fun t1 n1 => ⟨(show 2 ≤ sizeLine by decide), fun t2 n2 => ⟨(show 4 ≤ sizeLine by decide), fun t3 n3 => ?_⟩⟩⟩
        have x1 := same_new (o := HO.tup []) n1
        have x2 := same_new (o := HO.tup [V.int (g st.r 4), V.ref t1]) n2
        have x3 := same_new (o := HO.tup [V.ref sa, .non, .str z, V.ref t2]) n3
        refine k _ _ (((s1.trans x1).trans x2).trans x3) (.tup (SqT.of upd_same) (.cons (dp_same (((s1.trans x1).trans x2).trans x3) hv) (.cons .non (.cons (.str _) (.cons (.tup (SqT.of (x3 _ _ upd_same)) (.cons (.int _) (.cons (.tup (SqT.of ((x2.trans x3) _ _ upd_same)) .nil) .nil))) .nil)))))
      | none =>
        rw [e] at k
        refine ifF rfl ?_
        have n8 : fop (wordAt ws st) = 2 → fn (wordAt ws st) ≤ 8 := fun e2 => by
          unfold endAt endOf at e
          rw [if_neg (by omega)] at e
          by_cases q : 8 < fn (wordAt ws st)
          · rw [if_pos (.inr ⟨e2, q⟩)] at e
            cases e
          · omega
        refine ⟨_, rfl, _, rfl, _, rfl, .ref sa, vb, t, st, _, _, _, _, bi, rfl, dp_same s1 hv, ⟨hg.lr, hg.ld⟩, hg.t0, SqT.of ht, F.a.1, F.a.2, F.b.1, F.b.2, F.n.1, n8, dp_same s1 hb, fun u H2 s2 d2 => ?_⟩
        obtain ⟨z, xs, rfl, hz, hxs⟩ := dp_tup d2
        cases hxs with
        | cons q1 hxs => cases hxs with
          | cons q2 hxs =>
            cases hxs
            rename_i y1 y2
            refine ⟨z, _, rfl, hz, rfl, ?_⟩
            refine ⟨_, _, rfl, _, _, rfl, rfl, ?_⟩
            have ht2 := SqT.of (K := K) (s2 _ _ ht)
            refine ⟨_, rfl, _, rfl, t, _, 0, _, rfl, rfl, ht2, atI_nat (j := 0) rfl, rfl, _, rfl, ?_⟩
            by_cases e11 : fop (wordAt ws st) = 11
            · refine ifT (by rw [e11]; decide) ?_
              refine ⟨_, rfl, sa, _, 0, _, rfl, rfl, Same.tup (s1.trans s2) hs, atI_nat (j := 0) rfl, _, rfl, t, _, 1, _, rfl, rfl, ht2, atI_nat (j := 1) rfl, ar, _, _, _, rfl, rfl, Same.tup (s1.trans s2) hr1, g_at F.a.1 (by have := F.a.2; omega), _, rfl, (show 4 ≤ sizeLine by decide), fun t3 n3 => ?_⟩
              have x3 := same_new (o := HO.tup [y1, V.int (g st.r (fa (wordAt ws st))), V.non, y2]) n3
              refine k _ _ ((s1.trans s2).trans x3) (.tup (SqT.of upd_same) (.cons (dp_same x3 q1) (.cons ?_ (.cons .non (.cons (dp_same x3 q2) .nil)))))
              unfold nxt
              dsimp only
              rw [if_pos e11]
              exact .int _
            · refine ifF (decide_eq_false fun z => e11 (V.int.inj z)) ?_
              refine ⟨_, rfl, (show 4 ≤ sizeLine by decide), fun t3 n3 => ?_⟩
              have x3 := same_new (o := HO.tup [y1, V.non, V.non, y2]) n3
              refine k _ _ ((s1.trans s2).trans x3) (.tup (SqT.of upd_same) (.cons (dp_same x3 q1) (.cons ?_ (.cons .non (.cons (dp_same x3 q2) .nil)))))
              unfold nxt
              dsimp only
              rw [if_neg e11]
              exact .non
end
end Q40



set_option pp.maxSteps 1500
namespace Q40
open PySem L2 G M40
open C8 (Cal Met Mak pe_c pe_mk pe_mt pe_mt0 pe_gc pss_cut tCut)
theorem wordsB_ok {ws : List Int} (h : wordsB ws = true) : ws.length ≤ 256 ∧ Wds ws := by
  unfold wordsB at h
  simp only [Bool.and_eq_true, decide_eq_true_eq] at h
  refine ⟨h.1, fun x hx => ?_⟩
  have := List.all_eq_true.mp h.2 x hx
  unfold wordB at this
  simpa using this
theorem all_byte {xs : List Int} (h : Bytes xs) : (intsD xs).all byteD = true := by
  unfold intsD
  rw [List.all_map, List.all_eq_true]
  intro x hx
  have := h x hx
  show (decide (0 ≤ x) && decide (x < 256)) = true
  rw [decide_eq_true this.1, decide_eq_true this.2]
  rfl
theorem good_okS {s : Mc} (h : Good s) : okS true true (intsD s.r) s.d (.int s.t) = true := by
  unfold okS
  rw [all_byte h.br, ints_len, decide_eq_true h.lr, show countD (.int s.t) = decide (0 ≤ s.t) from rfl, decide_eq_true h.t0]
  show dataB s.d = true
  unfold dataB
  rw [decide_eq_true h.ld, Bool.true_and, List.all_eq_true]
  intro x hx
  have := h.bd x hx
  rw [decide_eq_true this.1, decide_eq_true this.2]
  rfl
theorem flat_ints {xs : List Int} : ∀ d ∈ intsD xs, flatD d = true := fun d hd => by
  obtain ⟨x, _, rfl⟩ := List.mem_map.mp hd
  rfl
theorem noL_ints (xs : List Int) : noLs (intsD xs) = true := noLs_map fun _ _ => rfl
theorem noL_st (s : Mc) : noL (stD s) = true := by
  unfold stD
  simp [noL, noLs, noL_ints]
theorem noL_row (r : Row) : noL (rowD r) = true := by
  obtain ⟨i, w⟩ := r
  cases w <;> rfl
theorem noL_rows (l : List Row) : noLs (l.map rowD) = true := noLs_map fun r _ => noL_row r
def runD (r : Res) : PyData := .tuple [.list (intsD r.out), .str r.fin, stD r.st, .list (r.tr.map rowD)]
theorem run_len {ws bi : List Int} : ∀ (k : Nat) (s : Mc), (M40.run ws bi k s).out.length ≤ k ∧ (M40.run ws bi k s).tr.length ≤ k
  | 0, _ => ⟨Nat.le_refl _, Nat.le_refl _⟩
  | k + 1, s => by
    unfold M40.run
    cases endAt ws s with
    | some z => exact ⟨Nat.zero_le _, by simp⟩
    | none =>
      have := run_len (ws := ws) (bi := bi) k (nxt ws s bi).1
      dsimp only
      refine ⟨?_, by simp only [List.length_cons]; omega⟩
      rw [List.length_append]
      have : (nxt ws s bi).2.1.toList.length ≤ 1 := by cases (nxt ws s bi).2.1 <;> simp
      omega
theorem run_step {ws bi : List Int} {i : Nat} {s : Mc} (h : (M40.run ws bi i s).fin = "cut") (e : endAt ws (M40.run ws bi i s).st = none) : M40.run ws bi (i + 1) s = ⟨(M40.run ws bi i s).out ++ (nxt ws (M40.run ws bi i s).st bi).2.1.toList, "cut", (nxt ws (M40.run ws bi i s).st bi).1, (M40.run ws bi i s).tr ++ [(nxt ws (M40.run ws bi i s).st bi).2.2]⟩ := by
  have q : M40.run ws bi 1 (M40.run ws bi i s).st = ⟨(nxt ws (M40.run ws bi i s).st bi).2.1.toList ++ [], "cut", (nxt ws (M40.run ws bi i s).st bi).1, [(nxt ws (M40.run ws bi i s).st bi).2.2]⟩ := by
    conv => lhs; unfold M40.run
    rw [e]
    rfl
  rw [run_cut i 1 s h, q, List.append_nil]
theorem run_stop {ws bi : List Int} {i k : Nat} {s : Mc} {z : Str} (h : (M40.run ws bi i s).fin = "cut") (e : endAt ws (M40.run ws bi i s).st = some z) : M40.run ws bi (i + (k + 1)) s = ⟨(M40.run ws bi i s).out, z, (M40.run ws bi i s).st, (M40.run ws bi i s).tr ++ [(g (M40.run ws bi i s).st.r 4, .non)]⟩ := by
  have q : M40.run ws bi (k + 1) (M40.run ws bi i s).st = ⟨[], z, (M40.run ws bi i s).st, [(g (M40.run ws bi i s).st.r 4, .non)]⟩ := by
    conv => lhs; unfold M40.run
    rw [e]
  rw [run_cut i (k + 1) s h, q, List.append_nil]
section
variable {P : Program} {w : World} {K : PySem.W.Frag} {mg : Str → Option Value} {base : Heap}
theorem dps4 {H : Hp} {vs : List V} {a b c d : PyData} (h : DpAll K H vs [a, b, c, d]) : ∃ y1 y2 y3 y4, vs = [y1, y2, y3, y4] ∧ Dp K H y1 a ∧ Dp K H y2 b ∧ Dp K H y3 c ∧ Dp K H y4 d := by
  cases h with
  | cons h1 h => cases h with
    | cons h2 h => cases h with
      | cons h3 h => cases h with
        | cons h4 h =>
          cases h
          exact ⟨_, _, _, _, rfl, h1, h2, h3, h4⟩
/-! ### after, run_words -/
structure CalsR (P : Program) (w : World) (K : PySem.W.Frag) (mg : Str → Option Value) (base : Heap) (CS CC : Addr) : Prop where
  words : CalX P w K mg base 3 "check_words" (spWords K CC)
  state : CalX P w K mg base 4 "check_state" (spState K CS)
  once : CalX P w K mg base 5 "once" (spOnce K)
def spAfter (K : PySem.W.Frag) : Sp := fun vs H Q _ => ∃ (vw v vb : V) (ws bi : List Int) (s : Mc), vs = [vw, v, vb] ∧ Nums K H vw ws ∧ wordsB ws = true ∧ Dp K H v (stD s) ∧ Good s ∧ Dp K H vb (.list (intsD bi)) ∧ ∀ (u : V) (H' : Hp), Same H H' → Dp K H' u (onceD ws s bi) → Q u H'
theorem ok_after {CS CC : Addr} {f : Addr} {fd : FuncData} (F : Fun K "after" "after" s_after f fd) (T : Txt K mg) (c : CalsR P w K mg base CS CC) :
    FnOk P w K mg base (L2.CX P w) 6 f fd ["words", "state", "bytes_in"] (spAfter K) := by
  refine F.okX sc_after (fun vs H Q E h => ?_) (fun cdv A outer s H vs Q E hr h => ?_)
  · obtain ⟨vw, v, vb, ws, bi, s, rfl, _⟩ := h
    rfl
  · obtain ⟨vw, v, vb, ws, bi, st, rfl, hw, wb, hv, hg, hb, k⟩ := h
    have c_check_words := c.words
    have c_check_state := c.state
    have c_once := c.once
    obtain ⟨wl, wd⟩ := wordsB_ok wb
    have ok := good_okS hg
    refine ⟨_, (pss_cons (ps_expr (pe_cx c_check_words hr (by omega) rfl (takes_of rfl rfl rfl rfl) (pa_cons (pv 0) pa_nil)))
      (pss_cons (ps_expr (pe_cx c_check_state hr (by omega) rfl (takes_of rfl rfl rfl rfl) (pa_cons (pv 1) pa_nil)))
      (pss_one (ps_ret (pe_cx c_once hr (by omega) rfl (takes_of rfl rfl rfl rfl) (pa_cons (pv 0) (pa_cons (pv 1) (pa_cons (pv 2) pa_nil)))))))), ?_⟩
    refine ⟨_, rfl, vw, ws, rfl, hw, by omega, fun _ H1 s1 => ?_, fun e => absurd wb (by rw [e]; decide)⟩
    refine ⟨_, rfl, v, true, true, intsD st.r, st.d, .int st.t, rfl, dp_same s1 hv, flat_ints, rfl, by rw [ints_len, hg.lr]; decide, by rw [hg.ld]; decide, fun _ H2 s2 => ?_, fun e => absurd ok (by rw [e]; decide)⟩
    refine ⟨_, rfl, _, rfl, _, rfl, vw, v, vb, ws, bi, st, rfl, hw.same (s1.trans s2), wd, dp_same (s1.trans s2) hv, hg, dp_same (s1.trans s2) hb, fun u H3 s3 d3 => k u H3 ((s1.trans s2).trans s3) d3⟩
/-- the result of a run: its lists are new -/
def KRun (K : PySem.W.Frag) (H : Hp) (r : Res) (Q : VK) : Prop := ∀ (u ao at_ : Addr) (vs : V) (xt : List V) (H' : Hp), Same H H' → H ao = none → H at_ = none → ao ≠ at_ → SqT K H' u [.ref ao, .str r.fin, vs, .ref at_] → H' ao = some (.lst (r.out.map V.int)) → H' at_ = some (.lst xt) → DpAll K H' xt (r.tr.map rowD) → Dp K H' vs (stD r.st) → Q (.ref u) H'
def spRun (K : PySem.W.Frag) (CS CC : Addr) : Sp := fun vs H Q E => ∃ (vw v vb : V) (ws : List Int) (most : Int), vs = [vw, v, vb, .int most] ∧ Nums K H vw ws ∧ ws.length ≤ 1000 ∧
  ((wordsB ws = false ∧ RaiseF CC "words" H E) ∨
  (wordsB ws = true ∧ (∃ (t0 t1 : Bool) (ds : List PyData) (ns : List Int) (d2 : PyData), Dp K H v (.tuple [seqD t0 ds, seqD t1 (intsD ns), d2]) ∧ (∀ d ∈ ds, flatD d = true) ∧ flatD d2 = true ∧ ds.length ≤ 1000 ∧ ns.length ≤ 1000 ∧ okS t0 t1 ds ns d2 = false) ∧ RaiseF CS "form" H E) ∨
  (wordsB ws = true ∧ ∃ (s : Mc) (bi : List Int), Dp K H v (stD s) ∧ Good s ∧ Bytes bi ∧ Dp K H vb (.list (intsD bi)) ∧ 0 ≤ most ∧ most ≤ 1000 ∧ KRun K H (run ws bi most.toNat s) Q))
theorem ok_run {CS CC : Addr} {f : Addr} {fd : FuncData} (F : Fun K "run_words" "run_words" s_run_words f fd) (T : Txt K mg) (c : CalsR P w K mg base CS CC) :
    FnOk P w K mg base (L2.CX P w) 6 f fd ["words", "state", "bytes_in", "most"] (spRun K CS CC) := by
  refine F.okX sc_run_words (fun vs H Q E h => ?_) (fun cdv A outer s H vs Q E hr h => ?_)
  · obtain ⟨vw, v, vb, ws, most, rfl, _⟩ := h
    rfl
  · obtain ⟨vw, v, vb, ws, most, rfl, hw, hwl, h⟩ := h
    have c_check_words := c.words
    have c_check_state := c.state
    have c_once := c.once
    refine ⟨_, (pss_cons (ps_expr (pe_cx c_check_words hr (by omega) rfl (takes_of rfl rfl rfl rfl) (pa_cons (pv 0) pa_nil)))
      (pss_cons (ps_expr (pe_cx c_check_state hr (by omega) rfl (takes_of rfl rfl rfl rfl) (pa_cons (pv 1) pa_nil)))
      (pss_cons (ps_set (i := 4) sc_run_words.nd rfl (Or.inl rfl) (pv 1))
      (pss_cons (ps_set (i := 5) sc_run_words.nd rfl (Or.inl rfl) (pe_lst pa_nil))
      (pss_cons (ps_set (i := 6) sc_run_words.nd rfl (Or.inl rfl) (pe_lst pa_nil))
      (pss_cons (ps_for (passes_of rfl) rfl (pi_range1 (by rfl) T.b_range (pa_cons (pv 3) pa_nil)) (pg_name (i := 7) sc_run_words.nd rfl (Or.inl rfl)) (pss_cons (ps_asg (pe_cx c_once hr (by omega) rfl (takes_of rfl rfl rfl rfl) (pa_cons (pv 0) (pa_cons (pv 4) (pa_cons (pv 2) pa_nil)))) (pg_tup rfl (pgs_cons (pg_name (i := 4) sc_run_words.nd rfl (Or.inl rfl)) (pgs_cons (pg_name (i := 8) sc_run_words.nd rfl (Or.inl rfl)) (pgs_cons (pg_name (i := 9) sc_run_words.nd rfl (Or.inl rfl)) (pgs_cons (pg_name (i := 10) sc_run_words.nd rfl (Or.inl rfl)) pgs_nil))))))
      (pss_cons (ps_expr (pe_bm PySem.F.plainAttrs_list PySem.F.slot_list_append PySem.F.type_list_append mt_append (pv 6) (pa_cons (pv 10) pa_nil)))
      (pss_cut (ps_if (pt_cmpR op_notN (pv 8) pe_non (nomark _)) (pss_one (ps_expr (pe_bm PySem.F.plainAttrs_list PySem.F.slot_list_append PySem.F.type_list_append mt_append (pv 5) (pa_cons (pv 8) pa_nil)))) pss_nil)
      (pss_one (ps_if (pt_cmpR op_notN (pv 9) pe_non (nomark _)) (pss_one (ps_ret (pe_tup (pa_cons (pv 5) (pa_cons (pv 9) (pa_cons (pv 4) (pa_cons (pv 6) pa_nil))))))) pss_nil))))))
      (pss_one (ps_ret (pe_tup (pa_cons (pv 5) (pa_cons pe_str (pa_cons (pv 4) (pa_cons (pv 6) pa_nil))))))))))))), ?_⟩
    rcases h with ⟨wb, kr⟩ | ⟨wb, ⟨t0, t1, ds, ns, d2, hd, hf, hf2, hl, hl2, hk⟩, kr⟩ | ⟨wb, st, bi, hv, hg, hbb, hb, m0, m1, k⟩
    · exact ⟨_, rfl, vw, ws, rfl, hw, hwl, (fun e => absurd wb (by rw [e]; decide)), fun _ => kr⟩
    · refine ⟨_, rfl, vw, ws, rfl, hw, hwl, (fun _ H1 s1 => ?_), fun e => absurd wb (by rw [e]; decide)⟩
      exact ⟨_, rfl, v, t0, t1, ds, ns, d2, rfl, dp_same s1 hd, hf, hf2, hl, hl2, (fun e => absurd hk (by rw [e]; decide)), fun _ => RaiseF.later s1 kr⟩
    · obtain ⟨wl, wd⟩ := wordsB_ok wb
      have ok := good_okS hg
      refine ⟨_, rfl, vw, ws, rfl, hw, by omega, (fun _ H1 s1 => ?_), fun e => absurd wb (by rw [e]; decide)⟩
      refine ⟨_, rfl, v, true, true, intsD st.r, st.d, .int st.t, rfl, dp_same s1 hv, flat_ints, rfl, by rw [ints_len, hg.lr]; decide, by rw [hg.ld]; decide, fun _ H2 s2 => ?_, fun e => absurd ok (by rw [e]; decide)⟩
      refine ⟨_, rfl, Nat.zero_le _, fun p np => ⟨Nat.zero_le _, fun q nq => ?_⟩⟩
      have s12 := s1.trans s2
      have xp := same_new (o := HO.lst []) np
      have xq := same_new (o := HO.lst []) nq
      have npq : p ≠ q := fun z => by rw [z, upd_same] at nq; cases nq
      have hp0 : H p = none := none_of_same s12 np
      have hq0 : H q = none := none_of_same (s12.trans xp) nq
      obtain ⟨n, rfl⟩ := Int.eq_ofNat_of_zero_le m0
      rw [Int.toNat_natCast] at k
      refine ⟨_, rfl, n, rfl, by omega, by omega, for_range (lo := 0) (n := ((n : Nat) : Int).toNat) (fun i σ H' => ∃ (vh : V) (xt : List V) (o7 o8 o9 o10 : Option V), σ = [some vw, some v, some vb, some (.int n), some vh, some (.ref p), some (.ref q), o7, o8, o9, o10] ∧ Same H H' ∧ H' p = some (.lst ((run ws bi i st).out.map V.int)) ∧ H' q = some (.lst xt) ∧ DpAll K H' xt ((run ws bi i st).tr.map rowD) ∧ Dp K H' vh (stD (run ws bi i st).st) ∧ (run ws bi i st).fin = "cut")
        ⟨v, [], none, none, none, none, rfl, (s12.trans xp).trans xq, xq _ _ upd_same, upd_same, .nil, dp_same ((s12.trans xp).trans xq) hv, rfl⟩ ?_ ?_⟩
      · rintro i σ H' hi ⟨vh, xt, o7, o8, o9, o10, rfl, sH, hp, hq, hxt, hvh, hcut⟩
        have hin : i < n := by omega
        have gi := run_good wd hbb i hg
        have li := run_len (ws := ws) (bi := bi) i st
        refine ⟨_, rfl, _, rfl, _, rfl, vw, vh, vb, ws, bi, (M40.run ws bi i st).st, rfl, hw.same sH, wd, hvh, gi, dp_same sH hb, fun u H3 s3 d3 => ?_⟩
        unfold onceD at d3
        have trl : xt.length = (M40.run ws bi i st).tr.length := by rw [dps_len hxt, List.length_map]
        have p3 := s3 _ _ hp
        have q3 := s3 _ _ hq
        cases e : endAt ws (M40.run ws bi i st).st with
        | some z =>
          rw [e] at d3
          obtain ⟨u1, xs, rfl, hu, hxs⟩ := dp_tup d3
          obtain ⟨y1, y2, y3, y4, rfl, d1, d2, d3', d4⟩ := dps4 hxs
          cases dp_non d2
          cases dp_str d3'
          refine ⟨u1, _, rfl, hu, rfl, ?_⟩
          refine ⟨_, _, rfl, _, _, rfl, _, _, rfl, _, _, rfl, rfl, ?_⟩
          refine ⟨_, rfl, .inl ⟨rfl, _, SqL.of q3⟩, _, rfl, _, _, _, rfl, rfl, q3, size_lt (by omega), ?_⟩
          have k4 : KeepT H3 (upd H3 q (.lst (xt ++ [y4]))) := KeepT.mut (H := H3) q3
          have p4 : upd H3 q (.lst (xt ++ [y4])) p = some (.lst ((M40.run ws bi i st).out.map V.int)) := by rw [upd_ne npq]; exact p3
          refine ⟨fun σ' H' => σ' = [some vw, some v, some vb, some (.int n), some y1, some (.ref p), some (.ref q), some (.int (0 + (i : Int))), some .non, some (.str z), some y4] ∧ H' = upd H3 q (.lst (xt ++ [y4])), ?_, ?_⟩
          · refine ⟨_, rfl, rfl, _, rfl, ifF rfl ⟨rfl, rfl⟩⟩
          · rintro σ' H' ⟨rfl, rfl⟩
            refine ⟨_, rfl, rfl, _, rfl, ifT rfl ⟨_, rfl, _, rfl, _, rfl, _, rfl, (show 4 ≤ sizeLine by decide), fun t5 n5 => ?_⟩⟩
            obtain ⟨kk, rfl⟩ : ∃ kk, n = i + (kk + 1) := ⟨n - i - 1, by omega⟩
            rw [run_stop hcut e] at k
            have x5 := same_new (o := HO.tup [V.ref p, V.str z, y1, V.ref q]) n5
            exact k _ p q _ _ _ ((same_mut (sH.trans s3) hq0).trans x5) hp0 hq0 npq (SqT.of upd_same) (x5 _ _ p4) (x5 _ _ upd_same) (dps_same x5 (by
              rw [List.map_append]
              exact dps_snoc (dps_keep k4 (noL_rows _) (dps_same s3 hxt)) (dp_keep k4 (noL_row _) d4))) (dp_same x5 (dp_keep k4 (noL_st _) d1))
        | none =>
          rw [e] at d3
          obtain ⟨u1, xs, rfl, hu, hxs⟩ := dp_tup d3
          obtain ⟨y1, y2, y3, y4, rfl, d1, d2, d3', d4⟩ := dps4 hxs
          cases dp_non d3'
          refine ⟨u1, _, rfl, hu, rfl, ?_⟩
          refine ⟨_, _, rfl, _, _, rfl, _, _, rfl, _, _, rfl, rfl, ?_⟩
          refine ⟨_, rfl, .inl ⟨rfl, _, SqL.of q3⟩, _, rfl, _, _, _, rfl, rfl, q3, size_lt (by omega), ?_⟩
          have k4 : KeepT H3 (upd H3 q (.lst (xt ++ [y4]))) := KeepT.mut (H := H3) q3
          have p4 : upd H3 q (.lst (xt ++ [y4])) p = some (.lst ((M40.run ws bi i st).out.map V.int)) := by rw [upd_ne npq]; exact p3
          have es := run_step hcut e
          refine ⟨fun σ' H' => ∃ bv, σ' = [some vw, some v, some vb, some (.int n), some y1, some (.ref p), some (.ref q), some (.int (0 + (i : Int))), some bv, some .non, some y4] ∧ Same H H' ∧ KeepT H3 H' ∧ H' q = some (.lst (xt ++ [y4])) ∧ H' p = some (.lst ((M40.run ws bi (i + 1) st).out.map V.int)), ?_, ?_⟩
          · have sH4 : Same H (upd H3 q (.lst (xt ++ [y4]))) := same_mut (sH.trans s3) hq0
            cases eb : (nxt ws (M40.run ws bi i st).st bi).2.1 with
            | none =>
              rw [eb] at d2 es
              cases dp_non d2
              refine ⟨_, rfl, rfl, _, rfl, ifF rfl ⟨_, rfl, sH4, k4, upd_same, ?_⟩⟩
              rw [es]
              show _ = some (HO.lst (((M40.run ws bi i st).out ++ []).map V.int))
              rw [List.append_nil]
              exact p4
            | some b =>
              rw [eb] at d2 es
              cases dp_int d2
              refine ⟨_, rfl, rfl, _, rfl, ifT rfl ⟨_, rfl, .inl ⟨rfl, _, SqL.of p4⟩, _, rfl, _, _, _, rfl, rfl, p4, size_lt (by rw [List.length_map]; omega), ?_⟩⟩
              refine ⟨_, rfl, same_mut sH4 hp0, k4.trans (KeepT.mut (H := H3) p4), by rw [upd_ne (Ne.symm npq)]; exact upd_same, ?_⟩
              rw [es, upd_same]
              show _ = some (HO.lst (((M40.run ws bi i st).out ++ [b]).map V.int))
              rw [List.map_append]
              rfl
          · rintro σ' H' ⟨bv, rfl, s5, k5, q5, p5⟩
            refine ⟨_, rfl, rfl, _, rfl, ifF rfl ⟨_, _, _, _, _, _, rfl, s5, p5, q5, ?_, ?_, ?_⟩⟩
            · rw [es]
              show DpAll K H' (xt ++ [y4]) (((M40.run ws bi i st).tr ++ [_]).map rowD)
              rw [List.map_append]
              exact dps_snoc (dps_keep k5 (noL_rows _) (dps_same s3 hxt)) (dp_keep k5 (noL_row _) d4)
            · rw [es]
              exact dp_keep k5 (noL_st _) d1
            · rw [es]
      · rintro σ H' ⟨vh, xt, o7, o8, o9, o10, rfl, sH, hp, hq, hxt, hvh, hcut⟩
        rw [Int.toNat_natCast] at hp hxt hvh hcut
        refine ⟨_, rfl, _, rfl, _, rfl, (show 4 ≤ sizeLine by decide), fun t5 n5 => ?_⟩
        have x5 := same_new (o := HO.tup [V.ref p, V.str "cut", vh, V.ref q]) n5
        exact k _ p q _ _ _ (sH.trans x5) hp0 hq0 npq (by rw [hcut]; exact SqT.of upd_same) (x5 _ _ hp) (x5 _ _ hq) (dps_same x5 hxt) (dp_same x5 hvh)
end
end Q40



set_option pp.maxSteps 1500
namespace Q40
open PySem L2 G M40
open C8 (Cal Met Mak pe_c pe_mk pe_mt pe_mt0 pe_gc pss_cut tCut)
section
variable {P : Program} {w : World} {K : PySem.W.Frag} {mg : Str → Option Value} {base : Heap}
theorem byteI {x : Int} (h : Byte x) : byteD (.int x) = true := by
  show (decide (0 ≤ x) && decide (x < 256)) = true
  rw [decide_eq_true h.1, decide_eq_true h.2]
  rfl
/-! ### check_row -/
def RowOk (r : Row) : Prop := Byte r.1 ∧ match r.2 with
  | .non => True
  | .reg a o => 0 ≤ a ∧ a < 4 ∧ Byte o
  | .byt a o => 0 ≤ a ∧ a < 64 ∧ Byte o
  | .inp a o t => 0 ≤ a ∧ a < 4 ∧ Byte o ∧ 0 ≤ t
def badRows : List PyData := [.tuple [.int 5], .tuple [.int 256, .tuple []], .tuple [.int 0, .tuple [.str "r", .int 4, .int 1]], .tuple [.int 0, .tuple [.str "b", .int 64, .int 1]], .tuple [.int 0, .tuple [.str "x", .int 1, .int 1]], .tuple [.int 0, .tuple [.str "r", .int 1]], .tuple [.int 0, .tuple [.str "in", .int 1, .int 5, .int (-1)]], .tuple [.int 0, .tuple [.str "r", .int 0, .int 256]]]
def spRow (K : PySem.W.Frag) (C : Addr) : Sp := fun vs H Q E => ∃ v : V, vs = [v] ∧ ((∃ r, Dp K H v (rowD r) ∧ RowOk r ∧ ∀ H', Same H H' → Q .non H') ∨ (∃ d ∈ badRows, Dp K H v d ∧ RaiseF C "trace" H E))
theorem ok_row {C : Addr} {f : Addr} {fd : FuncData} (F : Fun K "check_row" "check_row" s_check_row f fd) (T : Txt K mg) (c_InvalidState : Erm P w K mg base 1 "InvalidState" C "what") (c_is_byte : Cal P w K mg base 1 "is_byte" (spByte K) []) (c_is_count : Cal P w K mg base 1 "is_count" (spCount K) []) :
    FnOk P w K mg base (L2.CX P w) 4 f fd ["row"] (spRow K C) := by
  refine F.okX sc_check_row (fun vs H Q E h => ?_) (fun cdv A outer s H vs Q E hr h => ?_)
  · obtain ⟨v, rfl, _⟩ := h
    rfl
  · obtain ⟨v, rfl, h⟩ := h
    obtain ⟨v1, g_REGISTERS, dR⟩ := T.c_REGISTERS
    obtain ⟨v2, g_DATA, dD⟩ := T.c_DATA
    have hu65 := hu65_of hr
    refine ⟨_, (pss_cons (ps_set (i := 1) sc_check_row.nd rfl (Or.inl rfl) (pe_and (pe_callB call_isi (by rfl) T.b_isinstance boot_isinstance' (pa_cons (pv 0) (pa_cons (pe_bltn (v := .ty "tuple") (by rfl) T.b_tuple boot_tuple' rfl) pa_nil))) (pe_and (pe_cmpR op_eq (pe_callB call_len_seq (by rfl) T.b_len boot_len' (pa_cons (pv 0) pa_nil)) pe_int (nomark _)) (pe_one (pe_c c_is_byte hr (by omega) rfl (pa_cons (pe_ix ix_tup (pv 0) pe_int (fun _ _ => rfl)) pa_nil))))))
      (pss_cons (ps_set (i := 1) sc_check_row.nd rfl (Or.inl rfl) (pe_and (pv 1) (pe_and (pe_callB call_isi (by rfl) T.b_isinstance boot_isinstance' (pa_cons (pe_ix ix_tup (pv 0) pe_int (fun _ _ => rfl)) (pa_cons (pe_bltn (v := .ty "tuple") (by rfl) T.b_tuple boot_tuple' rfl) pa_nil))) (pe_one (pe_cmpR (op_inT hu65) (pe_callB call_len_seq (by rfl) T.b_len boot_len' (pa_cons (pe_ix ix_tup (pv 0) pe_int (fun _ _ => rfl)) pa_nil)) (pe_tup (pa_cons pe_int (pa_cons pe_int (pa_cons pe_int pa_nil)))) rfl)))))
      (pss_cut (ps_if (PW.pt (pw_and (pt_val (pv 1)) (pw_and1 (pt_cmpR op_gt (pe_callB call_len_seq (by rfl) T.b_len boot_len' (pa_cons (pe_ix ix_tup (pv 0) pe_int (fun _ _ => rfl)) pa_nil)) pe_int (nomark _))))) (pss_cons (ps_set (i := 2) sc_check_row.nd rfl (Or.inl rfl) (pe_ix ix_tup (pv 0) pe_int (fun _ _ => rfl)))
      (pss_cons (ps_set (i := 3) sc_check_row.nd rfl (Or.inl rfl) (pe_ifExp (pt_cmpR op_eq (pe_ix ix_tup (pv 2) pe_int (fun _ _ => rfl)) pe_str (nomark _)) (pe_gc (by rfl) g_DATA) (pe_gc (by rfl) g_REGISTERS)))
      (pss_cons (ps_set (i := 1) sc_check_row.nd rfl (Or.inl rfl) (pe_and (pe_cmpR (op_inT hu65) (pe_ix ix_tup (pv 2) pe_int (fun _ _ => rfl)) (pe_tup (pa_cons pe_str (pa_cons pe_str (pa_cons pe_str pa_nil)))) rfl) (pe_one (pe_cmpR op_eq (pe_callB call_len_seq (by rfl) T.b_len boot_len' (pa_cons (pv 2) pa_nil)) (pe_op op_add pe_int (pe_callTy call_int1 (by rfl) T.b_int boot_int' (pa_cons (pe_cmpR op_eq (pe_ix ix_tup (pv 2) pe_int (fun _ _ => rfl)) pe_str (nomark _)) pa_nil))) (nomark _)))))
      (pss_cons (ps_set (i := 1) sc_check_row.nd rfl (Or.inl rfl) (pe_and (pv 1) (pe_and (pe_c c_is_count hr (by omega) rfl (pa_cons (pe_ix ix_tup (pv 2) pe_int (fun _ _ => rfl)) pa_nil)) (pe_and (pe_cmpR op_lt (pe_ix ix_tup (pv 2) pe_int (fun _ _ => rfl)) (pv 3) (nomark _)) (pe_one (pe_c c_is_byte hr (by omega) rfl (pa_cons (pe_ix ix_tup (pv 2) pe_int (fun _ _ => rfl)) pa_nil)))))))
      (pss_one (ps_set (i := 1) sc_check_row.nd rfl (Or.inl rfl) (pe_and (pv 1) (pe_one (pe_or (pe_cmpR op_eq (pe_callB call_len_seq (by rfl) T.b_len boot_len' (pa_cons (pv 2) pa_nil)) pe_int (nomark _)) (pe_one (pe_c c_is_count hr (by omega) rfl (pa_cons (pe_ix ix_tup (pv 2) pe_int (fun _ _ => rfl)) pa_nil)))))))))))) pss_nil)
      (pss_one (ps_if (pt_not (pt_val (pv 1))) (pss_one (ps_raise rfl (takes_of rfl rfl rfl rfl) (pmk_e c_InvalidState hr (by omega) rfl (pa_cons pe_str pa_nil)))) pss_nil))))), ?_⟩
    cases dp_int (dR H)
    cases dp_int (dD H)
    rcases h with ⟨⟨at_, wh⟩, hd, ⟨hb, hw⟩, k⟩ | ⟨d, hm, hd, k⟩
    · obtain ⟨a, xs, rfl, ha, hxs⟩ := dp_tup hd
      cases hxs with
      | cons h0 hxs => cases hxs with
        | cons h1 hxs =>
          cases hxs
          cases dp_int h0
          rename_i x1
          refine ⟨_, rfl, _, _, _, _, _, rfl, .ty _, dp_ty hd, kitD K _ _ (by decide), ?_⟩
          refine ⟨_, rfl, ifT rfl ⟨_, rfl, a, _, rfl, .inr ha, rfl, _, rfl, ifT rfl ⟨_, rfl, a, _, 0, _, rfl, rfl, ha, atI_nat (j := 0) rfl, .int at_, .int at_, rfl, .int _, rfl, ?_⟩⟩⟩
          have eb := byteI hb
          cases wh with
          | non =>
            obtain ⟨b, ys, rfl, hb1, hys⟩ := dp_tup h1
            cases hys
            rw [eb]
            refine ⟨_, rfl, _, rfl, ifT rfl ⟨_, rfl, a, _, 1, _, rfl, rfl, ha, atI_nat (j := 1) rfl, _, _, _, _, _, rfl, .ty _, dp_ty h1, kitD K _ _ (by decide), _, rfl, ifT rfl ⟨_, rfl, a, _, 1, _, rfl, rfl, ha, atI_nat (j := 1) rfl, b, _, rfl, .inr hb1, (show 3 ≤ sizeLine by decide), fun p1 n1 => ?_⟩⟩⟩
            have x1 := same_new (o := HO.tup [V.int 0, V.int 3, V.int 4]) n1
            refine ⟨.int 0, [.int 0, .int 3, .int 4], .int _, .tup (SqT.of upd_same) (dps_ints [0, 3, 4]), rfl, rfl, ?_⟩
            have a1 := Same.tup x1 ha
            have b1 := Same.tup x1 hb1
            refine ⟨fun σ' H' => ∃ gb o2 o3, gb = true ∧ σ' = [some (.ref a), some (.bl gb), o2, o3] ∧ Same H H', ?_, ?_⟩
            · exact ⟨_, rfl, _, rfl, ifT (by decide) ⟨_, rfl, a, _, 1, _, rfl, rfl, a1, atI_nat (j := 1) rfl, b, _, rfl, .inr b1, _, _, rfl, rfl, _, rfl, ifF rfl ⟨_, _, _, rfl, rfl, x1⟩⟩⟩
            · rintro σ' H' ⟨gb, o2, o3, rfl, rfl, sH⟩
              exact ⟨_, rfl, _, rfl, ifF rfl (k H' sH)⟩
          | reg o1 o2 =>
            obtain ⟨b, ys, rfl, hb1, hys⟩ := dp_tup h1
            cases hys with
            | cons w0 hys =>
              cases hys with
              | cons w1 hys =>
                cases hys with
                | cons w2 hys =>
                  cases hys
                  cases dp_str w0
                  cases dp_int w1
                  cases dp_int w2
                  rw [eb]
                  refine ⟨_, rfl, _, rfl, ifT rfl ⟨_, rfl, a, _, 1, _, rfl, rfl, ha, atI_nat (j := 1) rfl, _, _, _, _, _, rfl, .ty _, dp_ty h1, kitD K _ _ (by decide), _, rfl, ifT rfl ⟨_, rfl, a, _, 1, _, rfl, rfl, ha, atI_nat (j := 1) rfl, b, _, rfl, .inr hb1, (show 3 ≤ sizeLine by decide), fun p1 n1 => ?_⟩⟩⟩
                  have x1 := same_new (o := HO.tup [V.int 0, V.int 3, V.int 4]) n1
                  refine ⟨.int 3, [.int 0, .int 3, .int 4], .int _, .tup (SqT.of upd_same) (dps_ints [0, 3, 4]), rfl, rfl, ?_⟩
                  have a1 := Same.tup x1 ha
                  have b1 := Same.tup x1 hb1
                  refine ⟨fun σ' H' => ∃ gb o2 o3, gb = true ∧ σ' = [some (.ref a), some (.bl gb), o2, o3] ∧ Same H H', ?_, ?_⟩
                  · refine ⟨_, rfl, _, rfl, ifT (by decide) ⟨_, rfl, a, _, 1, _, rfl, rfl, a1, atI_nat (j := 1) rfl, b, _, rfl, .inr b1, _, _, rfl, rfl, _, rfl, ifT rfl ?_⟩⟩
                    refine ⟨_, rfl, a, _, 1, _, rfl, rfl, a1, atI_nat (j := 1) rfl, ?_⟩
                    refine ⟨_, rfl, b, _, 0, _, rfl, rfl, b1, atI_nat (j := 0) rfl, rfl, _, rfl, ifF (by decide) ?_⟩
                    refine ⟨_, rfl, b, _, 0, _, rfl, rfl, b1, atI_nat (j := 0) rfl, (show 3 ≤ sizeLine by decide), fun p2 n2 => ?_⟩
                    have x2 := same_new (o := HO.tup [V.str "r", V.str "b", V.str "in"]) n2
                    have b2 := Same.tup x2 b1
                    refine ⟨.str "r", [.str "r", .str "b", .str "in"], .str _, .tup (SqT.of upd_same) (.cons (.str _) (.cons (.str _) (.cons (.str _) .nil))), by decide +kernel, by decide +kernel, _, rfl, ifT (by decide +kernel) ?_⟩
                    refine ⟨_, rfl, b, _, rfl, .inr b2, _, rfl, b, _, 0, _, rfl, rfl, b2, atI_nat (j := 0) rfl, rfl, .inr ⟨_, rfl, _, _, rfl, rfl, rfl, ?_⟩⟩
                    refine ⟨_, rfl, _, rfl, ifT (show decide (V.int 3 = V.int 3) = true by decide) ?_⟩
                    refine ⟨_, rfl, b, _, 1, _, rfl, rfl, b2, atI_nat (j := 1) rfl, .int o1, .int o1, rfl, .int _, rfl, _, rfl, ifT (decide_eq_true hw.1) ?_⟩
                    refine ⟨_, rfl, b, _, 1, _, rfl, rfl, b2, atI_nat (j := 1) rfl, _, rfl, _, _, rfl, rfl, _, rfl, ifT (decide_eq_true hw.2.1) ?_⟩
                    refine ⟨_, rfl, b, _, 2, _, rfl, rfl, b2, atI_nat (j := 2) rfl, .int o2, .int o2, rfl, .int _, rfl, ?_⟩
                    refine ⟨_, rfl, _, rfl, ifT (byteI hw.2.2) ?_⟩
                    refine ⟨_, rfl, b, _, rfl, .inr b2, rfl, _, rfl, ifT rfl ?_⟩
                    exact ⟨_, _, _, rfl, rfl, x1.trans x2⟩
                  · rintro σ' H' ⟨gb, o2, o3, rfl, rfl, sH⟩
                    exact ⟨_, rfl, _, rfl, ifF rfl (k H' sH)⟩
          | byt o1 o2 =>
            obtain ⟨b, ys, rfl, hb1, hys⟩ := dp_tup h1
            cases hys with
            | cons w0 hys =>
              cases hys with
              | cons w1 hys =>
                cases hys with
                | cons w2 hys =>
                  cases hys
                  cases dp_str w0
                  cases dp_int w1
                  cases dp_int w2
                  rw [eb]
                  refine ⟨_, rfl, _, rfl, ifT rfl ⟨_, rfl, a, _, 1, _, rfl, rfl, ha, atI_nat (j := 1) rfl, _, _, _, _, _, rfl, .ty _, dp_ty h1, kitD K _ _ (by decide), _, rfl, ifT rfl ⟨_, rfl, a, _, 1, _, rfl, rfl, ha, atI_nat (j := 1) rfl, b, _, rfl, .inr hb1, (show 3 ≤ sizeLine by decide), fun p1 n1 => ?_⟩⟩⟩
                  have x1 := same_new (o := HO.tup [V.int 0, V.int 3, V.int 4]) n1
                  refine ⟨.int 3, [.int 0, .int 3, .int 4], .int _, .tup (SqT.of upd_same) (dps_ints [0, 3, 4]), rfl, rfl, ?_⟩
                  have a1 := Same.tup x1 ha
                  have b1 := Same.tup x1 hb1
                  refine ⟨fun σ' H' => ∃ gb o2 o3, gb = true ∧ σ' = [some (.ref a), some (.bl gb), o2, o3] ∧ Same H H', ?_, ?_⟩
                  · refine ⟨_, rfl, _, rfl, ifT (by decide) ⟨_, rfl, a, _, 1, _, rfl, rfl, a1, atI_nat (j := 1) rfl, b, _, rfl, .inr b1, _, _, rfl, rfl, _, rfl, ifT rfl ?_⟩⟩
                    refine ⟨_, rfl, a, _, 1, _, rfl, rfl, a1, atI_nat (j := 1) rfl, ?_⟩
                    refine ⟨_, rfl, b, _, 0, _, rfl, rfl, b1, atI_nat (j := 0) rfl, rfl, _, rfl, ifT (by decide) ?_⟩
                    refine ⟨_, rfl, b, _, 0, _, rfl, rfl, b1, atI_nat (j := 0) rfl, (show 3 ≤ sizeLine by decide), fun p2 n2 => ?_⟩
                    have x2 := same_new (o := HO.tup [V.str "r", V.str "b", V.str "in"]) n2
                    have b2 := Same.tup x2 b1
                    refine ⟨.str "b", [.str "r", .str "b", .str "in"], .str _, .tup (SqT.of upd_same) (.cons (.str _) (.cons (.str _) (.cons (.str _) .nil))), by decide +kernel, by decide +kernel, _, rfl, ifT (by decide +kernel) ?_⟩
                    refine ⟨_, rfl, b, _, rfl, .inr b2, _, rfl, b, _, 0, _, rfl, rfl, b2, atI_nat (j := 0) rfl, rfl, .inr ⟨_, rfl, _, _, rfl, rfl, rfl, ?_⟩⟩
                    refine ⟨_, rfl, _, rfl, ifT (show decide (V.int 3 = V.int 3) = true by decide) ?_⟩
                    refine ⟨_, rfl, b, _, 1, _, rfl, rfl, b2, atI_nat (j := 1) rfl, .int o1, .int o1, rfl, .int _, rfl, _, rfl, ifT (decide_eq_true hw.1) ?_⟩
                    refine ⟨_, rfl, b, _, 1, _, rfl, rfl, b2, atI_nat (j := 1) rfl, _, rfl, _, _, rfl, rfl, _, rfl, ifT (decide_eq_true hw.2.1) ?_⟩
                    refine ⟨_, rfl, b, _, 2, _, rfl, rfl, b2, atI_nat (j := 2) rfl, .int o2, .int o2, rfl, .int _, rfl, ?_⟩
                    refine ⟨_, rfl, _, rfl, ifT (byteI hw.2.2) ?_⟩
                    refine ⟨_, rfl, b, _, rfl, .inr b2, rfl, _, rfl, ifT rfl ?_⟩
                    exact ⟨_, _, _, rfl, rfl, x1.trans x2⟩
                  · rintro σ' H' ⟨gb, o2, o3, rfl, rfl, sH⟩
                    exact ⟨_, rfl, _, rfl, ifF rfl (k H' sH)⟩
          | inp o1 o2 o3 =>
            obtain ⟨b, ys, rfl, hb1, hys⟩ := dp_tup h1
            cases hys with
            | cons w0 hys =>
              cases hys with
              | cons w1 hys =>
                cases hys with
                | cons w2 hys =>
                  cases hys with
                  | cons w3 hys =>
                    cases hys
                    cases dp_str w0
                    cases dp_int w1
                    cases dp_int w2
                    cases dp_int w3
                    rw [eb]
                    refine ⟨_, rfl, _, rfl, ifT rfl ⟨_, rfl, a, _, 1, _, rfl, rfl, ha, atI_nat (j := 1) rfl, _, _, _, _, _, rfl, .ty _, dp_ty h1, kitD K _ _ (by decide), _, rfl, ifT rfl ⟨_, rfl, a, _, 1, _, rfl, rfl, ha, atI_nat (j := 1) rfl, b, _, rfl, .inr hb1, (show 3 ≤ sizeLine by decide), fun p1 n1 => ?_⟩⟩⟩
                    have x1 := same_new (o := HO.tup [V.int 0, V.int 3, V.int 4]) n1
                    refine ⟨.int 4, [.int 0, .int 3, .int 4], .int _, .tup (SqT.of upd_same) (dps_ints [0, 3, 4]), rfl, rfl, ?_⟩
                    have a1 := Same.tup x1 ha
                    have b1 := Same.tup x1 hb1
                    refine ⟨fun σ' H' => ∃ gb o2 o3, gb = true ∧ σ' = [some (.ref a), some (.bl gb), o2, o3] ∧ Same H H', ?_, ?_⟩
                    · refine ⟨_, rfl, _, rfl, ifT (by decide) ⟨_, rfl, a, _, 1, _, rfl, rfl, a1, atI_nat (j := 1) rfl, b, _, rfl, .inr b1, _, _, rfl, rfl, _, rfl, ifT rfl ?_⟩⟩
                      refine ⟨_, rfl, a, _, 1, _, rfl, rfl, a1, atI_nat (j := 1) rfl, ?_⟩
                      refine ⟨_, rfl, b, _, 0, _, rfl, rfl, b1, atI_nat (j := 0) rfl, rfl, _, rfl, ifF (by decide) ?_⟩
                      refine ⟨_, rfl, b, _, 0, _, rfl, rfl, b1, atI_nat (j := 0) rfl, (show 3 ≤ sizeLine by decide), fun p2 n2 => ?_⟩
                      have x2 := same_new (o := HO.tup [V.str "r", V.str "b", V.str "in"]) n2
                      have b2 := Same.tup x2 b1
                      refine ⟨.str "in", [.str "r", .str "b", .str "in"], .str _, .tup (SqT.of upd_same) (.cons (.str _) (.cons (.str _) (.cons (.str _) .nil))), by decide +kernel, by decide +kernel, _, rfl, ifT (by decide +kernel) ?_⟩
                      refine ⟨_, rfl, b, _, rfl, .inr b2, _, rfl, b, _, 0, _, rfl, rfl, b2, atI_nat (j := 0) rfl, rfl, .inr ⟨_, rfl, _, _, rfl, rfl, rfl, ?_⟩⟩
                      refine ⟨_, rfl, _, rfl, ifT (show decide (V.int 4 = V.int 4) = true by decide) ?_⟩
                      refine ⟨_, rfl, b, _, 1, _, rfl, rfl, b2, atI_nat (j := 1) rfl, .int o1, .int o1, rfl, .int _, rfl, _, rfl, ifT (decide_eq_true hw.1) ?_⟩
                      refine ⟨_, rfl, b, _, 1, _, rfl, rfl, b2, atI_nat (j := 1) rfl, _, rfl, _, _, rfl, rfl, _, rfl, ifT (decide_eq_true hw.2.1) ?_⟩
                      refine ⟨_, rfl, b, _, 2, _, rfl, rfl, b2, atI_nat (j := 2) rfl, .int o2, .int o2, rfl, .int _, rfl, ?_⟩
                      refine ⟨_, rfl, _, rfl, ifT (byteI hw.2.2.1) ?_⟩
                      refine ⟨_, rfl, b, _, rfl, .inr b2, rfl, _, rfl, ifF rfl ?_⟩
                      refine ⟨_, rfl, b, _, 3, _, rfl, rfl, b2, atI_nat (j := 3) rfl, .int o3, .int o3, rfl, .int _, rfl, ?_⟩
                      exact ⟨_, _, _, decide_eq_true hw.2.2.2, rfl, x1.trans x2⟩
                    · rintro σ' H' ⟨gb, o2, o3, rfl, rfl, sH⟩
                      exact ⟨_, rfl, _, rfl, ifF rfl (k H' sH)⟩
    · unfold badRows at hm
      simp only [List.mem_cons, List.not_mem_nil, or_false] at hm
      rcases hm with rfl | rfl | rfl | rfl | rfl | rfl | rfl | rfl
      · obtain ⟨a, xs, rfl, ha, hxs⟩ := dp_tup hd
        cases hxs with
        | cons h0 hxs =>
          cases hxs
          refine ⟨_, rfl, _, _, _, _, _, rfl, .ty _, dp_ty hd, kitD K _ _ (by decide), ?_⟩
          refine ⟨_, rfl, ifT rfl ⟨_, rfl, a, _, rfl, .inr ha, rfl, _, rfl, ifF rfl ?_⟩⟩
          refine ⟨_, rfl, _, rfl, ifF rfl ?_⟩
          refine ⟨fun σ' H' => ∃ gb o2 o3, gb = false ∧ σ' = [some (.ref a), some (.bl gb), o2, o3] ∧ Same H H', ?_, ?_⟩
          · exact ⟨_, rfl, _, rfl, ifF rfl ⟨_, _, _, rfl, rfl, Same.refl _⟩⟩
          · rintro σ' H' ⟨gb, o2, o3, rfl, rfl, sH⟩
            exact ⟨_, rfl, _, rfl, ifT rfl ⟨_, rfl, fun d hd => k.here sH hd⟩⟩
      · obtain ⟨a, xs, rfl, ha, hxs⟩ := dp_tup hd
        cases hxs with
        | cons h0 hxs => cases hxs with
          | cons h1 hxs =>
            cases hxs
            cases dp_int h0
            rename_i x1
            refine ⟨_, rfl, _, _, _, _, _, rfl, .ty _, dp_ty hd, kitD K _ _ (by decide), ?_⟩
            refine ⟨_, rfl, ifT rfl ⟨_, rfl, a, _, rfl, .inr ha, rfl, _, rfl, ifT rfl ⟨_, rfl, a, _, 0, _, rfl, rfl, ha, atI_nat (j := 0) rfl, .int 256, .int 256, rfl, .int _, rfl, ?_⟩⟩⟩
            have eb : byteD (.int 256) = false := by decide
            obtain ⟨b, ys, rfl, hb1, hys⟩ := dp_tup h1
            cases hys
            rw [eb]
            refine ⟨_, rfl, _, rfl, ifF rfl ?_⟩
            refine ⟨fun σ' H' => ∃ gb o2 o3, gb = false ∧ σ' = [some (.ref a), some (.bl gb), o2, o3] ∧ Same H H', ?_, ?_⟩
            · exact ⟨_, rfl, _, rfl, ifF rfl ⟨_, _, _, rfl, rfl, Same.refl _⟩⟩
            · rintro σ' H' ⟨gb, o2, o3, rfl, rfl, sH⟩
              exact ⟨_, rfl, _, rfl, ifT rfl ⟨_, rfl, fun d hd => k.here sH hd⟩⟩
      · obtain ⟨a, xs, rfl, ha, hxs⟩ := dp_tup hd
        cases hxs with
        | cons h0 hxs => cases hxs with
          | cons h1 hxs =>
            cases hxs
            cases dp_int h0
            rename_i x1
            refine ⟨_, rfl, _, _, _, _, _, rfl, .ty _, dp_ty hd, kitD K _ _ (by decide), ?_⟩
            refine ⟨_, rfl, ifT rfl ⟨_, rfl, a, _, rfl, .inr ha, rfl, _, rfl, ifT rfl ⟨_, rfl, a, _, 0, _, rfl, rfl, ha, atI_nat (j := 0) rfl, .int 0, .int 0, rfl, .int _, rfl, ?_⟩⟩⟩
            have eb : byteD (.int 0) = true := by decide
            obtain ⟨b, ys, rfl, hb1, hys⟩ := dp_tup h1
            cases hys with
            | cons w0 hys =>
              cases hys with
              | cons w1 hys =>
                cases hys with
                | cons w2 hys =>
                  cases hys
                  cases dp_str w0
                  cases dp_int w1
                  cases dp_int w2
                  rw [eb]
                  refine ⟨_, rfl, _, rfl, ifT rfl ⟨_, rfl, a, _, 1, _, rfl, rfl, ha, atI_nat (j := 1) rfl, _, _, _, _, _, rfl, .ty _, dp_ty h1, kitD K _ _ (by decide), _, rfl, ifT rfl ⟨_, rfl, a, _, 1, _, rfl, rfl, ha, atI_nat (j := 1) rfl, b, _, rfl, .inr hb1, (show 3 ≤ sizeLine by decide), fun p1 n1 => ?_⟩⟩⟩
                  have x1 := same_new (o := HO.tup [V.int 0, V.int 3, V.int 4]) n1
                  refine ⟨.int 3, [.int 0, .int 3, .int 4], .int _, .tup (SqT.of upd_same) (dps_ints [0, 3, 4]), rfl, rfl, ?_⟩
                  have a1 := Same.tup x1 ha
                  have b1 := Same.tup x1 hb1
                  refine ⟨fun σ' H' => ∃ gb o2 o3, gb = false ∧ σ' = [some (.ref a), some (.bl gb), o2, o3] ∧ Same H H', ?_, ?_⟩
                  · refine ⟨_, rfl, _, rfl, ifT (by decide) ⟨_, rfl, a, _, 1, _, rfl, rfl, a1, atI_nat (j := 1) rfl, b, _, rfl, .inr b1, _, _, rfl, rfl, _, rfl, ifT rfl ?_⟩⟩
                    refine ⟨_, rfl, a, _, 1, _, rfl, rfl, a1, atI_nat (j := 1) rfl, ?_⟩
                    refine ⟨_, rfl, b, _, 0, _, rfl, rfl, b1, atI_nat (j := 0) rfl, rfl, _, rfl, ifF (by decide) ?_⟩
                    refine ⟨_, rfl, b, _, 0, _, rfl, rfl, b1, atI_nat (j := 0) rfl, (show 3 ≤ sizeLine by decide), fun p2 n2 => ?_⟩
                    have x2 := same_new (o := HO.tup [V.str "r", V.str "b", V.str "in"]) n2
                    have b2 := Same.tup x2 b1
                    refine ⟨.str "r", [.str "r", .str "b", .str "in"], .str _, .tup (SqT.of upd_same) (.cons (.str _) (.cons (.str _) (.cons (.str _) .nil))), by decide +kernel, by decide +kernel, _, rfl, ifT (by decide +kernel) ?_⟩
                    refine ⟨_, rfl, b, _, rfl, .inr b2, _, rfl, b, _, 0, _, rfl, rfl, b2, atI_nat (j := 0) rfl, rfl, .inr ⟨_, rfl, _, _, rfl, rfl, rfl, ?_⟩⟩
                    refine ⟨_, rfl, _, rfl, ifT (show decide (V.int 3 = V.int 3) = true by decide) ?_⟩
                    refine ⟨_, rfl, b, _, 1, _, rfl, rfl, b2, atI_nat (j := 1) rfl, .int 4, .int 4, rfl, .int _, rfl, _, rfl, ifT (by decide) ?_⟩
                    refine ⟨_, rfl, b, _, 1, _, rfl, rfl, b2, atI_nat (j := 1) rfl, _, rfl, _, _, rfl, rfl, _, rfl, ifF (by decide) ?_⟩
                    exact ⟨_, rfl, _, rfl, ifF rfl ⟨_, _, _, rfl, rfl, x1.trans x2⟩⟩
                  · rintro σ' H' ⟨gb, o2, o3, rfl, rfl, sH⟩
                    exact ⟨_, rfl, _, rfl, ifT rfl ⟨_, rfl, fun d hd => k.here sH hd⟩⟩
      · obtain ⟨a, xs, rfl, ha, hxs⟩ := dp_tup hd
        cases hxs with
        | cons h0 hxs => cases hxs with
          | cons h1 hxs =>
            cases hxs
            cases dp_int h0
            rename_i x1
            refine ⟨_, rfl, _, _, _, _, _, rfl, .ty _, dp_ty hd, kitD K _ _ (by decide), ?_⟩
            refine ⟨_, rfl, ifT rfl ⟨_, rfl, a, _, rfl, .inr ha, rfl, _, rfl, ifT rfl ⟨_, rfl, a, _, 0, _, rfl, rfl, ha, atI_nat (j := 0) rfl, .int 0, .int 0, rfl, .int _, rfl, ?_⟩⟩⟩
            have eb : byteD (.int 0) = true := by decide
            obtain ⟨b, ys, rfl, hb1, hys⟩ := dp_tup h1
            cases hys with
            | cons w0 hys =>
              cases hys with
              | cons w1 hys =>
                cases hys with
                | cons w2 hys =>
                  cases hys
                  cases dp_str w0
                  cases dp_int w1
                  cases dp_int w2
                  rw [eb]
                  refine ⟨_, rfl, _, rfl, ifT rfl ⟨_, rfl, a, _, 1, _, rfl, rfl, ha, atI_nat (j := 1) rfl, _, _, _, _, _, rfl, .ty _, dp_ty h1, kitD K _ _ (by decide), _, rfl, ifT rfl ⟨_, rfl, a, _, 1, _, rfl, rfl, ha, atI_nat (j := 1) rfl, b, _, rfl, .inr hb1, (show 3 ≤ sizeLine by decide), fun p1 n1 => ?_⟩⟩⟩
                  have x1 := same_new (o := HO.tup [V.int 0, V.int 3, V.int 4]) n1
                  refine ⟨.int 3, [.int 0, .int 3, .int 4], .int _, .tup (SqT.of upd_same) (dps_ints [0, 3, 4]), rfl, rfl, ?_⟩
                  have a1 := Same.tup x1 ha
                  have b1 := Same.tup x1 hb1
                  refine ⟨fun σ' H' => ∃ gb o2 o3, gb = false ∧ σ' = [some (.ref a), some (.bl gb), o2, o3] ∧ Same H H', ?_, ?_⟩
                  · refine ⟨_, rfl, _, rfl, ifT (by decide) ⟨_, rfl, a, _, 1, _, rfl, rfl, a1, atI_nat (j := 1) rfl, b, _, rfl, .inr b1, _, _, rfl, rfl, _, rfl, ifT rfl ?_⟩⟩
                    refine ⟨_, rfl, a, _, 1, _, rfl, rfl, a1, atI_nat (j := 1) rfl, ?_⟩
                    refine ⟨_, rfl, b, _, 0, _, rfl, rfl, b1, atI_nat (j := 0) rfl, rfl, _, rfl, ifT (by decide) ?_⟩
                    refine ⟨_, rfl, b, _, 0, _, rfl, rfl, b1, atI_nat (j := 0) rfl, (show 3 ≤ sizeLine by decide), fun p2 n2 => ?_⟩
                    have x2 := same_new (o := HO.tup [V.str "r", V.str "b", V.str "in"]) n2
                    have b2 := Same.tup x2 b1
                    refine ⟨.str "b", [.str "r", .str "b", .str "in"], .str _, .tup (SqT.of upd_same) (.cons (.str _) (.cons (.str _) (.cons (.str _) .nil))), by decide +kernel, by decide +kernel, _, rfl, ifT (by decide +kernel) ?_⟩
                    refine ⟨_, rfl, b, _, rfl, .inr b2, _, rfl, b, _, 0, _, rfl, rfl, b2, atI_nat (j := 0) rfl, rfl, .inr ⟨_, rfl, _, _, rfl, rfl, rfl, ?_⟩⟩
                    refine ⟨_, rfl, _, rfl, ifT (show decide (V.int 3 = V.int 3) = true by decide) ?_⟩
                    refine ⟨_, rfl, b, _, 1, _, rfl, rfl, b2, atI_nat (j := 1) rfl, .int 64, .int 64, rfl, .int _, rfl, _, rfl, ifT (by decide) ?_⟩
                    refine ⟨_, rfl, b, _, 1, _, rfl, rfl, b2, atI_nat (j := 1) rfl, _, rfl, _, _, rfl, rfl, _, rfl, ifF (by decide) ?_⟩
                    exact ⟨_, rfl, _, rfl, ifF rfl ⟨_, _, _, rfl, rfl, x1.trans x2⟩⟩
                  · rintro σ' H' ⟨gb, o2, o3, rfl, rfl, sH⟩
                    exact ⟨_, rfl, _, rfl, ifT rfl ⟨_, rfl, fun d hd => k.here sH hd⟩⟩
      · obtain ⟨a, xs, rfl, ha, hxs⟩ := dp_tup hd
        cases hxs with
        | cons h0 hxs => cases hxs with
          | cons h1 hxs =>
            cases hxs
            cases dp_int h0
            rename_i x1
            refine ⟨_, rfl, _, _, _, _, _, rfl, .ty _, dp_ty hd, kitD K _ _ (by decide), ?_⟩
            refine ⟨_, rfl, ifT rfl ⟨_, rfl, a, _, rfl, .inr ha, rfl, _, rfl, ifT rfl ⟨_, rfl, a, _, 0, _, rfl, rfl, ha, atI_nat (j := 0) rfl, .int 0, .int 0, rfl, .int _, rfl, ?_⟩⟩⟩
            have eb : byteD (.int 0) = true := by decide
            obtain ⟨b, ys, rfl, hb1, hys⟩ := dp_tup h1
            cases hys with
            | cons w0 hys =>
              cases hys with
              | cons w1 hys =>
                cases hys with
                | cons w2 hys =>
                  cases hys
                  cases dp_str w0
                  cases dp_int w1
                  cases dp_int w2
                  rw [eb]
                  refine ⟨_, rfl, _, rfl, ifT rfl ⟨_, rfl, a, _, 1, _, rfl, rfl, ha, atI_nat (j := 1) rfl, _, _, _, _, _, rfl, .ty _, dp_ty h1, kitD K _ _ (by decide), _, rfl, ifT rfl ⟨_, rfl, a, _, 1, _, rfl, rfl, ha, atI_nat (j := 1) rfl, b, _, rfl, .inr hb1, (show 3 ≤ sizeLine by decide), fun p1 n1 => ?_⟩⟩⟩
                  have x1 := same_new (o := HO.tup [V.int 0, V.int 3, V.int 4]) n1
                  refine ⟨.int 3, [.int 0, .int 3, .int 4], .int _, .tup (SqT.of upd_same) (dps_ints [0, 3, 4]), rfl, rfl, ?_⟩
                  have a1 := Same.tup x1 ha
                  have b1 := Same.tup x1 hb1
                  refine ⟨fun σ' H' => ∃ gb o2 o3, gb = false ∧ σ' = [some (.ref a), some (.bl gb), o2, o3] ∧ Same H H', ?_, ?_⟩
                  · refine ⟨_, rfl, _, rfl, ifT (by decide) ⟨_, rfl, a, _, 1, _, rfl, rfl, a1, atI_nat (j := 1) rfl, b, _, rfl, .inr b1, _, _, rfl, rfl, _, rfl, ifT rfl ?_⟩⟩
                    refine ⟨_, rfl, a, _, 1, _, rfl, rfl, a1, atI_nat (j := 1) rfl, ?_⟩
                    refine ⟨_, rfl, b, _, 0, _, rfl, rfl, b1, atI_nat (j := 0) rfl, rfl, _, rfl, ifF (by decide) ?_⟩
                    refine ⟨_, rfl, b, _, 0, _, rfl, rfl, b1, atI_nat (j := 0) rfl, (show 3 ≤ sizeLine by decide), fun p2 n2 => ?_⟩
                    have x2 := same_new (o := HO.tup [V.str "r", V.str "b", V.str "in"]) n2
                    have b2 := Same.tup x2 b1
                    refine ⟨.str "x", [.str "r", .str "b", .str "in"], .str _, .tup (SqT.of upd_same) (.cons (.str _) (.cons (.str _) (.cons (.str _) .nil))), by decide +kernel, by decide +kernel, _, rfl, ifF (by decide +kernel) ?_⟩
                    exact ⟨_, rfl, _, rfl, ifF rfl ⟨_, rfl, _, rfl, ifF rfl ⟨_, _, _, rfl, rfl, x1.trans x2⟩⟩⟩
                  · rintro σ' H' ⟨gb, o2, o3, rfl, rfl, sH⟩
                    exact ⟨_, rfl, _, rfl, ifT rfl ⟨_, rfl, fun d hd => k.here sH hd⟩⟩
      · obtain ⟨a, xs, rfl, ha, hxs⟩ := dp_tup hd
        cases hxs with
        | cons h0 hxs => cases hxs with
          | cons h1 hxs =>
            cases hxs
            cases dp_int h0
            rename_i x1
            refine ⟨_, rfl, _, _, _, _, _, rfl, .ty _, dp_ty hd, kitD K _ _ (by decide), ?_⟩
            refine ⟨_, rfl, ifT rfl ⟨_, rfl, a, _, rfl, .inr ha, rfl, _, rfl, ifT rfl ⟨_, rfl, a, _, 0, _, rfl, rfl, ha, atI_nat (j := 0) rfl, .int 0, .int 0, rfl, .int _, rfl, ?_⟩⟩⟩
            have eb : byteD (.int 0) = true := by decide
            obtain ⟨b, ys, rfl, hb1, hys⟩ := dp_tup h1
            cases hys with
            | cons w0 hys =>
              cases hys with
              | cons w1 hys =>
                cases hys
                cases dp_str w0
                cases dp_int w1
                rw [eb]
                refine ⟨_, rfl, _, rfl, ifT rfl ⟨_, rfl, a, _, 1, _, rfl, rfl, ha, atI_nat (j := 1) rfl, _, _, _, _, _, rfl, .ty _, dp_ty h1, kitD K _ _ (by decide), _, rfl, ifT rfl ⟨_, rfl, a, _, 1, _, rfl, rfl, ha, atI_nat (j := 1) rfl, b, _, rfl, .inr hb1, (show 3 ≤ sizeLine by decide), fun p1 n1 => ?_⟩⟩⟩
                have x1 := same_new (o := HO.tup [V.int 0, V.int 3, V.int 4]) n1
                refine ⟨.int 2, [.int 0, .int 3, .int 4], .int _, .tup (SqT.of upd_same) (dps_ints [0, 3, 4]), rfl, rfl, ?_⟩
                have a1 := Same.tup x1 ha
                have b1 := Same.tup x1 hb1
                refine ⟨fun σ' H' => ∃ gb o2 o3, gb = false ∧ σ' = [some (.ref a), some (.bl gb), o2, o3] ∧ Same H H', ?_, ?_⟩
                · exact ⟨_, rfl, _, rfl, ifF (by decide) ⟨_, _, _, rfl, rfl, x1⟩⟩
                · rintro σ' H' ⟨gb, o2, o3, rfl, rfl, sH⟩
                  exact ⟨_, rfl, _, rfl, ifT rfl ⟨_, rfl, fun d hd => k.here sH hd⟩⟩
      · obtain ⟨a, xs, rfl, ha, hxs⟩ := dp_tup hd
        cases hxs with
        | cons h0 hxs => cases hxs with
          | cons h1 hxs =>
            cases hxs
            cases dp_int h0
            rename_i x1
            refine ⟨_, rfl, _, _, _, _, _, rfl, .ty _, dp_ty hd, kitD K _ _ (by decide), ?_⟩
            refine ⟨_, rfl, ifT rfl ⟨_, rfl, a, _, rfl, .inr ha, rfl, _, rfl, ifT rfl ⟨_, rfl, a, _, 0, _, rfl, rfl, ha, atI_nat (j := 0) rfl, .int 0, .int 0, rfl, .int _, rfl, ?_⟩⟩⟩
            have eb : byteD (.int 0) = true := by decide
            obtain ⟨b, ys, rfl, hb1, hys⟩ := dp_tup h1
            cases hys with
            | cons w0 hys =>
              cases hys with
              | cons w1 hys =>
                cases hys with
                | cons w2 hys =>
                  cases hys with
                  | cons w3 hys =>
                    cases hys
                    cases dp_str w0
                    cases dp_int w1
                    cases dp_int w2
                    cases dp_int w3
                    rw [eb]
                    refine ⟨_, rfl, _, rfl, ifT rfl ⟨_, rfl, a, _, 1, _, rfl, rfl, ha, atI_nat (j := 1) rfl, _, _, _, _, _, rfl, .ty _, dp_ty h1, kitD K _ _ (by decide), _, rfl, ifT rfl ⟨_, rfl, a, _, 1, _, rfl, rfl, ha, atI_nat (j := 1) rfl, b, _, rfl, .inr hb1, (show 3 ≤ sizeLine by decide), fun p1 n1 => ?_⟩⟩⟩
                    have x1 := same_new (o := HO.tup [V.int 0, V.int 3, V.int 4]) n1
                    refine ⟨.int 4, [.int 0, .int 3, .int 4], .int _, .tup (SqT.of upd_same) (dps_ints [0, 3, 4]), rfl, rfl, ?_⟩
                    have a1 := Same.tup x1 ha
                    have b1 := Same.tup x1 hb1
                    refine ⟨fun σ' H' => ∃ gb o2 o3, gb = false ∧ σ' = [some (.ref a), some (.bl gb), o2, o3] ∧ Same H H', ?_, ?_⟩
                    · refine ⟨_, rfl, _, rfl, ifT (by decide) ⟨_, rfl, a, _, 1, _, rfl, rfl, a1, atI_nat (j := 1) rfl, b, _, rfl, .inr b1, _, _, rfl, rfl, _, rfl, ifT rfl ?_⟩⟩
                      refine ⟨_, rfl, a, _, 1, _, rfl, rfl, a1, atI_nat (j := 1) rfl, ?_⟩
                      refine ⟨_, rfl, b, _, 0, _, rfl, rfl, b1, atI_nat (j := 0) rfl, rfl, _, rfl, ifF (by decide) ?_⟩
                      refine ⟨_, rfl, b, _, 0, _, rfl, rfl, b1, atI_nat (j := 0) rfl, (show 3 ≤ sizeLine by decide), fun p2 n2 => ?_⟩
                      have x2 := same_new (o := HO.tup [V.str "r", V.str "b", V.str "in"]) n2
                      have b2 := Same.tup x2 b1
                      refine ⟨.str "in", [.str "r", .str "b", .str "in"], .str _, .tup (SqT.of upd_same) (.cons (.str _) (.cons (.str _) (.cons (.str _) .nil))), by decide +kernel, by decide +kernel, _, rfl, ifT (by decide +kernel) ?_⟩
                      refine ⟨_, rfl, b, _, rfl, .inr b2, _, rfl, b, _, 0, _, rfl, rfl, b2, atI_nat (j := 0) rfl, rfl, .inr ⟨_, rfl, _, _, rfl, rfl, rfl, ?_⟩⟩
                      refine ⟨_, rfl, _, rfl, ifT (show decide (V.int 4 = V.int 4) = true by decide) ?_⟩
                      refine ⟨_, rfl, b, _, 1, _, rfl, rfl, b2, atI_nat (j := 1) rfl, .int 1, .int 1, rfl, .int _, rfl, _, rfl, ifT (by decide) ?_⟩
                      refine ⟨_, rfl, b, _, 1, _, rfl, rfl, b2, atI_nat (j := 1) rfl, _, rfl, _, _, rfl, rfl, _, rfl, ifT (by decide) ?_⟩
                      refine ⟨_, rfl, b, _, 2, _, rfl, rfl, b2, atI_nat (j := 2) rfl, .int 5, .int 5, rfl, .int _, rfl, ?_⟩
                      refine ⟨_, rfl, _, rfl, ifT (by decide) ?_⟩
                      refine ⟨_, rfl, b, _, rfl, .inr b2, rfl, _, rfl, ifF rfl ?_⟩
                      refine ⟨_, rfl, b, _, 3, _, rfl, rfl, b2, atI_nat (j := 3) rfl, .int (-1), .int (-1), rfl, .int _, rfl, ?_⟩
                      exact ⟨_, _, _, rfl, rfl, x1.trans x2⟩
                    · rintro σ' H' ⟨gb, o2, o3, rfl, rfl, sH⟩
                      exact ⟨_, rfl, _, rfl, ifT rfl ⟨_, rfl, fun d hd => k.here sH hd⟩⟩
      · obtain ⟨a, xs, rfl, ha, hxs⟩ := dp_tup hd
        cases hxs with
        | cons h0 hxs => cases hxs with
          | cons h1 hxs =>
            cases hxs
            cases dp_int h0
            rename_i x1
            refine ⟨_, rfl, _, _, _, _, _, rfl, .ty _, dp_ty hd, kitD K _ _ (by decide), ?_⟩
            refine ⟨_, rfl, ifT rfl ⟨_, rfl, a, _, rfl, .inr ha, rfl, _, rfl, ifT rfl ⟨_, rfl, a, _, 0, _, rfl, rfl, ha, atI_nat (j := 0) rfl, .int 0, .int 0, rfl, .int _, rfl, ?_⟩⟩⟩
            have eb : byteD (.int 0) = true := by decide
            obtain ⟨b, ys, rfl, hb1, hys⟩ := dp_tup h1
            cases hys with
            | cons w0 hys =>
              cases hys with
              | cons w1 hys =>
                cases hys with
                | cons w2 hys =>
                  cases hys
                  cases dp_str w0
                  cases dp_int w1
                  cases dp_int w2
                  rw [eb]
                  refine ⟨_, rfl, _, rfl, ifT rfl ⟨_, rfl, a, _, 1, _, rfl, rfl, ha, atI_nat (j := 1) rfl, _, _, _, _, _, rfl, .ty _, dp_ty h1, kitD K _ _ (by decide), _, rfl, ifT rfl ⟨_, rfl, a, _, 1, _, rfl, rfl, ha, atI_nat (j := 1) rfl, b, _, rfl, .inr hb1, (show 3 ≤ sizeLine by decide), fun p1 n1 => ?_⟩⟩⟩
                  have x1 := same_new (o := HO.tup [V.int 0, V.int 3, V.int 4]) n1
                  refine ⟨.int 3, [.int 0, .int 3, .int 4], .int _, .tup (SqT.of upd_same) (dps_ints [0, 3, 4]), rfl, rfl, ?_⟩
                  have a1 := Same.tup x1 ha
                  have b1 := Same.tup x1 hb1
                  refine ⟨fun σ' H' => ∃ gb o2 o3, gb = false ∧ σ' = [some (.ref a), some (.bl gb), o2, o3] ∧ Same H H', ?_, ?_⟩
                  · refine ⟨_, rfl, _, rfl, ifT (by decide) ⟨_, rfl, a, _, 1, _, rfl, rfl, a1, atI_nat (j := 1) rfl, b, _, rfl, .inr b1, _, _, rfl, rfl, _, rfl, ifT rfl ?_⟩⟩
                    refine ⟨_, rfl, a, _, 1, _, rfl, rfl, a1, atI_nat (j := 1) rfl, ?_⟩
                    refine ⟨_, rfl, b, _, 0, _, rfl, rfl, b1, atI_nat (j := 0) rfl, rfl, _, rfl, ifF (by decide) ?_⟩
                    refine ⟨_, rfl, b, _, 0, _, rfl, rfl, b1, atI_nat (j := 0) rfl, (show 3 ≤ sizeLine by decide), fun p2 n2 => ?_⟩
                    have x2 := same_new (o := HO.tup [V.str "r", V.str "b", V.str "in"]) n2
                    have b2 := Same.tup x2 b1
                    refine ⟨.str "r", [.str "r", .str "b", .str "in"], .str _, .tup (SqT.of upd_same) (.cons (.str _) (.cons (.str _) (.cons (.str _) .nil))), by decide +kernel, by decide +kernel, _, rfl, ifT (by decide +kernel) ?_⟩
                    refine ⟨_, rfl, b, _, rfl, .inr b2, _, rfl, b, _, 0, _, rfl, rfl, b2, atI_nat (j := 0) rfl, rfl, .inr ⟨_, rfl, _, _, rfl, rfl, rfl, ?_⟩⟩
                    refine ⟨_, rfl, _, rfl, ifT (show decide (V.int 3 = V.int 3) = true by decide) ?_⟩
                    refine ⟨_, rfl, b, _, 1, _, rfl, rfl, b2, atI_nat (j := 1) rfl, .int 0, .int 0, rfl, .int _, rfl, _, rfl, ifT (by decide) ?_⟩
                    refine ⟨_, rfl, b, _, 1, _, rfl, rfl, b2, atI_nat (j := 1) rfl, _, rfl, _, _, rfl, rfl, _, rfl, ifT (by decide) ?_⟩
                    refine ⟨_, rfl, b, _, 2, _, rfl, rfl, b2, atI_nat (j := 2) rfl, .int 256, .int 256, rfl, .int _, rfl, ?_⟩
                    refine ⟨_, rfl, _, rfl, ifF (by decide) ?_⟩
                    exact ⟨_, _, _, rfl, rfl, x1.trans x2⟩
                  · rintro σ' H' ⟨gb, o2, o3, rfl, rfl, sH⟩
                    exact ⟨_, rfl, _, rfl, ifT rfl ⟨_, rfl, fun d hd => k.here sH hd⟩⟩
end
end Q40



set_option pp.maxSteps 1500
namespace Q40
open PySem L2 G M40
open C8 (Cal Met Mak pe_c pe_mk pe_mt pe_mt0 pe_gc pss_cut tCut)
section
variable {P : Program} {w : World} {K : PySem.W.Frag} {mg : Str → Option Value} {base : Heap}
/-! ### run_back -/
structure CalsB (P : Program) (w : World) (K : PySem.W.Frag) (mg : Str → Option Value) (base : Heap) (CS : Addr) : Prop where
  state : CalX P w K mg base 4 "check_state" (spState K CS)
  row : CalX P w K mg base 4 "check_row" (spRow K CS)
  repl : Cal P w K mg base 1 "replaced" (spRepl K) []
def BadS (K : PySem.W.Frag) (H : Hp) (v : V) : Prop := ∃ (t0 t1 : Bool) (ds : List PyData) (ns : List Int) (d2 : PyData), Dp K H v (.tuple [seqD t0 ds, seqD t1 (intsD ns), d2]) ∧ (∀ d ∈ ds, flatD d = true) ∧ flatD d2 = true ∧ ds.length ≤ 1000 ∧ ns.length ≤ 1000 ∧ okS t0 t1 ds ns d2 = false
def spBack (K : PySem.W.Frag) (C : Addr) : Sp := fun vs H Q E => ∃ v vt : V, vs = [v, vt] ∧
  ((BadS K H v ∧ RaiseF C "form" H E) ∨
  (∃ (s : Mc) (pre : List Row) (bad : PyData) (rest : List PyData), Dp K H v (stD s) ∧ Good s ∧ Dp K H vt (.list (pre.map rowD ++ bad :: rest)) ∧ (∀ r ∈ pre, RowOk r) ∧ bad ∈ badRows ∧ RaiseF C "trace" H E) ∨
  (∃ (s : Mc) (tr : List Row), Dp K H v (stD s) ∧ Good s ∧ (Dp K H vt (.list (tr.map rowD)) ∨ Dp K H vt (.tuple (tr.map rowD))) ∧ (∀ r ∈ tr, RowOk r) ∧ tr.length ≤ 1000 ∧ ∀ (u : V) (H' : Hp), Same H H' → Dp K H' u (stD (back s tr)) → Q u H'))
theorem dps2 {H : Hp} {vs : List V} {a b : PyData} (h : DpAll K H vs [a, b]) : ∃ y1 y2, vs = [y1, y2] ∧ Dp K H y1 a ∧ Dp K H y2 b := by
  cases h with
  | cons h1 h => cases h with
    | cons h2 h =>
      cases h
      exact ⟨_, _, rfl, h1, h2⟩
theorem dps3 {H : Hp} {vs : List V} {a b c : PyData} (h : DpAll K H vs [a, b, c]) : ∃ y1 y2 y3, vs = [y1, y2, y3] ∧ Dp K H y1 a ∧ Dp K H y2 b ∧ Dp K H y3 c := by
  cases h with
  | cons h1 h =>
    obtain ⟨_, _, rfl, h2, h3⟩ := dps2 h
    exact ⟨_, _, _, rfl, h1, h2, h3⟩
theorem lens_undo {s : Mc} (h : Lens s) (r : Row) : Lens (undo s r) := by
  obtain ⟨i, w⟩ := r
  obtain ⟨a, b⟩ := h
  cases w <;> exact ⟨by simp [undo, put_len, a], by simp [undo, put_len, b]⟩
theorem back_cons {s : Mc} {r : Row} {l : List Row} : back s (r :: l) = undo (back s l) r := rfl
theorem back_drop {s : Mc} {tr : List Row} {j : Nat} {r : Row} (hj : j < tr.length) (h : tr[tr.length - 1 - j]? = some r) : back s (tr.drop (tr.length - (j + 1))) = undo (back s (tr.drop (tr.length - j))) r := by
  have e : tr.length - (j + 1) = tr.length - 1 - j := by omega
  have hl : tr.length - 1 - j < tr.length := by omega
  rw [e, List.drop_eq_getElem_cons hl, back_cons, show tr.length - 1 - j + 1 = tr.length - j by omega]
  rw [List.getElem?_eq_getElem hl] at h
  rw [Option.some.inj h]
theorem ok_back {C : Addr} {f : Addr} {fd : FuncData} (F : Fun K "run_back" "run_back" s_run_back f fd) (T : Txt K mg) (c : CalsB P w K mg base C) :
    FnOk P w K mg base (L2.CX P w) 5 f fd ["state", "trace"] (spBack K C) := by
  refine F.okX sc_run_back (fun vs H Q E h => ?_) (fun cdv A outer s H vs Q E hr h => ?_)
  · obtain ⟨v, vt, rfl, _⟩ := h
    rfl
  · obtain ⟨v, vt, rfl, h⟩ := h
    obtain ⟨v1, g_REGISTERS, dR⟩ := T.c_REGISTERS
    have c_check_state := c.state
    have c_check_row := c.row
    have c_replaced := c.repl
    rcases h with ⟨⟨t0, t1, ds, ns, d2, hd, hf, hf2, hl, hl2, hk⟩, kr⟩ | ⟨st, pre, bad, rest, hv, hg, ht, hpre, hbad, kr⟩ | ⟨st, tr, hv, hg, ht, htr, hl, k⟩
    · refine ⟨_, (pss_cons (ps_expr (pe_cx c_check_state hr (by omega) rfl (takes_of rfl rfl rfl rfl) (pa_cons (pv 0) pa_nil)))
      (pss_cons (ps_asg (pv 0) (pg_tup rfl (pgs_cons (pg_name (i := 2) sc_run_back.nd rfl (Or.inl rfl)) (pgs_cons (pg_name (i := 3) sc_run_back.nd rfl (Or.inl rfl)) (pgs_cons (pg_name (i := 4) sc_run_back.nd rfl (Or.inl rfl)) pgs_nil)))))
      (pss_cons (ps_for (passes_of rfl) rfl (pi_list (pv 1)) (pg_name (i := 5) sc_run_back.nd rfl (Or.inl rfl)) (pss_one (ps_expr (pe_cx c_check_row hr (by omega) rfl (takes_of rfl rfl rfl rfl) (pa_cons (pv 5) pa_nil)))))
      (pss_cons (ps_for (passes_of rfl) rfl (RT.pi_revA (by rfl) T.b_reversed (pv 1)) (pg_tup rfl (pgs_cons (pg_name (i := 6) sc_run_back.nd rfl (Or.inl rfl)) (pgs_cons (pg_name (i := 7) sc_run_back.nd rfl (Or.inl rfl)) pgs_nil))) (pss_cut (ps_if (PW.pt (pw_and (pt_cmpR op_gt (pe_callB call_len_seq (by rfl) T.b_len boot_len' (pa_cons (pv 7) pa_nil)) pe_int (nomark _)) (pw_and1 (pt_cmpR op_eq (pe_ix ix_tup (pv 7) pe_int (fun _ _ => rfl)) pe_str (nomark _))))) (pss_one (ps_set (i := 3) sc_run_back.nd rfl (Or.inl rfl) (pe_c c_replaced hr (by omega) rfl (pa_cons (pv 3) (pa_cons (pe_ix ix_tup (pv 7) pe_int (fun _ _ => rfl)) (pa_cons (pe_ix ix_tup (pv 7) pe_int (fun _ _ => rfl)) pa_nil)))))) (pss_one (ps_if (pt_cmpR op_gt (pe_callB call_len_seq (by rfl) T.b_len boot_len' (pa_cons (pv 7) pa_nil)) pe_int (nomark _)) (pss_one (ps_set (i := 2) sc_run_back.nd rfl (Or.inl rfl) (pe_c c_replaced hr (by omega) rfl (pa_cons (pv 2) (pa_cons (pe_ix ix_tup (pv 7) pe_int (fun _ _ => rfl)) (pa_cons (pe_ix ix_tup (pv 7) pe_int (fun _ _ => rfl)) pa_nil)))))) pss_nil)))
      (pss_cut (ps_if (pt_cmpR op_eq (pe_callB call_len_seq (by rfl) T.b_len boot_len' (pa_cons (pv 7) pa_nil)) pe_int (nomark _)) (pss_one (ps_set (i := 4) sc_run_back.nd rfl (Or.inl rfl) (pe_ix ix_tup (pv 7) pe_int (fun _ _ => rfl)))) pss_nil)
      (pss_one (ps_set (i := 2) sc_run_back.nd rfl (Or.inl rfl) (pe_c c_replaced hr (by omega) rfl (pa_cons (pv 2) (pa_cons (pe_gc (by rfl) g_REGISTERS) (pa_cons (pv 6) pa_nil)))))))))
      (pss_one (ps_ret (pe_tup (pa_cons (pv 2) (pa_cons (pv 3) (pa_cons (pv 4) pa_nil)))))))))), ?_⟩
      exact ⟨_, rfl, v, t0, t1, ds, ns, d2, rfl, hd, hf, hf2, hl, hl2, (fun e => absurd hk (by rw [e]; decide)), fun _ => kr⟩
    · refine ⟨_, (pss_cons (ps_expr (pe_cx c_check_state hr (by omega) rfl (takes_of rfl rfl rfl rfl) (pa_cons (pv 0) pa_nil)))
      (pss_cons (ps_asg (pv 0) (pg_tup rfl (pgs_cons (pg_name (i := 2) sc_run_back.nd rfl (Or.inl rfl)) (pgs_cons (pg_name (i := 3) sc_run_back.nd rfl (Or.inl rfl)) (pgs_cons (pg_name (i := 4) sc_run_back.nd rfl (Or.inl rfl)) pgs_nil)))))
      (pss_cons (ps_for (passes_of rfl) rfl (pi_list (pv 1)) (pg_name (i := 5) sc_run_back.nd rfl (Or.inl rfl)) (pss_one (ps_expr (pe_cx c_check_row hr (by omega) rfl (takes_of rfl rfl rfl rfl) (pa_cons (pv 5) pa_nil)))))
      (pss_cons (ps_for (passes_of rfl) rfl (RT.pi_revA (by rfl) T.b_reversed (pv 1)) (pg_tup rfl (pgs_cons (pg_name (i := 6) sc_run_back.nd rfl (Or.inl rfl)) (pgs_cons (pg_name (i := 7) sc_run_back.nd rfl (Or.inl rfl)) pgs_nil))) (pss_cut (ps_if (PW.pt (pw_and (pt_cmpR op_gt (pe_callB call_len_seq (by rfl) T.b_len boot_len' (pa_cons (pv 7) pa_nil)) pe_int (nomark _)) (pw_and1 (pt_cmpR op_eq (pe_ix ix_tup (pv 7) pe_int (fun _ _ => rfl)) pe_str (nomark _))))) (pss_one (ps_set (i := 3) sc_run_back.nd rfl (Or.inl rfl) (pe_c c_replaced hr (by omega) rfl (pa_cons (pv 3) (pa_cons (pe_ix ix_tup (pv 7) pe_int (fun _ _ => rfl)) (pa_cons (pe_ix ix_tup (pv 7) pe_int (fun _ _ => rfl)) pa_nil)))))) (pss_one (ps_if (pt_cmpR op_gt (pe_callB call_len_seq (by rfl) T.b_len boot_len' (pa_cons (pv 7) pa_nil)) pe_int (nomark _)) (pss_one (ps_set (i := 2) sc_run_back.nd rfl (Or.inl rfl) (pe_c c_replaced hr (by omega) rfl (pa_cons (pv 2) (pa_cons (pe_ix ix_tup (pv 7) pe_int (fun _ _ => rfl)) (pa_cons (pe_ix ix_tup (pv 7) pe_int (fun _ _ => rfl)) pa_nil)))))) pss_nil)))
      (pss_cut (ps_if (pt_cmpR op_eq (pe_callB call_len_seq (by rfl) T.b_len boot_len' (pa_cons (pv 7) pa_nil)) pe_int (nomark _)) (pss_one (ps_set (i := 4) sc_run_back.nd rfl (Or.inl rfl) (pe_ix ix_tup (pv 7) pe_int (fun _ _ => rfl)))) pss_nil)
      (pss_one (ps_set (i := 2) sc_run_back.nd rfl (Or.inl rfl) (pe_c c_replaced hr (by omega) rfl (pa_cons (pv 2) (pa_cons (pe_gc (by rfl) g_REGISTERS) (pa_cons (pv 6) pa_nil)))))))))
      (pss_one (ps_ret (pe_tup (pa_cons (pv 2) (pa_cons (pv 3) (pa_cons (pv 4) pa_nil)))))))))), ?_⟩
      have ok := good_okS hg
      obtain ⟨sa, ar, ad, rfl, hs, hr1, hd1⟩ := st_dp hv
      obtain ⟨at_, xt, rfl, hat, hxt⟩ := dp_lst ht
      refine ⟨_, rfl, .ref sa, true, true, intsD st.r, st.d, .int st.t, rfl, hv, flat_ints, rfl, by rw [ints_len, hg.lr]; decide, by rw [hg.ld]; decide, fun _ H2 s2 => ?_, fun e => absurd ok (by rw [e]; decide)⟩
      refine ⟨_, rfl, sa, _, rfl, Same.tup s2 hs, rfl, ?_⟩
      refine ⟨_, _, rfl, _, _, rfl, _, _, rfl, rfl, ?_⟩
      refine ⟨_, rfl, at_, rfl, ⟨_, s2.seq hat⟩, for_list (K := K) (a := at_) (xs := xt) (fun i σ H' => i ≤ pre.length ∧ ∃ o5, σ = [some (.ref sa), some (.ref at_), some (.ref ar), some (.ref ad), some (.int st.t), o5, none, none] ∧ Same H H') ⟨Nat.zero_le _, none, rfl, s2⟩ ?_ ?_ ?_⟩
      · rintro i σ H' _ ⟨_, o5, _, s3⟩
        exact s3.seq hat
      · rintro i y σ H' hi ⟨il, o5, rfl, s3⟩
        obtain ⟨d, hdi, dx⟩ := dps_getv hxt hi
        by_cases hip : i < pre.length
        · rw [List.getElem?_append_left (by rw [List.length_map]; exact hip), List.getElem?_map] at hdi
          obtain ⟨r, hr', rfl⟩ := Option.map_eq_some_iff.mp hdi
          exact ⟨_, rfl, y, rfl, .inl ⟨r, dp_same s3 dx, hpre r (List.mem_of_getElem? hr'), fun H4 s4 => ⟨hip, _, rfl, s3.trans s4⟩⟩⟩
        · have e : i = (pre.map rowD).length := by rw [List.length_map]; omega
          rw [e, List.getElem?_append_right (Nat.le_refl _), Nat.sub_self] at hdi
          cases hdi
          exact ⟨_, rfl, y, rfl, .inr ⟨_, hbad, dp_same s3 dx, RaiseF.later s3 kr⟩⟩
      · rintro σ H' ⟨il, _⟩
        rw [dps_len hxt, List.length_append, List.length_map, List.length_cons] at il
        omega
    · have ok := good_okS hg
      obtain ⟨sa, ar, ad, rfl, hs, hr1, hd1⟩ := st_dp hv
      rcases ht with ht | ht
      · obtain ⟨at_, xt, rfl, hat, hxt⟩ := dp_lst ht
        have hxl : xt.length = tr.length := by rw [dps_len hxt, List.length_map]
        refine ⟨_, (pss_cons (ps_expr (pe_cx c_check_state hr (by omega) rfl (takes_of rfl rfl rfl rfl) (pa_cons (pv 0) pa_nil)))
      (pss_cons (ps_asg (pv 0) (pg_tup rfl (pgs_cons (pg_name (i := 2) sc_run_back.nd rfl (Or.inl rfl)) (pgs_cons (pg_name (i := 3) sc_run_back.nd rfl (Or.inl rfl)) (pgs_cons (pg_name (i := 4) sc_run_back.nd rfl (Or.inl rfl)) pgs_nil)))))
      (pss_cons (ps_for (passes_of rfl) rfl (pi_list (pv 1)) (pg_name (i := 5) sc_run_back.nd rfl (Or.inl rfl)) (pss_one (ps_expr (pe_cx c_check_row hr (by omega) rfl (takes_of rfl rfl rfl rfl) (pa_cons (pv 5) pa_nil)))))
      (pss_cons (ps_for (passes_of rfl) rfl (RT.pi_revA (by rfl) T.b_reversed (pv 1)) (pg_tup rfl (pgs_cons (pg_name (i := 6) sc_run_back.nd rfl (Or.inl rfl)) (pgs_cons (pg_name (i := 7) sc_run_back.nd rfl (Or.inl rfl)) pgs_nil))) (pss_cut (ps_if (PW.pt (pw_and (pt_cmpR op_gt (pe_callB call_len_seq (by rfl) T.b_len boot_len' (pa_cons (pv 7) pa_nil)) pe_int (nomark _)) (pw_and1 (pt_cmpR op_eq (pe_ix ix_tup (pv 7) pe_int (fun _ _ => rfl)) pe_str (nomark _))))) (pss_one (ps_set (i := 3) sc_run_back.nd rfl (Or.inl rfl) (pe_c c_replaced hr (by omega) rfl (pa_cons (pv 3) (pa_cons (pe_ix ix_tup (pv 7) pe_int (fun _ _ => rfl)) (pa_cons (pe_ix ix_tup (pv 7) pe_int (fun _ _ => rfl)) pa_nil)))))) (pss_one (ps_if (pt_cmpR op_gt (pe_callB call_len_seq (by rfl) T.b_len boot_len' (pa_cons (pv 7) pa_nil)) pe_int (nomark _)) (pss_one (ps_set (i := 2) sc_run_back.nd rfl (Or.inl rfl) (pe_c c_replaced hr (by omega) rfl (pa_cons (pv 2) (pa_cons (pe_ix ix_tup (pv 7) pe_int (fun _ _ => rfl)) (pa_cons (pe_ix ix_tup (pv 7) pe_int (fun _ _ => rfl)) pa_nil)))))) pss_nil)))
      (pss_cut (ps_if (pt_cmpR op_eq (pe_callB call_len_seq (by rfl) T.b_len boot_len' (pa_cons (pv 7) pa_nil)) pe_int (nomark _)) (pss_one (ps_set (i := 4) sc_run_back.nd rfl (Or.inl rfl) (pe_ix ix_tup (pv 7) pe_int (fun _ _ => rfl)))) pss_nil)
      (pss_one (ps_set (i := 2) sc_run_back.nd rfl (Or.inl rfl) (pe_c c_replaced hr (by omega) rfl (pa_cons (pv 2) (pa_cons (pe_gc (by rfl) g_REGISTERS) (pa_cons (pv 6) pa_nil)))))))))
      (pss_one (ps_ret (pe_tup (pa_cons (pv 2) (pa_cons (pv 3) (pa_cons (pv 4) pa_nil)))))))))), ?_⟩
        cases dp_int (dR H)
        refine ⟨_, rfl, .ref sa, true, true, intsD st.r, st.d, .int st.t, rfl, hv, flat_ints, rfl, by rw [ints_len, hg.lr]; decide, by rw [hg.ld]; decide, fun _ H2 s2 => ?_, fun e => absurd ok (by rw [e]; decide)⟩
        refine ⟨_, rfl, sa, _, rfl, Same.tup s2 hs, rfl, ?_⟩
        refine ⟨_, _, rfl, _, _, rfl, _, _, rfl, rfl, ?_⟩
        refine ⟨_, rfl, at_, rfl, ⟨_, s2.seq hat⟩, for_list (K := K) (a := at_) (xs := xt) (fun i σ H' => ∃ o5, σ = [some (.ref sa), some (.ref at_), some (.ref ar), some (.ref ad), some (.int st.t), o5, none, none] ∧ Same H H') ⟨none, rfl, s2⟩ ?_ ?_ ?_⟩
        · rintro i σ H' _ ⟨o5, _, s3⟩
          exact s3.seq hat
        · rintro i y σ H' hi ⟨o5, rfl, s3⟩
          obtain ⟨d, hdi, dx⟩ := dps_getv hxt hi
          rw [List.getElem?_map] at hdi
          obtain ⟨r, hr', rfl⟩ := Option.map_eq_some_iff.mp hdi
          exact ⟨_, rfl, y, rfl, .inl ⟨r, dp_same s3 dx, htr r (List.mem_of_getElem? hr'), fun H4 s4 => ⟨_, rfl, s3.trans s4⟩⟩⟩
        · rintro σ H' ⟨o5, rfl, s3⟩
          refine ⟨_, rfl, at_, xt, rfl, .inl ⟨s3.seq hat, RT.for_Itv (K := K) (a := at_) (xs := xt) (fun j σ H' => ∃ (vr vd : V) (o5 o6 o7 : Option V) (sj : Mc), σ = [some (.ref sa), some (.ref at_), some vr, some vd, some (.int sj.t), o5, o6, o7] ∧ Same H H' ∧ Dp K H' vr (.tuple (intsD sj.r)) ∧ Dp K H' vd (.tuple (intsD sj.d)) ∧ Lens sj ∧ sj = back st (tr.drop (tr.length - j)))
            ⟨_, _, o5, none, none, st, rfl, s3, dp_same s3 (dp_ints hr1), dp_same s3 (dp_ints hd1), ⟨hg.lr, hg.ld⟩, by rw [Nat.sub_zero, List.drop_length]; rfl⟩ ?_ ?_ ?_⟩⟩
          · rintro j σ H' ⟨_, _, _, _, _, _, _, s3, _⟩
            exact s3.seq hat
          · rintro j y σ H3 hj hi ⟨vr, vd, o5, o6, o7, sj, rfl, s3, hvr, hvd, hl, ej⟩
            obtain ⟨d, hdi, dx⟩ := dps_getv hxt hi
            rw [hxl, List.getElem?_map] at hdi
            obtain ⟨⟨wi, wh⟩, hr', rfl⟩ := Option.map_eq_some_iff.mp hdi
            have hjn : j < tr.length := by omega
            have hro := htr _ (List.mem_of_getElem? hr')
            subst ej
            generalize hsj : back st (tr.drop (tr.length - j)) = sj at hvr hvd hl ⊢
            obtain ⟨z, zs, rfl, hz, hzs⟩ := dp_tup (dp_same s3 dx)
            obtain ⟨_, yw, rfl, d0, dw⟩ := dps2 hzs
            cases dp_int d0
            refine ⟨z, _, rfl, hz, rfl, ?_⟩
            refine ⟨_, _, rfl, _, _, rfl, rfl, ?_⟩
            cases wh with
            | non =>
              obtain ⟨b, ys, rfl, hb1, hys⟩ := dp_tup dw
              cases hys
              refine ⟨fun σ' H' => ∃ vr vd, σ' = [some (.ref sa), some (.ref at_), some vr, some vd, some (.int sj.t), o5, some (.int wi), some (.ref b)] ∧ Same H3 H' ∧ Dp K H' vr (.tuple (intsD sj.r)) ∧ Dp K H' vd (.tuple (intsD sj.d)), ?_, ?_⟩
              · exact ⟨_, rfl, b, _, rfl, .inr hb1, _, _, rfl, rfl, _, rfl, ifF rfl ⟨_, rfl, b, _, rfl, .inr hb1, _, _, rfl, rfl, _, rfl, ifF rfl ⟨vr, vd, rfl, Same.refl _, hvr, hvd⟩⟩⟩
              rintro σ' H4 ⟨vr, vd, rfl, s4, hvr, hvd⟩
              have hb4 := Same.tup s4 hb1
              refine ⟨fun σ' H' => σ' = [some (.ref sa), some (.ref at_), some vr, some vd, some (.int sj.t), o5, some (.int wi), some (.ref b)] ∧ H' = H4, ?_, ?_⟩
              · exact ⟨_, rfl, b, _, rfl, .inr hb4, rfl, _, rfl, ifF rfl ⟨rfl, rfl⟩⟩
              rintro σ' H' ⟨rfl, rfl⟩
              refine ⟨_, rfl, _, rfl, vr, sj.r, 4, wi, rfl, hvr, by decide, by have := hl.1; (try simp only [put_len]); omega, by have := hl.1; (try simp only [put_len]); omega, fun u H5 s5 d5 => ?_⟩
              exact ⟨_, _, _, _, _, undo sj (wi, .non), rfl, (s3.trans s4).trans s5, d5, dp_same s5 hvd, lens_undo hl _, by rw [← hsj]; exact (back_drop hjn hr').symm⟩
            | reg wa wo =>
              obtain ⟨b, ys, rfl, hb1, hys⟩ := dp_tup dw
              obtain ⟨_, _, _, rfl, w0, w1, w2⟩ := dps3 hys
              cases dp_str w0
              cases dp_int w1
              cases dp_int w2
              refine ⟨fun σ' H' => ∃ vr vd, σ' = [some (.ref sa), some (.ref at_), some vr, some vd, some (.int sj.t), o5, some (.int wi), some (.ref b)] ∧ Same H3 H' ∧ Dp K H' vr (.tuple (intsD (put sj.r wa wo))) ∧ Dp K H' vd (.tuple (intsD sj.d)), ?_, ?_⟩
              · refine ⟨_, rfl, b, _, rfl, .inr hb1, _, _, rfl, rfl, _, rfl, ifT rfl ⟨_, rfl, b, _, 0, _, rfl, rfl, hb1, atI_nat (j := 0) rfl, rfl, _, rfl, ifF (by decide) ?_⟩⟩
                refine ⟨_, rfl, b, _, rfl, .inr hb1, _, _, rfl, rfl, _, rfl, ifT rfl ?_⟩
                exact ⟨_, rfl, _, rfl, b, _, 1, _, rfl, rfl, hb1, atI_nat (j := 1) rfl, _, rfl, b, _, 2, _, rfl, rfl, hb1, atI_nat (j := 2) rfl, vr, sj.r, wa, wo, rfl, hvr, hro.2.1, by have := hro.2.2.1; have := hl.1; omega, by have := hl.1; omega, fun u H4 s4 d4 => ⟨u, vd, rfl, s4, d4, dp_same s4 hvd⟩⟩
              rintro σ' H4 ⟨vr, vd, rfl, s4, hvr, hvd⟩
              have hb4 := Same.tup s4 hb1
              refine ⟨fun σ' H' => σ' = [some (.ref sa), some (.ref at_), some vr, some vd, some (.int sj.t), o5, some (.int wi), some (.ref b)] ∧ H' = H4, ?_, ?_⟩
              · exact ⟨_, rfl, b, _, rfl, .inr hb4, rfl, _, rfl, ifF rfl ⟨rfl, rfl⟩⟩
              rintro σ' H' ⟨rfl, rfl⟩
              refine ⟨_, rfl, _, rfl, vr, (put sj.r wa wo), 4, wi, rfl, hvr, by decide, by have := hl.1; (try simp only [put_len]); omega, by have := hl.1; (try simp only [put_len]); omega, fun u H5 s5 d5 => ?_⟩
              exact ⟨_, _, _, _, _, undo sj (wi, .reg wa wo), rfl, (s3.trans s4).trans s5, d5, dp_same s5 hvd, lens_undo hl _, by rw [← hsj]; exact (back_drop hjn hr').symm⟩
            | byt wa wo =>
              obtain ⟨b, ys, rfl, hb1, hys⟩ := dp_tup dw
              obtain ⟨_, _, _, rfl, w0, w1, w2⟩ := dps3 hys
              cases dp_str w0
              cases dp_int w1
              cases dp_int w2
              refine ⟨fun σ' H' => ∃ vr vd, σ' = [some (.ref sa), some (.ref at_), some vr, some vd, some (.int sj.t), o5, some (.int wi), some (.ref b)] ∧ Same H3 H' ∧ Dp K H' vr (.tuple (intsD sj.r)) ∧ Dp K H' vd (.tuple (intsD (put sj.d wa wo))), ?_, ?_⟩
              · refine ⟨_, rfl, b, _, rfl, .inr hb1, _, _, rfl, rfl, _, rfl, ifT rfl ⟨_, rfl, b, _, 0, _, rfl, rfl, hb1, atI_nat (j := 0) rfl, rfl, _, rfl, ifT (by decide) ?_⟩⟩
                exact ⟨_, rfl, _, rfl, b, _, 1, _, rfl, rfl, hb1, atI_nat (j := 1) rfl, _, rfl, b, _, 2, _, rfl, rfl, hb1, atI_nat (j := 2) rfl, vd, sj.d, wa, wo, rfl, hvd, hro.2.1, by have := hro.2.2.1; have := hl.2; omega, by have := hl.2; omega, fun u H4 s4 d4 => ⟨vr, u, rfl, s4, dp_same s4 hvr, d4⟩⟩
              rintro σ' H4 ⟨vr, vd, rfl, s4, hvr, hvd⟩
              have hb4 := Same.tup s4 hb1
              refine ⟨fun σ' H' => σ' = [some (.ref sa), some (.ref at_), some vr, some vd, some (.int sj.t), o5, some (.int wi), some (.ref b)] ∧ H' = H4, ?_, ?_⟩
              · exact ⟨_, rfl, b, _, rfl, .inr hb4, rfl, _, rfl, ifF rfl ⟨rfl, rfl⟩⟩
              rintro σ' H' ⟨rfl, rfl⟩
              refine ⟨_, rfl, _, rfl, vr, sj.r, 4, wi, rfl, hvr, by decide, by have := hl.1; (try simp only [put_len]); omega, by have := hl.1; (try simp only [put_len]); omega, fun u H5 s5 d5 => ?_⟩
              exact ⟨_, _, _, _, _, undo sj (wi, .byt wa wo), rfl, (s3.trans s4).trans s5, d5, dp_same s5 hvd, lens_undo hl _, by rw [← hsj]; exact (back_drop hjn hr').symm⟩
            | inp wa wo wt =>
              obtain ⟨b, ys, rfl, hb1, hys⟩ := dp_tup dw
              obtain ⟨_, _, _, _, rfl, w0, w1, w2, w3⟩ := dps4 hys
              cases dp_str w0
              cases dp_int w1
              cases dp_int w2
              cases dp_int w3
              refine ⟨fun σ' H' => ∃ vr vd, σ' = [some (.ref sa), some (.ref at_), some vr, some vd, some (.int sj.t), o5, some (.int wi), some (.ref b)] ∧ Same H3 H' ∧ Dp K H' vr (.tuple (intsD (put sj.r wa wo))) ∧ Dp K H' vd (.tuple (intsD sj.d)), ?_, ?_⟩
              · refine ⟨_, rfl, b, _, rfl, .inr hb1, _, _, rfl, rfl, _, rfl, ifT rfl ⟨_, rfl, b, _, 0, _, rfl, rfl, hb1, atI_nat (j := 0) rfl, rfl, _, rfl, ifF (by decide) ?_⟩⟩
                refine ⟨_, rfl, b, _, rfl, .inr hb1, _, _, rfl, rfl, _, rfl, ifT rfl ?_⟩
                exact ⟨_, rfl, _, rfl, b, _, 1, _, rfl, rfl, hb1, atI_nat (j := 1) rfl, _, rfl, b, _, 2, _, rfl, rfl, hb1, atI_nat (j := 2) rfl, vr, sj.r, wa, wo, rfl, hvr, hro.2.1, by have := hro.2.2.1; have := hl.1; omega, by have := hl.1; omega, fun u H4 s4 d4 => ⟨u, vd, rfl, s4, d4, dp_same s4 hvd⟩⟩
              rintro σ' H4 ⟨vr, vd, rfl, s4, hvr, hvd⟩
              have hb4 := Same.tup s4 hb1
              refine ⟨fun σ' H' => σ' = [some (.ref sa), some (.ref at_), some vr, some vd, some (.int wt), o5, some (.int wi), some (.ref b)] ∧ H' = H4, ?_, ?_⟩
              · exact ⟨_, rfl, b, _, rfl, .inr hb4, rfl, _, rfl, ifT rfl ⟨_, rfl, b, _, 3, _, rfl, rfl, hb4, atI_nat (j := 3) rfl, rfl, rfl⟩⟩
              rintro σ' H' ⟨rfl, rfl⟩
              refine ⟨_, rfl, _, rfl, vr, (put sj.r wa wo), 4, wi, rfl, hvr, by decide, by have := hl.1; (try simp only [put_len]); omega, by have := hl.1; (try simp only [put_len]); omega, fun u H5 s5 d5 => ?_⟩
              exact ⟨_, _, _, _, _, undo sj (wi, .inp wa wo wt), rfl, (s3.trans s4).trans s5, d5, dp_same s5 hvd, lens_undo hl _, by rw [← hsj]; exact (back_drop hjn hr').symm⟩
          · rintro σ H' ⟨vr, vd, o5, o6, o7, sj, rfl, s3, hvr, hvd, hl, ej⟩
            rw [hxl, Nat.sub_self, List.drop_zero] at ej
            refine ⟨_, rfl, _, rfl, _, rfl, (show 3 ≤ sizeLine by decide), fun t nt => ?_⟩
            have x5 := same_new (o := HO.tup [vr, vd, V.int sj.t]) nt
            refine k _ _ (s3.trans x5) ?_
            rw [← ej]
            exact .tup (SqT.of upd_same) (.cons (dp_same x5 hvr) (.cons (dp_same x5 hvd) (.cons (.int _) .nil)))
      · obtain ⟨at_, xt, rfl, hat, hxt⟩ := dp_tup ht
        have hxl : xt.length = tr.length := by rw [dps_len hxt, List.length_map]
        refine ⟨_, (pss_cons (ps_expr (pe_cx c_check_state hr (by omega) rfl (takes_of rfl rfl rfl rfl) (pa_cons (pv 0) pa_nil)))
      (pss_cons (ps_asg (pv 0) (pg_tup rfl (pgs_cons (pg_name (i := 2) sc_run_back.nd rfl (Or.inl rfl)) (pgs_cons (pg_name (i := 3) sc_run_back.nd rfl (Or.inl rfl)) (pgs_cons (pg_name (i := 4) sc_run_back.nd rfl (Or.inl rfl)) pgs_nil)))))
      (pss_cons (ps_for (passes_of rfl) rfl (pi_tup (pv 1)) (pg_name (i := 5) sc_run_back.nd rfl (Or.inl rfl)) (pss_one (ps_expr (pe_cx c_check_row hr (by omega) rfl (takes_of rfl rfl rfl rfl) (pa_cons (pv 5) pa_nil)))))
      (pss_cons (ps_for (passes_of rfl) rfl (RT.pi_revA (by rfl) T.b_reversed (pv 1)) (pg_tup rfl (pgs_cons (pg_name (i := 6) sc_run_back.nd rfl (Or.inl rfl)) (pgs_cons (pg_name (i := 7) sc_run_back.nd rfl (Or.inl rfl)) pgs_nil))) (pss_cut (ps_if (PW.pt (pw_and (pt_cmpR op_gt (pe_callB call_len_seq (by rfl) T.b_len boot_len' (pa_cons (pv 7) pa_nil)) pe_int (nomark _)) (pw_and1 (pt_cmpR op_eq (pe_ix ix_tup (pv 7) pe_int (fun _ _ => rfl)) pe_str (nomark _))))) (pss_one (ps_set (i := 3) sc_run_back.nd rfl (Or.inl rfl) (pe_c c_replaced hr (by omega) rfl (pa_cons (pv 3) (pa_cons (pe_ix ix_tup (pv 7) pe_int (fun _ _ => rfl)) (pa_cons (pe_ix ix_tup (pv 7) pe_int (fun _ _ => rfl)) pa_nil)))))) (pss_one (ps_if (pt_cmpR op_gt (pe_callB call_len_seq (by rfl) T.b_len boot_len' (pa_cons (pv 7) pa_nil)) pe_int (nomark _)) (pss_one (ps_set (i := 2) sc_run_back.nd rfl (Or.inl rfl) (pe_c c_replaced hr (by omega) rfl (pa_cons (pv 2) (pa_cons (pe_ix ix_tup (pv 7) pe_int (fun _ _ => rfl)) (pa_cons (pe_ix ix_tup (pv 7) pe_int (fun _ _ => rfl)) pa_nil)))))) pss_nil)))
      (pss_cut (ps_if (pt_cmpR op_eq (pe_callB call_len_seq (by rfl) T.b_len boot_len' (pa_cons (pv 7) pa_nil)) pe_int (nomark _)) (pss_one (ps_set (i := 4) sc_run_back.nd rfl (Or.inl rfl) (pe_ix ix_tup (pv 7) pe_int (fun _ _ => rfl)))) pss_nil)
      (pss_one (ps_set (i := 2) sc_run_back.nd rfl (Or.inl rfl) (pe_c c_replaced hr (by omega) rfl (pa_cons (pv 2) (pa_cons (pe_gc (by rfl) g_REGISTERS) (pa_cons (pv 6) pa_nil)))))))))
      (pss_one (ps_ret (pe_tup (pa_cons (pv 2) (pa_cons (pv 3) (pa_cons (pv 4) pa_nil)))))))))), ?_⟩
        cases dp_int (dR H)
        refine ⟨_, rfl, .ref sa, true, true, intsD st.r, st.d, .int st.t, rfl, hv, flat_ints, rfl, by rw [ints_len, hg.lr]; decide, by rw [hg.ld]; decide, fun _ H2 s2 => ?_, fun e => absurd ok (by rw [e]; decide)⟩
        refine ⟨_, rfl, sa, _, rfl, Same.tup s2 hs, rfl, ?_⟩
        refine ⟨_, _, rfl, _, _, rfl, _, _, rfl, rfl, ?_⟩
        refine ⟨_, rfl, at_, rfl, ⟨_, Same.tup s2 hat⟩, for_tup (K := K) (a := at_) (xs := xt) (fun i σ H' => ∃ o5, σ = [some (.ref sa), some (.ref at_), some (.ref ar), some (.ref ad), some (.int st.t), o5, none, none] ∧ Same H H') ⟨none, rfl, s2⟩ ?_ ?_ ?_⟩
        · rintro i σ H' _ ⟨o5, _, s3⟩
          exact Same.tup s3 hat
        · rintro i y σ H' hi ⟨o5, rfl, s3⟩
          obtain ⟨d, hdi, dx⟩ := dps_getv hxt hi
          rw [List.getElem?_map] at hdi
          obtain ⟨r, hr', rfl⟩ := Option.map_eq_some_iff.mp hdi
          exact ⟨_, rfl, y, rfl, .inl ⟨r, dp_same s3 dx, htr r (List.mem_of_getElem? hr'), fun H4 s4 => ⟨_, rfl, s3.trans s4⟩⟩⟩
        · rintro σ H' ⟨o5, rfl, s3⟩
          refine ⟨_, rfl, at_, xt, rfl, .inr ⟨Same.tup s3 hat, RT.for_ItvT (K := K) (a := at_) (xs := xt) (fun j σ H' => ∃ (vr vd : V) (o5 o6 o7 : Option V) (sj : Mc), σ = [some (.ref sa), some (.ref at_), some vr, some vd, some (.int sj.t), o5, o6, o7] ∧ Same H H' ∧ Dp K H' vr (.tuple (intsD sj.r)) ∧ Dp K H' vd (.tuple (intsD sj.d)) ∧ Lens sj ∧ sj = back st (tr.drop (tr.length - j)))
            ⟨_, _, o5, none, none, st, rfl, s3, dp_same s3 (dp_ints hr1), dp_same s3 (dp_ints hd1), ⟨hg.lr, hg.ld⟩, by rw [Nat.sub_zero, List.drop_length]; rfl⟩ ?_ ?_ ?_⟩⟩
          · rintro j σ H' ⟨_, _, _, _, _, _, _, s3, _⟩
            exact Same.tup s3 hat
          · rintro j y σ H3 hj hi ⟨vr, vd, o5, o6, o7, sj, rfl, s3, hvr, hvd, hl, ej⟩
            obtain ⟨d, hdi, dx⟩ := dps_getv hxt hi
            rw [hxl, List.getElem?_map] at hdi
            obtain ⟨⟨wi, wh⟩, hr', rfl⟩ := Option.map_eq_some_iff.mp hdi
            have hjn : j < tr.length := by omega
            have hro := htr _ (List.mem_of_getElem? hr')
            subst ej
            generalize hsj : back st (tr.drop (tr.length - j)) = sj at hvr hvd hl ⊢
            obtain ⟨z, zs, rfl, hz, hzs⟩ := dp_tup (dp_same s3 dx)
            obtain ⟨_, yw, rfl, d0, dw⟩ := dps2 hzs
            cases dp_int d0
            refine ⟨z, _, rfl, hz, rfl, ?_⟩
            refine ⟨_, _, rfl, _, _, rfl, rfl, ?_⟩
            cases wh with
            | non =>
              obtain ⟨b, ys, rfl, hb1, hys⟩ := dp_tup dw
              cases hys
              refine ⟨fun σ' H' => ∃ vr vd, σ' = [some (.ref sa), some (.ref at_), some vr, some vd, some (.int sj.t), o5, some (.int wi), some (.ref b)] ∧ Same H3 H' ∧ Dp K H' vr (.tuple (intsD sj.r)) ∧ Dp K H' vd (.tuple (intsD sj.d)), ?_, ?_⟩
              · exact ⟨_, rfl, b, _, rfl, .inr hb1, _, _, rfl, rfl, _, rfl, ifF rfl ⟨_, rfl, b, _, rfl, .inr hb1, _, _, rfl, rfl, _, rfl, ifF rfl ⟨vr, vd, rfl, Same.refl _, hvr, hvd⟩⟩⟩
              rintro σ' H4 ⟨vr, vd, rfl, s4, hvr, hvd⟩
              have hb4 := Same.tup s4 hb1
              refine ⟨fun σ' H' => σ' = [some (.ref sa), some (.ref at_), some vr, some vd, some (.int sj.t), o5, some (.int wi), some (.ref b)] ∧ H' = H4, ?_, ?_⟩
              · exact ⟨_, rfl, b, _, rfl, .inr hb4, rfl, _, rfl, ifF rfl ⟨rfl, rfl⟩⟩
              rintro σ' H' ⟨rfl, rfl⟩
              refine ⟨_, rfl, _, rfl, vr, sj.r, 4, wi, rfl, hvr, by decide, by have := hl.1; (try simp only [put_len]); omega, by have := hl.1; (try simp only [put_len]); omega, fun u H5 s5 d5 => ?_⟩
              exact ⟨_, _, _, _, _, undo sj (wi, .non), rfl, (s3.trans s4).trans s5, d5, dp_same s5 hvd, lens_undo hl _, by rw [← hsj]; exact (back_drop hjn hr').symm⟩
            | reg wa wo =>
              obtain ⟨b, ys, rfl, hb1, hys⟩ := dp_tup dw
              obtain ⟨_, _, _, rfl, w0, w1, w2⟩ := dps3 hys
              cases dp_str w0
              cases dp_int w1
              cases dp_int w2
              refine ⟨fun σ' H' => ∃ vr vd, σ' = [some (.ref sa), some (.ref at_), some vr, some vd, some (.int sj.t), o5, some (.int wi), some (.ref b)] ∧ Same H3 H' ∧ Dp K H' vr (.tuple (intsD (put sj.r wa wo))) ∧ Dp K H' vd (.tuple (intsD sj.d)), ?_, ?_⟩
              · refine ⟨_, rfl, b, _, rfl, .inr hb1, _, _, rfl, rfl, _, rfl, ifT rfl ⟨_, rfl, b, _, 0, _, rfl, rfl, hb1, atI_nat (j := 0) rfl, rfl, _, rfl, ifF (by decide) ?_⟩⟩
                refine ⟨_, rfl, b, _, rfl, .inr hb1, _, _, rfl, rfl, _, rfl, ifT rfl ?_⟩
                exact ⟨_, rfl, _, rfl, b, _, 1, _, rfl, rfl, hb1, atI_nat (j := 1) rfl, _, rfl, b, _, 2, _, rfl, rfl, hb1, atI_nat (j := 2) rfl, vr, sj.r, wa, wo, rfl, hvr, hro.2.1, by have := hro.2.2.1; have := hl.1; omega, by have := hl.1; omega, fun u H4 s4 d4 => ⟨u, vd, rfl, s4, d4, dp_same s4 hvd⟩⟩
              rintro σ' H4 ⟨vr, vd, rfl, s4, hvr, hvd⟩
              have hb4 := Same.tup s4 hb1
              refine ⟨fun σ' H' => σ' = [some (.ref sa), some (.ref at_), some vr, some vd, some (.int sj.t), o5, some (.int wi), some (.ref b)] ∧ H' = H4, ?_, ?_⟩
              · exact ⟨_, rfl, b, _, rfl, .inr hb4, rfl, _, rfl, ifF rfl ⟨rfl, rfl⟩⟩
              rintro σ' H' ⟨rfl, rfl⟩
              refine ⟨_, rfl, _, rfl, vr, (put sj.r wa wo), 4, wi, rfl, hvr, by decide, by have := hl.1; (try simp only [put_len]); omega, by have := hl.1; (try simp only [put_len]); omega, fun u H5 s5 d5 => ?_⟩
              exact ⟨_, _, _, _, _, undo sj (wi, .reg wa wo), rfl, (s3.trans s4).trans s5, d5, dp_same s5 hvd, lens_undo hl _, by rw [← hsj]; exact (back_drop hjn hr').symm⟩
            | byt wa wo =>
              obtain ⟨b, ys, rfl, hb1, hys⟩ := dp_tup dw
              obtain ⟨_, _, _, rfl, w0, w1, w2⟩ := dps3 hys
              cases dp_str w0
              cases dp_int w1
              cases dp_int w2
              refine ⟨fun σ' H' => ∃ vr vd, σ' = [some (.ref sa), some (.ref at_), some vr, some vd, some (.int sj.t), o5, some (.int wi), some (.ref b)] ∧ Same H3 H' ∧ Dp K H' vr (.tuple (intsD sj.r)) ∧ Dp K H' vd (.tuple (intsD (put sj.d wa wo))), ?_, ?_⟩
              · refine ⟨_, rfl, b, _, rfl, .inr hb1, _, _, rfl, rfl, _, rfl, ifT rfl ⟨_, rfl, b, _, 0, _, rfl, rfl, hb1, atI_nat (j := 0) rfl, rfl, _, rfl, ifT (by decide) ?_⟩⟩
                exact ⟨_, rfl, _, rfl, b, _, 1, _, rfl, rfl, hb1, atI_nat (j := 1) rfl, _, rfl, b, _, 2, _, rfl, rfl, hb1, atI_nat (j := 2) rfl, vd, sj.d, wa, wo, rfl, hvd, hro.2.1, by have := hro.2.2.1; have := hl.2; omega, by have := hl.2; omega, fun u H4 s4 d4 => ⟨vr, u, rfl, s4, dp_same s4 hvr, d4⟩⟩
              rintro σ' H4 ⟨vr, vd, rfl, s4, hvr, hvd⟩
              have hb4 := Same.tup s4 hb1
              refine ⟨fun σ' H' => σ' = [some (.ref sa), some (.ref at_), some vr, some vd, some (.int sj.t), o5, some (.int wi), some (.ref b)] ∧ H' = H4, ?_, ?_⟩
              · exact ⟨_, rfl, b, _, rfl, .inr hb4, rfl, _, rfl, ifF rfl ⟨rfl, rfl⟩⟩
              rintro σ' H' ⟨rfl, rfl⟩
              refine ⟨_, rfl, _, rfl, vr, sj.r, 4, wi, rfl, hvr, by decide, by have := hl.1; (try simp only [put_len]); omega, by have := hl.1; (try simp only [put_len]); omega, fun u H5 s5 d5 => ?_⟩
              exact ⟨_, _, _, _, _, undo sj (wi, .byt wa wo), rfl, (s3.trans s4).trans s5, d5, dp_same s5 hvd, lens_undo hl _, by rw [← hsj]; exact (back_drop hjn hr').symm⟩
            | inp wa wo wt =>
              obtain ⟨b, ys, rfl, hb1, hys⟩ := dp_tup dw
              obtain ⟨_, _, _, _, rfl, w0, w1, w2, w3⟩ := dps4 hys
              cases dp_str w0
              cases dp_int w1
              cases dp_int w2
              cases dp_int w3
              refine ⟨fun σ' H' => ∃ vr vd, σ' = [some (.ref sa), some (.ref at_), some vr, some vd, some (.int sj.t), o5, some (.int wi), some (.ref b)] ∧ Same H3 H' ∧ Dp K H' vr (.tuple (intsD (put sj.r wa wo))) ∧ Dp K H' vd (.tuple (intsD sj.d)), ?_, ?_⟩
              · refine ⟨_, rfl, b, _, rfl, .inr hb1, _, _, rfl, rfl, _, rfl, ifT rfl ⟨_, rfl, b, _, 0, _, rfl, rfl, hb1, atI_nat (j := 0) rfl, rfl, _, rfl, ifF (by decide) ?_⟩⟩
                refine ⟨_, rfl, b, _, rfl, .inr hb1, _, _, rfl, rfl, _, rfl, ifT rfl ?_⟩
                exact ⟨_, rfl, _, rfl, b, _, 1, _, rfl, rfl, hb1, atI_nat (j := 1) rfl, _, rfl, b, _, 2, _, rfl, rfl, hb1, atI_nat (j := 2) rfl, vr, sj.r, wa, wo, rfl, hvr, hro.2.1, by have := hro.2.2.1; have := hl.1; omega, by have := hl.1; omega, fun u H4 s4 d4 => ⟨u, vd, rfl, s4, d4, dp_same s4 hvd⟩⟩
              rintro σ' H4 ⟨vr, vd, rfl, s4, hvr, hvd⟩
              have hb4 := Same.tup s4 hb1
              refine ⟨fun σ' H' => σ' = [some (.ref sa), some (.ref at_), some vr, some vd, some (.int wt), o5, some (.int wi), some (.ref b)] ∧ H' = H4, ?_, ?_⟩
              · exact ⟨_, rfl, b, _, rfl, .inr hb4, rfl, _, rfl, ifT rfl ⟨_, rfl, b, _, 3, _, rfl, rfl, hb4, atI_nat (j := 3) rfl, rfl, rfl⟩⟩
              rintro σ' H' ⟨rfl, rfl⟩
              refine ⟨_, rfl, _, rfl, vr, (put sj.r wa wo), 4, wi, rfl, hvr, by decide, by have := hl.1; (try simp only [put_len]); omega, by have := hl.1; (try simp only [put_len]); omega, fun u H5 s5 d5 => ?_⟩
              exact ⟨_, _, _, _, _, undo sj (wi, .inp wa wo wt), rfl, (s3.trans s4).trans s5, d5, dp_same s5 hvd, lens_undo hl _, by rw [← hsj]; exact (back_drop hjn hr').symm⟩
          · rintro σ H' ⟨vr, vd, o5, o6, o7, sj, rfl, s3, hvr, hvd, hl, ej⟩
            rw [hxl, Nat.sub_self, List.drop_zero] at ej
            refine ⟨_, rfl, _, rfl, _, rfl, (show 3 ≤ sizeLine by decide), fun t nt => ?_⟩
            have x5 := same_new (o := HO.tup [vr, vd, V.int sj.t]) nt
            refine k _ _ (s3.trans x5) ?_
            rw [← ej]
            exact .tup (SqT.of upd_same) (.cons (dp_same x5 hvr) (.cons (dp_same x5 hvd) (.cons (.int _) .nil)))
end
end Q40



set_option pp.maxSteps 1500
namespace Q40
open PySem L2 G M40
open C8 (Cal Met Mak pe_c pe_mk pe_mt pe_mt0 pe_gc pss_cut tCut)
/-- data of tuples, of this depth -/
def Tb : Nat → PyData → Prop
  | 0, d => flatD d = true ∨ ∃ x, d = .str x
  | n + 1, d => (flatD d = true ∨ ∃ x, d = .str x) ∨ ∃ ds, d = .tuple ds ∧ ∀ x ∈ ds, Tb n x
theorem Tb.cases {n : Nat} {d : PyData} (h : Tb n d) : (flatD d = true ∨ ∃ x, d = .str x) ∨ ∃ m ds, n = m + 1 ∧ d = .tuple ds ∧ ∀ x ∈ ds, Tb m x := by
  cases n with
  | zero => exact .inl h
  | succ m =>
    rcases h with h | ⟨ds, e, q⟩
    · exact .inl h
    · exact .inr ⟨m, ds, rfl, e, q⟩
theorem KeepT.of_butl {H H' : Hp} {a : Addr} {xs : List V} (h : H a = some (.lst xs)) (s : But a H H') : KeepT H H' := fun b u e n => s b u (fun z => by
  rw [z, h] at e
  cases e
  exact n _ rfl) e
section
variable {P : Program} {w : World} {K : PySem.W.Frag} {mg : Str → Option Value} {base : Heap}
/-! ### _law_spoil -/
def spSpoil (K : PySem.W.Frag) : Nat → Sp
  | 0 => fun _ _ _ _ => False
  | n + 1 => fun vs H Q _ =>
    (∃ (v : V) (d : PyData), vs = [v] ∧ Dp K H v d ∧ Tb n d ∧ ∀ H', Same H H' → Q .non H') ∨
    (∃ (m : Nat) (a : Addr) (xs : List V) (ds : List PyData), n = m + 1 ∧ vs = [.ref a] ∧ H a = some (.lst xs) ∧ DpAll K H xs ds ∧ (∀ d ∈ ds, Tb m d) ∧ ds.length ≤ 10000 ∧ ∀ H', But a H H' → Q .non H') ∨
    (∃ (m : Nat) (b a1 a2 : Addr) (x1 x2 : List V) (d1 d2 : List PyData), n = m + 2 ∧ vs = [.ref b] ∧ a1 ≠ a2 ∧ b ≠ a1 ∧ b ≠ a2 ∧ H b = some (.lst [.ref a1, .ref a2]) ∧ H a1 = some (.lst x1) ∧ H a2 = some (.lst x2) ∧ DpAll K H x1 d1 ∧ DpAll K H x2 d2 ∧ noLs d2 = true ∧ (∀ d ∈ d1, Tb m d) ∧ (∀ d ∈ d2, Tb m d) ∧ d1.length ≤ 10000 ∧ d2.length ≤ 10000 ∧
      ∀ H', (∀ x o, x ≠ a1 → x ≠ a2 → x ≠ b → H x = some o → H' x = some o) → Q .non H')
theorem ok_spoil {f : Addr} {fd : FuncData} (F : Fun K "_law_spoil" "_law_spoil" s__law_spoil f fd) (T : Txt K mg) (hm : mg "_law_spoil" = some (.ref f)) (b : Binds K fd ["value"] []) : ∀ n : Nat, FnOk P w K mg base CX0 n f fd ["value"] (spSpoil K n) := by
  intro n
  induction n with
  | zero => exact ⟨fun _ _ _ _ h => h.elim, fun _ _ _ _ _ _ _ _ _ _ _ _ _ h => h.elim⟩
  | succ n ih =>
    have c__law_spoil : Cal P w K mg base n "_law_spoil" (spSpoil K n) [] := ⟨f, fd, _, _, ih, hm, F.kp, b, .nil⟩
    refine F.ok sc__law_spoil (fun vs H Q E h => ?_) (fun cdv A outer s H vs Q E hr h => ?_)
    · rcases h with ⟨_, _, e, _⟩ | ⟨_, _, _, _, _, e, _⟩ | ⟨_, _, _, _, _, _, _, _, _, e, _⟩ <;> subst e <;> rfl
    · rcases h with ⟨v, d, e, hd, ht, k⟩ | ⟨m, a, xs, cs, en, e, ha, hxs, hcs, hl, k⟩ | ⟨m, b, a1, a2, x1, x2, d1, d2, en, e, n12, nb1, nb2, hb, h1, h2, hx1, hx2, nd2, t1, t2, l1, l2, k⟩
      · subst e
        rcases ht.cases with hf | ⟨m, ds, en, e, hds⟩
        · refine ⟨_, (pss_cut (ps_if (pt_val (pe_callB call_isiT (by rfl) T.b_isinstance boot_isinstance' (pa_cons (pv 0) (pa_cons (pe_tup (pa_cons (pe_bltn (v := .ty "list") (by rfl) T.b_list boot_list' rfl) (pa_cons (pe_bltn (v := .ty "tuple") (by rfl) T.b_tuple boot_tuple' rfl) pa_nil))) pa_nil)))) (pss_one (ps_for PassesOwn.never rfl (pi_list (pv 0)) (pg_name (i := 1) sc__law_spoil.nd rfl (Or.inl rfl)) (pss_one (ps_expr (pe_c c__law_spoil hr (by omega) rfl (pa_cons (pv 1) pa_nil)))))) pss_nil)
      (pss_one (ps_if (pt_val (pe_callB call_isi (by rfl) T.b_isinstance boot_isinstance' (pa_cons (pv 0) (pa_cons (pe_bltn (v := .ty "list") (by rfl) T.b_list boot_list' rfl) pa_nil)))) (pss_one (ps_expr (pe_bm PySem.F.plainAttrs_list PySem.F.slot_list_append PySem.F.type_list_append mt_append (pv 0) (pa_cons pe_int pa_nil)))) pss_nil))), ?_⟩
          refine ⟨fun σ' H' => ∃ o, σ' = [some v, o] ∧ Same H H', ⟨_, rfl, by decide, fun p1 n1 => ?_⟩, ?_⟩
          · have s1 := same_new (o := HO.tup [V.ty "list", V.ty "tuple"]) n1
            cases d with
            | list _ => rcases hf with hf | ⟨_, hf⟩ <;> cases hf
            | tuple _ => rcases hf with hf | ⟨_, hf⟩ <;> cases hf
            | dict _ => rcases hf with hf | ⟨_, hf⟩ <;> cases hf
            | _ =>
              refine ⟨_, _, _, _, _, _, rfl, upd_same, clsv2 _ _, dp_ty (dp_same s1 hd), kitD2 K _ _ _ (by decide) (by decide), _, rfl, iteF ?_⟩
              exact ⟨_, rfl, s1⟩
          · rintro σ' H' ⟨o, rfl, s1⟩
            cases d with
            | list _ => rcases hf with hf | ⟨_, hf⟩ <;> cases hf
            | tuple _ => rcases hf with hf | ⟨_, hf⟩ <;> cases hf
            | dict _ => rcases hf with hf | ⟨_, hf⟩ <;> cases hf
            | _ =>
              refine ⟨_, rfl, _, _, _, _, _, rfl, .ty _, dp_ty (dp_same s1 hd), kitD K _ _ (by decide), _, rfl, iteF ?_⟩
              exact k H' s1
        · subst e en
          obtain ⟨a, xs, rfl, hx, hxs⟩ := dp_tup hd
          refine ⟨_, (pss_cut (ps_if (pt_val (pe_callB call_isiT (by rfl) T.b_isinstance boot_isinstance' (pa_cons (pv 0) (pa_cons (pe_tup (pa_cons (pe_bltn (v := .ty "list") (by rfl) T.b_list boot_list' rfl) (pa_cons (pe_bltn (v := .ty "tuple") (by rfl) T.b_tuple boot_tuple' rfl) pa_nil))) pa_nil)))) (pss_one (ps_for PassesOwn.never rfl (pi_tup (pv 0)) (pg_name (i := 1) sc__law_spoil.nd rfl (Or.inl rfl)) (pss_one (ps_expr (pe_c c__law_spoil hr (by omega) rfl (pa_cons (pv 1) pa_nil)))))) pss_nil)
      (pss_one (ps_if (pt_val (pe_callB call_isi (by rfl) T.b_isinstance boot_isinstance' (pa_cons (pv 0) (pa_cons (pe_bltn (v := .ty "list") (by rfl) T.b_list boot_list' rfl) pa_nil)))) (pss_one (ps_expr (pe_bm PySem.F.plainAttrs_list PySem.F.slot_list_append PySem.F.type_list_append mt_append (pv 0) (pa_cons pe_int pa_nil)))) pss_nil))), ?_⟩
          refine ⟨fun σ' H' => ∃ o, σ' = [some (.ref a), o] ∧ Same H H', ⟨_, rfl, by decide, fun p1 n1 => ?_⟩, ?_⟩
          · have s1 := same_new (o := HO.tup [V.ty "list", V.ty "tuple"]) n1
            refine ⟨_, _, _, _, _, _, rfl, upd_same, clsv2 _ _, dp_ty (dp_same s1 hd), kitD2 K _ _ _ (by decide) (by decide), _, rfl, iteT ?_⟩
            refine ⟨_, rfl, a, rfl, ⟨_, Same.tup s1 hx⟩, for_tup (K := K) (a := a) (xs := xs) (fun i σ H' => ∃ o, σ = [some (.ref a), o] ∧ Same H H') ⟨none, rfl, s1⟩ ?_ ?_ ?_⟩
            · rintro i σ H' _ ⟨o, _, s2⟩
              exact Same.tup s2 hx
            · rintro i y σ H' hi ⟨o, rfl, s2⟩
              obtain ⟨d, hdi, dx⟩ := dps_getv hxs hi
              exact ⟨_, rfl, .inl ⟨y, d, rfl, dp_same s2 dx, hds d (List.mem_of_getElem? hdi), fun H2 s3 => ⟨_, rfl, s2.trans s3⟩⟩⟩
            · rintro σ H' ⟨o, rfl, s2⟩
              exact ⟨_, rfl, s2⟩
          · rintro σ' H' ⟨o, rfl, s1⟩
            refine ⟨_, rfl, _, _, _, _, _, rfl, .ty _, dp_ty (dp_same s1 hd), kitD K _ _ (by decide), _, rfl, iteF ?_⟩
            exact k H' s1
      · subst e en
        have hd : Dp K H (.ref a) (.list cs) := .lst (SqL.of ha) hxs
        refine ⟨_, (pss_cut (ps_if (pt_val (pe_callB call_isiT (by rfl) T.b_isinstance boot_isinstance' (pa_cons (pv 0) (pa_cons (pe_tup (pa_cons (pe_bltn (v := .ty "list") (by rfl) T.b_list boot_list' rfl) (pa_cons (pe_bltn (v := .ty "tuple") (by rfl) T.b_tuple boot_tuple' rfl) pa_nil))) pa_nil)))) (pss_one (ps_for PassesOwn.never rfl (pi_list (pv 0)) (pg_name (i := 1) sc__law_spoil.nd rfl (Or.inl rfl)) (pss_one (ps_expr (pe_c c__law_spoil hr (by omega) rfl (pa_cons (pv 1) pa_nil)))))) pss_nil)
      (pss_one (ps_if (pt_val (pe_callB call_isi (by rfl) T.b_isinstance boot_isinstance' (pa_cons (pv 0) (pa_cons (pe_bltn (v := .ty "list") (by rfl) T.b_list boot_list' rfl) pa_nil)))) (pss_one (ps_expr (pe_bm PySem.F.plainAttrs_list PySem.F.slot_list_append PySem.F.type_list_append mt_append (pv 0) (pa_cons pe_int pa_nil)))) pss_nil))), ?_⟩
        refine ⟨fun σ' H' => ∃ o, σ' = [some (.ref a), o] ∧ Same H H', ⟨_, rfl, by decide, fun p1 n1 => ?_⟩, ?_⟩
        · have s1 := same_new (o := HO.tup [V.ty "list", V.ty "tuple"]) n1
          refine ⟨_, _, _, _, _, _, rfl, upd_same, clsv2 _ _, dp_ty (dp_same s1 hd), kitD2 K _ _ _ (by decide) (by decide), _, rfl, iteT ?_⟩
          refine ⟨_, rfl, a, rfl, ⟨_, SqL.of (s1 _ _ ha)⟩, for_list (K := K) (a := a) (xs := xs) (fun i σ H' => ∃ o, σ = [some (.ref a), o] ∧ Same H H') ⟨none, rfl, s1⟩ ?_ ?_ ?_⟩
          · rintro i σ H' _ ⟨o, _, s2⟩
            exact SqL.of (s2 _ _ ha)
          · rintro i y σ H' hi ⟨o, rfl, s2⟩
            obtain ⟨d, hdi, dx⟩ := dps_getv hxs hi
            exact ⟨_, rfl, .inl ⟨y, d, rfl, dp_same s2 dx, hcs d (List.mem_of_getElem? hdi), fun H2 s3 => ⟨_, rfl, s2.trans s3⟩⟩⟩
          · rintro σ H' ⟨o, rfl, s2⟩
            exact ⟨_, rfl, s2⟩
        · rintro σ' H' ⟨o, rfl, s1⟩
          refine ⟨_, rfl, _, _, _, _, _, rfl, .ty _, dp_ty (dp_same s1 hd), kitD K _ _ (by decide), _, rfl, iteT ?_⟩
          have ha' := s1 _ _ ha
          refine ⟨_, rfl, .inl ⟨rfl, _, SqL.of ha'⟩, _, _, _, rfl, rfl, ha', size_lt (by rw [dps_len hxs]; omega), ?_⟩
          exact k _ ((But.of s1).trans but_upd)
      · subst e en
        have hd : ∀ {Hx : Hp} {ys : List V}, Hx b = some (.lst ys) → TyX K Hx (.ref b) (.type "list") := fun h => .base (.lst h)
        refine ⟨_, (pss_cut (ps_if (pt_val (pe_callB call_isiT (by rfl) T.b_isinstance boot_isinstance' (pa_cons (pv 0) (pa_cons (pe_tup (pa_cons (pe_bltn (v := .ty "list") (by rfl) T.b_list boot_list' rfl) (pa_cons (pe_bltn (v := .ty "tuple") (by rfl) T.b_tuple boot_tuple' rfl) pa_nil))) pa_nil)))) (pss_one (ps_for PassesOwn.never rfl (pi_list (pv 0)) (pg_name (i := 1) sc__law_spoil.nd rfl (Or.inl rfl)) (pss_one (ps_expr (pe_c c__law_spoil hr (by omega) rfl (pa_cons (pv 1) pa_nil)))))) pss_nil)
      (pss_one (ps_if (pt_val (pe_callB call_isi (by rfl) T.b_isinstance boot_isinstance' (pa_cons (pv 0) (pa_cons (pe_bltn (v := .ty "list") (by rfl) T.b_list boot_list' rfl) pa_nil)))) (pss_one (ps_expr (pe_bm PySem.F.plainAttrs_list PySem.F.slot_list_append PySem.F.type_list_append mt_append (pv 0) (pa_cons pe_int pa_nil)))) pss_nil))), ?_⟩
        refine ⟨fun σ' H' => ∃ o, σ' = [some (.ref b), o] ∧ ∀ x o, x ≠ a1 → x ≠ a2 → H x = some o → H' x = some o, ⟨_, rfl, by decide, fun p1 n1 => ?_⟩, ?_⟩
        · have s1 := same_new (o := HO.tup [V.ty "list", V.ty "tuple"]) n1
          refine ⟨_, _, _, _, _, _, rfl, upd_same, clsv2 _ _, hd (s1 _ _ hb), kitD2 K (.list []) _ _ (by decide) (by decide), _, rfl, iteT ?_⟩
          refine ⟨_, rfl, b, rfl, ⟨_, SqL.of (s1 _ _ hb)⟩, for_list (K := K) (a := b) (xs := [V.ref a1, V.ref a2]) (fun i σ H' => ∃ o, σ = [some (.ref b), o] ∧ (∀ x o, x ≠ a1 → x ≠ a2 → H x = some o → H' x = some o) ∧ (i = 0 → Same H H') ∧ (i = 1 → But a1 H H')) ⟨none, rfl, fun x o _ _ e => s1 _ _ e, fun _ => s1, fun z => by cases z⟩ ?_ ?_ ?_⟩
          · rintro i σ H' _ ⟨o, _, s2, _⟩
            exact SqL.of (s2 _ _ nb1 nb2 hb)
          · rintro i y σ H' hi ⟨o, rfl, s2, s3, s4⟩
            match i, hi with
            | 0, hi =>
              cases hi
              have s3 := s3 rfl
              exact ⟨_, rfl, .inr (.inl ⟨m, a1, x1, d1, rfl, rfl, s3 _ _ h1, dps_same s3 hx1, t1, l1, fun H2 s5 => ⟨_, rfl, fun x o z1 z2 e => s5 _ _ z1 (s3 _ _ e), (fun z => by cases z), fun _ => (But.of s3).trans s5⟩⟩)⟩
            | 1, hi =>
              cases hi
              have s4 := s4 rfl
              exact ⟨_, rfl, .inr (.inl ⟨m, a2, x2, d2, rfl, rfl, s4 _ _ (Ne.symm n12) h2, dps_keep (KeepT.of_butl h1 s4) nd2 hx2, t2, l2, fun H2 s5 => ⟨_, rfl, fun x o z1 z2 e => s5 _ _ z2 (s4 _ _ z1 e), (fun z => by cases z), fun z => by cases z⟩⟩)⟩
            | i + 2, hi => cases hi
          · rintro σ H' ⟨o, rfl, s2, _⟩
            exact ⟨_, rfl, s2⟩
        · rintro σ' H' ⟨o, rfl, s1⟩
          have hb' := s1 _ _ nb1 nb2 hb
          refine ⟨_, rfl, _, _, _, _, _, rfl, .ty _, hd hb', kitD K (.list []) _ (by decide), _, rfl, iteT ?_⟩
          refine ⟨_, rfl, .inl ⟨rfl, _, SqL.of hb'⟩, _, _, _, rfl, rfl, hb', (show 2 < sizeLine by decide), ?_⟩
          exact k _ fun x o z1 z2 z3 e => by rw [upd_ne z3]; exact s1 _ _ z1 z2 e
theorem tb_row (r : Row) : Tb 2 (rowD r) := by
  obtain ⟨i, w⟩ := r
  refine .inr ⟨_, rfl, fun x hx => ?_⟩
  rcases List.mem_cons.mp hx with rfl | hx
  · exact .inl (.inl rfl)
  rcases List.mem_cons.mp hx with rfl | hx
  · cases w with
    | non => exact .inr ⟨_, rfl, fun x hx => by cases hx⟩
    | _ =>
      refine .inr ⟨_, rfl, fun x hx => ?_⟩
      simp only [List.mem_cons, List.not_mem_nil, or_false] at hx
      rcases hx with rfl | hx
      · exact .inr ⟨_, rfl⟩
      · rcases hx with rfl | hx
        · exact .inl rfl
        · first
          | (subst hx; exact .inl rfl)
          | (rcases hx with rfl | rfl <;> exact .inl rfl)
  · cases hx
end
end Q40

namespace Q40
open PySem L2 G M40
/-! # the law's machine: plain lemmas and its four lists -/
def fin1 (r d : List Int) (t : Int) (v : Option Int) (goal a one : Int) (wh : What) : Mc × What :=
  match v with
  | none => (⟨put r 4 (goal % 256), d, t⟩, wh)
  | some x => (⟨put (put r a (x % 256)) 4 (goal % 256), d, t⟩, .reg a one)
theorem put_comm {r : List Int} {a p v : Int} (h0 : 0 ≤ a) (h : a < 4) : put (put r 4 p) a v = put (put r a v) 4 p := by
  unfold put
  rw [List.set_comm _ _ (by omega)]
section
variable {s : Mc} {op a b n : Int} {bi : List Int} {wh : What}
theorem fin_setR {v p x goal : Int} (h0 : 0 ≤ a) (h : a < 4) (hv : v = x % 256) (hp : p = goal % 256) : setR s a v p = fin1 s.r s.d s.t (some x) goal a (g s.r a) wh := by
  unfold setR fin1
  dsimp only
  rw [put_comm h0 h, hv, hp]
theorem fin_setD {v p ad goal one : Int} (hp : p = goal % 256) : setD s ad v p = fin1 s.r (put s.d ad v) s.t none goal a one (.byt ad (g s.d ad)) := by
  unfold setD fin1
  dsimp only
  rw [hp]
theorem fin_goTo {p goal one : Int} (hp : p = goal % 256) : goTo s p = fin1 s.r s.d s.t none goal a one .non := by
  unfold goTo fin1
  dsimp only
  rw [hp]
theorem fin_takeB {p goal one : Int} (h0 : 0 ≤ a) (h : a < 4) (hp : p = goal % 256) : takeB s a bi p = fin1 (put s.r a (if s.t < bi.length then g bi s.t else 0)) s.d (s.t + (if s.t < bi.length then 1 else 0)) none goal a one (.inp a (g s.r a) s.t) := by
  unfold takeB fin1
  dsimp only
  rw [put_comm h0 h, hp]
theorem mv1 (h : op = 1) : mv s op a b n bi = setR s a n ((g s.r 4 + 1) % 256) := by subst h; rfl
theorem mv2 (h : op = 2) : mv s op a b n bi = setR s a (res n (g s.r a) (g s.r b)) ((g s.r 4 + 1) % 256) := by subst h; rfl
theorem mv3 (h : op = 3) : mv s op a b n bi = setR s a (g s.d ((g s.r b + n) % 64)) ((g s.r 4 + 1) % 256) := by subst h; rfl
theorem mv4 (h : op = 4) : mv s op a b n bi = setD s ((g s.r b + n) % 64) (g s.r a) ((g s.r 4 + 1) % 256) := by subst h; rfl
theorem mv5 (h : op = 5) : mv s op a b n bi = setR s a (g s.d (n % 64)) ((g s.r 4 + 1) % 256) := by subst h; rfl
theorem mv6 (h : op = 6) : mv s op a b n bi = setD s (n % 64) (g s.r a) ((g s.r 4 + 1) % 256) := by subst h; rfl
theorem mv7 (h : op = 7) : mv s op a b n bi = goTo s n := by subst h; rfl
theorem mv8 (h : op = 8) : mv s op a b n bi = goTo s (if g s.r a = 0 then n else (g s.r 4 + 1) % 256) := by subst h; rfl
theorem mv9 (h : op = 9) : mv s op a b n bi = setR s a ((g s.r 4 + 1) % 256) n := by subst h; rfl
theorem mv10 (h : op = 10) : mv s op a b n bi = goTo s (g s.r a) := by subst h; rfl
theorem mv11 (h : op = 11) : mv s op a b n bi = goTo s ((g s.r 4 + 1) % 256) := by subst h; rfl
theorem mv12 (h : op = 12) : mv s op a b n bi = takeB s a bi ((g s.r 4 + 1) % 256) := by subst h; rfl
end
/-- the list of the law's machine -/
theorem res_at (n one two : Int) (h0 : 0 ≤ n) (h1 : n ≤ 8) : ∃ x, atI [V.int two, V.int (one + two), V.int (one - two + 256), V.int (Builtin.bitAnd one two), V.int (Builtin.bitOr one two), V.int (Builtin.bitXor one two), V.int (if decide (one < two) = true then 1 else 0), V.int (if decide (V.int one = V.int two) = true then 1 else 0), V.int (two / 2)] n = some (.int x) ∧ res n one two = x % 256 := by
  have e1 : (if decide (one < two) = true then (1 : Int) else 0) = if one < two then 1 else 0 := by simp
  have e2 : (if decide (V.int one = V.int two) = true then (1 : Int) else 0) = if one = two then 1 else 0 := by simp
  rw [e1, e2]
  have : n = 0 ∨ n = 1 ∨ n = 2 ∨ n = 3 ∨ n = 4 ∨ n = 5 ∨ n = 6 ∨ n = 7 ∨ n = 8 := by omega
  rcases this with rfl | rfl | rfl | rfl | rfl | rfl | rfl | rfl | rfl
  · exact ⟨_, rfl, rfl⟩
  · exact ⟨_, rfl, rfl⟩
  · refine ⟨_, rfl, ?_⟩
    show (one - two) % 256 = (one - two + 256) % 256
    omega
  all_goals exact ⟨_, rfl, rfl⟩
theorem end_at {op n : Int} (h : op = 0) (h0 : 0 ≤ n) : ∃ z, endOf op n = some z ∧ atI [V.str "done", V.str "zero", V.str "index", V.str "wrong"] (if 3 < n then 3 else n) = some (.str z) := by
  unfold endOf
  rw [if_pos h]
  refine ⟨_, rfl, ?_⟩
  by_cases c : n < 3
  · rw [if_pos c, if_neg (by omega)]
    have : n = 0 ∨ n = 1 ∨ n = 2 := by omega
    rcases this with rfl | rfl | rfl <;> rfl
  · rw [if_neg c]
    by_cases d : 3 < n
    · rw [if_pos d]
      rfl
    · have : n = 3 := by omega
      rw [if_neg d, this]
      rfl
theorem four_six (t : Int) : ([PyData.int 4, .int 6].any fun z => PyData.eqv z (.int t)) = (decide (t = 4) || decide (t = 6)) := by
  have h : ∀ x : Int, PyData.eqv (.int x) (.int t) = decide (t = x) := fun x => by
    show decide (x = t) = decide (t = x)
    exact decide_eq_decide.mpr ⟨Eq.symm, Eq.symm⟩
  rw [List.any_cons, List.any_cons, List.any_nil, h, h, Bool.or_false]
theorem ixN_of {n : Nat} {k : Int} (h0 : 0 ≤ k) (h : k < n) : ixN n k = some k.toNat := by
  obtain ⟨j, rfl⟩ := Int.eq_ofNat_of_zero_le h0
  exact ixN_at (by omega)
theorem noL_what (w : What) : noL (whatD w) = true := by cases w <;> rfl
def optV : Option Int → V
  | none => .non
  | some x => .int x
theorem out_no {l : List Int} {op x : Int} (h : op ≠ 11) : l = l ++ (if op = 11 then some x else none).toList := by
  rw [if_neg h]
  exact (List.append_nil l).symm
theorem good_mv {s : Mc} {op a b m : Int} {bi : List Int} (h : Good s) (a0 : 0 ≤ a) (a1 : a < 4) : (mv s op a b m bi).1.r.length = 5 := by
  have l := h.lr
  exact mv_all (P := fun m => m.1.r.length = 5) (by simp [setR, put_len, l]) (by simp [setR, put_len, l]) (by simp [setR, put_len, l]) (by simp [setD, put_len, l]) (by simp [setR, put_len, l]) (by simp [setD, put_len, l]) (by simp [goTo, put_len, l]) (by simp [goTo, put_len, l]) (by simp [setR, put_len, l]) (by simp [goTo, put_len, l]) (by simp [takeB, put_len, l]) (by simp [goTo, put_len, l])
/-- where the machine's four lists lie -/
structure Plc (H : Hp) (pr pd po pt : Addr) : Prop where
  r0 : H pr = none
  d0 : H pd = none
  o0 : H po = none
  t0 : H pt = none
  rd : pr ≠ pd
  ro : pr ≠ po
  rt : pr ≠ pt
  od : pd ≠ po
  dt : pd ≠ pt
  ot : po ≠ pt
/-- the machine's four lists -/
structure Mst (K : PySem.W.Frag) (H : Hp) (pr pd po pt : Addr) (xt : List V) (rr dd oo : List Int) (tr : List Row) (H' : Hp) : Prop where
  sH : Same H H'
  r : H' pr = some (.lst (rr.map V.int))
  d : H' pd = some (.lst (dd.map V.int))
  o : H' po = some (.lst (oo.map V.int))
  t : H' pt = some (.lst xt)
  x : DpAll K H' xt (tr.map rowD)
section
variable {K : PySem.W.Frag} {H H' H2 : Hp} {pr pd po pt : Addr} {xt : List V} {rr dd oo : List Int} {tr : List Row}
theorem Mst.same (M : Mst K H pr pd po pt xt rr dd oo tr H') (s : Same H' H2) : Mst K H pr pd po pt xt rr dd oo tr H2 :=
  ⟨M.sH.trans s, s _ _ M.r, s _ _ M.d, s _ _ M.o, s _ _ M.t, dps_same s M.x⟩
theorem Mst.as {R : Res} {z : Str} {t : Int} (M : Mst K H pr pd po pt xt rr dd oo tr H') (e : R = ⟨oo, z, ⟨rr, dd, t⟩, tr⟩) : Mst K H pr pd po pt xt R.st.r R.st.d R.out R.tr H' := by
  subst e
  exact M
theorem Mst.setR (C : Plc H pr pd po pt) (M : Mst K H pr pd po pt xt rr dd oo tr H') (a v : Int) : Mst K H pr pd po pt xt (put rr a v) dd oo tr (upd H' pr (.lst ((rr.map V.int).set a.toNat (V.int v)))) :=
  ⟨same_mut M.sH C.r0, by rw [upd_same, ← List.map_set]; rfl, by rw [upd_ne (Ne.symm C.rd)]; exact M.d, by rw [upd_ne (Ne.symm C.ro)]; exact M.o, by rw [upd_ne (Ne.symm C.rt)]; exact M.t, dps_keep (KeepT.mut (H := H) M.r) (noL_rows _) M.x⟩
theorem Mst.setD (C : Plc H pr pd po pt) (M : Mst K H pr pd po pt xt rr dd oo tr H') (a v : Int) : Mst K H pr pd po pt xt rr (put dd a v) oo tr (upd H' pd (.lst ((dd.map V.int).set a.toNat (V.int v)))) :=
  ⟨same_mut M.sH C.d0, by rw [upd_ne C.rd]; exact M.r, by rw [upd_same, ← List.map_set]; rfl, by rw [upd_ne (Ne.symm C.od)]; exact M.o, by rw [upd_ne (Ne.symm C.dt)]; exact M.t, dps_keep (KeepT.mut (H := H) M.d) (noL_rows _) M.x⟩
theorem Mst.addO (C : Plc H pr pd po pt) (M : Mst K H pr pd po pt xt rr dd oo tr H') (v : Int) : Mst K H pr pd po pt xt rr dd (oo ++ [v]) tr (upd H' po (.lst (oo.map V.int ++ [V.int v]))) :=
  ⟨same_mut M.sH C.o0, by rw [upd_ne C.ro]; exact M.r, by rw [upd_ne C.od]; exact M.d, by rw [upd_same, List.map_append]; rfl, by rw [upd_ne (Ne.symm C.ot)]; exact M.t, dps_keep (KeepT.mut (H := H) M.o) (noL_rows _) M.x⟩
theorem Mst.addT (C : Plc H pr pd po pt) (M : Mst K H pr pd po pt xt rr dd oo tr H') {v : V} {w : Row} (h : Dp K H' v (rowD w)) : Mst K H pr pd po pt (xt ++ [v]) rr dd oo (tr ++ [w]) (upd H' pt (.lst (xt ++ [v]))) :=
  ⟨same_mut M.sH C.t0, by rw [upd_ne C.rt]; exact M.r, by rw [upd_ne C.dt]; exact M.d, by rw [upd_ne C.ot]; exact M.o, upd_same, by
    rw [List.map_append]
    exact dps_snoc (dps_keep (KeepT.mut (H := H) M.t) (noL_rows _) M.x) (dp_keep (KeepT.mut (H := H) M.t) (noL_row _) h)⟩
/-- the result's tuples -/
theorem Mst.fin {l1 l2 t3 t4 : Addr} {t : Int} {z : Str} (M : Mst K H pr pd po pt xt rr dd oo tr H') (n1 : H' l1 = none) (n2 : upd H' l1 (.tup (rr.map V.int)) l2 = none)
    (n3 : upd (upd H' l1 (.tup (rr.map V.int))) l2 (.tup (dd.map V.int)) t3 = none) (n4 : upd (upd (upd H' l1 (.tup (rr.map V.int))) l2 (.tup (dd.map V.int))) t3 (.tup [.ref l1, .ref l2, .int t]) t4 = none) :
    Same H (upd (upd (upd (upd H' l1 (.tup (rr.map V.int))) l2 (.tup (dd.map V.int))) t3 (.tup [.ref l1, .ref l2, .int t])) t4 (.tup [.ref po, .str z, .ref t3, .ref pt])) ∧
    SqT K (upd (upd (upd (upd H' l1 (.tup (rr.map V.int))) l2 (.tup (dd.map V.int))) t3 (.tup [.ref l1, .ref l2, .int t])) t4 (.tup [.ref po, .str z, .ref t3, .ref pt])) t4 [.ref po, .str z, .ref t3, .ref pt] ∧ (upd (upd (upd (upd H' l1 (.tup (rr.map V.int))) l2 (.tup (dd.map V.int))) t3 (.tup [.ref l1, .ref l2, .int t])) t4 (.tup [.ref po, .str z, .ref t3, .ref pt])) po = some (.lst (oo.map V.int)) ∧ (upd (upd (upd (upd H' l1 (.tup (rr.map V.int))) l2 (.tup (dd.map V.int))) t3 (.tup [.ref l1, .ref l2, .int t])) t4 (.tup [.ref po, .str z, .ref t3, .ref pt])) pt = some (.lst xt) ∧ DpAll K (upd (upd (upd (upd H' l1 (.tup (rr.map V.int))) l2 (.tup (dd.map V.int))) t3 (.tup [.ref l1, .ref l2, .int t])) t4 (.tup [.ref po, .str z, .ref t3, .ref pt])) xt (tr.map rowD) ∧ Dp K (upd (upd (upd (upd H' l1 (.tup (rr.map V.int))) l2 (.tup (dd.map V.int))) t3 (.tup [.ref l1, .ref l2, .int t])) t4 (.tup [.ref po, .str z, .ref t3, .ref pt])) (.ref t3) (stD ⟨rr, dd, t⟩) := by
  have x1 := same_new (o := HO.tup (rr.map V.int)) n1
  have x2 := same_new (o := HO.tup (dd.map V.int)) n2
  have x3 := same_new (o := HO.tup [V.ref l1, V.ref l2, V.int t]) n3
  have x4 := same_new (o := HO.tup [V.ref po, V.str z, V.ref t3, V.ref pt]) n4
  have M4 := M.same (((x1.trans x2).trans x3).trans x4)
  exact ⟨M4.sH, SqT.of upd_same, M4.o, M4.t, M4.x, .tup (SqT.of (x4 _ _ upd_same)) (.cons (.tup (SqT.of (((x2.trans x3).trans x4) _ _ upd_same)) (dps_ints _)) (.cons (.tup (SqT.of ((x3.trans x4) _ _ upd_same)) (dps_ints _)) (.cons (.int _) .nil)))⟩
end
end Q40



set_option pp.maxSteps 2500
namespace Q40
open PySem L2 G M40
open C8 (Cal Met Mak pe_c pe_mk pe_mt pe_mt0 pe_gc pss_cut tCut)
section
variable {P : Program} {w : World} {K : PySem.W.Frag} {mg : Str → Option Value} {base : Heap}
/-! ### _law_machine -/
def spMach (K : PySem.W.Frag) : Sp := fun vs H Q _ => ∃ (vw vr vd vb : V) (ws bi : List Int) (s : Mc) (n : Nat), vs = [vw, vr, vd, .int s.t, vb, .int n] ∧ Dp K H vw (.list (intsD ws)) ∧ Dp K H vr (.tuple (intsD s.r)) ∧ Dp K H vd (.tuple (intsD s.d)) ∧ Dp K H vb (.list (intsD bi)) ∧ ws.length ≤ 1000 ∧ Wds ws ∧ Good s ∧ Bytes bi ∧ n ≤ 1000 ∧ KRun K H (M40.run ws bi n s) Q
theorem ok_mach {f : Addr} {fd : FuncData} (F : Fun K "_law_machine" "_law_machine" s__law_machine f fd) (T : Txt K mg) :
    FnOk P w K mg base CX0 2 f fd ["words", "registers", "data", "taken", "bytes_in", "most"] (spMach K) := by
  refine F.ok sc__law_machine (fun vs H Q E h => ?_) (fun cdv A outer s H vs Q E hr h => ?_)
  · obtain ⟨vw, vr, vd, vb, ws, bi, s, n, rfl, _⟩ := h
    rfl
  · obtain ⟨vw, vr, vd, vb, ws, bi, st, n, rfl, hw, hrr, hdd, hb, wl, wd, hg, hbb, hn, k⟩ := h
    have hu65 := hu65_of hr
    obtain ⟨aw, xw, rfl, haw, hxw⟩ := dp_lst hw
    obtain ⟨ar, xr, rfl, har, hxr⟩ := dp_tup hrr
    obtain ⟨ad, xd, rfl, had, hxd⟩ := dp_tup hdd
    obtain ⟨ab, xb, rfl, hab, hxb⟩ := dp_lst hb
    cases dps_ints_of hxw
    cases dps_ints_of hxr
    cases dps_ints_of hxd
    cases dps_ints_of hxb
    refine ⟨_, (pss_cons (ps_set (i := 6) sc__law_machine.nd rfl (Or.inl rfl) (pe_callTy call_list_of (by rfl) T.b_list boot_list' (pa_cons (pv 1) pa_nil)))
      (pss_cons (ps_set (i := 2) sc__law_machine.nd rfl (Or.inl rfl) (pe_callTy call_list_of (by rfl) T.b_list boot_list' (pa_cons (pv 2) pa_nil)))
      (pss_cons (ps_set (i := 7) sc__law_machine.nd rfl (Or.inl rfl) (pe_lst pa_nil))
      (pss_cons (ps_set (i := 8) sc__law_machine.nd rfl (Or.inl rfl) (pe_lst pa_nil))
      (pss_cons (ps_for PassesOwn.never rfl (pi_range1 (by rfl) T.b_range (pa_cons (pv 5) pa_nil)) (pg_name (i := 9) sc__law_machine.nd rfl (Or.inl rfl)) (pss_cons (ps_set (i := 10) sc__law_machine.nd rfl (Or.inl rfl) (pe_ix ix_list (pv 6) pe_int (fun _ _ => rfl)))
      (pss_cut (ps_set (i := 11) sc__law_machine.nd rfl (Or.inl rfl) (pe_ifExp (pt_cmpR op_lt (pv 10) (pe_callB call_len_seq (by rfl) T.b_len boot_len' (pa_cons (pv 0) pa_nil)) (nomark _)) (pe_ix ix_list (pv 0) (pv 10) (fun _ _ => rfl)) pe_int))
      (pss_cons (ps_asg (pe_tup (pa_cons (pe_op op_fdiv (pv 11) pe_int) (pa_cons (pe_op op_sub (pe_op op_fdiv (pv 11) pe_int) (pe_op op_mul (pe_op op_fdiv (pv 11) pe_int) pe_int)) (pa_cons (pe_op op_sub (pe_op op_fdiv (pv 11) pe_int) (pe_op op_mul (pe_op op_fdiv (pv 11) pe_int) pe_int)) (pa_cons (pe_op op_sub (pv 11) (pe_op op_mul (pe_op op_fdiv (pv 11) pe_int) pe_int)) pa_nil))))) (pg_tup rfl (pgs_cons (pg_name (i := 12) sc__law_machine.nd rfl (Or.inl rfl)) (pgs_cons (pg_name (i := 13) sc__law_machine.nd rfl (Or.inl rfl)) (pgs_cons (pg_name (i := 14) sc__law_machine.nd rfl (Or.inl rfl)) (pgs_cons (pg_name (i := 15) sc__law_machine.nd rfl (Or.inl rfl)) pgs_nil))))))
      (pss_cons (ps_set (i := 16) sc__law_machine.nd rfl (Or.inl rfl) (pe_tup pa_nil))
      (pss_cut (ps_set (i := 17) sc__law_machine.nd rfl (Or.inl rfl) (pe_op op_add (pv 10) pe_int))
      (pss_cut (ps_if (PW.pt (pw_or (pt_cmpR op_eq (pv 12) pe_int (nomark _)) (pw_or (pt_cmpR op_gt (pv 12) pe_int (nomark _)) (pw_or1 (PW.pt (pw_and (pt_cmpR op_eq (pv 12) pe_int (nomark _)) (pw_and1 (pt_cmpR op_gt (pv 15) pe_int (nomark _))))))))) (pss_cons (ps_expr (pe_bm PySem.F.plainAttrs_list PySem.F.slot_list_append PySem.F.type_list_append mt_append (pv 8) (pa_cons (pe_tup (pa_cons (pv 10) (pa_cons (pe_tup pa_nil) pa_nil))) pa_nil)))
      (pss_cons (ps_set (i := 18) sc__law_machine.nd rfl (Or.inl rfl) (pe_ix ix_list (pe_lst (pa_cons pe_str (pa_cons pe_str (pa_cons pe_str (pa_cons pe_str pa_nil))))) (pe_ifExp (pt_cmpR op_eq (pv 12) pe_int (nomark _)) (pe_callB (call_min2 rfl) (by rfl) T.b_min boot_min' (pa_cons (pv 15) (pa_cons pe_int pa_nil))) pe_int) (fun _ _ => rfl)))
      (pss_one (ps_ret (pe_tup (pa_cons (pv 7) (pa_cons (pv 18) (pa_cons (pe_tup (pa_cons (pe_callTy call_tuple_of (by rfl) T.b_tuple boot_tuple' (pa_cons (pv 6) pa_nil)) (pa_cons (pe_callTy call_tuple_of (by rfl) T.b_tuple boot_tuple' (pa_cons (pv 2) pa_nil)) (pa_cons (pv 3) pa_nil)))) (pa_cons (pv 8) pa_nil))))))))) pss_nil)
      (pss_cut (ps_par (i := 19) (j := 20) (by rfl) sc__law_machine.nd rfl rfl (by decide) rfl rfl (pa_cons (pe_ix ix_list (pv 6) (pv 13) (fun _ _ => rfl)) (pa_cons (pe_ix ix_list (pv 6) (pv 14) (fun _ _ => rfl)) pa_nil)) (by rfl))
      (pss_cons (ps_set (i := 21) sc__law_machine.nd rfl (Or.inl rfl) pe_non)
      (pss_cut (ps_if (pt_cmpR op_eq (pv 12) pe_int (nomark _)) (pss_one (ps_set (i := 21) sc__law_machine.nd rfl (Or.inl rfl) (pv 15))) (pss_one (ps_if (pt_cmpR op_eq (pv 12) pe_int (nomark _)) (pss_one (ps_set (i := 21) sc__law_machine.nd rfl (Or.inl rfl) (pe_ix ix_list (pe_lst (pa_cons (pv 20) (pa_cons (pe_op op_add (pv 19) (pv 20)) (pa_cons (pe_op op_add (pe_op op_sub (pv 19) (pv 20)) pe_int) (pa_cons (pe_op op_and (pv 19) (pv 20)) (pa_cons (pe_op op_or (pv 19) (pv 20)) (pa_cons (pe_op op_xor (pv 19) (pv 20)) (pa_cons (pe_callTy call_int1 (by rfl) T.b_int boot_int' (pa_cons (pe_cmpR op_lt (pv 19) (pv 20) (nomark _)) pa_nil)) (pa_cons (pe_callTy call_int1 (by rfl) T.b_int boot_int' (pa_cons (pe_cmpR op_eq (pv 19) (pv 20) (nomark _)) pa_nil)) (pa_cons (pe_op op_fdiv (pv 20) pe_int) pa_nil)))))))))) (pv 15) (fun _ _ => rfl)))) (pss_one (ps_if (pt_cmpR op_eq (pv 12) pe_int (nomark _)) (pss_one (ps_set (i := 21) sc__law_machine.nd rfl (Or.inl rfl) (pe_ix ix_list (pv 2) (pe_op op_sub (pe_op op_add (pv 20) (pv 15)) (pe_op op_mul (pe_op op_fdiv (pe_op op_add (pv 20) (pv 15)) pe_int) pe_int)) (fun _ _ => rfl)))) (pss_one (ps_if (pt_cmpR (op_inT hu65) (pv 12) (pe_tup (pa_cons pe_int (pa_cons pe_int pa_nil))) rfl) (pss_cons (ps_set (i := 22) sc__law_machine.nd rfl (Or.inl rfl) (pe_ifExp (pt_cmpR op_eq (pv 12) pe_int (nomark _)) (pe_op op_add (pv 20) (pv 15)) (pv 15)))
      (pss_cons (ps_set (i := 22) sc__law_machine.nd rfl (Or.inl rfl) (pe_op op_sub (pv 22) (pe_op op_mul (pe_op op_fdiv (pv 22) pe_int) pe_int)))
      (pss_cons (ps_set (i := 16) sc__law_machine.nd rfl (Or.inl rfl) (pe_tup (pa_cons pe_str (pa_cons (pv 22) (pa_cons (pe_ix ix_list (pv 2) (pv 22) (fun _ _ => rfl)) pa_nil)))))
      (pss_one (ps_asg (pv 19) (pg_sub (pv 2) (pv 22) set_list)))))) (pss_one (ps_if (pt_cmpR op_eq (pv 12) pe_int (nomark _)) (pss_one (ps_set (i := 21) sc__law_machine.nd rfl (Or.inl rfl) (pe_ix ix_list (pv 2) (pe_op op_sub (pv 15) (pe_op op_mul (pe_op op_fdiv (pv 15) pe_int) pe_int)) (fun _ _ => rfl)))) (pss_one (ps_if (PW.pt (pw_or (pt_cmpR op_eq (pv 12) pe_int (nomark _)) (pw_or1 (PW.pt (pw_and (pt_cmpR op_eq (pv 12) pe_int (nomark _)) (pw_and1 (pt_cmpR op_eq (pv 19) pe_int (nomark _)))))))) (pss_one (ps_set (i := 17) sc__law_machine.nd rfl (Or.inl rfl) (pv 15))) (pss_one (ps_if (pt_cmpR op_eq (pv 12) pe_int (nomark _)) (pss_cons (ps_set (i := 21) sc__law_machine.nd rfl (Or.inl rfl) (pe_op op_add (pv 10) pe_int))
      (pss_one (ps_set (i := 17) sc__law_machine.nd rfl (Or.inl rfl) (pv 15)))) (pss_one (ps_if (pt_cmpR op_eq (pv 12) pe_int (nomark _)) (pss_one (ps_set (i := 17) sc__law_machine.nd rfl (Or.inl rfl) (pv 19))) (pss_one (ps_if (pt_cmpR op_eq (pv 12) pe_int (nomark _)) (pss_one (ps_expr (pe_bm PySem.F.plainAttrs_list PySem.F.slot_list_append PySem.F.type_list_append mt_append (pv 7) (pa_cons (pv 19) pa_nil)))) (pss_one (ps_if (pt_cmpR op_eq (pv 12) pe_int (nomark _)) (pss_cons (ps_set (i := 16) sc__law_machine.nd rfl (Or.inl rfl) (pe_tup (pa_cons pe_str (pa_cons (pv 13) (pa_cons (pv 19) (pa_cons (pv 3) pa_nil))))))
      (pss_cons (ps_asg (pe_ifExp (pt_cmpR op_lt (pv 3) (pe_callB call_len_seq (by rfl) T.b_len boot_len' (pa_cons (pv 4) pa_nil)) (nomark _)) (pe_ix ix_list (pv 4) (pv 3) (fun _ _ => rfl)) pe_int) (pg_sub (pv 6) (pv 13) set_list))
      (pss_one (ps_set (i := 3) sc__law_machine.nd rfl (Or.inl rfl) (pe_op op_add (pv 3) (pe_callTy call_int1 (by rfl) T.b_int boot_int' (pa_cons (pe_cmpR op_lt (pv 3) (pe_callB call_len_seq (by rfl) T.b_len boot_len' (pa_cons (pv 4) pa_nil)) (nomark _)) pa_nil))))))) pss_nil)))))))))))))))))))
      (pss_cut (ps_if (pt_cmpR op_notN (pv 21) pe_non (nomark _)) (pss_cons (ps_set (i := 16) sc__law_machine.nd rfl (Or.inl rfl) (pe_tup (pa_cons pe_str (pa_cons (pv 13) (pa_cons (pv 19) pa_nil)))))
      (pss_one (ps_asg (pe_op op_sub (pv 21) (pe_op op_mul (pe_op op_fdiv (pv 21) pe_int) pe_int)) (pg_sub (pv 6) (pv 13) set_list)))) pss_nil)
      (pss_cons (ps_asg (pe_op op_sub (pv 17) (pe_op op_mul (pe_op op_fdiv (pv 17) pe_int) pe_int)) (pg_sub (pv 6) pe_int set_list))
      (pss_one (ps_expr (pe_bm PySem.F.plainAttrs_list PySem.F.slot_list_append PySem.F.type_list_append mt_append (pv 8) (pa_cons (pe_tup (pa_cons (pv 10) (pa_cons (pv 16) pa_nil))) pa_nil))))))))))))))))
      (pss_one (ps_ret (pe_tup (pa_cons (pv 7) (pa_cons pe_str (pa_cons (pe_tup (pa_cons (pe_callTy call_tuple_of (by rfl) T.b_tuple boot_tuple' (pa_cons (pv 6) pa_nil)) (pa_cons (pe_callTy call_tuple_of (by rfl) T.b_tuple boot_tuple' (pa_cons (pv 2) pa_nil)) (pa_cons (pv 3) pa_nil)))) (pa_cons (pv 8) pa_nil)))))))))))), ?_⟩
    refine ⟨_, rfl, ar, _, rfl, .inr har, fun pr npr => ?_⟩
    refine ⟨_, rfl, ad, _, rfl, .inr (Same.tup (same_new npr) had), fun pd npd => ?_⟩
    refine ⟨Nat.zero_le _, fun po npo => ⟨Nat.zero_le _, fun pt npt => ?_⟩⟩
    have xr1 := same_new (o := HO.lst (st.r.map V.int)) npr
    have xd1 := same_new (o := HO.lst (st.d.map V.int)) npd
    have xo1 := same_new (o := HO.lst []) npo
    have xt1 := same_new (o := HO.lst []) npt
    have C : Plc H pr pd po pt := ⟨npr, none_of_same xr1 npd, none_of_same (xr1.trans xd1) npo, none_of_same ((xr1.trans xd1).trans xo1) npt, (fun z => by rw [← z, upd_same] at npd; cases npd), (fun z => by rw [← z, xd1 _ _ upd_same] at npo; cases npo),
      (fun z => by rw [← z, (xd1.trans xo1) _ _ upd_same] at npt; cases npt), (fun z => by rw [← z, upd_same] at npo; cases npo), (fun z => by rw [← z, xo1 _ _ upd_same] at npt; cases npt), (fun z => by rw [← z, upd_same] at npt; cases npt)⟩
    refine ⟨_, rfl, n, rfl, by omega, by omega, for_range (lo := 0) (n := ((n : Nat) : Int).toNat) (fun i σ H' => ∃ (xt : List V) (o9 o10 o11 o12 o13 o14 o15 o16 o17 o18 o19 o20 o21 o22 : Option V), σ = [some (.ref aw), some (.ref ar), some (.ref pd), some (.int (M40.run ws bi i st).st.t), some (.ref ab), some (.int n), some (.ref pr), some (.ref po), some (.ref pt), o9, o10, o11, o12, o13, o14, o15, o16, o17, o18, o19, o20, o21, o22] ∧ Mst K H pr pd po pt xt (M40.run ws bi i st).st.r (M40.run ws bi i st).st.d (M40.run ws bi i st).out (M40.run ws bi i st).tr H' ∧ (M40.run ws bi i st).fin = "cut")
      ⟨[], none, none, none, none, none, none, none, none, none, none, none, none, none, none, rfl, ⟨((xr1.trans xd1).trans xo1).trans xt1, ((xd1.trans xo1).trans xt1) _ _ upd_same, (xo1.trans xt1) _ _ upd_same, xt1 _ _ upd_same, upd_same, .nil⟩, rfl⟩ ?_ ?_⟩
    · rintro i σ H' hi ⟨xt, o9, o10, o11, o12, o13, o14, o15, o16, o17, o18, o19, o20, o21, o22, rfl, M, hcut⟩
      have hin : i < n := by omega
      have gi := run_good wd hbb i hg
      have li := run_len (ws := ws) (bi := bi) i st
      have lr := gi.lr
      have ld := gi.ld
      have bp := gi.br.g 4
      have hwd := word_ok wd (M40.run ws bi i st).st
      have FL := flds hwd
      refine ⟨_, rfl, pr, _, 4, _, rfl, rfl, SqL.of M.r, g_at (by decide) (by omega), ?_⟩
      refine ⟨fun σ' H'' => σ' = [some (.ref aw), some (.ref ar), some (.ref pd), some (.int (M40.run ws bi i st).st.t), some (.ref ab), some (.int n), some (.ref pr), some (.ref po), some (.ref pt), some (.int (0 + (i : Int))), some (.int (g (M40.run ws bi i st).st.r 4)), some (.int (wordAt ws (M40.run ws bi i st).st)), o12, o13, o14, o15, o16, o17, o18, o19, o20, o21, o22] ∧ H'' = H', ?_, ?_⟩
      · by_cases hlt : g (M40.run ws bi i st).st.r 4 < ws.length
        · refine ⟨_, rfl, _, rfl, aw, _, rfl, .inl (M.sH.seq haw), _, _, rfl, rfl, _, rfl, ifT (by rw [List.length_map]; exact decide_eq_true hlt) ⟨_, rfl, _, rfl, aw, _, _, _, rfl, rfl, M.sH.seq haw, g_at bp.1 hlt, ?_⟩⟩
          refine ⟨?_, rfl⟩
          unfold wordAt
          rw [if_pos hlt]
          rfl
        · refine ⟨_, rfl, _, rfl, aw, _, rfl, .inl (M.sH.seq haw), _, _, rfl, rfl, _, rfl, ifF (by rw [List.length_map]; exact decide_eq_false hlt) ?_⟩
          refine ⟨?_, rfl⟩
          unfold wordAt
          rw [if_neg hlt]
          rfl
      · rintro σ' H'' ⟨rfl, rfl⟩
        have eend : endAt ws (M40.run ws bi i st).st = endOf (fop (wordAt ws (M40.run ws bi i st).st)) (fn (wordAt ws (M40.run ws bi i st).st)) := rfl
        have enx : (nxt ws (M40.run ws bi i st).st bi) = ((mv (M40.run ws bi i st).st (fop (wordAt ws (M40.run ws bi i st).st)) (fa (wordAt ws (M40.run ws bi i st).st)) (fb (wordAt ws (M40.run ws bi i st).st)) (fn (wordAt ws (M40.run ws bi i st).st)) bi).1, (if fop (wordAt ws (M40.run ws bi i st).st) = 11 then some (g (M40.run ws bi i st).st.r (fa (wordAt ws (M40.run ws bi i st).st))) else none), (g (M40.run ws bi i st).st.r 4, (mv (M40.run ws bi i st).st (fop (wordAt ws (M40.run ws bi i st).st)) (fa (wordAt ws (M40.run ws bi i st).st)) (fb (wordAt ws (M40.run ws bi i st).st)) (fn (wordAt ws (M40.run ws bi i st).st)) bi).2)) := rfl
        have rstop := fun kk z => run_stop (ws := ws) (bi := bi) (k := kk) (z := z) hcut
        have rstep := run_step (ws := ws) (bi := bi) hcut
        rw [enx] at rstep
        rw [eend] at rstop rstep
        generalize eR : M40.run ws bi i st = R at *
        generalize wordAt ws R.st = wd' at *
        refine ⟨_, rfl, _, _, rfl, rfl, ⟨by decide, by decide⟩, _, rfl, _, _, rfl, rfl, ⟨by decide, by decide⟩, _, rfl, _, _, rfl, rfl, ⟨by decide, by decide⟩, _, _, rfl, rfl, .inr (by decide), _, _, rfl, rfl, _, rfl, _, _, rfl, rfl, ⟨by decide, by decide⟩, _, rfl, _, _, rfl, rfl, ⟨by decide, by decide⟩, _, _, rfl, rfl, .inr (by decide), _, _, rfl, rfl, _, rfl, _, rfl, _, _, rfl, rfl, ⟨by decide, by decide⟩, _, _, rfl, rfl, .inr (by decide), _, _, rfl, rfl, (show 4 ≤ sizeLine by decide), fun t1 n1 => ?_⟩
        refine ⟨t1, _, rfl, SqT.of upd_same, rfl, _, _, rfl, _, _, rfl, _, _, rfl, _, _, rfl, rfl, ?_⟩
        have M1 := M.same (same_new (o := HO.tup [V.int (wd' / 4096), V.int (wd' / 1024 - wd' / 4096 * 4), V.int (wd' / 256 - wd' / 1024 * 4), V.int (wd' - wd' / 256 * 256)]) n1)
        clear M
        clear n1
        generalize upd H'' t1 (HO.tup [V.int (wd' / 4096), V.int (wd' / 1024 - wd' / 4096 * 4), V.int (wd' / 256 - wd' / 1024 * 4), V.int (wd' - wd' / 256 * 256)]) = H1 at M1 ⊢
        refine ⟨(show 0 ≤ sizeLine by decide), fun t2 n2 => ?_⟩
        have M2 := M1.same (same_new (o := HO.tup []) n2)
        clear M1
        refine ⟨fun σ' H' => ∃ op a b m : Int, σ' = [some (.ref aw), some (.ref ar), some (.ref pd), some (.int R.st.t), some (.ref ab), some (.int n), some (.ref pr), some (.ref po), some (.ref pt), some (.int (0 + (i : Int))), some (.int (g R.st.r 4)), some (.int wd'), some (.int op), some (.int a), some (.int b), some (.int m), some (.ref t2), some (.int (g R.st.r 4 + 1)), o18, o19, o20, o21, o22] ∧ op = fop wd' ∧ a = fa wd' ∧ b = fb wd' ∧ m = fn wd' ∧ H' = upd H1 t2 (.tup []), ?_, ?_⟩
        · refine ⟨_, rfl, _, _, rfl, rfl, _, _, _, _, rfl, rfl, ?_, ?_, ?_, rfl⟩
          · unfold fa; omega
          · unfold fb; omega
          · unfold fn; omega
        rintro σ' H' ⟨op, a, b, m, rfl, eop, ea, eb, em, rfl⟩
        rw [← eop, ← ea, ← eb, ← em] at rstep
        rw [← eop, ← em] at rstop
        obtain ⟨⟨op0, op1⟩, ⟨a0, a1⟩, ⟨b0, b1⟩, ⟨m0, m1⟩⟩ := FL
        rw [← eop] at op0 op1
        rw [← ea] at a0 a1
        rw [← eb] at b0 b1
        rw [← em] at m0 m1
        have dw : Dp K (upd H1 t2 (.tup [])) (.ref t2) (whatD .non) := .tup (SqT.of upd_same) .nil
        clear eop ea eb em
        generalize upd H1 t2 (.tup []) = H2 at M2 dw
        clear n2
        have trl : xt.length ≤ 1000 := by rw [dps_len M2.x, List.length_map]; omega
        have sc0 : Plc H pr pd po pt := C
        refine ⟨fun σ' H' => (σ' = [some (.ref aw), some (.ref ar), some (.ref pd), some (.int R.st.t), some (.ref ab), some (.int n), some (.ref pr), some (.ref po), some (.ref pt), some (.int (0 + (i : Int))), some (.int (g R.st.r 4)), some (.int wd'), some (.int op), some (.int a), some (.int b), some (.int m), some (.ref t2), some (.int (g R.st.r 4 + 1)), o18, o19, o20, o21, o22] ∧ H' = H2) ∧ op ≠ 0 ∧ op ≤ 12 ∧ (op = 2 → m ≤ 8), ?_, ?_⟩
        · by_cases e0 : op = 0
          · obtain ⟨z, ez, at_⟩ := end_at e0 m0
            refine ⟨_, rfl, rfl, _, rfl, ifT (by rw [e0]; decide) ?_⟩
            refine ifT rfl ?_
            refine ⟨_, rfl, .inl ⟨rfl, _, SqL.of M2.t⟩, _, rfl, (show 0 ≤ sizeLine by decide), fun t3 n3 => ⟨(show 2 ≤ sizeLine by decide), fun t4 n4 => ?_⟩⟩
            have M3 := M2.same ((same_new (o := HO.tup []) n3).trans (same_new (o := HO.tup [V.int (g R.st.r 4), V.ref t3]) n4))
            have d4 : Dp K (upd (upd H2 t3 (.tup [])) t4 (.tup [.int (g R.st.r 4), .ref t3])) (.ref t4) (rowD (g R.st.r 4, .non)) := .tup (SqT.of upd_same) (.cons (.int _) (.cons (.tup (SqT.of (same_new n4 _ _ upd_same)) .nil) .nil))
            have M4 := M3.addT C d4
            refine ⟨_, _, _, rfl, rfl, M3.t, size_lt (by omega), ?_⟩
            refine ⟨(show 4 ≤ sizeLine by decide), fun tl nl => ?_⟩
            have M5 := M4.same (same_new (o := HO.lst [V.str "done", V.str "zero", V.str "index", V.str "wrong"]) nl)
            refine ⟨_, rfl, rfl, _, rfl, ifT (by rw [e0]; decide) ⟨_, rfl, _, _, rfl, tl, _, _, _, rfl, rfl, SqL.of upd_same, at_, ?_⟩⟩
            refine ⟨_, rfl, _, rfl, _, rfl, pr, _, rfl, .inl ⟨SqL.of M5.r, fun l1 n1 => ?_⟩⟩
            have y1 := same_new (o := HO.tup (R.st.r.map V.int)) n1
            refine ⟨_, rfl, pd, _, rfl, .inl ⟨SqL.of (M5.same y1).d, fun l2 n2 => ?_⟩⟩
            refine ⟨_, rfl, (show 3 ≤ sizeLine by decide), fun t5 n5 => ⟨_, rfl, (show 4 ≤ sizeLine by decide), fun t6 n6 => ?_⟩⟩
            obtain ⟨sf, df⟩ := M5.fin (z := z) n1 n2 n5 n6
            obtain ⟨kk, rfl⟩ : ∃ kk, n = i + (kk + 1) := ⟨n - i - 1, by omega⟩
            rw [rstop kk (z) ez] at k
            exact k _ po pt _ _ _ sf C.o0 C.t0 C.ot df.1 df.2.1 df.2.2.1 df.2.2.2.1 df.2.2.2.2
          · refine ⟨_, rfl, rfl, _, rfl, ifF (decide_eq_false fun z => e0 (V.int.inj z)) ⟨_, rfl, _, _, rfl, rfl, _, rfl, ?_⟩⟩
            by_cases e1 : 12 < op
            · have ez : endOf op m = some ("wrong" : Str) := by unfold endOf; rw [if_neg e0, if_pos (.inl e1)]
              refine ifT (decide_eq_true e1) (ifT rfl ?_)
              refine ⟨_, rfl, .inl ⟨rfl, _, SqL.of M2.t⟩, _, rfl, (show 0 ≤ sizeLine by decide), fun t3 n3 => ⟨(show 2 ≤ sizeLine by decide), fun t4 n4 => ?_⟩⟩
              have M3 := M2.same ((same_new (o := HO.tup []) n3).trans (same_new (o := HO.tup [V.int (g R.st.r 4), V.ref t3]) n4))
              have d4 : Dp K (upd (upd H2 t3 (.tup [])) t4 (.tup [.int (g R.st.r 4), .ref t3])) (.ref t4) (rowD (g R.st.r 4, .non)) := .tup (SqT.of upd_same) (.cons (.int _) (.cons (.tup (SqT.of (same_new n4 _ _ upd_same)) .nil) .nil))
              have M4 := M3.addT C d4
              refine ⟨_, _, _, rfl, rfl, M3.t, size_lt (by omega), ?_⟩
              refine ⟨(show 4 ≤ sizeLine by decide), fun tl nl => ?_⟩
              have M5 := M4.same (same_new (o := HO.lst [V.str "done", V.str "zero", V.str "index", V.str "wrong"]) nl)
              refine ⟨_, rfl, rfl, _, rfl, ifF (decide_eq_false fun z => e0 (V.int.inj z)) ⟨tl, _, 3, V.str "wrong", rfl, rfl, SqL.of upd_same, rfl, ?_⟩⟩
              refine ⟨_, rfl, _, rfl, _, rfl, pr, _, rfl, .inl ⟨SqL.of M5.r, fun l1 n1 => ?_⟩⟩
              have y1 := same_new (o := HO.tup (R.st.r.map V.int)) n1
              refine ⟨_, rfl, pd, _, rfl, .inl ⟨SqL.of (M5.same y1).d, fun l2 n2 => ?_⟩⟩
              refine ⟨_, rfl, (show 3 ≤ sizeLine by decide), fun t5 n5 => ⟨_, rfl, (show 4 ≤ sizeLine by decide), fun t6 n6 => ?_⟩⟩
              obtain ⟨sf, df⟩ := M5.fin (z := "wrong") n1 n2 n5 n6
              obtain ⟨kk, rfl⟩ : ∃ kk, n = i + (kk + 1) := ⟨n - i - 1, by omega⟩
              rw [rstop kk ("wrong") ez] at k
              exact k _ po pt _ _ _ sf C.o0 C.t0 C.ot df.1 df.2.1 df.2.2.1 df.2.2.2.1 df.2.2.2.2
            · refine ifF (decide_eq_false e1) ⟨_, rfl, rfl, _, rfl, ?_⟩
              by_cases e2 : op = 2
              · refine ifT (by rw [e2]; decide) ⟨_, rfl, _, _, rfl, rfl, _, rfl, ?_⟩
                by_cases e4 : 8 < m
                · have ez : endOf op m = some ("wrong" : Str) := by unfold endOf; rw [if_neg e0, if_pos (.inr ⟨e2, e4⟩)]
                  refine ifT (decide_eq_true e4) ?_
                  refine ⟨_, rfl, .inl ⟨rfl, _, SqL.of M2.t⟩, _, rfl, (show 0 ≤ sizeLine by decide), fun t3 n3 => ⟨(show 2 ≤ sizeLine by decide), fun t4 n4 => ?_⟩⟩
                  have M3 := M2.same ((same_new (o := HO.tup []) n3).trans (same_new (o := HO.tup [V.int (g R.st.r 4), V.ref t3]) n4))
                  have d4 : Dp K (upd (upd H2 t3 (.tup [])) t4 (.tup [.int (g R.st.r 4), .ref t3])) (.ref t4) (rowD (g R.st.r 4, .non)) := .tup (SqT.of upd_same) (.cons (.int _) (.cons (.tup (SqT.of (same_new n4 _ _ upd_same)) .nil) .nil))
                  have M4 := M3.addT C d4
                  refine ⟨_, _, _, rfl, rfl, M3.t, size_lt (by omega), ?_⟩
                  refine ⟨(show 4 ≤ sizeLine by decide), fun tl nl => ?_⟩
                  have M5 := M4.same (same_new (o := HO.lst [V.str "done", V.str "zero", V.str "index", V.str "wrong"]) nl)
                  refine ⟨_, rfl, rfl, _, rfl, ifF (decide_eq_false fun z => e0 (V.int.inj z)) ⟨tl, _, 3, V.str "wrong", rfl, rfl, SqL.of upd_same, rfl, ?_⟩⟩
                  refine ⟨_, rfl, _, rfl, _, rfl, pr, _, rfl, .inl ⟨SqL.of M5.r, fun l1 n1 => ?_⟩⟩
                  have y1 := same_new (o := HO.tup (R.st.r.map V.int)) n1
                  refine ⟨_, rfl, pd, _, rfl, .inl ⟨SqL.of (M5.same y1).d, fun l2 n2 => ?_⟩⟩
                  refine ⟨_, rfl, (show 3 ≤ sizeLine by decide), fun t5 n5 => ⟨_, rfl, (show 4 ≤ sizeLine by decide), fun t6 n6 => ?_⟩⟩
                  obtain ⟨sf, df⟩ := M5.fin (z := "wrong") n1 n2 n5 n6
                  obtain ⟨kk, rfl⟩ : ∃ kk, n = i + (kk + 1) := ⟨n - i - 1, by omega⟩
                  rw [rstop kk ("wrong") ez] at k
                  exact k _ po pt _ _ _ sf C.o0 C.t0 C.ot df.1 df.2.1 df.2.2.1 df.2.2.2.1 df.2.2.2.2
                · exact ifF (decide_eq_false e4) ⟨⟨rfl, rfl⟩, e0, by omega, fun _ => by omega⟩
              · exact ifF (decide_eq_false fun z => e2 (V.int.inj z)) (ifF rfl ⟨⟨rfl, rfl⟩, e0, by omega, fun z => absurd z e2⟩)
        rintro σ' H' ⟨⟨rfl, rfl⟩, e0, e12, e28⟩
        have enone : endOf op m = none := by
          unfold endOf
          rw [if_neg e0, if_neg (fun z => z.elim (fun z => by omega) fun z => by have := e28 z.1; omega)]
        have es := rstep enone
        clear rstep rstop
        refine ⟨fun σ' H9 => σ' = [some (.ref aw), some (.ref ar), some (.ref pd), some (.int R.st.t), some (.ref ab), some (.int n), some (.ref pr), some (.ref po), some (.ref pt), some (.int (0 + (i : Int))), some (.int (g R.st.r 4)), some (.int wd'), some (.int op), some (.int a), some (.int b), some (.int m), some (.ref t2), some (.int (g R.st.r 4 + 1)), o18, some (.int (g R.st.r a)), some (.int (g R.st.r b)), o21, o22] ∧ H9 = H', ?_, ?_⟩
        · exact ⟨_, rfl, _, rfl, pr, _, _, _, rfl, rfl, SqL.of M2.r, g_at a0 (by omega), _, rfl, _, rfl, pr, _, _, _, rfl, rfl, SqL.of M2.r, g_at b0 (by omega), _, _, rfl, rfl, rfl⟩
        rintro σ' H' ⟨rfl, rfl⟩
        have ob := gi.br.g a
        have tb := gi.br.g b
        refine ⟨fun σ' H' => ∃ (v : Option Int) (gl t' : Int) (rr dd oo : List Int) (wh : What) (tw : Addr) (p22 : Option V), σ' = [some (.ref aw), some (.ref ar), some (.ref pd), some (.int t'), some (.ref ab), some (.int n), some (.ref pr), some (.ref po), some (.ref pt), some (.int (0 + (i : Int))), some (.int (g R.st.r 4)), some (.int wd'), some (.int op), some (.int a), some (.int b), some (.int m), some (.ref tw), some (.int gl), o18, some (.int (g R.st.r a)), some (.int (g R.st.r b)), some (optV v), p22] ∧ Mst K H pr pd po pt xt rr dd oo R.tr H' ∧ Dp K H' (.ref tw) (whatD wh) ∧ mv R.st op a b m bi = fin1 rr dd t' v gl a (g R.st.r a) wh ∧ oo = R.out ++ (if op = 11 then some (g R.st.r a) else none).toList, ?_, ?_⟩
        · skip
          by_cases e1 : op = 1
          · refine ⟨_, rfl, rfl, _, rfl, ifT (by rw [e1]; decide) ?_⟩
            exact ⟨_, rfl, some m, _, _, _, _, _, _, _, _, rfl, M2, dw, (mv1 e1).trans (fin_setR a0 a1 (by omega) rfl), out_no (by omega)⟩
          · refine ⟨_, rfl, rfl, _, rfl, ifF (decide_eq_false fun z => e1 (V.int.inj z)) ?_⟩
            by_cases e2 : op = 2
            · refine ⟨_, rfl, rfl, _, rfl, ifT (by rw [e2]; decide) ?_⟩
              obtain ⟨x, at_, ex⟩ := res_at m (g R.st.r a) (g R.st.r b) m0 (e28 e2)
              refine ⟨_, rfl, _, rfl, _, rfl, _, _, rfl, rfl, _, rfl, _, rfl, _, _, rfl, rfl, _, _, rfl, rfl, _, rfl, _, rfl, _, _, rfl, rfl, _, rfl, _, rfl, _, _, rfl, rfl, _, rfl, _, rfl, _, _, rfl, rfl, _, rfl, _, rfl, _, _, rfl, rfl, .inr ⟨_, rfl, _, rfl, _, rfl, rfl, .inr ⟨_, rfl, _, rfl, _, _, rfl, rfl, ⟨by decide, by decide⟩, (show 9 ≤ sizeLine by decide), fun tl nl => ?_⟩⟩⟩
              refine ⟨_, rfl, tl, _, m, _, rfl, rfl, SqL.of upd_same, at_, ?_⟩
              exact ⟨some x, _, _, _, _, _, _, _, _, rfl, M2.same (same_new nl), dp_same (same_new nl) dw, (mv2 e2).trans (fin_setR a0 a1 ex rfl), out_no (by omega)⟩
            · refine ⟨_, rfl, rfl, _, rfl, ifF (decide_eq_false fun z => e2 (V.int.inj z)) ?_⟩
              by_cases e3 : op = 3
              · refine ⟨_, rfl, rfl, _, rfl, ifT (by rw [e3]; decide) ?_⟩
                have e64 : (g R.st.r b) + m - ((g R.st.r b) + m) / 64 * 64 = ((g R.st.r b) + m) % 64 := by omega
                have h64 := mod64 ((g R.st.r b) + m)
                obtain ⟨bd1, bd2⟩ := gi.bd.g (((g R.st.r b) + m) % 64)
                refine ⟨_, rfl, _, rfl, _, rfl, _, _, rfl, rfl, _, rfl, _, rfl, _, _, rfl, rfl, _, _, rfl, rfl, ⟨by decide, by decide⟩, _, _, rfl, rfl, .inr (by decide), _, _, rfl, rfl, pd, _, _, _, rfl, rfl, SqL.of M2.d, by rw [e64]; exact g_at (xs := R.st.d) h64.1 (by omega), ?_⟩
                exact ⟨some _, _, _, _, _, _, _, _, _, rfl, M2, dw, (mv3 e3).trans (fin_setR a0 a1 (by omega) rfl), out_no (by omega)⟩
              · refine ⟨_, rfl, rfl, _, rfl, ifF (decide_eq_false fun z => e3 (V.int.inj z)) ?_⟩
                refine ⟨_, rfl, (show 2 ≤ sizeLine by decide), fun tq nq => ⟨.int op, [.int 4, .int 6], .int _, .tup (SqT.of upd_same) (.cons (.int _) (.cons (.int _) .nil)), rfl, rfl, _, rfl, ?_⟩⟩
                have M3 := M2.same (same_new (o := HO.tup [V.int 4, V.int 6]) nq)
                have dw3 := dp_same (same_new (o := HO.tup [V.int 4, V.int 6]) nq) dw
                rw [four_six]
                by_cases e46 : op = 4 ∨ op = 6
                · refine ifT (by rcases e46 with z | z <;> rw [z] <;> rfl) ?_
                  by_cases e4 : op = 4
                  · refine ⟨_, rfl, rfl, _, rfl, ifT (by rw [e4]; decide) ⟨_, rfl, _, rfl, _, _, rfl, rfl, ?_⟩⟩
                    have e64 : ((g R.st.r b) + m) - ((g R.st.r b) + m) / 64 * 64 = (((g R.st.r b) + m)) % 64 := by omega
                    have h64 := mod64 (((g R.st.r b) + m))
                    refine ⟨_, rfl, _, rfl, _, _, rfl, rfl, ⟨by decide, by decide⟩, _, _, rfl, rfl, .inr (by decide), _, _, rfl, rfl, ?_⟩
                    refine ⟨_, rfl, _, rfl, _, rfl, pd, _, _, _, rfl, rfl, SqL.of M3.d, g_at (by omega) (by omega), (show 3 ≤ sizeLine by decide), fun tw nw => ?_⟩
                    have s4 := same_new (o := HO.tup [V.str "b", V.int (((g R.st.r b) + m) - ((g R.st.r b) + m) / 64 * 64), V.int (g R.st.d (((g R.st.r b) + m) - ((g R.st.r b) + m) / 64 * 64))]) nw
                    have M4 := M3.same s4
                    have M5 := M4.setD C (((g R.st.r b) + m) - ((g R.st.r b) + m) / 64 * 64) (g R.st.r a)
                    refine ⟨_, rfl, _, rfl, _, rfl, pd, _, _, _, rfl, rfl, M4.d, ixN_of (by omega) (by rw [List.length_map]; omega), ?_⟩
                    refine ⟨none, _, _, _, _, _, _, _, _, rfl, M5, dp_keep (KeepT.mut (H := H) M4.d) (noL_what (.byt _ _)) (.tup (SqT.of upd_same) (.cons (.str _) (.cons (.int _) (.cons (.int _) .nil)))), ?_, out_no (by omega)⟩
                    rw [e64]
                    exact (mv4 e4).trans (fin_setD rfl)
                  · have e6 : op = 6 := by omega
                    refine ⟨_, rfl, rfl, _, rfl, ifF (decide_eq_false fun z => e4 (V.int.inj z)) ⟨_, rfl, ?_⟩⟩
                    have e64 : m - m / 64 * 64 = (m) % 64 := by omega
                    have h64 := mod64 (m)
                    refine ⟨_, rfl, _, rfl, _, _, rfl, rfl, ⟨by decide, by decide⟩, _, _, rfl, rfl, .inr (by decide), _, _, rfl, rfl, ?_⟩
                    refine ⟨_, rfl, _, rfl, _, rfl, pd, _, _, _, rfl, rfl, SqL.of M3.d, g_at (by omega) (by omega), (show 3 ≤ sizeLine by decide), fun tw nw => ?_⟩
                    have s4 := same_new (o := HO.tup [V.str "b", V.int (m - m / 64 * 64), V.int (g R.st.d (m - m / 64 * 64))]) nw
                    have M4 := M3.same s4
                    have M5 := M4.setD C (m - m / 64 * 64) (g R.st.r a)
                    refine ⟨_, rfl, _, rfl, _, rfl, pd, _, _, _, rfl, rfl, M4.d, ixN_of (by omega) (by rw [List.length_map]; omega), ?_⟩
                    refine ⟨none, _, _, _, _, _, _, _, _, rfl, M5, dp_keep (KeepT.mut (H := H) M4.d) (noL_what (.byt _ _)) (.tup (SqT.of upd_same) (.cons (.str _) (.cons (.int _) (.cons (.int _) .nil)))), ?_, out_no (by omega)⟩
                    rw [e64]
                    exact (mv6 e6).trans (fin_setD rfl)
                · refine ifF (by rw [decide_eq_false (fun z => e46 (.inl z)), decide_eq_false (fun z => e46 (.inr z))]; rfl) ?_
                  by_cases e5 : op = 5
                  · refine ⟨_, rfl, rfl, _, rfl, ifT (by rw [e5]; decide) ?_⟩
                    have e64 : m - m / 64 * 64 = m % 64 := by omega
                    have h64 := mod64 m
                    obtain ⟨bd1, bd2⟩ := gi.bd.g (m % 64)
                    refine ⟨_, rfl, _, rfl, _, rfl, _, _, rfl, rfl, ⟨by decide, by decide⟩, _, _, rfl, rfl, .inr (by decide), _, _, rfl, rfl, pd, _, _, _, rfl, rfl, SqL.of M3.d, by rw [e64]; exact g_at (xs := R.st.d) h64.1 (by omega), ?_⟩
                    exact ⟨some _, _, _, _, _, _, _, _, _, rfl, M3, dw3, (mv5 e5).trans (fin_setR a0 a1 (by omega) rfl), out_no (by omega)⟩
                  · refine ⟨_, rfl, rfl, _, rfl, ifF (decide_eq_false fun z => e5 (V.int.inj z)) ?_⟩
                    by_cases e7 : op = 7
                    · refine ⟨_, rfl, rfl, _, rfl, ifT (by rw [e7]; decide) (ifT rfl ?_)⟩
                      exact ⟨_, rfl, none, _, _, _, _, _, _, _, _, rfl, M3, dw3, (mv7 e7).trans (fin_goTo (by omega)), out_no (by omega)⟩
                    · refine ⟨_, rfl, rfl, _, rfl, ifF (decide_eq_false fun z => e7 (V.int.inj z)) ⟨_, rfl, rfl, _, rfl, ?_⟩⟩
                      by_cases e8 : op = 8
                      · refine ifT (by rw [e8]; decide) ⟨_, rfl, rfl, _, rfl, ?_⟩
                        by_cases ez : (g R.st.r a) = 0
                        · refine ifT (by rw [ez]; decide) ?_
                          exact ⟨_, rfl, none, _, _, _, _, _, _, _, _, rfl, M3, dw3, (mv8 e8).trans (by rw [if_pos ez]; exact fin_goTo (by omega)), out_no (by omega)⟩
                        · refine ifF (decide_eq_false fun z => ez (V.int.inj z)) ?_
                          refine ⟨_, rfl, rfl, _, rfl, ifF (decide_eq_false fun z => absurd (V.int.inj z) (by omega)) ?_⟩
                          refine ⟨_, rfl, rfl, _, rfl, ifF (decide_eq_false fun z => absurd (V.int.inj z) (by omega)) ?_⟩
                          refine ⟨_, rfl, rfl, _, rfl, ifF (decide_eq_false fun z => absurd (V.int.inj z) (by omega)) ?_⟩
                          refine ⟨_, rfl, rfl, _, rfl, ifF (decide_eq_false fun z => absurd (V.int.inj z) (by omega)) ?_⟩
                          exact ⟨none, _, _, _, _, _, _, _, _, rfl, M3, dw3, (mv8 e8).trans (by rw [if_neg ez]; exact fin_goTo rfl), out_no (by omega)⟩
                      · refine ifF (decide_eq_false fun z => e8 (V.int.inj z)) (ifF rfl ?_)
                        by_cases e9 : op = 9
                        · refine ⟨_, rfl, rfl, _, rfl, ifT (by rw [e9]; decide) ?_⟩
                          exact ⟨_, rfl, _, _, rfl, rfl, _, rfl, some _, _, _, _, _, _, _, _, _, rfl, M3, dw3, (mv9 e9).trans (fin_setR a0 a1 rfl (by omega)), out_no (by omega)⟩
                        · refine ⟨_, rfl, rfl, _, rfl, ifF (decide_eq_false fun z => e9 (V.int.inj z)) ?_⟩
                          by_cases e10 : op = 10
                          · refine ⟨_, rfl, rfl, _, rfl, ifT (by rw [e10]; decide) ?_⟩
                            have ob2 : Byte (g R.st.r a) := ob
                            obtain ⟨z1, z2⟩ := ob2
                            exact ⟨_, rfl, none, _, _, _, _, _, _, _, _, rfl, M3, dw3, (mv10 e10).trans (fin_goTo (by omega)), out_no (by omega)⟩
                          · refine ⟨_, rfl, rfl, _, rfl, ifF (decide_eq_false fun z => e10 (V.int.inj z)) ?_⟩
                            by_cases e11 : op = 11
                            · refine ⟨_, rfl, rfl, _, rfl, ifT (by rw [e11]; decide) ?_⟩
                              refine ⟨_, rfl, .inl ⟨rfl, _, SqL.of M3.o⟩, _, rfl, _, _, _, rfl, rfl, M3.o, size_lt (by rw [List.length_map]; omega), ?_⟩
                              exact ⟨none, _, _, _, _, _, _, _, _, rfl, M3.addO C (g R.st.r a), dp_keep (KeepT.mut (H := H) M3.o) (noL_what .non) dw3, (mv11 e11).trans (fin_goTo rfl), by rw [if_pos e11]; rfl⟩
                            · refine ⟨_, rfl, rfl, _, rfl, ifF (decide_eq_false fun z => e11 (V.int.inj z)) ?_⟩
                              have e12' : op = 12 := by omega
                              refine ⟨_, rfl, rfl, _, rfl, ifT (by rw [e12']; decide) ?_⟩
                              refine ⟨_, rfl, _, rfl, _, rfl, (show 4 ≤ sizeLine by decide), fun tw nw => ?_⟩
                              have s4 := same_new (o := HO.tup [V.str "in", V.int a, V.int (g R.st.r a), V.int R.st.t]) nw
                              have M4 := M3.same s4
                              have dw4 : Dp K (upd (upd H' tq (.tup [.int 4, .int 6])) tw (.tup [.str "in", .int a, .int (g R.st.r a), .int R.st.t])) (.ref tw) (whatD (.inp a (g R.st.r a) R.st.t)) := .tup (SqT.of upd_same) (.cons (.str _) (.cons (.int _) (.cons (.int _) (.cons (.int _) .nil))))
                              by_cases ht : R.st.t < bi.length
                              · refine ⟨_, rfl, _, rfl, ab, _, rfl, .inl (M4.sH.seq hab), _, _, rfl, rfl, _, rfl, ifT (by rw [List.length_map]; exact decide_eq_true ht) ⟨_, rfl, _, rfl, ab, _, _, _, rfl, rfl, M4.sH.seq hab, g_at gi.t0 ht, ?_⟩⟩
                                have M5 := M4.setR C a (g bi R.st.t)
                                refine ⟨_, rfl, _, rfl, pr, _, _, _, rfl, rfl, M4.r, ixN_of a0 (by rw [List.length_map]; omega), ?_⟩
                                refine ⟨_, rfl, _, rfl, _, rfl, ab, _, rfl, .inl (M5.sH.seq hab), _, _, rfl, rfl, .inr ⟨_, rfl, _, _, rfl, rfl, ?_⟩⟩
                                refine ⟨none, _, _, _, _, _, _, _, _, rfl, M5, dp_keep (KeepT.mut (H := H) M4.r) (noL_what (.inp _ _ _)) dw4, ?_, out_no (by omega)⟩
                                rw [mv12 e12', fin_takeB (goal := g R.st.r 4 + 1) (one := (g R.st.r a)) a0 a1 rfl, if_pos ht, if_pos ht, List.length_map, decide_eq_true ht]
                                rfl
                              · refine ⟨_, rfl, _, rfl, ab, _, rfl, .inl (M4.sH.seq hab), _, _, rfl, rfl, _, rfl, ifF (by rw [List.length_map]; exact decide_eq_false ht) ?_⟩
                                have M5 := M4.setR C a 0
                                refine ⟨_, rfl, _, rfl, pr, _, _, _, rfl, rfl, M4.r, ixN_of a0 (by rw [List.length_map]; omega), ?_⟩
                                refine ⟨_, rfl, _, rfl, _, rfl, ab, _, rfl, .inl (M5.sH.seq hab), _, _, rfl, rfl, .inr ⟨_, rfl, _, _, rfl, rfl, ?_⟩⟩
                                refine ⟨none, _, _, _, _, _, _, _, _, rfl, M5, dp_keep (KeepT.mut (H := H) M4.r) (noL_what (.inp _ _ _)) dw4, ?_, out_no (by omega)⟩
                                rw [mv12 e12', fin_takeB (goal := g R.st.r 4 + 1) (one := (g R.st.r a)) a0 a1 rfl, if_neg ht, if_neg ht, List.length_map, decide_eq_false ht]
                                rfl
        rintro σ' H' ⟨v, gl, t', rr, dd, oo, wh, tw, p22, rfl, M3, dw3, emv, rfl⟩
        refine ⟨fun σ' H' => ∃ (rr : List Int) (wh : What) (tw : Addr), σ' = [some (.ref aw), some (.ref ar), some (.ref pd), some (.int t'), some (.ref ab), some (.int n), some (.ref pr), some (.ref po), some (.ref pt), some (.int (0 + (i : Int))), some (.int (g R.st.r 4)), some (.int wd'), some (.int op), some (.int a), some (.int b), some (.int m), some (.ref tw), some (.int gl), o18, some (.int (g R.st.r a)), some (.int (g R.st.r b)), some (optV v), p22] ∧ Mst K H pr pd po pt xt rr dd (R.out ++ (if op = 11 then some (g R.st.r a) else none).toList) R.tr H' ∧ Dp K H' (.ref tw) (whatD wh) ∧ rr.length = 5 ∧ mv R.st op a b m bi = (⟨put rr 4 (gl % 256), dd, t'⟩, wh), ?_, ?_⟩
        · have rl5 : rr.length = 5 := by
            have := (good_mv gi a0 a1 (op := op) (b := b) (m := m) (bi := bi))
            rw [emv] at this
            cases v <;> simpa [fin1, put_len] using this
          cases v with
          | none => exact ⟨_, rfl, rfl, _, rfl, ifF rfl ⟨_, _, _, rfl, M3, dw3, rl5, emv⟩⟩
          | some x =>
            refine ⟨_, rfl, rfl, _, rfl, ifT rfl ⟨_, rfl, _, rfl, (show 3 ≤ sizeLine by decide), fun t5 n5 => ?_⟩⟩
            have s4 := same_new (o := HO.tup [V.str "r", V.int a, V.int (g R.st.r a)]) n5
            have M4 := M3.same s4
            have M5 := M4.setR C a (x - x / 256 * 256)
            refine ⟨_, rfl, _, rfl, _, _, rfl, rfl, ⟨by decide, by decide⟩, _, _, rfl, rfl, .inr (by decide), _, _, rfl, rfl, _, rfl, _, rfl, pr, _, _, _, rfl, rfl, M4.r, ixN_of a0 (by rw [List.length_map]; omega), ?_⟩
            refine ⟨_, .reg a (g R.st.r a), _, rfl, M5, dp_keep (KeepT.mut (H := H) M4.r) (noL_what (.reg _ _)) (.tup (SqT.of upd_same) (.cons (.str _) (.cons (.int _) (.cons (.int _) .nil)))), by rw [put_len]; exact rl5, ?_⟩
            rw [show x - x / 256 * 256 = x % 256 by omega]
            exact emv
        rintro σ' H' ⟨rr, wh, tw, rfl, M4, dw4, rl5, emv⟩
        have M5 := M4.setR C 4 (gl - gl / 256 * 256)
        refine ⟨_, rfl, _, rfl, _, _, rfl, rfl, ⟨by decide, by decide⟩, _, _, rfl, rfl, .inr (by decide), _, _, rfl, rfl, _, rfl, pr, _, 4, _, rfl, rfl, M4.r, ixN_of (by decide) (by rw [List.length_map]; omega), ?_⟩
        have dw5 := dp_keep (KeepT.mut (H := H) (ys := (rr.map V.int).set (4 : Int).toNat (V.int (gl - gl / 256 * 256))) M4.r) (noL_what wh) dw4
        refine ⟨_, rfl, .inl ⟨rfl, _, SqL.of M5.t⟩, _, rfl, _, rfl, (show 2 ≤ sizeLine by decide), fun t6 n6 => ?_⟩
        have s6 := same_new (o := HO.tup [V.int (g R.st.r 4), V.ref tw]) n6
        have M6 := M5.same s6
        have M7 := M6.addT C (w := (g R.st.r 4, wh)) (.tup (SqT.of upd_same) (.cons (.int _) (.cons (dp_same s6 dw5) .nil)))
        refine ⟨_, _, _, rfl, rfl, M6.t, size_lt (by omega), ?_⟩
        rw [emv] at es
        rw [show gl - gl / 256 * 256 = gl % 256 by omega] at M7
        have ef : (M40.run ws bi (i + 1) st).fin = "cut" := by rw [es]
        have M8 := M7.as es
        have et : (M40.run ws bi (i + 1) st).st.t = t' := by rw [es]
        clear es emv
        subst et
        exact ⟨_, _, _, _, _, _, _, _, _, _, _, _, _, _, _, rfl, M8, ef⟩
    · rintro σ H' ⟨xt, o9, o10, o11, o12, o13, o14, o15, o16, o17, o18, o19, o20, o21, o22, rfl, M, hcut⟩
      rw [Int.toNat_natCast] at M hcut ⊢
      refine ⟨_, rfl, _, rfl, pr, _, rfl, .inl ⟨SqL.of M.r, fun l1 n1 => ?_⟩⟩
      have x1 := same_new (o := HO.tup ((M40.run ws bi n st).st.r.map V.int)) n1
      refine ⟨_, rfl, pd, _, rfl, .inl ⟨SqL.of ((M.same x1).d), fun l2 n2 => ?_⟩⟩
      refine ⟨_, rfl, (show 3 ≤ sizeLine by decide), fun t3 n3 => ⟨_, rfl, (show 4 ≤ sizeLine by decide), fun t4 n4 => ?_⟩⟩
      obtain ⟨sf, df⟩ := M.fin (z := "cut") n1 n2 n3 n4
      exact k _ po pt _ _ _ sf C.o0 C.t0 C.ot (by rw [hcut]; exact df.1) df.2.1 df.2.2.1 df.2.2.2.1 df.2.2.2.2
end
end Q40



set_option pp.maxSteps 1500
namespace Q40
open PySem L2 G M40
open C8 (Cal Met Mak pe_c pe_mk pe_mt pe_mt0 pe_gc pss_cut tCut)
/-! ### draws in a comprehension -/
def DrawP (dk D : Addr) (H1 : Hp) (m : Int) (i : Nat) (H : Hp) : Prop := ∃ rs : List Int, rs.length = i ∧ (∀ r ∈ rs, 0 ≤ r ∧ r < m) ∧ But dk H1 H ∧ H D = some (.lst (rs.map V.int)) ∧ Deck H dk
theorem draw0 {dk D : Addr} {H1 : Hp} {m : Int} (hD : H1 D = none) (hk : Deck H1 dk) : DrawP dk D H1 m 0 (upd H1 D (.lst [])) :=
  ⟨[], rfl, (fun _ h => by cases h), But.of (same_new hD), upd_same, hk.same (same_new hD)⟩
theorem draw_keep {dk D : Addr} {H1 H H' : Hp} {m : Int} {i : Nat} (hD : H1 D = none) (hk : Deck H1 dk) (p : DrawP dk D H1 m i H) (b : But dk H H') (k : Deck H' dk) : DrawP dk D H1 m i H' := by
  obtain ⟨rs, hl, hr, b1, hd, _⟩ := p
  exact ⟨rs, hl, hr, b1.trans b, b _ _ (Deck.ne hk hD) hd, k⟩
theorem draw_put {dk D : Addr} {H1 H : Hp} {m r : Int} {i : Nat} (hD : H1 D = none) (hk : Deck H1 dk) (p : DrawP dk D H1 m i H) (r0 : 0 ≤ r) (r1 : r < m) (hi : i < 100000) :
    ∃ acc, H D = some (.lst acc) ∧ acc.length < sizeLine ∧ DrawP dk D H1 m (i + 1) (upd H D (.lst (acc ++ [.int r]))) := by
  obtain ⟨rs, hl, hr, b1, hd, k⟩ := p
  have ne := Deck.ne hk hD
  refine ⟨_, hd, size_lt (by rw [List.length_map]; omega), rs ++ [r], by rw [List.length_append, hl]; rfl, fun x hx => ?_, but_mut b1 hD, by rw [upd_same, List.map_append]; rfl, ?_⟩
  · rcases List.mem_append.mp hx with hx | hx
    · exact hr x hx
    · rw [List.mem_singleton.mp hx]
      exact ⟨r0, r1⟩
  · obtain ⟨ds, h1, h2⟩ := k
    exact ⟨ds, h1, by rw [upd_ne (Ne.symm ne)]; exact h2⟩
theorem draw_next {dk D : Addr} {H1 H : Hp} {m : Int} {i : Nat} {E : XK} (hD : H1 D = none) (hk : Deck H1 dk) (hm : 0 < m) (hi : i < 100000) (p : DrawP dk D H1 m i H) :
    spTake [.ref dk, .int m] H (fun y H4 => ∃ acc, H4 D = some (.lst acc) ∧ acc.length < sizeLine ∧ DrawP dk D H1 m (i + 1) (upd H4 D (.lst (acc ++ [y])))) E :=
  ⟨dk, m, rfl, hm, p.choose_spec.2.2.2.2, fun _ _ r0 r1 b2 k2 => draw_put hD hk (draw_keep hD hk p b2 k2) r0 r1 hi⟩
section
variable {P : Program} {w : World} {K : PySem.W.Frag} {mg : Str → Option Value} {base : Heap}
/-! ### _law_state, _law_drawn_word -/
def spLState (K : PySem.W.Frag) : Sp := fun vs H Q _ => ∃ dk : Addr, vs = [.ref dk] ∧ Deck H dk ∧ ∀ (v : V) (s : Mc) (H' : Hp), Good s → But dk H H' → Deck H' dk → Dp K H' v (stD s) → Q v H'
theorem ok_lstate {f : Addr} {fd : FuncData} (F : Fun K "_law_state" "_law_state" s__law_state f fd) (T : Txt K mg) (c__law_take : Cal P w K mg base 1 "_law_take" spTake []) :
    FnOk P w K mg base CX0 2 f fd ["deck"] (spLState K) := by
  refine F.ok sc__law_state (fun vs H Q E h => ?_) (fun cdv A outer s H vs Q E hr h => ?_)
  · obtain ⟨dk, rfl, _⟩ := h
    rfl
  · obtain ⟨dk, rfl, hk, k⟩ := h
    refine ⟨_, (pss_cons (ps_set (i := 1) sc__law_state.nd rfl (Or.inl rfl) (pe_op op_catA (pe_callTy call_tuple_of (by rfl) T.b_tuple boot_tuple' (pa_cons (pe_lc (own := [("turn", 2)]) rfl sc__law_state.nd (pi_range1 (by rfl) T.b_range (pa_cons pe_int pa_nil)) (blkOk_by (own := [("turn", 2)]) (N := ["deck", "registers", "turn"]) (sc := defScope s__law_state) (by decide +kernel)) (fun _ _ _ _ _ => (pg_name (i := 2) sc__law_state.nd rfl (Or.inl rfl))) (fun _ _ _ _ _ => pts_nil) (fun _ _ _ _ _ => (pe_ix (ix_listK (K := K) rfl) (pe_lst (pa_cons (pe_c c__law_take hr (by omega) rfl (pa_cons (pv 0) (pa_cons pe_int pa_nil))) (pa_cons (pe_c c__law_take hr (by omega) rfl (pa_cons (pv 0) (pa_cons pe_int pa_nil))) pa_nil))) (pe_c c__law_take hr (by omega) rfl (pa_cons (pv 0) (pa_cons pe_int pa_nil))) (fun _ _ => rfl)))) pa_nil)) (pe_tup (pa_cons (pe_c c__law_take hr (by omega) rfl (pa_cons (pv 0) (pa_cons pe_int pa_nil))) pa_nil))))
      (pss_one (ps_ret (pe_tup (pa_cons (pv 1) (pa_cons (pe_callTy call_tuple_of (by rfl) T.b_tuple boot_tuple' (pa_cons (pe_lc (own := [("turn", 2)]) rfl sc__law_state.nd (pi_range1 (by rfl) T.b_range (pa_cons pe_int pa_nil)) (blkOk_by (own := [("turn", 2)]) (N := ["deck", "registers", "turn"]) (sc := defScope s__law_state) (by decide +kernel)) (fun _ _ _ _ _ => (pg_name (i := 2) sc__law_state.nd rfl (Or.inl rfl))) (fun _ _ _ _ _ => pts_nil) (fun _ _ _ _ _ => (pe_ix (ix_listK (K := K) rfl) (pe_lst (pa_cons pe_int (pa_cons pe_int (pa_cons (pe_c c__law_take hr (by omega) rfl (pa_cons (pv 0) (pa_cons pe_int pa_nil))) pa_nil)))) (pe_c c__law_take hr (by omega) rfl (pa_cons (pv 0) (pa_cons pe_int pa_nil))) (fun _ _ => rfl)))) pa_nil)) (pa_cons (pe_c c__law_take hr (by omega) rfl (pa_cons (pv 0) (pa_cons pe_int pa_nil))) pa_nil))))))), ?_⟩
    refine ⟨_, rfl, by decide, by decide, fun D hD => ?_⟩
    refine lc_range (lo := 0) (n := (4 : Int).toNat) (DrawP dk D H 256) (draw0 hD hk) (fun j G hj p => ?_) ?_
    · obtain ⟨_, _, _, _, _, kG⟩ := id p
      refine ⟨rfl, _, rfl, dk, 256, rfl, by decide, kG, fun r1 G1 a0 a1 b1 k1 => ⟨_, rfl, dk, 4, rfl, by decide, k1, fun r2 G2 c0 c1 b2 k2 => ⟨(show 2 ≤ sizeLine by decide), fun pl npl => ?_⟩⟩⟩
      refine ⟨_, rfl, dk, 2, rfl, by decide, k2.same (same_new npl), fun r3 G3 d0 d1 b3 k3 => ?_⟩
      have npk := Deck.ne k2 npl
      obtain ⟨x, at_, x0, x1⟩ : ∃ x, atI [V.int r1, V.int r2] r3 = some (V.int x) ∧ 0 ≤ x ∧ x < 256 := by
        have : r3 = 0 ∨ r3 = 1 := by omega
        rcases this with rfl | rfl
        · exact ⟨r1, rfl, a0, a1⟩
        · exact ⟨r2, rfl, c0, by omega⟩
      refine ⟨pl, [V.int r1, V.int r2], r3, V.int x, rfl, rfl, SqL.of (b3 _ _ npk upd_same), at_, ?_⟩
      exact draw_put hD hk (draw_keep hD hk p ((b1.trans b2).trans ((But.of (same_new npl)).trans b3)) k3) x0 x1 (by omega)
    · rintro G ⟨rs, hl, hrr, bG, hGD, kG⟩
      refine ⟨D, _, rfl, .inl ⟨SqL.of hGD, fun l1 n1 => ?_⟩⟩
      have y1 := same_new (o := HO.tup (rs.map V.int)) n1
      have nl1 := Deck.ne kG n1
      refine ⟨_, rfl, dk, 12, rfl, by decide, kG.same y1, fun r4 G4 e0 e1 b4 k4 => ⟨(show 1 ≤ sizeLine by decide), fun t2 n2 => ?_⟩⟩
      have y2 := same_new (o := HO.tup [V.int r4]) n2
      refine catD (ds := intsD rs) (es := intsD [r4]) (.tup (SqT.of (y2 _ _ (b4 _ _ nl1 upd_same))) (dps_ints _)) (.tup (SqT.of upd_same) (dps_ints [r4])) (by rw [ints_len, ints_len, hl]; show 4 + 1 ≤ 100000; decide) fun z H5 s5 d5 => ?_
      have e5 : intsD rs ++ intsD [r4] = intsD (rs ++ [r4]) := by unfold intsD; rw [List.map_append]
      rw [e5] at d5
      have k5 := (k4.same y2).same s5
      refine ⟨_, rfl, _, rfl, by decide, by decide, fun D2 hD2 => ?_⟩
      refine lc_range (lo := 0) (n := (64 : Int).toNat) (DrawP dk D2 H5 256) (draw0 hD2 k5) (fun j G hj p => ?_) ?_
      · obtain ⟨_, _, _, _, _, kG⟩ := id p
        refine ⟨rfl, _, rfl, dk, 256, rfl, by decide, kG, fun r1 G1 a0 a1 b1 k1 => ⟨(show 3 ≤ sizeLine by decide), fun pl npl => ?_⟩⟩
        refine ⟨_, rfl, dk, 3, rfl, by decide, k1.same (same_new npl), fun r3 G3 d0 d1 b3 k3 => ?_⟩
        have npk := Deck.ne k1 npl
        obtain ⟨x, at_, x0, x1⟩ : ∃ x, atI [V.int 0, V.int 255, V.int r1] r3 = some (V.int x) ∧ 0 ≤ x ∧ x < 256 := by
          have : r3 = 0 ∨ r3 = 1 ∨ r3 = 2 := by omega
          rcases this with rfl | rfl | rfl
          · exact ⟨0, rfl, by decide, by decide⟩
          · exact ⟨255, rfl, by decide, by decide⟩
          · exact ⟨r1, rfl, a0, a1⟩
        refine ⟨pl, [V.int 0, V.int 255, V.int r1], r3, V.int x, rfl, rfl, SqL.of (b3 _ _ npk upd_same), at_, ?_⟩
        exact draw_put hD2 k5 (draw_keep hD2 k5 p (b1.trans ((But.of (same_new npl)).trans b3)) k3) x0 x1 (by omega)
      · rintro G6 ⟨ds, hdl, hdr, b6, hG6, k6⟩
        refine ⟨D2, _, rfl, .inl ⟨SqL.of hG6, fun l7 n7 => ?_⟩⟩
        have y7 := same_new (o := HO.tup (ds.map V.int)) n7
        have nl7 := Deck.ne k6 n7
        refine ⟨_, rfl, dk, 3, rfl, by decide, k6.same y7, fun r8 G8 f0 f1 b8 k8 => ⟨(show 3 ≤ sizeLine by decide), fun t9 n9 => ?_⟩⟩
        have y9 := same_new (o := HO.tup [z, V.ref l7, V.int r8]) n9
        have b69 : But dk H5 (upd G8 t9 (.tup [z, V.ref l7, V.int r8])) := ((b6.trans (But.of y7)).trans b8).trans (But.of y9)
        have d9 := dp_keep (KeepT.of_but k5 b69) (by show noLs _ = true; exact noL_ints _) d5
        refine k _ ⟨rs ++ [r4], ds, r8⟩ _ ⟨by rw [List.length_append, hl]; rfl, hdl, fun x hx => ?_, fun x hx => hdr x hx, f0⟩ ((((bG.trans (But.of y1)).trans b4).trans (But.of (y2.trans s5))).trans b69) (k8.same y9) (.tup (SqT.of upd_same) (.cons d9 (.cons (.tup (SqT.of (y9 _ _ (b8 _ _ nl7 upd_same))) (dps_ints _)) (.cons (.int _) .nil))))
        rcases List.mem_append.mp hx with hx | hx
        · exact hrr x hx
        · rw [List.mem_singleton.mp hx]
          exact ⟨e0, by omega⟩
def spWord : Sp := fun vs H Q _ => ∃ dk : Addr, vs = [.ref dk] ∧ Deck H dk ∧ ∀ (r : Int) (H' : Hp), 0 ≤ r → r ≤ 65535 → But dk H H' → Deck H' dk → Q (.int r) H'
theorem op_drawn {r : Int} (r0 : 0 ≤ r) (r1 : r < 22) : ∃ x : Int, atI [V.int 0, V.int 1, V.int 1, V.int 2, V.int 2, V.int 2, V.int 2, V.int 3, V.int 4, V.int 5, V.int 6, V.int 7, V.int 8, V.int 8, V.int 9, V.int 10, V.int 11, V.int 11, V.int 12, V.int 13, V.int 14, V.int 15] r = some (.int x) ∧ 0 ≤ x ∧ x < 16 := by
  obtain ⟨k, rfl⟩ := Int.eq_ofNat_of_zero_le r0
  have h : k < 22 := by omega
  have := List.getElem?_eq_getElem (l := [(0 : Int), 1, 1, 2, 2, 2, 2, 3, 4, 5, 6, 7, 8, 8, 9, 10, 11, 11, 12, 13, 14, 15]) h
  refine ⟨[(0 : Int), 1, 1, 2, 2, 2, 2, 3, 4, 5, 6, 7, 8, 8, 9, 10, 11, 11, 12, 13, 14, 15][k], ?_, ?_⟩
  · refine atI_nat ?_
    show ([(0 : Int), 1, 1, 2, 2, 2, 2, 3, 4, 5, 6, 7, 8, 8, 9, 10, 11, 11, 12, 13, 14, 15].map V.int)[k]? = _
    rw [List.getElem?_map, this]
    rfl
  · have hm := List.getElem_mem (l := [(0 : Int), 1, 1, 2, 2, 2, 2, 3, 4, 5, 6, 7, 8, 8, 9, 10, 11, 11, 12, 13, 14, 15]) h
    generalize [(0 : Int), 1, 1, 2, 2, 2, 2, 3, 4, 5, 6, 7, 8, 8, 9, 10, 11, 11, 12, 13, 14, 15][k] = x at hm
    have : ∀ x ∈ [(0 : Int), 1, 1, 2, 2, 2, 2, 3, 4, 5, 6, 7, 8, 8, 9, 10, 11, 11, 12, 13, 14, 15], 0 ≤ x ∧ x < 16 := by decide
    exact this x hm
theorem ok_word {f : Addr} {fd : FuncData} (F : Fun K "_law_drawn_word" "_law_drawn_word" s__law_drawn_word f fd) (T : Txt K mg) (c__law_take : Cal P w K mg base 1 "_law_take" spTake []) :
    FnOk P w K mg base CX0 2 f fd ["deck"] spWord := by
  refine F.ok sc__law_drawn_word (fun vs H Q E h => ?_) (fun cdv A outer s H vs Q E hr h => ?_)
  · obtain ⟨dk, rfl, _⟩ := h
    rfl
  · obtain ⟨dk, rfl, hk, k⟩ := h
    refine ⟨_, (pss_cons (ps_set (i := 1) sc__law_drawn_word.nd rfl (Or.inl rfl) (pe_ix ix_list (pe_lst (pa_cons pe_int (pa_cons pe_int (pa_cons pe_int (pa_cons pe_int (pa_cons pe_int (pa_cons pe_int (pa_cons pe_int (pa_cons pe_int (pa_cons pe_int (pa_cons pe_int (pa_cons pe_int (pa_cons pe_int (pa_cons pe_int (pa_cons pe_int (pa_cons pe_int (pa_cons pe_int (pa_cons pe_int (pa_cons pe_int (pa_cons pe_int (pa_cons pe_int (pa_cons pe_int (pa_cons pe_int pa_nil))))))))))))))))))))))) (pe_c c__law_take hr (by omega) rfl (pa_cons (pv 0) (pa_cons pe_int pa_nil))) (fun _ _ => rfl)))
      (pss_cons (ps_set (i := 2) sc__law_drawn_word.nd rfl (Or.inl rfl) (pe_ix ix_list (pe_lst (pa_cons (pe_c c__law_take hr (by omega) rfl (pa_cons (pv 0) (pa_cons pe_int pa_nil))) (pa_cons (pe_c c__law_take hr (by omega) rfl (pa_cons (pv 0) (pa_cons pe_int pa_nil))) pa_nil))) (pe_callTy call_int1 (by rfl) T.b_int boot_int' (pa_cons (pe_cmpR op_eq (pe_c c__law_take hr (by omega) rfl (pa_cons (pv 0) (pa_cons pe_int pa_nil))) pe_int (nomark _)) pa_nil)) (fun _ _ => rfl)))
      (pss_cut (ps_if (PW.pt (pw_and (pt_cmpR op_eq (pv 1) pe_int (nomark _)) (pw_and1 (pt_cmpR op_gt (pe_c c__law_take hr (by omega) rfl (pa_cons (pv 0) (pa_cons pe_int pa_nil))) pe_int (nomark _))))) (pss_one (ps_set (i := 1) sc__law_drawn_word.nd rfl (Or.inl rfl) pe_int)) pss_nil)
      (pss_one (ps_ret (pe_op op_add (pe_op op_add (pe_op op_add (pe_op op_mul pe_int (pv 1)) (pe_op op_mul pe_int (pe_c c__law_take hr (by omega) rfl (pa_cons (pv 0) (pa_cons pe_int pa_nil))))) (pe_op op_mul pe_int (pe_c c__law_take hr (by omega) rfl (pa_cons (pv 0) (pa_cons pe_int pa_nil))))) (pv 2))))))), ?_⟩
    refine ⟨(show 22 ≤ sizeLine by decide), fun pl npl => ?_⟩
    have npk := Deck.ne hk npl
    refine ⟨_, rfl, dk, 22, rfl, by decide, hk.same (same_new npl), fun r G0 r0 r1 b0 k0 => ?_⟩
    obtain ⟨op, at_, o0, o1⟩ := op_drawn r0 r1
    refine ⟨pl, _, r, _, rfl, rfl, SqL.of (b0 _ _ npk upd_same), at_, ?_⟩
    have c0 : But dk H G0 := (But.of (same_new npl)).trans b0
    refine ⟨_, rfl, dk, 12, rfl, by decide, k0, fun r2 G2 p0 p1 b2 k2 => ⟨_, rfl, dk, 256, rfl, by decide, k2, fun r3 G3 q0 q1 b3 k3 => ⟨(show 2 ≤ sizeLine by decide), fun pm npm => ?_⟩⟩⟩
    have npk2 := Deck.ne k3 npm
    refine ⟨_, rfl, dk, 3, rfl, by decide, k3.same (same_new npm), fun r4 G4 _ _ b4 k4 => ⟨rfl, .inr ⟨_, rfl, ?_⟩⟩⟩
    obtain ⟨n, atn, n0, n1⟩ : ∃ n, atI [V.int r2, V.int r3] (if decide (V.int r4 = V.int 0) = true then 1 else 0) = some (V.int n) ∧ 0 ≤ n ∧ n < 256 := by
      cases decide (V.int r4 = V.int 0)
      · exact ⟨r2, rfl, p0, by omega⟩
      · exact ⟨r3, rfl, q0, q1⟩
    refine ⟨pm, [V.int r2, V.int r3], _, V.int n, rfl, rfl, SqL.of (b4 _ _ npk2 upd_same), atn, ?_⟩
    have c4 : But dk H G4 := ((c0.trans b2).trans b3).trans ((But.of (same_new npm)).trans b4)
    refine ⟨fun σ' H' => ∃ op : Int, σ' = [some (.ref dk), some (.int op), some (.int n)] ∧ 0 ≤ op ∧ op < 16 ∧ But dk H H' ∧ Deck H' dk, ?_, ?_⟩
    · refine ⟨_, rfl, rfl, _, rfl, ite2 (fun _ => ?_) (fun _ => ⟨op, rfl, o0, o1, c4, k4⟩)⟩
      exact ⟨_, rfl, dk, 3, rfl, by decide, k4, fun r5 G5 _ _ b5 k5 => ⟨_, _, rfl, rfl, _, rfl, ite2 (fun _ => ⟨1, rfl, by decide, by decide, c4.trans b5, k5⟩) (fun _ => ⟨op, rfl, o0, o1, c4.trans b5, k5⟩)⟩⟩
    rintro σ' H' ⟨op, rfl, o0, o1, c5, k5⟩
    refine ⟨_, rfl, _, _, rfl, rfl, .inl (by decide), _, rfl, dk, 4, rfl, by decide, k5, fun r6 G6 s0 s1 b6 k6 => ⟨_, _, rfl, rfl, .inl (by decide), _, _, rfl, rfl, _, rfl, dk, 4, rfl, by decide, k6, fun r7 G7 t0 t1 b7 k7 => ⟨_, _, rfl, rfl, .inl (by decide), _, _, rfl, rfl, _, rfl, _, _, rfl, rfl, ?_⟩⟩⟩
    exact k _ _ (by omega) (by omega) ((c5.trans b6).trans b7) k7
end
end Q40



set_option pp.maxSteps 1500
namespace Q40
open PySem L2 G M40
open C8 (Cal Met Mak pe_c pe_mk pe_mt pe_mt0 pe_gc pss_cut tCut)
section
variable {P : Program} {w : World} {K : PySem.W.Frag} {mg : Str → Option Value} {base : Heap}
/-! ### _law_why -/
theorem BadS.same {H H' : Hp} {v : V} (s : Same H H') : BadS K H v → BadS K H' v := fun ⟨t0, t1, ds, ns, d2, h, r⟩ => ⟨t0, t1, ds, ns, d2, dp_same s h, r⟩
structure WhyT (K : PySem.W.Frag) (mg : Str → Option Value) (CS CC CG : Addr) : Prop where
  gC : mg "GateError" = some (.ref CG)
  g1 : mg "InvalidState" = some (.ref CS)
  g2 : mg "InvalidCode" = some (.ref CC)
  m1 : PySem.W.exmOne K (.ref CS) (.ref CG) = some true
  m2 : PySem.W.exmOne K (.ref CC) (.ref CG) = some true
  e1 : ExcC K CS
  e2 : ExcC K CC
  k11 : PySem.W.kitOne K (.ref CS) (.ref CS) = some true
  k21 : PySem.W.kitOne K (.ref CC) (.ref CS) = some false
  k22 : PySem.W.kitOne K (.ref CC) (.ref CC) = some true
  x1 : XfC K CS
  x2 : XfC K CC
  n1 : PySem.W.findIn K (.ref CS) "what" = some none
  n2 : PySem.W.findIn K (.ref CC) "what" = some none
def KWhy (K : PySem.W.Frag) (H : Hp) (x y : Str) (Q : VK) : Prop := ∀ (z : V) (H' : Hp), Same H H' → Dp K H' z (.tuple [.str x, .str y]) → Q z H'
def spWhy (K : PySem.W.Frag) : Sp := fun vs H Q _ => ∃ (ask : Int) (vw v vt : V), vs = [.int ask, vw, v, vt] ∧
  ((ask = 0 ∧ (∃ ws, Nums K H vw ws ∧ ws.length ≤ 1000 ∧ wordsB ws = false) ∧ KWhy K H "code" "words" Q) ∨
  (ask = 0 ∧ (∃ ws, Nums K H vw ws ∧ ws.length ≤ 1000 ∧ wordsB ws = true) ∧ BadS K H v ∧ KWhy K H "state" "form" Q) ∨
  (ask = 1 ∧ BadS K H v ∧ KWhy K H "state" "form" Q) ∨
  (ask = 1 ∧ (∃ (s : Mc) (pre : List Row) (bad : PyData) (rest : List PyData), Dp K H v (stD s) ∧ Good s ∧ Dp K H vt (.list (pre.map rowD ++ bad :: rest)) ∧ (∀ r ∈ pre, RowOk r) ∧ bad ∈ badRows) ∧ KWhy K H "state" "trace" Q))
theorem ok_why {CS CC CG : Addr} {f : Addr} {fd : FuncData} (F : Fun K "_law_why" "_law_why" s__law_why f fd) (T : Txt K mg) (R_GateError : WhyT K mg CS CC CG) (c_run_words : CalX P w K mg base 6 "run_words" (spRun K CS CC)) (c_run_back : CalX P w K mg base 5 "run_back" (spBack K CS)) :
    FnOk P w K mg base CX0 7 f fd ["ask", "words", "state", "trace"] (spWhy K) := by
  refine F.ok sc__law_why (fun vs H Q E h => ?_) (fun cdv A outer s H vs Q E hr h => ?_)
  · obtain ⟨ask, vw, v, vt, rfl, _⟩ := h
    rfl
  · obtain ⟨ask, vw, v, vt, rfl, h⟩ := h
    have g_InvalidState : ∃ u, mg "InvalidState" = some u ∧ RelV (V.ref CS) u := ⟨_, R_GateError.g1, rfl⟩
    have g_InvalidCode : ∃ u, mg "InvalidCode" = some u ∧ RelV (V.ref CC) u := ⟨_, R_GateError.g2, rfl⟩
    refine ⟨_, (pss_cons (ps_try_as (i := 4) rfl rfl sc__law_why.nd rfl rfl ⟨rfl, by decide, .inl R_GateError.gC⟩ takes0 (fun W pn xe tk po => (pss_one (ps_if (pt_cmpR op_eq (pv 0) pe_int (nomark _)) (pss_one (ps_expr (pe_cx c_run_words hr (by omega) rfl tk (pa_cons (pv 1) (pa_cons (pv 2) (pa_cons (pe_lst pa_nil) (pa_cons pe_int pa_nil))))))) (pss_one (ps_expr (pe_cx c_run_back hr (by omega) rfl tk (pa_cons (pv 2) (pa_cons (pv 3) pa_nil)))))))) (fun a oe cls d pn hz hf => (pss_cons (ps_if (pt_val (pe_callB (call_isD hz hf) (by rfl) T.b_isinstance boot_isinstance' (pa_cons (pv 4) (pa_cons (pe_gc (by rfl) g_InvalidState) pa_nil)))) (pss_one (ps_ret (pe_tup (pa_cons pe_str (pa_cons (pe_xg hz hf (pv 4)) pa_nil))))) pss_nil)
      (pss_one (ps_ret (pe_ifExp (pt_val (pe_callB (call_isD hz hf) (by rfl) T.b_isinstance boot_isinstance' (pa_cons (pv 4) (pa_cons (pe_gc (by rfl) g_InvalidCode) pa_nil)))) (pe_tup (pa_cons pe_str (pa_cons (pe_xg hz hf (pv 4)) pa_nil))) pe_str))))))
      (pss_one (ps_ret pe_non))), ?_⟩
    rcases h with ⟨rfl, ⟨ws, hw, hl, hb⟩, k⟩ | ⟨rfl, ⟨ws, hw, hl, hb⟩, hs, k⟩ | ⟨rfl, hs, k⟩ | ⟨rfl, ⟨st, pre, bad, rest, h1, h2, h3, h4, h5⟩, k⟩
    · refine ⟨_, rfl, rfl, _, rfl, ifT rfl ⟨_, rfl, _, rfl, (show 0 ≤ sizeLine by decide), fun pl npl => ?_⟩⟩
      have s0 := same_new (o := HO.lst []) npl
      refine ⟨vw, v, _, ws, 5, rfl, hw.same s0, hl, .inl ⟨hb, fun H' d s1 hd => ?_⟩⟩
      refine ⟨true, R_GateError.m2, fun _ a ha => ?_, fun q => Bool.noConfusion q⟩
      refine ⟨_, rfl, CC, _, .ref CS, false, d, _, rfl, rfl, hd, R_GateError.e2, rfl, fun _ h => h, R_GateError.k21, _, rfl, ifF rfl ?_⟩
      refine ⟨_, rfl, CC, _, .ref CC, true, d, _, rfl, rfl, hd, R_GateError.e2, rfl, fun _ h => h, R_GateError.k22, _, rfl, ifT rfl ?_⟩
      refine ⟨_, rfl, rfl, CC, d, _, _, rfl, R_GateError.x2, R_GateError.n2, rfl, hd, rfl, (show 2 ≤ sizeLine by decide), fun p np => ?_⟩
      exact k _ _ ((s0.trans s1).trans (same_new np)) (.tup (SqT.of upd_same) (.cons (.str _) (.cons (.str _) .nil)))
    · refine ⟨_, rfl, rfl, _, rfl, ifT rfl ⟨_, rfl, _, rfl, (show 0 ≤ sizeLine by decide), fun pl npl => ?_⟩⟩
      have s0 := same_new (o := HO.lst []) npl
      refine ⟨vw, v, _, ws, 5, rfl, hw.same s0, hl, .inr (.inl ⟨hb, hs.same s0, fun H' d s1 hd => ?_⟩)⟩
      refine ⟨true, R_GateError.m1, fun _ a ha => ?_, fun q => Bool.noConfusion q⟩
      refine ⟨_, rfl, CS, _, .ref CS, true, d, _, rfl, rfl, hd, R_GateError.e1, rfl, fun _ h => h, R_GateError.k11, _, rfl, ifT rfl ?_⟩
      refine ⟨_, rfl, rfl, CS, d, _, _, rfl, R_GateError.x1, R_GateError.n1, rfl, hd, rfl, (show 2 ≤ sizeLine by decide), fun p np => ?_⟩
      exact k _ _ ((s0.trans s1).trans (same_new np)) (.tup (SqT.of upd_same) (.cons (.str _) (.cons (.str _) .nil)))
    · refine ⟨_, rfl, rfl, _, rfl, ifF rfl ⟨_, rfl, _, rfl, ?_⟩⟩
      refine ⟨v, vt, rfl, .inl ⟨hs, fun H' d s1 hd => ?_⟩⟩
      refine ⟨true, R_GateError.m1, fun _ a ha => ?_, fun q => Bool.noConfusion q⟩
      refine ⟨_, rfl, CS, _, .ref CS, true, d, _, rfl, rfl, hd, R_GateError.e1, rfl, fun _ h => h, R_GateError.k11, _, rfl, ifT rfl ?_⟩
      refine ⟨_, rfl, rfl, CS, d, _, _, rfl, R_GateError.x1, R_GateError.n1, rfl, hd, rfl, (show 2 ≤ sizeLine by decide), fun p np => ?_⟩
      exact k _ _ (s1.trans (same_new np)) (.tup (SqT.of upd_same) (.cons (.str _) (.cons (.str _) .nil)))
    · refine ⟨_, rfl, rfl, _, rfl, ifF rfl ⟨_, rfl, _, rfl, ?_⟩⟩
      refine ⟨v, vt, rfl, .inr (.inl ⟨st, pre, bad, rest, h1, h2, h3, h4, h5, fun H' d s1 hd => ?_⟩)⟩
      refine ⟨true, R_GateError.m1, fun _ a ha => ?_, fun q => Bool.noConfusion q⟩
      refine ⟨_, rfl, CS, _, .ref CS, true, d, _, rfl, rfl, hd, R_GateError.e1, rfl, fun _ h => h, R_GateError.k11, _, rfl, ifT rfl ?_⟩
      refine ⟨_, rfl, rfl, CS, d, _, _, rfl, R_GateError.x1, R_GateError.n1, rfl, hd, rfl, (show 2 ≤ sizeLine by decide), fun p np => ?_⟩
      exact k _ _ (s1.trans (same_new np)) (.tup (SqT.of upd_same) (.cons (.str _) (.cons (.str _) .nil)))
end
end Q40



namespace Q40
open PySem L2 G M40
/-! # the law: plain facts -/
/-- the parts of a run's result -/
structure RunA (K : PySem.W.Frag) (H : Hp) (u ao at_ : Addr) (vs : V) (xt : List V) (r : Res) : Prop where
  u : SqT K H u [.ref ao, .str r.fin, vs, .ref at_]
  o : H ao = some (.lst (r.out.map V.int))
  t : H at_ = some (.lst xt)
  x : DpAll K H xt (r.tr.map rowD)
  s : Dp K H vs (stD r.st)
theorem RunA.same {K : PySem.W.Frag} {H H' : Hp} {u ao at_ : Addr} {vs : V} {xt : List V} {r : Res} (h : RunA K H u ao at_ vs xt r) (e : Same H H') : RunA K H' u ao at_ vs xt r :=
  ⟨Same.tup e h.u, e _ _ h.o, e _ _ h.t, dps_same e h.x, dp_same e h.s⟩
theorem RunA.dp {K : PySem.W.Frag} {H : Hp} {u ao at_ : Addr} {vs : V} {xt : List V} {r : Res} (h : RunA K H u ao at_ vs xt r) : Dp K H (.ref u) (runD r) :=
  .tup h.u (.cons (.lst (SqL.of h.o) (dps_ints _)) (.cons (.str _) (.cons h.s (.cons (.lst (SqL.of h.t) h.x) .nil))))
theorem KeepT.del {H : Hp} {D : Addr} {xs : List V} (h : H D = some (.lst xs)) : KeepT H (del1 H D) := fun b u e n => by
  have ne : b ≠ D := fun z => by
    rw [z, h] at e
    exact n _ (Option.some.inj e).symm
  rw [del1_ne ne]
  exact e
theorem RunA.del {K : PySem.W.Frag} {H : Hp} {u ao at_ D : Addr} {vs : V} {xt : List V} {r : Res} (h : RunA K H u ao at_ vs xt r) (hd : Deck H D) (n1 : ao ≠ D) (n2 : at_ ≠ D) : RunA K (del1 H D) u ao at_ vs xt r := by
  obtain ⟨ds, _, hd⟩ := hd
  have k := KeepT.del hd
  exact ⟨SqT.keep k h.u, by rw [del1_ne n1]; exact h.o, by rw [del1_ne n2]; exact h.t, dps_keep k (noL_rows _) h.x, dp_keep k (noL_st _) h.s⟩
/-- a result of new lists -/
theorem KRun.of {K : PySem.W.Frag} {H : Hp} {r : Res} {Q : VK} (h : ∀ (u ao at_ : Addr) (vs : V) (xt : List V) (H' : Hp), Same H H' → H ao = none → H at_ = none → ao ≠ at_ → RunA K H' u ao at_ vs xt r → Q (.ref u) H') : KRun K H r Q :=
  fun u ao at_ vs xt H' s n1 n2 n3 a b c d e => h u ao at_ vs xt H' s n1 n2 n3 ⟨a, b, c, d, e⟩
mutual
/-- data that can be laid, that can be made plain and laid -/
def okD : Nat → PyData → Bool
  | _, .none => true
  | _, .bool _ => true
  | _, .int _ => true
  | _, .str z => PyData.strOk z
  | n + 1, .list ds => decide (ds.length ≤ 10000) && okDs n ds
  | n + 1, .tuple ds => decide (ds.length ≤ 10000) && okDs n ds
  | _, _ => false
def okDs : Nat → List PyData → Bool
  | _, [] => true
  | n, d :: r => okD n d && okDs n r
end
mutual
theorem ok_lay : ∀ {n : Nat} {d : PyData}, okD n d = true → d.canLay0 = true ∧ d.depth ≤ n
  | n, .none, _ => ⟨by simp [PyData.canLay0], by simp [PyData.depth]⟩
  | n, .bool _, _ => ⟨by simp [PyData.canLay0], by simp [PyData.depth]⟩
  | n, .int _, _ => ⟨by simp [PyData.canLay0], by simp [PyData.depth]⟩
  | n, .str z, h => ⟨by simpa [PyData.canLay0, okD] using h, by simp [PyData.depth]⟩
  | n, .dict _, h => by simp [okD] at h
  | 0, .list _, h => by simp [okD] at h
  | 0, .tuple _, h => by simp [okD] at h
  | n + 1, .list xs, h => by
    simp only [okD, Bool.and_eq_true, decide_eq_true_eq] at h
    obtain ⟨h1, h2⟩ := oks_lay h.2
    exact ⟨by simp only [PyData.canLay0]; exact h1, by simp only [PyData.depth]; omega⟩
  | n + 1, .tuple xs, h => by
    simp only [okD, Bool.and_eq_true, decide_eq_true_eq] at h
    obtain ⟨h1, h2⟩ := oks_lay h.2
    exact ⟨by simp only [PyData.canLay0]; exact h1, by simp only [PyData.depth]; omega⟩
theorem oks_lay : ∀ {n : Nat} {ds : List PyData}, okDs n ds = true → PyData.canLayAll0 ds = true ∧ PyData.depthAll ds ≤ n
  | n, [], _ => ⟨by simp [PyData.canLayAll0], by simp [PyData.depthAll]⟩
  | n, x :: xs, h => by
    simp only [okDs, Bool.and_eq_true] at h
    obtain ⟨a1, a2⟩ := ok_lay h.1
    obtain ⟨b1, b2⟩ := oks_lay h.2
    exact ⟨by simp only [PyData.canLayAll0, a1, b1, Bool.and_true], by simp only [PyData.depthAll]; omega⟩
end
theorem ok_shaped {n : Nat} {d : PyData} (h : okD n d = true) (hn : n ≤ 64) : SeqAt.shaped d = true := by
  obtain ⟨h1, h2⟩ := ok_lay h
  show (d.canLay0 && decide (d.depth ≤ 64)) = true
  rw [h1, Bool.true_and]
  exact decide_eq_true (by omega)
mutual
theorem ok_plainD : ∀ {n : Nat} {d : PyData}, okD n d = true → (plain d).canLay0 = true ∧ (plain d).depth ≤ n + 1 ∧ tall d n
  | n, .none, _ => ⟨by decide +kernel, by simp [plain, PyData.depth], by cases n <;> trivial⟩
  | n, .bool b, _ => ⟨by cases b <;> decide +kernel, by cases b <;> simp [plain, PyData.depth], by cases n <;> trivial⟩
  | n, .int _, _ => ⟨by simp [plain, PyData.canLay0, PyData.canLayAll0], by simp [plain, PyData.depth, PyData.depthAll], by cases n <;> trivial⟩
  | n, .str z, h => ⟨by
      have : PyData.strOk z = true := by simpa [okD] using h
      simp [plain, PyData.canLay0, PyData.canLayAll0, this], by simp [plain, PyData.depth, PyData.depthAll], by cases n <;> trivial⟩
  | n, .dict _, h => by simp [okD] at h
  | 0, .list _, h => by simp [okD] at h
  | 0, .tuple _, h => by simp [okD] at h
  | n + 1, .list xs, h => by
    simp only [okD, Bool.and_eq_true, decide_eq_true_eq] at h
    obtain ⟨h1, h2, h3⟩ := oks_plainD h.2
    exact ⟨by simp [plain, PyData.canLay0, PyData.canLayAll0, h1], by simp only [plain, PyData.depth, PyData.depthAll]; omega, h.1, h3⟩
  | n + 1, .tuple xs, h => by
    simp only [okD, Bool.and_eq_true, decide_eq_true_eq] at h
    obtain ⟨h1, h2, h3⟩ := oks_plainD h.2
    exact ⟨by simp [plain, PyData.canLay0, PyData.canLayAll0, h1], by simp only [plain, PyData.depth, PyData.depthAll]; omega, h.1, h3⟩
theorem oks_plainD : ∀ {n : Nat} {ds : List PyData}, okDs n ds = true → PyData.canLayAll0 (plains ds) = true ∧ PyData.depthAll (plains ds) ≤ n + 1 ∧ talls ds n
  | n, [], _ => ⟨by simp [plains, PyData.canLayAll0], by simp [plains, PyData.depthAll], by cases n <;> trivial⟩
  | n, x :: xs, h => by
    simp only [okDs, Bool.and_eq_true] at h
    obtain ⟨a1, a2, a3⟩ := ok_plainD h.1
    obtain ⟨b1, b2, b3⟩ := oks_plainD h.2
    exact ⟨by simp only [plains, PyData.canLayAll0, a1, b1, Bool.and_true], by simp only [plains, PyData.depthAll]; omega, a3, b3⟩
end
theorem okp_shaped {n : Nat} {d : PyData} (h : okD n d = true) (hn : n ≤ 60) : SeqAt.shaped (plain d) = true := by
  obtain ⟨h1, h2, _⟩ := ok_plainD h
  show ((plain d).canLay0 && decide ((plain d).depth ≤ 64)) = true
  rw [h1, Bool.true_and]
  exact decide_eq_true (by omega)
theorem ok_eqv {n : Nat} {d : PyData} (h : okD n d = true) : PyData.eqv d d = true := SeqAt.eqv_refl _ (ok_lay h).1
theorem okp_eqv {n : Nat} {d : PyData} (h : okD n d = true) : PyData.eqv (plain d) (plain d) = true := SeqAt.eqv_refl _ (ok_plainD h).1
theorem okDs_map {α : Type} {n : Nat} {f : α → PyData} : ∀ {l : List α}, (∀ x ∈ l, okD n (f x) = true) → okDs n (l.map f) = true
  | [], _ => by simp [okDs]
  | a :: r, h => by
    have := okDs_map (n := n) (f := f) (l := r) fun x hx => h x (List.mem_cons_of_mem _ hx)
    simp [okDs, h a List.mem_cons_self, this]
theorem okD_ints (n : Nat) (xs : List Int) : okDs n (intsD xs) = true := okDs_map fun x _ => by cases n <;> rfl
theorem okD_st {s : Mc} (h : Good s) (n : Nat) : okD (n + 2) (stD s) = true := by
  have l := h.lr
  have m := h.ld
  unfold stD
  simp [okD, okDs, okD_ints, ints_len, l, m]
theorem okD_row (r : Row) (n : Nat) : okD (n + 2) (rowD r) = true := by
  obtain ⟨i, w⟩ := r
  have e1 : PyData.strOk "r" = true := by decide +kernel
  have e2 : PyData.strOk "b" = true := by decide +kernel
  have e3 : PyData.strOk "in" = true := by decide +kernel
  cases w <;> simp [rowD, whatD, okD, okDs, e1, e2, e3]
theorem okD_run {r : Res} (h : Good r.st) (hf : PyData.strOk r.fin = true) (h1 : r.out.length ≤ 10000) (h2 : r.tr.length ≤ 10000) : okD 4 (runD r) = true := by
  unfold runD
  have a := okD_st h 1
  have b : okDs 2 (r.tr.map rowD) = true := okDs_map fun x _ => okD_row x 0
  simp only [okD, okDs, a, b, okD_ints, ints_len, hf, List.length_map, Bool.and_eq_true, decide_eq_true_eq, and_true, true_and]
  exact ⟨by show 4 ≤ 10000; decide, h1, h2⟩
section
variable {ws bi : List Int}
theorem end_ok {s : Mc} {z : Str} (h : endAt ws s = some z) : PyData.strOk z = true ∧ z ≠ "cut" := by
  unfold endAt endOf at h
  split at h
  · cases h
    split
    · have hn : fn (wordAt ws s) = 0 ∨ fn (wordAt ws s) = 1 ∨ fn (wordAt ws s) = 2 := by
        have : 0 ≤ fn (wordAt ws s) := Int.emod_nonneg _ (by decide)
        omega
      rcases hn with q | q | q <;> rw [q] <;> exact ⟨by decide +kernel, by decide +kernel⟩
    · exact ⟨by decide +kernel, by decide +kernel⟩
  · split at h
    · cases h
      exact ⟨by decide +kernel, by decide +kernel⟩
    · cases h
theorem fin_ok : ∀ (k : Nat) (s : Mc), PyData.strOk (M40.run ws bi k s).fin = true
  | 0, _ => show PyData.strOk "cut" = true by decide +kernel
  | k + 1, s => by
    unfold M40.run
    cases e : endAt ws s with
    | some z => exact (end_ok e).1
    | none => exact fin_ok k _
def rowAt (ws bi : List Int) (s : Mc) : Row := match endAt ws s with
  | some _ => (g s.r 4, .non)
  | none => (nxt ws s bi).2.2
theorem tr_at : ∀ (k i : Nat) (s : Mc), i < (M40.run ws bi k s).tr.length → (M40.run ws bi i s).fin = "cut" ∧ (M40.run ws bi k s).tr[i]? = some (rowAt ws bi (M40.run ws bi i s).st)
  | 0, i, s, h => absurd h (Nat.not_lt_zero _)
  | k + 1, i, s, h => by
    unfold M40.run at h
    cases e : endAt ws s with
    | some z =>
      rw [e] at h
      have i0 : i = 0 := by
        have : i < 1 := h
        omega
      subst i0
      refine ⟨rfl, ?_⟩
      unfold M40.run rowAt
      dsimp only
      rw [e]
      rfl
    | none =>
      rw [e] at h
      cases i with
      | zero =>
        refine ⟨rfl, ?_⟩
        conv => lhs; unfold M40.run
        rw [e]
        show some _ = some (rowAt ws bi s)
        unfold rowAt
        rw [e]
      | succ i =>
        have h' : i < (M40.run ws bi k (nxt ws s bi).1).tr.length := by
          have : i + 1 < (M40.run ws bi k (nxt ws s bi).1).tr.length + 1 := h
          omega
        obtain ⟨a, b⟩ := tr_at k i _ h'
        have e1 : M40.run ws bi (i + 1) s = ⟨(nxt ws s bi).2.1.toList ++ (M40.run ws bi i (nxt ws s bi).1).out, (M40.run ws bi i (nxt ws s bi).1).fin, (M40.run ws bi i (nxt ws s bi).1).st, (nxt ws s bi).2.2 :: (M40.run ws bi i (nxt ws s bi).1).tr⟩ := by
          conv => lhs; unfold M40.run
          rw [e]
        rw [e1]
        refine ⟨a, ?_⟩
        conv => lhs; unfold M40.run
        rw [e]
        exact b
theorem st_next {i : Nat} {s : Mc} (h : (M40.run ws bi i s).fin = "cut") : onceD ws (M40.run ws bi i s).st bi = .tuple [stD (M40.run ws bi (i + 1) s).st, (match endAt ws (M40.run ws bi i s).st with | some _ => .none | none => optI (nxt ws (M40.run ws bi i s).st bi).2.1), (match endAt ws (M40.run ws bi i s).st with | some e => .str e | none => .none), rowD (rowAt ws bi (M40.run ws bi i s).st)] := by
  unfold onceD rowAt
  cases e : endAt ws (M40.run ws bi i s).st with
  | some z => rw [run_stop (k := 0) h e]
  | none => rw [run_step h e]
theorem row_ok {s : Mc} (h : Good s) (hw : Wds ws) : RowOk (rowAt ws bi s) := by
  have F := flds (word_ok hw s)
  have b4 := h.br.g 4
  unfold rowAt
  cases endAt ws s with
  | some z => exact ⟨b4, trivial⟩
  | none =>
    show RowOk (nxt ws s bi).2.2
    unfold nxt
    dsimp only
    generalize wordAt ws s = w at F
    have ra : RowOk (g s.r 4, .reg (fa w) (g s.r (fa w))) := ⟨b4, F.a.1, F.a.2, h.br.g _⟩
    have rd : ∀ x : Int, RowOk (g s.r 4, .byt (x % 64) (g s.d (x % 64))) := fun x => ⟨b4, (mod64 x).1, (mod64 x).2, h.bd.g _⟩
    have rn : RowOk (g s.r 4, .non) := ⟨b4, trivial⟩
    exact mv_all (P := fun m => RowOk (g s.r 4, m.2)) ra ra ra (rd _) ra (rd _) rn rn ra rn ⟨b4, F.a.1, F.a.2, h.br.g _, h.t0⟩ rn
theorem rows_ok (hw : Wds ws) (hb : Bytes bi) : ∀ (k : Nat) {s : Mc}, Good s → ∀ r ∈ (M40.run ws bi k s).tr, RowOk r := by
  intro k s h r hr
  obtain ⟨i, hi⟩ := List.mem_iff_getElem?.mp hr
  obtain ⟨_, b⟩ := tr_at k i s (List.getElem?_eq_some_iff.mp hi).1
  rw [hi] at b
  cases b
  exact row_ok (run_good hw hb i h) hw
end
end Q40



set_option pp.maxSteps 1500
namespace Q40
open PySem L2 G M40
open C8 (Cal Met Mak pe_c pe_mk pe_mt pe_mt0 pe_gc pss_cut tCut)
section
variable {P : Program} {w : World} {K : PySem.W.Frag} {mg : Str → Option Value} {base : Heap}
/-! ### law -/
def spLaw (K : PySem.W.Frag) : Sp := fun vs H Q _ => ∃ (a : Addr) (ns : List Int), vs = [.ref a] ∧ SqL K H a (ns.map V.int) ∧ ns.length ≤ 63 ∧ ∀ H', Q (.bl true) H'
structure Cals (P : Program) (w : World) (K : PySem.W.Frag) (mg : Str → Option Value) (base : Heap) (CS CC : Addr) : Prop where
  deck : Cal P w K mg base 1 "_law_deck" (spDeck K) []
  take : Cal P w K mg base 1 "_law_take" spTake []
  plain : ∀ n, Cal P w K mg base n "_law_plain" (spPlain K n) []
  spoil : Cal P w K mg base 5 "_law_spoil" (spSpoil K 5) []
  machine : Cal P w K mg base 2 "_law_machine" (spMach K) []
  state : Cal P w K mg base 2 "_law_state" (spLState K) []
  word : Cal P w K mg base 2 "_law_drawn_word" spWord []
  first : CalX P w K mg base 4 "first_state" (spFirst K)
  run : CalX P w K mg base 6 "run_words" (spRun K CS CC)
  after : CalX P w K mg base 6 "after" (spAfter K)
  back : CalX P w K mg base 5 "run_back" (spBack K CS)
  why : Cal P w K mg base 7 "_law_why" (spWhy K) []
theorem wordsB_of {ws : List Int} (h : ws.length ≤ 256) (hw : Wds ws) : wordsB ws = true := by
  unfold wordsB
  rw [decide_eq_true h, Bool.true_and, List.all_eq_true]
  exact fun x hx => wordB_ok (hw x hx)
def Bads (K : PySem.W.Frag) (H : Hp) (xs : List V) : Prop := ∀ v ∈ xs, BadS K H v
theorem Bads.same {H H' : Hp} {xs : List V} (h : Bads K H xs) (s : Same H H') : Bads K H' xs := fun v hv => (h v hv).same s
theorem Bads.app {H : Hp} {xs ys : List V} (h : Bads K H xs) (k : Bads K H ys) : Bads K H (xs ++ ys) := fun v hv => (List.mem_append.mp hv).elim (h v) (k v)
theorem Bads.one {H : Hp} {x : V} (b : BadS K H x) : Bads K H [x] := fun v hv => by
  rw [List.mem_singleton.mp hv]
  exact b
theorem Bads.snoc {H : Hp} {xs : List V} {x : V} (h : Bads K H xs) (b : BadS K H x) : Bads K H (xs ++ [x]) := h.app (Bads.one b)
theorem flat_cons {d : PyData} {ds : List PyData} (h : flatD d = true) (k : ∀ x ∈ ds, flatD x = true) : ∀ x ∈ d :: ds, flatD x = true := fun x hx => by
  rcases List.mem_cons.mp hx with rfl | hx
  · exact h
  · exact k x hx
theorem bad_head {d : PyData} {ds : List PyData} {ns : List Int} {d2 : PyData} (h : byteD d = false) : okS true true (d :: ds) ns d2 = false := by
  unfold okS
  rw [List.all_cons, h]
  simp
theorem bad_words (ws : List Int) : wordsB (ws ++ [65536]) = false := by
  unfold wordsB
  rw [List.all_append, List.all_cons, show wordB 65536 = false by decide]
  simp
theorem base_but {R H H' : Hp} {dk : Addr} (h : R dk = none) (s : Same R H) (b : But dk H H') : Same R H' := fun x o e => b x o (fun z => by
  rw [z, h] at e
  cases e) (s x o e)
theorem base_del {R H : Hp} {dk : Addr} (h : R dk = none) (s : Same R H) : Same R (del1 H dk) := fun x o e => by
  rw [del1_ne (fun z => by rw [z, h] at e; cases e)]
  exact s x o e
theorem dp_del {H : Hp} {dk : Addr} {v : V} {d : PyData} (k : Deck H dk) (n : noL d = true) (h : Dp K H v d) : Dp K (del1 H dk) v d := by
  obtain ⟨ds, _, hx⟩ := k
  exact dp_keep (KeepT.del hx) n h
theorem newT {H : Hp} {p dk : Addr} {xs : List V} {ds : List PyData} (ne : p ≠ dk) (d : DpAll K (del1 H dk) xs ds) (n : H p = none) : Same (del1 H dk) (del1 (upd H p (.tup xs)) dk) ∧ Dp K (del1 (upd H p (.tup xs)) dk) (.ref p) (.tuple ds) := by
  have s : Same (del1 H dk) (del1 (upd H p (.tup xs)) dk) := del1_same (same_new n)
  exact ⟨s, .tup (SqT.of (by rw [del1_ne ne]; exact upd_same)) (dps_same s d)⟩
theorem newL {H : Hp} {p dk : Addr} {xs : List V} {ds : List PyData} (ne : p ≠ dk) (d : DpAll K (del1 H dk) xs ds) (n : H p = none) : Same (del1 H dk) (del1 (upd H p (.lst xs)) dk) ∧ Dp K (del1 (upd H p (.lst xs)) dk) (.ref p) (.list ds) := by
  have s : Same (del1 H dk) (del1 (upd H p (.lst xs)) dk) := del1_same (same_new n)
  exact ⟨s, .lst (SqL.of (by rw [del1_ne ne]; exact upd_same)) (dps_same s d)⟩
def ansD : List PyData := [.tuple [.str "state", .str "trace"], .tuple [.str "code", .str "words"], .tuple [.str "state", .str "form"], .tuple [.str "state", .str "form"]]
/-- the words drawn -/
def WordP (dk D : Addr) (H1 : Hp) (i : Nat) (H : Hp) : Prop := ∃ rs : List Int, rs.length = i ∧ (∀ r ∈ rs, 0 ≤ r ∧ r ≤ 65535) ∧ But dk H1 H ∧ H D = some (.lst (rs.map V.int)) ∧ Deck H dk
theorem ok_law {CS CC f : Addr} {fd : FuncData} (F : Fun K "law" "law" s_law f fd) (T : Txt K mg) (c : Cals P w K mg base CS CC) : FnOk P w K mg base CX0 10 f fd ["script"] (spLaw K) := by
  refine F.ok sc_law (fun vs H Q E h => ?_) (fun cdv A outer s H vs Q E hr h => ?_)
  · obtain ⟨a, ns, rfl, _⟩ := h
    rfl
  · obtain ⟨a, ns, rfl, ha, hn, k⟩ := h
    have hu65 := hu65_of hr
    have c__law_deck := c.deck
    have c__law_take := c.take
    have c__law_plain := c.plain 5
    have c__law_spoil := c.spoil
    have c__law_machine := c.machine
    have c__law_state := c.state
    have c__law_drawn_word := c.word
    have c_first_state := c.first
    have c_run_words := c.run
    have c_after := c.after
    have c_run_back := c.back
    have c__law_why := c.why
    refine ⟨_, (pss_cons (ps_set (i := 1) sc_law.nd rfl (Or.inr rfl) (pe_c c__law_deck hr (by omega) rfl (pa_cons (pv 0) (pa_cons pe_int (pa_cons pe_int pa_nil)))))
      (pss_cons (ps_setLc (i := 2) (own := [("turn", 16)]) rfl sc_law.nd rfl rfl (sw_true rfl rfl rfl (by decide +kernel)) (pi_range1 (by rfl) T.b_range (pa_cons pe_int pa_nil)) (blkOk_by (own := [("turn", 16)]) (N := ["script", "deck", "words", "state", "coming", "most", "due", "told", "out", "end", "there", "trace", "cut", "first", "second", "here", "turn", "step", "bad", "row", "place", "answers", "wrong"]) (sc := defScope s_law) (by decide +kernel)) (fun _ _ _ _ _ => (pg_name (i := 16) sc_law.nd rfl (Or.inl rfl))) (fun _ _ _ _ _ => pts_nil) (fun _ _ _ _ _ => (pe_c c__law_drawn_word hr (by omega) rfl (pa_cons (pv 1) pa_nil))))
      (pss_cons (ps_set (i := 3) sc_law.nd rfl (Or.inl rfl) (pe_ix ix_list (pe_lst (pa_cons (pe_c c__law_state hr (by omega) rfl (pa_cons (pv 1) pa_nil)) (pa_cons (pe_cx c_first_state hr (by omega) rfl takes0 (pa_cons (pe_lc (own := [("turn", 16)]) rfl sc_law.nd (pi_range1 (by rfl) T.b_range (pa_cons pe_int pa_nil)) (blkOk_by (own := [("turn", 16)]) (N := ["script", "deck", "words", "state", "coming", "most", "due", "told", "out", "end", "there", "trace", "cut", "first", "second", "here", "turn", "step", "bad", "row", "place", "answers", "wrong"]) (sc := defScope s_law) (by decide +kernel)) (fun _ _ _ _ _ => (pg_name (i := 16) sc_law.nd rfl (Or.inl rfl))) (fun _ _ _ _ _ => pts_nil) (fun _ _ _ _ _ => (pe_c c__law_take hr (by omega) rfl (pa_cons (pv 1) (pa_cons pe_int pa_nil))))) pa_nil)) pa_nil))) (pe_c c__law_take hr (by omega) rfl (pa_cons (pv 1) (pa_cons pe_int pa_nil))) (fun _ _ => rfl)))
      (pss_cons (ps_setLc (i := 4) (own := [("turn", 16)]) rfl sc_law.nd rfl rfl (sw_true rfl rfl rfl (by decide +kernel)) (pi_range1 (by rfl) T.b_range (pa_cons (pe_op op_add pe_int (pe_c c__law_take hr (by omega) rfl (pa_cons (pv 1) (pa_cons pe_int pa_nil)))) pa_nil)) (blkOk_by (own := [("turn", 16)]) (N := ["script", "deck", "words", "state", "coming", "most", "due", "told", "out", "end", "there", "trace", "cut", "first", "second", "here", "turn", "step", "bad", "row", "place", "answers", "wrong"]) (sc := defScope s_law) (by decide +kernel)) (fun _ _ _ _ _ => (pg_name (i := 16) sc_law.nd rfl (Or.inl rfl))) (fun _ _ _ _ _ => pts_nil) (fun _ _ _ _ _ => (pe_c c__law_take hr (by omega) rfl (pa_cons (pv 1) (pa_cons pe_int pa_nil)))))
      (pss_cons (ps_set (i := 5) sc_law.nd rfl (Or.inl rfl) (pe_c c__law_take hr (by omega) rfl (pa_cons (pv 1) (pa_cons pe_int pa_nil))))
      (pss_cons (ps_set (i := 6) sc_law.nd rfl (Or.inl rfl) (pe_c c__law_machine hr (by omega) rfl (pa_cons (pv 2) (pa_cons (pe_ix ix_tup (pv 3) pe_int (fun _ _ => rfl)) (pa_cons (pe_ix ix_tup (pv 3) pe_int (fun _ _ => rfl)) (pa_cons (pe_ix ix_tup (pv 3) pe_int (fun _ _ => rfl)) (pa_cons (pv 4) (pa_cons (pv 5) pa_nil))))))))
      (pss_cons (ps_set (i := 7) sc_law.nd rfl (Or.inl rfl) (pe_cx c_run_words hr (by omega) rfl takes0 (pa_cons (pe_callTy call_tuple_of (by rfl) T.b_tuple boot_tuple' (pa_cons (pv 2) pa_nil)) (pa_cons (pv 3) (pa_cons (pv 4) (pa_cons (pv 5) pa_nil))))))
      (pss_cons (ps_if (pt_cmpR (op_neD hr.units) (pe_c c__law_plain hr (by omega) rfl (pa_cons (pv 7) pa_nil)) (pe_c c__law_plain hr (by omega) rfl (pa_cons (pv 6) pa_nil)) (nomark _)) (pss_one (ps_ret pe_bl)) pss_nil)
      (pss_cut (ps_asg (pv 7) (pg_tup rfl (pgs_cons (pg_name (i := 8) sc_law.nd rfl (Or.inl rfl)) (pgs_cons (pg_name (i := 9) sc_law.nd rfl (Or.inl rfl)) (pgs_cons (pg_name (i := 10) sc_law.nd rfl (Or.inl rfl)) (pgs_cons (pg_name (i := 11) sc_law.nd rfl (Or.inl rfl)) pgs_nil))))))
      (pss_cons (ps_if (PW.pt (pw_or (pt_cmpR (op_neD hr.units) (pe_cx c_run_back hr (by omega) rfl takes0 (pa_cons (pv 10) (pa_cons (pv 11) pa_nil))) (pv 3) (nomark _)) (pw_or1 (pt_cmpR (op_neD hr.units) (pe_cx c_run_back hr (by omega) rfl takes0 (pa_cons (pe_ix ix_tup (pv 6) pe_int (fun _ _ => rfl)) (pa_cons (pe_callTy call_tuple_of (by rfl) T.b_tuple boot_tuple' (pa_cons (pv 11) pa_nil)) pa_nil))) (pv 3) (nomark _))))) (pss_one (ps_ret pe_bl)) pss_nil)
      (pss_cons (ps_set (i := 12) sc_law.nd rfl (Or.inl rfl) (pe_c c__law_take hr (by omega) rfl (pa_cons (pv 1) (pa_cons (pe_op op_add (pv 5) pe_int) pa_nil))))
      (pss_cut (ps_set (i := 13) sc_law.nd rfl (Or.inl rfl) (pe_cx c_run_words hr (by omega) rfl takes0 (pa_cons (pv 2) (pa_cons (pv 3) (pa_cons (pv 4) (pa_cons (pv 12) pa_nil))))))
      (pss_cut (ps_if (pt_cmpR op_eq (pe_ix ix_tup (pv 13) pe_int (fun _ _ => rfl)) pe_str (nomark _)) (pss_cut (ps_set (i := 14) sc_law.nd rfl (Or.inl rfl) (pe_cx c_run_words hr (by omega) rfl takes0 (pa_cons (pv 2) (pa_cons (pe_ix ix_tup (pv 13) pe_int (fun _ _ => rfl)) (pa_cons (pv 4) (pa_cons (pe_op op_sub (pv 5) (pv 12)) pa_nil))))))
      (pss_cons (ps_if (pt_cmpR (op_neD hr.units) (pe_c c__law_plain hr (by omega) rfl (pa_cons (pe_tup (pa_cons (pe_op op_cat (pe_ix ix_tup (pv 13) pe_int (fun _ _ => rfl)) (pe_ix ix_tup (pv 14) pe_int (fun _ _ => rfl))) (pa_cons (pe_ix ix_tup (pv 14) pe_int (fun _ _ => rfl)) (pa_cons (pe_ix ix_tup (pv 14) pe_int (fun _ _ => rfl)) (pa_cons (pe_op op_cat (pe_ix ix_tup (pv 13) pe_int (fun _ _ => rfl)) (pe_ix ix_tup (pv 14) pe_int (fun _ _ => rfl))) pa_nil))))) pa_nil)) (pe_c c__law_plain hr (by omega) rfl (pa_cons (pv 6) pa_nil)) (nomark _)) (pss_one (ps_ret pe_bl)) pss_nil)
      (pss_one (ps_if (PW.pt (pw_or (pt_cmpR (op_neD hr.units) (pe_cx c_run_back hr (by omega) rfl takes0 (pa_cons (pe_ix ix_tup (pv 14) pe_int (fun _ _ => rfl)) (pa_cons (pe_ix ix_tup (pv 14) pe_int (fun _ _ => rfl)) pa_nil))) (pe_ix ix_tup (pv 13) pe_int (fun _ _ => rfl)) (nomark _)) (pw_or1 (pt_cmpR (op_neD hr.units) (pe_cx c_run_back hr (by omega) rfl takes0 (pa_cons (pe_ix ix_tup (pv 13) pe_int (fun _ _ => rfl)) (pa_cons (pe_ix ix_tup (pv 13) pe_int (fun _ _ => rfl)) pa_nil))) (pv 3) (nomark _))))) (pss_one (ps_ret pe_bl)) pss_nil)))) pss_nil)
      (pss_cons (ps_set (i := 15) sc_law.nd rfl (Or.inl rfl) (pv 3))
      (pss_cons (ps_for PassesOwn.never rfl (pi_range1 (by rfl) T.b_range (pa_cons (pe_callB (call_min2 rfl) (by rfl) T.b_min boot_min' (pa_cons (pe_callB call_len_seq (by rfl) T.b_len boot_len' (pa_cons (pv 11) pa_nil)) (pa_cons pe_int pa_nil))) pa_nil)) (pg_name (i := 16) sc_law.nd rfl (Or.inl rfl)) (pss_cons (ps_set (i := 17) sc_law.nd rfl (Or.inl rfl) (pe_cx c_after hr (by omega) rfl takes0 (pa_cons (pv 2) (pa_cons (pv 15) (pa_cons (pv 4) pa_nil)))))
      (pss_cons (ps_if (pt_cmpR (op_neD hr.units) (pe_ix ix_tup (pv 17) pe_int (fun _ _ => rfl)) (pe_ix ix_list (pv 11) (pv 16) (fun _ _ => rfl)) (nomark _)) (pss_one (ps_ret pe_bl)) pss_nil)
      (pss_one (ps_set (i := 15) sc_law.nd rfl (Or.inl rfl) (pe_ix ix_tup (pv 17) pe_int (fun _ _ => rfl)))))))
      (pss_cut (ps_if (PW.pt (pw_and (pt_cmpR op_ne (pv 9) pe_str (nomark _)) (pw_and1 (pt_cmpR (op_neD hr.units) (pe_slice sl_tupA (pe_cx c_run_words hr (by omega) rfl takes0 (pa_cons (pv 2) (pa_cons (pv 10) (pa_cons (pv 4) (pa_cons pe_int pa_nil))))) po_none (po_some pe_int)) (pe_tup (pa_cons (pe_lst pa_nil) (pa_cons (pv 9) (pa_cons (pv 10) pa_nil)))) (nomark _))))) (pss_one (ps_ret pe_bl)) pss_nil)
      (pss_cut (ps_expr (pe_c c__law_spoil hr (by omega) rfl (pa_cons (pe_lst (pa_cons (pv 8) (pa_cons (pv 11) pa_nil))) pa_nil)))
      (pss_cons (ps_if (pt_cmpR (op_neD hr.units) (pe_c c__law_plain hr (by omega) rfl (pa_cons (pe_cx c_run_words hr (by omega) rfl takes0 (pa_cons (pv 2) (pa_cons (pv 3) (pa_cons (pv 4) (pa_cons (pv 5) pa_nil))))) pa_nil)) (pe_c c__law_plain hr (by omega) rfl (pa_cons (pv 6) pa_nil)) (nomark _)) (pss_one (ps_ret pe_bl)) pss_nil)
      (pss_cut (ps_set (i := 18) sc_law.nd rfl (Or.inl rfl) (pe_lst (pa_cons (pe_tup (pa_cons pe_int pa_nil)) (pa_cons (pe_tup (pa_cons pe_int (pa_cons (pe_tup pa_nil) pa_nil))) (pa_cons (pe_tup (pa_cons pe_int (pa_cons (pe_tup (pa_cons pe_str (pa_cons pe_int (pa_cons pe_int pa_nil)))) pa_nil))) (pa_cons (pe_tup (pa_cons pe_int (pa_cons (pe_tup (pa_cons pe_str (pa_cons pe_int (pa_cons pe_int pa_nil)))) pa_nil))) (pa_cons (pe_tup (pa_cons pe_int (pa_cons (pe_tup (pa_cons pe_str (pa_cons pe_int (pa_cons pe_int pa_nil)))) pa_nil))) (pa_cons (pe_tup (pa_cons pe_int (pa_cons (pe_tup (pa_cons pe_str (pa_cons pe_int pa_nil))) pa_nil))) (pa_cons (pe_tup (pa_cons pe_int (pa_cons (pe_tup (pa_cons pe_str (pa_cons pe_int (pa_cons pe_int (pa_cons (pe_un un_neg pe_int) pa_nil))))) pa_nil))) (pa_cons (pe_tup (pa_cons pe_int (pa_cons (pe_tup (pa_cons pe_str (pa_cons pe_int (pa_cons pe_int pa_nil)))) pa_nil))) pa_nil))))))))))
      (pss_cut (ps_set (i := 19) sc_law.nd rfl (Or.inl rfl) (pe_ix ix_list (pv 18) (pe_c c__law_take hr (by omega) rfl (pa_cons (pv 1) (pa_cons pe_int pa_nil))) (fun _ _ => rfl)))
      (pss_cut (ps_set (i := 20) sc_law.nd rfl (Or.inl rfl) (pe_c c__law_take hr (by omega) rfl (pa_cons (pv 1) (pa_cons (pe_op op_add (pe_callB call_len_seq (by rfl) T.b_len boot_len' (pa_cons (pe_ix ix_tup (pv 6) pe_int (fun _ _ => rfl)) pa_nil)) pe_int) pa_nil))))
      (pss_cut (ps_set (i := 21) sc_law.nd rfl (Or.inl rfl) (pe_lst (pa_cons (pe_c c__law_why hr (by omega) rfl (pa_cons pe_int (pa_cons pe_non (pa_cons (pv 3) (pa_cons (pe_op op_cat (pe_op op_cat (pe_slice sl_list (pe_ix ix_tup (pv 6) pe_int (fun _ _ => rfl)) po_none (po_some (pv 20))) (pe_lst (pa_cons (pv 19) pa_nil))) (pe_slice sl_list (pe_ix ix_tup (pv 6) pe_int (fun _ _ => rfl)) (po_some (pv 20)) po_none)) pa_nil))))) (pa_cons (pe_c c__law_why hr (by omega) rfl (pa_cons pe_int (pa_cons (pe_op op_cat (pv 2) (pe_lst (pa_cons pe_int pa_nil))) (pa_cons (pv 3) (pa_cons pe_non pa_nil))))) pa_nil))))
      (pss_cut (ps_set (i := 22) sc_law.nd rfl (Or.inl rfl) (pe_lst (pa_cons (pe_tup (pa_cons (pe_slice sl_tupA (pe_ix ix_tup (pv 3) pe_int (fun _ _ => rfl)) po_none (po_some pe_int)) (pa_cons (pe_ix ix_tup (pv 3) pe_int (fun _ _ => rfl)) (pa_cons pe_int pa_nil)))) (pa_cons (pe_tup (pa_cons (pe_ix ix_tup (pv 3) pe_int (fun _ _ => rfl)) (pa_cons (pe_op op_catA (pe_ix ix_tup (pv 3) pe_int (fun _ _ => rfl)) (pe_tup (pa_cons pe_int pa_nil))) (pa_cons pe_int pa_nil)))) (pa_cons (pe_tup (pa_cons (pe_ix ix_tup (pv 3) pe_int (fun _ _ => rfl)) (pa_cons (pe_ix ix_tup (pv 3) pe_int (fun _ _ => rfl)) (pa_cons (pe_un un_neg pe_int) pa_nil)))) (pa_cons (pe_tup (pa_cons (pe_op op_catA (pe_tup (pa_cons pe_int pa_nil)) (pe_slice sl_tupA (pe_ix ix_tup (pv 3) pe_int (fun _ _ => rfl)) (po_some pe_int) po_none)) (pa_cons (pe_ix ix_tup (pv 3) pe_int (fun _ _ => rfl)) (pa_cons pe_int pa_nil)))) pa_nil))))))
      (pss_cut (ps_set (i := 22) sc_law.nd rfl (Or.inl rfl) (pe_op op_cat (pv 22) (pe_lst (pa_cons (pe_tup (pa_cons (pe_callTy call_list_of (by rfl) T.b_list boot_list' (pa_cons (pe_ix ix_tup (pv 3) pe_int (fun _ _ => rfl)) pa_nil)) (pa_cons (pe_ix ix_tup (pv 3) pe_int (fun _ _ => rfl)) (pa_cons pe_int pa_nil)))) (pa_cons (pe_tup (pa_cons (pe_ix ix_tup (pv 3) pe_int (fun _ _ => rfl)) (pa_cons (pe_callTy call_list_of (by rfl) T.b_list boot_list' (pa_cons (pe_ix ix_tup (pv 3) pe_int (fun _ _ => rfl)) pa_nil)) (pa_cons pe_int pa_nil)))) (pa_cons (pe_tup (pa_cons (pe_ix ix_tup (pv 3) pe_int (fun _ _ => rfl)) (pa_cons (pe_ix ix_tup (pv 3) pe_int (fun _ _ => rfl)) (pa_cons pe_non pa_nil)))) (pa_cons (pe_tup (pa_cons (pe_op op_catA (pe_tup (pa_cons pe_bl pa_nil)) (pe_slice sl_tupA (pe_ix ix_tup (pv 3) pe_int (fun _ _ => rfl)) (po_some pe_int) po_none)) (pa_cons (pe_ix ix_tup (pv 3) pe_int (fun _ _ => rfl)) (pa_cons pe_int pa_nil)))) pa_nil)))))))
      (pss_cut (ps_set (i := 21) sc_law.nd rfl (Or.inl rfl) (pe_op op_cat (pv 21) (pe_lst (pa_cons (pe_c c__law_why hr (by omega) rfl (pa_cons pe_int (pa_cons (pv 2) (pa_cons (pe_ix ix_list (pv 22) (pe_c c__law_take hr (by omega) rfl (pa_cons (pv 1) (pa_cons pe_int pa_nil))) (fun _ _ => rfl)) (pa_cons pe_non pa_nil))))) (pa_cons (pe_c c__law_why hr (by omega) rfl (pa_cons pe_int (pa_cons pe_non (pa_cons (pe_ix ix_list (pv 22) (pe_c c__law_take hr (by omega) rfl (pa_cons (pv 1) (pa_cons pe_int pa_nil))) (fun _ _ => rfl)) (pa_cons (pe_lst pa_nil) pa_nil))))) pa_nil)))))
      (pss_one (ps_ret (pe_cmpR (op_eqD hr.units) (pv 21) (pe_lst (pa_cons (pe_tup (pa_cons pe_str (pa_cons pe_str pa_nil))) (pa_cons (pe_tup (pa_cons pe_str (pa_cons pe_str pa_nil))) (pa_cons (pe_tup (pa_cons pe_str (pa_cons pe_str pa_nil))) (pa_cons (pe_tup (pa_cons pe_str (pa_cons pe_str pa_nil))) pa_nil))))) (nomark _))))))))))))))))))))))))))))), ?_⟩
    refine ⟨_, rfl, a, ns, 90, 14, rfl, ha, by omega, by decide, by decide, by decide, fun dk H1 nd s1 k1 => ?_⟩
    -- words
    refine ⟨_, rfl, by decide, by decide, fun D hD => ?_⟩
    refine lc_range (lo := 0) (n := (12 : Int).toNat) (WordP dk D H1) ⟨[], rfl, (fun _ h => by cases h), But.of (same_new hD), upd_same, k1.same (same_new hD)⟩ (fun j G hj p => ?_) ?_
    · obtain ⟨rs, hl, hrr, b, hd, kG⟩ := p
      have ne := Deck.ne k1 hD
      refine ⟨rfl, _, rfl, dk, rfl, kG, fun r H' r0 r1 b2 k2 => ⟨_, b2 _ _ ne hd, size_lt (by rw [List.length_map]; omega), rs ++ [r], by rw [List.length_append, hl]; rfl, fun x hx => ?_, but_mut (b.trans b2) hD, by rw [upd_same, List.map_append]; rfl, ?_⟩⟩
      · rcases List.mem_append.mp hx with hx | hx
        · exact hrr x hx
        · rw [List.mem_singleton.mp hx]
          exact ⟨r0, r1⟩
      · obtain ⟨ds, h1, h2⟩ := k2
        exact ⟨ds, h1, by rw [upd_ne (Ne.symm ne)]; exact h2⟩
    rintro H2 ⟨ws, wl, wd, b2, hw2, k2⟩
    have nDk : D ≠ dk := Deck.ne k1 hD
    have hD1 := hD
    -- state
    refine ⟨_, rfl, dk, rfl, k2, fun v1 st1 H3 g1 b3 k3 d3 => ?_⟩
    refine ⟨_, rfl, by decide, by decide, fun D2 hD2 => ?_⟩
    refine lc_range (lo := 0) (n := (64 : Int).toNat) (DrawP dk D2 H3 256) (draw0 hD2 k3) (fun j G hj p => ⟨rfl, _, rfl, draw_next (E := C8.E0) hD2 k3 (by decide) (by omega) p⟩) ?_
    rintro H4 ⟨ds, dl, dr, b4, hD4, k4⟩
    have db : dataB ds = true := by
      unfold dataB
      rw [decide_eq_true (show ds.length = 64 from dl), Bool.true_and, List.all_eq_true]
      intro x hx
      have := dr x hx
      rw [decide_eq_true this.1, decide_eq_true this.2]
      rfl
    refine ⟨.ref D2, ds, rfl, ⟨D2, rfl, .inl (SqL.of hD4)⟩, db, fun v2 H5 s5 d5 => ⟨(show 2 ≤ sizeLine by decide), fun pl npl => ?_⟩⟩
    have spl := same_new (o := HO.lst [v1, v2]) npl
    have k5 := k4.same s5
    refine ⟨_, rfl, dk, 2, rfl, by decide, k5.same spl, fun r6 H6 r0 r1 b6 k6 => ?_⟩
    have b46 : But dk H3 H6 := (b4.trans (But.of (s5.trans spl))).trans b6
    obtain ⟨v, st, at_, hg, dv⟩ : ∃ (v : V) (st : Mc), atI [v1, v2] r6 = some v ∧ Good st ∧ Dp K H6 v (stD st) := by
      have : r6 = 0 ∨ r6 = 1 := by omega
      rcases this with rfl | rfl
      · exact ⟨v1, st1, rfl, g1, dp_keep (KeepT.of_but k3 b46) (noL_st _) d3⟩
      · refine ⟨v2, _, rfl, ⟨rfl, dl, ?_, fun x hx => dr x hx, Int.le_refl 0⟩, dp_keep (KeepT.of_but k5 ((But.of spl).trans b6)) (noL_st _) d5⟩
        intro x hx
        have : x = 0 := by simpa using hx
        rw [this]
        exact ⟨by decide, by decide⟩
    refine ⟨pl, [v1, v2], r6, v, rfl, rfl, SqL.of (b6 _ _ (Deck.ne k5 npl) upd_same), at_, ?_⟩
    -- coming
    refine ⟨_, rfl, dk, 3, rfl, by decide, k6, fun r7 H7 c0 c1 b7 k7 => ⟨_, _, rfl, rfl, _, rfl, by omega, by omega, fun D3 hD3 => ?_⟩⟩
    refine lc_range (lo := 0) (n := (3 + r7).toNat) (DrawP dk D3 H7 256) (draw0 hD3 k7) (fun j G hj p => ⟨rfl, _, rfl, draw_next (E := C8.E0) hD3 k7 (by decide) (by omega) p⟩) ?_
    rintro H8 ⟨bi, bl, br, b8, hD8, k8⟩
    have nD3k : D3 ≠ dk := Deck.ne k7 hD3
    refine ⟨_, rfl, dk, 41, rfl, by decide, k8, fun most H9 m0 m1 b9 k9 => ?_⟩
    obtain ⟨n, rfl⟩ := Int.eq_ofNat_of_zero_le m0
    have hbb : Bytes bi := fun x hx => br x hx
    have hwd : Wds ws := fun x hx => wd x hx
    have wlen : ws.length = 12 := wl
    have hD9 := ((((b3.trans b46).trans b7).trans b8).trans b9) _ _ nDk hw2
    have hC9 := b9 _ _ nD3k hD8
    have dv9 := dp_keep (KeepT.of_but k6 ((b7.trans b8).trans b9)) (noL_st _) dv
    clear hw2 hD8 dv at_ d3 d5 hD4 npl spl b46 b6 b7 b8 b9 b2 b3 b4 s5 k2 k3 k4 k5 k6 k7 k8 hD2 hD3 dr dl db br wd
    -- due
    obtain ⟨sa, ar, ad, rfl, hsa, har, had⟩ := st_dp dv9
    refine ⟨_, rfl, _, rfl, sa, _, 0, _, rfl, rfl, hsa, rfl, _, rfl, sa, _, 1, _, rfl, rfl, hsa, rfl, _, rfl, sa, _, 2, _, rfl, rfl, hsa, rfl, _, rfl, _, rfl, ?_⟩
    refine ⟨.ref D, .ref ar, .ref ad, .ref D3, ws, bi, st, n, rfl, .lst (SqL.of hD9) (dps_ints _), dp_ints har, dp_ints had, .lst (SqL.of hC9) (dps_ints _), by omega, hwd, hg, hbb, by omega, KRun.of fun tu bo bt vb xb0 H10 s10 nbo nbt nob RA => ?_⟩
    have k10 := k9.same s10
    have fw : del1 H10 dk D = some (.lst (ws.map V.int)) := by rw [del1_ne nDk]; exact s10 _ _ hD9
    have fc : del1 H10 dk D3 = some (.lst (bi.map V.int)) := by rw [del1_ne nD3k]; exact s10 _ _ hC9
    have fv : Dp K (del1 H10 dk) (.ref sa) (stD st) := by
      obtain ⟨xs, _, hx⟩ := k10
      exact dp_keep (KeepT.del hx) (noL_st _) (dp_same s10 dv9)
    have fd := RA.del k10 (Deck.ne k9 nbo) (Deck.ne k9 nbt)
    have S0 : Same (del1 H10 dk) H10 := del1_sub
    generalize eR0 : del1 H10 dk = R0 at fw fc fv fd S0
    generalize eR : M40.run ws bi n st = R at fd
    have okw : wordsB ws = true := wordsB_of (by omega) hwd
    have gR : Good R.st := by rw [← eR]; exact run_good hwd hbb n hg
    have lR := run_len (ws := ws) (bi := bi) n st
    rw [eR] at lR
    have finR : PyData.strOk R.fin = true := by rw [← eR]; exact fin_ok n st
    have okR : okD 4 (runD R) = true := okD_run gR finR (by omega) (by omega)
    have tallR : tall (runD R) 4 := (ok_plainD okR).2.2
    have shR : SeqAt.shaped (plain (runD R)) = true := okp_shaped okR (by decide)
    have eqR : PyData.eqv (plain (runD R)) (plain (runD R)) = true := okp_eqv okR
    have okS0 : ∀ {s : Mc}, Good s → SeqAt.shaped (stD s) = true ∧ PyData.eqv (stD s) (stD s) = true := fun h => ⟨ok_shaped (okD_st h 0) (by decide), ok_eqv (okD_st h 0)⟩
    clear RA hD9 hC9 dv9 hsa har had
    -- told
    refine ⟨_, rfl, D, _, rfl, .inl ⟨SqL.of (S0 _ _ fw), fun lw nlw => ?_⟩⟩
    have y1 := same_new (o := HO.tup (ws.map V.int)) nlw
    refine ⟨_, rfl, _, rfl, _, rfl, ?_⟩
    refine ⟨.ref lw, .ref sa, .ref D3, ws, n, rfl, ⟨lw, rfl, .inr (SqT.of upd_same)⟩, by omega, .inr (.inr ⟨okw, st, bi, dp_same (S0.trans y1) fv, hg, hbb, .lst (SqL.of ((S0.trans y1) _ _ fc)) (dps_ints _), by omega, by omega, ?_⟩)⟩
    rw [Int.toNat_natCast, eR]
    refine KRun.of fun u2 ao at_ vs2 xt2 H11 s11 nao nat nnn RA => ?_
    have k11 := (k10.same y1).same s11
    have ao0 : R0 ao = none := none_of_same S0 (none_of_same y1 nao)
    have at0 : R0 at_ = none := none_of_same S0 (none_of_same y1 nat)
    have f2 := RA.del k11 (Deck.ne (k10.same y1) nao) (Deck.ne (k10.same y1) nat)
    have S01 : Same R0 (del1 H11 dk) := by
      rw [← eR0]
      exact del1_same (y1.trans s11)
    have S1 : Same (del1 H11 dk) H11 := del1_sub
    generalize eR1 : del1 H11 dk = R1 at f2 S01 S1
    have nok : ao ≠ dk := Deck.ne (k10.same y1) nao
    have ntk : at_ ≠ dk := Deck.ne (k10.same y1) nat
    clear RA s11 y1 nlw nao nat
    have rowsR : ∀ r ∈ R.tr, RowOk r := by rw [← eR]; exact rows_ok hwd hbb n hg
    have backR : back R.st R.tr = st := by rw [← eR]; exact M40.run_back hwd hbb n hg
    have okst := okS0 hg
    -- plain(told) != plain(due)
    refine ⟨_, rfl, .ref u2, runD R, rfl, dp_same S1 f2.dp, tallR, fun z1 H12 s12 e12 => ⟨_, rfl, .ref tu, runD R, rfl, dp_same ((S01.trans S1).trans s12) fd.dp, tallR, fun z2 H13 s13 e13 => ?_⟩⟩
    refine ⟨_, _, dp_same s13 e12, e13, shR, shR, _, rfl, ifF (by rw [eqR]; rfl) ?_⟩
    have k13 := (k11.same s12).same s13
    have S3 : Same R1 H13 := (S1.trans s12).trans s13
    clear S1 s12 s13 e12 e13 k11 k10 S0
    refine ⟨fun σ' H' => σ' = [some (.ref a), some (.ref dk), some (.ref D), some (.ref sa), some (.ref D3), some (.int n), some (.ref tu), some (.ref u2), some (.ref ao), some (.str R.fin), some vs2, some (.ref at_), none, none, none, none, none, none, none, none, none, none, none] ∧ H' = H13, ⟨_, rfl, u2, _, rfl, Same.tup S3 f2.u, rfl, _, _, rfl, _, _, rfl, _, _, rfl, _, _, rfl, rfl, rfl, rfl⟩, ?_⟩
    rintro σ' H' ⟨rfl, rfl⟩
    -- run_back
    refine ⟨_, rfl, _, rfl, vs2, .ref at_, rfl, .inr (.inr ⟨R.st, R.tr, dp_same S3 f2.s, gR, .inl (.lst (SqL.of (S3 _ _ f2.t)) (dps_same S3 f2.x)), rowsR, by omega, fun w1 H14 s14 d14 => ?_⟩)⟩
    rw [backR] at d14
    have S4 := S3.trans s14
    refine ⟨_, rfl, stD st, stD st, d14, dp_same (S01.trans S4) fv, okst.1, okst.1, _, rfl, ifF (by rw [okst.2]; rfl) ?_⟩
    refine ⟨_, rfl, tu, _, 2, _, rfl, rfl, Same.tup (S01.trans S4) fd.u, rfl, _, rfl, at_, _, rfl, .inl ⟨SqL.of (S4 _ _ f2.t), fun l1 m1' => ?_⟩⟩
    have y2 := same_new (o := HO.tup xt2) m1'
    refine ⟨vb, .ref l1, rfl, .inr (.inr ⟨R.st, R.tr, dp_same ((S01.trans S4).trans y2) fd.s, gR, .inr (.tup (SqT.of upd_same) (dps_same (S4.trans y2) f2.x)), rowsR, by omega, fun w2 H15 s15 d15 => ?_⟩)⟩
    rw [backR] at d15
    have S5 := (S4.trans y2).trans s15
    refine ⟨_, rfl, stD st, stD st, d15, dp_same (S01.trans S5) fv, okst.1, okst.1, _, rfl, ifF (by rw [okst.2]; rfl) ?_⟩
    have k15 := ((k13.same s14).same y2).same s15
    clear d14 d15 S3 S4 s14 s15 y2 m1' k13
    -- cut
    refine ⟨_, rfl, _, rfl, _, _, rfl, rfl, dk, _, rfl, by omega, k15, fun cc H16 c2 c3 b16 k16 => ?_⟩
    obtain ⟨cn, rfl⟩ := Int.eq_ofNat_of_zero_le c2
    have R1k : R1 dk = none := by rw [← eR1]; exact del1_at _ _
    have R0k : R0 dk = none := by rw [← eR0]; exact del1_at _ _
    have S6 : Same R1 H16 := base_but R1k S5 b16
    clear S5 b16
    -- first
    refine ⟨fun σ' H' => ∃ (u3 ao3 at3 : Addr) (vs3 : V) (xt3 : List V), σ' = [some (.ref a), some (.ref dk), some (.ref D), some (.ref sa), some (.ref D3), some (.int n), some (.ref tu), some (.ref u2), some (.ref ao), some (.str R.fin), some vs2, some (.ref at_), some (.int cn), some (.ref u3), none, none, none, none, none, none, none, none, none] ∧ Same H16 H' ∧ RunA K H' u3 ao3 at3 vs3 xt3 (M40.run ws bi cn st), ⟨_, rfl, _, rfl, _, rfl, _, rfl, ?_⟩, ?_⟩
    · refine ⟨.ref D, .ref sa, .ref D3, ws, cn, rfl, ⟨D, rfl, .inl (SqL.of ((S01.trans S6) _ _ fw))⟩, by omega, .inr (.inr ⟨okw, st, bi, dp_same (S01.trans S6) fv, hg, hbb, .lst (SqL.of ((S01.trans S6) _ _ fc)) (dps_ints _), by omega, by omega, ?_⟩)⟩
      rw [Int.toNat_natCast]
      exact KRun.of fun u3 ao3 at3 vs3 xt3 H17 s17 _ _ _ f3 => ⟨u3, ao3, at3, vs3, xt3, rfl, s17, f3⟩
    rintro σ' H17 ⟨u3, ao3, at3, vs3, xt3, rfl, s17, f3⟩
    have S7 := S6.trans s17
    have k17 := k16.same s17
    clear S6 s17 k16
    have gF : Good (M40.run ws bi cn st).st := run_good hwd hbb cn hg
    have lF := run_len (ws := ws) (bi := bi) cn st
    refine ⟨fun σ' H' => ∃ o14 : Option V, σ' = [some (.ref a), some (.ref dk), some (.ref D), some (.ref sa), some (.ref D3), some (.int n), some (.ref tu), some (.ref u2), some (.ref ao), some (.str R.fin), some vs2, some (.ref at_), some (.int cn), some (.ref u3), o14, none, none, none, none, none, none, none, none] ∧ Same R1 H' ∧ Deck H' dk, ?_, ?_⟩
    · by_cases hc : (M40.run ws bi cn st).fin = "cut"
      · refine ⟨_, rfl, u3, _, 1, _, rfl, rfl, f3.u, rfl, rfl, _, rfl, ifT (decide_eq_true (by rw [hc])) ?_⟩
        refine ⟨fun σ' H' => ∃ (u4 ao4 at4 : Addr) (vs4 : V) (xt4 : List V), σ' = [some (.ref a), some (.ref dk), some (.ref D), some (.ref sa), some (.ref D3), some (.int n), some (.ref tu), some (.ref u2), some (.ref ao), some (.str R.fin), some vs2, some (.ref at_), some (.int cn), some (.ref u3), some (.ref u4), none, none, none, none, none, none, none, none] ∧ Same H17 H' ∧ RunA K H' u4 ao4 at4 vs4 xt4 (M40.run ws bi (n - cn) (M40.run ws bi cn st).st), ⟨_, rfl, _, rfl, u3, _, 2, _, rfl, rfl, f3.u, rfl, _, rfl, _, rfl, _, rfl, _, _, rfl, rfl, ?_⟩, ?_⟩
        · refine ⟨.ref D, vs3, .ref D3, ws, _, rfl, ⟨D, rfl, .inl (SqL.of ((S01.trans S7) _ _ fw))⟩, by omega, .inr (.inr ⟨okw, (M40.run ws bi cn st).st, bi, f3.s, gF, hbb, .lst (SqL.of ((S01.trans S7) _ _ fc)) (dps_ints _), by omega, by omega, ?_⟩)⟩
          have en : ((n : Int) - (cn : Int)).toNat = n - cn := by omega
          rw [en]
          exact KRun.of fun u4 ao4 at4 vs4 xt4 H18 s18 _ _ _ f4 => ⟨u4, ao4, at4, vs4, xt4, rfl, s18, f4⟩
        rintro σ' H18 ⟨u4, ao4, at4, vs4, xt4, rfl, s18, f4⟩
        have eRc := run_cut (ws := ws) (bi := bi) cn (n - cn) st hc
        rw [show cn + (n - cn) = n by omega, eR] at eRc
        have gG : Good (M40.run ws bi (n - cn) (M40.run ws bi cn st).st).st := run_good hwd hbb _ gF
        have lG := run_len (ws := ws) (bi := bi) (n - cn) (M40.run ws bi cn st).st
        have backG := M40.run_back hwd hbb (n - cn) gF
        have backF := M40.run_back hwd hbb cn hg
        have rowsG := rows_ok hwd hbb (n - cn) gF
        have rowsF := rows_ok hwd hbb cn hg
        generalize M40.run ws bi (n - cn) (M40.run ws bi cn st).st = G at eRc gG lG backG rowsG f4
        generalize M40.run ws bi cn st = F at eRc gF lF backG backF rowsF f3
        have S8 := S7.trans s18
        have f3 := f3.same s18
        have k18 := k17.same s18
        clear S7 s18 k17
        -- plain of both joined
        refine ⟨_, rfl, u3, _, 0, _, rfl, rfl, f3.u, rfl, _, rfl, u4, _, 0, _, rfl, rfl, f4.u, rfl, catL (K := K) f3.o f4.o (dps_ints F.out) (dps_ints G.out) (by simp only [List.length_map]; omega) fun p1 np1 dd1 => ?_⟩
        have y1 := same_new (o := HO.lst (F.out.map V.int ++ G.out.map V.int)) np1
        have g3 := f3.same y1
        have g4 := f4.same y1
        refine ⟨_, rfl, u4, _, 1, _, rfl, rfl, g4.u, rfl, _, rfl, u4, _, 2, _, rfl, rfl, g4.u, rfl, _, rfl, u3, _, 3, _, rfl, rfl, g3.u, rfl, _, rfl, u4, _, 3, _, rfl, rfl, g4.u, rfl, catL (K := K) g3.t g4.t g3.x g4.x (by simp only [List.length_map]; omega) fun p2 np2 dd2 => ?_⟩
        have y2 := same_new (o := HO.lst (xt3 ++ xt4)) np2
        refine ⟨(show 4 ≤ sizeLine by decide), fun t5 nt5 => ?_⟩
        have y3 := same_new (o := HO.tup [V.ref p1, V.str G.fin, vs4, V.ref p2]) nt5
        have y23 := y2.trans y3
        have eo : F.out.map PyData.int ++ G.out.map PyData.int = intsD (F.out ++ G.out) := by unfold intsD; rw [List.map_append]
        have et : F.tr.map rowD ++ G.tr.map rowD = (F.tr ++ G.tr).map rowD := by rw [List.map_append]
        rw [eo] at dd1
        rw [et] at dd2
        have dR : Dp K (upd (upd (upd H18 p1 (.lst (F.out.map V.int ++ G.out.map V.int))) p2 (.lst (xt3 ++ xt4))) t5 (.tup [.ref p1, .str G.fin, vs4, .ref p2])) (.ref t5) (runD R) := by
          rw [eRc]
          exact .tup (SqT.of upd_same) (.cons (.lst (SqL.of (y23 _ _ upd_same)) (dps_same y23 dd1)) (.cons (.str _) (.cons (dp_same y23 g4.s) (.cons (.lst (SqL.of (y3 _ _ upd_same)) (dps_same y3 dd2)) .nil))))
        have S9 := (S8.trans y1).trans y23
        refine ⟨.ref t5, runD R, rfl, dR, tallR, fun z1 H19 s19 e19 => ⟨_, rfl, .ref tu, runD R, rfl, dp_same ((S01.trans S9).trans s19) fd.dp, tallR, fun z2 H20 s20 e20 => ?_⟩⟩
        refine ⟨_, _, dp_same s20 e19, e20, shR, shR, _, rfl, ifF (by rw [eqR]; rfl) ?_⟩
        have k20 := (((k18.same y1).same y23).same s19).same s20
        have y4 := ((y1.trans y23).trans s19).trans s20
        have f3 := f3.same y4
        have f4 := f4.same y4
        have S10 := S8.trans y4
        clear dR S8 S9 s19 s20 e19 e20 y23 y1 y2 y3 dd1 dd2 g3 g4 k18 y4 np1 np2 nt5
        refine ⟨_, rfl, u4, _, 2, _, rfl, rfl, f4.u, rfl, _, rfl, u4, _, 3, _, rfl, rfl, f4.u, rfl, ?_⟩
        refine ⟨vs4, .ref at4, rfl, .inr (.inr ⟨G.st, G.tr, f4.s, gG, .inl (.lst (SqL.of f4.t) f4.x), rowsG, by omega, fun w3 H21 s21 d21 => ?_⟩)⟩
        rw [backG] at d21
        have f3 := f3.same s21
        have okF := okS0 gF
        refine ⟨_, rfl, u3, _, 2, _, rfl, rfl, f3.u, rfl, stD F.st, stD F.st, d21, f3.s, okF.1, okF.1, _, rfl, ifF (by rw [okF.2]; rfl) ?_⟩
        refine ⟨_, rfl, u3, _, 2, _, rfl, rfl, f3.u, rfl, _, rfl, u3, _, 3, _, rfl, rfl, f3.u, rfl, ?_⟩
        refine ⟨vs3, .ref at3, rfl, .inr (.inr ⟨F.st, F.tr, f3.s, gF, .inl (.lst (SqL.of f3.t) f3.x), rowsF, by omega, fun w4 H22 s22 d22 => ?_⟩)⟩
        rw [backF] at d22
        have S11 := (S10.trans s21).trans s22
        refine ⟨_, rfl, stD st, stD st, d22, dp_same (S01.trans S11) fv, okst.1, okst.1, _, rfl, ifF (by rw [okst.2]; rfl) ?_⟩
        exact ⟨_, rfl, S11, (k20.same s21).same s22⟩
      · refine ⟨_, rfl, u3, _, 1, _, rfl, rfl, f3.u, rfl, rfl, _, rfl, ifF (decide_eq_false fun z => hc (V.str.inj z)) ?_⟩
        exact ⟨_, rfl, S7, k17⟩
    clear f3 gF lF S7 k17
    rintro σ' H' ⟨o14, rfl, S7, k17⟩
    -- after, step by step
    refine ⟨_, rfl, _, rfl, at_, _, rfl, .inl (SqL.of (S7 _ _ f2.t)), _, _, rfl, ?_⟩
    have xtl : xt2.length = R.tr.length := by rw [dps_len f2.x, List.length_map]
    refine ⟨_, rfl, by split <;> omega, by split <;> omega, for_range (lo := 0) (n := (if (6 : Int) < (xt2.length : Int) then (6 : Int) else (xt2.length : Int)).toNat) (fun i σ H' => ∃ (vh : V) (o16 o17 : Option V), σ = [some (.ref a), some (.ref dk), some (.ref D), some (.ref sa), some (.ref D3), some (.int n), some (.ref tu), some (.ref u2), some (.ref ao), some (.str R.fin), some vs2, some (.ref at_), some (.int cn), some (.ref u3), o14, some vh, o16, o17, none, none, none, none, none] ∧ Same R1 H' ∧ Deck H' dk ∧ Dp K H' vh (stD (M40.run ws bi i st).st))
      ⟨_, none, none, rfl, S7, k17, dp_same (S01.trans S7) fv⟩ ?_ ?_⟩
    · rintro i σ H' hi ⟨vh, o16, o17, rfl, SH, kH, dh⟩
      have il : i < R.tr.length := by
        split at hi <;> omega
      obtain ⟨tc, ti⟩ := tr_at (ws := ws) (bi := bi) n i st (by rw [eR]; exact il)
      rw [eR] at ti
      have gi := run_good hwd hbb i hg
      have en := st_next (ws := ws) (bi := bi) (i := i) (s := st) tc
      refine ⟨_, rfl, _, rfl, _, rfl, .ref D, vh, .ref D3, ws, bi, (M40.run ws bi i st).st, rfl, ⟨D, rfl, .inl (SqL.of ((S01.trans SH) _ _ fw))⟩, okw, dh, gi, .lst (SqL.of ((S01.trans SH) _ _ fc)) (dps_ints _), fun u H2 s2 d2 => ?_⟩
      rw [en] at d2
      obtain ⟨ua, ux, rfl, hua, hux⟩ := dp_tup d2
      obtain ⟨y1, y2, y3, y4, rfl, e1, e2, e3, e4⟩ := dps4 hux
      obtain ⟨xv, hxv, dxv⟩ := dps_get f2.x (show (R.tr.map rowD)[i]? = some (rowD (rowAt ws bi (M40.run ws bi i st).st)) by rw [List.getElem?_map, ti]; rfl)
      have SH2 := SH.trans s2
      have okr := okD_row (rowAt ws bi (M40.run ws bi i st).st) 0
      refine ⟨_, rfl, ua, _, 3, _, rfl, rfl, hua, rfl, _, rfl, _, rfl, at_, _, _, xv, rfl, rfl, SqL.of (SH2 _ _ f2.t), by rw [Int.zero_add]; exact atI_nat hxv, _, _, e4, dp_same SH2 dxv, ok_shaped okr (by decide), ok_shaped okr (by decide), _, rfl, ifF (by rw [ok_eqv okr]; rfl) ?_⟩
      exact ⟨_, rfl, ua, _, 0, _, rfl, rfl, hua, rfl, _, _, _, rfl, SH2, kH.same s2, e1⟩
    rintro σ' H' ⟨vh, o16, o17, rfl, SH, kH, _⟩
    clear S7 k17
    -- the ended state
    refine ⟨fun σ' H' => σ' = [some (.ref a), some (.ref dk), some (.ref D), some (.ref sa), some (.ref D3), some (.int n), some (.ref tu), some (.ref u2), some (.ref ao), some (.str R.fin), some vs2, some (.ref at_), some (.int cn), some (.ref u3), o14, some vh, o16, o17, none, none, none, none, none] ∧ Same R1 H' ∧ Deck H' dk, ?_, ?_⟩
    · by_cases hc : R.fin = "cut"
      · refine ⟨_, rfl, rfl, _, rfl, ifF (by simp [hc]) (ifF rfl ⟨rfl, SH, kH⟩)⟩
      · refine ⟨_, rfl, rfl, _, rfl, ifT (by simp [hc]) ⟨_, rfl, _, rfl, _, rfl, ?_⟩⟩
        have eE := run_ended (ws := ws) (bi := bi) n st (by rw [eR]; exact hc) 2
        rw [eR] at eE
        refine ⟨.ref D, vs2, .ref D3, ws, 3, rfl, ⟨D, rfl, .inl (SqL.of ((S01.trans SH) _ _ fw))⟩, by omega, .inr (.inr ⟨okw, R.st, bi, dp_same SH f2.s, gR, hbb, .lst (SqL.of ((S01.trans SH) _ _ fc)) (dps_ints _), by decide, by decide, ?_⟩)⟩
        refine KRun.of fun u5 ao5 at5 vs5 xt5 H5 s5 _ _ _ f5 => ?_
        have eE' : M40.run ws bi (Int.toNat 3) R.st = _ := eE
        rw [eE'] at f5
        refine ⟨_, rfl, u5, [V.ref ao5, V.str R.fin, vs5, V.ref at5], rfl, f5.u, (fun e => absurd e.2 (show ¬ HT.sIx 4 4 (some 3) = 4 by decide)), fun _ p6 np6 => ?_⟩
        have y6 := same_new (o := HO.tup (cutV [V.ref ao5, V.str R.fin, vs5, V.ref at5] none (some 3))) np6
        refine ⟨Nat.zero_le _, fun pe npe => ⟨_, rfl, _, rfl, (show 3 ≤ sizeLine by decide), fun t7 nt7 => ?_⟩⟩
        have y7 := same_new (o := HO.lst []) npe
        have y8 := same_new (o := HO.tup [V.ref pe, V.str R.fin, vs2]) nt7
        have y68 := (y6.trans y7).trans y8
        have okE : okD 3 (.tuple [.list [], .str R.fin, stD R.st]) = true := by
          have := okD_st gR 0
          simp [okD, okDs, finR, this]
        refine ⟨.tuple [.list [], .str R.fin, stD R.st], .tuple [.list [], .str R.fin, stD R.st], .tup (SqT.of ((y7.trans y8) _ _ upd_same)) (.cons (.lst (SqL.of (y68 _ _ f5.o)) .nil) (.cons (.str _) (.cons (dp_same y68 f5.s) .nil))),
          .tup (SqT.of upd_same) (.cons (.lst (SqL.of (y8 _ _ upd_same)) .nil) (.cons (.str _) (.cons (dp_same ((SH.trans s5).trans y68) f2.s) .nil))), ok_shaped okE (by decide), ok_shaped okE (by decide), _, rfl, ifF (by rw [ok_eqv okE]; rfl) ?_⟩
        exact ⟨rfl, (SH.trans s5).trans y68, (kH.same s5).same y68⟩
    clear SH kH
    rintro σ' H' ⟨rfl, S7, k17⟩
    -- spoil
    refine ⟨fun σ' H' => σ' = [some (.ref a), some (.ref dk), some (.ref D), some (.ref sa), some (.ref D3), some (.int n), some (.ref tu), some (.ref u2), some (.ref ao), some (.str R.fin), some vs2, some (.ref at_), some (.int cn), some (.ref u3), o14, some vh, o16, o17, none, none, none, none, none] ∧ Same R0 H' ∧ Deck H' dk, ⟨_, rfl, _, rfl, (show 2 ≤ sizeLine by decide), fun pb npb => ?_⟩, ?_⟩
    · have y1 := same_new (o := HO.lst [V.ref ao, V.ref at_]) npb
      have nb1 : pb ≠ ao := fun z => by rw [z, S7 _ _ f2.o] at npb; cases npb
      have nb2 : pb ≠ at_ := fun z => by rw [z, S7 _ _ f2.t] at npb; cases npb
      have nb3 : pb ≠ dk := Deck.ne k17 npb
      have nbR : R0 pb = none := none_of_same (S01.trans S7) npb
      have S8 := S7.trans y1
      refine .inr (.inr ⟨2, pb, ao, at_, _, _, intsD R.out, R.tr.map rowD, rfl, rfl, nnn, nb1, nb2, upd_same, S8 _ _ f2.o, S8 _ _ f2.t, dps_ints _, dps_same S8 f2.x, noL_rows _, ?_, ?_, by rw [ints_len]; omega, by rw [List.length_map]; omega, fun H'' kk => ⟨rfl, fun x o e => ?_, ?_⟩⟩)
      · intro d hd
        obtain ⟨x, _, rfl⟩ := List.mem_map.mp hd
        exact .inl (.inl rfl)
      · intro d hd
        obtain ⟨x, _, rfl⟩ := List.mem_map.mp hd
        exact tb_row x
      · exact kk x o (fun z => by rw [z, ao0] at e; cases e) (fun z => by rw [z, at0] at e; cases e) (fun z => by rw [z, nbR] at e; cases e) (S8 _ _ (S01 _ _ e))
      · obtain ⟨ds, h1, h2⟩ := k17.same y1
        exact ⟨ds, h1, kk _ _ (Ne.symm nok) (Ne.symm ntk) (Ne.symm nb3) h2⟩
    clear S7 k17 f2
    rintro σ' H' ⟨rfl, S7, k17⟩
    -- the run again
    refine ⟨_, rfl, _, rfl, _, rfl, _, rfl, ?_⟩
    refine ⟨.ref D, .ref sa, .ref D3, ws, n, rfl, ⟨D, rfl, .inl (SqL.of (S7 _ _ fw))⟩, by omega, .inr (.inr ⟨okw, st, bi, dp_same S7 fv, hg, hbb, .lst (SqL.of (S7 _ _ fc)) (dps_ints _), by omega, by omega, ?_⟩)⟩
    rw [Int.toNat_natCast, eR]
    refine KRun.of fun u5 ao5 at5 vs5 xt5 H5 s5 _ _ _ f5 => ?_
    refine ⟨.ref u5, runD R, rfl, f5.dp, tallR, fun z1 H6 s6 e6 => ⟨_, rfl, .ref tu, runD R, rfl, dp_same ((S7.trans s5).trans s6) fd.dp, tallR, fun z2 H7 s7 e7 => ?_⟩⟩
    refine ⟨_, _, dp_same s7 e6, e7, shR, shR, _, rfl, ifF (by rw [eqR]; rfl) ?_⟩
    have k8 := ((k17.same s5).same s6).same s7
    have S8 := ((S7.trans s5).trans s6).trans s7
    clear S7 k17 s5 s6 s7 e6 e7 f5
    -- bad
    refine ⟨fun σ' H' => ∃ (lb : Addr) (xb : List V), σ' = [some (.ref a), some (.ref dk), some (.ref D), some (.ref sa), some (.ref D3), some (.int n), some (.ref tu), some (.ref u2), some (.ref ao), some (.str R.fin), some vs2, some (.ref at_), some (.int cn), some (.ref u3), o14, some vh, o16, o17, some (.ref lb), none, none, none, none] ∧ Same R0 H' ∧ Deck H' dk ∧ H' lb = some (.lst xb) ∧ DpAll K H' xb badRows ∧ lb ≠ dk, ?_, ?_⟩
    · have A0 : DpAll K H7 [] [] := .nil
      refine ⟨(show 1 ≤ sizeLine by decide), fun t1 n1 => ?_⟩
      obtain ⟨s1, d1⟩ := tupD (K := K) (.cons (.int _) .nil) n1
      have A1 := dps_snoc (dps_same s1 A0) d1
      refine ⟨(show 0 ≤ sizeLine by decide), fun t2 n2 => ?_⟩
      obtain ⟨s2, d2⟩ := tupD (K := K) .nil n2
      refine ⟨(show 2 ≤ sizeLine by decide), fun t3 n3 => ?_⟩
      obtain ⟨s3, d3⟩ := tupD (K := K) (.cons (.int _) (.cons d2 .nil)) n3
      have A2 := dps_snoc (dps_same (s2.trans s3) A1) d3
      refine ⟨(show 3 ≤ sizeLine by decide), fun t4 n4 => ?_⟩
      obtain ⟨s4, d4⟩ := tupD (K := K) (.cons (.str _) (.cons (.int _) (.cons (.int _) .nil))) n4
      refine ⟨(show 2 ≤ sizeLine by decide), fun t5 n5 => ?_⟩
      obtain ⟨s5, d5⟩ := tupD (K := K) (.cons (.int _) (.cons d4 .nil)) n5
      have A3 := dps_snoc (dps_same (s4.trans s5) A2) d5
      refine ⟨(show 3 ≤ sizeLine by decide), fun t6 n6 => ?_⟩
      obtain ⟨s6, d6⟩ := tupD (K := K) (.cons (.str _) (.cons (.int _) (.cons (.int _) .nil))) n6
      refine ⟨(show 2 ≤ sizeLine by decide), fun t7 n7 => ?_⟩
      obtain ⟨s7, d7⟩ := tupD (K := K) (.cons (.int _) (.cons d6 .nil)) n7
      have A4 := dps_snoc (dps_same (s6.trans s7) A3) d7
      refine ⟨(show 3 ≤ sizeLine by decide), fun t8 n8 => ?_⟩
      obtain ⟨s8, d8⟩ := tupD (K := K) (.cons (.str _) (.cons (.int _) (.cons (.int _) .nil))) n8
      refine ⟨(show 2 ≤ sizeLine by decide), fun t9 n9 => ?_⟩
      obtain ⟨s9, d9⟩ := tupD (K := K) (.cons (.int _) (.cons d8 .nil)) n9
      have A5 := dps_snoc (dps_same (s8.trans s9) A4) d9
      refine ⟨(show 2 ≤ sizeLine by decide), fun t10 n10 => ?_⟩
      obtain ⟨s10, d10⟩ := tupD (K := K) (.cons (.str _) (.cons (.int _) .nil)) n10
      refine ⟨(show 2 ≤ sizeLine by decide), fun t11 n11 => ?_⟩
      obtain ⟨s11, d11⟩ := tupD (K := K) (.cons (.int _) (.cons d10 .nil)) n11
      have A6 := dps_snoc (dps_same (s10.trans s11) A5) d11
      refine ⟨_, rfl, (show 4 ≤ sizeLine by decide), fun t12 n12 => ?_⟩
      obtain ⟨s12, d12⟩ := tupD (K := K) (.cons (.str _) (.cons (.int _) (.cons (.int _) (.cons (.int _) .nil)))) n12
      refine ⟨(show 2 ≤ sizeLine by decide), fun t13 n13 => ?_⟩
      obtain ⟨s13, d13⟩ := tupD (K := K) (.cons (.int _) (.cons d12 .nil)) n13
      have A7 := dps_snoc (dps_same (s12.trans s13) A6) d13
      refine ⟨(show 3 ≤ sizeLine by decide), fun t14 n14 => ?_⟩
      obtain ⟨s14, d14⟩ := tupD (K := K) (.cons (.str _) (.cons (.int _) (.cons (.int _) .nil))) n14
      refine ⟨(show 2 ≤ sizeLine by decide), fun t15 n15 => ?_⟩
      obtain ⟨s15, d15⟩ := tupD (K := K) (.cons (.int _) (.cons d14 .nil)) n15
      have A8 := dps_snoc (dps_same (s14.trans s15) A7) d15
      refine ⟨(show 8 ≤ sizeLine by decide), fun lb nlb => ?_⟩
      have sb := same_new (o := HO.lst [V.ref t1, V.ref t3, V.ref t5, V.ref t7, V.ref t9, V.ref t11, V.ref t13, V.ref t15]) nlb
      have sA := ((((((((((((((s1.trans s2).trans s3).trans s4).trans s5).trans s6).trans s7).trans s8).trans s9).trans s10).trans s11).trans s12).trans s13).trans s14).trans s15).trans sb
      exact ⟨lb, _, rfl, S8.trans sA, k8.same sA, upd_same, dps_same sb A8, Deck.ne (k8.same ((((((((((((((s1.trans s2).trans s3).trans s4).trans s5).trans s6).trans s7).trans s8).trans s9).trans s10).trans s11).trans s12).trans s13).trans s14).trans s15)) nlb⟩
    clear S8 k8
    rintro σ' H8 ⟨lb, xb, rfl, S8, k8, hlb, db, nlbk⟩
    -- row, place
    refine ⟨fun σ' H' => ∃ (xr : V) (bad : PyData), σ' = [some (.ref a), some (.ref dk), some (.ref D), some (.ref sa), some (.ref D3), some (.int n), some (.ref tu), some (.ref u2), some (.ref ao), some (.str R.fin), some vs2, some (.ref at_), some (.int cn), some (.ref u3), o14, some vh, o16, o17, some (.ref lb), some xr, none, none, none] ∧ Same R0 H' ∧ Deck H' dk ∧ Dp K H' xr bad ∧ bad ∈ badRows ∧ noL bad = true, ?_, ?_⟩
    · refine ⟨_, rfl, _, rfl, dk, 8, rfl, by decide, k8, fun r H9 r0 r1 b9 k9 => ?_⟩
      have S9 := base_but R0k S8 b9
      obtain ⟨rn, rfl⟩ := Int.eq_ofNat_of_zero_le r0
      have rl : rn < badRows.length := by show rn < 8; omega
      obtain ⟨xr, hxr, dxr⟩ := dps_get db (List.getElem?_eq_getElem rl)
      have bm := List.getElem_mem rl
      generalize badRows[rn] = bad at dxr bm
      have nLb : noL bad = true := by
        have : ∀ d ∈ badRows, noL d = true := by decide +kernel
        exact this bad bm
      exact ⟨lb, xb, _, xr, rfl, rfl, SqL.of (b9 _ _ nlbk hlb), atI_nat hxr, xr, bad, rfl, S9, k9, dp_keep (KeepT.of_but k8 b9) nLb dxr, bm, nLb⟩
    clear S8 k8 hlb db
    rintro σ' H9 ⟨xr, bad, rfl, S9, k9, dxr, bm, nLb⟩
    refine ⟨fun σ' H' => ∃ (pl : Nat), σ' = [some (.ref a), some (.ref dk), some (.ref D), some (.ref sa), some (.ref D3), some (.int n), some (.ref tu), some (.ref u2), some (.ref ao), some (.str R.fin), some vs2, some (.ref at_), some (.int cn), some (.ref u3), o14, some vh, o16, o17, some (.ref lb), some xr, some (.int pl), none, none] ∧ Same R0 H' ∧ Deck H' dk ∧ Dp K H' xr bad ∧ pl ≤ R.tr.length, ?_, ?_⟩
    · refine ⟨_, rfl, _, rfl, tu, _, 3, _, rfl, rfl, Same.tup S9 fd.u, rfl, bt, _, rfl, .inl (SqL.of (S9 _ _ fd.t)), _, _, rfl, rfl, dk, _, rfl, by omega, k9, fun p H10 p0 p1 b10 k10 => ?_⟩
      have S10 := base_but R0k S9 b10
      obtain ⟨pl, rfl⟩ := Int.eq_ofNat_of_zero_le p0
      have xbl : xb0.length = R.tr.length := by rw [dps_len fd.x, List.length_map]
      exact ⟨pl, rfl, S10, k10, dp_keep (KeepT.of_but k9 b10) nLb dxr, by omega⟩
    clear S9 k9 dxr
    rintro σ' H10 ⟨pl, rfl, S10, k10, dxr, pll⟩
    have xbl : xb0.length = R.tr.length := by rw [dps_len fd.x, List.length_map]
    -- answers: the first two
    refine ⟨fun σ' H' => ∃ (la : Addr) (z1 z2 : V), σ' = [some (.ref a), some (.ref dk), some (.ref D), some (.ref sa), some (.ref D3), some (.int n), some (.ref tu), some (.ref u2), some (.ref ao), some (.str R.fin), some vs2, some (.ref at_), some (.int cn), some (.ref u3), o14, some vh, o16, o17, some (.ref lb), some xr, some (.int pl), some (.ref la), none] ∧ Same R0 H' ∧ Deck H' dk ∧ H' la = some (.lst [z1, z2]) ∧ DpAll K H' [z1, z2] [.tuple [.str "state", .str "trace"], .tuple [.str "code", .str "words"]] ∧ la ≠ dk, ?_, ?_⟩
    · refine ⟨_, rfl, _, rfl, tu, _, 3, _, rfl, rfl, Same.tup S10 fd.u, rfl, ?_⟩
      refine ⟨_, rfl, _, rfl, bt, xb0, rfl, SqL.of (S10 _ _ fd.t), fun q1 m1 => ?_⟩
      have ec : cutV xb0 none (some (pl : Int)) = xb0.take pl := cut_to (by omega)
      have ed : cutV xb0 (some (pl : Int)) none = xb0.drop pl := cut_from (by omega)
      have y1 := same_new (o := HO.lst (cutV xb0 none (some (pl : Int)))) m1
      refine ⟨_, rfl, (show 1 ≤ sizeLine by decide), fun q2 m2 => ?_⟩
      have y2 := same_new (o := HO.lst [xr]) m2
      have y12 := y1.trans y2
      have S12 := S10.trans y12
      refine catL (K := K) (ds := (R.tr.map rowD).take pl) (es := [bad]) (y2 _ _ upd_same) upd_same (by have z := dps_take pl (dps_same S12 fd.x); rw [← ec] at z; exact z) (.cons (dp_same y12 dxr) .nil) (by rw [List.length_take, List.length_map, List.length_singleton]; omega) fun q3 m3 dd3 => ?_
      have y3 := same_new (o := HO.lst (cutV xb0 none (some (pl : Int)) ++ [xr])) m3
      have S13 := S12.trans y3
      refine ⟨_, rfl, tu, _, 3, _, rfl, rfl, Same.tup S13 fd.u, rfl, _, rfl, _, rfl, bt, xb0, rfl, SqL.of (S13 _ _ fd.t), fun q4 m4 => ?_⟩
      have y4 := same_new (o := HO.lst (cutV xb0 (some (pl : Int)) none)) m4
      refine catL (K := K) (es := (R.tr.map rowD).drop pl) (y4 _ _ upd_same) upd_same (dps_same y4 dd3) (by have z := dps_drop pl (dps_same (S13.trans y4) fd.x); rw [← ed] at z; exact z) (by rw [List.length_append, List.length_take, List.length_drop, List.length_map, List.length_singleton]; omega) fun q5 m5 dd5 => ?_
      have y5 := same_new (o := HO.lst ((cutV xb0 none (some (pl : Int)) ++ [xr]) ++ cutV xb0 (some (pl : Int)) none)) m5
      have S15 := (S13.trans y4).trans y5
      have el : ((R.tr.map rowD).take pl ++ [bad]) ++ (R.tr.map rowD).drop pl = (R.tr.take pl).map rowD ++ bad :: (R.tr.drop pl).map rowD := by rw [List.map_take, List.map_drop, List.append_assoc]; rfl
      rw [el] at dd5
      refine ⟨1, .non, .ref sa, .ref q5, rfl, .inr (.inr (.inr ⟨rfl, ⟨st, R.tr.take pl, bad, (R.tr.drop pl).map rowD, dp_same S15 fv, hg, .lst (SqL.of upd_same) dd5, fun r hr => rowsR r (List.mem_of_mem_take hr), bm⟩, fun z1 H16 s16 e1 => ?_⟩))⟩
      have S16 := S15.trans s16
      refine ⟨_, rfl, (show 1 ≤ sizeLine by decide), fun q6 m6 => ?_⟩
      have y6 := same_new (o := HO.lst [V.int 65536]) m6
      refine catL (K := K) (es := intsD [65536]) ((S16.trans y6) _ _ fw) upd_same (dps_ints ws) (dps_ints [65536]) (by simp only [List.length_map, ints_len, List.length_singleton]; omega) fun q7 m7 _ => ?_
      have y7 := same_new (o := HO.lst (ws.map V.int ++ [V.int 65536])) m7
      have S17 := (S16.trans y6).trans y7
      refine ⟨_, rfl, 0, .ref q7, .ref sa, .non, rfl, .inl ⟨rfl, ⟨ws ++ [65536], ⟨q7, rfl, .inl (by rw [List.map_append]; exact SqL.of upd_same)⟩, by rw [List.length_append, List.length_singleton]; omega, bad_words ws⟩, fun z2 H18 s18 e2 => ?_⟩⟩
      refine ⟨(show 2 ≤ sizeLine by decide), fun la nla => ?_⟩
      have y8 := same_new (o := HO.lst [z1, z2]) nla
      have yA := ((((((y12.trans y3).trans y4).trans y5).trans s16).trans y6).trans y7).trans (s18.trans y8)
      exact ⟨la, z1, z2, rfl, S10.trans yA, k10.same yA, upd_same, .cons (dp_same (((y6.trans y7).trans s18).trans y8) e1) (.cons (dp_same y8 e2) .nil), Deck.ne (k10.same ((((((y12.trans y3).trans y4).trans y5).trans s16).trans y6).trans (y7.trans s18))) nla⟩
    clear S10 k10 dxr
    rintro σ' H11 ⟨la, z1, z2, rfl, S11, k11, hla, dla, nlak⟩
    -- wrong states
    obtain ⟨sa', ar, ad, eq, hsa, har, had⟩ := st_dp fv
    cases eq
    have lr := hg.lr
    have ld := hg.ld
    refine ⟨fun σ' H' => ∃ (lw : Addr) (xw : List V), σ' = [some (.ref a), some (.ref dk), some (.ref D), some (.ref sa), some (.ref D3), some (.int n), some (.ref tu), some (.ref u2), some (.ref ao), some (.str R.fin), some vs2, some (.ref at_), some (.int cn), some (.ref u3), o14, some vh, o16, o17, some (.ref lb), some xr, some (.int pl), some (.ref la), some (.ref lw)] ∧ Same R0 H' ∧ Deck H' dk ∧ H' la = some (.lst [z1, z2]) ∧ DpAll K H' [z1, z2] [.tuple [.str "state", .str "trace"], .tuple [.str "code", .str "words"]] ∧ H' lw = some (.lst xw) ∧ xw.length = 4 ∧ Bads K (del1 H' dk) xw ∧ lw ≠ dk, ?_, ?_⟩
    · refine ⟨_, rfl, sa, _, 0, _, rfl, rfl, Same.tup S11 hsa, rfl, _, rfl, ar, _, rfl, Same.tup S11 har, (fun e => absurd e.2 (by rw [List.length_map, lr]; decide)), fun _ p1 np1 => ?_⟩
      have ec : cutV (st.r.map V.int) none (some (4 : Int)) = (st.r.take 4).map V.int := by rw [List.map_take]; exact cut_to (i := 4) (by rw [List.length_map]; omega)
      obtain ⟨qp1, dp1⟩ := newT (K := K) (xs := (cutV (st.r.map V.int) none (some (4 : Int)))) (ds := intsD (st.r.take 4)) (Deck.ne (k11.same (Same.refl H11)) np1) (by rw [ec]; exact dps_ints (st.r.take 4)) np1
      have S1a := S11.trans (same_new (o := HO.tup (cutV (st.r.map V.int) none (some (4 : Int)))) np1)
      have Y1a := (Same.refl H11).trans (same_new (o := HO.tup (cutV (st.r.map V.int) none (some (4 : Int)))) np1)
      refine ⟨_, rfl, sa, _, 1, _, rfl, rfl, Same.tup S1a hsa, rfl, (show 3 ≤ sizeLine by decide), fun t1 nt1 => ?_⟩
      obtain ⟨qt1, dt1⟩ := newT (K := K) (Deck.ne (k11.same Y1a) nt1) (.cons dp1 (.cons (dp_ints (Same.tup (base_del R0k S1a) had)) (.cons (.int _) .nil))) nt1
      have S2a := S1a.trans (same_new (o := HO.tup [V.ref p1, V.ref ad, V.int 0]) nt1)
      have Y2a := Y1a.trans (same_new (o := HO.tup [V.ref p1, V.ref ad, V.int 0]) nt1)
      have Bt1 : BadS K _ (.ref t1) := ⟨true, true, intsD (st.r.take 4), st.d, .int 0, dt1, flat_ints, rfl, by rw [ints_len, List.length_take]; omega, by omega, by unfold okS; rw [decide_eq_false (show ¬ (intsD (st.r.take 4)).length = 5 by rw [ints_len, List.length_take]; omega)]; simp⟩
      have Wt1 := Bads.one Bt1
      refine ⟨_, rfl, sa, _, 0, _, rfl, rfl, Same.tup S2a hsa, rfl, _, rfl, sa, _, 1, _, rfl, rfl, Same.tup S2a hsa, rfl, (show 1 ≤ sizeLine by decide), fun q2 m2 => ?_⟩
      have y2 := same_new (o := HO.tup [V.int 0]) m2
      have l2 := del1_same (a := dk) y2
      have S3a := S2a.trans y2
      have Y3a := Y2a.trans y2
      refine catD (ds := intsD st.d) (es := intsD [0]) (dp_ints (Same.tup S3a had)) (.tup (SqT.of upd_same) (dps_ints [0])) (by rw [ints_len, ints_len, ld]; decide) fun z3 H13 s13 e3 => ?_
      have l3 := del1_same (a := dk) s13
      have S4a := S3a.trans s13
      have Y4a := Y3a.trans s13
      have e4 : intsD st.d ++ intsD [0] = intsD (st.d ++ [(0 : Int)]) := by unfold intsD; rw [List.map_append]
      rw [e4] at e3
      have dz3 := dp_del (k11.same Y4a) (show noL (.tuple (intsD (st.d ++ [(0 : Int)]))) = true from noL_ints _) e3
      refine ⟨(show 3 ≤ sizeLine by decide), fun t2 nt2 => ?_⟩
      obtain ⟨qt2, dt2⟩ := newT (K := K) (Deck.ne (k11.same Y4a) nt2) (.cons (dp_ints (Same.tup (base_del R0k S4a) har)) (.cons dz3 (.cons (.int _) .nil))) nt2
      have S5a := S4a.trans (same_new (o := HO.tup [V.ref ar, z3, V.int 0]) nt2)
      have Y5a := Y4a.trans (same_new (o := HO.tup [V.ref ar, z3, V.int 0]) nt2)
      have Bt2 : BadS K _ (.ref t2) := ⟨true, true, intsD st.r, st.d ++ [(0 : Int)], .int 0, dt2, flat_ints, rfl, by rw [ints_len]; omega, by rw [List.length_append, List.length_singleton]; omega, by unfold okS dataB; rw [decide_eq_false (show ¬ (st.d ++ [(0 : Int)]).length = 64 by rw [List.length_append, List.length_singleton]; omega)]; simp⟩
      have Wt2 := (Wt1.same ((l2.trans l3).trans qt2)).snoc Bt2
      refine ⟨_, rfl, sa, _, 0, _, rfl, rfl, Same.tup S5a hsa, rfl, _, rfl, sa, _, 1, _, rfl, rfl, Same.tup S5a hsa, rfl, _, rfl, (show 3 ≤ sizeLine by decide), fun t3 nt3 => ?_⟩
      obtain ⟨qt3, dt3⟩ := newT (K := K) (Deck.ne (k11.same Y5a) nt3) (.cons (dp_ints (Same.tup (base_del R0k S5a) har)) (.cons (dp_ints (Same.tup (base_del R0k S5a) had)) (.cons (.int _) .nil))) nt3
      have S6a := S5a.trans (same_new (o := HO.tup [V.ref ar, V.ref ad, V.int (-1)]) nt3)
      have Y6a := Y5a.trans (same_new (o := HO.tup [V.ref ar, V.ref ad, V.int (-1)]) nt3)
      have Bt3 : BadS K _ (.ref t3) := ⟨true, true, intsD st.r, st.d, .int (-1), dt3, flat_ints, rfl, by rw [ints_len]; omega, by omega, by unfold okS; rw [show countD (.int (-1)) = false from rfl]; simp⟩
      have Wt3 := (Wt2.same qt3).snoc Bt3
      refine ⟨(show 1 ≤ sizeLine by decide), fun ka nka => ?_⟩
      have yka := same_new (o := HO.tup [V.int 256]) nka
      have qka := del1_same (a := dk) yka
      have S7a := S6a.trans yka
      have Y7a := Y6a.trans yka
      refine ⟨_, rfl, sa, _, 0, _, rfl, rfl, Same.tup S7a hsa, rfl, _, rfl, ar, _, rfl, Same.tup S7a har, (fun e => absurd e.1 (by rw [List.length_map, lr]; decide)), fun _ kb nkb => ?_⟩
      have eck : cutV (st.r.map V.int) (some (1 : Int)) none = (st.r.drop 1).map V.int := by rw [List.map_drop]; exact cut_from (i := 1) (by rw [List.length_map]; omega)
      have ykb := same_new (o := HO.tup (cutV (st.r.map V.int) (some (1 : Int)) none)) nkb
      have qkb := del1_same (a := dk) ykb
      have S8a := S7a.trans ykb
      have Y8a := Y7a.trans ykb
      refine catD (ds := [.int 256]) (es := intsD (st.r.drop 1)) (.tup (SqT.of (ykb _ _ upd_same)) (.cons (.int _) .nil)) (.tup (SqT.of upd_same) (by rw [eck]; exact dps_ints _)) (by rw [ints_len, List.length_drop, List.length_singleton]; omega) fun zk Hk sk ek => ?_
      have qk := del1_same (a := dk) sk
      have S9a := S8a.trans sk
      have Y9a := Y8a.trans sk
      have dzk := dp_del (k11.same Y9a) (show noL (.tuple (.int 256 :: intsD (st.r.drop 1))) = true from (show noLs (.int 256 :: intsD (st.r.drop 1)) = true by unfold noLs; rw [noL_ints]; rfl)) ek
      refine ⟨_, rfl, sa, _, 1, _, rfl, rfl, Same.tup S9a hsa, rfl, (show 3 ≤ sizeLine by decide), fun kt nkt => ?_⟩
      obtain ⟨qkt, dkt⟩ := newT (K := K) (Deck.ne (k11.same Y9a) nkt) (.cons dzk (.cons (dp_ints (Same.tup (base_del R0k S9a) had)) (.cons (.int _) .nil))) nkt
      have S10a := S9a.trans (same_new (o := HO.tup [zk, V.ref ad, V.int 0]) nkt)
      have Y10a := Y9a.trans (same_new (o := HO.tup [zk, V.ref ad, V.int 0]) nkt)
      have Bkt : BadS K _ (.ref kt) := ⟨true, true, .int 256 :: intsD (st.r.drop 1), st.d, .int 0, dkt, flat_cons rfl flat_ints, rfl, by rw [List.length_cons, ints_len, List.length_drop]; omega, by omega, bad_head rfl⟩
      have Wkt := (Wt3.same (((qka.trans qkb).trans qk).trans qkt)).snoc Bkt
      refine ⟨(show 4 ≤ sizeLine by decide), fun lw nlw => ?_⟩
      have x9 := same_new (o := HO.lst [V.ref t1, V.ref t2, V.ref t3, V.ref kt]) nlw
      have S11a := S10a.trans x9
      have Y11a := Y10a.trans x9
      exact ⟨lw, _, rfl, S11a, k11.same Y11a, Y11a _ _ hla, dps_same Y11a dla, upd_same, rfl, Wkt.same (del1_same x9), Deck.ne (k11.same Y10a) nlw⟩
    clear S11 k11 hla dla
    rintro σ' H11 ⟨lw, xw, rfl, S11, k11, hla, dla, hlw, xwl, BW, nlwk⟩
    refine ⟨fun σ' H' => ∃ (lw : Addr) (xw : List V), σ' = [some (.ref a), some (.ref dk), some (.ref D), some (.ref sa), some (.ref D3), some (.int n), some (.ref tu), some (.ref u2), some (.ref ao), some (.str R.fin), some vs2, some (.ref at_), some (.int cn), some (.ref u3), o14, some vh, o16, o17, some (.ref lb), some xr, some (.int pl), some (.ref la), some (.ref lw)] ∧ Same R0 H' ∧ Deck H' dk ∧ H' la = some (.lst [z1, z2]) ∧ DpAll K H' [z1, z2] [.tuple [.str "state", .str "trace"], .tuple [.str "code", .str "words"]] ∧ H' lw = some (.lst xw) ∧ xw.length = 8 ∧ Bads K (del1 H' dk) xw ∧ lw ≠ dk, ?_, ?_⟩
    · refine ⟨_, rfl, _, rfl, sa, _, 0, _, rfl, rfl, Same.tup S11 hsa, rfl, ar, _, rfl, .inr (Same.tup S11 har), fun p1 np1 => ?_⟩
      obtain ⟨qp1, dp1⟩ := newL (K := K) (xs := (st.r.map V.int)) (ds := intsD st.r) (Deck.ne (k11.same (Same.refl H11)) np1) (dps_ints st.r) np1
      have S12a := S11.trans (same_new (o := HO.lst (st.r.map V.int)) np1)
      have Y12a := (Same.refl H11).trans (same_new (o := HO.lst (st.r.map V.int)) np1)
      refine ⟨_, rfl, sa, _, 1, _, rfl, rfl, Same.tup S12a hsa, rfl, (show 3 ≤ sizeLine by decide), fun t1 nt1 => ?_⟩
      obtain ⟨qt1, dt1⟩ := newT (K := K) (Deck.ne (k11.same Y12a) nt1) (.cons dp1 (.cons (dp_ints (Same.tup (base_del R0k S12a) had)) (.cons (.int _) .nil))) nt1
      have S13a := S12a.trans (same_new (o := HO.tup [V.ref p1, V.ref ad, V.int 0]) nt1)
      have Y13a := Y12a.trans (same_new (o := HO.tup [V.ref p1, V.ref ad, V.int 0]) nt1)
      have Bt1 : BadS K _ (.ref t1) := ⟨false, true, intsD st.r, st.d, .int 0, dt1, flat_ints, rfl, by rw [ints_len]; omega, by omega, rfl⟩
      have Wt1 := Bads.one Bt1
      refine ⟨_, rfl, sa, _, 0, _, rfl, rfl, Same.tup S13a hsa, rfl, _, rfl, sa, _, 1, _, rfl, rfl, Same.tup S13a hsa, rfl, ad, _, rfl, .inr (Same.tup S13a had), fun p2 np2 => ?_⟩
      obtain ⟨qp2, dp2⟩ := newL (K := K) (xs := (st.d.map V.int)) (ds := intsD st.d) (Deck.ne (k11.same Y13a) np2) (dps_ints st.d) np2
      have S14a := S13a.trans (same_new (o := HO.lst (st.d.map V.int)) np2)
      have Y14a := Y13a.trans (same_new (o := HO.lst (st.d.map V.int)) np2)
      refine ⟨(show 3 ≤ sizeLine by decide), fun t2 nt2 => ?_⟩
      obtain ⟨qt2, dt2⟩ := newT (K := K) (Deck.ne (k11.same Y14a) nt2) (.cons (dp_ints (Same.tup (base_del R0k S14a) har)) (.cons dp2 (.cons (.int _) .nil))) nt2
      have S15a := S14a.trans (same_new (o := HO.tup [V.ref ar, V.ref p2, V.int 0]) nt2)
      have Y15a := Y14a.trans (same_new (o := HO.tup [V.ref ar, V.ref p2, V.int 0]) nt2)
      have Bt2 : BadS K _ (.ref t2) := ⟨true, false, intsD st.r, st.d, .int 0, dt2, flat_ints, rfl, by rw [ints_len]; omega, by omega, rfl⟩
      have Wt2 := (Wt1.same (qp2.trans qt2)).snoc Bt2
      refine ⟨_, rfl, sa, _, 0, _, rfl, rfl, Same.tup S15a hsa, rfl, _, rfl, sa, _, 1, _, rfl, rfl, Same.tup S15a hsa, rfl, (show 3 ≤ sizeLine by decide), fun t3 nt3 => ?_⟩
      obtain ⟨qt3, dt3⟩ := newT (K := K) (Deck.ne (k11.same Y15a) nt3) (.cons (dp_ints (Same.tup (base_del R0k S15a) har)) (.cons (dp_ints (Same.tup (base_del R0k S15a) had)) (.cons .non .nil))) nt3
      have S16a := S15a.trans (same_new (o := HO.tup [V.ref ar, V.ref ad, V.non]) nt3)
      have Y16a := Y15a.trans (same_new (o := HO.tup [V.ref ar, V.ref ad, V.non]) nt3)
      have Bt3 : BadS K _ (.ref t3) := ⟨true, true, intsD st.r, st.d, .none, dt3, flat_ints, rfl, by rw [ints_len]; omega, by omega, by unfold okS; rw [show countD .none = false from rfl]; simp⟩
      have Wt3 := (Wt2.same qt3).snoc Bt3
      refine ⟨(show 1 ≤ sizeLine by decide), fun ka nka => ?_⟩
      have yka := same_new (o := HO.tup [V.bl true]) nka
      have qka := del1_same (a := dk) yka
      have S17a := S16a.trans yka
      have Y17a := Y16a.trans yka
      refine ⟨_, rfl, sa, _, 0, _, rfl, rfl, Same.tup S17a hsa, rfl, _, rfl, ar, _, rfl, Same.tup S17a har, (fun e => absurd e.1 (by rw [List.length_map, lr]; decide)), fun _ kb nkb => ?_⟩
      have eck : cutV (st.r.map V.int) (some (1 : Int)) none = (st.r.drop 1).map V.int := by rw [List.map_drop]; exact cut_from (i := 1) (by rw [List.length_map]; omega)
      have ykb := same_new (o := HO.tup (cutV (st.r.map V.int) (some (1 : Int)) none)) nkb
      have qkb := del1_same (a := dk) ykb
      have S18a := S17a.trans ykb
      have Y18a := Y17a.trans ykb
      refine catD (ds := [.bool true]) (es := intsD (st.r.drop 1)) (.tup (SqT.of (ykb _ _ upd_same)) (.cons (.bl _) .nil)) (.tup (SqT.of upd_same) (by rw [eck]; exact dps_ints _)) (by rw [ints_len, List.length_drop, List.length_singleton]; omega) fun zk Hk sk ek => ?_
      have qk := del1_same (a := dk) sk
      have S19a := S18a.trans sk
      have Y19a := Y18a.trans sk
      have dzk := dp_del (k11.same Y19a) (show noL (.tuple (.bool true :: intsD (st.r.drop 1))) = true from (show noLs (.bool true :: intsD (st.r.drop 1)) = true by unfold noLs; rw [noL_ints]; rfl)) ek
      refine ⟨_, rfl, sa, _, 1, _, rfl, rfl, Same.tup S19a hsa, rfl, (show 3 ≤ sizeLine by decide), fun kt nkt => ?_⟩
      obtain ⟨qkt, dkt⟩ := newT (K := K) (Deck.ne (k11.same Y19a) nkt) (.cons dzk (.cons (dp_ints (Same.tup (base_del R0k S19a) had)) (.cons (.int _) .nil))) nkt
      have S20a := S19a.trans (same_new (o := HO.tup [zk, V.ref ad, V.int 0]) nkt)
      have Y20a := Y19a.trans (same_new (o := HO.tup [zk, V.ref ad, V.int 0]) nkt)
      have Bkt : BadS K _ (.ref kt) := ⟨true, true, .bool true :: intsD (st.r.drop 1), st.d, .int 0, dkt, flat_cons rfl flat_ints, rfl, by rw [List.length_cons, ints_len, List.length_drop]; omega, by omega, bad_head rfl⟩
      have Wkt := (Wt3.same (((qka.trans qkb).trans qk).trans qkt)).snoc Bkt
      refine ⟨(show 4 ≤ sizeLine by decide), fun lv nlv => ?_⟩
      have x9 := same_new (o := HO.lst [V.ref t1, V.ref t2, V.ref t3, V.ref kt]) nlv
      have S21a := S20a.trans x9
      have Y21a := Y20a.trans x9
      refine ⟨lw, lv, xw, _, rfl, rfl, Y21a _ _ hlw, upd_same, by rw [xwl]; show 4 + 4 ≤ sizeLine; decide, fun lu nlu => ?_⟩
      have xA := same_new (o := HO.lst (xw ++ [V.ref t1, V.ref t2, V.ref t3, V.ref kt])) nlu
      have S22a := S21a.trans xA
      have Y22a := Y21a.trans xA
      exact ⟨lu, _, rfl, S22a, k11.same Y22a, Y22a _ _ hla, dps_same Y22a dla, upd_same, by rw [List.length_append, xwl]; rfl, (BW.same (del1_same Y22a)).app (Wkt.same (del1_same (x9.trans xA))), Deck.ne (k11.same Y21a) nlu⟩
    clear S11 k11 hla dla hlw BW xwl nlwk
    rintro σ' H11 ⟨lw, xw, rfl, S11, k11, hla, dla, hlw, xwl, BW, nlwk⟩
    -- the last two answers
    have R2k : del1 H11 dk dk = none := del1_at _ _
    have SR2 : Same (del1 H11 dk) H11 := del1_sub
    refine ⟨fun σ' H' => ∃ (lz : Addr) (xz : List V), σ' = [some (.ref a), some (.ref dk), some (.ref D), some (.ref sa), some (.ref D3), some (.int n), some (.ref tu), some (.ref u2), some (.ref ao), some (.str R.fin), some vs2, some (.ref at_), some (.int cn), some (.ref u3), o14, some vh, o16, o17, some (.ref lb), some xr, some (.int pl), some (.ref lz), some (.ref lw)] ∧ H' lz = some (.lst xz) ∧ DpAll K H' xz ansD, ?_, ?_⟩
    · refine ⟨_, rfl, _, rfl, _, rfl, _, rfl, dk, 8, rfl, by decide, k11, fun r H12 r0 r1 b12 k12 => ?_⟩
      have S12 := base_but R0k S11 b12
      have T12 := base_but R2k SR2 b12
      obtain ⟨rn, rfl⟩ := Int.eq_ofNat_of_zero_le r0
      have rl : rn < xw.length := by omega
      refine ⟨lw, xw, _, xw[rn], rfl, rfl, SqL.of (b12 _ _ nlwk hlw), atI_nat (List.getElem?_eq_getElem rl), ?_⟩
      refine ⟨0, .ref D, xw[rn], .non, rfl, .inr (.inl ⟨rfl, ⟨ws, ⟨D, rfl, .inl (SqL.of (S12 _ _ fw))⟩, by omega, okw⟩, BW.same T12 _ (List.getElem_mem rl), fun z3 H13 s13 e3 => ?_⟩)⟩
      refine ⟨_, rfl, _, rfl, dk, 8, rfl, by decide, k12.same s13, fun r' H14 r0' r1' b14 k14 => ?_⟩
      have T14 := base_but R2k (T12.trans s13) b14
      obtain ⟨rm, rfl⟩ := Int.eq_ofNat_of_zero_le r0'
      have rl' : rm < xw.length := by omega
      refine ⟨lw, xw, _, xw[rm], rfl, rfl, SqL.of (b14 _ _ nlwk (s13 _ _ (b12 _ _ nlwk hlw))), atI_nat (List.getElem?_eq_getElem rl'), Nat.zero_le _, fun pe npe => ?_⟩
      have y15 := same_new (o := HO.lst []) npe
      refine ⟨1, .non, xw[rm], .ref pe, rfl, .inr (.inr (.inl ⟨rfl, BW.same (T14.trans y15) _ (List.getElem_mem rl'), fun z4 H16 s16 e4 => ?_⟩))⟩
      refine ⟨(show 2 ≤ sizeLine by decide), fun lq nlq => ?_⟩
      have y17 := same_new (o := HO.lst [z3, z4]) nlq
      have y57 := (y15.trans s16).trans y17
      have nlak' : la ≠ dk := nlak
      have hla14 := b14 _ _ nlak (s13 _ _ (b12 _ _ nlak hla))
      have K14 : KeepT H11 H14 := ((KeepT.of_but k11 b12).trans (KeepT.of_same s13)).trans (KeepT.of_but (k12.same s13) b14)
      have dla14 := dps_keep K14 (by decide +kernel) dla
      have e3' := dp_keep (KeepT.of_but (k12.same s13) b14) (by decide +kernel) e3
      refine ⟨la, lq, _, _, rfl, rfl, y57 _ _ hla14, upd_same, (show 2 + 2 ≤ sizeLine by decide), fun lz nlz => ?_⟩
      have y18 := same_new (o := HO.lst ([z1, z2] ++ [z3, z4])) nlz
      exact ⟨lz, _, rfl, upd_same, dps_same y18 (dps_app (dps_same y57 dla14) (.cons (dp_same y57 e3') (.cons (dp_same y17 e4) .nil)))⟩
    rintro σ' H12 ⟨lz, xz, rfl, hlz, dlz⟩
    refine ⟨_, rfl, ?_⟩
    refine ⟨(show 2 ≤ sizeLine by decide), fun g1 ng1 => ?_⟩
    obtain ⟨v1a, w1a⟩ := tupD (K := K) (.cons (.str _) (.cons (.str _) .nil)) ng1
    refine ⟨(show 2 ≤ sizeLine by decide), fun g2 ng2 => ?_⟩
    obtain ⟨v2a, w2a⟩ := tupD (K := K) (.cons (.str _) (.cons (.str _) .nil)) ng2
    refine ⟨(show 2 ≤ sizeLine by decide), fun g3 ng3 => ?_⟩
    obtain ⟨v3a, w3a⟩ := tupD (K := K) (.cons (.str _) (.cons (.str _) .nil)) ng3
    refine ⟨(show 2 ≤ sizeLine by decide), fun g4 ng4 => ?_⟩
    obtain ⟨v4a, w4a⟩ := tupD (K := K) (.cons (.str _) (.cons (.str _) .nil)) ng4
    refine ⟨(show 4 ≤ sizeLine by decide), fun g5 ng5 => ?_⟩
    have v5a := same_new (o := HO.lst [V.ref g1, V.ref g2, V.ref g3, V.ref g4]) ng5
    have vA := (((v1a.trans v2a).trans v3a).trans v4a).trans v5a
    refine ⟨.list ansD, .list ansD, .lst (SqL.of (vA _ _ hlz)) (dps_same vA dlz), .lst (SqL.of upd_same) (.cons (dp_same (((v2a.trans v3a).trans v4a).trans v5a) w1a) (.cons (dp_same ((v3a.trans v4a).trans v5a) w2a) (.cons (dp_same (v4a.trans v5a) w3a) (.cons (dp_same v5a w4a) .nil)))), by decide +kernel, by decide +kernel, ?_⟩
    rw [SeqAt.eqv_refl _ (SeqAt.canLay_of_shaped (show SeqAt.shaped (.list ansD) = true by decide +kernel))]
    exact k _
end
end Q40



namespace Q40
open PySem L2 G M40 NdefX
open C8 (Cal Met Mak pe_c pe_mk pe_mt pe_mt0 pe_gc pss_cut tCut)
/-! ### what the top has written, the head -/
theorem all_mk {l : PySem.W.OpenLaw} {w : World} {K : PySem.W.Frag} {h : Heap} {mg : Str → Option Value} {fa f__law_deck f__law_take f__law_plain f_check_words f_fields_of f_is_byte f_is_count f_check_data f_check_state f_first_state f_replaced f_result_of f_set_register f_set_data f_go_to f_take_byte f_moved f_end_of f_once f_after f_run_words f_check_row f_run_back f__law_spoil f__law_machine f__law_state f__law_drawn_word f__law_why f_law C_InvalidCode f_InvalidCode cc_InvalidCode cda_InvalidCode C_InvalidState f_InvalidState cc_InvalidState cda_InvalidState C_GateError : Addr} (X : K.In h) (G : h.Ns mainGlobals mg) (hfa : mg "law" = some (.ref fa))
    {od__law_deck an__law_deck : Option Addr} {sl__law_deck : Array (Option Value)} {oc__law_deck kV__law_deck dc__law_deck pm__law_deck cd__law_deck ct__law_deck : Value}
    {od__law_take an__law_take : Option Addr} {sl__law_take : Array (Option Value)} {oc__law_take kV__law_take dc__law_take pm__law_take cd__law_take ct__law_take : Value}
    {od__law_plain an__law_plain : Option Addr} {sl__law_plain : Array (Option Value)} {oc__law_plain kV__law_plain dc__law_plain pm__law_plain cd__law_plain ct__law_plain : Value}
    {od_check_words an_check_words : Option Addr} {sl_check_words : Array (Option Value)} {oc_check_words kV_check_words dc_check_words pm_check_words cd_check_words ct_check_words : Value}
    {od_fields_of an_fields_of : Option Addr} {sl_fields_of : Array (Option Value)} {oc_fields_of kV_fields_of dc_fields_of pm_fields_of cd_fields_of ct_fields_of : Value}
    {od_is_byte an_is_byte : Option Addr} {sl_is_byte : Array (Option Value)} {oc_is_byte kV_is_byte dc_is_byte pm_is_byte cd_is_byte ct_is_byte : Value}
    {od_is_count an_is_count : Option Addr} {sl_is_count : Array (Option Value)} {oc_is_count kV_is_count dc_is_count pm_is_count cd_is_count ct_is_count : Value}
    {od_check_data an_check_data : Option Addr} {sl_check_data : Array (Option Value)} {oc_check_data kV_check_data dc_check_data pm_check_data cd_check_data ct_check_data : Value}
    {od_check_state an_check_state : Option Addr} {sl_check_state : Array (Option Value)} {oc_check_state kV_check_state dc_check_state pm_check_state cd_check_state ct_check_state : Value}
    {od_first_state an_first_state : Option Addr} {sl_first_state : Array (Option Value)} {oc_first_state kV_first_state dc_first_state pm_first_state cd_first_state ct_first_state : Value}
    {od_replaced an_replaced : Option Addr} {sl_replaced : Array (Option Value)} {oc_replaced kV_replaced dc_replaced pm_replaced cd_replaced ct_replaced : Value}
    {od_result_of an_result_of : Option Addr} {sl_result_of : Array (Option Value)} {oc_result_of kV_result_of dc_result_of pm_result_of cd_result_of ct_result_of : Value}
    {od_set_register an_set_register : Option Addr} {sl_set_register : Array (Option Value)} {oc_set_register kV_set_register dc_set_register pm_set_register cd_set_register ct_set_register : Value}
    {od_set_data an_set_data : Option Addr} {sl_set_data : Array (Option Value)} {oc_set_data kV_set_data dc_set_data pm_set_data cd_set_data ct_set_data : Value}
    {od_go_to an_go_to : Option Addr} {sl_go_to : Array (Option Value)} {oc_go_to kV_go_to dc_go_to pm_go_to cd_go_to ct_go_to : Value}
    {od_take_byte an_take_byte : Option Addr} {sl_take_byte : Array (Option Value)} {oc_take_byte kV_take_byte dc_take_byte pm_take_byte cd_take_byte ct_take_byte : Value}
    {od_moved an_moved : Option Addr} {sl_moved : Array (Option Value)} {oc_moved kV_moved dc_moved pm_moved cd_moved ct_moved : Value}
    {od_end_of an_end_of : Option Addr} {sl_end_of : Array (Option Value)} {oc_end_of kV_end_of dc_end_of pm_end_of cd_end_of ct_end_of : Value}
    {od_once an_once : Option Addr} {sl_once : Array (Option Value)} {oc_once kV_once dc_once pm_once cd_once ct_once : Value}
    {od_after an_after : Option Addr} {sl_after : Array (Option Value)} {oc_after kV_after dc_after pm_after cd_after ct_after : Value}
    {od_run_words an_run_words : Option Addr} {sl_run_words : Array (Option Value)} {oc_run_words kV_run_words dc_run_words pm_run_words cd_run_words ct_run_words : Value}
    {od_check_row an_check_row : Option Addr} {sl_check_row : Array (Option Value)} {oc_check_row kV_check_row dc_check_row pm_check_row cd_check_row ct_check_row : Value}
    {od_run_back an_run_back : Option Addr} {sl_run_back : Array (Option Value)} {oc_run_back kV_run_back dc_run_back pm_run_back cd_run_back ct_run_back : Value}
    {od__law_spoil an__law_spoil : Option Addr} {sl__law_spoil : Array (Option Value)} {oc__law_spoil kV__law_spoil dc__law_spoil pm__law_spoil cd__law_spoil ct__law_spoil : Value}
    {od__law_machine an__law_machine : Option Addr} {sl__law_machine : Array (Option Value)} {oc__law_machine kV__law_machine dc__law_machine pm__law_machine cd__law_machine ct__law_machine : Value}
    {od__law_state an__law_state : Option Addr} {sl__law_state : Array (Option Value)} {oc__law_state kV__law_state dc__law_state pm__law_state cd__law_state ct__law_state : Value}
    {od__law_drawn_word an__law_drawn_word : Option Addr} {sl__law_drawn_word : Array (Option Value)} {oc__law_drawn_word kV__law_drawn_word dc__law_drawn_word pm__law_drawn_word cd__law_drawn_word ct__law_drawn_word : Value}
    {od__law_why an__law_why : Option Addr} {sl__law_why : Array (Option Value)} {oc__law_why kV__law_why dc__law_why pm__law_why cd__law_why ct__law_why : Value}
    {od_law an_law : Option Addr} {sl_law : Array (Option Value)} {oc_law kV_law dc_law pm_law cd_law ct_law : Value}
    {nm_InvalidCode qu_InvalidCode : Str} {N_InvalidCode : Addr} {bs_InvalidCode bm_InvalidCode : List Value} {sn_InvalidCode : List Str} {sub_InvalidCode : List Value} {ab_InvalidCode : Bool} {col_InvalidCode : Option Bool} {dd_InvalidCode : Option Addr} {m0_InvalidCode m1_InvalidCode m2_InvalidCode m3_InvalidCode m5_InvalidCode : Option Value} {oc_InvalidCode kV_InvalidCode dc_InvalidCode pm_InvalidCode ct_InvalidCode cl_InvalidCode ccl_InvalidCode : Value} {od_InvalidCode an_InvalidCode cld_InvalidCode cdd_InvalidCode : Option Addr} {sl_InvalidCode csl_InvalidCode ccs_InvalidCode : Array (Option Value)} {fv_InvalidCode : Array Value} {fi_InvalidCode : Str} {tf_InvalidCode : Tok}
    {nm_InvalidState qu_InvalidState : Str} {N_InvalidState : Addr} {bs_InvalidState bm_InvalidState : List Value} {sn_InvalidState : List Str} {sub_InvalidState : List Value} {ab_InvalidState : Bool} {col_InvalidState : Option Bool} {dd_InvalidState : Option Addr} {m0_InvalidState m1_InvalidState m2_InvalidState m3_InvalidState m5_InvalidState : Option Value} {oc_InvalidState kV_InvalidState dc_InvalidState pm_InvalidState ct_InvalidState cl_InvalidState ccl_InvalidState : Value} {od_InvalidState an_InvalidState cld_InvalidState cdd_InvalidState : Option Addr} {sl_InvalidState csl_InvalidState ccs_InvalidState : Array (Option Value)} {fv_InvalidState : Array Value} {fi_InvalidState : Str} {tf_InvalidState : Tok}
    (a__law_deck : PySem.W.nsIn K mainGlobals "_law_deck" = some (some (.ref f__law_deck)))
    (l__law_deck : K.lookup f__law_deck = some ⟨oc__law_deck, od__law_deck, .func (PySem.W.fnOf "_law_deck" "_law_deck" (defArgs s__law_deck) (defBody s__law_deck) (defScope s__law_deck) .none kV__law_deck dc__law_deck pm__law_deck an__law_deck cd__law_deck ct__law_deck), sl__law_deck⟩) (c__law_deck : PySem.W.codeIn K cd__law_deck "_law_deck" = true) (k__law_deck : PySem.W.keepIn K (.ref f__law_deck) = true)
    (a__law_take : PySem.W.nsIn K mainGlobals "_law_take" = some (some (.ref f__law_take)))
    (l__law_take : K.lookup f__law_take = some ⟨oc__law_take, od__law_take, .func (PySem.W.fnOf "_law_take" "_law_take" (defArgs s__law_take) (defBody s__law_take) (defScope s__law_take) .none kV__law_take dc__law_take pm__law_take an__law_take cd__law_take ct__law_take), sl__law_take⟩) (c__law_take : PySem.W.codeIn K cd__law_take "_law_take" = true) (k__law_take : PySem.W.keepIn K (.ref f__law_take) = true)
    (a__law_plain : PySem.W.nsIn K mainGlobals "_law_plain" = some (some (.ref f__law_plain)))
    (l__law_plain : K.lookup f__law_plain = some ⟨oc__law_plain, od__law_plain, .func (PySem.W.fnOf "_law_plain" "_law_plain" (defArgs s__law_plain) (defBody s__law_plain) (defScope s__law_plain) .none kV__law_plain dc__law_plain pm__law_plain an__law_plain cd__law_plain ct__law_plain), sl__law_plain⟩) (c__law_plain : PySem.W.codeIn K cd__law_plain "_law_plain" = true) (k__law_plain : PySem.W.keepIn K (.ref f__law_plain) = true)
    (a_check_words : PySem.W.nsIn K mainGlobals "check_words" = some (some (.ref f_check_words)))
    (l_check_words : K.lookup f_check_words = some ⟨oc_check_words, od_check_words, .func (PySem.W.fnOf "check_words" "check_words" (defArgs s_check_words) (defBody s_check_words) (defScope s_check_words) .none kV_check_words dc_check_words pm_check_words an_check_words cd_check_words ct_check_words), sl_check_words⟩) (c_check_words : PySem.W.codeIn K cd_check_words "check_words" = true) (k_check_words : PySem.W.keepIn K (.ref f_check_words) = true)
    (a_fields_of : PySem.W.nsIn K mainGlobals "fields_of" = some (some (.ref f_fields_of)))
    (l_fields_of : K.lookup f_fields_of = some ⟨oc_fields_of, od_fields_of, .func (PySem.W.fnOf "fields_of" "fields_of" (defArgs s_fields_of) (defBody s_fields_of) (defScope s_fields_of) .none kV_fields_of dc_fields_of pm_fields_of an_fields_of cd_fields_of ct_fields_of), sl_fields_of⟩) (c_fields_of : PySem.W.codeIn K cd_fields_of "fields_of" = true) (k_fields_of : PySem.W.keepIn K (.ref f_fields_of) = true)
    (a_is_byte : PySem.W.nsIn K mainGlobals "is_byte" = some (some (.ref f_is_byte)))
    (l_is_byte : K.lookup f_is_byte = some ⟨oc_is_byte, od_is_byte, .func (PySem.W.fnOf "is_byte" "is_byte" (defArgs s_is_byte) (defBody s_is_byte) (defScope s_is_byte) .none kV_is_byte dc_is_byte pm_is_byte an_is_byte cd_is_byte ct_is_byte), sl_is_byte⟩) (c_is_byte : PySem.W.codeIn K cd_is_byte "is_byte" = true) (k_is_byte : PySem.W.keepIn K (.ref f_is_byte) = true)
    (a_is_count : PySem.W.nsIn K mainGlobals "is_count" = some (some (.ref f_is_count)))
    (l_is_count : K.lookup f_is_count = some ⟨oc_is_count, od_is_count, .func (PySem.W.fnOf "is_count" "is_count" (defArgs s_is_count) (defBody s_is_count) (defScope s_is_count) .none kV_is_count dc_is_count pm_is_count an_is_count cd_is_count ct_is_count), sl_is_count⟩) (c_is_count : PySem.W.codeIn K cd_is_count "is_count" = true) (k_is_count : PySem.W.keepIn K (.ref f_is_count) = true)
    (a_check_data : PySem.W.nsIn K mainGlobals "check_data" = some (some (.ref f_check_data)))
    (l_check_data : K.lookup f_check_data = some ⟨oc_check_data, od_check_data, .func (PySem.W.fnOf "check_data" "check_data" (defArgs s_check_data) (defBody s_check_data) (defScope s_check_data) .none kV_check_data dc_check_data pm_check_data an_check_data cd_check_data ct_check_data), sl_check_data⟩) (c_check_data : PySem.W.codeIn K cd_check_data "check_data" = true) (k_check_data : PySem.W.keepIn K (.ref f_check_data) = true)
    (a_check_state : PySem.W.nsIn K mainGlobals "check_state" = some (some (.ref f_check_state)))
    (l_check_state : K.lookup f_check_state = some ⟨oc_check_state, od_check_state, .func (PySem.W.fnOf "check_state" "check_state" (defArgs s_check_state) (defBody s_check_state) (defScope s_check_state) .none kV_check_state dc_check_state pm_check_state an_check_state cd_check_state ct_check_state), sl_check_state⟩) (c_check_state : PySem.W.codeIn K cd_check_state "check_state" = true) (k_check_state : PySem.W.keepIn K (.ref f_check_state) = true)
    (a_first_state : PySem.W.nsIn K mainGlobals "first_state" = some (some (.ref f_first_state)))
    (l_first_state : K.lookup f_first_state = some ⟨oc_first_state, od_first_state, .func (PySem.W.fnOf "first_state" "first_state" (defArgs s_first_state) (defBody s_first_state) (defScope s_first_state) .none kV_first_state dc_first_state pm_first_state an_first_state cd_first_state ct_first_state), sl_first_state⟩) (c_first_state : PySem.W.codeIn K cd_first_state "first_state" = true) (k_first_state : PySem.W.keepIn K (.ref f_first_state) = true)
    (a_replaced : PySem.W.nsIn K mainGlobals "replaced" = some (some (.ref f_replaced)))
    (l_replaced : K.lookup f_replaced = some ⟨oc_replaced, od_replaced, .func (PySem.W.fnOf "replaced" "replaced" (defArgs s_replaced) (defBody s_replaced) (defScope s_replaced) .none kV_replaced dc_replaced pm_replaced an_replaced cd_replaced ct_replaced), sl_replaced⟩) (c_replaced : PySem.W.codeIn K cd_replaced "replaced" = true) (k_replaced : PySem.W.keepIn K (.ref f_replaced) = true)
    (a_result_of : PySem.W.nsIn K mainGlobals "result_of" = some (some (.ref f_result_of)))
    (l_result_of : K.lookup f_result_of = some ⟨oc_result_of, od_result_of, .func (PySem.W.fnOf "result_of" "result_of" (defArgs s_result_of) (defBody s_result_of) (defScope s_result_of) .none kV_result_of dc_result_of pm_result_of an_result_of cd_result_of ct_result_of), sl_result_of⟩) (c_result_of : PySem.W.codeIn K cd_result_of "result_of" = true) (k_result_of : PySem.W.keepIn K (.ref f_result_of) = true)
    (a_set_register : PySem.W.nsIn K mainGlobals "set_register" = some (some (.ref f_set_register)))
    (l_set_register : K.lookup f_set_register = some ⟨oc_set_register, od_set_register, .func (PySem.W.fnOf "set_register" "set_register" (defArgs s_set_register) (defBody s_set_register) (defScope s_set_register) .none kV_set_register dc_set_register pm_set_register an_set_register cd_set_register ct_set_register), sl_set_register⟩) (c_set_register : PySem.W.codeIn K cd_set_register "set_register" = true) (k_set_register : PySem.W.keepIn K (.ref f_set_register) = true)
    (a_set_data : PySem.W.nsIn K mainGlobals "set_data" = some (some (.ref f_set_data)))
    (l_set_data : K.lookup f_set_data = some ⟨oc_set_data, od_set_data, .func (PySem.W.fnOf "set_data" "set_data" (defArgs s_set_data) (defBody s_set_data) (defScope s_set_data) .none kV_set_data dc_set_data pm_set_data an_set_data cd_set_data ct_set_data), sl_set_data⟩) (c_set_data : PySem.W.codeIn K cd_set_data "set_data" = true) (k_set_data : PySem.W.keepIn K (.ref f_set_data) = true)
    (a_go_to : PySem.W.nsIn K mainGlobals "go_to" = some (some (.ref f_go_to)))
    (l_go_to : K.lookup f_go_to = some ⟨oc_go_to, od_go_to, .func (PySem.W.fnOf "go_to" "go_to" (defArgs s_go_to) (defBody s_go_to) (defScope s_go_to) .none kV_go_to dc_go_to pm_go_to an_go_to cd_go_to ct_go_to), sl_go_to⟩) (c_go_to : PySem.W.codeIn K cd_go_to "go_to" = true) (k_go_to : PySem.W.keepIn K (.ref f_go_to) = true)
    (a_take_byte : PySem.W.nsIn K mainGlobals "take_byte" = some (some (.ref f_take_byte)))
    (l_take_byte : K.lookup f_take_byte = some ⟨oc_take_byte, od_take_byte, .func (PySem.W.fnOf "take_byte" "take_byte" (defArgs s_take_byte) (defBody s_take_byte) (defScope s_take_byte) .none kV_take_byte dc_take_byte pm_take_byte an_take_byte cd_take_byte ct_take_byte), sl_take_byte⟩) (c_take_byte : PySem.W.codeIn K cd_take_byte "take_byte" = true) (k_take_byte : PySem.W.keepIn K (.ref f_take_byte) = true)
    (a_moved : PySem.W.nsIn K mainGlobals "moved" = some (some (.ref f_moved)))
    (l_moved : K.lookup f_moved = some ⟨oc_moved, od_moved, .func (PySem.W.fnOf "moved" "moved" (defArgs s_moved) (defBody s_moved) (defScope s_moved) .none kV_moved dc_moved pm_moved an_moved cd_moved ct_moved), sl_moved⟩) (c_moved : PySem.W.codeIn K cd_moved "moved" = true) (k_moved : PySem.W.keepIn K (.ref f_moved) = true)
    (a_end_of : PySem.W.nsIn K mainGlobals "end_of" = some (some (.ref f_end_of)))
    (l_end_of : K.lookup f_end_of = some ⟨oc_end_of, od_end_of, .func (PySem.W.fnOf "end_of" "end_of" (defArgs s_end_of) (defBody s_end_of) (defScope s_end_of) .none kV_end_of dc_end_of pm_end_of an_end_of cd_end_of ct_end_of), sl_end_of⟩) (c_end_of : PySem.W.codeIn K cd_end_of "end_of" = true) (k_end_of : PySem.W.keepIn K (.ref f_end_of) = true)
    (a_once : PySem.W.nsIn K mainGlobals "once" = some (some (.ref f_once)))
    (l_once : K.lookup f_once = some ⟨oc_once, od_once, .func (PySem.W.fnOf "once" "once" (defArgs s_once) (defBody s_once) (defScope s_once) .none kV_once dc_once pm_once an_once cd_once ct_once), sl_once⟩) (c_once : PySem.W.codeIn K cd_once "once" = true) (k_once : PySem.W.keepIn K (.ref f_once) = true)
    (a_after : PySem.W.nsIn K mainGlobals "after" = some (some (.ref f_after)))
    (l_after : K.lookup f_after = some ⟨oc_after, od_after, .func (PySem.W.fnOf "after" "after" (defArgs s_after) (defBody s_after) (defScope s_after) .none kV_after dc_after pm_after an_after cd_after ct_after), sl_after⟩) (c_after : PySem.W.codeIn K cd_after "after" = true) (k_after : PySem.W.keepIn K (.ref f_after) = true)
    (a_run_words : PySem.W.nsIn K mainGlobals "run_words" = some (some (.ref f_run_words)))
    (l_run_words : K.lookup f_run_words = some ⟨oc_run_words, od_run_words, .func (PySem.W.fnOf "run_words" "run_words" (defArgs s_run_words) (defBody s_run_words) (defScope s_run_words) .none kV_run_words dc_run_words pm_run_words an_run_words cd_run_words ct_run_words), sl_run_words⟩) (c_run_words : PySem.W.codeIn K cd_run_words "run_words" = true) (k_run_words : PySem.W.keepIn K (.ref f_run_words) = true)
    (a_check_row : PySem.W.nsIn K mainGlobals "check_row" = some (some (.ref f_check_row)))
    (l_check_row : K.lookup f_check_row = some ⟨oc_check_row, od_check_row, .func (PySem.W.fnOf "check_row" "check_row" (defArgs s_check_row) (defBody s_check_row) (defScope s_check_row) .none kV_check_row dc_check_row pm_check_row an_check_row cd_check_row ct_check_row), sl_check_row⟩) (c_check_row : PySem.W.codeIn K cd_check_row "check_row" = true) (k_check_row : PySem.W.keepIn K (.ref f_check_row) = true)
    (a_run_back : PySem.W.nsIn K mainGlobals "run_back" = some (some (.ref f_run_back)))
    (l_run_back : K.lookup f_run_back = some ⟨oc_run_back, od_run_back, .func (PySem.W.fnOf "run_back" "run_back" (defArgs s_run_back) (defBody s_run_back) (defScope s_run_back) .none kV_run_back dc_run_back pm_run_back an_run_back cd_run_back ct_run_back), sl_run_back⟩) (c_run_back : PySem.W.codeIn K cd_run_back "run_back" = true) (k_run_back : PySem.W.keepIn K (.ref f_run_back) = true)
    (a__law_spoil : PySem.W.nsIn K mainGlobals "_law_spoil" = some (some (.ref f__law_spoil)))
    (l__law_spoil : K.lookup f__law_spoil = some ⟨oc__law_spoil, od__law_spoil, .func (PySem.W.fnOf "_law_spoil" "_law_spoil" (defArgs s__law_spoil) (defBody s__law_spoil) (defScope s__law_spoil) .none kV__law_spoil dc__law_spoil pm__law_spoil an__law_spoil cd__law_spoil ct__law_spoil), sl__law_spoil⟩) (c__law_spoil : PySem.W.codeIn K cd__law_spoil "_law_spoil" = true) (k__law_spoil : PySem.W.keepIn K (.ref f__law_spoil) = true)
    (a__law_machine : PySem.W.nsIn K mainGlobals "_law_machine" = some (some (.ref f__law_machine)))
    (l__law_machine : K.lookup f__law_machine = some ⟨oc__law_machine, od__law_machine, .func (PySem.W.fnOf "_law_machine" "_law_machine" (defArgs s__law_machine) (defBody s__law_machine) (defScope s__law_machine) .none kV__law_machine dc__law_machine pm__law_machine an__law_machine cd__law_machine ct__law_machine), sl__law_machine⟩) (c__law_machine : PySem.W.codeIn K cd__law_machine "_law_machine" = true) (k__law_machine : PySem.W.keepIn K (.ref f__law_machine) = true)
    (a__law_state : PySem.W.nsIn K mainGlobals "_law_state" = some (some (.ref f__law_state)))
    (l__law_state : K.lookup f__law_state = some ⟨oc__law_state, od__law_state, .func (PySem.W.fnOf "_law_state" "_law_state" (defArgs s__law_state) (defBody s__law_state) (defScope s__law_state) .none kV__law_state dc__law_state pm__law_state an__law_state cd__law_state ct__law_state), sl__law_state⟩) (c__law_state : PySem.W.codeIn K cd__law_state "_law_state" = true) (k__law_state : PySem.W.keepIn K (.ref f__law_state) = true)
    (a__law_drawn_word : PySem.W.nsIn K mainGlobals "_law_drawn_word" = some (some (.ref f__law_drawn_word)))
    (l__law_drawn_word : K.lookup f__law_drawn_word = some ⟨oc__law_drawn_word, od__law_drawn_word, .func (PySem.W.fnOf "_law_drawn_word" "_law_drawn_word" (defArgs s__law_drawn_word) (defBody s__law_drawn_word) (defScope s__law_drawn_word) .none kV__law_drawn_word dc__law_drawn_word pm__law_drawn_word an__law_drawn_word cd__law_drawn_word ct__law_drawn_word), sl__law_drawn_word⟩) (c__law_drawn_word : PySem.W.codeIn K cd__law_drawn_word "_law_drawn_word" = true) (k__law_drawn_word : PySem.W.keepIn K (.ref f__law_drawn_word) = true)
    (a__law_why : PySem.W.nsIn K mainGlobals "_law_why" = some (some (.ref f__law_why)))
    (l__law_why : K.lookup f__law_why = some ⟨oc__law_why, od__law_why, .func (PySem.W.fnOf "_law_why" "_law_why" (defArgs s__law_why) (defBody s__law_why) (defScope s__law_why) .none kV__law_why dc__law_why pm__law_why an__law_why cd__law_why ct__law_why), sl__law_why⟩) (c__law_why : PySem.W.codeIn K cd__law_why "_law_why" = true) (k__law_why : PySem.W.keepIn K (.ref f__law_why) = true)
    (a_law : PySem.W.nsIn K mainGlobals "law" = some (some (.ref f_law)))
    (l_law : K.lookup f_law = some ⟨oc_law, od_law, .func (PySem.W.fnOf "law" "law" (defArgs s_law) (defBody s_law) (defScope s_law) .none kV_law dc_law pm_law an_law cd_law ct_law), sl_law⟩) (c_law : PySem.W.codeIn K cd_law "law" = true) (k_law : PySem.W.keepIn K (.ref f_law) = true)
    (z_abs : PySem.W.nsIn K mainGlobals "abs" = some none)
    (z_all : PySem.W.nsIn K mainGlobals "all" = some none)
    (z_any : PySem.W.nsIn K mainGlobals "any" = some none)
    (z_bool : PySem.W.nsIn K mainGlobals "bool" = some none)
    (z_int : PySem.W.nsIn K mainGlobals "int" = some none)
    (z_isinstance : PySem.W.nsIn K mainGlobals "isinstance" = some none)
    (z_len : PySem.W.nsIn K mainGlobals "len" = some none)
    (z_list : PySem.W.nsIn K mainGlobals "list" = some none)
    (z_min : PySem.W.nsIn K mainGlobals "min" = some none)
    (z_range : PySem.W.nsIn K mainGlobals "range" = some none)
    (z_reversed : PySem.W.nsIn K mainGlobals "reversed" = some none)
    (z_str : PySem.W.nsIn K mainGlobals "str" = some none)
    (z_tuple : PySem.W.nsIn K mainGlobals "tuple" = some none)
    (w_MOST_WORDS : constK K "MOST_WORDS" = some (.int 256))
    (w_MOST_WORD : constK K "MOST_WORD" = some (.int 65535))
    (w_ENDS : constK K "ENDS" = some (.tuple [.str "done", .str "zero", .str "index"]))
    (w_REGISTERS : constK K "REGISTERS" = some (.int 4))
    (w_DATA : constK K "DATA" = some (.int 64))
    (w_BYTE : constK K "BYTE" = some (.int 256))
    (a_InvalidCode : PySem.W.nsIn K mainGlobals "InvalidCode" = some (some (.ref C_InvalidCode)))
    (x_InvalidCode : K.lookup C_InvalidCode = some (excClassObj nm_InvalidCode qu_InvalidCode C_InvalidCode N_InvalidCode bs_InvalidCode bm_InvalidCode true sn_InvalidCode sub_InvalidCode ab_InvalidCode col_InvalidCode dd_InvalidCode m0_InvalidCode m1_InvalidCode m2_InvalidCode m3_InvalidCode m5_InvalidCode "ValueError.__new__"))
    (v_InvalidCode : PySem.HandSPX.refsVE bm_InvalidCode = true)
    (sa_InvalidCode : PySem.W.findIn K (.ref C_InvalidCode) "__setattr__" = some (some (.builtin "object.__setattr__")))
    (ga_InvalidCode : PySem.W.findIn K (.ref C_InvalidCode) "__getattribute__" = some (some (.builtin "BaseException.__getattribute__")))
    (gg_InvalidCode : PySem.W.findIn K (.ref C_InvalidCode) "__getattr__" = some none)
    (n_InvalidCode : PySem.W.findIn K (.ref C_InvalidCode) "what" = some none)
    (i_InvalidCode : PySem.W.findIn K (.ref C_InvalidCode) "__init__" = some (some (.ref f_InvalidCode)))
    (t_InvalidCode : PySem.W.typeIn K (.ref f_InvalidCode) = some (.type "function"))
    (l_InvalidCode : K.lookup f_InvalidCode = some ⟨oc_InvalidCode, od_InvalidCode, .func (PySem.W.fnX "__init__" "InvalidCode.__init__" (defArgs s_InvalidCode___init__) (defBody s_InvalidCode___init__) (defScope s_InvalidCode___init__) [("__class__", cc_InvalidCode)] .none kV_InvalidCode dc_InvalidCode pm_InvalidCode an_InvalidCode (.ref cda_InvalidCode) ct_InvalidCode), sl_InvalidCode⟩)
    (c_InvalidCode : PySem.W.codeIn K (.ref cda_InvalidCode) "InvalidCode.__init__" = true)
    (kc_InvalidCode : PySem.W.keepIn K (.ref C_InvalidCode) = true)
    (e_InvalidCode : PySem.W.subIn K (.ref C_InvalidCode) (.type "BaseException") = some true)
    (tt_InvalidCode : PySem.W.typeIn K (.ref C_InvalidCode) = some (.type "type"))
    (hd_InvalidCode : PySem.W.hasDictIn K C_InvalidCode = true)
    (ic_InvalidCode : PySem.W.isClsIn K C_InvalidCode = true)
    (ss_InvalidCode : PySem.W.subIn K (.ref C_InvalidCode) (.ref C_InvalidCode) = some true)
    (mr_InvalidCode : PySem.W.mroIn K C_InvalidCode (.ref C_InvalidCode) = some true)
    (su_InvalidCode : PySem.W.ks_superIn K C_InvalidCode C_InvalidCode "__init__" = some (some (.builtin "ValueError.__init__")))
    (sb_InvalidCode : PySem.W.subIn K (.ref C_InvalidCode) (.type "ValueError") = some true)
    (th_InvalidCode : PySem.W.nsIn K cStatics "thirdparty.any" = some none)
    (ce_InvalidCode : K.lookup cc_InvalidCode = some ⟨cl_InvalidCode, cld_InvalidCode, .cell (some (.ref C_InvalidCode)), csl_InvalidCode⟩)
    (co_InvalidCode : K.lookup cda_InvalidCode = some ⟨ccl_InvalidCode, cdd_InvalidCode, .fields fv_InvalidCode, ccs_InvalidCode⟩)
    (cv_InvalidCode : fv_InvalidCode[2]? = some (.str fi_InvalidCode tf_InvalidCode))
    (cf_InvalidCode : ((l.prog.main.file : Str) == fi_InvalidCode) = true)
    (tp_InvalidCode : (l.prog.main.scope.names.lookup ("super" : Str)).isSome = false)
    (zs_InvalidCode : PySem.W.nsIn K mainGlobals "super" = some none)
    (a_InvalidState : PySem.W.nsIn K mainGlobals "InvalidState" = some (some (.ref C_InvalidState)))
    (x_InvalidState : K.lookup C_InvalidState = some (excClassObj nm_InvalidState qu_InvalidState C_InvalidState N_InvalidState bs_InvalidState bm_InvalidState true sn_InvalidState sub_InvalidState ab_InvalidState col_InvalidState dd_InvalidState m0_InvalidState m1_InvalidState m2_InvalidState m3_InvalidState m5_InvalidState "ValueError.__new__"))
    (v_InvalidState : PySem.HandSPX.refsVE bm_InvalidState = true)
    (sa_InvalidState : PySem.W.findIn K (.ref C_InvalidState) "__setattr__" = some (some (.builtin "object.__setattr__")))
    (ga_InvalidState : PySem.W.findIn K (.ref C_InvalidState) "__getattribute__" = some (some (.builtin "BaseException.__getattribute__")))
    (gg_InvalidState : PySem.W.findIn K (.ref C_InvalidState) "__getattr__" = some none)
    (n_InvalidState : PySem.W.findIn K (.ref C_InvalidState) "what" = some none)
    (i_InvalidState : PySem.W.findIn K (.ref C_InvalidState) "__init__" = some (some (.ref f_InvalidState)))
    (t_InvalidState : PySem.W.typeIn K (.ref f_InvalidState) = some (.type "function"))
    (l_InvalidState : K.lookup f_InvalidState = some ⟨oc_InvalidState, od_InvalidState, .func (PySem.W.fnX "__init__" "InvalidState.__init__" (defArgs s_InvalidState___init__) (defBody s_InvalidState___init__) (defScope s_InvalidState___init__) [("__class__", cc_InvalidState)] .none kV_InvalidState dc_InvalidState pm_InvalidState an_InvalidState (.ref cda_InvalidState) ct_InvalidState), sl_InvalidState⟩)
    (c_InvalidState : PySem.W.codeIn K (.ref cda_InvalidState) "InvalidState.__init__" = true)
    (kc_InvalidState : PySem.W.keepIn K (.ref C_InvalidState) = true)
    (e_InvalidState : PySem.W.subIn K (.ref C_InvalidState) (.type "BaseException") = some true)
    (tt_InvalidState : PySem.W.typeIn K (.ref C_InvalidState) = some (.type "type"))
    (hd_InvalidState : PySem.W.hasDictIn K C_InvalidState = true)
    (ic_InvalidState : PySem.W.isClsIn K C_InvalidState = true)
    (ss_InvalidState : PySem.W.subIn K (.ref C_InvalidState) (.ref C_InvalidState) = some true)
    (mr_InvalidState : PySem.W.mroIn K C_InvalidState (.ref C_InvalidState) = some true)
    (su_InvalidState : PySem.W.ks_superIn K C_InvalidState C_InvalidState "__init__" = some (some (.builtin "ValueError.__init__")))
    (sb_InvalidState : PySem.W.subIn K (.ref C_InvalidState) (.type "ValueError") = some true)
    (th_InvalidState : PySem.W.nsIn K cStatics "thirdparty.any" = some none)
    (ce_InvalidState : K.lookup cc_InvalidState = some ⟨cl_InvalidState, cld_InvalidState, .cell (some (.ref C_InvalidState)), csl_InvalidState⟩)
    (co_InvalidState : K.lookup cda_InvalidState = some ⟨ccl_InvalidState, cdd_InvalidState, .fields fv_InvalidState, ccs_InvalidState⟩)
    (cv_InvalidState : fv_InvalidState[2]? = some (.str fi_InvalidState tf_InvalidState))
    (cf_InvalidState : ((l.prog.main.file : Str) == fi_InvalidState) = true)
    (tp_InvalidState : (l.prog.main.scope.names.lookup ("super" : Str)).isSome = false)
    (zs_InvalidState : PySem.W.nsIn K mainGlobals "super" = some none)
    (a_GateError : PySem.W.nsIn K mainGlobals "GateError" = some (some (.ref C_GateError)))
    (be_GateError : PySem.W.subIn K (.ref C_GateError) (.type "BaseException") = some true)
    (bh_GateError : PySem.W.hasDictIn K C_GateError = true)
    (bt_GateError : PySem.W.typeIn K (.ref C_GateError) = some (.type "type"))
    (bg_GateError : PySem.W.specialIn K (.builtin "object.__class__") "__get__" = some (some (.builtin "getset_descriptor.__get__")))
    (bx_GateError : PySem.W.takesIn K (.builtin "object.__class__") = some true)
    (gs_InvalidCode : PySem.W.subIn K (.ref C_InvalidCode) (.ref C_GateError) = some true)
    (gc_InvalidCode : PySem.W.findIn K (.ref C_InvalidCode) "__class__" = some (some (.builtin "object.__class__")))
    (gm_InvalidCode : PySem.W.mroIn K C_InvalidCode (.type "object") = some true)
    (gk_InvalidCode_InvalidState : PySem.W.subIn K (.ref C_InvalidCode) (.ref C_InvalidState) = some false)
    (gs_InvalidState : PySem.W.subIn K (.ref C_InvalidState) (.ref C_GateError) = some true)
    (gc_InvalidState : PySem.W.findIn K (.ref C_InvalidState) "__class__" = some (some (.builtin "object.__class__")))
    (gm_InvalidState : PySem.W.mroIn K C_InvalidState (.type "object") = some true)
    (gk_InvalidState_InvalidCode : PySem.W.subIn K (.ref C_InvalidState) (.ref C_InvalidCode) = some false) :
    ∃ fd : FuncData, (∀ (s : Shared) (v : Value), BindsTo s fd ⟨[v], []⟩ [("script", v)]) ∧ ∀ base : Heap, K.In base → base.Ns mainGlobals mg → FnOk l.prog w K mg base CX0 10 fa fd ["script"] (spLaw K) := by
  have e := hfa.symm.trans (PySem.W.mg_of X G a_law)
  cases e
  have T : Txt K mg := ⟨PySem.W.mg_none_of X G z_abs, PySem.W.mg_none_of X G z_all, PySem.W.mg_none_of X G z_any, PySem.W.mg_none_of X G z_bool, PySem.W.mg_none_of X G z_int, PySem.W.mg_none_of X G z_isinstance, PySem.W.mg_none_of X G z_len, PySem.W.mg_none_of X G z_list, PySem.W.mg_none_of X G z_min, PySem.W.mg_none_of X G z_range, PySem.W.mg_none_of X G z_reversed, PySem.W.mg_none_of X G z_str, PySem.W.mg_none_of X G z_tuple, const_of X G w_MOST_WORDS, const_of X G w_MOST_WORD, const_of X G w_ENDS, const_of X G w_REGISTERS, const_of X G w_DATA, const_of X G w_BYTE⟩
  have F__law_deck := fun_mk (st := s__law_deck) l__law_deck c__law_deck k__law_deck
  have B__law_deck := F__law_deck.binds (ps := ["script", "cells", "each"]) fun _ _ _ _ _ _ us hl => match us, hl with | [_, _, _], _ => rfl
  have m__law_deck := PySem.W.mg_of X G a__law_deck
  have F__law_take := fun_mk (st := s__law_take) l__law_take c__law_take k__law_take
  have B__law_take := F__law_take.binds (ps := ["deck", "many"]) fun _ _ _ _ _ _ us hl => match us, hl with | [_, _], _ => rfl
  have m__law_take := PySem.W.mg_of X G a__law_take
  have F__law_plain := fun_mk (st := s__law_plain) l__law_plain c__law_plain k__law_plain
  have B__law_plain := F__law_plain.binds (ps := ["value"]) fun _ _ _ _ _ _ us hl => match us, hl with | [_], _ => rfl
  have m__law_plain := PySem.W.mg_of X G a__law_plain
  have F_check_words := fun_mk (st := s_check_words) l_check_words c_check_words k_check_words
  have B_check_words := F_check_words.binds (ps := ["words"]) fun _ _ _ _ _ _ us hl => match us, hl with | [_], _ => rfl
  have m_check_words := PySem.W.mg_of X G a_check_words
  have F_fields_of := fun_mk (st := s_fields_of) l_fields_of c_fields_of k_fields_of
  have B_fields_of := F_fields_of.binds (ps := ["word"]) fun _ _ _ _ _ _ us hl => match us, hl with | [_], _ => rfl
  have m_fields_of := PySem.W.mg_of X G a_fields_of
  have F_is_byte := fun_mk (st := s_is_byte) l_is_byte c_is_byte k_is_byte
  have B_is_byte := F_is_byte.binds (ps := ["value"]) fun _ _ _ _ _ _ us hl => match us, hl with | [_], _ => rfl
  have m_is_byte := PySem.W.mg_of X G a_is_byte
  have F_is_count := fun_mk (st := s_is_count) l_is_count c_is_count k_is_count
  have B_is_count := F_is_count.binds (ps := ["value"]) fun _ _ _ _ _ _ us hl => match us, hl with | [_], _ => rfl
  have m_is_count := PySem.W.mg_of X G a_is_count
  have F_check_data := fun_mk (st := s_check_data) l_check_data c_check_data k_check_data
  have B_check_data := F_check_data.binds (ps := ["data"]) fun _ _ _ _ _ _ us hl => match us, hl with | [_], _ => rfl
  have m_check_data := PySem.W.mg_of X G a_check_data
  have F_check_state := fun_mk (st := s_check_state) l_check_state c_check_state k_check_state
  have B_check_state := F_check_state.binds (ps := ["state"]) fun _ _ _ _ _ _ us hl => match us, hl with | [_], _ => rfl
  have m_check_state := PySem.W.mg_of X G a_check_state
  have F_first_state := fun_mk (st := s_first_state) l_first_state c_first_state k_first_state
  have B_first_state := F_first_state.binds (ps := ["data"]) fun _ _ _ _ _ _ us hl => match us, hl with | [_], _ => rfl
  have m_first_state := PySem.W.mg_of X G a_first_state
  have F_replaced := fun_mk (st := s_replaced) l_replaced c_replaced k_replaced
  have B_replaced := F_replaced.binds (ps := ["row", "at", "value"]) fun _ _ _ _ _ _ us hl => match us, hl with | [_, _, _], _ => rfl
  have m_replaced := PySem.W.mg_of X G a_replaced
  have F_result_of := fun_mk (st := s_result_of) l_result_of c_result_of k_result_of
  have B_result_of := F_result_of.binds (ps := ["n", "one", "two"]) fun _ _ _ _ _ _ us hl => match us, hl with | [_, _, _], _ => rfl
  have m_result_of := PySem.W.mg_of X G a_result_of
  have F_set_register := fun_mk (st := s_set_register) l_set_register c_set_register k_set_register
  have B_set_register := F_set_register.binds (ps := ["state", "a", "value", "pc"]) fun _ _ _ _ _ _ us hl => match us, hl with | [_, _, _, _], _ => rfl
  have m_set_register := PySem.W.mg_of X G a_set_register
  have F_set_data := fun_mk (st := s_set_data) l_set_data c_set_data k_set_data
  have B_set_data := F_set_data.binds (ps := ["state", "address", "value", "pc"]) fun _ _ _ _ _ _ us hl => match us, hl with | [_, _, _, _], _ => rfl
  have m_set_data := PySem.W.mg_of X G a_set_data
  have F_go_to := fun_mk (st := s_go_to) l_go_to c_go_to k_go_to
  have B_go_to := F_go_to.binds (ps := ["state", "pc"]) fun _ _ _ _ _ _ us hl => match us, hl with | [_, _], _ => rfl
  have m_go_to := PySem.W.mg_of X G a_go_to
  have F_take_byte := fun_mk (st := s_take_byte) l_take_byte c_take_byte k_take_byte
  have B_take_byte := F_take_byte.binds (ps := ["state", "a", "bytes_in", "pc"]) fun _ _ _ _ _ _ us hl => match us, hl with | [_, _, _, _], _ => rfl
  have m_take_byte := PySem.W.mg_of X G a_take_byte
  have F_moved := fun_mk (st := s_moved) l_moved c_moved k_moved
  have B_moved := F_moved.binds (ps := ["state", "fields", "bytes_in"]) fun _ _ _ _ _ _ us hl => match us, hl with | [_, _, _], _ => rfl
  have m_moved := PySem.W.mg_of X G a_moved
  have F_end_of := fun_mk (st := s_end_of) l_end_of c_end_of k_end_of
  have B_end_of := F_end_of.binds (ps := ["fields"]) fun _ _ _ _ _ _ us hl => match us, hl with | [_], _ => rfl
  have m_end_of := PySem.W.mg_of X G a_end_of
  have F_once := fun_mk (st := s_once) l_once c_once k_once
  have B_once := F_once.binds (ps := ["words", "state", "bytes_in"]) fun _ _ _ _ _ _ us hl => match us, hl with | [_, _, _], _ => rfl
  have m_once := PySem.W.mg_of X G a_once
  have F_after := fun_mk (st := s_after) l_after c_after k_after
  have B_after := F_after.binds (ps := ["words", "state", "bytes_in"]) fun _ _ _ _ _ _ us hl => match us, hl with | [_, _, _], _ => rfl
  have m_after := PySem.W.mg_of X G a_after
  have F_run_words := fun_mk (st := s_run_words) l_run_words c_run_words k_run_words
  have B_run_words := F_run_words.binds (ps := ["words", "state", "bytes_in", "most"]) fun _ _ _ _ _ _ us hl => match us, hl with | [_, _, _, _], _ => rfl
  have m_run_words := PySem.W.mg_of X G a_run_words
  have F_check_row := fun_mk (st := s_check_row) l_check_row c_check_row k_check_row
  have B_check_row := F_check_row.binds (ps := ["row"]) fun _ _ _ _ _ _ us hl => match us, hl with | [_], _ => rfl
  have m_check_row := PySem.W.mg_of X G a_check_row
  have F_run_back := fun_mk (st := s_run_back) l_run_back c_run_back k_run_back
  have B_run_back := F_run_back.binds (ps := ["state", "trace"]) fun _ _ _ _ _ _ us hl => match us, hl with | [_, _], _ => rfl
  have m_run_back := PySem.W.mg_of X G a_run_back
  have F__law_spoil := fun_mk (st := s__law_spoil) l__law_spoil c__law_spoil k__law_spoil
  have B__law_spoil := F__law_spoil.binds (ps := ["value"]) fun _ _ _ _ _ _ us hl => match us, hl with | [_], _ => rfl
  have m__law_spoil := PySem.W.mg_of X G a__law_spoil
  have F__law_machine := fun_mk (st := s__law_machine) l__law_machine c__law_machine k__law_machine
  have B__law_machine := F__law_machine.binds (ps := ["words", "registers", "data", "taken", "bytes_in", "most"]) fun _ _ _ _ _ _ us hl => match us, hl with | [_, _, _, _, _, _], _ => rfl
  have m__law_machine := PySem.W.mg_of X G a__law_machine
  have F__law_state := fun_mk (st := s__law_state) l__law_state c__law_state k__law_state
  have B__law_state := F__law_state.binds (ps := ["deck"]) fun _ _ _ _ _ _ us hl => match us, hl with | [_], _ => rfl
  have m__law_state := PySem.W.mg_of X G a__law_state
  have F__law_drawn_word := fun_mk (st := s__law_drawn_word) l__law_drawn_word c__law_drawn_word k__law_drawn_word
  have B__law_drawn_word := F__law_drawn_word.binds (ps := ["deck"]) fun _ _ _ _ _ _ us hl => match us, hl with | [_], _ => rfl
  have m__law_drawn_word := PySem.W.mg_of X G a__law_drawn_word
  have F__law_why := fun_mk (st := s__law_why) l__law_why c__law_why k__law_why
  have B__law_why := F__law_why.binds (ps := ["ask", "words", "state", "trace"]) fun _ _ _ _ _ _ us hl => match us, hl with | [_, _, _, _], _ => rfl
  have m__law_why := PySem.W.mg_of X G a__law_why
  have F_law := fun_mk (st := s_law) l_law c_law k_law
  have B_law := F_law.binds (ps := ["script"]) fun _ _ _ _ _ _ us hl => match us, hl with | [_], _ => rfl
  have m_law := PySem.W.mg_of X G a_law
  have m_InvalidCode := PySem.W.mg_of X G a_InvalidCode
  have X_InvalidCode : SupTxt l.prog K mg C_InvalidCode cc_InvalidCode cda_InvalidCode := { ox := ⟨⟨nm_InvalidCode, qu_InvalidCode, N_InvalidCode, bs_InvalidCode, bm_InvalidCode, sn_InvalidCode, sub_InvalidCode, ab_InvalidCode, col_InvalidCode, dd_InvalidCode, m0_InvalidCode, m1_InvalidCode, m2_InvalidCode, m3_InvalidCode, m5_InvalidCode, x_InvalidCode, v_InvalidCode⟩, sa_InvalidCode, e_InvalidCode, tt_InvalidCode, kc_InvalidCode⟩, mro := mr_InvalidCode, sup := su_InvalidCode, sub := sb_InvalidCode, third := th_InvalidCode, cell := ⟨_, _, _, ce_InvalidCode⟩, code := ⟨_, _, _, _, _, _, co_InvalidCode, cv_InvalidCode, cf_InvalidCode⟩, top := tp_InvalidCode, mgs := PySem.W.mg_none_of X G zs_InvalidCode }
  have R_InvalidCode : ErrT K mg "InvalidCode" C_InvalidCode "what" := ⟨m_InvalidCode, PySem.W.exm_ref e_InvalidCode hd_InvalidCode tt_InvalidCode ss_InvalidCode, ⟨ga_InvalidCode, gg_InvalidCode, e_InvalidCode, hd_InvalidCode⟩, n_InvalidCode⟩
  have m_InvalidState := PySem.W.mg_of X G a_InvalidState
  have X_InvalidState : SupTxt l.prog K mg C_InvalidState cc_InvalidState cda_InvalidState := { ox := ⟨⟨nm_InvalidState, qu_InvalidState, N_InvalidState, bs_InvalidState, bm_InvalidState, sn_InvalidState, sub_InvalidState, ab_InvalidState, col_InvalidState, dd_InvalidState, m0_InvalidState, m1_InvalidState, m2_InvalidState, m3_InvalidState, m5_InvalidState, x_InvalidState, v_InvalidState⟩, sa_InvalidState, e_InvalidState, tt_InvalidState, kc_InvalidState⟩, mro := mr_InvalidState, sup := su_InvalidState, sub := sb_InvalidState, third := th_InvalidState, cell := ⟨_, _, _, ce_InvalidState⟩, code := ⟨_, _, _, _, _, _, co_InvalidState, cv_InvalidState, cf_InvalidState⟩, top := tp_InvalidState, mgs := PySem.W.mg_none_of X G zs_InvalidState }
  have R_InvalidState : ErrT K mg "InvalidState" C_InvalidState "what" := ⟨m_InvalidState, PySem.W.exm_ref e_InvalidState hd_InvalidState tt_InvalidState ss_InvalidState, ⟨ga_InvalidState, gg_InvalidState, e_InvalidState, hd_InvalidState⟩, n_InvalidState⟩
  have m_GateError := PySem.W.mg_of X G a_GateError
  have E_InvalidCode : ExcC K C_InvalidCode := ⟨ga_InvalidCode, gg_InvalidCode, e_InvalidCode, hd_InvalidCode, gc_InvalidCode, bg_GateError, bx_GateError, gm_InvalidCode⟩
  have M_InvalidCode : PySem.W.exmOne K (.ref C_InvalidCode) (.ref C_GateError) = some true := PySem.W.exm_ref be_GateError bh_GateError bt_GateError gs_InvalidCode
  have E_InvalidState : ExcC K C_InvalidState := ⟨ga_InvalidState, gg_InvalidState, e_InvalidState, hd_InvalidState, gc_InvalidState, bg_GateError, bx_GateError, gm_InvalidState⟩
  have M_InvalidState : PySem.W.exmOne K (.ref C_InvalidState) (.ref C_GateError) = some true := PySem.W.exm_ref be_GateError bh_GateError bt_GateError gs_InvalidState
  refine ⟨PySem.W.fnOf "law" "law" (defArgs s_law) (defBody s_law) (defScope s_law) .none kV_law dc_law pm_law an_law cd_law ct_law, fun s v => .of_eq rfl, fun base _ _ => ?_⟩
  have c_InvalidCode : Erm l.prog w K mg base 1 "InvalidCode" C_InvalidCode "what" := ⟨_, _, _, X_InvalidCode.ox, i_InvalidCode, t_InvalidCode, ok_err X_InvalidCode n_InvalidCode l_InvalidCode rfl c_InvalidCode (nscope_by (by decide +kernel)) rfl rfl rfl rfl rfl (fun _ => ⟨_, rfl⟩), Binds.all (fun us hl => match us, hl with | [_, _], _ => rfl), m_InvalidCode⟩
  have c_InvalidState : Erm l.prog w K mg base 1 "InvalidState" C_InvalidState "what" := ⟨_, _, _, X_InvalidState.ox, i_InvalidState, t_InvalidState, ok_err X_InvalidState n_InvalidState l_InvalidState rfl c_InvalidState (nscope_by (by decide +kernel)) rfl rfl rfl rfl rfl (fun _ => ⟨_, rfl⟩), Binds.all (fun us hl => match us, hl with | [_, _], _ => rfl), m_InvalidState⟩
  have WT : WhyT K mg C_InvalidState C_InvalidCode C_GateError := ⟨m_GateError, m_InvalidState, m_InvalidCode, M_InvalidState, M_InvalidCode, E_InvalidState, E_InvalidCode, kit_self, kit_not hd_InvalidState tt_InvalidState ss_InvalidCode gk_InvalidCode_InvalidState, kit_self, R_InvalidState.xf, R_InvalidCode.xf, n_InvalidState, n_InvalidCode⟩
  have c_take : Cal l.prog w K mg base 1 "_law_take" spTake [] := ⟨_, _, _, _, ok_take F__law_take T, m__law_take, F__law_take.kp, B__law_take, .nil⟩
  have c_byte : Cal l.prog w K mg base 1 "is_byte" (spByte K) [] := ⟨_, _, _, _, ok_byte F_is_byte T, m_is_byte, F_is_byte.kp, B_is_byte, .nil⟩
  have c_count : Cal l.prog w K mg base 1 "is_count" (spCount K) [] := ⟨_, _, _, _, ok_count F_is_count T, m_is_count, F_is_count.kp, B_is_count, .nil⟩
  have c_repl : Cal l.prog w K mg base 1 "replaced" (spRepl K) [] := ⟨_, _, _, _, ok_repl F_replaced T, m_replaced, F_replaced.kp, B_replaced, .nil⟩
  have c_words : CalX l.prog w K mg base 3 "check_words" (spWords K C_InvalidCode) := ⟨_, _, _, ok_words F_check_words T c_InvalidCode, m_check_words, F_check_words.kp, B_check_words⟩
  have c_data : CalX l.prog w K mg base 3 "check_data" (spData K C_InvalidState) := ⟨_, _, _, ok_data F_check_data T c_InvalidState c_byte, m_check_data, F_check_data.kp, B_check_data⟩
  have c_state : CalX l.prog w K mg base 4 "check_state" (spState K C_InvalidState) := ⟨_, _, _, ok_state F_check_state T c_InvalidState c_byte c_count c_data, m_check_state, F_check_state.kp, B_check_state⟩
  have c_once : CalX l.prog w K mg base 5 "once" (spOnce K) := ⟨_, _, _, ok_once F_once T {
    fields := ⟨_, _, _, ok_fields F_fields_of T c_words, m_fields_of, F_fields_of.kp, B_fields_of⟩
    endOf := ⟨_, _, _, _, ok_end F_end_of T, m_end_of, F_end_of.kp, B_end_of, .nil⟩
    moved := ⟨_, _, _, _, ok_moved F_moved T {
      setR := ⟨_, _, _, _, ok_setR F_set_register T c_repl, m_set_register, F_set_register.kp, B_set_register, .nil⟩
      setD := ⟨_, _, _, _, ok_setD F_set_data T c_repl, m_set_data, F_set_data.kp, B_set_data, .nil⟩
      goTo := ⟨_, _, _, _, ok_goTo F_go_to T c_repl, m_go_to, F_go_to.kp, B_go_to, .nil⟩
      takeB := ⟨_, _, _, _, ok_takeB F_take_byte T c_repl, m_take_byte, F_take_byte.kp, B_take_byte, .nil⟩
      res := ⟨_, _, _, _, ok_res F_result_of T, m_result_of, F_result_of.kp, B_result_of, .nil⟩ }, m_moved, F_moved.kp, B_moved, .nil⟩ }, m_once, F_once.kp, B_once⟩
  have CR : CalsR l.prog w K mg base C_InvalidState C_InvalidCode := ⟨c_words, c_state, c_once⟩
  have c_run : CalX l.prog w K mg base 6 "run_words" (spRun K C_InvalidState C_InvalidCode) := ⟨_, _, _, ok_run F_run_words T CR, m_run_words, F_run_words.kp, B_run_words⟩
  have c_back : CalX l.prog w K mg base 5 "run_back" (spBack K C_InvalidState) := ⟨_, _, _, ok_back F_run_back T {
    state := c_state
    row := ⟨_, _, _, ok_row F_check_row T c_InvalidState c_byte c_count, m_check_row, F_check_row.kp, B_check_row⟩
    repl := c_repl }, m_run_back, F_run_back.kp, B_run_back⟩
  exact ok_law F_law T {
    deck := ⟨_, _, _, _, ok_deck F__law_deck T, m__law_deck, F__law_deck.kp, B__law_deck, .nil⟩
    take := c_take
    plain := fun n => ⟨_, _, _, _, ok_plain F__law_plain T m__law_plain B__law_plain n, m__law_plain, F__law_plain.kp, B__law_plain, .nil⟩
    spoil := ⟨_, _, _, _, ok_spoil F__law_spoil T m__law_spoil B__law_spoil 5, m__law_spoil, F__law_spoil.kp, B__law_spoil, .nil⟩
    machine := ⟨_, _, _, _, ok_mach F__law_machine T, m__law_machine, F__law_machine.kp, B__law_machine, .nil⟩
    state := ⟨_, _, _, _, ok_lstate F__law_state T c_take, m__law_state, F__law_state.kp, B__law_state, .nil⟩
    word := ⟨_, _, _, _, ok_word F__law_drawn_word T c_take, m__law_drawn_word, F__law_drawn_word.kp, B__law_drawn_word, .nil⟩
    first := ⟨_, _, _, ok_first F_first_state T c_data, m_first_state, F_first_state.kp, B_first_state⟩
    run := c_run
    after := ⟨_, _, _, ok_after F_after T CR, m_after, F_after.kp, B_after⟩
    back := c_back
    why := ⟨_, _, _, _, ok_why F__law_why T WT c_run c_back, m__law_why, F__law_why.kp, B__law_why, .nil⟩ }
theorem walk {l : PySem.W.OpenLaw} {q : Program} {loose : List Str} {XP : (Str → Option Value) → Heap → Prop} {YP : World → Heap → Prop} {d : DefRec} {K : Params → PySem.W.Frag} (hn : l.most = some 63) (hdf : d.params.defaults = [])
    (hY : ∀ (w : World) (h : Heap), YP w h → (K w.params).In h)
    (F : ∀ (w : World) (mg : Str → Option Value) (fa : Addr) (h : Heap), (K w.params).In h → h.Ns mainGlobals mg → mg d.name = some (.ref fa) →
      ∃ fd : FuncData, (∀ (s : Shared) (u : Value), BindsTo s fd ⟨[u], []⟩ [("script", u)]) ∧ ∀ base : Heap, (K w.params).In base → base.Ns mainGlobals mg → FnOk l.prog w (K w.params) mg base CX0 10 fa fd ["script"] (spLaw (K w.params))) :
    PySem.W.WalkO q loose XP YP l.row.toRowW d [] (fun f vs => PySem.call f vs) :=
  L2.walk_of (n := 63) (k := 10) (x := "script") (CX := fun _ => CX0) (sp := fun w => spLaw (K w.params)) hn (by decide) hdf ⟨rfl, by decide, by decide⟩ hY F (fun _ _ a ns hl _ hS => ⟨a, ns, rfl, hS, hl, fun _ => rfl⟩) fun _ _ _ _ _ z => z
end Q40

open PySem PySem.W PyProof.Rows in
set_option maxRecDepth 100000 in
set_option maxHeartbeats 0 in
theorem PySem.Challenge.cw_gatework_k40_whole_runs_of_the_machine_holds : PySem.Challenge.rw_gatework_k40_whole_runs_of_the_machine.Holds := by
  w_on; o_law; k_head; (case hw => w_witness2)
  k_fill
  refine Q40.walk (l := PySem.Challenge.rw_gatework_k40_whole_runs_of_the_machine) rfl rfl (fun w h Y => PySem.W.kIn_of Y) ?F
  case F =>
    intro w mg fa h KX G hmg
    refine' Q40.all_mk KX G hmg ?a__law_deck ?l__law_deck ?c__law_deck ?k__law_deck ?a__law_take ?l__law_take ?c__law_take ?k__law_take ?a__law_plain ?l__law_plain ?c__law_plain ?k__law_plain ?a_check_words ?l_check_words ?c_check_words ?k_check_words ?a_fields_of ?l_fields_of ?c_fields_of ?k_fields_of ?a_is_byte ?l_is_byte ?c_is_byte ?k_is_byte ?a_is_count ?l_is_count ?c_is_count ?k_is_count ?a_check_data ?l_check_data ?c_check_data ?k_check_data ?a_check_state ?l_check_state ?c_check_state ?k_check_state ?a_first_state ?l_first_state ?c_first_state ?k_first_state ?a_replaced ?l_replaced ?c_replaced ?k_replaced ?a_result_of ?l_result_of ?c_result_of ?k_result_of ?a_set_register ?l_set_register ?c_set_register ?k_set_register ?a_set_data ?l_set_data ?c_set_data ?k_set_data ?a_go_to ?l_go_to ?c_go_to ?k_go_to ?a_take_byte ?l_take_byte ?c_take_byte ?k_take_byte ?a_moved ?l_moved ?c_moved ?k_moved ?a_end_of ?l_end_of ?c_end_of ?k_end_of ?a_once ?l_once ?c_once ?k_once ?a_after ?l_after ?c_after ?k_after ?a_run_words ?l_run_words ?c_run_words ?k_run_words ?a_check_row ?l_check_row ?c_check_row ?k_check_row ?a_run_back ?l_run_back ?c_run_back ?k_run_back ?a__law_spoil ?l__law_spoil ?c__law_spoil ?k__law_spoil ?a__law_machine ?l__law_machine ?c__law_machine ?k__law_machine ?a__law_state ?l__law_state ?c__law_state ?k__law_state ?a__law_drawn_word ?l__law_drawn_word ?c__law_drawn_word ?k__law_drawn_word ?a__law_why ?l__law_why ?c__law_why ?k__law_why ?a_law ?l_law ?c_law ?k_law ?z_abs ?z_all ?z_any ?z_bool ?z_int ?z_isinstance ?z_len ?z_list ?z_min ?z_range ?z_reversed ?z_str ?z_tuple ?w_MOST_WORDS ?w_MOST_WORD ?w_ENDS ?w_REGISTERS ?w_DATA ?w_BYTE ?a_InvalidCode ?x_InvalidCode ?v_InvalidCode ?sa_InvalidCode ?ga_InvalidCode ?gg_InvalidCode ?n_InvalidCode ?i_InvalidCode ?t_InvalidCode ?l_InvalidCode ?c_InvalidCode ?kc_InvalidCode ?e_InvalidCode ?tt_InvalidCode ?hd_InvalidCode ?ic_InvalidCode ?ss_InvalidCode ?mr_InvalidCode ?su_InvalidCode ?sb_InvalidCode ?th_InvalidCode ?ce_InvalidCode ?co_InvalidCode ?cv_InvalidCode ?cf_InvalidCode ?tp_InvalidCode ?zs_InvalidCode ?a_InvalidState ?x_InvalidState ?v_InvalidState ?sa_InvalidState ?ga_InvalidState ?gg_InvalidState ?n_InvalidState ?i_InvalidState ?t_InvalidState ?l_InvalidState ?c_InvalidState ?kc_InvalidState ?e_InvalidState ?tt_InvalidState ?hd_InvalidState ?ic_InvalidState ?ss_InvalidState ?mr_InvalidState ?su_InvalidState ?sb_InvalidState ?th_InvalidState ?ce_InvalidState ?co_InvalidState ?cv_InvalidState ?cf_InvalidState ?tp_InvalidState ?zs_InvalidState ?a_GateError ?be_GateError ?bh_GateError ?bt_GateError ?bg_GateError ?bx_GateError ?gs_InvalidCode ?gc_InvalidCode ?gm_InvalidCode ?gk_InvalidCode_InvalidState ?gs_InvalidState ?gc_InvalidState ?gm_InvalidState ?gk_InvalidState_InvalidCode
    (case a_InvalidCode => k_is)
    (case a_InvalidState => k_is)
    (case a_GateError => k_is)
    (case a__law_deck => k_is)
    (case l__law_deck => k_is)
    (case c__law_deck => k_is)
    (case k__law_deck => k_is)
    (case a__law_take => k_is)
    (case l__law_take => k_is)
    (case c__law_take => k_is)
    (case k__law_take => k_is)
    (case a__law_plain => k_is)
    (case l__law_plain => k_is)
    (case c__law_plain => k_is)
    (case k__law_plain => k_is)
    (case a_check_words => k_is)
    (case l_check_words => k_is)
    (case c_check_words => k_is)
    (case k_check_words => k_is)
    (case a_fields_of => k_is)
    (case l_fields_of => k_is)
    (case c_fields_of => k_is)
    (case k_fields_of => k_is)
    (case a_is_byte => k_is)
    (case l_is_byte => k_is)
    (case c_is_byte => k_is)
    (case k_is_byte => k_is)
    (case a_is_count => k_is)
    (case l_is_count => k_is)
    (case c_is_count => k_is)
    (case k_is_count => k_is)
    (case a_check_data => k_is)
    (case l_check_data => k_is)
    (case c_check_data => k_is)
    (case k_check_data => k_is)
    (case a_check_state => k_is)
    (case l_check_state => k_is)
    (case c_check_state => k_is)
    (case k_check_state => k_is)
    (case a_first_state => k_is)
    (case l_first_state => k_is)
    (case c_first_state => k_is)
    (case k_first_state => k_is)
    (case a_replaced => k_is)
    (case l_replaced => k_is)
    (case c_replaced => k_is)
    (case k_replaced => k_is)
    (case a_result_of => k_is)
    (case l_result_of => k_is)
    (case c_result_of => k_is)
    (case k_result_of => k_is)
    (case a_set_register => k_is)
    (case l_set_register => k_is)
    (case c_set_register => k_is)
    (case k_set_register => k_is)
    (case a_set_data => k_is)
    (case l_set_data => k_is)
    (case c_set_data => k_is)
    (case k_set_data => k_is)
    (case a_go_to => k_is)
    (case l_go_to => k_is)
    (case c_go_to => k_is)
    (case k_go_to => k_is)
    (case a_take_byte => k_is)
    (case l_take_byte => k_is)
    (case c_take_byte => k_is)
    (case k_take_byte => k_is)
    (case a_moved => k_is)
    (case l_moved => k_is)
    (case c_moved => k_is)
    (case k_moved => k_is)
    (case a_end_of => k_is)
    (case l_end_of => k_is)
    (case c_end_of => k_is)
    (case k_end_of => k_is)
    (case a_once => k_is)
    (case l_once => k_is)
    (case c_once => k_is)
    (case k_once => k_is)
    (case a_after => k_is)
    (case l_after => k_is)
    (case c_after => k_is)
    (case k_after => k_is)
    (case a_run_words => k_is)
    (case l_run_words => k_is)
    (case c_run_words => k_is)
    (case k_run_words => k_is)
    (case a_check_row => k_is)
    (case l_check_row => k_is)
    (case c_check_row => k_is)
    (case k_check_row => k_is)
    (case a_run_back => k_is)
    (case l_run_back => k_is)
    (case c_run_back => k_is)
    (case k_run_back => k_is)
    (case a__law_spoil => k_is)
    (case l__law_spoil => k_is)
    (case c__law_spoil => k_is)
    (case k__law_spoil => k_is)
    (case a__law_machine => k_is)
    (case l__law_machine => k_is)
    (case c__law_machine => k_is)
    (case k__law_machine => k_is)
    (case a__law_state => k_is)
    (case l__law_state => k_is)
    (case c__law_state => k_is)
    (case k__law_state => k_is)
    (case a__law_drawn_word => k_is)
    (case l__law_drawn_word => k_is)
    (case c__law_drawn_word => k_is)
    (case k__law_drawn_word => k_is)
    (case a__law_why => k_is)
    (case l__law_why => k_is)
    (case c__law_why => k_is)
    (case k__law_why => k_is)
    (case a_law => k_is)
    (case l_law => k_is)
    (case c_law => k_is)
    (case k_law => k_is)
    (case z_abs => k_is)
    (case z_all => k_is)
    (case z_any => k_is)
    (case z_bool => k_is)
    (case z_int => k_is)
    (case z_isinstance => k_is)
    (case z_len => k_is)
    (case z_list => k_is)
    (case z_min => k_is)
    (case z_range => k_is)
    (case z_reversed => k_is)
    (case z_str => k_is)
    (case z_tuple => k_is)
    (case w_MOST_WORDS => kernel_rfl)
    (case w_MOST_WORD => kernel_rfl)
    (case w_ENDS => kernel_rfl)
    (case w_REGISTERS => kernel_rfl)
    (case w_DATA => kernel_rfl)
    (case w_BYTE => kernel_rfl)
    (case x_InvalidCode => k_is)
    (case v_InvalidCode => rfl)
    (case sa_InvalidCode => k_is)
    (case ga_InvalidCode => k_is)
    (case gg_InvalidCode => k_is)
    (case n_InvalidCode => k_is)
    (case i_InvalidCode => k_is)
    (case t_InvalidCode => k_is)
    (case l_InvalidCode => k_is)
    (case c_InvalidCode => k_is)
    (case kc_InvalidCode => k_is)
    (case e_InvalidCode => k_is)
    (case tt_InvalidCode => k_is)
    (case hd_InvalidCode => k_is)
    (case ic_InvalidCode => k_is)
    (case ss_InvalidCode => k_is)
    (case mr_InvalidCode => k_is)
    (case su_InvalidCode => ks_is)
    (case sb_InvalidCode => k_is)
    (case th_InvalidCode => k_is)
    (case ce_InvalidCode => k_is)
    (case co_InvalidCode => k_is)
    (case cv_InvalidCode => rfl)
    (case cf_InvalidCode => decide +kernel)
    (case tp_InvalidCode => decide +kernel)
    (case zs_InvalidCode => k_is)
    (case x_InvalidState => k_is)
    (case v_InvalidState => rfl)
    (case sa_InvalidState => k_is)
    (case ga_InvalidState => k_is)
    (case gg_InvalidState => k_is)
    (case n_InvalidState => k_is)
    (case i_InvalidState => k_is)
    (case t_InvalidState => k_is)
    (case l_InvalidState => k_is)
    (case c_InvalidState => k_is)
    (case kc_InvalidState => k_is)
    (case e_InvalidState => k_is)
    (case tt_InvalidState => k_is)
    (case hd_InvalidState => k_is)
    (case ic_InvalidState => k_is)
    (case ss_InvalidState => k_is)
    (case mr_InvalidState => k_is)
    (case su_InvalidState => ks_is)
    (case sb_InvalidState => k_is)
    (case th_InvalidState => k_is)
    (case ce_InvalidState => k_is)
    (case co_InvalidState => k_is)
    (case cv_InvalidState => rfl)
    (case cf_InvalidState => decide +kernel)
    (case tp_InvalidState => decide +kernel)
    (case zs_InvalidState => k_is)
    (case be_GateError => k_is)
    (case bh_GateError => k_is)
    (case bt_GateError => k_is)
    (case bg_GateError => k_is)
    (case bx_GateError => k_is)
    (case gs_InvalidCode => k_is)
    (case gc_InvalidCode => k_is)
    (case gm_InvalidCode => k_is)
    (case gk_InvalidCode_InvalidState => k_is)
    (case gs_InvalidState => k_is)
    (case gc_InvalidState => k_is)
    (case gm_InvalidState => k_is)
    (case gk_InvalidState_InvalidCode => k_is)

